import PyProof.Rows.All
import Wide.All
import OpenK.AllK
import Wide.FinOn
import HandS.ForMost
import HandS.TupSets
import HandS.DictTup
import HandS.Deep
import HandS.Conv
import HandS.TupLen
import HandS.TupMul
import HandS.Style
import HandS.Wide
import HandS.IsInst
import HandS.DictComp
import KE.DataFind
import KE.KSortTupG
import HandS.Codes
import PySem.Challenge.RW_askwithin_k12_whole_books_apart
set_option Elab.async false
set_option linter.all false
set_option maxRecDepth 100000
set_option maxHeartbeats 8000000

namespace Aw
open PySem PySem.Spec PyProof.Rows L2

/-! ### R1: rows of ints, in order (by the kit's sort of tuples) -/
/-- a row as the kit's sort reads it -/
abbrev keyR (k : List Int) : List (Int ⊕ List Nat) := k.map Sum.inl
theorem keyR_inj {a b : List Int} (h : keyR a = keyR b) : a = b := by
  have z := congrArg (List.map fun x : Int ⊕ List Nat => match x with | .inl n => n | .inr _ => 0) h
  rw [List.map_map, List.map_map] at z
  have e : ∀ k : List Int, k.map ((fun x : Int ⊕ List Nat => match x with | .inl n => n | .inr _ => 0) ∘ Sum.inl) = k := fun k => by
    conv => rhs; rw [← List.map_id k]
    rfl
  rwa [e, e] at z
/-- a row stands no later than the other -/
def rowLe (a b : List Int) : Prop := (listOrd itemOrd).kle (keyR a) (keyR b)
theorem rowLe_eq {a b : List Int} (h1 : rowLe a b) (h2 : rowLe b a) : a = b := keyR_inj ((listOrd itemOrd).total _ _ h2 h1)
abbrev plainSh : Nat → Bool := fun _ => false
theorem items_key : ∀ {vs : List Value} {ns : List Int} (i : Nat), IntsAre vs ns → tupItems plainSh i vs = some (keyR ns)
  | _, _, _, .nil => rfl
  | _, _, i, .cons n u (vs := vs) (ns := ns) h => by
    show (if plainSh i = true then none else (tupItems plainSh (i + 1) vs).map (Sum.inl n :: ·)) = _
    rw [if_neg Bool.false_ne_true, items_key (i + 1) h] <;> rfl
theorem row_key {h : Heap} {v : Value} {ns : List Int} (t : TS.TupInts h v ns) : G.tupKeyC h plainSh v = some (keyR ns) := by
  obtain ⟨a, xs, rfl, ⟨o, ho, hc, n, hd⟩, it⟩ := t
  have e : G.isTupObj h (.ref a) = true := by simp [G.isTupObj, ho, hc]
  unfold G.tupKeyC
  rw [if_pos e]
  simp only [tupKey, ho, hd]
  exact items_key 0 it
/-- the rows' tuples, by the rows that they stand for -/
def RowsIn (h : Heap) (L : List (Addr × List Int)) : Prop := ∀ p ∈ L, TS.TupInts h (.ref p.1) p.2 ∧ 1 ≤ p.2.length
theorem RowsIn.keeps {h h' : Heap} {L : List (Addr × List Int)} (x : RowsIn h L) (k : ∀ b o, h.get? b = some o → h'.get? b = some o) : RowsIn h' L := fun p hp => ⟨(x p hp).1.keeps fun b o e _ => k b o e, (x p hp).2⟩
abbrev vrefs (L : List (Addr × List Int)) : List Value := L.map fun p => Value.ref p.1
theorem rows_tups {h : Heap} : ∀ {L : List (Addr × List Int)}, RowsIn h L → ∃ fs, TupsOf h plainSh (vrefs L) fs
  | [], _ => ⟨[], .nil⟩
  | p :: L, x => by
    obtain ⟨fs, r⟩ := rows_tups (L := L) fun q hq => x q (List.mem_cons_of_mem _ hq)
    obtain ⟨⟨a, xs, ea, ⟨o, ho, hc, n, hd⟩, it⟩, l1⟩ := x p List.mem_cons_self
    have hl := it.length
    have h0 : 0 < xs.size := by rw [Array.length_toList] at hl; omega
    have g : xs[0]? = some xs[0] := Array.getElem?_eq_getElem h0
    obtain ⟨m, u, em⟩ := it.all xs[0] (by simp)
    exact ⟨xs[0] :: fs, .cons ⟨a, o, xs, n, ea, ho, hc, hd, g, fun _ => ⟨m, u, em⟩, fun z => nomatch z⟩ r⟩
/-- a new order of some values stands for a new order of what they stand for -/
theorem perm_lift {α β : Type} {f : α → β} {ys xs : List β} (h : ys.Perm xs) : ∀ {L : List α}, xs = L.map f → ∃ L' : List α, L'.Perm L ∧ ys = L'.map f := by
  induction h with
  | nil =>
    intro L e
    exact ⟨L, List.Perm.refl _, e⟩
  | @cons x l₁ l₂ _ ih =>
    intro L e
    cases L with
    | nil => simp at e
    | cons a r =>
      rw [List.map_cons] at e
      injection e with e1 e2
      obtain ⟨L', p, q⟩ := ih e2
      exact ⟨a :: L', p.cons a, by rw [List.map_cons, e1, q]⟩
  | swap x y l =>
    intro L e
    match L, e with
    | [], e => simp at e
    | [_], e => simp at e
    | a :: b :: r, e =>
      rw [List.map_cons, List.map_cons] at e
      injection e with e1 e2
      injection e2 with e2 e3
      exact ⟨b :: a :: r, List.Perm.swap a b r, by rw [List.map_cons, List.map_cons, e1, e2, e3]⟩
  | trans _ _ ih1 ih2 =>
    intro L e
    obtain ⟨L1, p1, q1⟩ := ih2 e
    obtain ⟨L2, p2, q2⟩ := ih1 q1
    exact ⟨L2, p2.trans p1, q2⟩
/-- what the sort hands back, as rows -/
theorem rows_out {L : List (Addr × List Int)} {h : Heap} {xs : Array Keyed} (x : RowsIn h L) (hp : xs.Perm (pairsOf (vrefs L))) (hs : SortedToK (G.tupKindC h plainSh) xs (pairsOf (vrefs L)).size) :
    ∃ L' : List (Addr × List Int), L'.Perm L ∧ (xs.map (·.2)).toList = vrefs L' ∧ L'.Pairwise (fun p q => rowLe p.2 q.2) := by
  have hl : xs.toList.Perm ((vrefs L).zip (vrefs L)) := by rw [← pairsOf_toList]; exact Array.perm_iff_toList_perm.mp hp
  have h2 := hl.map Prod.snd
  rw [List.map_snd_zip (Nat.le_refl _)] at h2
  obtain ⟨L', p, e⟩ := perm_lift h2 rfl
  refine ⟨L', p, by rw [Array.toList_map]; exact e, List.pairwise_iff_getElem.mpr fun i j hi hj hij => ?_⟩
  have hsz : xs.size = L'.length := by
    have z := congrArg List.length e
    rw [List.length_map, List.length_map, Array.length_toList] at z
    exact z
  have at_ : ∀ k (hk : k < L'.length), KK (G.tupKindC h plainSh) xs k = keyR L'[k].2 := fun k hk => by
    have hk' : k < xs.size := by omega
    have m := mem_zip_self (hl.mem_iff.mp (show xs[k] ∈ xs.toList by simp))
    have e2 : xs[k].2 = Value.ref L'[k].1 := by
      have z := congrArg (fun l : List Value => l[k]?) e
      simp only [List.getElem?_map, Array.getElem?_toList, Array.getElem?_eq_getElem hk', List.getElem?_eq_getElem hk, Option.map_some] at z
      exact Option.some.inj z
    have t := (x L'[k] (p.mem_iff.mp (List.getElem_mem hk))).1
    unfold KK
    rw [Array.getElem?_eq_getElem hk']
    show ((G.tupKeyC h plainSh xs[k].1).getD []) = _
    rw [m.1, e2, row_key t] <;> rfl
  have z := hs i j (Nat.le_of_lt hij) (by rw [← hp.size_eq, hsz]; exact hj)
  rw [at_ i hi, at_ j hj] at z
  exact z
/-- sorted(..) of rows behind its collecting -/
theorem sorted_rest {prog : Program} {w : World} {A : Around} {E : Value → Shared → Prop} {s : Shared} {L : List (Addr × List Int)} {R : PySem.Fin → Shared → Prop} (hz : L.length ≤ sizeLine) (x : RowsIn s.heap L)
    (h : ∀ (L' : List (Addr × List Int)) (ep : Nat) (h' : Heap), L'.Perm L → L'.Pairwise (fun p q => rowLe p.2 q.2) → (∀ b o, s.heap.get? b = some o → h'.get? b = some o) →
      h'.get? s.heap.objs.size = some (seqObj "list" (vrefs L').toArray ep) → R (.done (.ret (.ref s.heap.objs.size))) { s with heap := h' }) :
    wpAny (model prog w) A (newList (vrefs L) >>= fun l => holding [l] (call (.builtin "list.sort") [l] []) >>= fun _ => ret l) R E s := by
  refine wpAny_bind (wpAny_newList ?_ (by rw [List.length_map]; exact hz))
  have at0 : (s.heap.push (seqObj "list" (vrefs L).toArray 0)).get? s.heap.objs.size = some (seqObj "list" (vrefs L).toArray 0) := Heap.get?_push_size _ rfl
  have x0 : RowsIn (s.heap.push (seqObj "list" (vrefs L).toArray 0)) L := x.keeps fun _ _ e => Heap.get?_push_of_some _ e
  obtain ⟨fs, tf⟩ := rows_tups x0
  show wpAny _ _ _ _ _ { s with heap := s.heap.push (seqObj "list" (vrefs L).toArray 0) }
  refine wpAny_bind (wpAny_holding (wpAny_call_entry slot_list_sort ⟨_, at0, rfl⟩ entry_list_sort (G.list_sort_tups (s := { s with heap := s.heap.push (seqObj "list" (vrefs L).toArray 0) }) at0 tf (fun v hv => ?_) (by rw [List.length_map]; exact hz) fun st a1 a2 _ => ⟨_, rfl, ?_⟩) (args_list_sort _)))
  · obtain ⟨p, hp, rfl⟩ := List.mem_map.mp hv
    exact ⟨_, row_key (x0 p hp).1⟩
  · obtain ⟨L', p, e, pw⟩ := rows_out x0 a1 a2
    obtain ⟨ep, he⟩ := PyProof.Rows.sortedHeap_at (vs := vrefs L) (out := (arrOf st).map (·.2)) at0
    have eo : (arrOf st).map (·.2) = (vrefs L').toArray := by rw [← e, Array.toArray_toList]
    refine wpAny_pure (h L' ep _ p pw (fun b u q => ?_) (by rw [← eo]; exact he))
    have lt : b < s.heap.objs.size := Heap.lt_size q
    have := Heap.get?_push_of_some (seqObj "list" (vrefs L).toArray 0) q
    exact (PyProof.Rows.sortedHeap_old (Nat.ne_of_lt lt) (Heap.lt_size this)).trans this
section
variable {X : Cx}
/-- sorted(xs), a list of rows -/
def rSortR (K : PySem.W.Frag) : List V → Hp → VK → Prop := fun vs H Q => ∃ (a : Addr) (L : List (Addr × List Int)), vs = [V.ref a] ∧ SqL K H a (L.map fun p => V.ref p.1) ∧ (∀ p ∈ L, SqT K H p.1 (p.2.map V.int) ∧ 1 ≤ p.2.length) ∧
  ∀ (L' : List (Addr × List Int)) (p : Addr), L'.Perm L → L'.Pairwise (fun q r => rowLe q.2 r.2) → H p = none → Q (.ref p) (upd H p (.lst (L'.map fun q => V.ref q.1)))
theorem cr_sortR : CallR X (.builtin "sorted") (rSortR X.K) := by
  intro pins s σ H vs us Q I r ⟨a, L, ev, hl, hk, q⟩
  subst ev
  rw [Vals.ref1 r]
  obtain ⟨its, rv, pl, hz⟩ := I.list hl
  have ei := refs_of_vals rv
  subst ei
  rw [List.length_map] at hz
  have x : RowsIn s.heap L := fun p hp => ⟨tupI_raw I (hk p hp).1, (hk p hp).2⟩
  refine Calls.call_function_entry kind_sorted plain_sorted entry_sorted (args_sorted1 _) ?_
  unfold Builtin.«sorted»
  refine wpAny_bind (m := checkCount "sorted" 1 1 _) (wpAny_pure (wpAny_bind (collect_list pl.isList ?_ (by rw [List.length_map]; exact hz))))
  generalize hh : (s.heap.push (seqObj "list" #[] 0)).update s.heap.objs.size (Obj.mapSeq (· ++ (vrefs L).toArray)) = h1
  have k1 : ∀ b o, s.heap.get? b = some o → h1.get? b = some o := fun b o e => by
    rw [← hh, Heap.get?_update_ne _ _ _ _ (Nat.ne_of_lt (Heap.lt_size e))]
    exact Heap.get?_push_of_some _ e
  have I1 : Inv X pins σ H { s with heap := h1 } := I.kept (t' := s.toks) k1
  refine sorted_rest (s := { s with heap := h1 }) hz (x.keeps k1) fun L' ep h' p pw k2 e2 => ?_
  exact ⟨_, rfl, .ref h1.objs.size, upd H h1.objs.size (.lst (L'.map fun q => V.ref q.1)), I1.laid (t' := s.toks) k2 (Nat.le_refl _) ⟨by rw [List.length_map, p.length_eq]; exact hz, vrefs L', ep, vals_of_refs L', e2⟩, rfl, q L' _ p pw (I1.hok.fresh (Nat.le_refl _))⟩

/-! ### R2: sorted(d), d with rows as keys -/
theorem keyRow (k : List Int) : (k.map Sum.inl : List Key).map kV = k.map V.int := by
  rw [List.map_map] <;> rfl
/-- the rows of a dict -/
abbrev rkv (ks : List (List Int)) : List (List Key × V) := ks.map fun k => (k.map Sum.inl, V.bl true)
def rSortD : List V → Hp → VK → Prop := fun vs H Q => ∃ (a : Addr) (ks : List (List Int)), vs = [V.ref a] ∧ Rd H a (.dT (rkv ks)) ∧ (∀ k ∈ ks, 1 ≤ k.length) ∧
  ∀ (L : List (Addr × List Int)) (p : Addr), (L.map (·.2)).Perm ks → L.Pairwise (fun q r => rowLe q.2 r.2) → (∀ q ∈ L, H q.1 = some (.tup (q.2.map V.int))) → H p = none → Q (.ref p) (upd H p (.lst (L.map fun q => V.ref q.1)))
theorem rows_of_kt {H : Hp} : ∀ {ks : List (List Int)} {xs : List (List Key × Addr × Value)}, KT H (rkv ks) xs →
    ∃ L : List (Addr × List Int), L.map (·.2) = ks ∧ xs.map (fun x => Value.ref x.2.1) = L.map (fun p => Value.ref p.1) ∧ ∀ q ∈ L, H q.1 = some (.tup (q.2.map V.int))
  | [], _, .nil => ⟨[], rfl, rfl, fun _ h => by cases h⟩
  | k :: ks, _, .cons (b := x) h t => by
    obtain ⟨L, e1, e2, e3⟩ := rows_of_kt t
    refine ⟨(x.2.1, k) :: L, by rw [List.map_cons, e1], by rw [List.map_cons, List.map_cons, e2], fun q hq => ?_⟩
    rcases List.mem_cons.mp hq with e | hq
    · subst e
      have := h.2.1
      rw [keyRow] at this
      exact this
    · exact e3 q hq
theorem cr_sortD (hc : X.calm = true) : CallR X (.builtin "sorted") rSortD := by
  intro pins s σ H vs us Q I r ⟨a, ks, ev, ha, one, q⟩
  subst ev
  rw [Vals.ref1 r]
  obtain ⟨z, hs, xs, pr, o, es, ep, ho, hx, hdt, he, _⟩ := (show ObjOk X.prog X.w H s.heap a (.dT (rkv ks)) from ha.ok I.hok)
  obtain ⟨L, eL1, eL2, hL⟩ := rows_of_kt pr
  have hes : es.size = L.length := by
    rw [size_of_entries he, ← List.length_map (fun x : List Key × Addr × Value => Value.ref x.2.1), eL2, List.length_map]
  have hz : L.length ≤ sizeLine := by
    rw [List.length_map, ← eL1, List.length_map] at z
    exact z
  refine Calls.call_function_entry kind_sorted plain_sorted entry_sorted (args_sorted1 _) ?_
  unfold Builtin.«sorted»
  refine wpAny_bind (m := checkCount "sorted" 1 1 _) (wpAny_pure (wpAny_bind (PySem.W.kdu_collect (A := X.A.in1) (kdl_raw hs hx hdt) (I.ok.hd hc) ho (by rw [hes]; exact hz) fun h1 tk acc k1 it => ?_)))
  have ea : acc.toList = vrefs L := by
    rw [show vrefs L = _ from eL2.symm]
    refine List.ext_getElem? fun j => ?_
    have qe := entry_at he j
    by_cases hj : j < acc.size
    · obtain ⟨en, g, hv⟩ := it.2 j acc[j] (Array.getElem?_eq_getElem hj)
      rw [Array.getElem?_toList, Array.getElem?_eq_getElem hj, hv, List.getElem?_map]
      rw [g] at qe
      cases hb : xs[j]? with
      | none =>
        rw [hb] at qe
        cases qe
      | some b =>
        rw [hb] at qe
        rw [Option.some.inj qe] <;> rfl
    · have l1 := it.1
      rw [Array.getElem?_toList, Array.getElem?_eq_none (by omega), List.getElem?_map, List.getElem?_eq_none (by rw [← size_of_entries he]; omega)] <;> rfl
  have I1 : Inv X pins σ H { s with heap := h1, toks := tk } := I.kept k1
  have x : RowsIn s.heap L := fun p hp => ⟨tupI_raw I (.inl (.inl (hL p hp))), one p.2 (by rw [← eL1]; exact List.mem_map.mpr ⟨p, hp, rfl⟩)⟩
  rw [ea]
  refine sorted_rest (s := { s with heap := h1, toks := tk }) hz (x.keeps k1) fun L' ep h' p pw k2 e2 => ?_
  exact ⟨_, rfl, .ref h1.objs.size, upd H h1.objs.size (.lst (L'.map fun q => V.ref q.1)), I1.laid (t' := tk) k2 (Nat.le_refl _) ⟨by rw [List.length_map, p.length_eq]; exact hz, vrefs L', ep, vals_of_refs L', e2⟩, rfl,
    q L' _ (by rw [← eL1]; exact p.map _) pw (fun q hq => hL q (p.mem_iff.mp hq)) (I1.hok.fresh (Nat.le_refl _))⟩

/-! ### R3: xs.remove(row) -/
def rRemR (K : PySem.W.Frag) : V → List V → Hp → VK → Prop := fun x xs H Q => ∃ (a : Addr) (y : V) (d : PyData) (vs : List V) (ds : List PyData) (j : Nat), x = V.ref a ∧ xs = [y] ∧ H a = some (.lst vs) ∧ DpAll K H vs ds ∧ Dp K H y d ∧
  PyData.plainAll ds = true ∧ d.plain = true ∧ d.depth ≤ 64 ∧ SeqAt.dataPlace ds d = some j ∧ Q .non (upd H a (.lst (vs.eraseIdx j)))
theorem mt_removeR (hu : X.A.units + 65 < cLine) : MtR X "list.remove" (rRemR X.K) := by
  intro pins s σ H x xs v us Q I rx rxs ⟨a, y, d, vs, ds, j, ex, ey, hH, hda, hy, p1, p2, dp, pl, q⟩
  subst ex ey
  cases rx
  obtain ⟨u, eu, ry⟩ := vals1 rxs
  subst eu
  obtain ⟨bs, rb⟩ := Dp.reads I d y u hy ry
  obtain ⟨z0, its, n, rv, hl, e0⟩ := I.lstM hH
  obtain ⟨as, ra⟩ := Dp.readsAll I ds _ its hda rv
  refine SeqAt.remove_list_data (vs := its.toArray) ⟨_, e0, rfl, n, rfl⟩ (by simpa using ra) rb p1 p2 (by have := Nat.min_le_right (PyData.depthAll ds) d.depth; omega) pl (by rw [List.size_toArray, ← hl]; exact z0) ?_
  refine ⟨.non, _, I.lset (its' := its.eraseIdx j) hH e0 (by rw [List.eraseIdxIfInBounds_toArray]) (rv.eraseIdx j) ?_, rfl, q⟩
  have := List.length_eraseIdx_le vs j
  omega

/-! ### R4: d.pop(row) -/
section
variable {K : Type} [DecidableEq K] {prog : Program} {w : World} {knd : HeapKind prog w K}
theorem meetsPop1 {d b : Addr} {k : K} :
    MeetsIn prog w (Builtin.«dict.pop» ⟨[.ref d, .ref b], []⟩) (fun A R s => ∃ xs p, knd.room A.in1 ∧ knd.is s.heap k b ∧ s.heap.DictOfH knd d xs ∧ xs.length ≤ sizeLine ∧ atKey xs k = some p ∧
      ∀ h' tk, h'.DictOfH knd d (DT.dropH xs k) → Heap.SameBut d s.heap h' → R (.ok (.ret p.2)) { s with heap := h', toks := tk }) :=
  .of_wp fun A R s ⟨xs, p, hu, hkey, hm, hsz, hp, hsome⟩ => by
    obtain ⟨o, es, ep, ho, hc, hdat, he, his, hn⟩ := id hm
    have hes : es.size = xs.length := size_of_entries he
    have hpart : (keyPart (Value.ref b)).isSome = false := rfl
    have hne : es.isEmpty = false := by
      cases q : es.isEmpty with
      | false => rfl
      | true =>
        have z : es.size = 0 := by simpa using q
        have h0 : xs = [] := List.length_eq_zero_iff.mp (by omega)
        rw [h0] at hp
        exact nomatch hp
    unfold Builtin.«dict.pop»
    refine wpAny_bind ?_
    unfold Builtin.Dict.keyAndDefault
    refine wpAny_bind (wpAny_notOrdered_dict hm.typeIs ?_)
    show wpAny _ _ (pure (d, Value.ref b, none)) _ _ s
    refine wpAny_pure ?_
    simp only [hpart, Bool.false_eq_true, if_false]
    refine wpAny_bind (wpAny_dictEntries ho hdat (wpAny_bind (wpAny_pure ?_)))
    simp only [hne, Bool.false_eq_true, if_false]
    refine wpAny_bind (DT.takeH hu hkey hm hsz (fun hno => ?_) fun p' e hp' hev h' hm' hs' => ?_)
    · rw [hp] at hno
      exact nomatch hno
    · rw [hp] at hp'
      cases hp'
      simp only [Option.isNone_some, Bool.false_eq_true, if_false]
      exact wpAny_bind (wpAny_letGo (wpAny_pure ⟨e.val, rfl, by rw [hev]; exact hsome h' _ hm' hs'⟩))
end
def rPop1 : V → List V → Hp → VK → Prop := fun x xs H Q => ∃ (a : Addr) (kvs : List (List Key × V)) (k : List Key) (b : Addr) (v : V), x = .ref a ∧ xs = [.ref b] ∧ H a = some (.dT kvs) ∧ H b = some (.tup (k.map kV)) ∧
  valV kvs k = some v ∧ Q v (upd H a (.dT (dropK kvs k)))
theorem mt_pop1 (hu : X.A.units + 1 < cLine) : MtR X "dict.pop" rPop1 := by
  intro pins s σ H x xs v us Q I rx rxs h
  obtain ⟨a, kvs, k, b, v0, rfl, rfl, ha, hb, ev, q⟩ := h
  cases rx
  obtain ⟨u1, rfl, r1⟩ := vals1 rxs
  cases r1
  obtain ⟨z, hd, xs', rel, dd⟩ := dt_of I.hok ha
  have hz : xs'.length ≤ sizeLine := by rw [← Paired.length rel]; exact z
  have r := rel.val k
  rw [ev] at r
  obtain ⟨w', hw, rw'⟩ := RelO.some_of r
  obtain ⟨p, hp, hp2⟩ := Option.map_eq_some_iff.mp hw
  refine call_meetsIn PySem.F.slot_dict_pop dd.typeIs PySem.F.entry_dict_pop (PySem.F.args_dict_pop_2 _ _) (meetsPop1 (knd := tupleKind (mixKind X.prog X.w)) (k := k))
    ⟨xs', p, tupleKind_room_in1 hu, key_of I.hok hb, dd, hz, hp, fun h' tk dd' hs => ?_⟩
  obtain ⟨o, es, ep, hq, h2, h3, h4, _, h5⟩ := dd'
  have I2 : Inv X pins σ (upd H a (.dT (dropK kvs k))) { s with heap := h', toks := tk } :=
    d_write I (by rw [ha]; exact True.intro) hs ⟨o, hq⟩ ⟨Nat.le_trans (dropK_le kvs k) z, hd, _, (DX.KT_drop k rel).keeps (fun c ys ec => (by rw [upd_ne (ne_of ec ha (fun z => nomatch z))]; exact ec)), o, es, ep, hq, h2, h3, h4, h5⟩
  show EP X pins σ Q p.2 _
  exact ⟨v0, _, I2, by rw [hp2]; exact rw', q⟩

/-! ### R5: two equal dicts, != -/
theorem hits_data {P : Program} {w : World} {A : Around} {s : Shared} {ls : List (Key × V)} {vb : List (Key × Value)} (rb : KV ls vb) {ks : List (Key × V)} {va : List (Key × Value)} (ra : KV ks va) :
    (∀ p ∈ ks, ∃ u, valV ls p.1 = some u ∧ ∀ v y, RelV p.2 v → RelV u y → SeqAt.EqAt A s v y true) → PySem.W.KeqHits A s vb va true := by
  unfold KV at ra
  induction ra with
  | nil => intro _; exact .nil
  | @cons p q ps qs h t k =>
    intro hp
    obtain ⟨h1, h2⟩ := h
    obtain ⟨u, e, f⟩ := hp p List.mem_cons_self
    have rr : RelO (some u) (valueAt vb p.1) := by rw [← e]; exact rb.val p.1
    obtain ⟨y, hy, ry⟩ := rr.some_of
    obtain ⟨key, v⟩ := q
    have h1' : p.1 = key := h1
    rw [h1'] at hy
    show PySem.W.KeqHits A s vb ((key, v) :: qs) (true && true)
    exact .hit hy (f _ _ h2 ry) (k fun p' hm => hp p' (List.mem_cons_of_mem _ hm))
def rNeDD (K : PySem.W.Frag) : R2 := fun x y H Q => ∃ a b ks ls, x = .ref a ∧ y = .ref b ∧ H a = some (.dK ks) ∧ H b = some (.dK ls) ∧ ks.length = ls.length ∧
  (∀ p ∈ ks, ∃ u d, valV ls p.1 = some u ∧ Dp K H p.2 d ∧ Dp K H u d ∧ SeqAt.shaped d = true ∧ PyData.eqv d d = true) ∧ Q (.bl false) H
theorem op_neDD  (hu : X.A.units + 65 < cLine) : OpR X (compareOp .NotEq) (rNeDD X.K) := by
  intro pins s σ H x y v u Q I rx ry h
  obtain ⟨a, b, ks, ls, rfl, rfl, ea, eb, hlen, hp, q⟩ := h
  obtain rfl : v = Value.ref a := rx
  obtain rfl : u = Value.ref b := ry
  obtain ⟨_, ya, va, ra, da⟩ := (show ObjOk X.prog X.w H s.heap a (.dK ks) from I.hok a _ ea)
  obtain ⟨_, yb, vb, rb, db⟩ := (show ObjOk X.prog X.w H s.heap b (.dK ls) from I.hok b _ eb)
  have hl : va.length = vb.length := by rw [← ra.length, ← rb.length]; exact hlen
  refine PySem.W.keq_ne (knd := mixKind X.prog X.w) (r := true) ya yb da db (by omega) (fun _ => hits_data (P := X.prog) (w := X.w) rb ra fun p hm => ?_) (fin_bl I q (by simp [hl]))
  obtain ⟨u, d, e1, e2, e3, e4, e5⟩ := hp p hm
  refine ⟨u, e1, fun v y rv ry => ?_⟩
  obtain ⟨as, r1⟩ := Dp.reads I d p.2 v e2 rv
  obtain ⟨bs, r2⟩ := Dp.reads I d u y e3 ry
  have := PySem.W.keq_at (A := X.A) r1 r2 e4 e4 (by show X.A.units + 1 + 64 < cLine; omega)
  rw [e5] at this
  exact this

/-! ### R6: t * 1 -/
theorem tuple_mul1 (l : Addr) (items : Array Value) (n : Nat) (dd : Option Addr) (sl : Array (Option Value)) (u : Tok) :
    Meets (Builtin.«tuple.__mul__» ⟨[.ref l, .int 1 u], []⟩) (fun _ R s => s.heap.get? l = some { cls := .type "tuple", dict := dd, data := .seq items n, slots := sl } ∧
      R (.ok (.ret (Value.ref l))) s) :=
  .of_wp fun prog w A R s h => by
    obtain ⟨hp, g, d, tk, os⟩ := s
    obtain ⟨hl, h⟩ := h
    have f1 := AutoSeq1.idx_int
    have c0 : (decide ((1 : Int) < -(2 ^ 63)) || decide ((1 : Int) ≥ 2 ^ 63)) = false := by decide
    have c1 : (items.isEmpty || (1 : Int) == 1) = true := by simp
    wp_walk using wpAny_loadPart' hl
    repeat (first
      | (refine wpAny_ite_false (decide_eq_false (by rw [c0]; exact Bool.false_ne_true)) ?_; wp_walk using wpAny_loadPart' hl)
      | (refine wpAny_ite_true (decide_eq_true c1) ?_; wp_walk using wpAny_loadPart' hl))
    exact ⟨_, rfl, h⟩
def rRep1 (K : PySem.W.Frag) : R2 := fun x y H Q => ∃ l xs, x = .ref l ∧ y = .int 1 ∧ SqT K H l xs ∧ Q (.ref l) H
theorem op_rep1 : OpR X (binaryOp .Mult) (rRep1 X.K) := by
  intro pins s σ H x y v u Q I rx ry h
  obtain ⟨l, xs, rfl, rfl, hT, q⟩ := h
  cases rx
  obtain ⟨t, rfl⟩ := ry
  obtain ⟨its, r, ⟨⟨cls, dd, data, sl⟩, ho, hc, n, hd⟩, hs⟩ := I.tuple hT
  simp only at hc hd
  subst hc hd
  exact wpAny_binaryOp_repeat_ref (T := "tuple") (U := "int") (by decide) ⟨_, ho, rfl⟩ (fun s' => typeIs_int s' 1 t) noFill_tuple_mul F.fills_int_mul F.slot_int_rmul repeat_tuple F.slot_int_index.lookup
    (call_meets F.slot_int_rmul (typeIs_int s 1 t) F.entry_int_rmul (F.args_int_rmul_2 _ _) (int_rmul_tuple 1 t l its.toArray n dd sl)
      ⟨ho, rfl, ⟨_, ho, rfl⟩, call_meets F.slot_tuple_mul ⟨_, ho, rfl⟩ F.entry_tuple_mul (F.args_tuple_mul_2 _ _) (tuple_mul1 l its.toArray n dd sl t) ⟨ho, ⟨.ref l, H, I, rfl, q⟩⟩⟩)

/-! ### R7: len(set(xs)), xs rows, each once -/
def tLenSetR (K : PySem.W.Frag) (ta : TE) : TE := fun σ H Q => ta σ H fun x H1 => ∃ (l : Addr) (ks : List (Addr × List Int)), x = V.ref l ∧ SqL K H1 l (ks.map fun p => V.ref p.1) ∧ (∀ p ∈ ks, SqT K H1 p.1 (p.2.map V.int)) ∧ ks.length < 64 ∧ (ks.map (·.2)).Nodup ∧
  Q (.int (ks.length : Nat)) H1
theorem pe_lenSetR {a : Expr} {ta : TE} {p p2 q pos : Pos} (hc : X.calm = true) (hu : X.A.units + 64 < cLine) (hg : Gl X "len") (hm : X.mg "len" = none) (hg2 : Gl X "set") (hm2 : X.mg "set" = none) (ha : PE X a ta)
    (na : starEach [a] X.env = (false, eval a X.env) :: starEach [] X.env := by rfl) : PE X (.Call (.Name "len" p) [.Call (.Name "set" p2) [a] [] q] [] pos) (tLenSetR X.K ta) := by
  refine ⟨fun pins s σ H Q I h => ?_⟩
  refine Call_ (ld_blt I hg hm PySem.boot_len ?_)
  refine PyProof.Rows.callWith_builtin1 (PyProof.Rows.args_cons ?_ rfl) rfl rfl
  refine Call_ (ld_blt I hg2 hm2 PyProof.Rows.boot_set ?_)
  refine PyProof.Rows.callWith_type1 (PyProof.Rows.args_cons (thn (ha.run pins s σ H _ I h) fun v s1 ⟨x, H1, I1, r1, q1⟩ => PyProof.Rows.args_nil ?_) na) na rfl
  obtain ⟨l, ks, rfl, hl, hk, hf, hnd, q1⟩ := q1
  cases r1
  obtain ⟨its, rv, pl, hz⟩ := I1.list hl
  refine call_set_tups (P := X.prog) (w := X.w) ks (I1.ok.hd hc) pl.isList (by simpa using refs_of_vals rv) (fun p hp => I1.isT (hk p hp)) hf (by omega) fun h' tk L es ep t R g k => ?_
  refine PyProof.Rows.args_nil ?_
  have e1 : L.length = ks.length := by
    have pm : (L.map (·.2)).Perm (ks.map (·.2)) := by
      rw [List.perm_ext_iff_of_nodup R.nd hnd]
      intro x
      refine ⟨fun hx => ?_, fun hx => ?_⟩
      · obtain ⟨p, hp, rfl⟩ := List.mem_map.mp hx
        exact List.mem_map.mpr ⟨p, List.mem_of_mem_take (g.sub p hp), rfl⟩
      · obtain ⟨p, hp, rfl⟩ := List.mem_map.mp hx
        exact g.all p (by rw [List.take_length]; exact hp)
    have := pm.length_eq
    rwa [List.length_map, List.length_map] at this
  have e2 : es.size = ks.length := by rw [← e1]; exact SetTR.size (s := { s1 with heap := h', toks := tk }) R
  have hfit : t.fits es.size = true := SetTR.fits (s := { s1 with heap := h', toks := tk }) R
  obtain ⟨o, ho, hex, hd⟩ := R.ob
  have I2 : Inv X pins σ H1 { s1 with heap := h', toks := tk } := I1.kept k
  exact call_len_set ho hex hd hfit (by omega) ⟨.int ks.length, H1, I2.tok _, ⟨_, by rw [e2]⟩, q1⟩
end
end Aw

/-! Lists, rows, texts: no program in sight. -/
namespace Aw
open PySem PySem.Spec PyProof.Rows L2

/-! ### rows as keys -/
theorem inl_inj : ∀ {a b : List Int}, (a.map Sum.inl : List Key) = b.map Sum.inl → a = b
  | [], [], _ => rfl
  | [], _ :: _, e => by simp at e
  | _ :: _, [], e => by simp at e
  | x :: xs, y :: ys, e => by
    rw [List.map_cons, List.map_cons] at e
    injection e with e1 e2
    rw [Sum.inl.inj e1, inl_inj e2]
theorem valV_rkv (ks : List (List Int)) (k : List Int) : valV (rkv ks) (k.map Sum.inl) = if k ∈ ks then some (V.bl true) else none := by
  induction ks with
  | nil => rfl
  | cons a r ih =>
    show valV ((a.map Sum.inl, V.bl true) :: rkv r) _ = _
    by_cases e : a = k
    · subst e
      rw [valV_pos rfl, if_pos List.mem_cons_self]
    · rw [valV_neg (fun z => e (inl_inj z)), ih]
      by_cases h : k ∈ r
      · rw [if_pos h, if_pos (List.mem_cons_of_mem _ h)]
      · rw [if_neg h, if_neg]
        intro z
        rcases List.mem_cons.mp z with z | z
        · exact e z.symm
        · exact h z
theorem putK_rkv {ks : List (List Int)} {k : List Int} (h : k ∉ ks) : putK (rkv ks) (k.map Sum.inl) (V.bl true) = rkv (ks ++ [k]) := by
  rw [putK_new _ (by rw [valV_rkv, if_neg h])]
  show rkv ks ++ _ = (ks ++ [k]).map _
  rw [List.map_append] <;> rfl
theorem dropK_rkv (ks : List (List Int)) (k : List Int) : dropK (rkv ks) (k.map Sum.inl) = rkv (ks.filter fun x => decide (x ≠ k)) := by
  unfold dropK
  induction ks with
  | nil => rfl
  | cons a r ih =>
    show List.filter _ ((a.map Sum.inl, V.bl true) :: rkv r) = _
    by_cases e : a = k
    · subst e
      rw [List.filter_cons_of_neg (by simp), List.filter_cons_of_neg (by simp), ih]
    · rw [List.filter_cons_of_pos (by simpa using fun z => e (inl_inj z)), List.filter_cons_of_pos (by simpa using e), ih] <;> rfl
theorem length_rkv (ks : List (List Int)) : (rkv ks).length = ks.length := List.length_map ..

/-! ### two sorted rows' lists -/
theorem sorted_same {l1 l2 : List (List Int)} (hp : l1.Perm l2) (h1 : l1.Pairwise rowLe) (h2 : l2.Pairwise rowLe) : l1 = l2 :=
  List.Perm.eq_of_pairwise (le := rowLe) (fun _ _ _ _ x y => rowLe_eq x y) h1 h2 hp

/-! ### two sorted lists of texts -/
theorem rising_pw : ∀ (p : Str) (l : List Str), risingS p l = true → (p :: l).Pairwise (fun a b => a.cps.toList ≤ b.cps.toList)
  | p, [], _ => by simp
  | p, x :: r, h => by
    have h' : (!ltCps x.cps.toList p.cps.toList && risingS x r) = true := h
    rw [Bool.and_eq_true] at h'
    obtain ⟨a, b⟩ := h'
    have ih := rising_pw x r b
    have hpx : p.cps.toList ≤ x.cps.toList := by
      rw [ltCps_eq] at a
      have : ¬ x.cps.toList < p.cps.toList := by simpa using a
      exact List.not_lt.mp this
    refine List.pairwise_cons.mpr ⟨fun y hy => ?_, ih⟩
    rcases List.mem_cons.mp hy with e | hy
    · rw [e]
      exact hpx
    · exact List.le_trans hpx (List.rel_of_pairwise_cons ih hy)
theorem sortedS_pw : ∀ {l : List Str}, sortedS l = true → l.Pairwise (fun a b => a.cps.toList ≤ b.cps.toList)
  | [], _ => List.Pairwise.nil
  | x :: r, h => rising_pw x r h
theorem str_ext {x y : Str} (h : x.cps.toList = y.cps.toList) : x = y := by
  cases x with
  | mk a =>
    cases y with
    | mk b =>
      have : a = b := Array.toList_inj.mp h
      rw [this]
theorem sortedS_same {l1 l2 : List Str} (hp : l1.Perm l2) (h1 : sortedS l1 = true) (h2 : sortedS l2 = true) : l1 = l2 :=
  List.Perm.eq_of_pairwise (le := fun a b => a.cps.toList ≤ b.cps.toList) (fun _ _ _ _ x y => str_ext (List.le_antisymm x y)) (sortedS_pw h1) (sortedS_pw h2) hp

/-! ### a row's bounds -/
/-- what stands in rows: below 10 to the 70 -/
def big : Int := 10 ^ 70
structure RowOk (k : List Int) : Prop where
  lo : 1 ≤ k.length
  hi : k.length ≤ 6
  sm : ∀ n ∈ k, -big < n ∧ n < big

/-! ### rows as data -/
def rowD (k : List Int) : PyData := .tuple (k.map PyData.int)
theorem ints_lay : ∀ k : List Int, PyData.canLayAll0 (k.map PyData.int) = true
  | [] => by simp [PyData.canLayAll0]
  | n :: k => by
    rw [List.map_cons]
    simp [PyData.canLayAll0, PyData.canLay0, ints_lay k]
theorem ints_depth : ∀ k : List Int, PyData.depthAll (k.map PyData.int) ≤ 1
  | [] => by simp [PyData.depthAll]
  | n :: k => by
    have := ints_depth k
    rw [List.map_cons]
    simp only [PyData.depthAll, PyData.depth]
    omega
theorem rowD_lay (k : List Int) : (rowD k).canLay0 = true := by
  unfold rowD
  simp only [PyData.canLay0]
  exact ints_lay k
theorem rowD_depth (k : List Int) : (rowD k).depth ≤ 2 := by
  have := ints_depth k
  unfold rowD
  simp only [PyData.depth]
  omega
theorem rowD_shaped (k : List Int) : SeqAt.shaped (rowD k) = true := by
  show ((rowD k).canLay0 && decide ((rowD k).depth ≤ 64)) = true
  rw [Bool.and_eq_true]
  exact ⟨rowD_lay k, decide_eq_true (Nat.le_trans (rowD_depth k) (by decide))⟩
theorem rowsD_lay : ∀ ks : List (List Int), PyData.canLayAll0 (ks.map rowD) = true
  | [] => by simp [PyData.canLayAll0]
  | k :: ks => by simp [PyData.canLayAll0, rowD_lay k, rowsD_lay ks]
theorem rowsD_depth : ∀ ks : List (List Int), PyData.depthAll (ks.map rowD) ≤ 2
  | [] => by simp [PyData.depthAll]
  | k :: ks => by
    have h1 := rowsD_depth ks
    have h2 := rowD_depth k
    simp only [List.map_cons, PyData.depthAll]
    omega
theorem rowsD_shaped (ks : List (List Int)) : SeqAt.shaped (.list (ks.map rowD)) = true := by
  have h1 := rowsD_depth ks
  have h2 : PyData.depth (.list (ks.map rowD)) ≤ 64 := by
    simp only [PyData.depth]
    omega
  show (PyData.canLay0 (.list (ks.map rowD)) && decide (PyData.depth (.list (ks.map rowD)) ≤ 64)) = true
  rw [Bool.and_eq_true]
  exact ⟨by simp only [PyData.canLay0]; exact rowsD_lay ks, decide_eq_true h2⟩
theorem ints_eqv : ∀ a b : List Int, PyData.eqvAll (a.map PyData.int) (b.map PyData.int) = decide (a = b)
  | [], [] => by simp [PyData.eqvAll]
  | [], _ :: _ => by simp [PyData.eqvAll]
  | _ :: _, [] => by simp [PyData.eqvAll]
  | x :: a, y :: b => by
    have ih := ints_eqv a b
    rw [List.map_cons, List.map_cons]
    simp only [PyData.eqvAll, PyData.eqv]
    rw [ih]
    by_cases e : x = y
    · subst e
      by_cases e2 : a = b
      · subst e2; simp
      · simp [e2]
    · have : (x == y) = false := beq_eq_false_iff_ne.mpr e
      rw [this]
      simp [e]
theorem rowD_eqv (a b : List Int) : PyData.eqv (rowD a) (rowD b) = decide (a = b) := by
  unfold rowD
  simp only [PyData.eqv]
  exact ints_eqv a b
theorem rowsD_eqv : ∀ a b : List (List Int), PyData.eqvAll (a.map rowD) (b.map rowD) = decide (a = b)
  | [], [] => by simp [PyData.eqvAll]
  | [], _ :: _ => by simp [PyData.eqvAll]
  | _ :: _, [] => by simp [PyData.eqvAll]
  | x :: a, y :: b => by
    have ih := rowsD_eqv a b
    rw [List.map_cons, List.map_cons]
    simp only [PyData.eqvAll]
    rw [ih, rowD_eqv]
    by_cases e : x = y
    · subst e
      by_cases e2 : a = b
      · subst e2; simp
      · simp [e2]
    · simp [e]
theorem listD_eqv (a b : List (List Int)) : PyData.eqv (.list (a.map rowD)) (.list (b.map rowD)) = decide (a = b) := by
  simp only [PyData.eqv]
  exact rowsD_eqv a b
theorem any_eqv (ks : List (List Int)) (k : List Int) : ((ks.map rowD).any fun z => PyData.eqv z (rowD k)) = decide (k ∈ ks) := by
  induction ks with
  | nil => simp
  | cons a r ih =>
    rw [List.map_cons, List.any_cons, ih, rowD_eqv]
    by_cases e : a = k
    · subst e; simp
    · have e' : ¬ k = a := fun z => e z.symm
      simp [e, e']
/-! ### texts as data -/
theorem strs_lay : ∀ k : List Str, (∀ x ∈ k, PyData.strOk x = true) → PyData.canLayAll0 (k.map PyData.str) = true
  | [], _ => by simp [PyData.canLayAll0]
  | n :: k, h => by
    rw [List.map_cons]
    simp [PyData.canLayAll0, PyData.canLay0, strs_lay k fun x hx => h x (List.mem_cons_of_mem _ hx), h n List.mem_cons_self]
theorem strs_depth : ∀ k : List Str, PyData.depthAll (k.map PyData.str) ≤ 1
  | [] => by simp [PyData.depthAll]
  | n :: k => by
    have := strs_depth k
    rw [List.map_cons]
    simp only [PyData.depthAll, PyData.depth]
    omega
theorem strsD_shaped (ks : List Str) (h : ∀ x ∈ ks, PyData.strOk x = true) : SeqAt.shaped (.list (ks.map PyData.str)) = true := by
  have h1 := strs_depth ks
  have h2 : PyData.depth (.list (ks.map PyData.str)) ≤ 64 := by
    simp only [PyData.depth]
    omega
  show (PyData.canLay0 (.list (ks.map PyData.str)) && decide (PyData.depth (.list (ks.map PyData.str)) ≤ 64)) = true
  rw [Bool.and_eq_true]
  exact ⟨by simp only [PyData.canLay0]; exact strs_lay ks h, decide_eq_true h2⟩
theorem strs_eqv : ∀ a : List Str, PyData.eqvAll (a.map PyData.str) (a.map PyData.str) = true
  | [] => by simp [PyData.eqvAll]
  | x :: a => by
    rw [List.map_cons]
    simp [PyData.eqvAll, PyData.eqv, strs_eqv a]
theorem strsD_eqv (a : List Str) : PyData.eqv (.list (a.map PyData.str)) (.list (a.map PyData.str)) = true := by
  simp only [PyData.eqv]
  exact strs_eqv a

/-! ### the heap: rows, lists of rows -/
section
variable {K : PySem.W.Frag} {H : Hp}
/-- the tuples of rows stand -/
def Tups (H : Hp) (L : List (Addr × List Int)) : Prop := ∀ p ∈ L, H p.1 = some (.tup (p.2.map V.int))
abbrev refs (L : List (Addr × List Int)) : List V := L.map fun p => V.ref p.1
abbrev rows (L : List (Addr × List Int)) : List (List Int) := L.map (·.2)
theorem dp_ints : ∀ k : List Int, DpAll K H (k.map V.int) (k.map PyData.int)
  | [] => .nil
  | n :: k => .cons (.int n) (dp_ints k)
theorem dp_row {a : Addr} {k : List Int} (h : H a = some (.tup (k.map V.int))) : Dp K H (.ref a) (rowD k) := .tup (.of h) (dp_ints k)
theorem dp_rows : ∀ {L : List (Addr × List Int)}, Tups H L → DpAll K H (refs L) ((rows L).map rowD)
  | [], _ => .nil
  | p :: L, h => .cons (dp_row (h p List.mem_cons_self)) (dp_rows fun q hq => h q (List.mem_cons_of_mem _ hq))
theorem dp_list {a : Addr} {L : List (Addr × List Int)} (h : SqL K H a (refs L)) (t : Tups H L) : Dp K H (.ref a) (.list ((rows L).map rowD)) := .lst h (dp_rows t)
theorem dp_strs : ∀ k : List Str, DpAll K H (k.map V.str) (k.map PyData.str)
  | [] => .nil
  | n :: k => .cons (.str n) (dp_strs k)
end
/-- where the first row k stands -/
theorem first_row {k : List Int} : ∀ {ks : List (List Int)}, k ∈ ks → ∃ j, j < ks.length ∧ ks[j]? = some k ∧ ∀ i, i < j → ks[i]? ≠ some k
  | [], h => absurd h (by simp)
  | a :: r, h => by
    by_cases e : a = k
    · exact ⟨0, Nat.succ_pos _, by rw [e] <;> rfl, fun i hi => absurd hi (Nat.not_lt_zero _)⟩
    · have hr : k ∈ r := by
        rcases List.mem_cons.mp h with z | z
        · exact absurd z.symm e
        · exact z
      obtain ⟨j, h1, h2, h3⟩ := first_row hr
      refine ⟨j + 1, Nat.succ_lt_succ h1, h2, fun i hi => ?_⟩
      cases i with
      | zero =>
        intro z
        exact e (Option.some.inj z)
      | succ i => exact h3 i (Nat.lt_of_succ_lt_succ hi)
theorem place_row {k : List Int} {ks : List (List Int)} {j : Nat} (h : ks[j]? = some k) (no : ∀ i, i < j → ks[i]? ≠ some k) : SeqAt.dataPlace (ks.map rowD) (rowD k) = some j := by
  obtain ⟨hj, e⟩ := List.getElem?_eq_some_iff.mp h
  refine List.findIdx?_eq_some_iff_getElem.mpr ⟨by rw [List.length_map]; exact hj, ?_, fun i hi => ?_⟩
  · rw [List.getElem_map, rowD_eqv, e, decide_eq_true rfl]
  · have hl : i < ks.length := Nat.lt_trans hi hj
    rw [List.getElem_map, rowD_eqv, decide_eq_false fun z => no i hi (by rw [List.getElem?_eq_getElem hl, z])]
    decide
theorem eraseIdx_map {α β : Type} (f : α → β) : ∀ (ns : List α) (j : Nat), (ns.map f).eraseIdx j = (ns.eraseIdx j).map f
  | [], _ => rfl
  | _ :: _, 0 => rfl
  | n :: r, j + 1 => by
    show f n :: (r.map f).eraseIdx j = f n :: (r.eraseIdx j).map f
    rw [eraseIdx_map f r j]
/-- of rows each once, the one at its place dropped: those that are not it -/
theorem erase_filter {k : List Int} : ∀ {ks : List (List Int)} {j : Nat}, ks.Nodup → ks[j]? = some k → ks.eraseIdx j = ks.filter fun x => decide (x ≠ k)
  | [], j, _, h => by simp at h
  | a :: r, 0, hn, h => by
    have e : a = k := by simpa using h
    subst e
    rw [List.nodup_cons] at hn
    rw [List.filter_cons_of_neg (by simp)]
    show r = _
    refine (List.filter_eq_self.mpr fun y hy => ?_).symm
    exact decide_eq_true fun z => hn.1 (by rw [← z]; exact hy)
  | a :: r, j + 1, hn, h => by
    have h2 : r[j]? = some k := by simpa using h
    rw [List.nodup_cons] at hn
    have ne : a ≠ k := fun z => hn.1 (by rw [z]; exact List.mem_of_getElem? h2)
    show a :: r.eraseIdx j = _
    rw [List.filter_cons_of_pos (by simpa using ne), erase_filter hn.2 h2]
end Aw

/-! The text by its places; defs and methods by name; loops. -/
namespace Aw
open PySem PySem.Spec PyProof.Rows L2

def top (i : Nat) : Stmt := PySem.Challenge.pw_askwithin_k12_whole_books_apart.main.body.getD i (.Pass ⟨0, 0, 0, 0⟩)
abbrev sWhole : Stmt := top 9
abbrev sValue : Stmt := top 10
abbrev sName : Stmt := top 11
abbrev sRow : Stmt := top 13
abbrev sRows : Stmt := top 14
abbrev sBook : Stmt := top 15
abbrev sWidths : Stmt := top 16
abbrev sInit : Stmt := inClass (top 17) 0
abbrev sRowsOf : Stmt := inClass (top 17) 1
abbrev sRowsFor : Stmt := inClass (top 17) 2
abbrev sPut : Stmt := inClass (top 17) 3
abbrev sDrop : Stmt := inClass (top 17) 4
abbrev sMRows : Stmt := inClass (top 17) 6
abbrev sTables : Stmt := inClass (top 17) 7
abbrev sPlain : Stmt := inClass (top 17) 10
abbrev sCell : Stmt := top 19
abbrev sMix : Stmt := top 20
abbrev sNames : Stmt := top 21
abbrev sLRow : Stmt := top 22
abbrev sCopy : Stmt := top 23
abbrev sHolds : Stmt := top 24
abbrev sDeed : Stmt := top 25
abbrev sLaw : Stmt := top 26

/-! ### letters and figures -/
def ltrS : Str := "abcdefghijklmnopqrstuvwxyz"
def figS : Str := "0123456789"
structure NameOk (x : Str) : Prop where
  lo : 1 ≤ x.cps.size
  hi : x.cps.size ≤ 12
  ch : ∀ c ∈ x.cps.toList, c ∈ ltrS.cps.toList ∨ c ∈ figS.cps.toList
  hd : ∃ c, x.cps.toList[0]? = some c ∧ c ∈ ltrS.cps.toList

/-- what the top has left -/
structure Txt (K : PySem.W.Frag) (mg : Str → Option Value) (C : Addr) : Prop where
  cl : Cls K C
  nB : NoAttr K C "breadths"
  nH : NoAttr K C "held"
  mgC : mg "Book" = some (.ref C)
  ltr : ∃ t, mg "LETTERS" = some (.str ltrS t)
  fig : ∃ t, mg "FIGURES" = some (.str figS t)
  isinstance : mg "isinstance" = none
  int : mg "int" = none
  bool : mg "bool" = none
  str : mg "str" = none
  tuple : mg "tuple" = none
  list : mg "list" = none
  dict : mg "dict" = none
  len : mg "len" = none
  abs : mg "abs" = none
  set : mg "set" = none
  sorted : mg "sorted" = none
  range : mg "range" = none

section
variable {P : Program} {w : World} {K : PySem.W.Frag} {mg : Str → Option Value} {base : Heap}
/-- a def of the top, as it stands -/
structure DefG (K : PySem.W.Frag) (mg : Str → Option Value) (x : Str) (st : Stmt) (ps : List Str) : Prop where
  ex : ∃ (f : Addr) (fd : FuncData), Fun K x x st f fd ∧ mg x = some (.ref f) ∧ Binds K fd ps []
/-- .. that keeps a promise -/
structure Cal (P : Program) (w : World) (K : PySem.W.Frag) (mg : Str → Option Value) (base : Heap) (k : Nat) (x : Str) (sp : Sp) : Prop where
  ex : ∃ (f : Addr) (fd : FuncData) (ps : List Str), FnOk P w K mg base CX0 k f fd ps sp ∧ mg x = some (.ref f) ∧ PySem.W.keepIn K (.ref f) = true ∧ Binds K fd ps []
theorem DefG.cal {x : Str} {st : Stmt} {N ps : List Str} {k : Nat} {sp : Sp} (D : DefG K mg x st ps) (S : FnScope N ps (defScope st)) (len : ∀ vs H Q E, sp vs H Q E → vs.length = ps.length)
    (hbody : ∀ (f : Addr) (cdv : Value) (A : Around) (outer : List Env) (s : Shared) (H : Hp) (vs : List V) (Q : VK) (E : XK), Room k (A.deeper (envOfC x (defScope st) s.heap.objs.size f cdv)) → sp vs H Q E →
      ∃ t, PSs (cxOf CX0 P w K mg base N x (defScope st) f cdv A outer s H E).nox (defBody st) t ∧ t { nx := fun _ H' => Q .non H', rt := Q } (start N vs) H) : Cal P w K mg base (k + 1) x sp := by
  obtain ⟨f, fd, F, hm, b⟩ := D.ex
  exact ⟨f, fd, ps, F.ok S len (hbody f), hm, F.kp, b⟩
/-- a method of the class, as it stands -/
structure MetG (K : PySem.W.Frag) (C : Addr) (m qual : Str) (st : Stmt) (ps : List Str) : Prop where
  ex : ∃ (f : Addr) (fd : FuncData), Fun K m qual st f fd ∧ Meth K C m f ∧ Binds K fd ps []
structure Met (P : Program) (w : World) (K : PySem.W.Frag) (mg : Str → Option Value) (base : Heap) (k : Nat) (C : Addr) (m : Str) (sp : Sp) : Prop where
  ex : ∃ (f : Addr) (fd : FuncData) (ps : List Str), FnOk P w K mg base CX0 k f fd ps sp ∧ Meth K C m f ∧ Binds K fd ps []
theorem MetG.met {C : Addr} {m qual : Str} {st : Stmt} {N ps : List Str} {k : Nat} {sp : Sp} (D : MetG K C m qual st ps) (S : FnScope N ps (defScope st)) (len : ∀ vs H Q E, sp vs H Q E → vs.length = ps.length)
    (hbody : ∀ (f : Addr) (cdv : Value) (A : Around) (outer : List Env) (s : Shared) (H : Hp) (vs : List V) (Q : VK) (E : XK), Room k (A.deeper (envOfC qual (defScope st) s.heap.objs.size f cdv)) → sp vs H Q E →
      ∃ t, PSs (cxOf CX0 P w K mg base N qual (defScope st) f cdv A outer s H E).nox (defBody st) t ∧ t { nx := fun _ H' => Q .non H', rt := Q } (start N vs) H) : Met P w K mg base (k + 1) C m sp := by
  obtain ⟨f, fd, F, hm, b⟩ := D.ex
  exact ⟨f, fd, ps, F.ok S len (hbody f), hm, b⟩
end
section
variable {X : Cx} {e o : Expr} {es : List Expr} {t : TA} {ta : TE} {x m : Str} {p pos apos : Pos} {k j : Nat} {sp : Sp} {C : Addr}
theorem pe_c (c : Cal X.prog X.w X.K X.mg X.base k x sp) (hr : Room j X.A) (hk : k ≤ j) (hg : Gl X x) (ha : PA X (e :: es) t)
    (hdb : (x == ("__debug__" : Str)) = false := by decide) (he : starEach (e :: es) X.env = (false, eval e X.env) :: starEach es X.env := by rfl) (hpl : (backTo pos (starEach es X.env)).any (·.1) = false := by rfl) :
    PE X (.Call (.Name x p) (e :: es) [] pos) (tCall sp [] E0 t) := by
  obtain ⟨f, fd, ps, F, hm, kp, b⟩ := c.ex
  exact pe_call F (hr.mono hk) hg hm kp b .nil pass0 ha hdb he hpl
theorem pe_mt {pl : Sem Bool} (cl : Cls X.K C) (c : Met X.prog X.w X.K X.mg X.base k C m sp) (hr : Room j X.A) (hk : k ≤ j) (he : PE X o ta) (ha : PA X (e :: es) t)
    (hst : starEach (e :: es) X.env = (false, eval e X.env) :: starEach es X.env := by rfl) (hpl : (backTo pos (starEach es X.env)).any (·.1) = false := by rfl)
    (ht : eval (.Call (.Attribute o m apos) (e :: es) [] pos) X.env = (do
      let ov ← eval o X.env
      standAt apos.atName
      let (f, first) ← holding [ov] (getMethod ov m pl)
      callWith pos f first (backTo pos (starEach (e :: es) X.env)) (backToKw pos (keywordEach [] X.env))) := by rfl) :
    PE X (.Call (.Attribute o m apos) (e :: es) [] pos) (tMeth C m sp [] E0 ta t) := by
  obtain ⟨f, fd, ps, F, hm, b⟩ := c.ex
  exact pe_meth he cl hm F (hr.mono hk) b .nil pass0 ha hst hpl ht
theorem pe_mt0 {pl : Sem Bool} (cl : Cls X.K C) (c : Met X.prog X.w X.K X.mg X.base k C m sp) (hr : Room j X.A) (hk : k ≤ j) (he : PE X o ta)
    (ht : eval (.Call (.Attribute o m apos) [] [] pos) X.env = (do
      let ov ← eval o X.env
      standAt apos.atName
      let (f, first) ← holding [ov] (getMethod ov m pl)
      callWith pos f first (backTo pos (starEach [] X.env)) (backToKw pos (keywordEach [] X.env))) := by rfl) :
    PE X (.Call (.Attribute o m apos) [] [] pos) (tMeth C m sp [] E0 ta tNil) := by
  obtain ⟨f, fd, ps, F, hm, b⟩ := c.ex
  exact pe_meth0 he cl hm F (hr.mono hk) b .nil pass0 ht
end

/-! ### loops -/
theorem for_str {x : Str} {g : TG} {tb : TS} {D : Ends} {σ : L2.St} {H : Hp} (Pv : Nat → L2.St → Hp → Prop) (h0 : Pv 0 σ H)
    (hs : ∀ i c σ H, x.cps[i]? = some c → Pv i σ H → g (.str ⟨#[c]⟩) σ H fun σ2 H2 => tb { D with nx := Pv (i + 1), ct := Pv (i + 1), bk := D.nx } σ2 H2) (hd : ∀ σ H, Pv x.cps.size σ H → D.nx σ H) :
    ∃ W : Nat → Nat → L2.St → Hp → Prop, (∃ m, W 0 m σ H) ∧ ∀ i m σ H, W i m σ H →
      ((Its x).stop i H ∧ D.nx σ H) ∨ ((Its x).go i H ∧ ∃ N : L2.St → Hp → Prop, (∀ σ' H', N σ' H' → ∃ m', m' < m ∧ W (i + 1) m' σ' H') ∧ ∀ y H', (Its x).yld i H y H' → g y σ H' fun σ2 H2 => tb { D with nx := N, ct := N, bk := D.nx } σ2 H2) := by
  refine ⟨fun i m σ H => m = x.cps.size - i ∧ i ≤ x.cps.size ∧ Pv i σ H, ⟨x.cps.size, by simp, Nat.zero_le _, h0⟩, ?_⟩
  rintro i m σ H ⟨rfl, hi, p⟩
  by_cases hlt : i < x.cps.size
  · refine .inr ⟨hlt, Pv (i + 1), fun σ' H' p' => ⟨x.cps.size - (i + 1), by omega, rfl, hlt, p'⟩, fun y H' z => ?_⟩
    obtain ⟨e, c, hc, ey⟩ := z
    subst e ey
    exact hs i c σ _ hc p
  · have e : i = x.cps.size := by omega
    subst e
    exact .inl ⟨Nat.le_refl _, hd σ H p⟩
theorem for_keys {d : Addr} {o : Obj} {kvs : List (Key × V)} {g : TG} {tb : TS} {D : Ends} {σ : L2.St} {H : Hp} (Pv : Nat → L2.St → Hp → Prop) (h0 : Pv 0 σ H) (hl : ∀ i σ H, i ≤ kvs.length → Pv i σ H → H d = some (.frz o (.dK kvs)))
    (hs : ∀ i k v σ H, kvs[i]? = some (k, v) → Pv i σ H → g (kV k) σ H fun σ2 H2 => tb { D with nx := Pv (i + 1), ct := Pv (i + 1), bk := D.nx } σ2 H2) (hd : ∀ σ H, Pv kvs.length σ H → D.nx σ H) :
    ∃ W : Nat → Nat → L2.St → Hp → Prop, (∃ m, W 0 m σ H) ∧ ∀ i m σ H, W i m σ H →
      ((Itk d o kvs).stop i H ∧ D.nx σ H) ∨ ((Itk d o kvs).go i H ∧ ∃ N : L2.St → Hp → Prop, (∀ σ' H', N σ' H' → ∃ m', m' < m ∧ W (i + 1) m' σ' H') ∧ ∀ y H', (Itk d o kvs).yld i H y H' → g y σ H' fun σ2 H2 => tb { D with nx := N, ct := N, bk := D.nx } σ2 H2) := by
  refine ⟨fun i m σ H => m = kvs.length - i ∧ i ≤ kvs.length ∧ Pv i σ H, ⟨kvs.length, by simp, Nat.zero_le _, h0⟩, ?_⟩
  rintro i m σ H ⟨rfl, hi, p⟩
  have q := hl i σ H hi p
  by_cases hlt : i < kvs.length
  · refine .inr ⟨⟨q, hlt⟩, Pv (i + 1), fun σ' H' p' => ⟨kvs.length - (i + 1), by omega, rfl, hlt, p'⟩, fun y H' z => ?_⟩
    obtain ⟨e, k, v, hc, ey⟩ := z
    subst e ey
    exact hs i k v σ _ hc p
  · have e : i = kvs.length := by omega
    subst e
    exact .inl ⟨⟨q, Nat.le_refl _⟩, hd σ H p⟩
/-! ### heaps -/
theorem upd_back {H : Hp} {a : Addr} {o u : HO} (h : H a = some u) : upd (upd H a o) a u = H := by
  rw [upd_upd]
  funext b
  by_cases e : b = a
  · subst e
    rw [upd_same, h]
  · rw [upd_ne e]
theorem same_upd {H : Hp} {a : Addr} {o : HO} (h : H a = none) : Same H (upd H a o) := fun b u e => by
  rw [upd_ne (ne_of_none e h)]
  exact e
theorem k_ii : kitB "int" "int" = some true := by decide +kernel
theorem k_ib : kitB "int" "bool" = some false := by decide +kernel
theorem k_ss : kitB "str" "str" = some true := by decide +kernel
theorem k_tt : kitB "tuple" "tuple" = some true := by decide +kernel
theorem k_ll : kitB "list" "list" = some true := by decide +kernel
theorem k_dd : kitB "dict" "dict" = some true := by decide +kernel
end Aw

/-! The small defs: is_whole, is_value, is_name, is_row, is_rows, is_book. -/
namespace Aw
open PySem PySem.Spec PyProof.Rows L2
section
variable {P : Program} {w : World} {K : PySem.W.Frag} {mg : Str → Option Value} {base : Heap} {C : Addr}

/-! ### is_whole -/
def spWhole : Sp := fun vs H Q _ => ∃ n : Int, vs = [.int n] ∧ Q (.bl true) H
theorem scWhole : FnScope ["thing"] ["thing"] (defScope sWhole) := ⟨rfl, rfl, rfl, by decide +kernel, rfl, by decide +kernel, by decide +kernel⟩
theorem ok_whole (T : Txt K mg C) (D : DefG K mg "is_whole" sWhole ["thing"]) : Cal P w K mg base 1 "is_whole" spWhole := by
  refine D.cal scWhole (fun vs H Q E h => ?_) (fun f cdv A outer s H vs Q E hr h => ?_)
  · obtain ⟨n, rfl, _⟩ := h
    rfl
  · obtain ⟨n, rfl, k⟩ := h
    refine ⟨_, pss_one (ps_ret (pe_and (pe_callB call_isi (by rfl) T.isinstance (by decide +kernel) (pa_cons (pv 0) (pa_cons (pe_bltn (v := .ty "int") (by rfl) T.int (by decide +kernel) rfl) pa_nil)))
      (pe_one (pe_not (pe_callB call_isi (by rfl) T.isinstance (by decide +kernel) (pa_cons (pv 0) (pa_cons (pe_bltn (v := .ty "bool") (by rfl) T.bool (by decide +kernel) rfl) pa_nil))))))), ?_⟩
    refine ⟨_, rfl, _, _, _, _, _, rfl, .ty _, .base (.int _), kit_ty k_ii, true, rfl, iteT ?_⟩
    exact ⟨_, rfl, _, _, _, _, _, rfl, .ty _, .base (.int _), kit_ty k_ib, false, rfl, k⟩

/-! ### is_value -/
def spValue : Sp := fun vs H Q _ => ∃ n : Int, vs = [.int n] ∧ (-big < n ∧ n < big) ∧ Q (.bl true) H
theorem scValue : FnScope ["thing"] ["thing"] (defScope sValue) := ⟨rfl, rfl, rfl, by decide +kernel, rfl, by decide +kernel, by decide +kernel⟩
theorem wide35 : CMulW ((10 : Int) ^ (35 : Int).toNat) ((10 : Int) ^ (35 : Int).toNat) := by
  have h : ((10 : Int) ^ (35 : Int).toNat).natAbs < 2 ^ 128 := by decide
  exact wide_mul h h (by decide) (by decide) (by decide)
theorem big_eq : (10 : Int) ^ (35 : Int).toNat * (10 : Int) ^ (35 : Int).toNat = big := by decide
theorem ok_value (T : Txt K mg C) (D : DefG K mg "is_value" sValue ["thing"]) (cW : Cal P w K mg base 1 "is_whole" spWhole) : Cal P w K mg base 2 "is_value" spValue := by
  refine D.cal scValue (fun vs H Q E h => ?_) (fun f cdv A outer s H vs Q E hr h => ?_)
  · obtain ⟨n, rfl, _⟩ := h
    rfl
  · obtain ⟨n, rfl, hb, k⟩ := h
    refine ⟨_, pss_one (ps_ret (pe_and (pe_c cW hr (by decide) (by rfl) (pa_cons (pv 0) pa_nil))
      (pe_one (pe_cmpR op_lt (pe_callB call_abs (by rfl) T.abs (by decide +kernel) (pa_cons (pv 0) pa_nil)) (pe_op op_mulW (pe_op op_pow pe_int pe_int) (pe_op op_pow pe_int pe_int)) (nomark _))))), ?_⟩
    refine ⟨_, rfl, _, rfl, true, rfl, iteT ?_⟩
    refine ⟨_, rfl, _, rfl, _, _, rfl, rfl, ⟨by decide, by decide, by decide⟩, _, _, rfl, rfl, ⟨by decide, by decide, by decide⟩, _, _, rfl, rfl, wide35, _, _, rfl, rfl, ?_⟩
    have e : decide ((if n < 0 then -n else n) < (10 : Int) ^ (35 : Int).toNat * (10 : Int) ^ (35 : Int).toNat) = true := by
      rw [big_eq]
      refine decide_eq_true ?_
      split <;> omega
    show Q (.bl (decide ((if n < 0 then -n else n) < (10 : Int) ^ (35 : Int).toNat * (10 : Int) ^ (35 : Int).toNat))) H
    rw [e]
    exact k

/-! ### is_name -/
def spName : Sp := fun vs H Q _ => ∃ x : Str, vs = [.str x] ∧ NameOk x ∧ Q (.bl true) H
theorem scName : FnScope ["thing", "sign"] ["thing"] (defScope sName) := ⟨rfl, rfl, rfl, by decide +kernel, rfl, by decide +kernel, by decide +kernel⟩
theorem ok_name (T : Txt K mg C) (D : DefG K mg "is_name" sName ["thing"]) : Cal P w K mg base 1 "is_name" spName := by
  refine D.cal scName (fun vs H Q E h => ?_) (fun f cdv A outer s H vs Q E hr h => ?_)
  · obtain ⟨n, rfl, _⟩ := h
    rfl
  · obtain ⟨x, rfl, N, k⟩ := h
    obtain ⟨tl, hl⟩ := T.ltr
    obtain ⟨tf, hf⟩ := T.fig
    refine ⟨_, pss_cons (ps_if (PW.pt (pw_or (pt_not (pt_val (pe_callB call_isi (by rfl) T.isinstance (by decide +kernel) (pa_cons (pv 0) (pa_cons (pe_bltn (v := .ty "str") (by rfl) T.str (by decide +kernel) rfl) pa_nil)))))
        (pw_or1 (pt_not (pt_chain op_le op_le pe_int (pe_callB call_len (by rfl) T.len PySem.boot_len (pa_cons (pv 0) pa_nil)) pe_int))))) pss_never pss_nil)
      (pss_cons (ps_for PassesOwn.never rfl (pi_str (pv 0)) (pg_name (i := 1) scName.nd rfl (Or.inl rfl))
        (pss_one (ps_if (PW.pt (pw_and (pt_cmpR op_notIn_sign (pv 1) (pe_glob (v := .str ltrS) (by rfl) hl ⟨_, rfl⟩) rfl) (pw_and1 (pt_cmpR op_notIn_sign (pv 1) (pe_glob (v := .str figS) (by rfl) hf ⟨_, rfl⟩) rfl)))) pss_never pss_nil)))
      (pss_one (ps_ret (pe_cmpR op_in_sign (pe_ix ix_str (pv 0) pe_int (fun _ _ => rfl)) (pe_glob (v := .str ltrS) (by rfl) hl ⟨_, rfl⟩) rfl)))), ?_⟩
    have hsz : x.length ≤ sizeLine := Nat.le_trans N.hi (by rw [sizeLine_eq]; decide)
    refine ⟨_, rfl, _, _, _, _, _, rfl, .ty _, .base (.str _), kit_ty k_ss, true, rfl, ?_⟩
    refine iteF ?_
    refine ⟨_, rfl, _, x.length, rfl, ⟨hsz, rfl⟩, _, _, rfl, rfl, true, ?_, iteT ⟨_, _, rfl, rfl, true, ?_, iteF ?_⟩⟩
    · exact congrArg V.bl (decide_eq_true (by have := N.lo; show (1 : Int) ≤ ((x.cps.size : Nat) : Int); omega))
    · exact congrArg V.bl (decide_eq_true (by have := N.hi; show ((x.cps.size : Nat) : Int) ≤ 12; omega))
    refine ⟨_, rfl, x, rfl, for_str (fun i σ H' => H' = H ∧ ∃ v, σ = [some (.str x), v]) ⟨rfl, none, rfl⟩ ?_ ?_⟩
    · rintro i c σ H' hc ⟨rfl, v, rfl⟩
      have hm : c ∈ x.cps.toList := List.mem_of_getElem? (by rw [Array.getElem?_toList]; exact hc)
      refine ⟨_, rfl, c, ltrS, rfl, rfl, _, rfl, ?_⟩
      rcases N.ch c hm with h | h
      · rw [decide_eq_true h]
        exact iteF (iteF ⟨rfl, _, rfl⟩)
      · by_cases h2 : c ∈ ltrS.cps.toList
        · rw [decide_eq_true h2]
          exact iteF (iteF ⟨rfl, _, rfl⟩)
        · rw [decide_eq_false h2]
          refine iteT ⟨_, rfl, c, figS, rfl, rfl, _, rfl, ?_⟩
          rw [decide_eq_true h]
          exact iteF ⟨rfl, _, rfl⟩
    · rintro σ H' ⟨rfl, v, rfl⟩
      obtain ⟨c, hc, hm⟩ := N.hd
      refine ⟨_, rfl, x, 0, c, rfl, rfl, hsz, atI_nat (j := 0) hc, c, ltrS, rfl, rfl, ?_⟩
      rw [decide_eq_true hm]
      exact k

/-! ### is_row -/
def spRow (K : PySem.W.Frag) : Sp := fun vs H Q _ => ∃ (a : Addr) (k : List Int), vs = [.ref a] ∧ H a = some (.tup (k.map V.int)) ∧ RowOk k ∧ Q (.bl true) H
theorem scRow : FnScope ["thing", "value"] ["thing"] (defScope sRow) := ⟨rfl, rfl, rfl, by decide +kernel, rfl, by decide +kernel, by decide +kernel⟩
theorem ok_row (T : Txt K mg C) (D : DefG K mg "is_row" sRow ["thing"]) (cV : Cal P w K mg base 2 "is_value" spValue) : Cal P w K mg base 3 "is_row" (spRow K) := by
  refine D.cal scRow (fun vs H Q E h => ?_) (fun f cdv A outer s H vs Q E hr h => ?_)
  · obtain ⟨a, k, rfl, _⟩ := h
    rfl
  · obtain ⟨a, k, rfl, hT, R, q⟩ := h
    refine ⟨_, pss_cons (ps_if (PW.pt (pw_or (pt_not (pt_val (pe_callB call_isi (by rfl) T.isinstance (by decide +kernel) (pa_cons (pv 0) (pa_cons (pe_bltn (v := .ty "tuple") (by rfl) T.tuple (by decide +kernel) rfl) pa_nil)))))
        (pw_or1 (pt_not (pt_chain op_le op_le pe_int (pe_callB call_len_seq (by rfl) T.len PySem.boot_len (pa_cons (pv 0) pa_nil)) pe_int))))) pss_never pss_nil)
      (pss_cons (ps_for PassesOwn.never rfl (pi_tup (pv 0)) (pg_name (i := 1) scRow.nd rfl (Or.inl rfl))
        (pss_one (ps_if (pt_not (pt_val (pe_c cV hr (by decide) (by rfl) (pa_cons (pv 1) pa_nil)))) pss_never pss_nil)))
      (pss_one (ps_ret pe_bl))), ?_⟩
    refine ⟨_, rfl, _, _, _, _, _, rfl, .ty _, .base (.tup hT), kit_ty k_tt, true, rfl, iteF ?_⟩
    refine ⟨_, rfl, a, _, rfl, .inr (SqT.of hT), _, _, rfl, rfl, true, ?_, iteT ⟨_, _, rfl, rfl, true, ?_, iteF ?_⟩⟩
    · exact congrArg V.bl (decide_eq_true (by have := R.lo; rw [List.length_map]; omega))
    · exact congrArg V.bl (decide_eq_true (by have := R.hi; rw [List.length_map]; omega))
    refine ⟨_, rfl, a, rfl, ⟨_, SqT.of hT⟩, for_tup (K := K) (a := a) (xs := k.map V.int) (fun i σ H' => H' = H ∧ ∃ v, σ = [some (.ref a), v]) ⟨rfl, none, rfl⟩ (fun i σ H' _ h => by rw [h.1]; exact SqT.of hT) ?_ ?_⟩
    · rintro i x σ H' hi ⟨rfl, v, rfl⟩
      rw [List.getElem?_map] at hi
      obtain ⟨n, hn, rfl⟩ := Option.map_eq_some_iff.mp hi
      refine ⟨_, rfl, n, rfl, R.sm n (List.mem_of_getElem? hn), true, rfl, iteF ⟨rfl, _, rfl⟩⟩
    · rintro σ H' ⟨rfl, v, rfl⟩
      exact q

/-! ### is_rows -/
structure RowsGood (d : Nat) (L : List (Addr × List Int)) : Prop where
  ok : ∀ p ∈ L, RowOk p.2 ∧ p.2.length = d
  nd : (rows L).Nodup
  few : L.length ≤ 60
def spRows (K : PySem.W.Frag) : Sp := fun vs H Q _ => ∃ (a : Addr) (L : List (Addr × List Int)) (d : Nat), vs = [.ref a] ∧ H a = some (.lst (refs L)) ∧ Tups H L ∧ RowsGood d L ∧ Q (.bl true) H
theorem scRows : FnScope ["thing", "row"] ["thing"] (defScope sRows) := ⟨rfl, rfl, rfl, by decide +kernel, rfl, by decide +kernel, by decide +kernel⟩
theorem ok_rows (T : Txt K mg C) (D : DefG K mg "is_rows" sRows ["thing"]) (cR : Cal P w K mg base 3 "is_row" (spRow K)) : Cal P w K mg base 4 "is_rows" (spRows K) := by
  refine D.cal scRows (fun vs H Q E h => ?_) (fun f cdv A outer s H vs Q E hr h => ?_)
  · obtain ⟨a, k, d, rfl, _⟩ := h
    rfl
  · obtain ⟨a, L, d, rfl, hL, hT, G, q⟩ := h
    refine ⟨_, pss_cons (ps_if (PW.pt (pw_or (pt_not (pt_val (pe_callB call_isi (by rfl) T.isinstance (by decide +kernel) (pa_cons (pv 0) (pa_cons (pe_bltn (v := .ty "list") (by rfl) T.list (by decide +kernel) rfl) pa_nil)))))
        (pw_or1 (pt_cmpR op_gt (pe_callB call_len_seq (by rfl) T.len PySem.boot_len (pa_cons (pv 0) pa_nil)) pe_int (nomark _))))) pss_never pss_nil)
      (pss_cons (ps_for PassesOwn.never rfl (pi_list (pv 0)) (pg_name (i := 1) scRows.nd rfl (Or.inl rfl))
        (pss_one (ps_if (PW.pt (pw_or (pt_not (pt_val (pe_c cR hr (by decide) (by rfl) (pa_cons (pv 1) pa_nil))))
          (pw_or1 (pt_cmpR op_ne (pe_callB call_len_seq (by rfl) T.len PySem.boot_len (pa_cons (pv 1) pa_nil)) (pe_callB call_len_seq (by rfl) T.len PySem.boot_len (pa_cons (pe_ix ix_list (pv 0) pe_int (fun _ _ => rfl)) pa_nil)) (nomark _))))) pss_never pss_nil)))
      (pss_one (ps_ret (pe_cmpR op_eq (pe_lenSetR rfl hr.units (by rfl) T.len (by rfl) T.set (pv 0)) (pe_callB call_len_seq (by rfl) T.len PySem.boot_len (pa_cons (pv 0) pa_nil)) (nomark _))))), ?_⟩
    refine ⟨_, rfl, _, _, _, _, _, rfl, .ty _, .base (.lst hL), kit_ty k_ll, true, rfl, iteF ?_⟩
    refine ⟨_, rfl, a, _, rfl, .inl (SqL.of hL), _, _, rfl, rfl, false, ?_, iteF ?_⟩
    · exact congrArg V.bl (decide_eq_false (by have := G.few; rw [List.length_map]; omega))
    refine ⟨_, rfl, a, rfl, ⟨_, SqL.of hL⟩, for_list (K := K) (a := a) (xs := refs L) (fun i σ H' => H' = H ∧ ∃ v, σ = [some (.ref a), v]) ⟨rfl, none, rfl⟩ (fun i σ H' _ h => by rw [h.1]; exact SqL.of hL) ?_ ?_⟩
    · rintro i x σ H' hi ⟨rfl, v, rfl⟩
      rw [List.getElem?_map] at hi
      obtain ⟨p, hp, rfl⟩ := Option.map_eq_some_iff.mp hi
      have pm : p ∈ L := List.mem_of_getElem? hp
      obtain ⟨p0, r, e0⟩ : ∃ p0 r, L = p0 :: r := by
        cases L with
        | nil => cases pm
        | cons p0 r => exact ⟨p0, r, rfl⟩
      have pm0 : p0 ∈ L := by rw [e0]; exact List.mem_cons_self
      refine ⟨_, rfl, p.1, p.2, rfl, hT p pm, (G.ok p pm).1, true, rfl, iteF ?_⟩
      refine ⟨_, rfl, p.1, _, rfl, .inr (SqT.of (hT p pm)), _, rfl, a, refs L, 0, .ref p0.1, rfl, rfl, SqL.of hL, atI_nat (j := 0) (by rw [e0] <;> rfl), p0.1, _, rfl, .inr (SqT.of (hT p0 pm0)), rfl, false, ?_, iteF ⟨rfl, _, rfl⟩⟩
      rw [List.length_map, List.length_map, (G.ok p pm).2, (G.ok p0 pm0).2]
      exact congrArg V.bl (by rw [decide_eq_true rfl] <;> rfl)
    · rintro σ H' ⟨rfl, v, rfl⟩
      refine ⟨_, rfl, a, L, rfl, SqL.of hL, fun p hp => SqT.of (hT p hp), by have := G.few; omega, G.nd, _, rfl, a, _, rfl, .inl (SqL.of hL), rfl, ?_⟩
      rw [List.length_map, decide_eq_true rfl]
      exact q

/-! ### is_book -/
/-- a plain book: each table, its list, the list's rows -/
abbrev Tabs := List (Str × Addr × List (Addr × List Int))
def pkv (P : Tabs) : List (Key × V) := P.map fun e => (Sum.inr e.1, V.ref e.2.1)
structure PB (H : Hp) (q : Addr) (P : Tabs) : Prop where
  d : H q = some (.dK (pkv P))
  l : ∀ e ∈ P, H e.2.1 = some (.lst (refs e.2.2))
  t : ∀ e ∈ P, Tups H e.2.2
structure PGood (P : Tabs) : Prop where
  nm : ∀ e ∈ P, NameOk e.1
  nd : (P.map (·.1)).Nodup
  few : P.length ≤ 12
  ok : ∀ e ∈ P, ∃ d, RowsGood d e.2.2
/-- what a table of names to values holds -/
theorem valV_map {α : Type} (f : α → Str) (g : α → V) : ∀ {P : List α} {e : α}, (P.map f).Nodup → e ∈ P → valV (P.map fun x => ((Sum.inr (f x) : Key), g x)) (Sum.inr (f e)) = some (g e)
  | [], _, _, h => by cases h
  | a :: r, e, hn, h => by
    rw [List.map_cons, List.nodup_cons] at hn
    rw [List.map_cons]
    rcases List.mem_cons.mp h with z | z
    · subst z
      exact valV_pos rfl
    · have ne : ¬ (Sum.inr (f a) : Key) = Sum.inr (f e) := fun w => hn.1 (by rw [Sum.inr.inj w]; exact List.mem_map.mpr ⟨e, z, rfl⟩)
      rw [valV_neg (p := ((Sum.inr (f a) : Key), g a)) ne]
      exact valV_map f g hn.2 z
theorem PB.val {H : Hp} {q : Addr} {P : Tabs} (G : (P.map (·.1)).Nodup) {e : Str × Addr × List (Addr × List Int)} (h : e ∈ P) : valV (pkv P) (Sum.inr e.1) = some (V.ref e.2.1) :=
  valV_map (fun x : Str × Addr × List (Addr × List Int) => x.1) (fun x => V.ref x.2.1) G h
/-- a book seen while it is locked -/
theorem PB.lock {H : Hp} {q : Addr} {P : Tabs} {o : HO} (B : PB H q P) : (∀ e ∈ P, (upd H q o) e.2.1 = some (.lst (refs e.2.2))) ∧ ∀ e ∈ P, Tups (upd H q o) e.2.2 := by
  refine ⟨fun e he => ?_, fun e he p hp => ?_⟩
  · rw [upd_ne (ne_of (B.l e he) B.d (by intro z; cases z))]
    exact B.l e he
  · rw [upd_ne (ne_of (B.t e he p hp) B.d (by intro z; cases z))]
    exact B.t e he p hp
def spBook (K : PySem.W.Frag) : Sp := fun vs H Q _ => ∃ (q : Addr) (P : Tabs), vs = [.ref q] ∧ PB H q P ∧ PGood P ∧ Q (.bl true) H
theorem scBook : FnScope ["thing", "table"] ["thing"] (defScope sBook) := ⟨rfl, rfl, rfl, by decide +kernel, rfl, by decide +kernel, by decide +kernel⟩
theorem ok_book (T : Txt K mg C) (D : DefG K mg "is_book" sBook ["thing"]) (cN : Cal P w K mg base 1 "is_name" spName) (cR : Cal P w K mg base 4 "is_rows" (spRows K)) : Cal P w K mg base 5 "is_book" (spBook K) := by
  refine D.cal scBook (fun vs H Q E h => ?_) (fun f cdv A outer s H vs Q E hr h => ?_)
  · obtain ⟨a, k, rfl, _⟩ := h
    rfl
  · obtain ⟨q, P, rfl, B, G, k⟩ := h
    have hu := hu_of hr
    refine ⟨_, pss_cons (ps_if (PW.pt (pw_or (pt_not (pt_val (pe_callB call_isi (by rfl) T.isinstance (by decide +kernel) (pa_cons (pv 0) (pa_cons (pe_bltn (v := .ty "dict") (by rfl) T.dict (by decide +kernel) rfl) pa_nil)))))
        (pw_or1 (pt_cmpR op_gt (pe_callB call_lenD (by rfl) T.len PySem.boot_len (pa_cons (pv 0) pa_nil)) pe_int (nomark _))))) pss_never pss_nil)
      (pss_cons (ps_lock (ps_for PassesOwn.never rfl (pi_keys (pv 0)) (pg_name (i := 1) scBook.nd rfl (Or.inl rfl))
        (pss_one (ps_if (PW.pt (pw_or (pt_not (pt_val (pe_c cN hr (by decide) (by rfl) (pa_cons (pv 1) pa_nil))))
          (pw_or1 (pt_not (pt_val (pe_c cR hr (by decide) (by rfl) (pa_cons (pe_dget hu (pv 0) (pv 1) (fun _ _ => rfl)) pa_nil))))))) pss_never pss_nil))))
      (pss_one (ps_ret pe_bl))), ?_⟩
    refine ⟨_, rfl, _, _, _, _, _, rfl, .ty _, .base (.dK B.d), kit_ty k_dd, true, rfl, iteF ?_⟩
    refine ⟨_, rfl, q, _, rfl, B.d, _, _, rfl, rfl, false, ?_, iteF ?_⟩
    · exact congrArg V.bl (decide_eq_false (by have := G.few; unfold pkv; rw [List.length_map]; omega))
    refine ⟨q, _, B.d, trivial, fun od => ⟨_, rfl, q, od, rfl, .inl ⟨pkv P, upd_same, ?_⟩⟩⟩
    obtain ⟨B1, B2⟩ := B.lock (o := .frz od (.dK (pkv P)))
    refine for_keys (fun i σ H' => H' = upd H q (.frz od (.dK (pkv P))) ∧ ∃ v, σ = [some (.ref q), v]) ⟨rfl, none, rfl⟩ (fun i σ H' _ h => by rw [h.1, upd_same]) ?_ ?_
    · rintro i k v σ H' hi ⟨rfl, v', rfl⟩
      have hm := List.mem_of_getElem? hi
      obtain ⟨e, he, ee⟩ := List.mem_map.mp hm
      injection ee with e1 e2
      subst e1
      refine ⟨_, rfl, e.1, rfl, G.nm e he, true, rfl, iteF ?_⟩
      obtain ⟨d, g⟩ := G.ok e he
      refine ⟨_, rfl, _, rfl, q, _, rfl, .inl ⟨pkv P, Sum.inr e.1, .inr ⟨od, upd_same⟩, rfl, (PB.val (H := H) (q := q) G.nd he).symm⟩, e.2.1, e.2.2, d, rfl, B1 e he, B2 e he, g, true, rfl, iteF ⟨rfl, _, rfl⟩⟩
    · rintro σ H' ⟨rfl, v', rfl⟩
      refine ⟨upd_same, ?_⟩
      rw [upd_back B.d]
      exact k
end
end Aw

/-! widths_of, the class Book. -/
namespace Aw
open PySem PySem.Spec PyProof.Rows L2

/-! ### lists -/
theorem take_fresh {α β : Type} {f : α → β} {W : List α} {i : Nat} {e : α} (hn : (W.map f).Nodup) (h : W[i]? = some e) : ∀ x ∈ W.take i, f x ≠ f e := by
  intro x hx z
  obtain ⟨hi, he⟩ := List.getElem?_eq_some_iff.mp h
  obtain ⟨j, hj, hxj⟩ := List.mem_iff_getElem.mp hx
  rw [List.length_take] at hj
  rw [List.getElem_take] at hxj
  have hj' : j < W.length := by omega
  have e1 : (W.map f)[j]'(by rw [List.length_map]; exact hj') = (W.map f)[i]'(by rw [List.length_map]; exact hi) := by
    rw [List.getElem_map, List.getElem_map, hxj, he, z]
  have := (List.getElem_inj hn).mp e1
  omega
theorem valV_none {α : Type} (f : α → Str) (g : α → V) {x : Str} : ∀ {P : List α}, (∀ e ∈ P, f e ≠ x) → valV (P.map fun e => ((Sum.inr (f e) : Key), g e)) (Sum.inr x) = none
  | [], _ => rfl
  | a :: r, h => by
    have ne : ¬ (Sum.inr (f a) : Key) = Sum.inr x := fun w => h a List.mem_cons_self (Sum.inr.inj w)
    rw [List.map_cons, valV_neg (p := ((Sum.inr (f a) : Key), g a)) ne]
    exact valV_none f g fun e he => h e (List.mem_cons_of_mem _ he)
theorem put_next {α : Type} (f : α → Str) (g : α → V) {P : List α} {e : α} (h : ∀ x ∈ P, f x ≠ f e) :
    putK (P.map fun x => ((Sum.inr (f x) : Key), g x)) (Sum.inr (f e)) (g e) = (P ++ [e]).map fun x => ((Sum.inr (f x) : Key), g x) := by
  rw [putK_new _ (valV_none f g h), List.map_append] <;> rfl

/-! ### tables and widths -/
structure Tab where
  n : Str
  w : Int
  d : Addr
  l : Addr
/-- a pair of the list that a Book is made of: where it stands, its name, its width -/
abbrev Pr := Addr × Str × Int
structure PrOk (H : Hp) (W : List Pr) : Prop where
  t : ∀ e ∈ W, H e.1 = some (.tup [.str e.2.1, .int e.2.2])
  nm : ∀ e ∈ W, NameOk e.2.1
  wd : ∀ e ∈ W, 1 ≤ e.2.2 ∧ e.2.2 ≤ 6
  nd : (W.map (·.2.1)).Nodup
  few : W.length ≤ 12
theorem PrOk.same {H H' : Hp} {W : List Pr} (G : PrOk H W) (h : ∀ b xs, H b = some (.tup xs) → H' b = some (.tup xs)) : PrOk H' W :=
  ⟨fun e he => h _ _ (G.t e he), G.nm, G.wd, G.nd, G.few⟩
abbrev wkv (W : List Pr) : List (Key × V) := W.map fun e => ((Sum.inr e.2.1 : Key), V.int e.2.2)
section
variable {P : Program} {w : World} {K : PySem.W.Frag} {mg : Str → Option Value} {base : Heap} {C : Addr}
def spWidths (K : PySem.W.Frag) : Sp := fun vs H Q _ => ∃ (a : Addr) (W : List Pr), vs = [.ref a] ∧ H a = some (.lst (W.map fun e => V.ref e.1)) ∧ PrOk H W ∧ ∀ q, H q = none → Q (.ref q) (upd H q (.dK (wkv W)))
theorem scWidths : FnScope ["pairs", "found", "pair"] ["pairs"] (defScope sWidths) := ⟨rfl, rfl, rfl, by decide +kernel, rfl, by decide +kernel, by decide +kernel⟩
theorem ok_widths (T : Txt K mg C) (D : DefG K mg "widths_of" sWidths ["pairs"]) (cW : Cal P w K mg base 1 "is_whole" spWhole) (cN : Cal P w K mg base 1 "is_name" spName) : Cal P w K mg base 2 "widths_of" (spWidths K) := by
  refine D.cal scWidths (fun vs H Q E h => ?_) (fun f cdv A outer s H vs Q E hr h => ?_)
  · obtain ⟨a, k, rfl, _⟩ := h
    rfl
  · obtain ⟨a, W, rfl, hL, G, k⟩ := h
    have hu := hu_of hr
    refine ⟨_, pss_cons (ps_if (PW.pt (pw_or (pt_not (pt_val (pe_callB call_isi (by rfl) T.isinstance (by decide +kernel) (pa_cons (pv 0) (pa_cons (pe_bltn (v := .ty "list") (by rfl) T.list (by decide +kernel) rfl) pa_nil)))))
        (pw_or1 (pt_cmpR op_gt (pe_callB call_len_seq (by rfl) T.len PySem.boot_len (pa_cons (pv 0) pa_nil)) pe_int (nomark _))))) pss_never pss_nil)
      (pss_cons (ps_set (i := 1) scWidths.nd rfl (Or.inl rfl) pe_dnewK)
      (pss_cons (ps_for PassesOwn.never rfl (pi_list (pv 0)) (pg_name (i := 2) scWidths.nd rfl (Or.inl rfl))
        (pss_cons (ps_if (PW.pt (pw_or (pt_not (pt_val (pe_callB call_isi (by rfl) T.isinstance (by decide +kernel) (pa_cons (pv 2) (pa_cons (pe_bltn (v := .ty "tuple") (by rfl) T.tuple (by decide +kernel) rfl) pa_nil)))))
          (pw_or1 (pt_cmpR op_ne (pe_callB call_len_seq (by rfl) T.len PySem.boot_len (pa_cons (pv 2) pa_nil)) pe_int (nomark _))))) pss_never pss_nil)
        (pss_cons (ps_if (PW.pt (pw_or (pt_not (pt_val (pe_c cN hr (by decide) (by rfl) (pa_cons (pe_ix ix_tup (pv 2) pe_int (fun _ _ => rfl)) pa_nil))))
          (pw_or1 (pt_cmp (pc_din hu (pe_ix ix_tup (pv 2) pe_int (fun _ _ => rfl)) (pv 1)))))) pss_never pss_nil)
        (pss_cons (ps_if (PW.pt (pw_or (pt_not (pt_val (pe_c cW hr (by decide) (by rfl) (pa_cons (pe_ix ix_tup (pv 2) pe_int (fun _ _ => rfl)) pa_nil))))
          (pw_or1 (pt_not (pt_chain op_le op_le pe_int (pe_ix ix_tup (pv 2) pe_int (fun _ _ => rfl)) pe_int))))) pss_never pss_nil)
        (pss_one (ps_dput hu (pv 1) (pe_ix ix_tup (pv 2) pe_int (fun _ _ => rfl)) (pe_ix ix_tup (pv 2) pe_int (fun _ _ => rfl)) rfl))))))
      (pss_one (ps_ret (pv 1))))), ?_⟩
    refine ⟨_, rfl, _, _, _, _, _, rfl, .ty _, .base (.lst hL), kit_ty k_ll, true, rfl, iteF ?_⟩
    refine ⟨_, rfl, a, _, rfl, .inl (SqL.of hL), _, _, rfl, rfl, false, ?_, iteF ?_⟩
    · exact congrArg V.bl (decide_eq_false (by have := G.few; rw [List.length_map]; omega))
    intro q hq
    have naq : a ≠ q := ne_of_none hL hq
    refine ⟨_, rfl, a, rfl, ⟨_, SqL.of (by rw [upd_ne naq]; exact hL)⟩, for_list (K := K) (a := a) (xs := W.map fun e => V.ref e.1)
      (fun i σ H' => H' = upd H q (.dK (wkv (W.take i))) ∧ ∃ v, σ = [some (.ref a), some (.ref q), v]) ⟨rfl, none, rfl⟩ (fun i σ H' _ h => by rw [h.1]; exact SqL.of (by rw [upd_ne naq]; exact hL)) ?_ ?_⟩
    · rintro i x σ H' hi ⟨rfl, v, rfl⟩
      rw [List.getElem?_map] at hi
      obtain ⟨e, he, rfl⟩ := Option.map_eq_some_iff.mp hi
      have hm : e ∈ W := List.mem_of_getElem? he
      have hil : i < W.length := (List.getElem?_eq_some_iff.mp he).1
      have ht : (upd H q (.dK (wkv (W.take i)))) e.1 = some (.tup [.str e.2.1, .int e.2.2]) := by
        rw [upd_ne (ne_of_none (G.t e hm) hq)]
        exact G.t e hm
      have fr := take_fresh (f := fun e : Pr => e.2.1) G.nd he
      have hv : valV (wkv (W.take i)) (Sum.inr e.2.1) = none := valV_none (fun e : Pr => e.2.1) (fun e => V.int e.2.2) fr
      obtain ⟨w1, w2⟩ := G.wd e hm
      refine ⟨_, rfl, _, _, _, _, _, rfl, .ty _, .base (.tup ht), kit_ty k_tt, true, rfl, iteF ?_⟩
      refine ⟨_, rfl, e.1, _, rfl, .inr (SqT.of ht), rfl, false, rfl, iteF ?_⟩
      refine ⟨_, rfl, e.1, _, 0, _, rfl, rfl, SqT.of ht, atI_nat (j := 0) rfl, e.2.1, rfl, G.nm e hm, true, rfl, iteF ?_⟩
      refine ⟨_, rfl, e.1, _, 0, _, rfl, rfl, SqT.of ht, atI_nat (j := 0) rfl, _, rfl, q, _, rfl, DGet.k (k := Sum.inr e.2.1) upd_same, false, ?_, iteF ?_⟩
      · rw [hv] <;> rfl
      refine ⟨_, rfl, e.1, _, 1, _, rfl, rfl, SqT.of ht, atI_nat (j := 1) rfl, e.2.2, rfl, true, rfl, iteF ?_⟩
      refine ⟨_, rfl, e.1, _, 1, _, rfl, rfl, SqT.of ht, atI_nat (j := 1) rfl, _, _, rfl, rfl, true, congrArg V.bl (decide_eq_true w1), iteT ⟨_, _, rfl, rfl, true, congrArg V.bl (decide_eq_true w2), iteF ?_⟩⟩
      refine ⟨_, rfl, e.1, _, 1, _, rfl, rfl, SqT.of ht, atI_nat (j := 1) rfl, _, rfl, _, rfl, e.1, _, 0, _, rfl, rfl, SqT.of ht, atI_nat (j := 0) rfl, q, _, rfl, DPut.k (k := Sum.inr e.2.1) upd_same (small1000 ?_), ?_⟩
      · rw [List.length_map, List.length_take]
        have := G.few
        omega
      · refine ⟨?_, _, rfl⟩
        rw [upd_upd, put_next (fun e : Pr => e.2.1) (fun e => V.int e.2.2) fr, ← take_next he]
    · rintro σ H' ⟨rfl, v, rfl⟩
      rw [List.length_map, List.take_length]
      exact ⟨_, rfl, k q hq⟩

/-! ### a Book -/
theorem hb_ : ¬ (("held" : Str) = "breadths") := by decide +kernel
theorem bh_ : ¬ (("breadths" : Str) = "held") := by decide +kernel
def flds (b h : Addr) : List (Str × V) := putF "held" (.ref h) (putF "breadths" (.ref b) [])
theorem flds_b (b h : Addr) : (flds b h).lookup ("breadths" : Str) = some (.ref b) := by
  unfold flds
  rw [lookup_putF, if_neg bh_, lookup_putF, if_pos rfl]
theorem flds_h (b h : Addr) : (flds b h).lookup ("held" : Str) = some (.ref h) := by
  unfold flds
  rw [lookup_putF, if_pos rfl]
theorem flds_no (b h : Addr) {m : Str} (h1 : ¬ m = "held") (h2 : ¬ m = "breadths") : (flds b h).lookup m = none := by
  unfold flds
  rw [lookup_putF, if_neg h1, lookup_putF, if_neg h2] <;> rfl
abbrev bkv (T : List Tab) : List (Key × V) := T.map fun t => ((Sum.inr t.n : Key), V.int t.w)
abbrev hkv (T : List Tab) : List (Key × V) := T.map fun t => ((Sum.inr t.n : Key), V.ref t.d)
/-- the tables by name and width -/
structure TabsOk (T : List Tab) : Prop where
  nm : ∀ t ∈ T, NameOk t.n
  wd : ∀ t ∈ T, 1 ≤ t.w ∧ t.w ≤ 6
  nd : (T.map (·.n)).Nodup
  few : T.length ≤ 12
/-- a Book at p: its two dicts (the tables' own dicts apart) -/
structure BookAt (C : Addr) (H : Hp) (p : Addr) (T : List Tab) : Prop where
  ob : ∃ dx b h, H p = some (.ins C dx (flds b h)) ∧ H b = some (.dK (bkv T)) ∧ H h = some (.dK (hkv T))
  ok : TabsOk T
theorem bkv_val {T : List Tab} (G : TabsOk T) {t : Tab} (h : t ∈ T) : valV (bkv T) (Sum.inr t.n) = some (V.int t.w) := valV_map (fun t : Tab => t.n) (fun t => V.int t.w) G.nd h
theorem hkv_val {T : List Tab} (G : TabsOk T) {t : Tab} (h : t ∈ T) : valV (hkv T) (Sum.inr t.n) = some (V.ref t.d) := valV_map (fun t : Tab => t.n) (fun t => V.ref t.d) G.nd h
/-- the objects that only a Book's making writes -/
def Fix : HO → Prop
  | .ins _ _ _ => True
  | .dK _ => True
  | .tup _ => True
  | _ => False
theorem BookAt.keep {H H' : Hp} {p : Addr} {T : List Tab} (B : BookAt C H p T) (h : ∀ b o, H b = some o → Fix o → H' b = some o) : BookAt C H' p T := by
  obtain ⟨⟨dx, b, h', e1, e2, e3⟩, ok⟩ := B
  exact ⟨⟨dx, b, h', h _ _ e1 trivial, h _ _ e2 trivial, h _ _ e3 trivial⟩, ok⟩

def spInit (C : Addr) : Sp := fun vs H Q _ => ∃ (p dx a : Addr) (W : List Pr), vs = [.ref p, .ref a] ∧ H p = some (.ins C dx []) ∧ H a = some (.lst (W.map fun e => V.ref e.1)) ∧ PrOk H W ∧
  ∀ (T : List Tab) (H' : Hp), (T.map fun t => (t.n, t.w)) = W.map (fun e => (e.2.1, e.2.2)) → BookAt C H' p T → (∀ t ∈ T, H t.d = none ∧ H' t.d = some (.dT [])) → (T.map (·.d)).Nodup → (∀ b o, H b = some o → b ≠ p → H' b = some o) → Q .non H'
theorem scInit : FnScope ["self", "widths", "table"] ["self", "widths"] (defScope sInit) := ⟨rfl, rfl, rfl, by decide +kernel, rfl, by decide +kernel, by decide +kernel⟩
theorem map_pair {W : List Pr} {T : List Tab} (h : (T.map fun t => (t.n, t.w)) = W.map (fun e => (e.2.1, e.2.2))) : T.map (·.n) = W.map (·.2.1) ∧ bkv T = wkv W := by
  have e1 := congrArg (List.map Prod.fst) h
  have e2 := congrArg (List.map fun x : Str × Int => ((Sum.inr x.1 : Key), V.int x.2)) h
  rw [List.map_map, List.map_map] at e1 e2
  exact ⟨e1, e2⟩
theorem tabsOk_of {H : Hp} {W : List Pr} {T : List Tab} (G : PrOk H W) (h : (T.map fun t => (t.n, t.w)) = W.map (fun e => (e.2.1, e.2.2))) : TabsOk T := by
  have m : ∀ t ∈ T, ∃ e ∈ W, e.2.1 = t.n ∧ e.2.2 = t.w := fun t ht => by
    have : (t.n, t.w) ∈ W.map (fun e => (e.2.1, e.2.2)) := by
      rw [← h]
      exact List.mem_map.mpr ⟨t, ht, rfl⟩
    obtain ⟨e, he, ee⟩ := List.mem_map.mp this
    injection ee with e1 e2
    exact ⟨e, he, e1, e2⟩
  refine ⟨fun t ht => ?_, fun t ht => ?_, ?_, ?_⟩
  · obtain ⟨e, he, e1, _⟩ := m t ht
    rw [← e1]
    exact G.nm e he
  · obtain ⟨e, he, _, e2⟩ := m t ht
    rw [← e2]
    exact G.wd e he
  · rw [(map_pair h).1]
    exact G.nd
  · have := congrArg List.length h
    rw [List.length_map, List.length_map] at this
    rw [this]
    exact G.few
theorem ok_init (T : Txt K mg C) (D : MetG K C "__init__" "Book.__init__" sInit ["self", "widths"]) (cW : Cal P w K mg base 2 "widths_of" (spWidths K)) : Met P w K mg base 3 C "__init__" (spInit C) := by
  refine D.met scInit (fun vs H Q E h => ?_) (fun f cdv A outer s H vs Q E hr h => ?_)
  · obtain ⟨p, dx, a, W, rfl, _⟩ := h
    rfl
  · obtain ⟨p, dx, a, W, rfl, hp, hL, G, k⟩ := h
    have hu := hu_of hr
    refine ⟨_, pss_cons (ps_fld (pv 0) (pe_c cW hr (by decide) (by rfl) (pa_cons (pv 1) pa_nil)) rfl)
      (pss_cons (ps_fld (pv 0) pe_dnewK rfl)
      (pss_one (ps_lock (ps_for PassesOwn.never rfl (pi_keys (pe_fld (pv 0) rfl)) (pg_name (i := 2) scInit.nd rfl (Or.inl rfl))
        (pss_one (ps_dput hu (pe_fld (pv 0) rfl) (pv 2) pe_dnewT rfl)))))), ?_⟩
    -- self.breadths = widths_of(widths)
    refine ⟨_, rfl, a, W, rfl, hL, G, fun b hb => ?_⟩
    have npb : p ≠ b := ne_of_none hp hb
    refine ⟨_, rfl, p, C, dx, [], rfl, (by rw [upd_ne npb]; exact hp), T.cl, T.nB, (by show 0 < 1000; decide), ?_⟩
    -- self.held = {}
    intro h hh
    have nph : p ≠ h := fun z => by rw [← z, upd_same] at hh; cases hh
    have nbh : b ≠ h := fun z => by rw [← z, upd_ne npb.symm, upd_same] at hh; cases hh
    have hh0 : H h = none := by rw [upd_ne nph.symm, upd_ne nbh.symm] at hh; exact hh
    refine ⟨_, rfl, p, C, dx, _, rfl, (by rw [upd_ne nph, upd_same]), T.cl, T.nH, (by show 1 < 1000; decide), ?_⟩
    generalize hH2 : upd (upd (upd (upd H b (.dK (wkv W))) p (.ins C dx (putF "breadths" (.ref b) []))) h (.dK [])) p (.ins C dx (putF "held" (.ref h) (putF "breadths" (.ref b) []))) = H2
    have e2p : H2 p = some (.ins C dx (flds b h)) := by rw [← hH2, upd_same] <;> rfl
    have e2b : H2 b = some (.dK (wkv W)) := by rw [← hH2, upd_ne npb.symm, upd_ne nbh, upd_ne npb.symm, upd_same]
    have e2h : H2 h = some (.dK []) := by rw [← hH2, upd_ne nph.symm, upd_same]
    have e2k : ∀ c o, H c = some o → c ≠ p → H2 c = some o := fun c o hc hcp => by
      rw [← hH2, upd_ne hcp, upd_ne (ne_of_none hc hh0), upd_ne hcp, upd_ne (ne_of_none hc hb)]
      exact hc
    have e2f : ∀ c, H2 c = none → H c = none := fun c hc => by
      have n1 : c ≠ p := fun z => by rw [z, e2p] at hc; cases hc
      cases q : H c with
      | none => rfl
      | some o => rw [e2k c o q n1] at hc; cases hc
    -- for table in self.breadths
    refine ⟨b, _, e2b, trivial, fun od => ?_⟩
    refine ⟨_, rfl, p, C, dx, _, _, rfl, (by rw [upd_ne npb]; exact e2p), T.cl, T.nB, flds_b b h, b, od, rfl, .inl ⟨wkv W, upd_same, ?_⟩⟩
    refine for_keys (fun i σ H' => ∃ (v : Option V) (Ti : List Tab), σ = [some (.ref p), some (.ref a), v] ∧ (Ti.map fun t => (t.n, t.w)) = (W.take i).map (fun e => (e.2.1, e.2.2)) ∧ H' b = some (.frz od (.dK (wkv W))) ∧
        H' h = some (.dK (hkv Ti)) ∧ H' p = some (.ins C dx (flds b h)) ∧ (∀ t ∈ Ti, H t.d = none ∧ H' t.d = some (.dT [])) ∧ (Ti.map (·.d)).Nodup ∧ (∀ c o, H c = some o → c ≠ p → H' c = some o) ∧ (∀ c, H' c = none → H c = none))
      ⟨none, [], rfl, rfl, upd_same, by rw [upd_ne nbh.symm]; exact e2h, by rw [upd_ne npb]; exact e2p, fun t ht => (by cases ht), List.nodup_nil, fun c o hc hcp => by rw [upd_ne (ne_of_none hc hb)]; exact e2k c o hc hcp, fun c hc => ?_⟩
      (fun i σ H' _ ⟨_, _, _, _, e, _⟩ => e) ?_ ?_
    · by_cases z : c = b
      · rw [z]; exact hb
      · rw [upd_ne z] at hc; exact e2f c hc
    · rintro i key v σ H' hi ⟨v0, Ti, rfl, eT, eb, eh, ep, ed, nd, kp, fr⟩
      rw [List.getElem?_map] at hi
      obtain ⟨e, he, ee⟩ := Option.map_eq_some_iff.mp hi
      injection ee with e1 e2
      subst e1
      intro d hd
      have nhd : h ≠ d := ne_of_none eh hd
      have npd : p ≠ d := ne_of_none ep hd
      have nbd : b ≠ d := ne_of_none eb hd
      have hlen : Ti.length ≤ 12 := by
        have z := congrArg List.length eT
        rw [List.length_map, List.length_map, List.length_take] at z
        have := G.few
        omega
      refine ⟨_, rfl, p, C, dx, _, _, rfl, (by rw [upd_ne npd]; exact ep), T.cl, T.nH, flds_h b h, _, rfl, h, _, rfl, DPut.k (k := Sum.inr e.2.1) (by rw [upd_ne nhd]; exact eh) (small1000 (by rw [List.length_map]; omega)), ?_⟩
      have fresh : ∀ x ∈ Ti, x.n ≠ (Tab.mk e.2.1 e.2.2 d 0).n := fun x hx z => by
        have m : (x.n, x.w) ∈ (W.take i).map (fun e => (e.2.1, e.2.2)) := by
          rw [← eT]
          exact List.mem_map.mpr ⟨x, hx, rfl⟩
        obtain ⟨y, hy, yy⟩ := List.mem_map.mp m
        injection yy with y1 y2
        exact take_fresh (f := fun e : Pr => e.2.1) G.nd he y hy (y1.trans z)
      refine ⟨_, Ti ++ [⟨e.2.1, e.2.2, d, 0⟩], rfl, ?_, ?_, ?_, ?_, ?_, ?_, ?_, ?_⟩
      · rw [List.map_append, eT, take_next he, List.map_append] <;> rfl
      · rw [upd_ne nbh, upd_ne nbd]; exact eb
      · rw [upd_same, put_next (fun t : Tab => t.n) (fun t => V.ref t.d) (e := ⟨e.2.1, e.2.2, d, 0⟩) fresh]
      · rw [upd_ne nph, upd_ne npd]; exact ep
      · intro t ht
        rcases List.mem_append.mp ht with ht | ht
        · obtain ⟨t1, t2⟩ := ed t ht
          refine ⟨t1, ?_⟩
          rw [upd_ne (ne_of t2 eh (by intro z; cases z)), upd_ne (ne_of_none t2 hd)]
          exact t2
        · have := List.mem_singleton.mp ht
          subst this
          exact ⟨fr d hd, by rw [upd_ne nhd.symm, upd_same]⟩
      · rw [List.map_append]
        refine List.nodup_append.mpr ⟨nd, (by simp), fun x hx y hy => ?_⟩
        obtain ⟨t, ht, rfl⟩ := List.mem_map.mp hx
        have : y = d := by simpa using hy
        rw [this]
        exact ne_of_none (ed t ht).2 hd
      · intro c o hc hcp
        have := kp c o hc hcp
        rw [upd_ne (ne_of_none hc hh0), upd_ne (ne_of_none this hd)]
        exact this
      · intro c hc
        by_cases z : c = h
        · rw [z]; exact hh0
        · rw [upd_ne z] at hc
          by_cases z2 : c = d
          · rw [z2]; exact fr d hd
          · rw [upd_ne z2] at hc; exact fr c hc
    · rintro σ H' ⟨v0, Ti, rfl, eT, eb, eh, ep, ed, nd, kp, fr⟩
      rw [List.length_map, List.take_length] at eT
      refine ⟨eb, k Ti _ eT ⟨⟨dx, b, h, by rw [upd_ne npb]; exact ep, by rw [upd_same, (map_pair eT).2], by rw [upd_ne nbh.symm]; exact eh⟩, tabsOk_of G eT⟩ (fun t ht => ⟨(ed t ht).1, ?_⟩) nd fun c o hc hcp => ?_⟩
      · rw [upd_ne (ne_of (ed t ht).2 eb (by intro z; cases z))]
        exact (ed t ht).2
      · rw [upd_ne (ne_of_none hc hb)]
        exact kp c o hc hcp

/-! ### its methods -/
def spRowsOf (C : Addr) : Sp := fun vs H Q _ => ∃ (p : Addr) (T : List Tab) (t : Tab), vs = [.ref p, .str t.n] ∧ BookAt C H p T ∧ t ∈ T ∧ Q (.ref t.d) H
theorem scRowsOf : FnScope ["self", "table"] ["self", "table"] (defScope sRowsOf) := ⟨rfl, rfl, rfl, by decide +kernel, rfl, by decide +kernel, by decide +kernel⟩
theorem ok_rowsOf (T : Txt K mg C) (D : MetG K C "rows_of" "Book.rows_of" sRowsOf ["self", "table"]) (cN : Cal P w K mg base 1 "is_name" spName) : Met P w K mg base 2 C "rows_of" (spRowsOf C) := by
  refine D.met scRowsOf (fun vs H Q E h => ?_) (fun f cdv A outer s H vs Q E hr h => ?_)
  · obtain ⟨p, L, t, rfl, _⟩ := h
    rfl
  · obtain ⟨p, L, t, rfl, B, ht, k⟩ := h
    have hu := hu_of hr
    obtain ⟨⟨dx, b, h', e1, e2, e3⟩, G⟩ := B
    refine ⟨_, pss_cons (ps_if (PW.pt (pw_or (pt_not (pt_val (pe_c cN hr (by decide) (by rfl) (pa_cons (pv 1) pa_nil)))) (pw_or1 (pt_cmp (pc_dnotin hu (pv 1) (pe_fld (pv 0) rfl)))))) pss_never pss_nil)
      (pss_one (ps_ret (pe_dget hu (pe_fld (pv 0) rfl) (pv 1) (fun _ _ => rfl)))), ?_⟩
    refine ⟨_, rfl, t.n, rfl, G.nm t ht, true, rfl, iteF ?_⟩
    refine ⟨_, rfl, _, rfl, p, C, dx, _, _, rfl, e1, T.cl, T.nB, flds_b b h', b, _, rfl, DGet.k (k := Sum.inr t.n) e2, false, ?_, iteF ?_⟩
    · rw [bkv_val G ht] <;> rfl
    refine ⟨_, rfl, p, C, dx, _, _, rfl, e1, T.cl, T.nH, flds_h b h', _, rfl, h', _, rfl, ?_, k⟩
    have := DGet.k (k := Sum.inr t.n) e3
    rw [hkv_val G ht] at this
    exact this

/-- a row as it is handed in -/
structure RowAt (H : Hp) (r : Addr) (k : List Int) (w : Int) : Prop where
  t : H r = some (.tup (k.map V.int))
  ok : RowOk k
  w : (k.length : Int) = w
def spRowsFor (C : Addr) : Sp := fun vs H Q _ => ∃ (p r : Addr) (T : List Tab) (t : Tab) (k : List Int), vs = [.ref p, .str t.n, .ref r] ∧ BookAt C H p T ∧ t ∈ T ∧ RowAt H r k t.w ∧ Q (.ref t.d) H
theorem scRowsFor : FnScope ["self", "table", "row", "found"] ["self", "table", "row"] (defScope sRowsFor) := ⟨rfl, rfl, rfl, by decide +kernel, rfl, by decide +kernel, by decide +kernel⟩
theorem ok_rowsFor (T : Txt K mg C) (D : MetG K C "rows_for" "Book.rows_for" sRowsFor ["self", "table", "row"]) (mO : Met P w K mg base 2 C "rows_of" (spRowsOf C)) (cR : Cal P w K mg base 3 "is_row" (spRow K)) : Met P w K mg base 4 C "rows_for" (spRowsFor C) := by
  refine D.met scRowsFor (fun vs H Q E h => ?_) (fun f cdv A outer s H vs Q E hr h => ?_)
  · obtain ⟨p, r, L, t, kk, rfl, _⟩ := h
    rfl
  · obtain ⟨p, r, L, t, kk, rfl, B, ht, R, k⟩ := h
    have hu := hu_of hr
    obtain ⟨⟨dx, b, h', e1, e2, e3⟩, G⟩ := id B
    refine ⟨_, pss_cons (ps_set (i := 3) scRowsFor.nd rfl (Or.inl rfl) (pe_mt T.cl mO hr (by decide) (pv 0) (pa_cons (pv 1) pa_nil)))
      (pss_cons (ps_if (PW.pt (pw_or (pt_not (pt_val (pe_c cR hr (by decide) (by rfl) (pa_cons (pv 2) pa_nil))))
        (pw_or1 (pt_cmpR op_ne (pe_callB call_len_seq (by rfl) T.len PySem.boot_len (pa_cons (pv 2) pa_nil)) (pe_dget hu (pe_fld (pv 0) rfl) (pv 1) (fun _ _ => rfl)) (nomark _))))) pss_never pss_nil)
      (pss_one (ps_ret (pv 3)))), ?_⟩
    refine ⟨_, rfl, p, dx, _, rfl, e1, flds_no _ _ (by decide +kernel) (by decide +kernel), _, rfl, p, L, t, rfl, B, ht, ?_⟩
    refine ⟨_, rfl, r, kk, rfl, R.t, R.ok, true, rfl, iteF ?_⟩
    have hg := DGet.k (k := Sum.inr t.n) e2
    rw [bkv_val G ht] at hg
    refine ⟨_, rfl, r, _, rfl, .inr (SqT.of R.t), _, rfl, p, C, dx, _, _, rfl, e1, T.cl, T.nB, flds_b b h', _, rfl, b, _, rfl, hg, rfl, false, ?_, iteF ?_⟩
    · rw [List.length_map, R.w, decide_eq_true rfl] <;> rfl
    exact ⟨_, rfl, k⟩
/-- the rows that a table holds -/
structure Held (H : Hp) (t : Tab) (ks : List (List Int)) : Prop where
  d : H t.d = some (.dT (rkv ks))
  ok : ∀ k ∈ ks, RowOk k ∧ (k.length : Int) = t.w
  few : ks.length ≤ 50
  nd : ks.Nodup
theorem keyRow' {H : Hp} {r : Addr} {k : List Int} (h : H r = some (.tup (k.map V.int))) : H r = some (.tup ((k.map Sum.inl : List Key).map kV)) := by
  rw [keyRow]
  exact h
def spPut (C : Addr) : Sp := fun vs H Q _ => ∃ (p r : Addr) (T : List Tab) (t : Tab) (k : List Int) (ks : List (List Int)), vs = [.ref p, .str t.n, .ref r] ∧ BookAt C H p T ∧ t ∈ T ∧ RowAt H r k t.w ∧ Held H t ks ∧ k ∉ ks ∧
  Q (.bl true) (upd H t.d (.dT (rkv (ks ++ [k]))))
theorem scPut : FnScope ["self", "table", "row", "found"] ["self", "table", "row"] (defScope sPut) := ⟨rfl, rfl, rfl, by decide +kernel, rfl, by decide +kernel, by decide +kernel⟩
theorem ok_put (T : Txt K mg C) (D : MetG K C "put" "Book.put" sPut ["self", "table", "row"]) (mF : Met P w K mg base 4 C "rows_for" (spRowsFor C)) : Met P w K mg base 5 C "put" (spPut C) := by
  refine D.met scPut (fun vs H Q E h => ?_) (fun f cdv A outer s H vs Q E hr h => ?_)
  · obtain ⟨p, r, L, t, kk, ks, rfl, _⟩ := h
    rfl
  · obtain ⟨p, r, L, t, kk, ks, rfl, B, ht, R, S, hn, k⟩ := h
    have hu := hu_of hr
    obtain ⟨⟨dx, b, h', e1, e2, e3⟩, G⟩ := id B
    refine ⟨_, pss_cons (ps_set (i := 3) scPut.nd rfl (Or.inl rfl) (pe_mt T.cl mF hr (by decide) (pv 0) (pa_cons (pv 1) (pa_cons (pv 2) pa_nil))))
      (pss_cons (ps_if (pt_cmp (pc_din hu (pv 2) (pv 3))) pss_never pss_nil)
      (pss_cons (ps_if (pt_cmpR op_ge (pe_callB call_len_dT (by rfl) T.len PySem.boot_len (pa_cons (pv 3) pa_nil)) pe_int (nomark _)) pss_never pss_nil)
      (pss_cons (ps_dput hu (pv 3) (pv 2) pe_bl rfl)
      (pss_one (ps_ret pe_bl))))), ?_⟩
    refine ⟨_, rfl, p, dx, _, rfl, e1, flds_no _ _ (by decide +kernel) (by decide +kernel), _, rfl, _, rfl, p, r, L, t, kk, rfl, B, ht, R, ?_⟩
    have hk := keyRow' R.t
    refine ⟨_, rfl, _, rfl, t.d, _, rfl, DGet.t S.d hk, false, ?_, iteF ?_⟩
    · rw [valV_rkv, if_neg hn] <;> rfl
    refine ⟨_, rfl, t.d, _, rfl, S.d, _, _, rfl, rfl, false, ?_, iteF ?_⟩
    · exact congrArg V.bl (decide_eq_false (by have := S.few; rw [length_rkv]; omega))
    refine ⟨_, rfl, _, rfl, t.d, _, rfl, DPut.t S.d hk (small1000 (by have := S.few; rw [length_rkv]; omega)), ?_⟩
    rw [putK_rkv hn]
    exact k
def spDrop (C : Addr) : Sp := fun vs H Q _ => ∃ (p r : Addr) (T : List Tab) (t : Tab) (k : List Int) (ks : List (List Int)), vs = [.ref p, .str t.n, .ref r] ∧ BookAt C H p T ∧ t ∈ T ∧ RowAt H r k t.w ∧ Held H t ks ∧
  (k ∈ ks → Q (.bl true) (upd H t.d (.dT (rkv (ks.filter fun x => decide (x ≠ k)))))) ∧ (k ∉ ks → Q (.bl false) H)
theorem scDrop : FnScope ["self", "table", "row", "found"] ["self", "table", "row"] (defScope sDrop) := ⟨rfl, rfl, rfl, by decide +kernel, rfl, by decide +kernel, by decide +kernel⟩
theorem ok_drop (T : Txt K mg C) (D : MetG K C "drop" "Book.drop" sDrop ["self", "table", "row"]) (mF : Met P w K mg base 4 C "rows_for" (spRowsFor C)) : Met P w K mg base 5 C "drop" (spDrop C) := by
  refine D.met scDrop (fun vs H Q E h => ?_) (fun f cdv A outer s H vs Q E hr h => ?_)
  · obtain ⟨p, r, L, t, kk, ks, rfl, _⟩ := h
    rfl
  · obtain ⟨p, r, L, t, kk, ks, rfl, B, ht, R, S, k1, k2⟩ := h
    have hu := hu_of hr
    obtain ⟨⟨dx, b, h', e1, e2, e3⟩, G⟩ := id B
    refine ⟨_, pss_cons (ps_set (i := 3) scDrop.nd rfl (Or.inl rfl) (pe_mt T.cl mF hr (by decide) (pv 0) (pa_cons (pv 1) (pa_cons (pv 2) pa_nil))))
      (pss_cons (ps_if (pt_cmp (pc_dnotin hu (pv 2) (pv 3))) (pss_one (ps_ret pe_bl)) pss_nil)
      (pss_cons (ps_expr (pe_bm PySem.F.plainAttrs_dict PySem.F.slot_dict_pop PySem.F.type_dict_pop (mt_pop1 hu) (pv 3) (pa_cons (pv 2) pa_nil)))
      (pss_one (ps_ret pe_bl)))), ?_⟩
    refine ⟨_, rfl, p, dx, _, rfl, e1, flds_no _ _ (by decide +kernel) (by decide +kernel), _, rfl, _, rfl, p, r, L, t, kk, rfl, B, ht, R, ?_⟩
    have hk := keyRow' R.t
    refine ⟨_, rfl, _, rfl, t.d, _, rfl, DGet.t S.d hk, _, rfl, ?_⟩
    rw [valV_rkv]
    by_cases hn : kk ∈ ks
    · rw [if_pos hn]
      refine iteF ?_
      refine ⟨_, rfl, .inr (.inr (.inl ⟨rfl, .inr ⟨_, S.d⟩⟩)), _, rfl, t.d, _, kk.map Sum.inl, r, _, rfl, rfl, S.d, hk, (by rw [valV_rkv, if_pos hn]), ?_⟩
      rw [dropK_rkv]
      exact k1 hn
    · rw [if_neg hn]
      exact iteT (k2 hn)

def spMRows (C : Addr) : Sp := fun vs H Q _ => ∃ (p : Addr) (T : List Tab) (t : Tab) (ks : List (List Int)), vs = [.ref p, .str t.n] ∧ BookAt C H p T ∧ t ∈ T ∧ Held H t ks ∧
  ∀ (L : List (Addr × List Int)) (q : Addr), (rows L).Perm ks → L.Pairwise (fun x y => rowLe x.2 y.2) → Tups H L → H q = none → Q (.ref q) (upd H q (.lst (refs L)))
theorem scMRows : FnScope ["self", "table"] ["self", "table"] (defScope sMRows) := ⟨rfl, rfl, rfl, by decide +kernel, rfl, by decide +kernel, by decide +kernel⟩
theorem ok_mrows (T : Txt K mg C) (D : MetG K C "rows" "Book.rows" sMRows ["self", "table"]) (mO : Met P w K mg base 2 C "rows_of" (spRowsOf C)) : Met P w K mg base 3 C "rows" (spMRows C) := by
  refine D.met scMRows (fun vs H Q E h => ?_) (fun f cdv A outer s H vs Q E hr h => ?_)
  · obtain ⟨p, L, t, ks, rfl, _⟩ := h
    rfl
  · obtain ⟨p, L, t, ks, rfl, B, ht, S, k⟩ := h
    obtain ⟨⟨dx, b, h', e1, e2, e3⟩, G⟩ := id B
    refine ⟨_, pss_one (ps_ret (pe_callB (cr_sortD rfl) (by rfl) T.sorted (by decide +kernel) (pa_cons (pe_mt T.cl mO hr (by decide) (pv 0) (pa_cons (pv 1) pa_nil)) pa_nil))), ?_⟩
    exact ⟨_, rfl, p, dx, _, rfl, e1, flds_no _ _ (by decide +kernel) (by decide +kernel), _, rfl, p, L, t, rfl, B, ht, t.d, ks, rfl, .inl S.d, fun k hk => (S.ok k hk).1.lo, fun L' q a1 a2 a3 a4 => k L' q a1 a2 a3 a4⟩

def spTables (C : Addr) : Sp := fun vs H Q _ => ∃ (p : Addr) (T : List Tab), vs = [.ref p] ∧ BookAt C H p T ∧ ∀ (ys : List Str) (q : Addr), ys.Perm (T.map (·.n)) → H q = none → Q (.ref q) (upd H q (.lst (ys.map V.str)))
theorem scTables : FnScope ["self"] ["self"] (defScope sTables) := ⟨rfl, rfl, rfl, by decide +kernel, rfl, by decide +kernel, by decide +kernel⟩
theorem ok_tables (T : Txt K mg C) (D : MetG K C "tables" "Book.tables" sTables ["self"]) : Met P w K mg base 1 C "tables" (spTables C) := by
  refine D.met scTables (fun vs H Q E h => ?_) (fun f cdv A outer s H vs Q E hr h => ?_)
  · obtain ⟨p, L, rfl, _⟩ := h
    rfl
  · obtain ⟨p, L, rfl, B, k⟩ := h
    obtain ⟨⟨dx, b, h', e1, e2, e3⟩, G⟩ := id B
    refine ⟨_, pss_one (ps_ret (pe_callB (call_sortedD rfl) (by rfl) T.sorted (by decide +kernel) (pa_cons (pe_fld (pv 0) rfl) pa_nil))), ?_⟩
    refine ⟨_, rfl, p, C, dx, _, _, rfl, e1, T.cl, T.nB, flds_b b h', b, _, L.map (·.n), rfl, .inl e2, ?_, by have := G.few; rw [List.length_map]; omega, fun ys q a1 _ a3 => k ys q a1 a3⟩
    rw [List.map_map, List.map_map] <;> rfl

/-- the rows that the tables of a Book hold -/
def Holds (H : Hp) (T : List Tab) (D : Tab → List (List Int)) : Prop := ∀ t ∈ T, Held H t (D t)
/-- a plain book that tells these tables' rows -/
structure Tells (T : List Tab) (D : Tab → List (List Int)) (Pl : Tabs) : Prop where
  nm : (Pl.map (·.1)).Perm (T.map (·.n))
  rw : ∀ e ∈ Pl, ∀ t ∈ T, t.n = e.1 → (rows e.2.2).Perm (D t) ∧ e.2.2.Pairwise (fun x y => rowLe x.2 y.2)
def spPlain (C : Addr) : Sp := fun vs H Q _ => ∃ (p : Addr) (T : List Tab) (D : Tab → List (List Int)), vs = [.ref p] ∧ BookAt C H p T ∧ Holds H T D ∧
  ∀ (q : Addr) (Pl : Tabs) (H' : Hp), Same H H' → H q = none → PB H' q Pl → (∀ e ∈ Pl, H e.2.1 = none) → Tells T D Pl → Q (.ref q) H'
theorem scPlain : FnScope ["self", "found", "table"] ["self"] (defScope sPlain) := ⟨rfl, rfl, rfl, by decide +kernel, rfl, by decide +kernel, by decide +kernel⟩
theorem Held.same {H H' : Hp} {t : Tab} {ks : List (List Int)} (S : Held H t ks) (h : Same H H') : Held H' t ks := ⟨h _ _ S.d, S.ok, S.few, S.nd⟩
theorem ok_plain (T : Txt K mg C) (D : MetG K C "plain" "Book.plain" sPlain ["self"]) (mT : Met P w K mg base 1 C "tables" (spTables C)) (mR : Met P w K mg base 3 C "rows" (spMRows C)) : Met P w K mg base 4 C "plain" (spPlain C) := by
  refine D.met scPlain (fun vs H Q E h => ?_) (fun f cdv A outer s H vs Q E hr h => ?_)
  · obtain ⟨p, L, F, rfl, _⟩ := h
    rfl
  · obtain ⟨p, L, F, rfl, B, S, k⟩ := h
    have hu := hu_of hr
    obtain ⟨⟨dx, b, h', e1, e2, e3⟩, G⟩ := id B
    refine ⟨_, pss_cons (ps_set (i := 1) scPlain.nd rfl (Or.inl rfl) pe_dnewK)
      (pss_cons (ps_for PassesOwn.never rfl (pi_list (pe_mt0 T.cl mT hr (by decide) (pv 0))) (pg_name (i := 2) scPlain.nd rfl (Or.inl rfl))
        (pss_one (ps_dput hu (pv 1) (pv 2) (pe_mt T.cl mR hr (by decide) (pv 0) (pa_cons (pv 2) pa_nil)) rfl)))
      (pss_one (ps_ret (pv 1)))), ?_⟩
    intro q hq
    have s1 : Same H (upd H q (.dK [])) := same_upd hq
    refine ⟨_, rfl, p, dx, _, rfl, s1 _ _ e1, flds_no _ _ (by decide +kernel) (by decide +kernel), p, L, rfl, B.keep (fun c o e _ => s1 c o e), fun ys ly pm hly => ?_⟩
    have s2 := s1.trans (same_upd (o := .lst (ys.map V.str)) hly)
    have nql : q ≠ ly := fun z => by rw [← z, upd_same] at hly; cases hly
    refine ⟨ly, rfl, ⟨_, SqL.of upd_same⟩, for_list (K := K) (a := ly) (xs := ys.map V.str) (fun i σ H' => ∃ (v : Option V) (Pi : Tabs), σ = [some (.ref p), some (.ref q), v] ∧ Pi.map (·.1) = ys.take i ∧ Same H H' ∧ H' ly = some (.lst (ys.map V.str)) ∧ PB H' q Pi ∧
        (∀ e ∈ Pi, H e.2.1 = none) ∧ ∀ e ∈ Pi, ∀ t ∈ L, t.n = e.1 → (rows e.2.2).Perm (F t) ∧ e.2.2.Pairwise (fun x y => rowLe x.2 y.2))
      ⟨none, [], rfl, rfl, s2, upd_same, ⟨by rw [upd_ne nql, upd_same] <;> rfl, fun e he => (by cases he), fun e he => (by cases he)⟩, fun e he => (by cases he), fun e he => (by cases he)⟩ (fun i σ H' _ ⟨_, _, _, _, _, e, _⟩ => SqL.of e) ?_ ?_⟩
    · rintro i x σ H' hi ⟨v, Pi, rfl, eP, sH, el, BP, fr, tl⟩
      rw [List.getElem?_map] at hi
      obtain ⟨n, hn, rfl⟩ := Option.map_eq_some_iff.mp hi
      have hnm : n ∈ L.map (·.n) := pm.mem_iff.mp (List.mem_of_getElem? hn)
      obtain ⟨t, ht, rfl⟩ := List.mem_map.mp hnm
      refine ⟨_, rfl, p, dx, _, rfl, sH _ _ e1, flds_no _ _ (by decide +kernel) (by decide +kernel), _, rfl, p, L, t, F t, rfl, B.keep (fun c o e _ => sH c o e), ht, (S t ht).same sH, fun Lr l a1 a2 a3 hl => ?_⟩
      have nql2 : q ≠ l := ne_of_none BP.d hl
      have fresh : ∀ x ∈ Pi, x.1 ≠ (t.n, l, Lr).1 := fun x hx z => by
        have m : x.1 ∈ ys.take i := by
          rw [← eP]
          exact List.mem_map.mpr ⟨x, hx, rfl⟩
        have nd : ys.Nodup := pm.nodup_iff.mpr G.nd
        have := take_fresh (f := fun x : Str => x) (by rw [List.map_id']; exact nd) hn x.1 m
        exact this z
      have hlen : Pi.length ≤ 12 := by
        have z := congrArg List.length eP
        rw [List.length_map, List.length_take] at z
        have z2 := pm.length_eq
        rw [List.length_map] at z2
        have := G.few
        omega
      refine ⟨_, rfl, _, rfl, q, _, rfl, DPut.k (k := Sum.inr t.n) (by rw [upd_ne nql2]; exact BP.d) (small1000 (by unfold pkv; rw [List.length_map]; omega)), ?_⟩
      refine ⟨_, Pi ++ [(t.n, l, Lr)], rfl, ?_, ?_, ?_, ⟨?_, ?_, ?_⟩, ?_, ?_⟩
      · rw [List.map_append, eP, take_next hn] <;> rfl
      · intro c o hc
        rw [upd_ne (ne_of_none hc hq), upd_ne (ne_of_none (sH c o hc) hl)]
        exact sH c o hc
      · rw [upd_ne nql.symm, upd_ne (ne_of_none el hl)]
        exact el
      · rw [upd_same]
        unfold pkv
        rw [put_next (fun e : Str × Addr × List (Addr × List Int) => e.1) (fun e => V.ref e.2.1) (e := (t.n, l, Lr)) fresh]
      · intro e he
        rcases List.mem_append.mp he with he | he
        · have := BP.l e he
          rw [upd_ne (ne_of this BP.d (by intro z; cases z)), upd_ne (ne_of_none this hl)]
          exact this
        · have := List.mem_singleton.mp he
          subst this
          rw [upd_ne nql2.symm, upd_same]
      · intro e he z hz
        rcases List.mem_append.mp he with he | he
        · have := BP.t e he z hz
          rw [upd_ne (ne_of this BP.d (by intro z; cases z)), upd_ne (ne_of_none this hl)]
          exact this
        · have := List.mem_singleton.mp he
          subst this
          have := a3 z hz
          rw [upd_ne (ne_of this BP.d (by intro z; cases z)), upd_ne (ne_of_none this hl)]
          exact this
      · intro e he
        rcases List.mem_append.mp he with he | he
        · exact fr e he
        · have := List.mem_singleton.mp he
          subst this
          exact sH.free hl
      · intro e he t' ht' en
        rcases List.mem_append.mp he with he | he
        · exact tl e he t' ht' en
        · have := List.mem_singleton.mp he
          subst this
          have : t' = t := by
            obtain ⟨i1, h1, g1⟩ := List.mem_iff_getElem.mp ht'
            obtain ⟨i2, h2, g2⟩ := List.mem_iff_getElem.mp ht
            have en' : t'.n = t.n := en
            have e0 : (L.map (·.n))[i1]'(by rw [List.length_map]; exact h1) = (L.map (·.n))[i2]'(by rw [List.length_map]; exact h2) := by
              rw [List.getElem_map, List.getElem_map, g1, g2, en']
            have := (List.getElem_inj G.nd).mp e0
            subst this
            rw [← g1, ← g2]
          subst this
          exact ⟨a1, a2⟩
    · rintro σ H' ⟨v, Pi, rfl, eP, sH, el, BP, fr, tl⟩
      rw [List.length_map, List.take_length] at eP
      exact ⟨_, rfl, k q Pi H' sH hq BP fr ⟨by rw [eP]; exact pm, tl⟩⟩
end
end Aw

/-! The law's helpers: cell, mix, row, copy, plain_holds, deed. -/
namespace Aw
open PySem PySem.Spec PyProof.Rows L2
section
variable {P : Program} {w : World} {K : PySem.W.Frag} {mg : Str → Option Value} {base : Heap} {C : Addr}

/-! ### _law_cell -/
def spCell (K : PySem.W.Frag) : Sp := fun vs H Q _ => ∃ (a : Addr) (ns : List Int) (k : Nat), vs = [.ref a, .int (k : Nat)] ∧ SqL K H a (ns.map V.int) ∧ k ≤ 100 ∧ ∀ c, Q (.int c) H
theorem scCell : FnScope ["_law_script", "_law_k", "_law_number"] ["_law_script", "_law_k"] (defScope sCell) := ⟨rfl, rfl, rfl, by decide +kernel, rfl, by decide +kernel, by decide +kernel⟩
theorem ok_cell (T : Txt K mg C) (D : DefG K mg "_law_cell" sCell ["_law_script", "_law_k"]) : Cal P w K mg base 1 "_law_cell" (spCell K) := by
  refine D.cal scCell (fun vs H Q E h => ?_) (fun f cdv A outer s H vs Q E hr h => ?_)
  · obtain ⟨a, ns, k, rfl, _⟩ := h
    rfl
  · obtain ⟨a, ns, k, rfl, hS, hk, q⟩ := h
    refine ⟨_, pss_cons (ps_if (pt_cmpR op_lt (pv 1) (pe_callB call_len_seq (by rfl) T.len PySem.boot_len (pa_cons (pv 0) pa_nil)) (nomark _)) (pss_one (ps_ret (pe_ix ix_list (pv 0) (pv 1) (fun _ _ => rfl)))) pss_nil)
      (pss_cons (ps_set (i := 2) scCell.nd rfl (Or.inl rfl) (pe_op op_add (pe_op op_mul (pv 1) pe_int) pe_int))
      (pss_cons (ps_if (pt_cmpR op_gt (pe_callB call_len_seq (by rfl) T.len PySem.boot_len (pa_cons (pv 0) pa_nil)) pe_int (nomark _))
        (pss_one (ps_set (i := 2) scCell.nd rfl (Or.inl rfl) (pe_op op_mod (pe_op op_add (pe_op op_mul (pe_ix ix_list (pv 0) (pe_op op_mod (pe_op op_mul (pv 1) pe_int) (pe_callB call_len_seq (by rfl) T.len PySem.boot_len (pa_cons (pv 0) pa_nil))) (fun _ _ => rfl)) pe_int) (pe_op op_mul (pv 1) pe_int)) pe_int))) pss_nil)
      (pss_one (ps_ret (pe_op op_mod (pe_op op_mul (pv 2) (pv 2)) pe_int))))), ?_⟩
    refine ⟨_, rfl, _, rfl, a, _, rfl, .inl hS, _, _, rfl, rfl, _, rfl, ?_⟩
    have fin : ∀ n : Int, 0 ≤ n → n < 2147483647 → ∀ (hq : ∀ c, Q (.int c) H), ∃ v, ([some (.ref a), some (.int (k : Nat)), some (.int n)] : L2.St)[2]? = some (some v) ∧ ∃ u, ([some (.ref a), some (.int (k : Nat)), some (.int n)] : L2.St)[2]? = some (some u) ∧
        rI CMul (fun i j => .int (i * j)) v u H fun z H' => rI (fun _ j => 0 < j) (fun i j => .int (i % j)) z (.int 2147483629) H' Q := fun n h0 h1 hq =>
      ⟨_, rfl, _, rfl, _, _, rfl, rfl, .inl ⟨by omega, by omega⟩, _, _, rfl, rfl, (by show (0 : Int) < 2147483629; decide), hq _⟩
    refine ite2 (fun hlt => ?_) (fun hge => ?_)
    · have hlt' := of_decide_eq_true hlt
      have hkl : k < (ns.map V.int).length := by omega
      refine ⟨_, rfl, _, rfl, a, _, (k : Nat), _, rfl, rfl, hS, atI_nat (List.getElem?_eq_getElem hkl), ?_⟩
      rw [List.getElem_map]
      exact q _
    · refine ⟨_, rfl, _, _, rfl, rfl, .inr ⟨by decide, by decide⟩, _, _, rfl, rfl, ?_⟩
      refine ⟨_, rfl, a, _, rfl, .inl hS, _, _, rfl, rfl, _, rfl, ?_⟩
      refine ite2 (fun hpos => ?_) (fun hnp => ?_)
      · have hpos' := of_decide_eq_true hpos
        have h0 : (0 : Int) ≤ (k : Int) * 7 % ((ns.map V.int).length : Int) := Int.emod_nonneg _ (by omega)
        have h1 : (k : Int) * 7 % ((ns.map V.int).length : Int) < ((ns.map V.int).length : Int) := Int.emod_lt_of_pos _ (by omega)
        have h2 : ((((k : Int) * 7 % ((ns.map V.int).length : Int)).toNat : Nat) : Int) = (k : Int) * 7 % ((ns.map V.int).length : Int) := Int.toNat_of_nonneg h0
        have h3 : ((k : Int) * 7 % ((ns.map V.int).length : Int)).toNat < ns.length := by rw [List.length_map] at *; omega
        refine ⟨_, rfl, _, rfl, _, _, rfl, rfl, .inr ⟨by decide, by decide⟩, _, rfl, a, _, rfl, .inl hS, _, _, rfl, rfl, hpos', a, _, _, .int (ns[((k : Int) * 7 % ((ns.map V.int).length : Int)).toNat]'h3), rfl, rfl, hS, ?_, ?_⟩
        · have z : atI (ns.map V.int) ((((k : Int) * 7 % ((ns.map V.int).length : Int)).toNat : Nat) : Int) = some (.int (ns[((k : Int) * 7 % ((ns.map V.int).length : Int)).toNat]'h3)) := by
            refine atI_nat ?_
            rw [List.getElem?_map, List.getElem?_eq_getElem h3] <;> rfl
          rw [h2] at z
          exact z
        · refine ⟨_, _, rfl, rfl, .inr ⟨by decide, by decide⟩, _, rfl, _, _, rfl, rfl, .inr ⟨by decide, by decide⟩, _, _, rfl, rfl, _, _, rfl, rfl, (by show (0 : Int) < 2147483647; decide), ?_⟩
          exact fin _ (Int.emod_nonneg _ (by decide)) (Int.emod_lt_of_pos _ (by decide)) q
      · exact fin _ (by omega) (by omega) q

/-! ### _law_mix -/
def mixN (c k : Int) : Int := (c % 2147483647 * 48271 + k * k * 69621 + k + 11) % 2147483629
def mixZ (c k : Int) : Int := mixN c k * mixN c k % 2147483587
theorem mixZ_lo (c k : Int) : 0 ≤ mixZ c k := Int.emod_nonneg _ (by decide)
theorem mixZ_hi (c k : Int) : mixZ c k < 2147483587 := Int.emod_lt_of_pos _ (by decide)
def spMix : Sp := fun vs H Q _ => ∃ (c k : Int), vs = [.int c, .int k] ∧ (0 ≤ k ∧ k ≤ 100) ∧ Q (.int (mixZ c k)) H
theorem scMix : FnScope ["_law_cell_here", "_law_k", "_law_number"] ["_law_cell_here", "_law_k"] (defScope sMix) := ⟨rfl, rfl, rfl, by decide +kernel, rfl, by decide +kernel, by decide +kernel⟩
theorem ok_mix (D : DefG K mg "_law_mix" sMix ["_law_cell_here", "_law_k"]) : Cal P w K mg base 1 "_law_mix" spMix := by
  refine D.cal scMix (fun vs H Q E h => ?_) (fun f cdv A outer s H vs Q E hr h => ?_)
  · obtain ⟨c, k, rfl, _⟩ := h
    rfl
  · obtain ⟨c, k, rfl, ⟨k0, k1⟩, q⟩ := h
    refine ⟨_, pss_cons (ps_set (i := 2) scMix.nd rfl (Or.inl rfl) (pe_op op_mod (pe_op op_add (pe_op op_add (pe_op op_add (pe_op op_mul (pe_op op_mod (pv 0) pe_int) pe_int) (pe_op op_mul (pe_op op_mul (pv 1) (pv 1)) pe_int)) (pv 1)) pe_int) pe_int))
      (pss_one (ps_ret (pe_op op_mod (pe_op op_mul (pv 2) (pv 2)) pe_int))), ?_⟩
    refine ⟨_, rfl, _, _, rfl, rfl, (by show (0 : Int) < 2147483647; decide), _, _, rfl, rfl, .inr ⟨by decide, by decide⟩, _, rfl, _, rfl, _, _, rfl, rfl, .inl ⟨by omega, by omega⟩, _, _, rfl, rfl, .inr ⟨by decide, by decide⟩, _, _, rfl, rfl, _, rfl, _, _, rfl, rfl, _, _, rfl, rfl, _, _, rfl, rfl, (by show (0 : Int) < 2147483629; decide), ?_⟩
    have h0 : 0 ≤ mixN c k := Int.emod_nonneg _ (by decide)
    have h1 : mixN c k < 2147483629 := Int.emod_lt_of_pos _ (by decide)
    refine ⟨.int (mixN c k), rfl, .int (mixN c k), rfl, mixN c k, mixN c k, rfl, rfl, .inl ⟨by omega, by omega⟩, _, _, rfl, rfl, (by show (0 : Int) < 2147483587; decide), q⟩

/-! ### _law_row -/
theorem ten60 : (10 : Int) ^ (60 : Int).toNat = 1000000000000000000000000000000000000000000000000000000000000 := by decide
theorem big_val : big = 10000000000000000000000000000000000000000000000000000000000000000000000 := by decide
theorem row_val (c s : Int) : -big < c % (10 : Int) ^ (60 : Int).toNat / 7 * (1 - 2 * (s % 2)) ∧ c % (10 : Int) ^ (60 : Int).toNat / 7 * (1 - 2 * (s % 2)) < big := by
  rw [ten60, big_val]
  have h0 := Int.emod_nonneg c (show (1000000000000000000000000000000000000000000000000000000000000 : Int) ≠ 0 by decide)
  have h1 := Int.emod_lt_of_pos c (show (0 : Int) < 1000000000000000000000000000000000000000000000000000000000000 by decide)
  generalize c % 1000000000000000000000000000000000000000000000000000000000000 = X at h0 h1 ⊢
  rcases Int.emod_two_eq s with e | e
  · rw [e]
    have : X / 7 * (1 - 2 * 0) = X / 7 := by omega
    rw [this]
    omega
  · rw [e]
    have : X / 7 * (1 - 2 * 1) = -(X / 7) := by omega
    rw [this]
    omega
def spLRow : Sp := fun vs H Q _ => ∃ (c wd : Int), vs = [.int c, .int wd] ∧ (1 ≤ wd ∧ wd ≤ 6) ∧ ∀ (r : Addr) (k : List Int) (H' : Hp), Same H H' → RowAt H' r k wd → Q (.ref r) H'
theorem scLRow : FnScope ["_law_cell_here", "_law_wide", "_law_row_here", "_law_k"] ["_law_cell_here", "_law_wide"] (defScope sLRow) := ⟨rfl, rfl, rfl, by decide +kernel, rfl, by decide +kernel, by decide +kernel⟩
theorem ok_lrow (T : Txt K mg C) (D : DefG K mg "_law_row" sLRow ["_law_cell_here", "_law_wide"]) (cM : Cal P w K mg base 1 "_law_mix" spMix) : Cal P w K mg base 2 "_law_row" spLRow := by
  refine D.cal scLRow (fun vs H Q E h => ?_) (fun f cdv A outer s H vs Q E hr h => ?_)
  · obtain ⟨c, k, rfl, _⟩ := h
    rfl
  · obtain ⟨c, wd, rfl, ⟨w1, w6⟩, q⟩ := h
    refine ⟨_, pss_cons (ps_set (i := 2) scLRow.nd rfl (Or.inl rfl) (pe_lst pa_nil))
      (pss_cons (ps_for PassesOwn.never rfl (pi_range1 (by rfl) T.range (pa_cons (pv 1) pa_nil)) (pg_name (i := 3) scLRow.nd rfl (Or.inl rfl))
        (pss_one (ps_expr (pe_bm PySem.F.plainAttrs_list PySem.F.slot_list_append PySem.F.type_list_append mt_append (pv 2) (pa_cons (pe_op op_sub (pe_op op_mod (pe_c cM hr (by decide) (by rfl) (pa_cons (pv 0) (pa_cons (pe_op op_add pe_int (pv 3)) pa_nil))) pe_int) pe_int) pa_nil)))))
      (pss_cons (ps_asg (pe_op op_mul (pe_op op_fdiv (pe_op op_mod (pv 0) (pe_op op_pow pe_int pe_int)) pe_int) (pe_op op_sub pe_int (pe_op op_mul pe_int (pe_op op_mod (pe_c cM hr (by decide) (by rfl) (pa_cons (pv 0) (pa_cons pe_int pa_nil))) pe_int))))
        (pg_sub (pv 2) (pe_op op_mod (pe_c cM hr (by decide) (by rfl) (pa_cons (pv 0) (pa_cons pe_int pa_nil))) (pv 1)) set_list))
      (pss_one (ps_ret (pe_callTy call_tuple_of (by rfl) T.tuple (by decide +kernel) (pa_cons (pv 2) pa_nil)))))), ?_⟩
    refine ⟨Nat.zero_le _, fun l hl => ?_⟩
    have s1 : ∀ o, Same H (upd H l o) := fun o => same_upd hl
    refine ⟨_, rfl, wd, rfl, by omega, by omega, for_range (lo := 0) (n := wd.toNat) (fun i σ H' => ∃ (v : Option V) (k : List Int), σ = [some (.int c), some (.int wd), some (.ref l), v] ∧ k.length = i ∧ (∀ n ∈ k, -big < n ∧ n < big) ∧ H' = upd H l (.lst (k.map V.int)))
      ⟨none, [], rfl, rfl, fun n hn => (by cases hn), rfl⟩ ?_ ?_⟩
    · rintro i σ H' hi ⟨v, k, rfl, ek, bk, rfl⟩
      refine ⟨_, rfl, .inl ⟨rfl, _, SqL.of upd_same⟩, _, rfl, _, rfl, _, _, rfl, rfl, c, _, rfl, ⟨by omega, by omega⟩, _, _, rfl, rfl, (by show (0 : Int) < 3; decide), _, _, rfl, rfl, l, _, _, rfl, rfl, upd_same, small1000 (by rw [List.length_map]; omega), ?_⟩
      refine ⟨_, k ++ [_], rfl, by rw [List.length_append, ek] <;> rfl, fun n hn => ?_, by rw [upd_upd, List.map_append] <;> rfl⟩
      rcases List.mem_append.mp hn with h | h
      · exact bk n h
      · have e := List.mem_singleton.mp h
        rw [e, big_val]
        have a1 := Int.emod_nonneg (mixZ c (11 + (0 + (i : Int)))) (show (3 : Int) ≠ 0 by decide)
        have a2 := Int.emod_lt_of_pos (mixZ c (11 + (0 + (i : Int)))) (show (0 : Int) < 3 by decide)
        constructor <;> omega
    · rintro σ H' ⟨v, k, rfl, ek, bk, rfl⟩
      have hidx0 : 0 ≤ mixZ c 18 % wd := Int.emod_nonneg _ (by omega)
      have hidx1 : mixZ c 18 % wd < wd := Int.emod_lt_of_pos _ (by omega)
      have hlen : ((k.map V.int).length : Int) = wd := by rw [List.length_map]; omega
      have hm0 := Int.emod_nonneg (mixZ c 19) (show (2 : Int) ≠ 0 by decide)
      have hm1 := Int.emod_lt_of_pos (mixZ c 19) (show (0 : Int) < 2 by decide)
      refine ⟨_, rfl, _, _, rfl, rfl, ⟨by decide, by decide, by decide⟩, _, _, rfl, rfl, (by show (0 : Int) < (10 : Int) ^ (60 : Int).toNat; decide), _, _, rfl, rfl, ⟨by decide, by decide⟩, _, rfl, c, 19, rfl, ⟨by decide, by decide⟩, _, _, rfl, rfl, (by show (0 : Int) < 2; decide), _, _, rfl, rfl, .inl ⟨by decide, by decide⟩, _, _, rfl, rfl, _, _, rfl, rfl, .inr ⟨by omega, by omega⟩, ?_⟩
      refine ⟨_, rfl, _, rfl, c, 18, rfl, ⟨by decide, by decide⟩, _, rfl, _, _, rfl, rfl, by omega, l, _, _, (mixZ c 18 % wd).toNat, rfl, rfl, upd_same, ?_, ?_⟩
      · unfold ixN
        rw [if_pos hidx0, if_pos (by omega)]
      · refine ⟨_, rfl, l, _, rfl, .inl ⟨SqL.of upd_same, fun r hr' => ?_⟩⟩
        have es : (k.map V.int).set (mixZ c 18 % wd).toNat (V.int (c % (10 : Int) ^ (60 : Int).toNat / 7 * (1 - 2 * (mixZ c 19 % 2)))) = (k.set (mixZ c 18 % wd).toNat (c % (10 : Int) ^ (60 : Int).toNat / 7 * (1 - 2 * (mixZ c 19 % 2)))).map V.int := by
          rw [List.map_set]
        refine q r (k.set (mixZ c 18 % wd).toNat (c % (10 : Int) ^ (60 : Int).toNat / 7 * (1 - 2 * (mixZ c 19 % 2)))) _ ?_ ⟨?_, ⟨?_, ?_, ?_⟩, ?_⟩
        · intro b o hb
          rw [upd_ne (ne_of_none (by rw [upd_upd]; exact s1 _ b o hb) hr'), upd_upd]
          exact s1 _ b o hb
        · rw [upd_same]
          exact congrArg (fun z => some (HO.tup z)) es
        · rw [List.length_set]; omega
        · rw [List.length_set]; omega
        · intro n hn
          rcases List.mem_or_eq_of_mem_set hn with h | h
          · exact bk n h
          · rw [h]
            exact row_val c (mixZ c 19)
        · rw [List.length_set]; omega

/-! ### _law_copy -/
def spCopy : Sp := fun vs H Q _ => ∃ (q : Addr) (Pl : Tabs), vs = [.ref q] ∧ PB H q Pl ∧ (Pl.map (·.1)).Nodup ∧ Pl.length ≤ 12 ∧
  ∀ (q2 : Addr) (P2 : Tabs) (H' : Hp), Same H H' → H q2 = none → PB H' q2 P2 → (∀ e ∈ P2, H e.2.1 = none) → (P2.map fun e => (e.1, e.2.2)) = (Pl.map fun e => (e.1, e.2.2)) → Q (.ref q2) H'
theorem scCopy : FnScope ["_law_plain", "_law_found", "_law_table"] ["_law_plain"] (defScope sCopy) := ⟨rfl, rfl, rfl, by decide +kernel, rfl, by decide +kernel, by decide +kernel⟩
theorem ok_copy (T : Txt K mg C) (D : DefG K mg "_law_copy" sCopy ["_law_plain"]) : Cal P w K mg base 1 "_law_copy" spCopy := by
  refine D.cal scCopy (fun vs H Q E h => ?_) (fun f cdv A outer s H vs Q E hr h => ?_)
  · obtain ⟨q, Pl, rfl, _⟩ := h
    rfl
  · obtain ⟨q, Pl, rfl, B, nd, few, k⟩ := h
    have hu := hu_of hr
    refine ⟨_, pss_cons (ps_set (i := 1) scCopy.nd rfl (Or.inl rfl) pe_dnewK)
      (pss_cons (ps_lock (ps_for PassesOwn.never rfl (pi_keys (pv 0)) (pg_name (i := 2) scCopy.nd rfl (Or.inl rfl))
        (pss_one (ps_dput hu (pv 1) (pv 2) (pe_callTy call_list_of (by rfl) T.list (by decide +kernel) (pa_cons (pe_dget hu (pv 0) (pv 2) (fun _ _ => rfl)) pa_nil)) rfl))))
      (pss_one (ps_ret (pv 1)))), ?_⟩
    intro q2 hq2
    have nqq : q ≠ q2 := ne_of_none B.d hq2
    refine ⟨q, .dK (pkv Pl), by rw [upd_ne nqq]; exact B.d, trivial, fun od => ⟨_, rfl, q, od, rfl, .inl ⟨pkv Pl, upd_same, ?_⟩⟩⟩
    refine for_keys (fun i σ H' => ∃ (v : Option V) (Pi : Tabs), σ = [some (.ref q), some (.ref q2), v] ∧ (Pi.map fun e => (e.1, e.2.2)) = ((Pl.take i).map fun e => (e.1, e.2.2)) ∧ H' q = some (.frz od (.dK (pkv Pl))) ∧ (∀ c o, H c = some o → c ≠ q → H' c = some o) ∧
        (∀ c, H' c = none → H c = none) ∧ PB H' q2 Pi ∧ ∀ e ∈ Pi, H e.2.1 = none)
      ⟨none, [], rfl, rfl, upd_same, fun c o hc hcq => by rw [upd_ne hcq, upd_ne (ne_of_none hc hq2)]; exact hc, fun c hc => ?_, ⟨by rw [upd_ne nqq.symm, upd_same] <;> rfl, fun e he => (by cases he), fun e he => (by cases he)⟩, fun e he => (by cases he)⟩ (fun i σ H' _ ⟨_, _, _, _, e, _⟩ => e) ?_ ?_
    · by_cases z : c = q
      · rw [z, upd_same] at hc; cases hc
      · rw [upd_ne z] at hc
        by_cases z2 : c = q2
        · rw [z2]; exact hq2
        · rw [upd_ne z2] at hc; exact hc
    · rintro i key vv σ H' hi ⟨v, Pi, rfl, eP, hq, kp, fr, BP, nw⟩
      unfold pkv at hi
      rw [List.getElem?_map] at hi
      obtain ⟨e, he, ee⟩ := Option.map_eq_some_iff.mp hi
      injection ee with e1 e2
      subst e1
      have hm : e ∈ Pl := List.mem_of_getElem? he
      have hle : H' e.2.1 = some (.lst (refs e.2.2)) := kp _ _ (B.l e hm) (ne_of (B.l e hm) B.d (by intro z; cases z))
      refine ⟨_, rfl, _, rfl, q, _, rfl, .inl ⟨pkv Pl, Sum.inr e.1, .inr ⟨od, hq⟩, rfl, (PB.val (H := H) (q := q) nd hm).symm⟩, e.2.1, _, rfl, .inl (SqL.of hle), fun l hl => ?_⟩
      have nql : q2 ≠ l := ne_of_none BP.d hl
      have fresh : ∀ x ∈ Pi, x.1 ≠ (e.1, l, e.2.2).1 := fun x hx z => by
        have m : (x.1, x.2.2) ∈ (Pl.take i).map fun e => (e.1, e.2.2) := by
          rw [← eP]
          exact List.mem_map.mpr ⟨x, hx, rfl⟩
        obtain ⟨y, hy, yy⟩ := List.mem_map.mp m
        injection yy with y1 y2
        exact take_fresh (f := fun e : Str × Addr × List (Addr × List Int) => e.1) nd he y hy (y1.trans z)
      have hlen : Pi.length ≤ 12 := by
        have z := congrArg List.length eP
        rw [List.length_map, List.length_map, List.length_take] at z
        omega
      refine ⟨_, rfl, _, rfl, q2, _, rfl, DPut.k (k := Sum.inr e.1) (by rw [upd_ne nql]; exact BP.d) (small1000 (by unfold pkv; rw [List.length_map]; omega)), ?_⟩
      refine ⟨_, Pi ++ [(e.1, l, e.2.2)], rfl, ?_, ?_, ?_, ?_, ⟨?_, ?_, ?_⟩, ?_⟩
      · rw [List.map_append, eP, take_next he, List.map_append] <;> rfl
      · rw [upd_ne nqq, upd_ne (ne_of_none hq hl)]
        exact hq
      · intro c o hc hcq
        have := kp c o hc hcq
        rw [upd_ne (ne_of_none hc hq2), upd_ne (ne_of_none this hl)]
        exact this
      · intro c hc
        by_cases z : c = q2
        · rw [z]; exact hq2
        · rw [upd_ne z] at hc
          by_cases z2 : c = l
          · rw [z2]; exact fr l hl
          · rw [upd_ne z2] at hc; exact fr c hc
      · rw [upd_same]
        unfold pkv
        rw [put_next (fun e : Str × Addr × List (Addr × List Int) => e.1) (fun e => V.ref e.2.1) (e := (e.1, l, e.2.2)) fresh]
      · intro x hx
        rcases List.mem_append.mp hx with hx | hx
        · have := BP.l x hx
          rw [upd_ne (ne_of this BP.d (by intro z; cases z)), upd_ne (ne_of_none this hl)]
          exact this
        · have := List.mem_singleton.mp hx
          subst this
          rw [upd_ne nql.symm, upd_same]
      · intro x hx z hz
        rcases List.mem_append.mp hx with hx | hx
        · have := BP.t x hx z hz
          rw [upd_ne (ne_of this BP.d (by intro z; cases z)), upd_ne (ne_of_none this hl)]
          exact this
        · have := List.mem_singleton.mp hx
          subst this
          have h0 := B.t e hm z hz
          have := kp _ _ h0 (ne_of h0 B.d (by intro z; cases z))
          rw [upd_ne (ne_of this BP.d (by intro z; cases z)), upd_ne (ne_of_none this hl)]
          exact this
      · intro x hx
        rcases List.mem_append.mp hx with hx | hx
        · exact nw x hx
        · have := List.mem_singleton.mp hx
          subst this
          exact fr l hl
    · rintro σ H' ⟨v, Pi, rfl, eP, hq, kp, fr, BP, nw⟩
      have el : (pkv Pl).length = Pl.length := by unfold pkv; rw [List.length_map]
      rw [el, List.take_length] at eP
      refine ⟨hq, _, rfl, k q2 Pi _ (fun c o hc => ?_) hq2 ⟨?_, fun e he => ?_, fun e he p hp => ?_⟩ nw eP⟩
      · by_cases z : c = q
        · rw [z, upd_same]
          rw [z, B.d] at hc
          exact hc
        · rw [upd_ne z]
          exact kp c o hc z
      · rw [upd_ne nqq.symm]
        exact BP.d
      · have := BP.l e he
        rw [upd_ne (ne_of this hq (by intro z; cases z))]
        exact this
      · have := BP.t e he p hp
        rw [upd_ne (ne_of this hq (by intro z; cases z))]
        exact this

/-! ### a table in a Book and in its model -/
structure TabAt (H : Hp) (t : Tab) (L : List (Addr × List Int)) (ks : List (List Int)) : Prop where
  hd : Held H t ks
  l : H t.l = some (.lst (refs L))
  t : Tups H L
  pm : (rows L).Perm ks
theorem TabAt.same {H H' : Hp} {t : Tab} {L : List (Addr × List Int)} {ks : List (List Int)} (A : TabAt H t L ks) (h : Same H H') : TabAt H' t L ks :=
  ⟨A.hd.same h, h _ _ A.l, fun p hp => h _ _ (A.t p hp), A.pm⟩
theorem TabAt.len {H : Hp} {t : Tab} {L : List (Addr × List Int)} {ks : List (List Int)} (A : TabAt H t L ks) : L.length = ks.length := by
  have := A.pm.length_eq
  rwa [List.length_map] at this
theorem TabAt.mem {H : Hp} {t : Tab} {L : List (Addr × List Int)} {ks : List (List Int)} (A : TabAt H t L ks) {p : Addr × List Int} (h : p ∈ L) : p.2 ∈ ks := A.pm.mem_iff.mp (List.mem_map.mpr ⟨p, h, rfl⟩)
theorem tab_one {T : List Tab} (G : TabsOk T) {t t' : Tab} (h : t ∈ T) (h' : t' ∈ T) (e : t'.n = t.n) : t' = t := by
  obtain ⟨i1, h1, g1⟩ := List.mem_iff_getElem.mp h'
  obtain ⟨i2, h2, g2⟩ := List.mem_iff_getElem.mp h
  have e0 : (T.map (·.n))[i1]'(by rw [List.length_map]; exact h1) = (T.map (·.n))[i2]'(by rw [List.length_map]; exact h2) := by
    rw [List.getElem_map, List.getElem_map, g1, g2, e]
  have := (List.getElem_inj G.nd).mp e0
  subst this
  rw [← g1, ← g2]
theorem rows_nd {L : List (Addr × List Int)} {ks : List (List Int)} (h : (rows L).Perm ks) (nd : ks.Nodup) : (rows L).Nodup := h.nodup_iff.mpr nd
/-- what is told is a plain book -/
theorem tells_good {H : Hp} {T : List Tab} {D : Tab → List (List Int)} {Pl : Tabs} (G : TabsOk T) (S : Holds H T D) (E : Tells T D Pl) : PGood Pl := by
  have get : ∀ e ∈ Pl, ∃ t ∈ T, t.n = e.1 := fun e he => by
    obtain ⟨t, ht, z⟩ := List.mem_map.mp (E.nm.mem_iff.mp (List.mem_map.mpr ⟨e, he, rfl⟩))
    exact ⟨t, ht, z⟩
  refine ⟨fun e he => ?_, E.nm.nodup_iff.mpr G.nd, ?_, fun e he => ?_⟩
  · obtain ⟨t, ht, z⟩ := get e he
    rw [← z]
    exact G.nm t ht
  · have := E.nm.length_eq
    rw [List.length_map, List.length_map] at this
    rw [this]
    exact G.few
  · obtain ⟨t, ht, z⟩ := get e he
    obtain ⟨pm, _⟩ := E.rw e he t ht z
    refine ⟨t.w.toNat, fun p hp => ?_, rows_nd pm (S t ht).nd, ?_⟩
    · have m : p.2 ∈ D t := pm.mem_iff.mp (List.mem_map.mpr ⟨p, hp, rfl⟩)
      obtain ⟨a, b⟩ := (S t ht).ok p.2 m
      exact ⟨a, by omega⟩
    · have := pm.length_eq
      rw [List.length_map] at this
      have := (S t ht).few
      omega
abbrev mkv (T : List Tab) : List (Key × V) := T.map fun t => ((Sum.inr t.n : Key), V.ref t.l)
theorem mkv_val {T : List Tab} (G : TabsOk T) {t : Tab} (h : t ∈ T) : valV (mkv T) (Sum.inr t.n) = some (V.ref t.l) := valV_map (fun t : Tab => t.n) (fun t => V.ref t.l) G.nd h
theorem big_lt : ∀ c ∈ ltrS.cps.toList ++ figS.cps.toList, c < 0x110000 := by decide +kernel
theorem NameOk.strOk {x : Str} (N : NameOk x) : PyData.strOk x = true := by
  show x.cps.all (· < 0x110000) = true
  rw [← Array.all_toList, List.all_eq_true]
  intro c hc
  refine decide_eq_true (big_lt c ?_)
  rcases N.ch c hc with h | h
  · exact List.mem_append_left _ h
  · exact List.mem_append_right _ h

/-! ### _law_plain_holds -/
def spHolds (K : PySem.W.Frag) : Sp := fun vs H Q _ => ∃ (q m : Addr) (T : List Tab) (D : Tab → List (List Int)) (L : Tab → List (Addr × List Int)) (Pl : Tabs), vs = [.ref q, .ref m] ∧ TabsOk T ∧ PB H q Pl ∧ Tells T D Pl ∧
  H m = some (.dK (mkv T)) ∧ (∀ t ∈ T, TabAt H t (L t) (D t)) ∧ ∀ H', Same H H' → Q (.bl true) H'
theorem scHolds : FnScope ["_law_plain", "_law_model", "_law_table", "_law_rows"] ["_law_plain", "_law_model"] (defScope sHolds) := ⟨rfl, rfl, rfl, by decide +kernel, rfl, by decide +kernel, by decide +kernel⟩
theorem ok_holds (T : Txt K mg C) (D : DefG K mg "_law_plain_holds" sHolds ["_law_plain", "_law_model"]) (cB : Cal P w K mg base 5 "is_book" (spBook K)) : Cal P w K mg base 6 "_law_plain_holds" (spHolds K) := by
  refine D.cal scHolds (fun vs H Q E h => ?_) (fun f cdv A outer s H vs Q E hr h => ?_)
  · obtain ⟨q, m, _, _, _, _, rfl, _⟩ := h
    rfl
  · obtain ⟨q, m, Tz, F, L, Pl, rfl, G, B, Te, hm, A, k⟩ := h
    have hu := hu_of hr
    have S : Holds H Tz F := fun t ht => (A t ht).hd
    have PG := tells_good G S Te
    refine ⟨_, pss_cons (ps_if (PW.pt (pw_or (pt_not (pt_val (pe_callB call_isi (by rfl) T.isinstance (by decide +kernel) (pa_cons (pv 0) (pa_cons (pe_bltn (v := .ty "dict") (by rfl) T.dict (by decide +kernel) rfl) pa_nil)))))
        (pw_or (pt_cmpR (op_neD hr.units) (pe_callB (call_sortedD rfl) (by rfl) T.sorted (by decide +kernel) (pa_cons (pv 0) pa_nil)) (pe_callB (call_sortedD rfl) (by rfl) T.sorted (by decide +kernel) (pa_cons (pv 1) pa_nil)) (nomark _))
        (pw_or1 (pt_cmpR op_notBl (pe_c cB hr (by decide) (by rfl) (pa_cons (pv 0) pa_nil)) pe_bl (nomark _)))))) pss_never pss_nil)
      (pss_cons (ps_lock (ps_for PassesOwn.never rfl (pi_keys (pv 1)) (pg_name (i := 2) scHolds.nd rfl (Or.inl rfl))
        (pss_cons (ps_set (i := 3) scHolds.nd rfl (Or.inl rfl) (pe_dget hu (pv 0) (pv 2) (fun _ _ => rfl)))
        (pss_one (ps_if (PW.pt (pw_or (pt_not (pt_val (pe_callB call_isi (by rfl) T.isinstance (by decide +kernel) (pa_cons (pv 3) (pa_cons (pe_bltn (v := .ty "list") (by rfl) T.list (by decide +kernel) rfl) pa_nil)))))
          (pw_or1 (pt_cmpR (op_neD hr.units) (pv 3) (pe_callB cr_sortR (by rfl) T.sorted (by decide +kernel) (pa_cons (pe_dget hu (pv 1) (pv 2) (fun _ _ => rfl)) pa_nil)) (nomark _))))) pss_never pss_nil)))))
      (pss_one (ps_ret pe_bl))), ?_⟩
    refine ⟨_, rfl, _, _, _, _, _, rfl, .ty _, .base (.dK B.d), kit_ty k_dd, true, rfl, iteF ?_⟩
    -- sorted(plain) != sorted(model)
    refine ⟨_, rfl, q, _, Pl.map (·.1), rfl, .inl B.d, by unfold pkv; rw [List.map_map, List.map_map] <;> rfl, by have := PG.few; rw [List.length_map]; omega, fun ys l1 p1 o1 h1 => ?_⟩
    have s1 : Same H (upd H l1 (.lst (ys.map V.str))) := same_upd h1
    refine ⟨_, rfl, m, _, Tz.map (·.n), rfl, .inl (s1 _ _ hm), by rw [List.map_map, List.map_map] <;> rfl, by have := G.few; rw [List.length_map]; omega, fun zs l2 p2 o2 h2 => ?_⟩
    have s2 := s1.trans (same_upd (o := .lst (zs.map V.str)) h2)
    have ez : ys = zs := sortedS_same (p1.trans (Te.nm.trans p2.symm)) o1 o2
    subst ez
    have nl : l1 ≠ l2 := fun z => by rw [← z, upd_same] at h2; cases h2
    have okS : ∀ x ∈ ys, PyData.strOk x = true := fun x hx => by
      obtain ⟨t, ht, z⟩ := List.mem_map.mp (p2.mem_iff.mp hx)
      rw [← z]
      exact (G.nm t ht).strOk
    refine ⟨.list (ys.map PyData.str), .list (ys.map PyData.str), .lst (.of (by rw [upd_ne nl, upd_same])) (dp_strs ys), .lst (.of upd_same) (dp_strs ys), strsD_shaped ys okS, strsD_shaped ys okS, false, ?_, iteF ?_⟩
    · rw [strsD_eqv] <;> rfl
    generalize hH2 : upd (upd H l1 (.lst (ys.map V.str))) l2 (.lst (ys.map V.str)) = H2
    rw [hH2] at s2
    have B2 : PB H2 q Pl := ⟨s2 _ _ B.d, fun e he => s2 _ _ (B.l e he), fun e he p hp => s2 _ _ (B.t e he p hp)⟩
    refine ⟨_, rfl, q, Pl, rfl, B2, PG, true, true, rfl, rfl, false, rfl, iteF ?_⟩
    -- for table in model
    have hm2 := s2 _ _ hm
    have nqm : ∀ e ∈ Pl, e.2.1 ≠ m := fun e he => ne_of (B2.l e he) hm2 (by intro z; cases z)
    refine ⟨m, .dK (mkv Tz), hm2, trivial, fun od => ⟨_, rfl, m, od, rfl, .inl ⟨mkv Tz, upd_same, ?_⟩⟩⟩
    refine for_keys (fun i σ H' => ∃ (v1 v2 : Option V), σ = [some (.ref q), some (.ref m), v1, v2] ∧ H' m = some (.frz od (.dK (mkv Tz))) ∧ (∀ c o, H2 c = some o → c ≠ m → H' c = some o)) ⟨none, none, rfl, upd_same, fun c o hc hcm => by rw [upd_ne hcm]; exact hc⟩ (fun i σ H' _ ⟨_, _, _, e, _⟩ => e) ?_ ?_
    · rintro i key vv σ H' hi ⟨v1, v2, rfl, em, kp⟩
      rw [List.getElem?_map] at hi
      obtain ⟨t, he, ee⟩ := Option.map_eq_some_iff.mp hi
      injection ee with e1 e2
      subst e1
      have ht : t ∈ Tz := List.mem_of_getElem? he
      obtain ⟨e, heP, en⟩ : ∃ e ∈ Pl, e.1 = t.n := by
        obtain ⟨e, he, z⟩ := List.mem_map.mp (Te.nm.mem_iff.mpr (List.mem_map.mpr ⟨t, ht, rfl⟩))
        exact ⟨e, he, z⟩
      obtain ⟨pm, pw⟩ := Te.rw e heP t ht en.symm
      have At := (A t ht).same s2
      have ndm : ∀ {c : Addr} {xs : List V}, H2 c = some (.lst xs) → H' c = some (.lst xs) := fun hc => kp _ _ hc (ne_of hc hm2 (by intro z; cases z))
      have ndt : ∀ {c : Addr} {xs : List V}, H2 c = some (.tup xs) → H' c = some (.tup xs) := fun hc => kp _ _ hc (ne_of hc hm2 (by intro z; cases z))
      have hle := ndm (B2.l e heP)
      have hte : Tups H' e.2.2 := fun p hp => ndt (B2.t e heP p hp)
      have hll := ndm At.l
      have htl : Tups H' (L t) := fun p hp => ndt (At.t p hp)
      have hq' : ∃ u, Rd H' q u ∧ u = .dK (pkv Pl) := by
        by_cases z : q = m
        · refine ⟨_, .inr ⟨od, by rw [z]; exact em⟩, ?_⟩
          have := B2.d
          rw [z, hm2] at this
          exact (Option.some.inj this)
        · exact ⟨_, .inl (kp _ _ B2.d z), rfl⟩
      obtain ⟨u, hq', rfl⟩ := hq'
      have hval := (PB.val (H := H) (q := q) PG.nd heP).symm
      rw [en] at hval
      refine ⟨_, rfl, _, rfl, q, _, rfl, .inl ⟨pkv Pl, Sum.inr t.n, hq', rfl, hval⟩, ?_⟩
      refine ⟨_, rfl, _, _, _, _, _, rfl, .ty _, .base (.lst hle), kit_ty k_ll, true, rfl, iteF ?_⟩
      refine ⟨_, rfl, _, rfl, _, rfl, m, _, rfl, .inl ⟨mkv Tz, Sum.inr t.n, .inr ⟨od, em⟩, rfl, (mkv_val G ht).symm⟩, t.l, L t, rfl, SqL.of hll, fun p hp => ⟨SqT.of (htl p hp), (At.hd.ok p.2 (At.mem hp)).1.lo⟩, fun L' l3 pm3 pw3 h3 => ?_⟩
      · have ene : rows e.2.2 = rows L' :=
          sorted_same (pm.trans (At.pm.symm.trans (pm3.map _).symm)) (List.pairwise_map.mpr pw) (List.pairwise_map.mpr pw3)
        have s3 : Same H' (upd H' l3 (.lst (refs L'))) := same_upd h3
        refine ⟨.list ((rows e.2.2).map rowD), .list ((rows L').map rowD), dp_list (.of (s3 _ _ hle)) (fun p hp => s3 _ _ (hte p hp)), dp_list (.of upd_same) (fun p hp => s3 _ _ (htl p (pm3.mem_iff.mp hp))), rowsD_shaped _, rowsD_shaped _, false, ?_, iteF ?_⟩
        · rw [ene, listD_eqv, decide_eq_true rfl] <;> rfl
        · exact ⟨_, _, rfl, s3 _ _ em, fun c o hc hcm => s3 _ _ (kp c o hc hcm)⟩
    · rintro σ H' ⟨v1, v2, rfl, em, kp⟩
      refine ⟨em, k _ fun c o hc => ?_⟩
      have hc2 := s2 c o hc
      by_cases z : c = m
      · rw [z, upd_same]
        rw [z, hm2] at hc2
        exact hc2
      · rw [upd_ne z]
        exact kp c o hc2 z

theorem hu65_of {A : Around} {k : Nat} (hr : Room k A) : A.units + 65 < cLine := by
  have := hr.un
  omega
theorem refs_app (a b : List (Addr × List Int)) : refs (a ++ b) = refs a ++ refs b := List.map_append
theorem rows_app (a b : List (Addr × List Int)) : rows (a ++ b) = rows a ++ rows b := List.map_append
/-! ### _law_deed -/
def spDeed (C : Addr) : Sp := fun vs H Q _ => ∃ (p r : Addr) (T : List Tab) (t : Tab) (L : List (Addr × List Int)) (ks : List (List Int)) (k : List Int) (way : Int), vs = [.ref p, .ref t.l, .str t.n, .ref r, .int way] ∧ BookAt C H p T ∧ t ∈ T ∧ TabAt H t L ks ∧ RowAt H r k t.w ∧
  ∀ (H' : Hp) (L' : List (Addr × List Int)) (ks' : List (List Int)), TabAt H' t L' ks' → (∀ b o, H b = some o → b ≠ t.d → b ≠ t.l → H' b = some o) → (∀ b, H' b = none → H b = none) → Q .non H'
theorem scDeed : FnScope ["_law_book", "_law_rows", "_law_table", "_law_row_here", "_law_way"] ["_law_book", "_law_rows", "_law_table", "_law_row_here", "_law_way"] (defScope sDeed) := ⟨rfl, rfl, rfl, by decide +kernel, rfl, by decide +kernel, by decide +kernel⟩
theorem none_of_upd {H : Hp} {a b : Addr} {o u : HO} (h : H a = some u) (hb : (upd H a o) b = none) : H b = none := by
  by_cases z : b = a
  · rw [z, upd_same] at hb; cases hb
  · rw [upd_ne z] at hb; exact hb
theorem ok_deed (T : Txt K mg C) (D : DefG K mg "_law_deed" sDeed ["_law_book", "_law_rows", "_law_table", "_law_row_here", "_law_way"]) (mP : Met P w K mg base 5 C "put" (spPut C)) (mD : Met P w K mg base 5 C "drop" (spDrop C)) : Cal P w K mg base 6 "_law_deed" (spDeed C) := by
  refine D.cal scDeed (fun vs H Q E h => ?_) (fun f cdv A outer s H vs Q E hr h => ?_)
  · obtain ⟨p, r, _, t, _, _, _, _, rfl, _⟩ := h
    rfl
  · obtain ⟨p, r, Tz, t, L, ks, k, way, rfl, B, ht, A, R, q⟩ := h
    have hu := hu_of hr
    have hu65 := hu65_of hr
    have ndl : t.d ≠ t.l := ne_of A.hd.d A.l (by intro z; cases z)
    obtain ⟨⟨dx, b, h', e1, e2, e3⟩, G⟩ := id B
    refine ⟨_, pss_one (ps_if (pt_cmpR op_lt (pv 4) pe_int (nomark _))
      (pss_one (ps_if (PW.pt (pw_and (pt_cmpR (op_notInD hu65) (pv 3) (pv 1) rfl) (pw_and1 (pt_cmpR op_lt (pe_callB call_len_seq (by rfl) T.len PySem.boot_len (pa_cons (pv 1) pa_nil)) pe_int (nomark _)))))
        (pss_cons (ps_expr (pe_bm PySem.F.plainAttrs_list PySem.F.slot_list_append PySem.F.type_list_append mt_append (pv 1) (pa_cons (pv 3) pa_nil)))
        (pss_one (ps_expr (pe_mt T.cl mP hr (by decide) (pv 0) (pa_cons (pv 2) (pa_cons (pv 3) pa_nil)))))) pss_nil))
      (pss_cons (ps_if (PW.pt (pw_and (pt_cmpR op_gt (pe_callB call_len_seq (by rfl) T.len PySem.boot_len (pa_cons (pv 1) pa_nil)) pe_int (nomark _)) (pw_and1 (pt_cmpR op_eq (pv 4) pe_int (nomark _)))))
        (pss_one (ps_set (i := 3) scDeed.nd rfl (Or.inl rfl) (pe_ix ix_list (pv 1) (pe_op op_fdiv (pe_callB call_len_seq (by rfl) T.len PySem.boot_len (pa_cons (pv 1) pa_nil)) pe_int) (fun _ _ => rfl)))) pss_nil)
      (pss_cons (ps_if (pt_cmpR (op_inD hu65) (pv 3) (pv 1) rfl)
        (pss_one (ps_expr (pe_bm PySem.F.plainAttrs_list PySem.F.slot_list_remove PySem.F.type_list_remove (mt_removeR hu65) (pv 1) (pa_cons (pv 3) pa_nil)))) pss_nil)
      (pss_one (ps_expr (pe_mt T.cl mD hr (by decide) (pv 0) (pa_cons (pv 2) (pa_cons (pv 3) pa_nil)))))))), ?_⟩
    have hfew := A.hd.few
    have hlen := A.len
    have dpL : ∀ {H0 : Hp}, H0 t.l = some (.lst (refs L)) → Tups H0 L → Dp K H0 (.ref t.l) (.list ((rows L).map rowD)) := fun a b => dp_list (.of a) b
    refine ⟨_, rfl, _, _, rfl, rfl, _, rfl, ?_⟩
    refine ite2 (fun _ => ?_) (fun _ => ?_)
    · -- a row put
      refine ⟨_, rfl, _, rfl, rowD k, (rows L).map rowD, dp_row R.t, dpL A.l A.t, rowD_shaped k, rowsD_shaped _, _, rfl, ?_⟩
      rw [any_eqv]
      by_cases hin : k ∈ rows L
      · rw [decide_eq_true hin]
        exact iteF (iteF (q H L ks A (fun b o h _ _ => h) (fun b h => h)))
      · rw [decide_eq_false hin]
        refine iteT ⟨_, rfl, t.l, _, rfl, .inl (SqL.of A.l), _, _, rfl, rfl, _, rfl, ?_⟩
        refine ite2 (fun hl => ?_) (fun _ => q H L ks A (fun b o h _ _ => h) (fun b h => h))
        have hl' := of_decide_eq_true hl
        rw [List.length_map] at hl'
        refine ⟨_, rfl, .inl ⟨rfl, _, SqL.of A.l⟩, _, rfl, t.l, _, _, rfl, rfl, A.l, small1000 (by rw [List.length_map]; omega), ?_⟩
        have hnk : k ∉ ks := fun z => hin (A.pm.mem_iff.mpr z)
        have np : p ≠ t.l := ne_of e1 A.l (by intro z; cases z)
        have B1 : BookAt C (upd H t.l (.lst (refs L ++ [V.ref r]))) p Tz := B.keep fun c o hc fx => by
          rw [upd_ne (fun z => by rw [z, A.l] at hc; cases hc; exact fx)]
          exact hc
        have R1 : RowAt (upd H t.l (.lst (refs L ++ [V.ref r]))) r k t.w := ⟨by rw [upd_ne (ne_of R.t A.l (by intro z; cases z))]; exact R.t, R.ok, R.w⟩
        have S1 : Held (upd H t.l (.lst (refs L ++ [V.ref r]))) t ks := ⟨by rw [upd_ne ndl]; exact A.hd.d, A.hd.ok, A.hd.few, A.hd.nd⟩
        refine ⟨_, rfl, p, dx, _, rfl, by rw [upd_ne np]; exact e1, flds_no _ _ (by decide +kernel) (by decide +kernel), _, rfl, _, rfl, p, r, Tz, t, k, ks, rfl, B1, ht, R1, S1, hnk, ?_⟩
        refine q _ (L ++ [(r, k)]) (ks ++ [k]) ⟨⟨upd_same, fun x hx => ?_, ?_, ?_⟩, ?_, fun x hx => ?_, ?_⟩ (fun c o hc hcd hcl => ?_) (fun c hc => ?_)
        · rcases List.mem_append.mp hx with h | h
          · exact A.hd.ok x h
          · rw [List.mem_singleton.mp h]
            exact ⟨R.ok, R.w⟩
        · rw [List.length_append]
          show ks.length + 1 ≤ 50
          omega
        · refine List.nodup_append.mpr ⟨A.hd.nd, by simp, fun x hx y hy z => ?_⟩
          have : y = k := by simpa using hy
          rw [z, this] at hx
          exact hnk hx
        · rw [upd_ne ndl.symm, upd_same, refs_app] <;> rfl
        · have h0 : H x.1 = some (.tup (x.2.map V.int)) := by
            rcases List.mem_append.mp hx with h | h
            · exact A.t x h
            · rw [List.mem_singleton.mp h]
              exact R.t
          rw [upd_ne (ne_of h0 A.hd.d (by intro z; cases z)), upd_ne (ne_of h0 A.l (by intro z; cases z))]
          exact h0
        · rw [rows_app]
          exact A.pm.append (List.Perm.refl _)
        · rw [upd_ne hcd, upd_ne hcl]
          exact hc
        · exact none_of_upd A.l (none_of_upd S1.d hc)
    · -- a row dropped
      have rest : ∀ (r : Addr) (k : List Int), RowAt H r k t.w → tSeq (tIfS (tTest (tOp (rInD K) (tVar 3) (tVar 1))) (tSeq (tDrop (tBM K "list" (rRemR K) (tVar 1) (tCons (tVar 3) tNil))) tNext) tNext)
          (tSeq (tDrop (tMeth C "drop" (spDrop C) [] E0 (tVar 0) (tCons (tVar 2) (tCons (tVar 3) tNil)))) tNext) { nx := fun _ H' => Q .non H', rt := Q } [some (.ref p), some (.ref t.l), some (.str t.n), some (.ref r), some (.int way)] H := by
        intro r k R
        refine ⟨_, rfl, _, rfl, rowD k, (rows L).map rowD, dp_row R.t, dpL A.l A.t, rowD_shaped k, rowsD_shaped _, _, rfl, ?_⟩
        rw [any_eqv]
        by_cases hin : k ∈ rows L
        · rw [decide_eq_true hin]
          refine iteT ?_
          have hk : k ∈ ks := A.pm.mem_iff.mp hin
          obtain ⟨j, j1, j2, j3⟩ := first_row hin
          refine ⟨_, rfl, .inl ⟨rfl, _, SqL.of A.l⟩, _, rfl, t.l, _, rowD k, _, (rows L).map rowD, j, rfl, rfl, A.l, dp_rows A.t, dp_row R.t, PyData.plainAll_of_canLay0 _ (rowsD_lay _), PyData.plain_of_canLay0 _ (rowD_lay k), Nat.le_trans (rowD_depth k) (by decide), place_row j2 j3, ?_⟩
          · rw [eraseIdx_map]
            have np : p ≠ t.l := ne_of e1 A.l (by intro z; cases z)
            have B1 : BookAt C (upd H t.l (.lst (refs (L.eraseIdx j)))) p Tz := B.keep fun c o hc fx => by
              rw [upd_ne (fun z => by rw [z, A.l] at hc; cases hc; exact fx)]
              exact hc
            have R1 : RowAt (upd H t.l (.lst (refs (L.eraseIdx j)))) r k t.w := ⟨by rw [upd_ne (ne_of R.t A.l (by intro z; cases z))]; exact R.t, R.ok, R.w⟩
            have S1 : Held (upd H t.l (.lst (refs (L.eraseIdx j)))) t ks := ⟨by rw [upd_ne ndl]; exact A.hd.d, A.hd.ok, A.hd.few, A.hd.nd⟩
            refine ⟨_, rfl, p, dx, _, rfl, by rw [upd_ne np]; exact e1, flds_no _ _ (by decide +kernel) (by decide +kernel), _, rfl, _, rfl, p, r, Tz, t, k, ks, rfl, B1, ht, R1, S1, fun _ => ?_, fun z => absurd hk z⟩
            refine q _ (L.eraseIdx j) (ks.filter fun x => decide (x ≠ k)) ⟨⟨upd_same, fun x hx => A.hd.ok x (List.mem_filter.mp hx).1, Nat.le_trans (List.length_filter_le _ _) hfew, A.hd.nd.filter _⟩, ?_, fun x hx => ?_, ?_⟩ (fun c o hc hcd hcl => ?_) (fun c hc => ?_)
            · rw [upd_ne ndl.symm, upd_same]
            · have h0 : H x.1 = some (.tup (x.2.map V.int)) := A.t x (List.mem_of_mem_eraseIdx hx)
              rw [upd_ne (ne_of h0 A.hd.d (by intro z; cases z)), upd_ne (ne_of h0 A.l (by intro z; cases z))]
              exact h0
            · have : rows (L.eraseIdx j) = (rows L).filter fun x => decide (x ≠ k) := by
                show (L.eraseIdx j).map (·.2) = _
                rw [← eraseIdx_map]
                exact erase_filter (rows_nd A.pm A.hd.nd) j2
              rw [this]
              exact A.pm.filter _
            · rw [upd_ne hcd, upd_ne hcl]
              exact hc
            · exact none_of_upd A.l (none_of_upd S1.d hc)
        · rw [decide_eq_false hin]
          refine iteF ?_
          have hk : k ∉ ks := fun z => hin (A.pm.mem_iff.mpr z)
          exact ⟨_, rfl, p, dx, _, rfl, e1, flds_no _ _ (by decide +kernel) (by decide +kernel), _, rfl, _, rfl, p, r, Tz, t, k, ks, rfl, B, ht, R, A.hd, fun z => absurd z hk, fun _ => q H L ks A (fun b o h _ _ => h) (fun b h => h)⟩
      refine ⟨_, rfl, t.l, _, rfl, .inl (SqL.of A.l), _, _, rfl, rfl, _, rfl, ?_⟩
      refine ite2 (fun hpos => ?_) (fun _ => iteF (rest r k R))
      have hpos' := of_decide_eq_true hpos
      rw [List.length_map] at hpos'
      refine ⟨_, rfl, rfl, _, rfl, ?_⟩
      refine ite2 (fun _ => ?_) (fun _ => rest r k R)
      have h0 : (0 : Int) ≤ ((refs L).length : Int) / 2 := by omega
      have h2 : ((((refs L).length : Int) / 2).toNat : Int) = ((refs L).length : Int) / 2 := Int.toNat_of_nonneg h0
      have h3 : (((refs L).length : Int) / 2).toNat < L.length := by rw [List.length_map] at *; omega
      refine ⟨_, rfl, _, rfl, t.l, _, rfl, .inl (SqL.of A.l), _, _, rfl, rfl, ⟨by decide, by decide⟩, t.l, _, _, .ref (L[(((refs L).length : Int) / 2).toNat]'h3).1, rfl, rfl, SqL.of A.l, ?_, ?_⟩
      · have z : atI (refs L) ((((refs L).length : Int) / 2).toNat : Int) = some (.ref (L[(((refs L).length : Int) / 2).toNat]'h3).1) := by
          refine atI_nat ?_
          rw [List.getElem?_map, List.getElem?_eq_getElem h3] <;> rfl
        rw [h2] at z
        exact z
      · have hm : L[(((refs L).length : Int) / 2).toNat]'h3 ∈ L := List.getElem_mem h3
        obtain ⟨a, b⟩ := A.hd.ok _ (A.mem hm)
        exact rest _ _ ⟨A.t _ hm, a, b⟩
end
end Aw

/-! The law's names. -/
namespace Aw
open PySem PySem.Spec PyProof.Rows L2

def sgS : Str := "abcdefghijklmnopqrstuvwxyz0123456789"
def SG : List Nat := sgS.cps.toList
theorem sg_len : SG.length = 36 := by decide +kernel
theorem sg_nd : SG.Nodup := by decide +kernel
theorem sg_ok : ∀ c ∈ SG, c ∈ ltrS.cps.toList ∨ c ∈ figS.cps.toList := by decide +kernel
theorem sg_ltr : ∀ c ∈ SG.take 26, c ∈ ltrS.cps.toList := by decide +kernel
/-- a sign by a number -/
def pick (n x : Int) : Nat := SG.getD (x % n).toNat 0
theorem pick_at {n x : Int} (h0 : 0 < n) (h1 : n ≤ 36) : SG[(x % n).toNat]? = some (pick n x) := by
  have a := Int.emod_nonneg x (show n ≠ 0 by omega)
  have b := Int.emod_lt_of_pos x h0
  have hl : (x % n).toNat < SG.length := by rw [sg_len]; omega
  unfold pick
  rw [List.getD_eq_getElem?_getD, List.getElem?_eq_getElem hl] <;> rfl
theorem pick_mem {n x : Int} (h0 : 0 < n) (h1 : n ≤ 36) : pick n x ∈ SG := List.mem_of_getElem? (pick_at h0 h1)
theorem pick_ltr (x : Int) : pick 26 x ∈ ltrS.cps.toList := by
  have h := pick_at (n := 26) (x := x) (by decide) (by decide)
  have a := Int.emod_nonneg x (show (26 : Int) ≠ 0 by decide)
  have b := Int.emod_lt_of_pos x (show (0 : Int) < 26 by decide)
  refine sg_ltr _ (List.mem_of_getElem? (i := (x % 26).toNat) ?_)
  rw [List.getElem?_take, if_pos (by omega)]
  exact h
theorem pick_ne {n x : Int} (h0 : 26 ≤ n) (h1 : n ≤ 36) {i j : Nat} (hi : i < 3) (hj : j < 3) (e : pick n (x + i) = pick n (x + j)) : i = j := by
  have e1 := pick_at (n := n) (x := x + i) (by omega) h1
  have e2 := pick_at (n := n) (x := x + j) (by omega) h1
  rw [e] at e1
  have a1 := Int.emod_nonneg (x + i) (show n ≠ 0 by omega)
  have b1 := Int.emod_lt_of_pos (x + i) (show 0 < n by omega)
  have a2 := Int.emod_nonneg (x + j) (show n ≠ 0 by omega)
  have b2 := Int.emod_lt_of_pos (x + j) (show 0 < n by omega)
  have hl : ((x + i) % n).toNat < SG.length := by rw [sg_len]; omega
  have hl2 : ((x + j) % n).toNat < SG.length := by rw [sg_len]; omega
  rw [List.getElem?_eq_getElem hl] at e1
  rw [List.getElem?_eq_getElem hl2] at e2
  have ee : ((x + i) % n).toNat = ((x + j) % n).toNat := (List.getElem_inj sg_nd).mp ((Option.some.inj e1).trans (Option.some.inj e2).symm)
  have e3 : (x + i) % n = (x + j) % n := by omega
  have d := Int.emod_emod_of_dvd
  have q1 := Int.mul_ediv_add_emod (x + i) n
  have q2 := Int.mul_ediv_add_emod (x + j) n
  rw [e3] at q1
  have q3 : n * ((x + i) / n) - n * ((x + j) / n) = (i : Int) - (j : Int) := by omega
  rw [← Int.mul_sub] at q3
  generalize (x + i) / n - (x + j) / n = z at q3
  rcases Int.lt_trichotomy z 0 with h | h | h
  · have : n * z ≤ n * (-1) := Int.mul_le_mul_of_nonneg_left (by omega) (by omega)
    omega
  · rw [h, Int.mul_zero] at q3
    omega
  · have : n * 1 ≤ n * z := Int.mul_le_mul_of_nonneg_left (by omega) (by omega)
    omega
/-- the signs of a name -/
structure BaseOk (B : List Nat) : Prop where
  lo : 1 ≤ B.length
  hi : B.length ≤ 12
  ch : ∀ c ∈ B, c ∈ SG
  hd : ∃ c, B[0]? = some c ∧ c ∈ ltrS.cps.toList
abbrev nmS (B : List Nat) : Str := ⟨B.toArray⟩
theorem BaseOk.name {B : List Nat} (h : BaseOk B) : NameOk (nmS B) :=
  ⟨by show 1 ≤ B.toArray.size; rw [List.size_toArray]; exact h.lo, by show B.toArray.size ≤ 12; rw [List.size_toArray]; exact h.hi, fun c hc => sg_ok c (h.ch c hc), h.hd⟩
theorem nmS_inj {a b : List Nat} (h : nmS a = nmS b) : a = b := congrArg (fun x : Str => x.cps.toList) h
theorem BaseOk.set {B : List Nat} (h : BaseOk B) {i : Nat} {c : Nat} (hc : c ∈ SG) (h0 : i = 0 → c ∈ ltrS.cps.toList) : BaseOk (B.set i c) := by
  refine ⟨by rw [List.length_set]; exact h.lo, by rw [List.length_set]; exact h.hi, fun x hx => ?_, ?_⟩
  · rcases List.mem_or_eq_of_mem_set hx with z | z
    · exact h.ch x z
    · rw [z]; exact hc
  · by_cases z : i = 0
    · subst z
      refine ⟨c, ?_, h0 rfl⟩
      rw [List.getElem?_set_self h.lo]
    · obtain ⟨y, hy, m⟩ := h.hd
      exact ⟨y, by rw [List.getElem?_set_ne z]; exact hy, m⟩
theorem BaseOk.take {B : List Nat} (h : BaseOk B) (k : Nat) : BaseOk (B.take (k + 1)) := by
  refine ⟨by rw [List.length_take]; have := h.lo; omega, by rw [List.length_take]; have := h.hi; omega, fun x hx => h.ch x (List.mem_of_mem_take hx), ?_⟩
  obtain ⟨y, hy, m⟩ := h.hd
  exact ⟨y, by rw [List.getElem?_take, if_pos (by omega)]; exact hy, m⟩
/-- a text of one sign -/
abbrev chS (c : Nat) : Str := ⟨#[c]⟩
theorem join_chs : ∀ B : List Nat, Txt.join ("" : Str) (B.map chS) = nmS B := by
  intro B
  show Builtin.Str.glued ("" : Str) (B.map chS) = nmS B
  rw [StrLaws.glued_eq_join]
  induction B with
  | nil => rfl
  | cons c r ih =>
    cases r with
    | nil => rfl
    | cons d r =>
      have e : Str.join ("" : Str) ((c :: d :: r).map chS) = chS c ++ ("" : Str) ++ Str.join ("" : Str) ((d :: r).map chS) := rfl
      rw [e, ih]
      refine str_ext ?_
      have z : ("" : Str) = ⟨#[]⟩ := by decide +kernel
      rw [z]
      show ((#[c] ++ #[]) ++ (d :: r).toArray).toList = (c :: d :: r).toArray.toList
      simp
theorem sum_ones : ∀ B : List Nat, ((B.map chS).map (·.length)).sum = B.length
  | [] => rfl
  | c :: r => by
    have := sum_ones r
    rw [List.map_cons, List.map_cons, List.sum_cons, this, List.length_cons]
    show 1 + r.length = r.length + 1
    omega
theorem join_fits {B : List Nat} (h : B.length ≤ 12) : ((B.map chS).map (·.length)).sum + (B.map chS).length * ("" : Str).length ≤ 16777216 := by
  have z : ("" : Str).length = 0 := by decide +kernel
  rw [sum_ones, z]
  omega
abbrev chV (B : List Nat) : List V := (B.map chS).map V.str
theorem chV_set (B : List Nat) (i c : Nat) : (chV B).set i (.str ⟨#[c]⟩) = chV (B.set i c) := by
  unfold chV
  rw [List.map_set, List.map_set]
theorem chV_take (B : List Nat) (i : Nat) : (chV B).take i = chV (B.take i) := by
  unfold chV
  rw [List.map_take, List.map_take]
theorem chV_app (A B : List Nat) : chV (A ++ B) = chV A ++ chV B := by
  unfold chV
  rw [List.map_append, List.map_append]
theorem yes {σ : L2.St} {H : Hp} {Q : Bool → Hp → Prop} (h : Q true H) : tYes σ H Q := h
theorem cut_to {xs : List V} {i : Nat} (h : i ≤ xs.length) : cutV xs none (some (i : Int)) = xs.take i := by
  unfold cutV
  rw [HT.sIx_none, HT.sIx_nat, List.drop_zero, Nat.sub_zero, Nat.min_eq_left h]
theorem nodup_range {α : Type} {f : Nat → α} {n : Nat} (h : ∀ i j, i < n → j < n → f i = f j → i = j) : ((List.range n).map f).Nodup := by
  unfold List.Nodup
  rw [List.pairwise_map]
  refine List.Pairwise.imp_of_mem (fun {a b} ha hb z => ?_) (List.nodup_range (n := n))
  intro e
  exact z (h a b (List.mem_range.mp ha) (List.mem_range.mp hb) e)
/-- within a comprehension's block: the written part by its own name -/
theorem sl_listK {X : Cx} {K : PySem.W.Frag} (h : X.K = K) : SlR X (rSlL K) := by
  subst h
  exact sl_list
theorem pe_joinK {X : Cx} {K : PySem.W.Frag} {o e : Expr} {to te : TE} {apos pos : Pos} (h : X.K = K) (ho : PE X o to) (he : PE X e te) (hs : starEach [e] X.env = [(false, eval e X.env)] := by rfl) (hbase : attributeBase o "join" X.env (eval o X.env) = eval o X.env := by rfl) (hline : (apos.endLine == pos.line) = true := by rfl) :
    PE X (.Call (.Attribute o "join" apos) [e] [] pos) (tM1 (fun x xs H Q => ∃ a p, ∃ ys : List Str, x = .str a ∧ xs = [.ref p] ∧ (SqL K H p (ys.map V.str) ∨ SqT K H p (ys.map V.str)) ∧
      (ys.map (·.length)).sum + ys.length * a.length ≤ 16777216 ∧ Q (.str (Txt.join a ys)) H) to te) := by
  subst h
  exact pe_join ho he hs hbase hline
section
variable {P : Program} {w : World} {K : PySem.W.Frag} {mg : Str → Option Value} {base : Heap} {C : Addr}
def spNames : Sp := fun vs H Q _ => ∃ (c : Int) (n : Nat), vs = [.int c, .int (n : Nat)] ∧ (1 ≤ n ∧ n ≤ 3) ∧
  ∀ (q : Addr) (ns : List Str) (H' : Hp), Same H H' → H' q = some (.lst (ns.map V.str)) → H q = none → ns.length = n → ns.Nodup → (∀ x ∈ ns, NameOk x) → Q (.ref q) H'
abbrev nNames : List Str := ["_law_cell_here", "_law_count", "_law_signs", "_law_size", "_law_k", "_law_base", "_law_at", "_law_found"]
theorem scNames : FnScope nNames ["_law_cell_here", "_law_count"] (defScope sNames) := ⟨rfl, rfl, rfl, by decide +kernel, rfl, by decide +kernel, by decide +kernel⟩
theorem ok_names (T : Txt K mg C) (D : DefG K mg "_law_names" sNames ["_law_cell_here", "_law_count"]) (cM : Cal P w K mg base 1 "_law_mix" spMix) : Cal P w K mg base 2 "_law_names" spNames := by
  refine D.cal scNames (fun vs H Q E h => ?_) (fun f cdv A outer s H vs Q E hr h => ?_)
  · obtain ⟨c, n, rfl, _⟩ := h
    rfl
  · obtain ⟨c, n, rfl, ⟨n1, n3⟩, q⟩ := h
    refine ⟨_, pss_cons (ps_set (i := 2) scNames.nd rfl (Or.inr rfl) pe_str)
      (pss_cons (ps_set (i := 3) scNames.nd rfl (Or.inl rfl) (pe_op op_add pe_int (pe_op op_mod (pe_c cM hr (by decide) (by rfl) (pa_cons (pv 0) (pa_cons pe_int pa_nil))) pe_int)))
      (C8.pss_cut (ps_if (pt_cmpR op_eq (pe_op op_mod (pe_c cM hr (by decide) (by rfl) (pa_cons (pv 0) (pa_cons pe_int pa_nil))) pe_int) pe_int (nomark _)) (pss_one (ps_set (i := 3) scNames.nd rfl (Or.inl rfl) pe_int)) pss_nil)
      (pss_cons (ps_set (i := 5) scNames.nd rfl (Or.inr rfl) (pe_lc (own := [("_law_k", 4)]) (g := gName 4) (tt := tYes) (by rfl) scNames.nd (pi_range1 (by rfl) T.range (pa_cons (pv 3) pa_nil)) (blkOk_by (own := [("_law_k", 4)]) (N := nNames) (sc := defScope sNames) (by decide +kernel))
          (fun _ _ _ _ _ => pg_name (i := 4) scNames.nd rfl (Or.inl rfl)) (fun _ _ _ _ _ => pts_nil)
          (fun _ _ _ _ _ => pe_ix ix_str (pv 2) (pe_op op_mod (pe_c cM hr (by decide) (by rfl) (pa_cons (pv 0) (pa_cons (pe_op op_add pe_int (pv 4)) pa_nil))) pe_int) (fun _ _ => rfl))))
      (pss_cons (ps_asg (pe_ix ix_str (pv 2) (pe_op op_mod (pe_c cM hr (by decide) (by rfl) (pa_cons (pv 0) (pa_cons pe_int pa_nil))) pe_int) (fun _ _ => rfl)) (pg_sub (pv 5) pe_int set_list))
      (pss_cons (ps_if (pt_cmpR op_eq (pe_op op_mod (pe_c cM hr (by decide) (by rfl) (pa_cons (pv 0) (pa_cons pe_int pa_nil))) pe_int) pe_int (nomark _))
          (pss_one (ps_ret (pe_lc (own := [("_law_k", 4)]) (g := gName 4) (tt := tYes) (by rfl) scNames.nd (pi_range1 (by rfl) T.range (pa_cons (pv 1) pa_nil)) (blkOk_by (own := [("_law_k", 4)]) (N := nNames) (sc := defScope sNames) (by decide +kernel))
            (fun _ _ _ _ _ => pg_name (i := 4) scNames.nd rfl (Or.inl rfl)) (fun _ _ _ _ _ => pts_nil)
            (fun _ _ _ _ _ => pe_joinK (K := K) rfl pe_str (pe_slice (sl_listK (K := K) rfl) (pv 5) po_none (po_some (pe_op op_add (pv 4) pe_int))))))) pss_nil)
      (pss_cons (ps_set (i := 6) scNames.nd rfl (Or.inl rfl) (pe_op op_mod (pe_c cM hr (by decide) (by rfl) (pa_cons (pv 0) (pa_cons pe_int pa_nil))) (pv 3)))
      (pss_cons (ps_set (i := 7) scNames.nd rfl (Or.inl rfl) (pe_lst pa_nil))
      (pss_cons (ps_for PassesOwn.never rfl (pi_range1 (by rfl) T.range (pa_cons (pv 1) pa_nil)) (pg_name (i := 4) scNames.nd rfl (Or.inl rfl))
        (pss_cons (ps_asg (pe_ix ix_str (pv 2) (pe_op op_mod (pe_op op_add (pe_c cM hr (by decide) (by rfl) (pa_cons (pv 0) (pa_cons pe_int pa_nil))) (pv 4))
            (pe_op op_add pe_int (pe_op op_mul pe_int (pe_callTy call_int1 (by rfl) T.int (by decide +kernel) (pa_cons (pe_cmpR op_gt (pv 6) pe_int (nomark _)) pa_nil))))) (fun _ _ => rfl)) (pg_sub (pv 5) (pv 6) set_list))
        (pss_one (ps_expr (pe_bm PySem.F.plainAttrs_list PySem.F.slot_list_append PySem.F.type_list_append mt_append (pv 7) (pa_cons (pe_join pe_str (pv 5)) pa_nil))))))
      (pss_one (ps_ret (pv 7))))))))))), ?_⟩
    have m0 := fun k => mixZ_lo c k
    refine ⟨_, rfl, c, 1, rfl, ⟨by decide, by decide⟩, _, _, rfl, rfl, (by show (0 : Int) < 12; decide), _, _, rfl, rfl, ?_⟩
    -- if mix % 3 == 0: size = 12
    refine ⟨fun σ H' => H' = H ∧ ∃ z : Nat, σ = [some (.int c), some (.int (n : Nat)), some (.str sgS), some (.int (z : Nat)), none, none, none, none] ∧ 1 ≤ z ∧ z ≤ 12 ∧ (mixZ c 2 % 3 = 0 → z = 12), ?_, ?_⟩
    · refine ⟨_, rfl, c, 2, rfl, ⟨by decide, by decide⟩, _, _, rfl, rfl, (by show (0 : Int) < 3; decide), rfl, _, rfl, ?_⟩
      have a := Int.emod_nonneg (mixZ c 1) (show (12 : Int) ≠ 0 by decide)
      have b := Int.emod_lt_of_pos (mixZ c 1) (show (0 : Int) < 12 by decide)
      refine ite2 (fun h => ?_) (fun h => ?_)
      · exact ⟨rfl, 12, rfl, by decide, by decide, fun _ => rfl⟩
      · have h : ¬ mixZ c 2 % 3 = 0 := fun z => h (decide_eq_true (congrArg V.int z))
        have e : 1 + mixZ c 1 % 12 = (((1 + mixZ c 1 % 12).toNat : Nat) : Int) := by omega
        refine ⟨rfl, (1 + mixZ c 1 % 12).toNat, ?_, by omega, by omega, fun z => absurd z h⟩
        show [some (V.int c), some (V.int (n : Nat)), some (V.str sgS), some (V.int (1 + mixZ c 1 % 12)), none, none, none, none] = _
        rw [← e]
    rintro σ H' ⟨rfl, z, rfl, z1, z12, hz⟩
    have sgline : sgS.length ≤ sizeLine := by rw [sizeLine_eq]; decide +kernel
    -- base = [..]
    refine ⟨_, rfl, (z : Nat), rfl, by omega, by omega, fun l hl => ?_⟩
    have sl : ∀ o, Same H' (upd H' l o) := fun o => same_upd hl
    refine lc_range (lo := 0) (n := z) (fun i H2 => ∃ B : List Nat, B.length = i ∧ (∀ x ∈ B, x ∈ SG) ∧ H2 = upd H' l (.lst (chV B))) ⟨[], rfl, fun x hx => (by cases hx), rfl⟩ ?_ ?_
    · rintro i H2 hi ⟨B, eB, mB, rfl⟩
      refine ⟨rfl, yes (iteT ?_)⟩
      refine ⟨_, rfl, _, rfl, _, rfl, _, _, rfl, rfl, c, _, rfl, ⟨by omega, by omega⟩, _, _, rfl, rfl, (by show (0 : Int) < 36; decide), sgS, _, pick 36 (mixZ c (30 + (0 + (i : Int)))), rfl, rfl, sgline, ?_, _, upd_same, small1000 (by rw [List.length_map, List.length_map]; omega), ?_⟩
      · have a := Int.emod_nonneg (mixZ c (30 + (0 + (i : Int)))) (show (36 : Int) ≠ 0 by decide)
        have t := atI_nat (pick_at (n := 36) (x := mixZ c (30 + (0 + (i : Int)))) (by decide) (by decide))
        rw [Int.toNat_of_nonneg a] at t
        exact t
      · refine ⟨B ++ [_], by rw [List.length_append, eB] <;> rfl, fun x hx => ?_, by rw [upd_upd, chV_app] <;> rfl⟩
        rcases List.mem_append.mp hx with h | h
        · exact mB x h
        · rw [List.mem_singleton.mp h]
          exact pick_mem (by decide) (by decide)
    rintro H2 ⟨B, eB, mB, rfl⟩
    -- base[0] = ..
    refine ⟨_, rfl, _, rfl, c, 50, rfl, ⟨by decide, by decide⟩, _, _, rfl, rfl, (by show (0 : Int) < 26; decide), sgS, _, pick 26 (mixZ c 50), rfl, rfl, sgline, ?_, ?_⟩
    · have a := Int.emod_nonneg (mixZ c 50) (show (26 : Int) ≠ 0 by decide)
      have t := atI_nat (pick_at (n := 26) (x := mixZ c 50) (by decide) (by decide))
      rw [Int.toNat_of_nonneg a] at t
      exact t
    refine ⟨_, rfl, l, _, 0, 0, rfl, rfl, upd_same, ?_, ?_⟩
    · unfold ixN
      rw [if_pos (by decide), if_pos (by rw [List.length_map, List.length_map]; omega)] <;> rfl
    have B1 : BaseOk (B.set 0 (pick 26 (mixZ c 50))) := by
      refine ⟨by rw [List.length_set]; omega, by rw [List.length_set]; omega, fun x hx => ?_, pick 26 (mixZ c 50), ?_, pick_ltr _⟩
      · rcases List.mem_or_eq_of_mem_set hx with h | h
        · exact mB x h
        · rw [h]
          exact pick_mem (by decide) (by decide)
      · rw [List.getElem?_set_self (by omega)]
    have eset := chV_set B 0 (pick 26 (mixZ c 50))
    have lenB : (B.set 0 (pick 26 (mixZ c 50))).length = z := by rw [List.length_set]; exact eB
    rw [upd_upd, eset]
    generalize B.set 0 (pick 26 (mixZ c 50)) = B at B1 lenB
    -- if mix % 3 == 0: return
    refine ⟨_, rfl, c, 2, rfl, ⟨by decide, by decide⟩, _, _, rfl, rfl, (by show (0 : Int) < 3; decide), rfl, _, rfl, ?_⟩
    refine ite2 (fun h3 => ?_) (fun h3 => ?_)
    · have hz12 := hz (V.int.inj (of_decide_eq_true h3))
      refine ⟨_, rfl, (n : Nat), rfl, by omega, by omega, fun d hd => ?_⟩
      have nld : l ≠ d := fun z => by rw [← z, upd_same] at hd; cases hd
      have hd0 : H' d = none := by rw [upd_ne nld.symm] at hd; exact hd
      refine lc_range (lo := 0) (n := n) (fun i H2 => Same H' H2 ∧ H2 l = some (.lst (chV B)) ∧ H2 d = some (.lst (((List.range i).map fun k => nmS (B.take (k + 1))).map V.str))) ⟨(sl _).trans (same_upd hd), by rw [upd_ne nld, upd_same], upd_same⟩ ?_ ?_
      · rintro i H2 hi ⟨sH, hl2, hd2⟩
        have ei : (0 : Int) + (i : Int) + 1 = ((i + 1 : Nat) : Int) := by omega
        refine ⟨rfl, yes (iteT ?_)⟩
        refine ⟨⟨_, rfl⟩, _, rfl, _, rfl, _, _, rfl, rfl, _, rfl, l, _, rfl, SqL.of hl2, fun p hp => ?_⟩
        have ecut : cutV (chV B) none (some (0 + (i : Int) + 1)) = chV (B.take (i + 1)) := by
          rw [ei, cut_to (by rw [List.length_map, List.length_map]; omega), chV_take]
        refine ⟨("" : Str), p, (B.take (i + 1)).map chS, rfl, rfl, .inl (SqL.of (by rw [upd_same]; exact congrArg (fun z => some (HO.lst z)) ecut)), join_fits (by rw [List.length_take]; omega), ?_⟩
        rw [join_chs]
        have npd : d ≠ p := ne_of_none hd2 hp
        have npl : l ≠ p := ne_of_none hl2 hp
        refine ⟨_, by rw [upd_ne npd]; exact hd2, small1000 (by rw [List.length_map, List.length_map, List.length_range]; omega), fun b o hb => ?_, by rw [upd_ne nld, upd_ne npl]; exact hl2, ?_⟩
        · rw [upd_ne (ne_of_none hb hd0), upd_ne (ne_of_none (sH b o hb) hp)]
          exact sH b o hb
        · rw [upd_same, List.range_succ, List.map_append, List.map_append] <;> rfl
      · rintro H2 ⟨sH, hl2, hd2⟩
        refine q d _ H2 sH hd2 hd0 (by rw [List.length_map, List.length_range]) (nodup_range fun i j hi hj e => ?_) fun x hx => ?_
        · have := congrArg List.length (nmS_inj e)
          rw [List.length_take, List.length_take] at this
          omega
        · obtain ⟨k, _, rfl⟩ := List.mem_map.mp hx
          exact (B1.take k).name
    · have a0 := Int.emod_nonneg (mixZ c 3) (show (z : Int) ≠ 0 by omega)
      have a1 := Int.emod_lt_of_pos (mixZ c 3) (show (0 : Int) < (z : Int) by omega)
      refine ⟨_, rfl, c, 3, rfl, ⟨by decide, by decide⟩, _, rfl, _, _, rfl, rfl, by omega, Nat.zero_le _, fun d hd => ?_⟩
      have nld : l ≠ d := fun z => by rw [← z, upd_same] at hd; cases hd
      have hd0 : H' d = none := by rw [upd_ne nld.symm] at hd; exact hd
      generalize hm : (26 + 10 * (if decide (0 < (mixZ c 3 % (z : Int))) = true then (1 : Int) else 0)) = m
      have hm26 : 26 ≤ m ∧ m ≤ 36 ∧ ((mixZ c 3 % (z : Int)) = 0 → m = 26) := by
        rw [← hm]
        by_cases h : 0 < (mixZ c 3 % (z : Int))
        · rw [if_pos (decide_eq_true h)]
          omega
        · rw [if_neg (by simpa using h)]
          omega
      let nm : Nat → List Nat := fun k => B.set (mixZ c 3 % (z : Int)).toNat (pick m (mixZ c 4 + (0 + (k : Int))))
      have nmOk : ∀ k, BaseOk (nm k) := fun k => B1.set (pick_mem (by omega) hm26.2.1) fun e => by
        rw [hm26.2.2 (by omega)]
        exact pick_ltr _
      refine ⟨_, rfl, (n : Nat), rfl, by omega, by omega, for_range (lo := 0) (n := n) (fun i σ H2 => ∃ (v : Option V) (B' : List Nat), σ = [some (.int c), some (.int (n : Nat)), some (.str sgS), some (.int (z : Nat)), v, some (.ref l), some (.int (mixZ c 3 % (z : Int))), some (.ref d)] ∧
        Same H' H2 ∧ H2 l = some (.lst (chV B')) ∧ B'.length = z ∧ (∀ x, B'.set (mixZ c 3 % (z : Int)).toNat x = B.set (mixZ c 3 % (z : Int)).toNat x) ∧ H2 d = some (.lst (((List.range i).map fun k => nmS (nm k)).map V.str)))
        ⟨none, B, rfl, (sl _).trans (same_upd hd), by rw [upd_ne nld, upd_same], lenB, fun _ => rfl, upd_same⟩ ?_ ?_⟩
      · rintro i σ H2 hi ⟨v, B', rfl, sH, hl2, lB', hB', hd2⟩
        refine ⟨_, rfl, _, rfl, c, 4, rfl, ⟨by decide, by decide⟩, _, rfl, _, _, rfl, rfl, _, rfl, _, _, rfl, rfl, .inr ⟨_, rfl, _, _, rfl, rfl, .inl ⟨by decide, by decide⟩, _, _, rfl, rfl, ?_⟩⟩
        have b0 := Int.emod_nonneg (mixZ c 4 + (0 + (i : Int))) (show m ≠ 0 by omega)
        have key : atI sgS.cps.toList ((mixZ c 4 + (0 + (i : Int))) % (26 + 10 * (if decide (0 < mixZ c 3 % (z : Int)) = true then (1 : Int) else 0))) = some (pick m (mixZ c 4 + (0 + (i : Int)))) := by
          rw [hm]
          have t := atI_nat (pick_at (n := m) (x := mixZ c 4 + (0 + (i : Int))) (by omega) hm26.2.1)
          rw [Int.toNat_of_nonneg b0] at t
          exact t
        refine ⟨_, _, rfl, rfl, (by show (0 : Int) < 26 + 10 * (if decide (0 < mixZ c 3 % (z : Int)) = true then (1 : Int) else 0); rw [hm]; omega), sgS, _, pick m (mixZ c 4 + (0 + (i : Int))), rfl, rfl, sgline, key, ?_⟩
        refine ⟨_, rfl, _, rfl, l, _, (mixZ c 3 % (z : Int)), (mixZ c 3 % (z : Int)).toNat, rfl, rfl, hl2, ?_, ?_⟩
        · unfold ixN
          rw [if_pos a0, if_pos (by rw [List.length_map, List.length_map]; omega)]
        have e1 : (chV B').set (mixZ c 3 % (z : Int)).toNat (.str ⟨#[pick m (mixZ c 4 + (0 + (i : Int)))]⟩) = chV (nm i) := by
          show _ = chV (B.set (mixZ c 3 % (z : Int)).toNat _)
          rw [← hB', chV_set]
        rw [e1]
        have hl0 : H' l = none := hl
        refine ⟨_, rfl, .inl ⟨rfl, _, SqL.of (by rw [upd_ne nld.symm]; exact hd2)⟩, ⟨_, rfl⟩, _, rfl, ("" : Str), l, (nm i).map chS, rfl, rfl, .inl (SqL.of upd_same), join_fits (nmOk i).hi, ?_⟩
        rw [join_chs]
        refine ⟨d, _, _, rfl, rfl, by rw [upd_ne nld.symm]; exact hd2, small1000 (by rw [List.length_map, List.length_map, List.length_range]; omega), ?_⟩
        refine ⟨_, nm i, rfl, fun b o hb => ?_, by rw [upd_ne nld, upd_same], ?_, fun x => ?_, ?_⟩
        · rw [upd_ne (ne_of_none hb hd0), upd_ne (ne_of_none hb hl0)]
          exact sH b o hb
        · show (B.set _ _).length = z
          rw [List.length_set]
          exact lenB
        · show (B.set _ _).set _ _ = _
          rw [List.set_set]
        · rw [upd_same, List.range_succ, List.map_append, List.map_append] <;> rfl
      · rintro σ H2 ⟨v, B', rfl, sH, hl2, lB', hB', hd2⟩
        refine ⟨_, rfl, q d _ H2 sH hd2 hd0 (by rw [List.length_map, List.length_range]) (nodup_range fun i j hi hj e => ?_) fun x hx => ?_⟩
        · have e2 := nmS_inj e
          have e3 := congrArg (fun y : List Nat => y[(mixZ c 3 % (z : Int)).toNat]?) e2
          have hlt : (mixZ c 3 % (z : Int)).toNat < B.length := by omega
          simp only [nm, List.getElem?_set_self hlt] at e3
          have e4 := Option.some.inj e3
          rw [Int.zero_add, Int.zero_add] at e4
          exact pick_ne hm26.1 hm26.2.1 (by omega) (by omega) e4
        · obtain ⟨k, _, rfl⟩ := List.mem_map.mp hx
          exact (nmOk k).name
end
end Aw

/-! What stands while the law runs: two Books, two models, what was told. -/
namespace Aw
open PySem PySem.Spec PyProof.Rows L2

theorem inj_of_nodup {α β : Type} {f : α → β} {l : List α} (hn : (l.map f).Nodup) {a b : α} (ha : a ∈ l) (hb : b ∈ l) (e : f a = f b) : a = b := by
  obtain ⟨i, hi, gi⟩ := List.mem_iff_getElem.mp ha
  obtain ⟨j, hj, gj⟩ := List.mem_iff_getElem.mp hb
  have e0 : (l.map f)[i]'(by rw [List.length_map]; exact hi) = (l.map f)[j]'(by rw [List.length_map]; exact hj) := by
    rw [List.getElem_map, List.getElem_map, gi, gj, e]
  have := (List.getElem_inj hn).mp e0
  subst this
  rw [← gi, ← gj]

/-- where things stand -/
structure Env where
  lp : Addr
  lb : Addr
  lm : Addr
  lh : Addr
  p : Nat → Addr
  m : Nat → Addr
  U : Nat → List Tab
  W : List Pr
/-- what the loop writes -/
def Env.Mu (e : Env) (b : Addr) : Prop := b = e.lh ∨ ∃ j, j < 2 ∧ ∃ t ∈ e.U j, b = t.d ∨ b = t.l
structure EnvOk (e : Env) : Prop where
  few : e.W.length ≤ 12
  pos : 1 ≤ e.W.length
  same : ∀ j, j < 2 → ((e.U j).map fun t => (t.n, t.w)) = e.W.map (fun x => (x.2.1, x.2.2))
  d1 : ∀ j k, j < 2 → k < 2 → ∀ t ∈ e.U j, ∀ u ∈ e.U k, t.d = u.d → t = u
  l1 : ∀ j k, j < 2 → k < 2 → ∀ t ∈ e.U j, ∀ u ∈ e.U k, t.l = u.l → t = u
  hl : ∀ j, j < 2 → ∀ t ∈ e.U j, t.l ≠ e.lh
  n1 : ¬ e.Mu e.lp
  n2 : ¬ e.Mu e.lb
  n3 : ¬ e.Mu e.lm
/-- all is kept but what the loop writes -/
def Keep (e : Env) (H H' : Hp) : Prop := ∀ b o, H b = some o → (Fix o ∨ ¬ e.Mu b) → H' b = some o
theorem Keep.trans {e : Env} {H H1 H2 : Hp} (a : Keep e H H1) (b : Keep e H1 H2) : Keep e H H2 := fun c o h z => b c o (a c o h z) z
theorem keep_same {e : Env} {H H' : Hp} (h : Same H H') : Keep e H H' := fun c o hc _ => h c o hc
structure St0 (C : Addr) (e : Env) (H : Hp) : Prop where
  lp : H e.lp = some (.lst (e.W.map fun x => V.ref x.1))
  pr : PrOk H e.W
  lb : H e.lb = some (.lst [.ref (e.p 0), .ref (e.p 1)])
  lm : H e.lm = some (.lst [.ref (e.m 0), .ref (e.m 1)])
  bk : ∀ j, j < 2 → BookAt C H (e.p j) (e.U j)
  md : ∀ j, j < 2 → H (e.m j) = some (.dK (mkv (e.U j)))
theorem St0.keep {C : Addr} {e : Env} {H H' : Hp} (S : St0 C e H) (O : EnvOk e) (k : Keep e H H') : St0 C e H' where
  lp := k _ _ S.lp (.inr O.n1)
  pr := S.pr.same fun b xs h => k b _ h (.inl trivial)
  lb := k _ _ S.lb (.inr O.n2)
  lm := k _ _ S.lm (.inr O.n3)
  bk := fun j hj => (S.bk j hj).keep fun b o h f => k b o h (.inl f)
  md := fun j hj => k _ _ (S.md j hj) (.inl trivial)
/-- a plain book that nobody writes -/
structure PBx (e : Env) (H : Hp) (q : Addr) (P : Tabs) : Prop where
  b : PB H q P
  n : ∀ x ∈ P, ¬ e.Mu x.2.1
theorem PBx.keep {e : Env} {H H' : Hp} {q : Addr} {P : Tabs} (B : PBx e H q P) (k : Keep e H H') : PBx e H' q P :=
  ⟨⟨k _ _ B.b.d (.inl trivial), fun x hx => k _ _ (B.b.l x hx) (.inr (B.n x hx)), fun x hx p hp => k _ _ (B.b.t x hx p hp) (.inl trivial)⟩, B.n⟩
/-- a pair of what was told: the plain book and its copy -/
def HeldOk (e : Env) (H : Hp) (h : Addr) : Prop := ∃ (q1 q2 : Addr) (P1 P2 : Tabs), H h = some (.tup [.ref q1, .ref q2]) ∧ PBx e H q1 P1 ∧ PBx e H q2 P2 ∧ (P2.map fun x => (x.1, x.2.2)) = (P1.map fun x => (x.1, x.2.2)) ∧ (P1.map (·.1)).Nodup
theorem HeldOk.keep {e : Env} {H H' : Hp} {h : Addr} (B : HeldOk e H h) (k : Keep e H H') : HeldOk e H' h := by
  obtain ⟨q1, q2, P1, P2, a, b, c, d⟩ := B
  exact ⟨q1, q2, P1, P2, k _ _ a (.inl trivial), b.keep k, c.keep k, d⟩
structure St1 (C : Addr) (e : Env) (H : Hp) (n : Nat) : Prop where
  s : St0 C e H
  tb : ∀ j, j < 2 → ∀ t ∈ e.U j, ∃ L ks, TabAt H t L ks
  hl : ∃ hs : List Addr, H e.lh = some (.lst (hs.map V.ref)) ∧ hs.length ≤ n ∧ ∀ h ∈ hs, HeldOk e H h
theorem St1.live {C : Addr} {e : Env} {H : Hp} {n : Nat} (S : St1 C e H n) {b : Addr} (h : e.Mu b) : ∃ o, H b = some o ∧ ¬ Fix o := by
  rcases h with rfl | ⟨j, hj, t, ht, h⟩
  · obtain ⟨hs, a, _⟩ := S.hl
    exact ⟨_, a, fun z => z⟩
  · obtain ⟨L, ks, A⟩ := S.tb j hj t ht
    rcases h with rfl | rfl
    · exact ⟨_, A.hd.d, fun z => z⟩
    · exact ⟨_, A.l, fun z => z⟩
theorem St1.fresh {C : Addr} {e : Env} {H : Hp} {n : Nat} (S : St1 C e H n) {b : Addr} (h : H b = none) : ¬ e.Mu b := fun z => by
  obtain ⟨o, a, _⟩ := S.live z
  rw [h] at a
  cases a
theorem St1.fix {C : Addr} {e : Env} {H : Hp} {n : Nat} (S : St1 C e H n) {b : Addr} {o : HO} (h : H b = some o) (f : Fix o) : ¬ e.Mu b := fun z => by
  obtain ⟨u, a, g⟩ := S.live z
  rw [h] at a
  cases a
  exact g f
theorem St1.same {C : Addr} {e : Env} {H H' : Hp} {n : Nat} (S : St1 C e H n) (O : EnvOk e) (h : Same H H') : St1 C e H' n where
  s := S.s.keep O (keep_same h)
  tb := fun j hj t ht => let ⟨L, ks, A⟩ := S.tb j hj t ht; ⟨L, ks, A.same h⟩
  hl := let ⟨hs, a, b, c⟩ := S.hl; ⟨hs, h _ _ a, b, fun x hx => (c x hx).keep (keep_same h)⟩
/-- all tables' rows at once -/
theorem St1.tabs {C : Addr} {e : Env} {H : Hp} {n : Nat} (S : St1 C e H n) {j : Nat} (hj : j < 2) : ∃ (L : Tab → List (Addr × List Int)) (D : Tab → List (List Int)), ∀ t ∈ e.U j, TabAt H t (L t) (D t) := by
  have h : ∀ t : Tab, ∃ x : List (Addr × List Int) × List (List Int), t ∈ e.U j → TabAt H t x.1 x.2 := fun t => by
    by_cases ht : t ∈ e.U j
    · obtain ⟨L, ks, A⟩ := S.tb j hj t ht
      exact ⟨(L, ks), fun _ => A⟩
    · exact ⟨([], []), fun z => absurd z ht⟩
  exact ⟨fun t => (Classical.choose (h t)).1, fun t => (Classical.choose (h t)).2, fun t ht => Classical.choose_spec (h t) ht⟩
/-- a deed at one table -/
theorem St1.deed {C : Addr} {e : Env} {H H' : Hp} {n : Nat} (S : St1 C e H n) (O : EnvOk e) {j : Nat} (hj : j < 2) {t : Tab} (ht : t ∈ e.U j) {L' : List (Addr × List Int)} {ks' : List (List Int)} (A' : TabAt H' t L' ks')
    (k : ∀ b o, H b = some o → b ≠ t.d → b ≠ t.l → H' b = some o) : St1 C e H' n := by
  obtain ⟨L0, ks0, A0⟩ := S.tb j hj t ht
  have kf : ∀ b o, H b = some o → Fix o → H' b = some o := fun b o h f => k b o h (fun z => by rw [z, A0.hd.d] at h; cases h; exact f) (fun z => by rw [z, A0.l] at h; cases h; exact f)
  have kp : Keep e H H' := fun b o h z => by
    rcases z with z | z
    · exact kf b o h z
    · exact k b o h (fun y => z (.inr ⟨j, hj, t, ht, .inl y⟩)) (fun y => z (.inr ⟨j, hj, t, ht, .inr y⟩))
  refine ⟨S.s.keep O kp, fun i hi u hu => ?_, ?_⟩
  · by_cases z : u = t
    · subst z
      exact ⟨L', ks', A'⟩
    · obtain ⟨L, ks, A⟩ := S.tb i hi u hu
      refine ⟨L, ks, ⟨k _ _ A.hd.d (fun y => z (O.d1 i j hi hj u hu t ht y)) (ne_of A.hd.d A0.l (by intro z; cases z)), A.hd.ok, A.hd.few, A.hd.nd⟩, k _ _ A.l (ne_of A.l A0.hd.d (by intro z; cases z)) (fun y => z (O.l1 i j hi hj u hu t ht y)), fun p hp => kf _ _ (A.t p hp) trivial, A.pm⟩
  · obtain ⟨hs, a, b, c⟩ := S.hl
    exact ⟨hs, k _ _ a (ne_of a A0.hd.d (by intro z; cases z)) (fun y => O.hl j hj t ht y.symm), b, fun x hx => (c x hx).keep kp⟩
/-- one pair more -/
theorem St1.told {C : Addr} {e : Env} {H : Hp} {n : Nat} (S : St1 C e H n) (O : EnvOk e) {hs : List Addr} (a : H e.lh = some (.lst (hs.map V.ref))) (b : hs.length ≤ n) (c : ∀ h ∈ hs, HeldOk e H h) {h : Addr} (d : HeldOk e H h) :
    St1 C e (upd H e.lh (.lst (hs.map V.ref ++ [.ref h]))) (n + 1) := by
  have ne : ∀ {b : Addr} {o : HO}, H b = some o → (Fix o ∨ ¬ e.Mu b) → b ≠ e.lh := fun hb z y => by
    rcases z with z | z
    · rw [y, a] at hb
      cases hb
      exact z
    · exact z (.inl y)
  have kp : Keep e H (upd H e.lh (.lst (hs.map V.ref ++ [.ref h]))) := fun b o hb z => by
    rw [upd_ne (ne hb z)]
    exact hb
  refine ⟨S.s.keep O kp, fun j hj t ht => ?_, hs ++ [h], by rw [upd_same, List.map_append] <;> rfl, by rw [List.length_append]; show hs.length + 1 ≤ n + 1; omega, fun x hx => ?_⟩
  · obtain ⟨L, ks, A⟩ := S.tb j hj t ht
    refine ⟨L, ks, ⟨by rw [upd_ne (ne_of A.hd.d a (by intro z; cases z))]; exact A.hd.d, A.hd.ok, A.hd.few, A.hd.nd⟩, by rw [upd_ne (O.hl j hj t ht)]; exact A.l, fun p hp => kp _ _ (A.t p hp) (.inl trivial), A.pm⟩
  · rcases List.mem_append.mp hx with z | z
    · exact (c x z).keep kp
    · rw [List.mem_singleton.mp z]
      exact d.keep kp
/-- the two of them -/
theorem two {α : Type} (f : Nat → α) {j : Nat} (h : j < 2) : ([f 0, f 1] : List α)[j]? = some (f j) := by
  match j, h with
  | 0, _ => rfl
  | 1, _ => rfl
theorem EnvOk.tab {e : Env} (O : EnvOk e) {j : Nat} (hj : j < 2) {i : Nat} {x : Pr} (h : e.W[i]? = some x) : ∃ t ∈ e.U j, t.n = x.2.1 ∧ t.w = x.2.2 := by
  have h1 : (e.W.map (fun x => (x.2.1, x.2.2)))[i]? = some (x.2.1, x.2.2) := by rw [List.getElem?_map, h] <;> rfl
  rw [← O.same j hj, List.getElem?_map] at h1
  obtain ⟨t, ht, e1⟩ := Option.map_eq_some_iff.mp h1
  injection e1 with e1 e2
  exact ⟨t, List.mem_of_getElem? ht, e1, e2⟩
end Aw

/-! The law. -/
namespace Aw
open PySem PySem.Spec PyProof.Rows L2

/-- a new Book from a list of pairs -/
structure Mak (P : Program) (w : World) (K : PySem.W.Frag) (mg : Str → Option Value) (base : Heap) (k : Nat) (C : Addr) (sp : Sp) : Prop where
  ex : ∃ (f : Addr) (fd : FuncData) (ps : List Str), Mk K C f ∧ FnOk P w K mg base CX0 k f fd ps sp ∧ Binds K fd ps []
theorem pe_mk {X : Cx} {e : Expr} {es : List Expr} {t : TA} {x : Str} {p pos : Pos} {k j : Nat} {sp : Sp} {C : Addr} (c : Mak X.prog X.w X.K X.mg X.base k C sp) (hr : Room j X.A) (hk : k + 1 ≤ j) (hg : Gl X x) (hm : X.mg x = some (.ref C)) (ha : PA X (e :: es) t)
    (hdb : (x == ("__debug__" : Str)) = false := by decide) (he : starEach (e :: es) X.env = (false, eval e X.env) :: starEach es X.env := by rfl) (hpl : (backTo pos (starEach es X.env)).any (·.1) = false := by rfl) :
    PE X (.Call (.Name x p) (e :: es) [] pos) (tMake C sp [] E0 t) := by
  obtain ⟨f, fd, ps, M, F, b⟩ := c.ex
  exact pe_make M F (hr.mono hk) hg hm b .nil pass0 ha hdb he hpl
theorem made {H H1 : Hp} {C x dx : Addr} {T : List Tab} (nx : H x = none) (ndx : H dx = none) (d0 : ∀ t ∈ T, (upd (upd H dx (.own x)) x (.ins C dx [])) t.d = none ∧ H1 t.d = some (.dT []))
    (kp : ∀ b o, (upd (upd H dx (.own x)) x (.ins C dx [])) b = some o → b ≠ x → H1 b = some o) : Same H H1 ∧ ∀ t ∈ T, H t.d = none := by
  refine ⟨fun b o h => kp b o ?_ (ne_of_none h nx), fun t ht => ?_⟩
  · rw [upd_ne (ne_of_none h nx), upd_ne (ne_of_none h ndx)]
    exact h
  · obtain ⟨a, _⟩ := d0 t ht
    have n1 : t.d ≠ x := fun z => by rw [z, upd_same] at a; cases a
    have n2 : t.d ≠ dx := fun z => by rw [upd_ne n1, z, upd_same] at a; cases a
    rw [upd_ne n1, upd_ne n2] at a
    exact a
theorem made_keep {H : Hp} {C x dx : Addr} (nx : H x = none) (ndx : H dx = none) {b : Addr} {o : HO} (h : H b = some o) : (upd (upd H dx (.own x)) x (.ins C dx [])) b = some o := by
  rw [upd_ne (ne_of_none h nx), upd_ne (ne_of_none h ndx)]
  exact h
def f3 (t : Tab) : Str × Int × Addr := (t.n, t.w, t.d)
theorem f3_nw {U T : List Tab} (h : U.map f3 = T.map f3) : (U.map fun t => (t.n, t.w)) = T.map (fun t => (t.n, t.w)) := by
  have := congrArg (List.map fun x : Str × Int × Addr => (x.1, x.2.1)) h
  rw [List.map_map, List.map_map] at this
  exact this
theorem f3_n {U T : List Tab} (h : U.map f3 = T.map f3) : U.map (·.n) = T.map (·.n) := by
  have := congrArg (List.map fun x : Str × Int × Addr => x.1) h
  rw [List.map_map, List.map_map] at this
  exact this
theorem f3_d {U T : List Tab} (h : U.map f3 = T.map f3) : U.map (·.d) = T.map (·.d) := by
  have := congrArg (List.map fun x : Str × Int × Addr => x.2.2) h
  rw [List.map_map, List.map_map] at this
  exact this
theorem f3_kv {U T : List Tab} (h : U.map f3 = T.map f3) : bkv U = bkv T ∧ hkv U = hkv T := by
  have h1 := congrArg (List.map fun x : Str × Int × Addr => ((Sum.inr x.1 : Key), V.int x.2.1)) h
  have h2 := congrArg (List.map fun x : Str × Int × Addr => ((Sum.inr x.1 : Key), V.ref x.2.2)) h
  rw [List.map_map, List.map_map] at h1 h2
  exact ⟨h1, h2⟩
theorem f3_mem {U T : List Tab} (h : U.map f3 = T.map f3) {u : Tab} (hu : u ∈ U) : ∃ t ∈ T, t.n = u.n ∧ t.w = u.w ∧ t.d = u.d := by
  have m : f3 u ∈ T.map f3 := by
    rw [← h]
    exact List.mem_map.mpr ⟨u, hu, rfl⟩
  obtain ⟨t, ht, e⟩ := List.mem_map.mp m
  injection e with e1 e2
  injection e2 with e2 e3
  exact ⟨t, ht, e1, e2, e3⟩
theorem f3_at {U T : List Tab} {i : Nat} {t : Tab} {l : Addr} (h : U.map f3 = (T.take i).map f3) (ht : T[i]? = some t) : (U ++ [Tab.mk t.n t.w t.d l]).map f3 = (T.take (i + 1)).map f3 := by
  rw [List.map_append, h, take_next ht, List.map_append] <;> rfl
theorem f3_book {C : Addr} {H : Hp} {p : Addr} {U T : List Tab} {W : List Pr} (B : BookAt C H p T) (h : U.map f3 = T.map f3) (G : PrOk H W) (hW : (T.map fun t => (t.n, t.w)) = W.map (fun x => (x.2.1, x.2.2))) : BookAt C H p U := by
  obtain ⟨⟨dx, b, hh, e1, e2, e3⟩, _⟩ := B
  obtain ⟨k1, k2⟩ := f3_kv h
  exact ⟨⟨dx, b, hh, e1, by rw [k1]; exact e2, by rw [k2]; exact e3⟩, tabsOk_of G ((f3_nw h).trans hW)⟩
theorem mod2 (x : Int) : ∃ j : Nat, j < 2 ∧ x % 2 = (j : Nat) := by
  have a := Int.emod_nonneg x (show (2 : Int) ≠ 0 by decide)
  have b := Int.emod_lt_of_pos x (show (0 : Int) < 2 by decide)
  exact ⟨(x % 2).toNat, by omega, by omega⟩

section
variable {P : Program} {w : World} {K : PySem.W.Frag} {mg : Str → Option Value} {base : Heap} {C : Addr}
def spLaw (K : PySem.W.Frag) : Sp := fun vs H Q _ => ∃ (a : Addr) (ns : List Int), vs = [.ref a] ∧ SqL K H a (ns.map V.int) ∧ ns.length ≤ 63 ∧ ∀ H', Q (.bl true) H'
abbrev nLaw : List Str := ["_law_script", "_law_pairs", "_law_name", "_law_listed", "_law_books", "_law_models", "_law_wide", "_law_held", "_law_cell_here", "_law_which", "_law_table", "_law_plain", "_law_spoiled", "_law_k", "_law_kept"]
theorem scLaw : FnScope nLaw ["_law_script"] (defScope sLaw) := ⟨rfl, rfl, rfl, by decide +kernel, rfl, by decide +kernel, by decide +kernel⟩
theorem cut_ints (ns : List Int) (lo hi : Option Int) : ∃ cs : List Int, cutV (ns.map V.int) lo hi = cs.map V.int ∧ cs.length ≤ ns.length := by
  refine ⟨(ns.drop (HT.sIx (ns.map V.int).length 0 lo)).take (HT.sIx (ns.map V.int).length (ns.map V.int).length hi - HT.sIx (ns.map V.int).length 0 lo), ?_, ?_⟩
  · unfold cutV
    rw [← List.map_drop, ← List.map_take]
  · rw [List.length_take, List.length_drop]
    omega
theorem St1.mono {C : Addr} {e : Env} {H : Hp} {n m : Nat} (S : St1 C e H n) (h : n ≤ m) : St1 C e H m :=
  ⟨S.s, S.tb, let ⟨hs, a, b, c⟩ := S.hl; ⟨hs, a, Nat.le_trans b h, c⟩⟩
theorem at_two {f : Nat → Addr} {j : Nat} (hj : j < 2) {i : Int} (e : i = (j : Nat)) : atI ([.ref (f 0), .ref (f 1)] : List V) i = some (.ref (f j)) := by
  rw [e]
  exact atI_nat (two (fun k => V.ref (f k)) hj)
/-- the names of the law's frame ahead of its loop -/
abbrev fr0 (a : Addr) (e : Env) (ll : Addr) (v2 v6 : Option V) : L2.St := [some (.ref a), some (.ref e.lp), v2, some (.ref ll), some (.ref e.lb), some (.ref e.lm), v6, some (.ref e.lh), none, none, none, none, none, none, none]
theorem ok_law {f : Addr} {fd : FuncData} (T : Txt K mg C) (F : Fun K "law" "law" sLaw f fd) (cC : Cal P w K mg base 1 "_law_cell" (spCell K)) (cM : Cal P w K mg base 1 "_law_mix" spMix) (cN : Cal P w K mg base 2 "_law_names" spNames) (cR : Cal P w K mg base 2 "_law_row" spLRow)
    (cY : Cal P w K mg base 1 "_law_copy" spCopy) (cH : Cal P w K mg base 6 "_law_plain_holds" (spHolds K)) (cD : Cal P w K mg base 6 "_law_deed" (spDeed C)) (mB : Mak P w K mg base 3 C (spInit C)) (mP : Met P w K mg base 4 C "plain" (spPlain C)) :
    FnOk P w K mg base CX0 7 f fd ["_law_script"] (spLaw K) := by
  refine F.ok scLaw (fun vs H Q E h => ?_) (fun cdv A outer s H vs Q E hr h => ?_)
  · obtain ⟨a, ns, rfl, _⟩ := h
    rfl
  · obtain ⟨a, ns, rfl, hS, h63, q⟩ := h
    have hu := hu_of hr
    have hu65 := hu65_of hr
    refine ⟨_, pss_cons (ps_set (i := 1) scLaw.nd rfl (Or.inl rfl) (pe_lst pa_nil))
      (C8.pss_cut (ps_for PassesOwn.never rfl (pi_list (pe_c cN hr (by decide) (by rfl) (pa_cons (pe_c cC hr (by decide) (by rfl) (pa_cons (pv 0) (pa_cons pe_int pa_nil)))
          (pa_cons (pe_op op_add pe_int (pe_op op_mod (pe_c cM hr (by decide) (by rfl) (pa_cons (pe_c cC hr (by decide) (by rfl) (pa_cons (pv 0) (pa_cons pe_int pa_nil))) (pa_cons pe_int pa_nil))) pe_int)) pa_nil)))) (pg_name (i := 2) scLaw.nd rfl (Or.inl rfl))
        (pss_one (ps_expr (pe_bm PySem.F.plainAttrs_list PySem.F.slot_list_append PySem.F.type_list_append mt_append (pv 1) (pa_cons (pe_tup (pa_cons (pv 2) (pa_cons (pe_op op_add pe_int (pe_op op_mod
          (pe_c cM hr (by decide) (by rfl) (pa_cons (pe_c cC hr (by decide) (by rfl) (pa_cons (pv 0) (pa_cons pe_int pa_nil))) (pa_cons (pe_op op_add pe_int (pe_callB call_len_seq (by rfl) T.len PySem.boot_len (pa_cons (pv 1) pa_nil))) pa_nil))) pe_int)) pa_nil))) pa_nil)))))
      (pss_cons (ps_set (i := 3) scLaw.nd rfl (Or.inl rfl) (pe_callTy call_list_of (by rfl) T.list (by decide +kernel) (pa_cons (pv 1) pa_nil)))
      (C8.pss_cut (ps_set (i := 4) scLaw.nd rfl (Or.inl rfl) (pe_lst (pa_cons (pe_mk mB hr (by decide) (by rfl) T.mgC (pa_cons (pv 3) pa_nil)) (pa_cons (pe_mk mB hr (by decide) (by rfl) T.mgC (pa_cons (pv 3) pa_nil)) pa_nil))))
      (pss_cons (ps_expr (pe_bm0 PySem.F.plainAttrs_list PySem.F.slot_list_clear PySem.F.type_list_clear mt_clear (pv 3)))
      (pss_cons (ps_set (i := 5) scLaw.nd rfl (Or.inl rfl) (pe_lst (pa_cons pe_dnewK (pa_cons pe_dnewK pa_nil))))
      (pss_cons (ps_for PassesOwn.never rfl (pi_list (pv 1)) (pg_tup rfl (pgs_cons (pg_name (i := 2) scLaw.nd rfl (Or.inl rfl)) (pgs_cons (pg_name (i := 6) scLaw.nd rfl (Or.inl rfl)) pgs_nil)))
        (pss_cons (ps_dput hu (pe_ix ix_list (pv 5) pe_int (fun _ _ => rfl)) (pv 2) (pe_lst pa_nil) rfl)
        (pss_one (ps_dput hu (pe_ix ix_list (pv 5) pe_int (fun _ _ => rfl)) (pv 2) (pe_lst pa_nil) rfl))))
      (C8.pss_cut (ps_set (i := 7) scLaw.nd rfl (Or.inl rfl) (pe_lst pa_nil))
      (C8.pss_cut (ps_for PassesOwn.never rfl (pi_list (pe_slice sl_list (pv 0) (po_some pe_int) (po_some pe_int))) (pg_name (i := 8) scLaw.nd rfl (Or.inl rfl))
        (pss_cons (ps_set (i := 9) scLaw.nd rfl (Or.inl rfl) (pe_op op_mod (pe_c cM hr (by decide) (by rfl) (pa_cons (pv 8) (pa_cons pe_int pa_nil))) pe_int))
        (pss_cons (ps_asg (pe_ix ix_list (pv 1) (pe_op op_mod (pe_c cM hr (by decide) (by rfl) (pa_cons (pv 8) (pa_cons pe_int pa_nil))) (pe_callB call_len_seq (by rfl) T.len PySem.boot_len (pa_cons (pv 1) pa_nil))) (fun _ _ => rfl))
          (pg_tup rfl (pgs_cons (pg_name (i := 10) scLaw.nd rfl (Or.inl rfl)) (pgs_cons (pg_name (i := 6) scLaw.nd rfl (Or.inl rfl)) pgs_nil))))
        (C8.pss_cut (ps_expr (pe_c cD hr (by decide) (by rfl) (pa_cons (pe_ix ix_list (pv 4) (pv 9) (fun _ _ => rfl)) (pa_cons (pe_dget hu (pe_ix ix_list (pv 5) (pv 9) (fun _ _ => rfl)) (pv 10) (fun _ _ => rfl)) (pa_cons (pv 10)
          (pa_cons (pe_c cR hr (by decide) (by rfl) (pa_cons (pv 8) (pa_cons (pv 6) pa_nil))) (pa_cons (pe_op op_mod (pe_c cM hr (by decide) (by rfl) (pa_cons (pv 8) (pa_cons pe_int pa_nil))) pe_int) pa_nil)))))))
        (pss_one (ps_if (pt_cmpR op_eq (pe_op op_mod (pe_c cM hr (by decide) (by rfl) (pa_cons (pv 8) (pa_cons pe_int pa_nil))) pe_int) pe_int (nomark _))
          (C8.pss_cut (ps_set (i := 11) scLaw.nd rfl (Or.inl rfl) (pe_mt0 T.cl mP hr (by decide) (pe_ix ix_list (pv 4) (pv 9) (fun _ _ => rfl))))
          (pss_cons (ps_if (pt_not (pt_val (pe_c cH hr (by decide) (by rfl) (pa_cons (pv 11) (pa_cons (pe_ix ix_list (pv 5) (pv 9) (fun _ _ => rfl)) pa_nil))))) pss_never pss_nil)
          (C8.pss_cut (ps_expr (pe_bm PySem.F.plainAttrs_list PySem.F.slot_list_append PySem.F.type_list_append mt_append (pv 7) (pa_cons (pe_tup (pa_cons (pv 11) (pa_cons (pe_c cY hr (by decide) (by rfl) (pa_cons (pv 11) pa_nil)) pa_nil))) pa_nil)))
          (pss_cons (ps_set (i := 12) scLaw.nd rfl (Or.inl rfl) (pe_mt0 T.cl mP hr (by decide) (pe_ix ix_list (pv 4) (pv 9) (fun _ _ => rfl))))
          (pss_cons (ps_expr (pe_bm PySem.F.plainAttrs_list PySem.F.slot_list_append PySem.F.type_list_append mt_append (pe_dget hu (pv 12) (pv 10) (fun _ _ => rfl)) (pa_cons (pe_op (op_rep1.or op_repT) (pe_tup (pa_cons pe_int pa_nil)) (pv 6)) pa_nil)))
          (pss_one (ps_expr (pe_dpop1 (pv 12) (pe_ix ix_tup (pe_ix ix_list (pv 1) pe_int (fun _ _ => rfl)) pe_int (fun _ _ => rfl)) ⟨rfl, rfl, rfl, rfl⟩))))))))
          pss_nil))))))
      (C8.pss_cut (ps_for PassesOwn.never rfl (pi_range1 (by rfl) T.range (pa_cons pe_int pa_nil)) (pg_name (i := 13) scLaw.nd rfl (Or.inl rfl))
        (pss_one (ps_if (pt_not (pt_val (pe_c cH hr (by decide) (by rfl) (pa_cons (pe_mt0 T.cl mP hr (by decide) (pe_ix ix_list (pv 4) (pv 13) (fun _ _ => rfl))) (pa_cons (pe_ix ix_list (pv 5) (pv 13) (fun _ _ => rfl)) pa_nil))))) pss_never pss_nil)))
      (pss_cons (ps_for PassesOwn.never rfl (pi_list (pv 7)) (pg_tup rfl (pgs_cons (pg_name (i := 11) scLaw.nd rfl (Or.inl rfl)) (pgs_cons (pg_name (i := 14) scLaw.nd rfl (Or.inl rfl)) pgs_nil)))
        (pss_one (ps_if (pt_cmpR (op_neDD hu65) (pv 11) (pv 14) (nomark _)) pss_never pss_nil)))
      (pss_one (ps_ret pe_bl)))))))))))), ?_⟩
    -- pairs = []
    refine ⟨Nat.zero_le _, fun lp hlp => ?_⟩
    have sp0 : Same H (upd H lp (.lst [])) := same_upd hlp
    -- for name in names(..)
    refine ⟨fun σ H' => ∃ (v2 : Option V) (W : List Pr), σ = [some (.ref a), some (.ref lp), v2, none, none, none, none, none, none, none, none, none, none, none, none] ∧ Same H H' ∧ H' lp = some (.lst (W.map fun x => V.ref x.1)) ∧ PrOk H' W ∧ 1 ≤ W.length, ?_, ?_⟩
    · refine ⟨_, rfl, a, ns, 0, rfl, sp0.seq hS, by decide, fun c0 => ?_⟩
      refine ⟨_, rfl, a, ns, 1, rfl, sp0.seq hS, by decide, fun c1 => ?_⟩
      have b0 := Int.emod_nonneg (mixZ c1 5) (show (3 : Int) ≠ 0 by decide)
      have b1 := Int.emod_lt_of_pos (mixZ c1 5) (show (0 : Int) < 3 by decide)
      refine ⟨c1, 5, rfl, ⟨by decide, by decide⟩, _, _, rfl, rfl, (by show (0 : Int) < 3; decide), _, _, rfl, rfl, c0, (1 + mixZ c1 5 % 3).toNat, ?_, ⟨by omega, by omega⟩, fun qn nms Hn sN hqn hq0 ln nd ok => ?_⟩
      · have e : (((1 + mixZ c1 5 % 3).toNat : Nat) : Int) = 1 + mixZ c1 5 % 3 := Int.toNat_of_nonneg (by omega)
        rw [e] <;> rfl
      have hlpn : Hn lp = some (.lst []) := sN _ _ upd_same
      have nql : qn ≠ lp := fun z => by rw [z, upd_same] at hq0; cases hq0
      refine ⟨qn, rfl, ⟨_, SqL.of hqn⟩, for_list (K := K) (a := qn) (xs := nms.map V.str) (fun i σ H' => ∃ (v2 : Option V) (W : List Pr), σ = [some (.ref a), some (.ref lp), v2, none, none, none, none, none, none, none, none, none, none, none, none] ∧
          (∀ b o, Hn b = some o → b ≠ lp → H' b = some o) ∧ H' lp = some (.lst (W.map fun x => V.ref x.1)) ∧ (∀ x ∈ W, H' x.1 = some (.tup [.str x.2.1, .int x.2.2])) ∧ (∀ x ∈ W, 1 ≤ x.2.2 ∧ x.2.2 ≤ 6) ∧ W.map (·.2.1) = nms.take i)
        ⟨none, [], rfl, fun b o h _ => h, hlpn, fun x hx => (by cases hx), fun x hx => (by cases hx), rfl⟩ (fun i σ H' _ ⟨_, _, _, k, _⟩ => SqL.of (k _ _ hqn nql)) ?_ ?_⟩
      · rintro i x σ H' hi ⟨v2, W, rfl, kp, hl, tu, wd, nm⟩
        rw [List.getElem?_map] at hi
        obtain ⟨n, hn, rfl⟩ := Option.map_eq_some_iff.mp hi
        have hil : i < nms.length := (List.getElem?_eq_some_iff.mp hn).1
        have sA : Same H H' := fun b o h => kp b o (sN b o (sp0 b o h)) (ne_of_none h hlp)
        have lW : W.length ≤ 3 := by
          have := congrArg List.length nm
          rw [List.length_map, List.length_take] at this
          omega
        refine ⟨_, rfl, .inl ⟨rfl, _, SqL.of hl⟩, _, rfl, _, rfl, a, ns, 1, rfl, sA.seq hS, by decide, fun c2 => ?_⟩
        refine ⟨_, rfl, lp, _, rfl, .inl (SqL.of hl), _, _, rfl, rfl, c2, _, rfl, ⟨by omega, by rw [List.length_map]; omega⟩, _, _, rfl, rfl, (by show (0 : Int) < 6; decide), _, _, rfl, rfl, (by show 2 ≤ sizeLine; decide), fun tp htp => ?_⟩
        have nlt : lp ≠ tp := ne_of_none hl htp
        refine ⟨lp, _, _, rfl, rfl, by rw [upd_ne nlt]; exact hl, small1000 (by rw [List.length_map]; omega), ?_⟩
        refine ⟨_, W ++ [(tp, n, 1 + mixZ c2 (6 + ((W.map fun x => V.ref x.1).length : Int)) % 6)], rfl, fun b o h hb => ?_, by rw [upd_same, List.map_append] <;> rfl, fun x hx => ?_, fun x hx => ?_, ?_⟩
        · have := kp b o h hb
          rw [upd_ne hb, upd_ne (ne_of_none this htp)]
          exact this
        · rcases List.mem_append.mp hx with z | z
          · have := tu x z
            rw [upd_ne (ne_of this hl (by intro z; cases z)), upd_ne (ne_of_none this htp)]
            exact this
          · have := List.mem_singleton.mp z
            subst this
            rw [upd_ne nlt.symm, upd_same] <;> rfl
        · rcases List.mem_append.mp hx with z | z
          · exact wd x z
          · have := List.mem_singleton.mp z
            subst this
            have a1 := Int.emod_nonneg (mixZ c2 (6 + ((W.map fun x => V.ref x.1).length : Int))) (show (6 : Int) ≠ 0 by decide)
            have a2 := Int.emod_lt_of_pos (mixZ c2 (6 + ((W.map fun x => V.ref x.1).length : Int))) (show (0 : Int) < 6 by decide)
            constructor
            · show 1 ≤ 1 + _
              omega
            · show 1 + _ ≤ 6
              omega
        · rw [List.map_append, nm, take_next hn] <;> rfl
      · rintro σ H' ⟨v2, W, rfl, kp, hl, tu, wd, nm⟩
        rw [List.length_map, List.take_length] at nm
        have lW := congrArg List.length nm
        rw [List.length_map] at lW
        refine ⟨v2, W, rfl, fun b o h => kp b o (sN b o (sp0 b o h)) (ne_of_none h hlp), hl, ⟨tu, fun x hx => ok _ (by rw [← nm]; exact List.mem_map.mpr ⟨x, hx, rfl⟩), wd, by rw [nm]; exact nd, by omega⟩, by omega⟩
    rintro σ H1 ⟨v2, W, rfl, s1, hl1, G1, pos⟩
    -- listed = list(pairs)
    refine ⟨_, rfl, lp, _, rfl, .inl (SqL.of hl1), fun ll hll => ?_⟩
    have s2 := s1.trans (same_upd (o := .lst (W.map fun x => V.ref x.1)) hll)
    have npl : lp ≠ ll := ne_of_none hl1 hll
    have hl2 : (upd H1 ll (.lst (W.map fun x => V.ref x.1))) lp = some (.lst (W.map fun x => V.ref x.1)) := by rw [upd_ne npl]; exact hl1
    have hll2 : (upd H1 ll (.lst (W.map fun x => V.ref x.1))) ll = some (.lst (W.map fun x => V.ref x.1)) := upd_same
    have G2 : PrOk (upd H1 ll (.lst (W.map fun x => V.ref x.1))) W := G1.same fun b xs h => same_upd hll b _ h
    generalize upd H1 ll (.lst (W.map fun x => V.ref x.1)) = H2 at s2 hl2 hll2 G2
    -- books = [Book(listed), Book(listed)]
    refine ⟨fun σ H' => ∃ (lb p0 p1 : Addr) (T0 T1 : List Tab), σ = [some (.ref a), some (.ref lp), v2, some (.ref ll), some (.ref lb), none, none, none, none, none, none, none, none, none, none] ∧ Same H2 H' ∧ H' lb = some (.lst [.ref p0, .ref p1]) ∧ H2 lb = none ∧
        BookAt C H' p0 T0 ∧ BookAt C H' p1 T1 ∧ (T0.map fun t => (t.n, t.w)) = W.map (fun x => (x.2.1, x.2.2)) ∧ (T1.map fun t => (t.n, t.w)) = W.map (fun x => (x.2.1, x.2.2)) ∧ (∀ t ∈ T0 ++ T1, H2 t.d = none ∧ H' t.d = some (.dT [])) ∧ ((T0 ++ T1).map (·.d)).Nodup, ?_, ?_⟩
    · refine ⟨_, rfl, fun x dx nx ndx nex => ⟨x, dx, ll, W, rfl, upd_same, made_keep nx ndx hll2, G2.same fun b xs h => made_keep nx ndx h, fun T0 H3 e0 B0 d0 nd0 kp0 => ⟨rfl, ?_⟩⟩⟩
      obtain ⟨s3, f0⟩ := made nx ndx d0 kp0
      refine ⟨_, rfl, fun y dy ny ndy ney => ⟨y, dy, ll, W, rfl, upd_same, made_keep ny ndy (s3 _ _ hll2), (G2.same fun b xs h => s3 _ _ h).same fun b xs h => made_keep ny ndy h, fun T1 H4 e1 B1 d1 nd1 kp1 => ⟨rfl, (by show 2 ≤ sizeLine; decide), fun lb hlb => ?_⟩⟩⟩
      obtain ⟨s4, f1⟩ := made ny ndy d1 kp1
      have s34 := s3.trans s4
      have s5 : Same H4 (upd H4 lb (.lst [.ref x, .ref y])) := same_upd hlb
      refine ⟨lb, x, y, T0, T1, rfl, s34.trans s5, upd_same, s34.free hlb, (B0.keep fun b o h _ => s4 b o h).keep fun b o h _ => s5 b o h, B1.keep fun b o h _ => s5 b o h, e0, e1, fun t ht => ?_, ?_⟩
      · rcases List.mem_append.mp ht with z | z
        · exact ⟨f0 t z, s5 _ _ (s4 _ _ (d0 t z).2)⟩
        · exact ⟨s3.free (f1 t z), s5 _ _ (d1 t z).2⟩
      · rw [List.map_append]
        refine List.nodup_append.mpr ⟨nd0, nd1, fun u hu v hv z => ?_⟩
        obtain ⟨t, ht, rfl⟩ := List.mem_map.mp hu
        obtain ⟨t', ht', rfl⟩ := List.mem_map.mp hv
        have a1 := (d0 t ht).2
        have a2 := f1 t' ht'
        rw [← z, a1] at a2
        cases a2
    rintro σ H3 ⟨lb, p0, p1, T0, T1, rfl, s3, hlb, hlb0, B0, B1, e0, e1, dd, dn⟩
    have hl3 := s3 _ _ hl2
    have hll3 := s3 _ _ hll2
    -- listed.clear()
    refine ⟨_, rfl, .inl ⟨rfl, _, SqL.of hll3⟩, ll, _, rfl, rfl, hll3, ?_⟩
    have k4 : ∀ b o, H3 b = some o → b ≠ ll → (upd H3 ll (.lst [])) b = some o := fun b o h hb => by
      rw [upd_ne hb]
      exact h
    have s4 : Same H (upd H3 ll (.lst [])) := fun b o h => k4 b o (s3 _ _ (s2 _ _ h)) (fun z => by
      have := s1 b o h
      rw [z, hll] at this
      cases this)
    have nll : ∀ {b : Addr} {o : HO}, H3 b = some o → Fix o → b ≠ ll := fun h f z => by
      rw [z, hll3] at h
      cases h
      exact f
    have hl4 := k4 _ _ hl3 npl
    have hlb4 := k4 _ _ hlb (fun z => by rw [z, hll2] at hlb0; cases hlb0)
    have B0' : BookAt C (upd H3 ll (.lst [])) p0 T0 := B0.keep fun b o h f => k4 b o h (nll h f)
    have B1' : BookAt C (upd H3 ll (.lst [])) p1 T1 := B1.keep fun b o h f => k4 b o h (nll h f)
    have G4 : PrOk (upd H3 ll (.lst [])) W := (G2.same fun b xs h => s3 _ _ h).same fun b xs h => k4 b _ h (nll h trivial)
    have dd4 : ∀ t ∈ T0 ++ T1, (upd H3 ll (.lst [])) t.d = some (.dT []) := fun t ht => k4 _ _ (dd t ht).2 (ne_of (dd t ht).2 hll3 (by intro z; cases z))
    generalize upd H3 ll (.lst []) = H4 at s4 hl4 hlb4 B0' B1' G4 dd4
    -- models = [{}, {}]
    intro m0 hm0 m1 hm1
    refine ⟨(by show 2 ≤ sizeLine; decide), fun lm hlm => ?_⟩
    have n01 : m0 ≠ m1 := fun z => by rw [← z, upd_same] at hm1; cases hm1
    have s5 : Same H4 (upd (upd (upd H4 m0 (.dK [])) m1 (.dK [])) lm (.lst [.ref m0, .ref m1])) := ((same_upd hm0).trans (same_upd hm1)).trans (same_upd hlm)
    have n0m : m0 ≠ lm := fun z => by rw [← z, upd_ne n01, upd_same] at hlm; cases hlm
    have n1m : m1 ≠ lm := fun z => by rw [← z, upd_same] at hlm; cases hlm
    have em0 : (upd (upd (upd H4 m0 (.dK [])) m1 (.dK [])) lm (.lst [.ref m0, .ref m1])) m0 = some (.dK []) := by rw [upd_ne n0m, upd_ne n01, upd_same]
    have em1 : (upd (upd (upd H4 m0 (.dK [])) m1 (.dK [])) lm (.lst [.ref m0, .ref m1])) m1 = some (.dK []) := by rw [upd_ne n1m, upd_same]
    have elm : (upd (upd (upd H4 m0 (.dK [])) m1 (.dK [])) lm (.lst [.ref m0, .ref m1])) lm = some (.lst [.ref m0, .ref m1]) := upd_same
    have hm0' : H4 m0 = none := hm0
    have hm1' : H4 m1 = none := by rw [upd_ne n01.symm] at hm1; exact hm1
    generalize upd (upd (upd H4 m0 (.dK [])) m1 (.dK [])) lm (.lst [.ref m0, .ref m1]) = H5 at s5 em0 em1 elm
    -- for name, wide in pairs
    have hl5 := s5 _ _ hl4
    refine ⟨_, rfl, lp, rfl, ⟨_, SqL.of hl5⟩, for_list (K := K) (a := lp) (xs := W.map fun x => V.ref x.1) (fun i σ H' => ∃ (v2 v6 : Option V) (U0 U1 : List Tab), σ = [some (.ref a), some (.ref lp), v2, some (.ref ll), some (.ref lb), some (.ref lm), v6, none, none, none, none, none, none, none, none] ∧
        U0.map f3 = (T0.take i).map f3 ∧ U1.map f3 = (T1.take i).map f3 ∧ H' m0 = some (.dK (mkv U0)) ∧ H' m1 = some (.dK (mkv U1)) ∧ (∀ t ∈ U0 ++ U1, H5 t.l = none ∧ H' t.l = some (.lst [])) ∧ ((U0 ++ U1).map (·.l)).Nodup ∧ (∀ b o, H5 b = some o → b ≠ m0 → b ≠ m1 → H' b = some o))
      ⟨v2, none, [], [], rfl, rfl, rfl, em0, em1, fun t ht => (by cases ht), List.nodup_nil, fun b o h _ _ => h⟩ (fun i σ H' _ ⟨_, _, _, _, _, _, _, _, _, _, _, k⟩ => SqL.of (k _ _ hl5 (ne_of_none hl4 hm0') (ne_of_none hl4 hm1'))) ?_ ?_⟩
    · rintro i x σ H' hi ⟨v2, v6, U0, U1, rfl, eU0, eU1, am0, am1, dl, dn', kp⟩
      rw [List.getElem?_map] at hi
      obtain ⟨x, hx, rfl⟩ := Option.map_eq_some_iff.mp hi
      have hil : i < W.length := (List.getElem?_eq_some_iff.mp hx).1
      have getT : ∀ {Tz : List Tab}, (Tz.map fun t => (t.n, t.w)) = W.map (fun x => (x.2.1, x.2.2)) → ∃ t, Tz[i]? = some t ∧ t.n = x.2.1 := fun e => by
        have h1 : (W.map (fun x : Pr => (x.2.1, x.2.2)))[i]? = some (x.2.1, x.2.2) := by rw [List.getElem?_map, hx] <;> rfl
        rw [← e, List.getElem?_map] at h1
        obtain ⟨t, ht, e1⟩ := Option.map_eq_some_iff.mp h1
        injection e1 with e1 e2
        exact ⟨t, ht, e1⟩
      obtain ⟨t0, ht0, en0⟩ := getT e0
      obtain ⟨t1, ht1, en1⟩ := getT e1
      have htx : H' x.1 = some (.tup [.str x.2.1, .int x.2.2]) := by
        have h0 := G4.t x (List.mem_of_getElem? hx)
        exact kp _ _ (s5 _ _ h0) (ne_of_none h0 hm0') (ne_of_none h0 hm1')
      have hlm' : H' lm = some (.lst [.ref m0, .ref m1]) := kp _ _ elm n0m.symm n1m.symm
      have fresh : ∀ (Tz Uz : List Tab) (t : Tab) (l : Addr), (Tz.map fun t => (t.n, t.w)) = W.map (fun x => (x.2.1, x.2.2)) → Tz[i]? = some t → Uz.map f3 = (Tz.take i).map f3 → ∀ u ∈ Uz, u.n ≠ (Tab.mk t.n t.w t.d l).n := fun Tz Uz t l e ht eU u hu z => by
        obtain ⟨t', ht', a1, _⟩ := f3_mem eU hu
        have nd : (List.map (fun t : Tab => t.n) Tz).Nodup := by
          rw [(map_pair e).1]
          exact G4.nd
        exact take_fresh (f := fun t : Tab => t.n) nd ht t' ht' (a1.trans z)
      have lenU : ∀ {Tz Uz : List Tab}, Uz.map f3 = (Tz.take i).map f3 → Uz.length ≤ i := fun eU => by
        have := congrArg List.length eU
        rw [List.length_map, List.length_map, List.length_take] at this
        omega
      have hfew := G4.few
      refine ⟨x.1, _, rfl, SqT.of htx, rfl, _, _, rfl, _, _, rfl, rfl, ?_⟩
      -- models[0][name] = []
      refine ⟨Nat.zero_le _, fun l0 hl0 => ?_⟩
      have nm0l : m0 ≠ l0 := ne_of_none am0 hl0
      have nm1l : m1 ≠ l0 := ne_of_none am1 hl0
      have nlml : lm ≠ l0 := ne_of_none hlm' hl0
      refine ⟨_, rfl, lm, _, 0, _, rfl, rfl, SqL.of (by rw [upd_ne nlml]; exact hlm'), atI_nat (j := 0) rfl, _, rfl, m0, _, rfl, DPut.k (k := Sum.inr x.2.1) (by rw [upd_ne nm0l]; exact am0) (small1000 (by have := lenU eU0; rw [List.length_map]; omega)), ?_⟩
      have ep0 : putK (mkv U0) (Sum.inr x.2.1) (V.ref l0) = mkv (U0 ++ [Tab.mk t0.n t0.w t0.d l0]) := by
        rw [← en0]
        exact put_next (fun t : Tab => t.n) (fun t => V.ref t.l) (e := Tab.mk t0.n t0.w t0.d l0) (fresh _ _ _ _ e0 ht0 eU0)
      rw [ep0]
      -- models[1][name] = []
      refine ⟨Nat.zero_le _, fun l1 hl1' => ?_⟩
      have hm0x : (upd (upd H' l0 (.lst [])) m0 (.dK (mkv (U0 ++ [Tab.mk t0.n t0.w t0.d l0])))) m0 = some (.dK (mkv (U0 ++ [Tab.mk t0.n t0.w t0.d l0]))) := upd_same
      have hm1x : (upd (upd H' l0 (.lst [])) m0 (.dK (mkv (U0 ++ [Tab.mk t0.n t0.w t0.d l0])))) m1 = some (.dK (mkv U1)) := by rw [upd_ne n01.symm, upd_ne nm1l]; exact am1
      have hlmx : (upd (upd H' l0 (.lst [])) m0 (.dK (mkv (U0 ++ [Tab.mk t0.n t0.w t0.d l0])))) lm = some (.lst [.ref m0, .ref m1]) := by rw [upd_ne n0m.symm, upd_ne nlml]; exact hlm'
      have hl0x : (upd (upd H' l0 (.lst [])) m0 (.dK (mkv (U0 ++ [Tab.mk t0.n t0.w t0.d l0])))) l0 = some (.lst []) := by rw [upd_ne nm0l.symm, upd_same]
      have kx : ∀ b o, H' b = some o → b ≠ m0 → (upd (upd H' l0 (.lst [])) m0 (.dK (mkv (U0 ++ [Tab.mk t0.n t0.w t0.d l0])))) b = some o := fun b o h hb => by
        rw [upd_ne hb, upd_ne (ne_of_none h hl0)]
        exact h
      generalize upd (upd H' l0 (.lst [])) m0 (.dK (mkv (U0 ++ [Tab.mk t0.n t0.w t0.d l0]))) = Hx at hl1' hm0x hm1x hlmx hl0x kx
      have nm1l1 : m1 ≠ l1 := ne_of_none hm1x hl1'
      have nm0l1 : m0 ≠ l1 := ne_of_none hm0x hl1'
      have nlml1 : lm ≠ l1 := ne_of_none hlmx hl1'
      have nl01 : l0 ≠ l1 := ne_of_none hl0x hl1'
      refine ⟨_, rfl, lm, _, 1, _, rfl, rfl, SqL.of (by rw [upd_ne nlml1]; exact hlmx), atI_nat (j := 1) rfl, _, rfl, m1, _, rfl, DPut.k (k := Sum.inr x.2.1) (by rw [upd_ne nm1l1]; exact hm1x) (small1000 (by have := lenU eU1; rw [List.length_map]; omega)), ?_⟩
      have ep1 : putK (mkv U1) (Sum.inr x.2.1) (V.ref l1) = mkv (U1 ++ [Tab.mk t1.n t1.w t1.d l1]) := by
        rw [← en1]
        exact put_next (fun t : Tab => t.n) (fun t => V.ref t.l) (e := Tab.mk t1.n t1.w t1.d l1) (fresh _ _ _ _ e1 ht1 eU1)
      rw [ep1]
      have kz : ∀ b o, H' b = some o → b ≠ m0 → b ≠ m1 → (upd (upd Hx l1 (.lst [])) m1 (.dK (mkv (U1 ++ [Tab.mk t1.n t1.w t1.d l1])))) b = some o := fun b o h h0 h1 => by
        have := kx b o h h0
        rw [upd_ne h1, upd_ne (ne_of_none this hl1')]
        exact this
      have f5 : ∀ {l : Addr}, l ≠ m0 → l ≠ m1 → H' l = none → H5 l = none := fun h0 h1 h => by
        cases q5 : H5 _ with
        | none => rfl
        | some o =>
          have := kp _ o q5 h0 h1
          rw [h] at this
          cases this
      have hl1f : H' l1 = none := by
        cases q5 : H' l1 with
        | none => rfl
        | some o =>
          have := kx l1 o q5 nm0l1.symm
          rw [hl1'] at this
          cases this
      have hz0 : (upd (upd Hx l1 (.lst [])) m1 (.dK (mkv (U1 ++ [Tab.mk t1.n t1.w t1.d l1])))) l0 = some (.lst []) := by rw [upd_ne nm1l.symm, upd_ne nl01]; exact hl0x
      have hz1 : (upd (upd Hx l1 (.lst [])) m1 (.dK (mkv (U1 ++ [Tab.mk t1.n t1.w t1.d l1])))) l1 = some (.lst []) := by rw [upd_ne nm1l1.symm, upd_same]
      refine ⟨_, _, U0 ++ [Tab.mk t0.n t0.w t0.d l0], U1 ++ [Tab.mk t1.n t1.w t1.d l1], rfl, f3_at eU0 ht0, f3_at eU1 ht1, ?_, upd_same, fun t ht => ?_, ?_, fun b o h h0 h1 => kz b o (kp b o h h0 h1) h0 h1⟩
      · rw [upd_ne n01, upd_ne nm0l1]
        exact hm0x
      · have old : ∀ t ∈ U0 ++ U1, H5 t.l = none ∧ (upd (upd Hx l1 (.lst [])) m1 (.dK (mkv (U1 ++ [Tab.mk t1.n t1.w t1.d l1])))) t.l = some (.lst []) := fun t ht => by
          obtain ⟨a1, a2⟩ := dl t ht
          exact ⟨a1, kz _ _ a2 (ne_of a2 am0 (by intro z; cases z)) (ne_of a2 am1 (by intro z; cases z))⟩
        rcases List.mem_append.mp ht with z | z
        · rcases List.mem_append.mp z with z | z
          · exact old t (List.mem_append_left _ z)
          · have := List.mem_singleton.mp z
            subst this
            exact ⟨f5 nm0l.symm nm1l.symm hl0, hz0⟩
        · rcases List.mem_append.mp z with z | z
          · exact old t (List.mem_append_right _ z)
          · have := List.mem_singleton.mp z
            subst this
            exact ⟨f5 nm0l1.symm nm1l1.symm hl1f, hz1⟩
      · have n0 : ∀ t ∈ U0 ++ U1, t.l ≠ l0 := fun t ht => ne_of_none (dl t ht).2 hl0
        have n1 : ∀ t ∈ U0 ++ U1, t.l ≠ l1 := fun t ht => ne_of_none (dl t ht).2 hl1f
        rw [List.map_append] at dn'
        obtain ⟨d0, d1, d2⟩ := List.nodup_append.mp dn'
        rw [List.map_append, List.map_append, List.map_append]
        have m0' : ∀ v ∈ U0.map (·.l), v ≠ l0 ∧ v ≠ l1 := fun v hv => by
          obtain ⟨t, ht, rfl⟩ := List.mem_map.mp hv
          exact ⟨n0 t (List.mem_append_left _ ht), n1 t (List.mem_append_left _ ht)⟩
        have m1' : ∀ v ∈ U1.map (·.l), v ≠ l0 ∧ v ≠ l1 := fun v hv => by
          obtain ⟨t, ht, rfl⟩ := List.mem_map.mp hv
          exact ⟨n0 t (List.mem_append_right _ ht), n1 t (List.mem_append_right _ ht)⟩
        refine List.nodup_append.mpr ⟨List.nodup_append.mpr ⟨d0, by simp, fun u hu v hv => ?_⟩, List.nodup_append.mpr ⟨d1, by simp, fun u hu v hv => ?_⟩, fun u hu v hv => ?_⟩
        · have : v = l0 := by simpa using hv
          rw [this]
          exact (m0' u hu).1
        · have : v = l1 := by simpa using hv
          rw [this]
          exact (m1' u hu).2
        · rcases List.mem_append.mp hu with z | z
          · rcases List.mem_append.mp hv with y | y
            · exact d2 u z v y
            · have : v = l1 := by simpa using y
              rw [this]
              exact (m0' u z).2
          · have eu : u = l0 := by simpa using z
            rcases List.mem_append.mp hv with y | y
            · rw [eu]
              exact (m1' v y).1.symm
            · have : v = l1 := by simpa using y
              rw [this, eu]
              exact nl01
    rintro σ H6 ⟨v2, v6, U0, U1, rfl, eU0, eU1, am0, am1, dl, dn', kp⟩
    rw [List.length_map] at eU0 eU1
    have lT0 : T0.length = W.length := by
      have := congrArg List.length e0
      rwa [List.length_map, List.length_map] at this
    have lT1 : T1.length = W.length := by
      have := congrArg List.length e1
      rwa [List.length_map, List.length_map] at this
    rw [← lT0, List.take_length] at eU0
    rw [← lT1, List.take_length] at eU1
    have k6 : ∀ b o, H4 b = some o → H6 b = some o := fun b o h => kp _ _ (s5 b o h) (ne_of_none h hm0') (ne_of_none h hm1')
    have s6 : Same H H6 := fun b o h => k6 b o (s4 b o h)
    have G6 : PrOk H6 W := G4.same fun b xs h => k6 b _ h
    have B06 : BookAt C H6 p0 U0 := f3_book (B0'.keep fun b o h _ => k6 b o h) eU0 G6 e0
    have B16 : BookAt C H6 p1 U1 := f3_book (B1'.keep fun b o h _ => k6 b o h) eU1 G6 e1
    have hlm6 : H6 lm = some (.lst [.ref m0, .ref m1]) := kp _ _ elm n0m.symm n1m.symm
    have dd6 : ∀ t ∈ U0 ++ U1, H6 t.d = some (.dT []) := fun t ht => by
      rcases List.mem_append.mp ht with z | z
      · obtain ⟨u, hu, _, _, e⟩ := f3_mem eU0 z
        rw [← e]
        exact k6 _ _ (dd4 u (List.mem_append_left _ hu))
      · obtain ⟨u, hu, _, _, e⟩ := f3_mem eU1 z
        rw [← e]
        exact k6 _ _ (dd4 u (List.mem_append_right _ hu))
    have dnd : ((U0 ++ U1).map (·.d)).Nodup := by
      rw [List.map_append, f3_d eU0, f3_d eU1, ← List.map_append]
      exact dn
    -- held = []
    refine ⟨fun σ H' => ∃ (e : Env) (ll : Addr) (v2 v6 : Option V), σ = fr0 a e ll v2 v6 ∧ EnvOk e ∧ St1 C e H' 0 ∧ SqL K H' a (ns.map V.int), ?_, ?_⟩
    · refine ⟨Nat.zero_le _, fun lh hlh => ?_⟩
      have s7 : Same H6 (upd H6 lh (.lst [])) := same_upd hlh
      let e : Env := ⟨lp, lb, lm, lh, fun j => if j = 0 then p0 else p1, fun j => if j = 0 then m0 else m1, fun j => if j = 0 then U0 else U1, W⟩
      have memU : ∀ j, j < 2 → ∀ t ∈ e.U j, t ∈ U0 ++ U1 := fun j hj t ht => by
        match j, hj with
        | 0, _ => exact List.mem_append_left _ ht
        | 1, _ => exact List.mem_append_right _ ht
      have notMu : ∀ {b : Addr} {xs : List V}, H5 b = some (.lst xs) → H6 b = some (.lst xs) → ¬ e.Mu b := fun h5 h6 z => by
        rcases z with z | ⟨j, hj, t, ht, z | z⟩
        · rw [show _ = lh from z, hlh] at h6
          cases h6
        · rw [z, dd6 t (memU j hj t ht)] at h6
          cases h6
        · rw [z, (dl t (memU j hj t ht)).1] at h5
          cases h5
      have O : EnvOk e := by
        refine ⟨G6.few, pos, fun j hj => ?_, fun j k hj hk t ht u hu z => inj_of_nodup dnd (memU j hj t ht) (memU k hk u hu) z, fun j k hj hk t ht u hu z => inj_of_nodup dn' (memU j hj t ht) (memU k hk u hu) z,
          fun j hj t ht => ne_of_none (dl t (memU j hj t ht)).2 hlh, notMu hl5 (k6 _ _ hl4), notMu (s5 _ _ hlb4) (k6 _ _ hlb4), notMu elm hlm6⟩
        match j, hj with
        | 0, _ => exact (f3_nw eU0).trans e0
        | 1, _ => exact (f3_nw eU1).trans e1
      refine ⟨e, ll, v2, v6, rfl, O, ⟨⟨s7 _ _ (k6 _ _ hl4), G6.same fun b xs h => s7 b _ h, s7 _ _ (k6 _ _ hlb4), s7 _ _ hlm6, fun j hj => ?_, fun j hj => ?_⟩, fun j hj t ht => ?_, [], upd_same, Nat.le_refl _, fun h hh => (by cases hh)⟩, s7.seq (s6.seq hS)⟩
      · match j, hj with
        | 0, _ => exact B06.keep fun b o h _ => s7 b o h
        | 1, _ => exact B16.keep fun b o h _ => s7 b o h
      · match j, hj with
        | 0, _ => exact s7 _ _ am0
        | 1, _ => exact s7 _ _ am1
      · exact ⟨[], [], ⟨s7 _ _ (dd6 t (memU j hj t ht)), fun k hk => (by cases hk), Nat.zero_le _, List.nodup_nil⟩, s7 _ _ (dl t (memU j hj t ht)).2, fun p hp => (by cases hp), List.Perm.refl _⟩
    rintro σ H7 ⟨e, ll, v2, v6, rfl, O, S, hS7⟩
    -- for cell in script[2:82]
    obtain ⟨cs, ecs, lcs⟩ := cut_ints ns (some 2) (some 82)
    refine ⟨fun σ H' => ∃ (v2 v6 v8 v9 v10 v11 v12 : Option V) (n : Nat), σ = [some (.ref a), some (.ref e.lp), v2, some (.ref ll), some (.ref e.lb), some (.ref e.lm), v6, some (.ref e.lh), v8, v9, v10, v11, v12, none, none] ∧ St1 C e H' n, ?_, ?_⟩
    · refine ⟨_, rfl, _, rfl, _, rfl, a, _, rfl, hS7, fun ls hls => ?_⟩
      rw [ecs]
      have nls : ¬ e.Mu ls := S.fresh hls
      have S8 := S.same O (same_upd (o := .lst (cs.map V.int)) hls)
      refine ⟨ls, rfl, ⟨_, SqL.of upd_same⟩, for_list (K := K) (a := ls) (xs := cs.map V.int) (fun i σ H' => ∃ (v2 v6 v8 v9 v10 v11 v12 : Option V), σ = [some (.ref a), some (.ref e.lp), v2, some (.ref ll), some (.ref e.lb), some (.ref e.lm), v6, some (.ref e.lh), v8, v9, v10, v11, v12, none, none] ∧
          St1 C e H' i ∧ H' ls = some (.lst (cs.map V.int))) ⟨v2, v6, none, none, none, none, none, rfl, S8, upd_same⟩ (fun i σ H' _ ⟨_, _, _, _, _, _, _, _, _, k⟩ => SqL.of k) ?_ (fun σ H' ⟨v2, v6, v8, v9, v10, v11, v12, eσ, S', _⟩ => ⟨v2, v6, v8, v9, v10, v11, v12, _, eσ, S'⟩)⟩
      rintro i x σ H' hi ⟨v2, v6, v8, v9, v10, v11, v12, rfl, S, hls⟩
      rw [List.getElem?_map] at hi
      obtain ⟨c, hc, rfl⟩ := Option.map_eq_some_iff.mp hi
      have hil : i < 63 := by
        have := (List.getElem?_eq_some_iff.mp hc).1
        omega
      -- which
      obtain ⟨j, hj, ej⟩ := mod2 (mixZ c 20)
      refine ⟨_, rfl, c, 20, rfl, ⟨by decide, by decide⟩, _, _, rfl, rfl, (by show (0 : Int) < 2; decide), ?_⟩
      -- table, wide = pairs[..]
      have hWl : ((e.W.map fun x => V.ref x.1).length : Int) = (e.W.length : Int) := by rw [List.length_map]
      have hWp : (0 : Int) < ((e.W.map fun x => V.ref x.1).length : Int) := by have := O.pos; omega
      have i0 := Int.emod_nonneg (mixZ c 21) (show ((e.W.map fun x => V.ref x.1).length : Int) ≠ 0 by omega)
      have i1 := Int.emod_lt_of_pos (mixZ c 21) hWp
      have i2 : (((mixZ c 21 % ((e.W.map fun x => V.ref x.1).length : Int)).toNat : Nat) : Int) = mixZ c 21 % ((e.W.map fun x => V.ref x.1).length : Int) := Int.toNat_of_nonneg i0
      have i3 : (mixZ c 21 % ((e.W.map fun x => V.ref x.1).length : Int)).toNat < e.W.length := by omega
      obtain ⟨x, hx⟩ : ∃ x, e.W[(mixZ c 21 % ((e.W.map fun x => V.ref x.1).length : Int)).toNat]? = some x := ⟨_, List.getElem?_eq_getElem i3⟩
      have hat : atI (e.W.map fun x => V.ref x.1) (mixZ c 21 % ((e.W.map fun x => V.ref x.1).length : Int)) = some (.ref x.1) := by
        have z : atI (e.W.map fun x => V.ref x.1) (((mixZ c 21 % ((e.W.map fun x => V.ref x.1).length : Int)).toNat : Nat) : Int) = some (.ref x.1) := by
          refine atI_nat ?_
          rw [List.getElem?_map, hx] <;> rfl
        rw [i2] at z
        exact z
      have hxm : x ∈ e.W := List.mem_of_getElem? hx
      obtain ⟨t, ht, en, ew⟩ := O.tab hj hx
      refine ⟨_, rfl, _, rfl, c, 21, rfl, ⟨by decide, by decide⟩, _, rfl, e.lp, _, rfl, .inl (SqL.of S.s.lp), _, _, rfl, rfl, hWp, e.lp, _, _, _, rfl, rfl, SqL.of S.s.lp, hat, ?_⟩
      refine ⟨x.1, _, rfl, SqT.of (S.s.pr.t x hxm), rfl, _, _, rfl, _, _, rfl, rfl, ?_⟩
      -- the deed
      refine ⟨fun σ H' => σ = [some (.ref a), some (.ref e.lp), v2, some (.ref ll), some (.ref e.lb), some (.ref e.lm), some (.int x.2.2), some (.ref e.lh), some (.int c), some (.int (mixZ c 20 % 2)), some (.str x.2.1), v11, v12, none, none] ∧ St1 C e H' i ∧ H' ls = some (.lst (cs.map V.int)), ?_, ?_⟩
      · have hmv := DGet.k (k := Sum.inr x.2.1) (S.s.md j hj)
        rw [← en, mkv_val (S.s.bk j hj).ok ht, en] at hmv
        obtain ⟨w1, w2⟩ := S.s.pr.wd x hxm
        refine ⟨_, rfl, _, rfl, e.lb, _, _, _, rfl, rfl, SqL.of S.s.lb, at_two hj ej, ?_⟩
        refine ⟨_, rfl, _, rfl, e.lm, _, _, _, rfl, rfl, SqL.of S.s.lm, at_two hj ej, _, rfl, e.m j, _, rfl, hmv, ?_⟩
        refine ⟨_, rfl, _, rfl, _, rfl, c, x.2.2, rfl, ⟨w1, w2⟩, fun r k H2 s2 R => ?_⟩
        have S2 := S.same O s2
        obtain ⟨L, ks, A2⟩ := S2.tb j hj t ht
        refine ⟨_, rfl, c, 22, rfl, ⟨by decide, by decide⟩, _, _, rfl, rfl, (by show (0 : Int) < 4; decide), e.p j, r, e.U j, t, L, ks, k, mixZ c 22 % 4, ?_, S2.s.bk j hj, ht, A2, ⟨R.t, R.ok, by rw [ew]; exact R.w⟩, fun H3 L' ks' A3 k3 f3' => ?_⟩
        · rw [en] <;> rfl
        · refine ⟨rfl, S2.deed O hj ht A3 k3, k3 _ _ (s2 _ _ hls) (fun z => nls (.inr ⟨j, hj, t, ht, .inl z⟩)) (fun z => nls (.inr ⟨j, hj, t, ht, .inr z⟩))⟩
      rintro σ H3 ⟨rfl, S3, hls3⟩
      -- if mix % 5 == 0
      refine ⟨_, rfl, c, 23, rfl, ⟨by decide, by decide⟩, _, _, rfl, rfl, (by show (0 : Int) < 5; decide), rfl, _, rfl, ?_⟩
      refine ite2 (fun _ => ?_) (fun _ => ⟨_, _, _, _, _, _, _, rfl, S3.mono (Nat.le_succ _), hls3⟩)
      -- plain
      obtain ⟨Lf, Df, Af⟩ := S3.tabs hj
      obtain ⟨⟨dx, b, hh, ep, eb, eh⟩, Gt⟩ := S3.s.bk j hj
      refine ⟨fun σ H' => ∃ (qq : Addr) (Pl : Tabs), σ = [some (.ref a), some (.ref e.lp), v2, some (.ref ll), some (.ref e.lb), some (.ref e.lm), some (.int x.2.2), some (.ref e.lh), some (.int c), some (.int (mixZ c 20 % 2)), some (.str x.2.1), some (.ref qq), v12, none, none] ∧ St1 C e H' i ∧ H' ls = some (.lst (cs.map V.int)) ∧
          PBx e H' qq Pl ∧ Tells (e.U j) Df Pl ∧ ∀ t ∈ e.U j, TabAt H' t (Lf t) (Df t), ?_, ?_⟩
      · refine ⟨_, rfl, _, rfl, e.lb, _, _, _, rfl, rfl, SqL.of S3.s.lb, at_two hj ej, e.p j, dx, _, rfl, ep, flds_no _ _ (by decide +kernel) (by decide +kernel), e.p j, e.U j, Df, rfl, S3.s.bk j hj, fun t ht => (Af t ht).hd, fun qq Pl H4 s4 q0 B fr Te => ?_⟩
        exact ⟨qq, Pl, rfl, S3.same O s4, s4 _ _ hls3, ⟨B, fun y hy => S3.fresh (fr y hy)⟩, Te, fun t ht => (Af t ht).same s4⟩
      rintro σ H4 ⟨qq, Pl, rfl, S4, hls4, B4, Te, A4⟩
      have PG := tells_good Gt (fun t ht => (A4 t ht).hd) Te
      -- if not plain_holds(..)
      refine ⟨_, rfl, _, rfl, _, rfl, e.lm, _, _, _, rfl, rfl, SqL.of S4.s.lm, at_two hj ej, qq, e.m j, e.U j, Df, Lf, Pl, rfl, Gt, B4.b, Te, S4.s.md j hj, A4, fun H5 s5 => ⟨true, rfl, iteF ?_⟩⟩
      have S5 := S4.same O s5
      have B5 := B4.keep (keep_same s5)
      have hls5 := s5 _ _ hls4
      -- held.append((plain, copy(plain)))
      refine ⟨fun σ H' => σ = [some (.ref a), some (.ref e.lp), v2, some (.ref ll), some (.ref e.lb), some (.ref e.lm), some (.int x.2.2), some (.ref e.lh), some (.int c), some (.int (mixZ c 20 % 2)), some (.str x.2.1), some (.ref qq), v12, none, none] ∧ St1 C e H' (i + 1) ∧ H' ls = some (.lst (cs.map V.int)), ?_, ?_⟩
      · obtain ⟨hs, h1, h2, h3⟩ := S5.hl
        refine ⟨_, rfl, .inl ⟨rfl, _, SqL.of h1⟩, _, rfl, _, rfl, qq, Pl, rfl, B5.b, PG.nd, PG.few, fun q2 P2 H6 s6 q20 B6 fr6 e6 => ?_⟩
        refine ⟨(by show 2 ≤ sizeLine; decide), fun tp htp => ?_⟩
        have s7 := s6.trans (same_upd (o := .tup [.ref qq, .ref q2]) htp)
        have S7 := S5.same O s7
        have hd : HeldOk e (upd H6 tp (.tup [.ref qq, .ref q2])) tp := ⟨qq, q2, Pl, P2, upd_same, B5.keep (keep_same s7), PBx.keep ⟨B6, fun y hy => S5.fresh (fr6 y hy)⟩ (keep_same (same_upd htp)), e6, PG.nd⟩
        have h1' := s7 _ _ h1
        refine ⟨e.lh, _, _, rfl, rfl, h1', small1000 (by rw [List.length_map]; omega), rfl, S7.told O h1' h2 (fun y hy => (h3 y hy).keep (keep_same s7)) hd, ?_⟩
        rw [upd_ne (fun z => nls (.inl z))]
        exact s7 _ _ hls5
      rintro σ H6 ⟨rfl, S6, hls6⟩
      -- spoiled
      obtain ⟨Lg, Dg, Ag⟩ := S6.tabs hj
      obtain ⟨⟨dx, b, hh, ep, eb, eh⟩, Gt⟩ := S6.s.bk j hj
      refine ⟨_, rfl, _, rfl, e.lb, _, _, _, rfl, rfl, SqL.of S6.s.lb, at_two hj ej, e.p j, dx, _, rfl, ep, flds_no _ _ (by decide +kernel) (by decide +kernel), e.p j, e.U j, Dg, rfl, S6.s.bk j hj, fun t ht => (Ag t ht).hd, fun qs Ps H7 s7 qs0 Bs frs Tes => ?_⟩
      have PGs := tells_good Gt (fun t ht => (Ag t ht).hd) Tes
      obtain ⟨y, hy, eny⟩ : ∃ y ∈ Ps, y.1 = x.2.1 := by
        obtain ⟨y, hy, z⟩ := List.mem_map.mp (Tes.nm.mem_iff.mpr (List.mem_map.mpr ⟨t, ht, rfl⟩))
        exact ⟨y, hy, z.trans en⟩
      have gy := DGet.k (k := Sum.inr y.1) Bs.d
      rw [PB.val (H := H7) (q := qs) PGs.nd hy, eny] at gy
      have hly := Bs.l y hy
      obtain ⟨w1, w2⟩ := S6.s.pr.wd x hxm
      have fewy : y.2.2.length ≤ 60 := by
        obtain ⟨d, g⟩ := PGs.ok y hy
        exact g.few
      -- the end of the turn, whatever tuple is put
      have fin : ∀ (tn : Addr) (H8 : Hp), Same H7 H8 → ∃ l xs y', V.ref y.2.1 = .ref l ∧ [V.ref tn] = [y'] ∧ H8 l = some (.lst xs) ∧ xs.length < sizeLine ∧
          tSeq (tDrop (tDPop1 (tVar 12) (tOp (rIxT K) (tOp (rIxL K) (tVar 1) (tC (.int 0))) (tC (.int 0))))) tNext
            { nx := fun σ H' => ∃ (v2 v6 v8 v9 v10 v11 v12 : Option V), σ = [some (.ref a), some (.ref e.lp), v2, some (.ref ll), some (.ref e.lb), some (.ref e.lm), v6, some (.ref e.lh), v8, v9, v10, v11, v12, none, none] ∧ St1 C e H' (i + 1) ∧ H' ls = some (.lst (cs.map V.int)), rt := Q }
            [some (.ref a), some (.ref e.lp), v2, some (.ref ll), some (.ref e.lb), some (.ref e.lm), some (.int x.2.2), some (.ref e.lh), some (.int c), some (.int (mixZ c 20 % 2)), some (.str x.2.1), some (.ref qq), some (.ref qs), none, none] (upd H8 l (.lst (xs ++ [y']))) := fun tn H8 s8 => by
        have hl8 := s8 _ _ hly
        refine ⟨y.2.1, _, _, rfl, rfl, hl8, small1000 (by rw [List.length_map]; omega), ?_⟩
        have s68 : Same H6 (upd H8 y.2.1 (.lst (refs y.2.2 ++ [V.ref tn]))) := fun b o h => by
          rw [upd_ne (ne_of_none h (frs y hy))]
          exact s8 _ _ (s7 _ _ h)
        have S8 := S6.same O s68
        have hq8 : (upd H8 y.2.1 (.lst (refs y.2.2 ++ [V.ref tn]))) qs = some (.dK (pkv Ps)) := by
          rw [upd_ne (ne_of Bs.d hly (by intro z; cases z))]
          exact s8 _ _ Bs.d
        obtain ⟨x0, hx0⟩ : ∃ x0, e.W[0]? = some x0 := ⟨_, List.getElem?_eq_getElem (show 0 < e.W.length from O.pos)⟩
        have hx0m : x0 ∈ e.W := List.mem_of_getElem? hx0
        obtain ⟨t0, ht0, en0, _⟩ := O.tab hj hx0
        obtain ⟨y0, hy0, eny0⟩ : ∃ y ∈ Ps, y.1 = x0.2.1 := by
          obtain ⟨y, hy, z⟩ := List.mem_map.mp (Tes.nm.mem_iff.mpr (List.mem_map.mpr ⟨t0, ht0, rfl⟩))
          exact ⟨y, hy, z.trans en0⟩
        have v0 := PB.val (H := H7) (q := qs) PGs.nd hy0
        rw [eny0] at v0
        refine ⟨_, rfl, qs, rfl, .inl ⟨_, .inl hq8⟩, _, rfl, e.lp, _, 0, .ref x0.1, rfl, rfl, SqL.of S8.s.lp, atI_nat (j := 0) (by rw [List.getElem?_map, hx0] <;> rfl), x0.1, _, 0, _, rfl, rfl, SqT.of (S8.s.pr.t x0 hx0m), atI_nat (j := 0) rfl, _, Sum.inr x0.2.1, _, hq8, rfl, v0, ?_⟩
        have s69 : Same H6 (upd (upd H8 y.2.1 (.lst (refs y.2.2 ++ [V.ref tn]))) qs (.dK (dropK (pkv Ps) (Sum.inr x0.2.1)))) := fun b o h => by
          rw [upd_ne (ne_of_none h qs0)]
          exact s68 _ _ h
        exact ⟨_, _, _, _, _, _, _, rfl, S6.same O s69, s69 _ _ hls6⟩
      refine ⟨_, rfl, _, rfl, qs, _, rfl, gy, .inl ⟨rfl, _, SqL.of hly⟩, ?_⟩
      refine ⟨(by show 1 ≤ sizeLine; decide), fun t9 ht9 => ⟨_, rfl, ?_⟩⟩
      have s9 : Same H7 (upd H7 t9 (.tup [.int 9])) := same_upd ht9
      by_cases h1 : x.2.2 = 1
      · refine .inl ⟨t9, [.int 9], rfl, congrArg V.int h1, SqT.of upd_same, ?_⟩
        exact fin t9 _ s9
      · refine .inr ⟨t9, x.2.2, [.int 9], rfl, rfl, SqT.of upd_same, (by intro z; cases z), by omega, by omega, by decide, fun tn htn => ?_⟩
        exact fin tn _ (s9.trans (same_upd htn))
    rintro σ H8 ⟨v2, v6, v8, v9, v10, v11, v12, n, rfl, S8⟩
    -- for k in range(2)
    refine ⟨fun σ H' => ∃ v13 : Option V, σ = [some (.ref a), some (.ref e.lp), v2, some (.ref ll), some (.ref e.lb), some (.ref e.lm), v6, some (.ref e.lh), v8, v9, v10, v11, v12, v13, none] ∧ St1 C e H' n, ?_, ?_⟩
    · refine ⟨2, rfl, by decide, by decide, for_range (lo := 0) (n := 2) (fun i σ H' => ∃ v13 : Option V, σ = [some (.ref a), some (.ref e.lp), v2, some (.ref ll), some (.ref e.lb), some (.ref e.lm), v6, some (.ref e.lh), v8, v9, v10, v11, v12, v13, none] ∧ St1 C e H' n) ⟨none, rfl, S8⟩ ?_ (fun σ H' h => h)⟩
      rintro j σ H' hj ⟨v13, rfl, S⟩
      have ej : (0 : Int) + (j : Int) = (j : Nat) := Int.zero_add _
      obtain ⟨Lf, Df, Af⟩ := S.tabs hj
      obtain ⟨⟨dx, b, hh, ep, eb, eh⟩, Gt⟩ := S.s.bk j hj
      refine ⟨_, rfl, _, rfl, e.lb, _, _, _, rfl, rfl, SqL.of S.s.lb, at_two hj ej, e.p j, dx, _, rfl, ep, flds_no _ _ (by decide +kernel) (by decide +kernel), e.p j, e.U j, Df, rfl, S.s.bk j hj, fun t ht => (Af t ht).hd, fun qq Pl H4 s4 q0 B fr Te => ?_⟩
      have S4 := S.same O s4
      refine ⟨_, rfl, _, rfl, e.lm, _, _, _, rfl, rfl, SqL.of S4.s.lm, at_two hj ej, qq, e.m j, e.U j, Df, Lf, Pl, rfl, Gt, B, Te, S4.s.md j hj, fun t ht => (Af t ht).same s4, fun H5 s5 => ⟨true, rfl, iteF ?_⟩⟩
      exact ⟨_, rfl, S4.same O s5⟩
    rintro σ H9 ⟨v13, rfl, S9⟩
    -- for plain, kept in held
    obtain ⟨hs, h1, h2, h3⟩ := S9.hl
    refine ⟨_, rfl, e.lh, rfl, ⟨_, SqL.of h1⟩, for_list (K := K) (a := e.lh) (xs := hs.map V.ref) (fun i σ H' => H' = H9 ∧ ∃ v11 v14 : Option V, σ = [some (.ref a), some (.ref e.lp), v2, some (.ref ll), some (.ref e.lb), some (.ref e.lm), v6, some (.ref e.lh), v8, v9, v10, v11, v12, v13, v14]) ⟨rfl, v11, none, rfl⟩
      (fun i σ H' _ h => by rw [h.1]; exact SqL.of h1) ?_ (fun σ H' _ => q H')⟩
    rintro i x σ H' hi ⟨rfl, v11, v14, rfl⟩
    rw [List.getElem?_map] at hi
    obtain ⟨h, hh, rfl⟩ := Option.map_eq_some_iff.mp hi
    obtain ⟨q1, q2, P1, P2, et, B1, B2, e12, nd⟩ := h3 h (List.mem_of_getElem? hh)
    refine ⟨h, _, rfl, SqT.of et, rfl, _, _, rfl, _, _, rfl, rfl, ?_⟩
    have nd2 : (P2.map (·.1)).Nodup := by
      have := congrArg (List.map fun x : Str × List (Addr × List Int) => x.1) e12
      rw [List.map_map, List.map_map] at this
      have e : P2.map (·.1) = P1.map (·.1) := this
      rw [e]
      exact nd
    have len12 := congrArg List.length e12
    rw [List.length_map, List.length_map] at len12
    refine ⟨_, rfl, _, rfl, q1, q2, _, _, rfl, rfl, B1.b.d, B2.b.d, by unfold pkv; rw [List.length_map, List.length_map]; exact len12.symm, fun p hp => ?_, false, rfl, iteF ⟨rfl, _, _, rfl⟩⟩
    obtain ⟨y, hy, rfl⟩ := List.mem_map.mp hp
    have m : (y.1, y.2.2) ∈ P2.map fun x => (x.1, x.2.2) := by
      rw [e12]
      exact List.mem_map.mpr ⟨y, hy, rfl⟩
    obtain ⟨y2, hy2, ee⟩ := List.mem_map.mp m
    injection ee with ee1 ee2
    have v2 := PB.val (H := H') (q := q2) nd2 hy2
    rw [ee1] at v2
    refine ⟨_, .list ((rows y.2.2).map rowD), v2, dp_list (.of (B1.b.l y hy)) (B1.b.t y hy), ?_, rowsD_shaped _, by rw [listD_eqv, decide_eq_true rfl]⟩
    rw [← ee2]
    exact dp_list (.of (B2.b.l y2 hy2)) (B2.b.t y2 hy2)
end
end Aw

/-! What the top has written; the end. -/
namespace Aw
open PySem PySem.Spec PyProof.Rows L2
theorem defG_mk {K : PySem.W.Frag} {mg : Str → Option Value} {x : Str} {st : Stmt} {ps : List Str} {f : Addr} {oc : Value} {od an : Option Addr} {osl : Array (Option Value)} {kV doc pm cdv ct : Value}
    (l : K.lookup f = some ⟨oc, od, .func (PySem.W.fnOf x x (defArgs st) (defBody st) (defScope st) .none kV doc pm an cdv ct), osl⟩) (c : PySem.W.codeIn K cdv x = true) (k : PySem.W.keepIn K (.ref f) = true) (hm : mg x = some (.ref f))
    (h : ∀ (kV doc pm : Value) (an : Option Addr) (cdv ct : Value) (us : List Value), us.length = ps.length → bindArgs (PySem.W.fnOf x x (defArgs st) (defBody st) (defScope st) .none kV doc pm an cdv ct) ⟨us, []⟩ = pure (ps.zip us)) : DefG K mg x st ps :=
  ⟨f, _, fun_mk l c k, hm, (fun_mk l c k).binds h⟩
theorem metG_mk {K : PySem.W.Frag} {C : Addr} {m qual : Str} {st : Stmt} {ps : List Str} {f : Addr} {oc : Value} {od an : Option Addr} {osl : Array (Option Value)} {kV doc pm cdv ct : Value}
    (a : PySem.W.findIn K (.ref C) m = some (some (.ref f))) (i : PySem.W.isFn K (.ref f) = true) (l : K.lookup f = some ⟨oc, od, .func (PySem.W.fnOf m qual (defArgs st) (defBody st) (defScope st) .none kV doc pm an cdv ct), osl⟩)
    (c : PySem.W.codeIn K cdv qual = true) (k : PySem.W.keepIn K (.ref f) = true)
    (h : ∀ (kV doc pm : Value) (an : Option Addr) (cdv ct : Value) (us : List Value), us.length = ps.length → bindArgs (PySem.W.fnOf m qual (defArgs st) (defBody st) (defScope st) .none kV doc pm an cdv ct) ⟨us, []⟩ = pure (ps.zip us)) : MetG K C m qual st ps :=
  ⟨f, _, fun_mk l c k, ⟨a, i, k⟩, (fun_mk l c k).binds h⟩
theorem mak_of {P : Program} {w : World} {K : PySem.W.Frag} {mg : Str → Option Value} {base : Heap} {k : Nat} {C : Addr} {sp : Sp} (c : Met P w K mg base k C "__init__" sp) (mk : PySem.W.makesIn K C = true) (kc : PySem.W.keepIn K (.ref C) = true) : Mak P w K mg base k C sp := by
  obtain ⟨f, fd, ps, F, ⟨m1, m2, m3⟩, b⟩ := c.ex
  exact ⟨f, fd, ps, ⟨mk, m1, m2, kc⟩, F, b⟩
theorem all_mk {l : PySem.W.OpenLaw} {w : World} {K : PySem.W.Frag} {h : Heap} {mg : Str → Option Value} {fa C f1 f2 f3 f4 f5 f6 f7 f8 f9 f10 f11 f12 f13 f14 f15 f16 f17 f18 f19 f20 f21 f22 f23 : Addr} {tl tf : Tok} (X : K.In h) (G : h.Ns mainGlobals mg) (hfa : mg "law" = some (.ref fa))
    {od1 an1 od2 an2 od3 an3 od4 an4 od5 an5 od6 an6 od7 an7 od8 an8 od9 an9 od10 an10 od11 an11 od12 an12 od13 an13 od14 an14 od15 an15 od16 an16 od17 an17 od18 an18 od19 an19 od20 an20 od21 an21 od22 an22 od23 an23 : Option Addr} {sl1 sl2 sl3 sl4 sl5 sl6 sl7 sl8 sl9 sl10 sl11 sl12 sl13 sl14 sl15 sl16 sl17 sl18 sl19 sl20 sl21 sl22 sl23 : Array (Option Value)} {oc1 kV1 dc1 pm1 cd1 ct1 oc2 kV2 dc2 pm2 cd2 ct2 oc3 kV3 dc3 pm3 cd3 ct3 oc4 kV4 dc4 pm4 cd4 ct4 oc5 kV5 dc5 pm5 cd5 ct5 oc6 kV6 dc6 pm6 cd6 ct6 oc7 kV7 dc7 pm7 cd7 ct7 oc8 kV8 dc8 pm8 cd8 ct8 oc9 kV9 dc9 pm9 cd9 ct9 oc10 kV10 dc10 pm10 cd10 ct10 oc11 kV11 dc11 pm11 cd11 ct11 oc12 kV12 dc12 pm12 cd12 ct12 oc13 kV13 dc13 pm13 cd13 ct13 oc14 kV14 dc14 pm14 cd14 ct14 oc15 kV15 dc15 pm15 cd15 ct15 oc16 kV16 dc16 pm16 cd16 ct16 oc17 kV17 dc17 pm17 cd17 ct17 oc18 kV18 dc18 pm18 cd18 ct18 oc19 kV19 dc19 pm19 cd19 ct19 oc20 kV20 dc20 pm20 cd20 ct20 oc21 kV21 dc21 pm21 cd21 ct21 oc22 kV22 dc22 pm22 cd22 ct22 oc23 kV23 dc23 pm23 cd23 ct23 : Value}
    (aC : PySem.W.nsIn K mainGlobals "Book" = some (some (.ref C)))
    (a1 : PySem.W.nsIn K mainGlobals "is_whole" = some (some (.ref f1))) (l1 : K.lookup f1 = some ⟨oc1, od1, .func (PySem.W.fnOf "is_whole" "is_whole" (defArgs sWhole) (defBody sWhole) (defScope sWhole) .none kV1 dc1 pm1 an1 cd1 ct1), sl1⟩) (c1 : PySem.W.codeIn K cd1 "is_whole" = true) (k1 : PySem.W.keepIn K (.ref f1) = true)
    (a2 : PySem.W.nsIn K mainGlobals "is_value" = some (some (.ref f2))) (l2 : K.lookup f2 = some ⟨oc2, od2, .func (PySem.W.fnOf "is_value" "is_value" (defArgs sValue) (defBody sValue) (defScope sValue) .none kV2 dc2 pm2 an2 cd2 ct2), sl2⟩) (c2 : PySem.W.codeIn K cd2 "is_value" = true) (k2 : PySem.W.keepIn K (.ref f2) = true)
    (a3 : PySem.W.nsIn K mainGlobals "is_name" = some (some (.ref f3))) (l3 : K.lookup f3 = some ⟨oc3, od3, .func (PySem.W.fnOf "is_name" "is_name" (defArgs sName) (defBody sName) (defScope sName) .none kV3 dc3 pm3 an3 cd3 ct3), sl3⟩) (c3 : PySem.W.codeIn K cd3 "is_name" = true) (k3 : PySem.W.keepIn K (.ref f3) = true)
    (a4 : PySem.W.nsIn K mainGlobals "is_row" = some (some (.ref f4))) (l4 : K.lookup f4 = some ⟨oc4, od4, .func (PySem.W.fnOf "is_row" "is_row" (defArgs sRow) (defBody sRow) (defScope sRow) .none kV4 dc4 pm4 an4 cd4 ct4), sl4⟩) (c4 : PySem.W.codeIn K cd4 "is_row" = true) (k4 : PySem.W.keepIn K (.ref f4) = true)
    (a5 : PySem.W.nsIn K mainGlobals "is_rows" = some (some (.ref f5))) (l5 : K.lookup f5 = some ⟨oc5, od5, .func (PySem.W.fnOf "is_rows" "is_rows" (defArgs sRows) (defBody sRows) (defScope sRows) .none kV5 dc5 pm5 an5 cd5 ct5), sl5⟩) (c5 : PySem.W.codeIn K cd5 "is_rows" = true) (k5 : PySem.W.keepIn K (.ref f5) = true)
    (a6 : PySem.W.nsIn K mainGlobals "is_book" = some (some (.ref f6))) (l6 : K.lookup f6 = some ⟨oc6, od6, .func (PySem.W.fnOf "is_book" "is_book" (defArgs sBook) (defBody sBook) (defScope sBook) .none kV6 dc6 pm6 an6 cd6 ct6), sl6⟩) (c6 : PySem.W.codeIn K cd6 "is_book" = true) (k6 : PySem.W.keepIn K (.ref f6) = true)
    (a7 : PySem.W.nsIn K mainGlobals "widths_of" = some (some (.ref f7))) (l7 : K.lookup f7 = some ⟨oc7, od7, .func (PySem.W.fnOf "widths_of" "widths_of" (defArgs sWidths) (defBody sWidths) (defScope sWidths) .none kV7 dc7 pm7 an7 cd7 ct7), sl7⟩) (c7 : PySem.W.codeIn K cd7 "widths_of" = true) (k7 : PySem.W.keepIn K (.ref f7) = true)
    (a8 : PySem.W.nsIn K mainGlobals "_law_cell" = some (some (.ref f8))) (l8 : K.lookup f8 = some ⟨oc8, od8, .func (PySem.W.fnOf "_law_cell" "_law_cell" (defArgs sCell) (defBody sCell) (defScope sCell) .none kV8 dc8 pm8 an8 cd8 ct8), sl8⟩) (c8 : PySem.W.codeIn K cd8 "_law_cell" = true) (k8 : PySem.W.keepIn K (.ref f8) = true)
    (a9 : PySem.W.nsIn K mainGlobals "_law_mix" = some (some (.ref f9))) (l9 : K.lookup f9 = some ⟨oc9, od9, .func (PySem.W.fnOf "_law_mix" "_law_mix" (defArgs sMix) (defBody sMix) (defScope sMix) .none kV9 dc9 pm9 an9 cd9 ct9), sl9⟩) (c9 : PySem.W.codeIn K cd9 "_law_mix" = true) (k9 : PySem.W.keepIn K (.ref f9) = true)
    (a10 : PySem.W.nsIn K mainGlobals "_law_names" = some (some (.ref f10))) (l10 : K.lookup f10 = some ⟨oc10, od10, .func (PySem.W.fnOf "_law_names" "_law_names" (defArgs sNames) (defBody sNames) (defScope sNames) .none kV10 dc10 pm10 an10 cd10 ct10), sl10⟩) (c10 : PySem.W.codeIn K cd10 "_law_names" = true) (k10 : PySem.W.keepIn K (.ref f10) = true)
    (a11 : PySem.W.nsIn K mainGlobals "_law_row" = some (some (.ref f11))) (l11 : K.lookup f11 = some ⟨oc11, od11, .func (PySem.W.fnOf "_law_row" "_law_row" (defArgs sLRow) (defBody sLRow) (defScope sLRow) .none kV11 dc11 pm11 an11 cd11 ct11), sl11⟩) (c11 : PySem.W.codeIn K cd11 "_law_row" = true) (k11 : PySem.W.keepIn K (.ref f11) = true)
    (a12 : PySem.W.nsIn K mainGlobals "_law_copy" = some (some (.ref f12))) (l12 : K.lookup f12 = some ⟨oc12, od12, .func (PySem.W.fnOf "_law_copy" "_law_copy" (defArgs sCopy) (defBody sCopy) (defScope sCopy) .none kV12 dc12 pm12 an12 cd12 ct12), sl12⟩) (c12 : PySem.W.codeIn K cd12 "_law_copy" = true) (k12 : PySem.W.keepIn K (.ref f12) = true)
    (a13 : PySem.W.nsIn K mainGlobals "_law_plain_holds" = some (some (.ref f13))) (l13 : K.lookup f13 = some ⟨oc13, od13, .func (PySem.W.fnOf "_law_plain_holds" "_law_plain_holds" (defArgs sHolds) (defBody sHolds) (defScope sHolds) .none kV13 dc13 pm13 an13 cd13 ct13), sl13⟩) (c13 : PySem.W.codeIn K cd13 "_law_plain_holds" = true) (k13 : PySem.W.keepIn K (.ref f13) = true)
    (a14 : PySem.W.nsIn K mainGlobals "_law_deed" = some (some (.ref f14))) (l14 : K.lookup f14 = some ⟨oc14, od14, .func (PySem.W.fnOf "_law_deed" "_law_deed" (defArgs sDeed) (defBody sDeed) (defScope sDeed) .none kV14 dc14 pm14 an14 cd14 ct14), sl14⟩) (c14 : PySem.W.codeIn K cd14 "_law_deed" = true) (k14 : PySem.W.keepIn K (.ref f14) = true)
    (a15 : PySem.W.nsIn K mainGlobals "law" = some (some (.ref f15))) (l15 : K.lookup f15 = some ⟨oc15, od15, .func (PySem.W.fnOf "law" "law" (defArgs sLaw) (defBody sLaw) (defScope sLaw) .none kV15 dc15 pm15 an15 cd15 ct15), sl15⟩) (c15 : PySem.W.codeIn K cd15 "law" = true) (k15 : PySem.W.keepIn K (.ref f15) = true)
    (a16 : PySem.W.findIn K (.ref C) "__init__" = some (some (.ref f16))) (i16 : PySem.W.isFn K (.ref f16) = true) (l16 : K.lookup f16 = some ⟨oc16, od16, .func (PySem.W.fnOf "__init__" "Book.__init__" (defArgs sInit) (defBody sInit) (defScope sInit) .none kV16 dc16 pm16 an16 cd16 ct16), sl16⟩) (c16 : PySem.W.codeIn K cd16 "Book.__init__" = true) (k16 : PySem.W.keepIn K (.ref f16) = true)
    (a17 : PySem.W.findIn K (.ref C) "rows_of" = some (some (.ref f17))) (i17 : PySem.W.isFn K (.ref f17) = true) (l17 : K.lookup f17 = some ⟨oc17, od17, .func (PySem.W.fnOf "rows_of" "Book.rows_of" (defArgs sRowsOf) (defBody sRowsOf) (defScope sRowsOf) .none kV17 dc17 pm17 an17 cd17 ct17), sl17⟩) (c17 : PySem.W.codeIn K cd17 "Book.rows_of" = true) (k17 : PySem.W.keepIn K (.ref f17) = true)
    (a18 : PySem.W.findIn K (.ref C) "rows_for" = some (some (.ref f18))) (i18 : PySem.W.isFn K (.ref f18) = true) (l18 : K.lookup f18 = some ⟨oc18, od18, .func (PySem.W.fnOf "rows_for" "Book.rows_for" (defArgs sRowsFor) (defBody sRowsFor) (defScope sRowsFor) .none kV18 dc18 pm18 an18 cd18 ct18), sl18⟩) (c18 : PySem.W.codeIn K cd18 "Book.rows_for" = true) (k18 : PySem.W.keepIn K (.ref f18) = true)
    (a19 : PySem.W.findIn K (.ref C) "put" = some (some (.ref f19))) (i19 : PySem.W.isFn K (.ref f19) = true) (l19 : K.lookup f19 = some ⟨oc19, od19, .func (PySem.W.fnOf "put" "Book.put" (defArgs sPut) (defBody sPut) (defScope sPut) .none kV19 dc19 pm19 an19 cd19 ct19), sl19⟩) (c19 : PySem.W.codeIn K cd19 "Book.put" = true) (k19 : PySem.W.keepIn K (.ref f19) = true)
    (a20 : PySem.W.findIn K (.ref C) "drop" = some (some (.ref f20))) (i20 : PySem.W.isFn K (.ref f20) = true) (l20 : K.lookup f20 = some ⟨oc20, od20, .func (PySem.W.fnOf "drop" "Book.drop" (defArgs sDrop) (defBody sDrop) (defScope sDrop) .none kV20 dc20 pm20 an20 cd20 ct20), sl20⟩) (c20 : PySem.W.codeIn K cd20 "Book.drop" = true) (k20 : PySem.W.keepIn K (.ref f20) = true)
    (a21 : PySem.W.findIn K (.ref C) "rows" = some (some (.ref f21))) (i21 : PySem.W.isFn K (.ref f21) = true) (l21 : K.lookup f21 = some ⟨oc21, od21, .func (PySem.W.fnOf "rows" "Book.rows" (defArgs sMRows) (defBody sMRows) (defScope sMRows) .none kV21 dc21 pm21 an21 cd21 ct21), sl21⟩) (c21 : PySem.W.codeIn K cd21 "Book.rows" = true) (k21 : PySem.W.keepIn K (.ref f21) = true)
    (a22 : PySem.W.findIn K (.ref C) "tables" = some (some (.ref f22))) (i22 : PySem.W.isFn K (.ref f22) = true) (l22 : K.lookup f22 = some ⟨oc22, od22, .func (PySem.W.fnOf "tables" "Book.tables" (defArgs sTables) (defBody sTables) (defScope sTables) .none kV22 dc22 pm22 an22 cd22 ct22), sl22⟩) (c22 : PySem.W.codeIn K cd22 "Book.tables" = true) (k22 : PySem.W.keepIn K (.ref f22) = true)
    (a23 : PySem.W.findIn K (.ref C) "plain" = some (some (.ref f23))) (i23 : PySem.W.isFn K (.ref f23) = true) (l23 : K.lookup f23 = some ⟨oc23, od23, .func (PySem.W.fnOf "plain" "Book.plain" (defArgs sPlain) (defBody sPlain) (defScope sPlain) .none kV23 dc23 pm23 an23 cd23 ct23), sl23⟩) (c23 : PySem.W.codeIn K cd23 "Book.plain" = true) (k23 : PySem.W.keepIn K (.ref f23) = true)
    (pg : PySem.W.plainGet K C Str.empty = true) (hd : PySem.W.hasDictIn K C = true) (po : PySem.W.plainOver K C = true) (sa : PySem.W.findIn K (.ref C) "__setattr__" = some (some (.builtin "object.__setattr__"))) (mk : PySem.W.makesIn K C = true) (kc : PySem.W.keepIn K (.ref C) = true)
    (nB : PySem.W.findIn K (.ref C) "breadths" = some none) (nH : PySem.W.findIn K (.ref C) "held" = some none) (gl : PySem.W.nsIn K mainGlobals "LETTERS" = some (some (.str ltrS tl))) (gf : PySem.W.nsIn K mainGlobals "FIGURES" = some (some (.str figS tf)))
    (zisinstance : PySem.W.nsIn K mainGlobals "isinstance" = some none) (zint : PySem.W.nsIn K mainGlobals "int" = some none) (zbool : PySem.W.nsIn K mainGlobals "bool" = some none) (zstr : PySem.W.nsIn K mainGlobals "str" = some none) (ztuple : PySem.W.nsIn K mainGlobals "tuple" = some none) (zlist : PySem.W.nsIn K mainGlobals "list" = some none) (zdict : PySem.W.nsIn K mainGlobals "dict" = some none) (zlen : PySem.W.nsIn K mainGlobals "len" = some none) (zabs : PySem.W.nsIn K mainGlobals "abs" = some none) (zset : PySem.W.nsIn K mainGlobals "set" = some none) (zsorted : PySem.W.nsIn K mainGlobals "sorted" = some none) (zrange : PySem.W.nsIn K mainGlobals "range" = some none) :
    ∃ fd : FuncData, (∀ (s : Shared) (v : Value), BindsTo s fd ⟨[v], []⟩ [("_law_script", v)]) ∧ ∀ base : Heap, K.In base → base.Ns mainGlobals mg → FnOk l.prog w K mg base CX0 7 fa fd ["_law_script"] (spLaw K) := by
  have e := hfa.symm.trans (PySem.W.mg_of X G a15)
  cases e
  have T : Txt K mg C := ⟨⟨pg, hd, po, sa⟩, nB, nH, PySem.W.mg_of X G aC, ⟨tl, PySem.W.mg_of X G gl⟩, ⟨tf, PySem.W.mg_of X G gf⟩, PySem.W.mg_none_of X G zisinstance, PySem.W.mg_none_of X G zint, PySem.W.mg_none_of X G zbool, PySem.W.mg_none_of X G zstr, PySem.W.mg_none_of X G ztuple, PySem.W.mg_none_of X G zlist, PySem.W.mg_none_of X G zdict, PySem.W.mg_none_of X G zlen, PySem.W.mg_none_of X G zabs, PySem.W.mg_none_of X G zset, PySem.W.mg_none_of X G zsorted, PySem.W.mg_none_of X G zrange⟩
  have D1 : DefG K mg "is_whole" sWhole ["thing"] := defG_mk l1 c1 k1 (PySem.W.mg_of X G a1) fun _ _ _ _ _ _ us hl => match us, hl with | [_], _ => rfl
  have D2 : DefG K mg "is_value" sValue ["thing"] := defG_mk l2 c2 k2 (PySem.W.mg_of X G a2) fun _ _ _ _ _ _ us hl => match us, hl with | [_], _ => rfl
  have D3 : DefG K mg "is_name" sName ["thing"] := defG_mk l3 c3 k3 (PySem.W.mg_of X G a3) fun _ _ _ _ _ _ us hl => match us, hl with | [_], _ => rfl
  have D4 : DefG K mg "is_row" sRow ["thing"] := defG_mk l4 c4 k4 (PySem.W.mg_of X G a4) fun _ _ _ _ _ _ us hl => match us, hl with | [_], _ => rfl
  have D5 : DefG K mg "is_rows" sRows ["thing"] := defG_mk l5 c5 k5 (PySem.W.mg_of X G a5) fun _ _ _ _ _ _ us hl => match us, hl with | [_], _ => rfl
  have D6 : DefG K mg "is_book" sBook ["thing"] := defG_mk l6 c6 k6 (PySem.W.mg_of X G a6) fun _ _ _ _ _ _ us hl => match us, hl with | [_], _ => rfl
  have D7 : DefG K mg "widths_of" sWidths ["pairs"] := defG_mk l7 c7 k7 (PySem.W.mg_of X G a7) fun _ _ _ _ _ _ us hl => match us, hl with | [_], _ => rfl
  have D8 : DefG K mg "_law_cell" sCell ["_law_script", "_law_k"] := defG_mk l8 c8 k8 (PySem.W.mg_of X G a8) fun _ _ _ _ _ _ us hl => match us, hl with | [_, _], _ => rfl
  have D9 : DefG K mg "_law_mix" sMix ["_law_cell_here", "_law_k"] := defG_mk l9 c9 k9 (PySem.W.mg_of X G a9) fun _ _ _ _ _ _ us hl => match us, hl with | [_, _], _ => rfl
  have D10 : DefG K mg "_law_names" sNames ["_law_cell_here", "_law_count"] := defG_mk l10 c10 k10 (PySem.W.mg_of X G a10) fun _ _ _ _ _ _ us hl => match us, hl with | [_, _], _ => rfl
  have D11 : DefG K mg "_law_row" sLRow ["_law_cell_here", "_law_wide"] := defG_mk l11 c11 k11 (PySem.W.mg_of X G a11) fun _ _ _ _ _ _ us hl => match us, hl with | [_, _], _ => rfl
  have D12 : DefG K mg "_law_copy" sCopy ["_law_plain"] := defG_mk l12 c12 k12 (PySem.W.mg_of X G a12) fun _ _ _ _ _ _ us hl => match us, hl with | [_], _ => rfl
  have D13 : DefG K mg "_law_plain_holds" sHolds ["_law_plain", "_law_model"] := defG_mk l13 c13 k13 (PySem.W.mg_of X G a13) fun _ _ _ _ _ _ us hl => match us, hl with | [_, _], _ => rfl
  have D14 : DefG K mg "_law_deed" sDeed ["_law_book", "_law_rows", "_law_table", "_law_row_here", "_law_way"] := defG_mk l14 c14 k14 (PySem.W.mg_of X G a14) fun _ _ _ _ _ _ us hl => match us, hl with | [_, _, _, _, _], _ => rfl
  have D16 : MetG K C "__init__" "Book.__init__" sInit ["self", "widths"] := metG_mk a16 i16 l16 c16 k16 fun _ _ _ _ _ _ us hl => match us, hl with | [_, _], _ => rfl
  have D17 : MetG K C "rows_of" "Book.rows_of" sRowsOf ["self", "table"] := metG_mk a17 i17 l17 c17 k17 fun _ _ _ _ _ _ us hl => match us, hl with | [_, _], _ => rfl
  have D18 : MetG K C "rows_for" "Book.rows_for" sRowsFor ["self", "table", "row"] := metG_mk a18 i18 l18 c18 k18 fun _ _ _ _ _ _ us hl => match us, hl with | [_, _, _], _ => rfl
  have D19 : MetG K C "put" "Book.put" sPut ["self", "table", "row"] := metG_mk a19 i19 l19 c19 k19 fun _ _ _ _ _ _ us hl => match us, hl with | [_, _, _], _ => rfl
  have D20 : MetG K C "drop" "Book.drop" sDrop ["self", "table", "row"] := metG_mk a20 i20 l20 c20 k20 fun _ _ _ _ _ _ us hl => match us, hl with | [_, _, _], _ => rfl
  have D21 : MetG K C "rows" "Book.rows" sMRows ["self", "table"] := metG_mk a21 i21 l21 c21 k21 fun _ _ _ _ _ _ us hl => match us, hl with | [_, _], _ => rfl
  have D22 : MetG K C "tables" "Book.tables" sTables ["self"] := metG_mk a22 i22 l22 c22 k22 fun _ _ _ _ _ _ us hl => match us, hl with | [_], _ => rfl
  have D23 : MetG K C "plain" "Book.plain" sPlain ["self"] := metG_mk a23 i23 l23 c23 k23 fun _ _ _ _ _ _ us hl => match us, hl with | [_], _ => rfl
  refine ⟨PySem.W.fnOf "law" "law" (defArgs sLaw) (defBody sLaw) (defScope sLaw) .none kV15 dc15 pm15 an15 cd15 ct15, fun s v => .of_eq rfl, fun base _ _ => ?_⟩
  have cW : Cal l.prog w K mg base 1 "is_whole" spWhole := ok_whole T D1
  have cV : Cal l.prog w K mg base 2 "is_value" spValue := ok_value T D2 cW
  have cN : Cal l.prog w K mg base 1 "is_name" spName := ok_name T D3
  have cR : Cal l.prog w K mg base 3 "is_row" (spRow K) := ok_row T D4 cV
  have cS : Cal l.prog w K mg base 4 "is_rows" (spRows K) := ok_rows T D5 cR
  have cB : Cal l.prog w K mg base 5 "is_book" (spBook K) := ok_book T D6 cN cS
  have cD : Cal l.prog w K mg base 2 "widths_of" (spWidths K) := ok_widths T D7 cW cN
  have mI : Met l.prog w K mg base 3 C "__init__" (spInit C) := ok_init T D16 cD
  have mO : Met l.prog w K mg base 2 C "rows_of" (spRowsOf C) := ok_rowsOf T D17 cN
  have mF : Met l.prog w K mg base 4 C "rows_for" (spRowsFor C) := ok_rowsFor T D18 mO cR
  have mP : Met l.prog w K mg base 5 C "put" (spPut C) := ok_put T D19 mF
  have mD : Met l.prog w K mg base 5 C "drop" (spDrop C) := ok_drop T D20 mF
  have mR : Met l.prog w K mg base 3 C "rows" (spMRows C) := ok_mrows T D21 mO
  have mT : Met l.prog w K mg base 1 C "tables" (spTables C) := ok_tables T D22
  have mL : Met l.prog w K mg base 4 C "plain" (spPlain C) := ok_plain T D23 mT mR
  have eC : Cal l.prog w K mg base 1 "_law_cell" (spCell K) := ok_cell T D8
  have eM : Cal l.prog w K mg base 1 "_law_mix" spMix := ok_mix D9
  have eN : Cal l.prog w K mg base 2 "_law_names" spNames := ok_names T D10 eM
  have eR : Cal l.prog w K mg base 2 "_law_row" spLRow := ok_lrow T D11 eM
  have eY : Cal l.prog w K mg base 1 "_law_copy" spCopy := ok_copy T D12
  have eH : Cal l.prog w K mg base 6 "_law_plain_holds" (spHolds K) := ok_holds T D13 cB
  have eD : Cal l.prog w K mg base 6 "_law_deed" (spDeed C) := ok_deed T D14 mP mD
  exact ok_law T (fun_mk (st := sLaw) l15 c15 k15) eC eM eN eR eY eH eD (mak_of mI mk kc) mL
theorem walk {l : PySem.W.OpenLaw} {q : Program} {loose : List Str} {XP : (Str → Option Value) → Heap → Prop} {YP : World → Heap → Prop} {d : DefRec} {K : Params → PySem.W.Frag} (hn : l.most = some 63) (hdf : d.params.defaults = [])
    (hY : ∀ (w : World) (h : Heap), YP w h → (K w.params).In h)
    (F : ∀ (w : World) (mg : Str → Option Value) (fa : Addr) (h : Heap), (K w.params).In h → h.Ns mainGlobals mg → mg d.name = some (.ref fa) →
      ∃ fd : FuncData, (∀ (s : Shared) (u : Value), BindsTo s fd ⟨[u], []⟩ [("_law_script", u)]) ∧ ∀ base : Heap, (K w.params).In base → base.Ns mainGlobals mg → FnOk l.prog w (K w.params) mg base CX0 7 fa fd ["_law_script"] (spLaw (K w.params))) :
    PySem.W.WalkO q loose XP YP l.row.toRowW d [] (fun f vs => PySem.call f vs) :=
  L2.walk_of (n := 63) (k := 7) (x := "_law_script") (CX := fun _ => CX0) (sp := fun w => spLaw (K w.params)) hn (by decide) hdf ⟨rfl, by decide, by decide⟩ hY F (fun _ _ a ns hl _ hS => ⟨a, ns, rfl, hS, hl, fun _ => rfl⟩) fun _ _ _ _ _ z => z
end Aw
open PySem PySem.W PyProof.Rows
set_option maxRecDepth 100000 in
set_option maxHeartbeats 0 in
theorem PySem.Challenge.cw_askwithin_k12_whole_books_apart_holds : PySem.Challenge.rw_askwithin_k12_whole_books_apart.Holds := by
  w_on; o_law; k_head; (case hw => w_witness2)
  k_fill
  refine Aw.walk (l := PySem.Challenge.rw_askwithin_k12_whole_books_apart) rfl rfl (fun w h Y => PySem.W.kIn_of Y) ?F
  case F =>
    intro w mg fa h KX G hmg
    refine' Aw.all_mk KX G hmg ?aC ?a1 ?l1 ?c1 ?k1 ?a2 ?l2 ?c2 ?k2 ?a3 ?l3 ?c3 ?k3 ?a4 ?l4 ?c4 ?k4 ?a5 ?l5 ?c5 ?k5 ?a6 ?l6 ?c6 ?k6 ?a7 ?l7 ?c7 ?k7 ?a8 ?l8 ?c8 ?k8 ?a9 ?l9 ?c9 ?k9 ?a10 ?l10 ?c10 ?k10 ?a11 ?l11 ?c11 ?k11 ?a12 ?l12 ?c12 ?k12 ?a13 ?l13 ?c13 ?k13 ?a14 ?l14 ?c14 ?k14 ?a15 ?l15 ?c15 ?k15 ?a16 ?i16 ?l16 ?c16 ?k16 ?a17 ?i17 ?l17 ?c17 ?k17 ?a18 ?i18 ?l18 ?c18 ?k18 ?a19 ?i19 ?l19 ?c19 ?k19 ?a20 ?i20 ?l20 ?c20 ?k20 ?a21 ?i21 ?l21 ?c21 ?k21 ?a22 ?i22 ?l22 ?c22 ?k22 ?a23 ?i23 ?l23 ?c23 ?k23 ?pg ?hd ?po ?sa ?mk ?kc ?nB ?nH ?gl ?gf ?zisinstance ?zint ?zbool ?zstr ?ztuple ?zlist ?zdict ?zlen ?zabs ?zset ?zsorted ?zrange
    (case aC => k_is)
    (case a1 => k_is)
    (case l1 => k_is)
    (case c1 => k_is)
    (case k1 => k_is)
    (case a2 => k_is)
    (case l2 => k_is)
    (case c2 => k_is)
    (case k2 => k_is)
    (case a3 => k_is)
    (case l3 => k_is)
    (case c3 => k_is)
    (case k3 => k_is)
    (case a4 => k_is)
    (case l4 => k_is)
    (case c4 => k_is)
    (case k4 => k_is)
    (case a5 => k_is)
    (case l5 => k_is)
    (case c5 => k_is)
    (case k5 => k_is)
    (case a6 => k_is)
    (case l6 => k_is)
    (case c6 => k_is)
    (case k6 => k_is)
    (case a7 => k_is)
    (case l7 => k_is)
    (case c7 => k_is)
    (case k7 => k_is)
    (case a8 => k_is)
    (case l8 => k_is)
    (case c8 => k_is)
    (case k8 => k_is)
    (case a9 => k_is)
    (case l9 => k_is)
    (case c9 => k_is)
    (case k9 => k_is)
    (case a10 => k_is)
    (case l10 => k_is)
    (case c10 => k_is)
    (case k10 => k_is)
    (case a11 => k_is)
    (case l11 => k_is)
    (case c11 => k_is)
    (case k11 => k_is)
    (case a12 => k_is)
    (case l12 => k_is)
    (case c12 => k_is)
    (case k12 => k_is)
    (case a13 => k_is)
    (case l13 => k_is)
    (case c13 => k_is)
    (case k13 => k_is)
    (case a14 => k_is)
    (case l14 => k_is)
    (case c14 => k_is)
    (case k14 => k_is)
    (case a15 => k_is)
    (case l15 => k_is)
    (case c15 => k_is)
    (case k15 => k_is)
    (case a16 => k_is)
    (case i16 => k_is)
    (case l16 => k_is)
    (case c16 => k_is)
    (case k16 => k_is)
    (case a17 => k_is)
    (case i17 => k_is)
    (case l17 => k_is)
    (case c17 => k_is)
    (case k17 => k_is)
    (case a18 => k_is)
    (case i18 => k_is)
    (case l18 => k_is)
    (case c18 => k_is)
    (case k18 => k_is)
    (case a19 => k_is)
    (case i19 => k_is)
    (case l19 => k_is)
    (case c19 => k_is)
    (case k19 => k_is)
    (case a20 => k_is)
    (case i20 => k_is)
    (case l20 => k_is)
    (case c20 => k_is)
    (case k20 => k_is)
    (case a21 => k_is)
    (case i21 => k_is)
    (case l21 => k_is)
    (case c21 => k_is)
    (case k21 => k_is)
    (case a22 => k_is)
    (case i22 => k_is)
    (case l22 => k_is)
    (case c22 => k_is)
    (case k22 => k_is)
    (case a23 => k_is)
    (case i23 => k_is)
    (case l23 => k_is)
    (case c23 => k_is)
    (case k23 => k_is)
    (case pg => k_is)
    (case hd => k_is)
    (case po => k_is)
    (case sa => k_is)
    (case mk => k_is)
    (case kc => k_is)
    (case nB => k_is)
    (case nH => k_is)
    (case gl => k_is)
    (case gf => k_is)
    (case zisinstance => k_is)
    (case zint => k_is)
    (case zbool => k_is)
    (case zstr => k_is)
    (case ztuple => k_is)
    (case zlist => k_is)
    (case zdict => k_is)
    (case zlen => k_is)
    (case zabs => k_is)
    (case zset => k_is)
    (case zsorted => k_is)
    (case zrange => k_is)


import PyProof.Rows.All
import Wide.All
import OpenK.AllK
import Wide.FinOn
import HandS.ForMost
import HandS.ListItems
import HandS.SortInts
import HandS.TupAny
import HandS.Wide
import HandS.DeepEq
import HandS.DictComp
import KE.KDictPairs
import KE.KDictWalk
import KE.KDictCopyH
import KE.KDictItemsList
import HandS.LawCells
import PySem.Challenge.RW_dialroad_k15_whole_effects_act
set_option Elab.async false
set_option linter.all false
set_option maxRecDepth 100000
set_option maxHeartbeats 4000000
/-! Further rules over the hand layer, for this claim: each is put together out of the library's theorems. -/
namespace Dr
open PySem PySem.Spec PyProof.Rows L2

/-! ### what a for walks: either of two kinds of thing -/
theorem pi_or {X : Cx} {tg l : Expr} {w1 w2 : TI} (h1 : PI X tg l w1) (h2 : PI X tg l w2) : PI X tg l (fun σ H R => w1 σ H R ∨ w2 σ H R) :=
  ⟨fun pins s σ H R I h => h.elim (h1.run pins s σ H R I) (h2.run pins s σ H R I)⟩

/-! ### over the raw heap -/
section
variable {prog : Program} {w : World} {A : Around} {E Q : Value → Shared → Prop} {s : Shared} {d r : Addr} {es : Array DictEntry} {ep : Nat}
/-- sorted(d) of a plain dict whose keys are the ints ks, any number of them -/
theorem sorted_raw {ks : List Int} (lo : (d == sysModules) = false) (hh : A.handled = none) (hm : s.heap.DictRaw d es ep) (hz : es.size ≤ sizeLine) (hl : ks.length = es.size) (hk : ∀ (i : Nat) (hi : i < es.size), ∃ k t, ks[i]? = some k ∧ es[i].key = .int k t)
    (h : ∀ (g0 g : Heap) (tk : Nat) (vs : List Value) (ys : List Int) (c : Nat), (∀ b o, s.heap.get? b = some o → g0.get? b = some o) → (∀ b o, g0.get? b = some o → g.get? b = some o) → g.get? g0.objs.size = some (seqObj "list" vs.toArray c) →
      IntsAre vs ys → ys.Perm ks → ys.Pairwise (· ≤ ·) → Q (.ref g0.objs.size) { s with heap := g, toks := tk }) : wpAny (model prog w) A (call (.builtin "sorted") [.ref d]) Q E s := by
  refine Calls.call_function_entry kind_sorted plain_sorted entry_sorted (args_sorted1 (.ref d)) ?_
  unfold Builtin.«sorted»
  refine wpAny_bind (m := checkCount "sorted" 1 1 _) (wpAny_pure (wpAny_bind (PySem.W.kdu_collect (KdlSrc.rawDict lo) hh hm hz fun g0 tk acc keep got => ?_)))
  obtain ⟨gs, gi⟩ := got
  have hI : IntsAre acc.toList ks := by
    refine ints_each (by rw [Array.length_toList, gs, hl]) fun j v e => ?_
    obtain ⟨hi, rfl⟩ := gi j v (by simpa using e)
    exact hk j hi
  have size : acc.toList.length ≤ sizeLine := by rwa [Array.length_toList, gs]
  refine wpAny_bind (wpAny_newList (wpAny_bind (wpAny_holding ?_)) size)
  have at0 : (g0.push (seqObj "list" acc.toList.toArray 0)).get? g0.objs.size = some (seqObj "list" acc.toList.toArray 0) := Heap.get?_push_size g0 rfl
  have sort := SrtO.list_sort_ord (prog := prog) (w := w) (A := A.in1.in1) (E := E) (s := { s with heap := g0.push (seqObj "list" acc.toList.toArray 0), toks := tk }) (R := fun fin s' => ∃ v, fin = .done (.ret v) ∧ Q (.ref g0.objs.size) s') SrtO.swo_int at0 size (SrtO.ints_sortable hI) fun out o1 o2 => by
    obtain ⟨i1, i2, i3⟩ := SrtO.ints_out hI o1 o2
    obtain ⟨c, hc⟩ := sortedHeap_at (vs := acc.toList) (out := out.toArray) at0
    refine ⟨.none, rfl, h g0 _ tk out _ c keep (fun b o e => ?_) hc i1 i2 i3⟩
    have lt := Heap.lt_size e
    rw [sortedHeap_old (Nat.ne_of_lt lt) (by rw [size_push']; exact Nat.lt_succ_of_lt lt)]
    exact Heap.get?_push_of_some (seqObj "list" acc.toList.toArray 0) e
  exact wpAny_call_entry slot_list_sort ⟨_, at0, rfl⟩ entry_list_sort (wpAny_mono sort (fun fin s' ⟨v, e, q⟩ => ⟨v, e, wpAny_pure ⟨_, rfl, q⟩⟩) fun _ _ e => e) (args_list_sort _)
/-- tuple.__new__ of a dict's items -/
theorem items_new (r d : Addr) (es : Array DictEntry) (ep : Nat) :
    Meets (Builtin.«tuple.__new__» ⟨[.type "tuple", .ref r], []⟩) (fun A R s => A.handled = none ∧ s.heap.IsItemsView r d ∧ s.heap.DictRaw d es ep ∧ es.size ≤ sizeLine ∧
      ∀ (h' : Heap) (tk : Nat) (as : List Addr), (∀ b o, s.heap.get? b = some o → h'.get? b = some o) → as.length = es.size → PySem.W.DilG es s.heap.objs.size h' as →
        R (.ok (.ret (.ref h'.objs.size))) { s with heap := h'.push { cls := .type "tuple", data := .seq (as.map Value.ref).toArray }, toks := tk }) :=
  .of_wp fun prog w A R s ⟨hh, hv, hm, hn, k⟩ => by
    have t : s.TypeIs (.ref r) "dict_items" := let ⟨o, ho, hc, _⟩ := hv; ⟨o, ho, hc⟩
    have a1 := sub_tuple_self
    have a2 := init_tuple_lookup
    have a3 := madeHere_tuple
    wp_walk using wpAny_typeOf t, PySem.W.dil_collect (A := A.in1) hh hv hm hn
    intro h' tk as keep len G
    refine wpAny_bind (wpAny_pure (wpAny_bind (wpAny_newObj_type ?_ ?_)))
    · exact wpAny_pure ⟨_, rfl, k h' tk as keep len G⟩
    · show (as.map Value.ref).toArray.size ≤ sizeLine
      simpa [len] using hn
/-- tuple(d.items()) -/
theorem tuple_items (hh : A.handled = none) (hv : s.heap.IsItemsView r d) (hm : s.heap.DictRaw d es ep) (hn : es.size ≤ sizeLine)
    (k : ∀ (h' : Heap) (tk : Nat) (as : List Addr), (∀ b o, s.heap.get? b = some o → h'.get? b = some o) → as.length = es.size → PySem.W.DilG es s.heap.objs.size h' as →
      Q (.ref h'.objs.size) { s with heap := h'.push { cls := .type "tuple", data := .seq (as.map Value.ref).toArray }, toks := tk }) : wpAny (model prog w) A (call (.type "tuple") [.ref r]) Q E s :=
  callType_new F.called_tuple (by decide) (F.typeCall_tuple_1 _) (F.newCall_tuple_1 _) (fun obj => F.args_object_init_2 obj _) F.entry_tuple_new (items_new r d es ep)
    ⟨hh, hv, hm, hn, fun h' tk as k1 k2 k3 => ⟨⟨_, Heap.get?_push_size h' rfl, rfl⟩, k h' tk as k1 k2 k3⟩⟩
/-- tuple.__ne__ of two pairs that are equal item by item -/
theorem ne_two {l b : Addr} {f1 f2 : Option Addr} {m1 m2 : Array (Option Value)} {n1 n2 : Nat} {x1 x2 y1 y2 : Value} :
    MeetsIn prog w (Builtin.«tuple.__ne__» ⟨[.ref l, .ref b], []⟩) (fun A R s => s.heap.get? l = some ⟨.type "tuple", f1, .seq #[x1, x2] n1, m1⟩ ∧ s.heap.get? b = some ⟨.type "tuple", f2, .seq #[y1, y2] n2, m2⟩ ∧
      SeqAt.EqP prog w A.in1 s x1 y1 true ∧ SeqAt.EqP prog w A.in1 s x2 y2 true ∧ R (.ok (.ret (.bool false))) s) :=
  .of_wp fun A R s h => by
    have hsub := AutoSeq1.sub_tuple_tuple
    rcases s with ⟨hp, g, d, tk, os⟩
    obtain ⟨h1, h2, q1, q2, r⟩ := h
    have k1 : ∀ (E : Value → Shared → Prop) (Q : Bool → Shared → Prop), Q true ⟨hp, g, d, tk, os⟩ → wpAny (model prog w) A.in1 (eqBool x1 y1) Q E ⟨hp, g, d, tk, os⟩ := q1
    have k2 : ∀ (E : Value → Shared → Prop) (Q : Bool → Shared → Prop), Q true ⟨hp, g, d, tk, os⟩ → wpAny (model prog w) A.in1 (eqBool x2 y2) Q E ⟨hp, g, d, tk, os⟩ := q2
    wp_walk using AutoSeq1.wpAny_loadPart' h1, AutoSeq1.wpAny_loadPart' h2, k1 _ _, k2 _ _
    exact ⟨.bool false, by simp [Builtin.Tuple.tupleCompareSizes], r⟩
theorem pair_ne {l b : Addr} {x1 x2 y1 y2 : Value} (hl : IsTup s.heap l #[x1, x2]) (hb : IsTup s.heap b #[y1, y2]) (hu : A.units < cLine) (q1 : SeqAt.EqP prog w A.in1 s x1 y1 true) (q2 : SeqAt.EqP prog w A.in1 s x2 y2 true) (q : Q (.bool false) s) :
    wpAny (model prog w) A (compareOp .NotEq (.ref l) (.ref b)) Q E s := by
  rcases hl with ⟨⟨_, f1, _, m1⟩, a1, rfl, n1, rfl⟩
  rcases hb with ⟨⟨_, f2, _, m2⟩, a2, rfl, n2, rfl⟩
  exact wpAny_richCompare_same_room (op := .NotEq) ⟨_, a1, rfl⟩ ⟨_, a2, rfl⟩ F.slot_tuple_ne (call_meetsIn F.slot_tuple_ne ⟨_, a1, rfl⟩ F.entry_tuple_ne (F.args_tuple_ne_2 _ _) ne_two ⟨a1, a2, q1, q2, by simp, q⟩) hu
end

/-! ### over the layer -/
section
variable {X : Cx}
/-- sorted(d), keys ints, any number of them -/
def rSortedDA : List V → Hp → VK → Prop := fun xs H Q => ∃ (a : Addr) (kvs : List (Key × V)) (ks : List Int), xs = [.ref a] ∧ Rd H a (.dK kvs) ∧ kvs.map (·.1) = ks.map Sum.inl ∧
    ∀ (ys : List Int) (p : Addr), ys.Perm ks → ys.Pairwise (· ≤ ·) → H p = none → Q (.ref p) (upd H p (.lst (ys.map V.int)))
theorem key_int {k : Int} {v : Value} (h : keyIs (Sum.inl k) v = true) : ∃ t, v = .int k t := Value.isInt_shape (k := k) (v := v) h
theorem call_sortedDA (hcalm : X.calm = true) : CallR X (.builtin "sorted") rSortedDA := by
  rintro pins s σ H _ us Q I r ⟨a, kvs, ks, rfl, hd, keys, q⟩
  rw [Vals.ref1 r]
  obtain ⟨z, lo, vs, rel, dd⟩ := rd_of I.hok hd
  obtain ⟨es, ep, raw, n, each⟩ := dd.raw
  have nk : kvs.length = ks.length := by simpa using congrArg List.length keys
  have nv : kvs.length = vs.length := rel.length
  refine sorted_raw (ks := ks) lo (I.ok.hd hcalm) raw (by omega) (by omega) (fun i hi => ?_) fun g0 g tk us ys c k0 k1 at1 hI perm asc => ?_
  · have hv : i < vs.length := by omega
    have key : ks[i]?.map Sum.inl = some vs[i].1 := by
      rw [← List.getElem?_map, ← keys, rel.keys, List.getElem?_map, List.getElem?_eq_getElem hv]
      rfl
    obtain ⟨k, e1, e2⟩ := Option.map_eq_some_iff.mp key
    have is := (each i hi vs[i].1 vs[i].2 (List.getElem?_eq_getElem hv)).1
    rw [← e2] at is
    obtain ⟨t, e3⟩ := key_int is
    exact ⟨k, t, e1, e3⟩
  · have J : Inv X pins σ H { s with heap := g0, toks := tk } := I.kept k0
    refine ⟨.ref g0.objs.size, _, J.laid (t' := tk) k1 (Nat.le_refl _) (show ObjOk X.prog X.w _ g g0.objs.size (.lst (ys.map V.int)) from ⟨?_, us, c, vals_of_ints hI, at1⟩), rfl, q ys _ perm asc (J.hok.fresh (Nat.le_refl _))⟩
    rw [List.length_map, perm.length_eq, ← nk]
    exact z

/-- tuple(xs) of a list: the new tuple has no dict of its own -/
def rTupF (K : PySem.W.Frag) : List V → Hp → VK → Prop := fun xs H Q => ∃ p ys, xs = [.ref p] ∧ SqL K H p ys ∧ ∀ (l : Addr) (o : Obj), H l = none → o.dict = none → Q (.ref l) (upd H l (.frz o (.tup ys)))
theorem call_tupF : CallR X (.type "tuple") (rTupF X.K) := by
  rintro pins s σ H _ us Q I r ⟨p, ys, rfl, hp, q⟩
  rw [Vals.ref1 r]
  obtain ⟨its, rel, pl, z⟩ := I.list hp
  refine call_tuple_list pl.isList (fun g keep => ?_) (by rw [List.size_toArray, ← rel.length]; exact z)
  have J : Inv X pins σ H { s with heap := g, toks := s.toks } := I.kept keep
  exact ⟨.ref g.objs.size, _, J.laid (o := .frz ⟨.type "tuple", none, .seq its.toArray 0, #[]⟩ (.tup ys)) (fun _ _ => Heap.get?_push_of_some _) (Nat.le_refl _) ⟨Heap.get?_push_size g rfl, z, its, rel, IsTup.new _ _⟩, rfl,
    q _ _ (J.hok.fresh (Nat.le_refl _)) rfl⟩

/-- dict(t) of a tuple of pairs that has no dict of its own -/
def rDictT (K : PySem.W.Frag) : List V → Hp → VK → Prop := fun xs H Q => ∃ (a : Addr) (o : Obj) (ps : List Addr) (kvs : List (Key × V)), xs = [.ref a] ∧ H a = some (.frz o (.tup (ps.map V.ref))) ∧ o.dict = none ∧ Paired (fun p kv => SqT K H p [kV kv.1, kv.2]) ps kvs ∧
    ∀ p, H p = none → Q (.ref p) (upd H p (.dK (mergeK [] kvs)))
theorem call_dictT (hcalm : X.calm = true) : CallR X (.type "dict") (rDictT X.K) := by
  rintro pins s σ H _ us Q I r ⟨a, o, ps, kvs, rfl, ha, hdn, hp, q⟩
  rw [Vals.ref1 r]
  obtain ⟨ho, hz, its, rv, o2, ho2, hc, n, hdat⟩ := I.hok a _ ha
  cases ho.symm.trans ho2
  cases refs_at rv
  rw [List.length_map] at hz
  obtain ⟨prs, rel, hl, hpr⟩ := pairs_of I hp
  -- the keys as they stand in the pairs
  have hus : ∀ j : Nat, ∃ u : Value, ∀ (q : Key × Value), prs[j]? = some q → ∃ b, ps[j]? = some b ∧ IsTup s.heap b #[u, q.2] ∧ keyIs q.1 u = true := fun j => by
    cases e : prs[j]? with
    | none => exact ⟨.none, fun q e' => by cases e'⟩
    | some q =>
      obtain ⟨b, u, e1, e2, e3⟩ := hpr j q e
      exact ⟨u, fun q' e' => by cases e'; exact ⟨b, e1, e2, e3⟩⟩
  let us : Nat → Value := fun j => Classical.choose (hus j)
  have hu : ∀ (j : Nat) (q : Key × Value), prs[j]? = some q → ∃ b, ps[j]? = some b ∧ IsTup s.heap b #[us j, q.2] ∧ keyIs q.1 (us j) = true := fun j => Classical.choose_spec (hus j)
  let vv : List (Value × Value) := (List.range prs.length).map fun j => (us j, (prs.getD j (Sum.inl 0, .none)).2)
  have hvl : vv.length = prs.length := by show ((List.range prs.length).map _).length = _; rw [List.length_map, List.length_range]
  have hvj : ∀ (j : Nat) (q : Key × Value), prs[j]? = some q → vv[j]? = some (us j, q.2) := fun j q e => by
    have hj : j < prs.length := (List.getElem?_eq_some_iff.mp e).1
    show ((List.range prs.length).map _)[j]? = _
    rw [List.getElem?_map, List.getElem?_range hj, Option.map_some, List.getD_eq_getElem?_getD, e]
    rfl
  have back : ∀ (j : Nat) (k v : Value), vv[j]? = some (k, v) → ∃ q, prs[j]? = some q ∧ k = us j ∧ v = q.2 := fun j k v e => by
    have hj : j < prs.length := by rw [← hvl]; exact (List.getElem?_eq_some_iff.mp e).1
    rw [hvj j _ (List.getElem?_eq_getElem hj)] at e
    cases e
    exact ⟨_, List.getElem?_eq_getElem hj, rfl, rfl⟩
  have hok : PlainSeq "tuple" s.heap a ((ps.map Value.ref).toArray) ∧ PairItems s.heap ((ps.map Value.ref).toArray) (fun j => ps.getD j 0) vv := by
    refine ⟨⟨o, n, ho, hc, hdn, hdat⟩, by rw [List.size_toArray, List.length_map, hvl, hl], fun j k v e => ?_⟩
    obtain ⟨q', eq', rfl, rfl⟩ := back j k v e
    obtain ⟨b, e1, e2, e3⟩ := hu j q' eq'
    have eb : ps.getD j 0 = b := by rw [List.getD_eq_getElem?_getD, e1]; rfl
    refine ⟨by show (ps.map Value.ref).toArray[j]? = some (Value.ref (ps.getD j 0)); rw [eb]; simp [e1], ?_⟩
    show PairAt s.heap (ps.getD j 0) _ _
    rw [eb]
    exact .inl e2
  refine PySem.call_dict_pairs (knd := mixKind X.prog X.w) (kvs := prs) (PairArg.tuple a _ (fun j => ps.getD j 0) vv) (I.ok.hd hcalm) hok ⟨hvl.symm, fun i k v e => ?_⟩ (by rw [hvl, hl]; exact hz) fun h' tk made keep => ?_
  · obtain ⟨q', eq', rfl, rfl⟩ := back i k v e
    exact ⟨q'.1, eq', (hu i q' eq').choose_spec.2.2⟩
  · have small : (mergeK [] kvs).length ≤ sizeLine := Nat.le_trans (length_mergeK kvs []) (by simpa [rel.length, hl] using hz)
    exact ⟨.ref s.heap.objs.size, _, I.laid (t' := tk) (fun b o => keep b o (by simp)) (Nat.le_refl _) (dk_new small (beq_eq_false_iff_ne.mpr (Nat.ne_of_gt I.big)) (KV.merge rel .nil) made), rfl, q _ (I.hok.fresh (Nat.le_refl _))⟩
end

/-! ### the pairs of a walk's end, tracked -/
/-- the pair at each of the addresses -/
def pairMap : List Addr → List (Key × V) → Hp → Hp
  | a :: as, p :: kvs, H => fun b => if b = a then some (.tup [kV p.1, p.2]) else pairMap as kvs H b
  | _, _, H => H
theorem pairMap_off : ∀ {as : List Addr} {kvs : List (Key × V)} {H : Hp} {b : Addr}, b ∉ as → pairMap as kvs H b = H b
  | [], _, _, _, _ => rfl
  | _ :: _, [], _, _, _ => rfl
  | a :: as, p :: kvs, H, b, h => by
    show (if b = a then _ else pairMap as kvs H b) = H b
    rw [if_neg (show ¬ b = a from fun z => h (by rw [z]; exact List.mem_cons_self)), pairMap_off fun z => h (List.mem_cons_of_mem _ z)]
theorem pairMap_at : ∀ {as : List Addr} {kvs : List (Key × V)} {H : Hp}, as.Nodup → ∀ {j : Nat} {a : Addr} {p : Key × V}, as[j]? = some a → kvs[j]? = some p → pairMap as kvs H a = some (.tup [kV p.1, p.2])
  | [], _, _, _, j, _, _, e, _ => by simp at e
  | _ :: _, [], _, _, j, _, _, _, e => by simp at e
  | a :: as, p :: kvs, H, nd, 0, b, q, e1, e2 => by
    cases Option.some.inj e1
    cases Option.some.inj e2
    exact if_pos rfl
  | a :: as, p :: kvs, H, nd, j + 1, b, q, e1, e2 => by
    obtain ⟨n1, n2⟩ := List.nodup_cons.mp nd
    have m : b ∈ as := List.mem_of_getElem? (show as[j]? = some b from e1)
    show (if b = a then _ else pairMap as kvs H b) = _
    rw [if_neg (show ¬ b = a from fun z => n1 (by rw [← z]; exact m))]
    exact pairMap_at n2 e1 e2
theorem pairs_paired {F : Addr → (Key × V) → Prop} : ∀ {as : List Addr} {kvs : List (Key × V)}, as.length = kvs.length → (∀ (j : Nat) a p, as[j]? = some a → kvs[j]? = some p → F a p) → Paired F as kvs
  | [], [], _, _ => .nil
  | [], _ :: _, h, _ => by cases h
  | _ :: _, [], h, _ => by cases h
  | a :: as, p :: kvs, h, f => .cons (f 0 a p rfl rfl) (pairs_paired (Nat.succ.inj h) fun j => f (j + 1))
section
variable {X : Cx} {e : Expr} {te : TE} {p apos cpos pos : Pos}
theorem pairs_laid {pins : List (Addr × Obj)} {σ : L2.St} {H : Hp} {s : Shared} {g : Heap} {tk : Nat} {kvs : List (Key × V)} {as : List Addr} (I : Inv X pins σ H s) (keep : ∀ b o, s.heap.get? b = some o → g.get? b = some o) (nd : as.Nodup) (hl : as.length = kvs.length)
    (new : ∀ t ∈ as, s.heap.objs.size ≤ t) (each : ∀ (j : Nat) a p, as[j]? = some a → kvs[j]? = some p → ∃ u v, RelV (kV p.1) u ∧ RelV p.2 v ∧ IsTup g a #[u, v]) :
    (∀ b o, H b = some o → pairMap as kvs H b = some o) ∧ Inv X pins σ (pairMap as kvs H) { s with heap := g, toks := tk } := by
  have fresh : ∀ t ∈ as, H t = none := fun t m => I.hok.fresh (new t m)
  have grow : ∀ b o, H b = some o → pairMap as kvs H b = some o := fun b o h => by
    rw [pairMap_off fun m => by rw [fresh b m] at h; cases h]
    exact h
  have old : ∀ b o, s.heap.get? b = some o → b ∉ as := fun b o h m => Nat.lt_irrefl _ (Nat.lt_of_lt_of_le (Heap.lt_size h) (new b m))
  refine ⟨grow, I.un (t' := tk) ⟨fun b o h _ _ _ => keep b o h, fun b o h _ _ _ => ⟨_, keep b o h⟩, fun b o h n _ => by rw [pairMap_off (old b o h)]; exact n, fun b o h _ => ⟨o, keep b o h⟩, fun b _ => grow b _, fun b _ _ => grow b _, fun b ps h => ⟨#[], by rw [grow b _ h, Array.append_empty]⟩⟩ fun b o h => ?_⟩
  by_cases m : b ∈ as
  · obtain ⟨j, hj⟩ := List.mem_iff_getElem?.mp m
    have jl : j < kvs.length := by rw [← hl]; exact (List.getElem?_eq_some_iff.mp hj).1
    have hk := List.getElem?_eq_getElem jl
    cases (pairMap_at nd hj hk).symm.trans h
    obtain ⟨u, v, ru, rv, tup⟩ := each j b _ hj hk
    exact ⟨(by decide : 2 ≤ sizeLine), [u, v], .cons ru (.cons rv .nil), tup⟩
  · rw [pairMap_off m] at h
    exact (I.hok b o h).stay (fun c x _ => keep c x) (fun c => grow c _) fun c _ => grow c _
/-- tuple(e.items()) -/
def rItemsT : V → Hp → VK → Prop := fun x H Q => ∃ (d : Addr) (kvs : List (Key × V)), x = .ref d ∧ H d = some (.dK kvs) ∧
  ∀ (H' : Hp) (p : Addr) (ts : List Addr), (∀ b o, H b = some o → H' b = some o) → H' p = some (.tup (ts.map V.ref)) → Paired (fun (t : Addr) (q : Key × V) => H' t = some (.tup [kV q.1, q.2])) ts kvs → Q (.ref p) H'
def tTupItems (te : TE) : TE := fun σ H Q => te σ H fun x H1 => rItemsT x H1 Q
theorem pe_tupItems (hc : X.calm = true) (he : PE X e te) (hg : Gl X "tuple") (hm : X.mg "tuple" = none) (hbase : attributeBase e "items" X.env (eval e X.env) = eval e X.env := by rfl) (hline : (apos.endLine == cpos.line) = true := by rfl)
    (hs : starEach [.Call (.Attribute e "items" apos) [] [] cpos] X.env = (false, eval (.Call (.Attribute e "items" apos) [] [] cpos) X.env) :: starEach [] X.env := by rfl) : PE X (.Call (.Name "tuple" p) [.Call (.Attribute e "items" apos) [] [] cpos] [] pos) (tTupItems te) := by
  constructor
  intro pins s σ H Q I hq
  refine wpAny_Call_Name_kw (ld_blt I hg hm boot_tuple (callWith_type1 (args_cons ?_ hs) hs rfl))
  refine wpAny_Call_method (T := "dict") (id := "dict.items") hbase rfl hline F.plainAttrs_dict F.slot_dict_items F.type_dict_items (thn (he.run pins s σ H _ I hq) ?_)
  rintro u s1 ⟨_, H1, J, rx, d, kvs, rfl, hd, q⟩
  cases (show u = Value.ref d from rx)
  obtain ⟨z, lo, vs, rel, dd⟩ := J.hok d _ hd
  obtain ⟨es, ep, raw, n, each⟩ := dd.raw
  have nv : kvs.length = vs.length := rel.length
  refine ⟨dd.typeIs, dd.mapOf.noDict, method_meetsIn F.slot_dict_items F.entry_dict_items rfl (PySem.evalArgs_none ⟨rfl, dd.typeIs, F.args_dict_items_1 _, _, meets_dict_items (mixKind X.prog X.w) d lo, ⟨vs, dd⟩, args_nil ?_⟩)⟩
  have J2 : Inv X pins σ H1 { s1 with heap := s1.heap.push { cls := .type "dict_items", data := .fields #[.ref d] }, toks := s1.toks } := J.kept fun _ _ => Heap.get?_push_of_some _
  refine tuple_items (J.ok.hd hc) ⟨_, Heap.get?_push_size s1.heap rfl, rfl, rfl⟩ (raw.at fun _ => Heap.get?_push_of_some _) (by omega) fun g tk as keep len G => ?_
  have nd : as.Nodup := G.rise.imp fun {a b} (h : a < b) => Nat.ne_of_lt h
  obtain ⟨grow, J3⟩ := pairs_laid (tk := tk) (kvs := kvs) J2 keep nd (by omega) (fun t m => Nat.le_of_lt (G.above t m)) fun j a p ea ep => by
    obtain ⟨hj, tup⟩ := G.pairs j a ea
    obtain ⟨y, ey, e1, e2⟩ := LiI.paired_get rel ep
    have key := each j hj y.1 y.2 ey
    refine ⟨es[j].key, es[j].val, ?_, ?_, ⟨_, tup, rfl, 0, rfl⟩⟩
    · rw [e1]
      exact relV_key key.1
    · rw [key.2]
      exact e2
  have free : pairMap as kvs H1 g.objs.size = none := J3.hok.fresh (Nat.le_refl _)
  have J4 := J3.laid (o := .tup (as.map V.ref)) (h' := g.push { cls := .type "tuple", data := .seq (as.map Value.ref).toArray }) (t' := tk) (fun _ _ => Heap.get?_push_of_some _) (Nat.le_refl _)
    ⟨by rw [List.length_map]; omega, as.map Value.ref, LiI.vals_refs as, IsTup.new _ _⟩
  exact ⟨.ref g.objs.size, _, J4, rfl, q _ _ as (fun b o h => by rw [upd_ne (ne_of_none (grow b o h) free)]; exact grow b o h) upd_same
    (pairs_paired (by omega) fun j a p ea ep => by rw [upd_ne (ne_of_none (pairMap_at (H := H1) nd ea ep) free)]; exact pairMap_at nd ea ep)⟩
end

/-! ### != of two tuples (dict, int) that are equal -/
section
variable {X : Cx}
def rNeTD (K : PySem.W.Frag) : R2 := fun x y H Q => ∃ (a b d e : Addr) (n : Int) (ks : List (Key × V)), x = .ref a ∧ y = .ref b ∧ SqT K H a [.ref d, .int n] ∧ SqT K H b [.ref e, .int n] ∧
  H d = some (.dK ks) ∧ H e = some (.dK ks) ∧ (ks.map (·.1)).Nodup ∧ (∀ p ∈ ks, flatB p.2 = true) ∧ Q (.bl false) H
theorem op_neTD (hu : X.A.units + 64 < cLine) : OpR X (compareOp .NotEq) (rNeTD X.K) := by
  rintro pins s σ H _ _ v u Q I rx ry ⟨a, b, d, e, n, ks, rfl, rfl, ha, hb, hd, he, nd, fl, q⟩
  cases (show v = .ref a from rx)
  cases (show u = .ref b from ry)
  obtain ⟨_, r1, p1, _⟩ := I.tuple ha
  obtain ⟨_, r2, p2, _⟩ := I.tuple hb
  obtain ⟨u1, u2, rfl, rd, rn⟩ := vals2 r1
  obtain ⟨w1, w2, rfl, re, rm⟩ := vals2 r2
  cases (show u1 = .ref d from rd)
  cases (show w1 = .ref e from re)
  refine pair_ne p1 p2 (by omega) ?_ (eqAt_same rn rm rfl).eqP ⟨.bl false, H, I, rfl, q⟩
  by_cases z : d = e
  · rw [z]
    exact (SeqAt.EqAt.same _).eqP
  · exact SeqAt.eqP_refs z (eqR_run I (F := fun x y => x = y ∧ flatB x = true) (by show X.A.units + 1 < cLine; omega) (fun x y v u f rv ru => by obtain ⟨rfl, f⟩ := f; exact (eqAt_same rv ru f).eqP)
      (.inr ⟨d, e, ks, ks, rfl, rfl, hd, he, rfl, fun p hp => ⟨p.2, val_nodup nd p hp, rfl, fl p hp⟩⟩) rfl rfl)
end
end Dr
/-! Plain laws: polynomials as lists of pairs, by what they hold at each exponent. -/
namespace Dr
abbrev Pl := List (Int × Int)
/-- the sum of the coefficients at an exponent -/
def ev : Pl → Int → Int
  | [], _ => 0
  | q :: r, e => (if q.1 = e then q.2 else 0) + ev r e
theorem ev_nil (e : Int) : ev [] e = 0 := rfl
theorem ev_cons (q : Int × Int) (r : Pl) (e : Int) : ev (q :: r) e = (if q.1 = e then q.2 else 0) + ev r e := rfl
theorem ev_append : ∀ (a b : Pl) (e : Int), ev (a ++ b) e = ev a e + ev b e
  | [], b, e => by rw [List.nil_append, ev_nil]; omega
  | q :: r, b, e => by rw [List.cons_append, ev_cons, ev_cons, ev_append r b e]; omega
theorem ev_none : ∀ {a : Pl} {e : Int}, (∀ q ∈ a, q.1 ≠ e) → ev a e = 0
  | [], _, _ => rfl
  | q :: r, e, h => by
    rw [ev_cons, if_neg (h q List.mem_cons_self), ev_none fun z hz => h z (List.mem_cons_of_mem _ hz)]
    rfl
def mv (a : Pl) (d : Int) : Pl := a.map fun q => (q.1 + d, q.2)
def sc (a : Pl) (k : Int) : Pl := a.map fun q => (q.1, q.2 * k)
theorem mv_len (a : Pl) (d : Int) : (mv a d).length = a.length := List.length_map ..
theorem sc_len (a : Pl) (d : Int) : (sc a d).length = a.length := List.length_map ..
theorem ev_mv : ∀ (a : Pl) (d e : Int), ev (mv a d) e = ev a (e - d)
  | [], _, _ => rfl
  | q :: r, d, e => by
    show (if q.1 + d = e then q.2 else 0) + ev (mv r d) e = (if q.1 = e - d then q.2 else 0) + ev r (e - d)
    rw [ev_mv r d e]
    by_cases h : q.1 + d = e
    · rw [if_pos h, if_pos (by omega)]
    · rw [if_neg h, if_neg (by omega)]
theorem ev_sc : ∀ (a : Pl) (k e : Int), ev (sc a k) e = ev a e * k
  | [], k, _ => by show (0 : Int) = 0 * k; rw [Int.zero_mul]
  | q :: r, k, e => by
    show (if q.1 = e then q.2 * k else 0) + ev (sc r k) e = ((if q.1 = e then q.2 else 0) + ev r e) * k
    rw [ev_sc r k e, Int.add_mul]
    by_cases h : q.1 = e
    · rw [if_pos h, if_pos h]
    · rw [if_neg h, if_neg h, Int.zero_mul]
/-! ### canonical ones -/
structure Canon (p : Int) (a : Pl) : Prop where
  asc : a.Pairwise fun x y => x.1 < y.1
  rng : ∀ q ∈ a, 0 < q.2 ∧ q.2 < p
theorem Canon.nil (p : Int) : Canon p [] := ⟨List.Pairwise.nil, fun _ h => by cases h⟩
theorem Canon.tail {p : Int} {q : Int × Int} {r : Pl} (h : Canon p (q :: r)) : Canon p r := ⟨(List.pairwise_cons.mp h.asc).2, fun z hz => h.rng z (List.mem_cons_of_mem _ hz)⟩
theorem Canon.head {p : Int} {q : Int × Int} {r : Pl} (h : Canon p (q :: r)) {e : Int} (he : e ≤ q.1) : ev r e = 0 :=
  ev_none fun z hz => by have := (List.pairwise_cons.mp h.asc).1 z hz; omega
theorem Canon.mv {p : Int} {a : Pl} (h : Canon p a) (d : Int) : Canon p (mv a d) := by
  refine ⟨List.pairwise_map.mpr (h.asc.imp fun {x y} z => by show x.1 + d < y.1 + d; omega), fun q hq => ?_⟩
  obtain ⟨z, hz, rfl⟩ := List.mem_map.mp hq
  exact h.rng z hz
theorem Canon.range {p : Int} (hp : 0 < p) : ∀ {a : Pl}, Canon p a → ∀ e, 0 ≤ ev a e ∧ ev a e < p
  | [], _, _ => ⟨Int.le_refl _, hp⟩
  | q :: r, h, e => by
    rw [ev_cons]
    by_cases z : q.1 = e
    · rw [if_pos z, h.head (by omega)]
      have := h.rng q List.mem_cons_self
      omega
    · rw [if_neg z]
      have := Canon.range hp h.tail e
      omega
theorem Canon.mod {p : Int} (hp : 0 < p) {a : Pl} (h : Canon p a) (e : Int) : ev a e % p = ev a e := Int.emod_eq_of_lt (h.range hp e).1 (h.range hp e).2
theorem Canon.uniq {p : Int} : ∀ {a b : Pl}, Canon p a → Canon p b → (∀ e, ev a e = ev b e) → a = b
  | [], [], _, _, _ => rfl
  | [], q :: r, _, hb, h => by
    have e := h q.1
    rw [ev_nil, ev_cons, if_pos rfl, hb.head (Int.le_refl _)] at e
    have := hb.rng q List.mem_cons_self
    omega
  | q :: r, [], ha, _, h => by
    have e := h q.1
    rw [ev_nil, ev_cons, if_pos rfl, ha.head (Int.le_refl _)] at e
    have := ha.rng q List.mem_cons_self
    omega
  | q :: r, q' :: r', ha, hb, h => by
    have ra := ha.rng q List.mem_cons_self
    have rb := hb.rng q' List.mem_cons_self
    have e1 := h q.1
    have e2 := h q'.1
    rw [ev_cons, ev_cons, if_pos rfl, ha.head (Int.le_refl _)] at e1
    rw [ev_cons, ev_cons, if_pos (show q'.1 = q'.1 from rfl), hb.head (Int.le_refl _)] at e2
    have eq1 : q.1 = q'.1 := by
      rcases Int.lt_trichotomy q.1 q'.1 with z | z | z
      · rw [if_neg (by omega), hb.head (by omega)] at e1
        omega
      · exact z
      · rw [if_neg (by omega), ha.head (by omega)] at e2
        omega
    have eq2 : q.2 = q'.2 := by
      rw [if_pos eq1.symm, hb.head (by omega)] at e1
      omega
    have eq : q = q' := Prod.ext eq1 eq2
    subst eq
    rw [Canon.uniq ha.tail hb.tail fun e => by
      have z := h e
      rw [ev_cons, ev_cons] at z
      omega]
/-! ### the table that normalize fills -/
def look (ts : Pl) (e : Int) : Option Int := (ts.find? fun q => decide (q.1 = e)).map (·.2)
def put (ts : Pl) (e c : Int) : Pl := if (ts.any fun q => decide (q.1 = e)) = true then ts.map (fun q => if q.1 = e then (q.1, c) else q) else ts ++ [(e, c)]
theorem look_pos {q : Int × Int} {r : Pl} {e : Int} (h : q.1 = e) : look (q :: r) e = some q.2 := by simp [look, List.find?_cons, h]
theorem look_neg {q : Int × Int} {r : Pl} {e : Int} (h : ¬ q.1 = e) : look (q :: r) e = look r e := by simp [look, List.find?_cons, h]
theorem look_any (e : Int) : ∀ ts : Pl, (ts.any fun q => decide (q.1 = e)) = (look ts e).isSome
  | [] => rfl
  | q :: r => by
    rw [List.any_cons]
    by_cases h : q.1 = e
    · rw [look_pos h, decide_eq_true h]; rfl
    · rw [look_neg h, decide_eq_false h, Bool.false_or]; exact look_any e r
theorem look_map (e c j : Int) : ∀ ts : Pl, look (ts.map fun q => if q.1 = e then (q.1, c) else q) j = (look ts j).map fun x => if j = e then c else x
  | [] => rfl
  | q :: r => by
    have ih := look_map e c j r
    rw [List.map_cons]
    by_cases h : q.1 = e
    · rw [if_pos h]
      by_cases z : q.1 = j
      · rw [look_pos (q := (q.1, c)) z, look_pos z, Option.map_some, if_pos (by omega)]
      · rw [look_neg (q := (q.1, c)) z, look_neg z, ih]
    · rw [if_neg h]
      by_cases z : q.1 = j
      · rw [look_pos z, look_pos z, Option.map_some, if_neg (by omega)]
      · rw [look_neg z, look_neg z, ih]
theorem look_snoc (e c j : Int) : ∀ ts : Pl, look ts e = none → look (ts ++ [(e, c)]) j = if j = e then some c else look ts j
  | [], _ => by
    by_cases h : e = j
    · rw [if_pos h.symm]; exact look_pos (q := (e, c)) h
    · rw [if_neg (fun z => h z.symm)]; exact look_neg (q := (e, c)) h
  | q :: r, hn => by
    rw [List.cons_append]
    have hk : ¬ q.1 = e := fun z => by rw [look_pos z] at hn; cases hn
    rw [look_neg hk] at hn
    have ih := look_snoc e c j r hn
    by_cases h : q.1 = j
    · rw [look_pos h, look_pos h, if_neg (by omega)]
    · rw [look_neg h, look_neg h, ih]
theorem look_put (ts : Pl) (e c j : Int) : look (put ts e c) j = if j = e then some c else look ts j := by
  unfold put
  by_cases a : (ts.any fun q => decide (q.1 = e)) = true
  · rw [if_pos a, look_map]
    rw [look_any] at a
    by_cases h : j = e
    · obtain ⟨x, hx⟩ := Option.isSome_iff_exists.mp a
      rw [if_pos h, h, hx, Option.map_some, if_pos rfl]
    · rw [if_neg h]
      cases look ts j with
      | none => rfl
      | some x => rw [Option.map_some, if_neg h]
  · rw [if_neg a]
    refine look_snoc e c j ts ?_
    rw [look_any] at a
    cases q : look ts e with
    | none => rfl
    | some x => rw [q] at a; exact (a rfl).elim
theorem put_len (ts : Pl) (e c : Int) : (put ts e c).length ≤ ts.length + 1 := by
  unfold put
  split
  · rw [List.length_map]; omega
  · rw [List.length_append, List.length_cons, List.length_nil]; omega
theorem look_mem : ∀ {ts : Pl} {e : Int}, e ∈ ts.map (·.1) ↔ (look ts e).isSome = true
  | [], e => by simp [look]
  | q :: r, e => by
    rw [List.map_cons, List.mem_cons]
    by_cases h : q.1 = e
    · rw [look_pos h]; simp [h]
    · rw [look_neg h, ← look_mem (ts := r)]
      exact ⟨fun z => z.resolve_left fun y => h y.symm, Or.inr⟩
theorem put_keys {ts : Pl} {e c : Int} (hn : (ts.map (·.1)).Nodup) : ((put ts e c).map (·.1)).Nodup := by
  unfold put
  by_cases a : (ts.any fun q => decide (q.1 = e)) = true
  · rw [if_pos a, List.map_map]
    have : ((fun q : Int × Int => q.1) ∘ fun q : Int × Int => if q.1 = e then (q.1, c) else q) = fun q => q.1 := by
      funext q
      show (if q.1 = e then (q.1, c) else q).1 = q.1
      split <;> rfl
    rw [this]
    exact hn
  · rw [if_neg a, List.map_append, List.nodup_append]
    refine ⟨hn, by simp, fun x hx y hy => ?_⟩
    have hy' : y = e := by simpa using hy
    rintro rfl
    rw [hy'] at hx
    rw [look_any] at a
    exact a (look_mem.mp hx)
/-- the table behind the pairs ps -/
structure Tab (p : Int) (ts ps : Pl) : Prop where
  nd : (ts.map (·.1)).Nodup
  val : ∀ e, (look ts e).getD 0 = ev ps e % p
  len : ts.length ≤ ps.length
theorem Tab.nil (p : Int) : Tab p [] [] := ⟨List.nodup_nil, fun e => by show (0 : Int) = 0 % p; rw [Int.zero_emod], Nat.le_refl _⟩
theorem Tab.step {p : Int} {ts ps : Pl} (h : Tab p ts ps) (q : Int × Int) : Tab p (put ts q.1 (((look ts q.1).getD 0 + q.2) % p)) (ps ++ [q]) := by
  refine ⟨put_keys h.nd, fun e => ?_, ?_⟩
  · rw [look_put, ev_append, ev_cons, ev_nil]
    by_cases z : e = q.1
    · rw [if_pos z, if_pos z.symm, Option.getD_some, h.val, z, Int.emod_add_emod, Int.add_zero]
    · rw [if_neg z, if_neg (fun y => z y.symm), h.val]
      simp
  · have := put_len ts q.1 (((look ts q.1).getD 0 + q.2) % p)
    have := h.len
    rw [List.length_append, List.length_singleton]
    omega
def out (ts : Pl) (ys : List Int) : Pl := (ys.filter fun e => !decide ((look ts e).getD 0 = 0)).map fun e => (e, (look ts e).getD 0)
theorem ev_fn (f : Int → Int) : ∀ {zs : List Int} {e : Int}, zs.Nodup → ev (zs.map fun e => (e, f e)) e = if e ∈ zs then f e else 0
  | [], e, _ => by simp [ev]
  | z :: zs, e, h => by
    obtain ⟨h1, h2⟩ := List.nodup_cons.mp h
    rw [List.map_cons, ev_cons, ev_fn f h2]
    by_cases k : z = e
    · subst k
      rw [if_pos rfl, if_neg h1, if_pos List.mem_cons_self]
      show f z + 0 = f z
      omega
    · rw [if_neg k]
      by_cases m : e ∈ zs
      · rw [if_pos m, if_pos (List.mem_cons_of_mem _ m)]
        omega
      · rw [if_neg m, if_neg (fun y => (List.mem_cons.mp y).elim (fun y => k y.symm) m)]
        omega
theorem asc_of {ys : List Int} (h : ys.Pairwise (· ≤ ·)) (hn : ys.Nodup) : ys.Pairwise (· < ·) := by
  refine List.Pairwise.imp₂ (fun a b h1 h2 => ?_) h hn
  have : a ≠ b := h2
  omega
theorem Tab.out {p : Int} (hp : 0 < p) {ts ps : Pl} {ys : List Int} (h : Tab p ts ps) (hy : ys.Perm (ts.map (·.1))) (hs : ys.Pairwise (· ≤ ·)) :
    Canon p (out ts ys) ∧ (∀ e, ev (out ts ys) e = ev ps e % p) ∧ (out ts ys).length ≤ ps.length := by
  have hn : ys.Nodup := hy.nodup_iff.mpr h.nd
  have hl := asc_of hs hn
  refine ⟨⟨List.pairwise_map.mpr ((hl.filter _).imp fun {x y} z => z), fun q hq => ?_⟩, fun e => ?_, ?_⟩
  · obtain ⟨e, he, rfl⟩ := List.mem_map.mp hq
    have hne := (List.mem_filter.mp he).2
    have hne' : ¬ (look ts e).getD 0 = 0 := by simpa using hne
    show 0 < (look ts e).getD 0 ∧ (look ts e).getD 0 < p
    rw [h.val] at hne' ⊢
    have a := Int.emod_nonneg (ev ps e) (show p ≠ 0 by omega)
    have b := Int.emod_lt_of_pos (ev ps e) hp
    omega
  · unfold Dr.out
    rw [ev_fn (fun e => (look ts e).getD 0) (hn.filter _), ← h.val]
    by_cases m : e ∈ ys.filter fun e => !decide ((look ts e).getD 0 = 0)
    · rw [if_pos m]
    · rw [if_neg m]
      by_cases k : (look ts e).getD 0 = 0
      · exact k.symm
      · have m2 : ¬ e ∈ ys := fun z => m (List.mem_filter.mpr ⟨z, by simpa using k⟩)
        have m3 : ¬ e ∈ ts.map (·.1) := fun z => m2 (hy.mem_iff.mpr z)
        rw [look_mem] at m3
        cases q : look ts e with
        | none => rfl
        | some x => rw [q] at m3; exact (m3 rfl).elim
  · unfold Dr.out
    rw [List.length_map]
    refine Nat.le_trans (List.length_filter_le _ _) ?_
    rw [hy.length_eq, List.length_map]
    exact h.len
/-! ### an effect repeated -/
def pw (f : Int → Int) (s : Int) : Nat → Int → Int
  | 0, _ => 0
  | n + 1, e => f e + pw f s n (e - s)
theorem pw_add (f : Int → Int) (s : Int) (b : Nat) : ∀ (a : Nat) (e : Int), pw f s (a + b) e = pw f s a e + pw f s b (e - a * s)
  | 0, e => by
    show pw f s (0 + b) e = 0 + pw f s b (e - (0 : Nat) * s)
    rw [Nat.zero_add, show e - ((0 : Nat) : Int) * s = e by simp]
    omega
  | a + 1, e => by
    rw [show a + 1 + b = (a + b) + 1 by omega]
    show f e + pw f s (a + b) (e - s) = f e + pw f s a (e - s) + pw f s b (e - ((a + 1 : Nat) : Int) * s)
    rw [pw_add f s b a (e - s), show e - s - (a : Int) * s = e - ((a + 1 : Nat) : Int) * s by rw [Int.natCast_add, Int.add_mul]; simp; omega]
    omega
theorem pw_one (f : Int → Int) (s e : Int) : pw f s 1 e = f e := by
  show f e + 0 = f e
  omega
/-! ### the laws -/
section
variable {p : Int} (hp : 0 < p) {D P1 P2 C F G B I R M W : Pl} {x s1 k : Int}
include hp
/-- two ways to the same residues -/
theorem same_of {a b : Pl} (ha : Canon p a) (hb : Canon p b) (h : ∀ e, ev a e % p = ev b e % p) : a = b :=
  ha.uniq hb fun e => by rw [← ha.mod hp e, ← hb.mod hp e]; exact h e
theorem law_compose (hG : Canon p G) (hB : Canon p B) (eF : ∀ e, ev F e = (ev D e + ev P1 (e - x)) % p) (eC : ∀ e, ev C e = (ev P1 e + ev P2 (e - s1)) % p)
    (eB : ∀ e, ev B e = (ev D e + ev C (e - x)) % p) (eG : ∀ e, ev G e = (ev F e + ev P2 (e - (x + s1))) % p) : G = B :=
  hG.uniq hB fun e => by
    rw [eG, eB, eF, eC, Int.emod_add_emod, Int.add_emod_emod, show e - x - s1 = e - (x + s1) by omega, Int.add_assoc]
theorem law_inverse (hR : Canon p R) (hD : Canon p D) (eF : ∀ e, ev F e = (ev D e + ev P1 (e - x)) % p) (eI : ∀ e, ev I e = (ev P1 (e + s1) * -1) % p)
    (eR : ∀ e, ev R e = (ev F e + ev I (e - (x + s1))) % p) : R = D :=
  hR.uniq hD fun e => by
    rw [eR, eF, eI, Int.emod_add_emod, Int.add_emod_emod, show e - (x + s1) + s1 = e - x by omega, show ev D e + ev P1 (e - x) + ev P1 (e - x) * -1 = ev D e by omega, hD.mod hp]
theorem law_bare (hR : Canon p R) (h1 : Canon p P1) (eR : ∀ e, ev R e = (ev [] e + ev P1 (e - 0)) % p) : R = P1 :=
  hR.uniq h1 fun e => by
    rw [eR, ev_nil, Int.zero_add, Int.sub_zero, h1.mod hp]
theorem law_moved (hM : Canon p M) (hF : Canon p F) (eF : ∀ e, ev F e = (ev D e + ev P1 (e - x)) % p) (eM : ∀ e, ev M e = (ev (mv D k) e + ev P1 (e - (x + k))) % p) : M = mv F k :=
  hM.uniq (hF.mv k) fun e => by
    rw [eM, ev_mv, ev_mv, eF, show e - k - x = e - (x + k) by omega]
theorem law_power {n : Nat} (hA : Canon p G) (hB : Canon p B) (eG : ∀ e, ev G e = (ev D e + pw (ev P1) s1 n (e - x)) % p) (eW : ∀ e, ev W e = pw (ev P1) s1 n e % p) (eB : ∀ e, ev B e = (ev D e + ev W (e - x)) % p) : B = G :=
  hB.uniq hA fun e => by
    rw [eG, eB, eW, Int.add_emod_emod]
theorem here_zero (hD : Canon p D) (e : Int) : ev D e = (ev D e + pw (ev P1) s1 0 (e - x)) % p := by
  show ev D e = (ev D e + 0) % p
  rw [Int.add_zero, hD.mod hp]
theorem here_step {n : Nat} (eG : ∀ e, ev G e = (ev D e + pw (ev P1) s1 n (e - x)) % p) (eF : ∀ e, ev F e = (ev G e + ev P1 (e - (x + n * s1))) % p) (e : Int) :
    ev F e = (ev D e + pw (ev P1) s1 (n + 1) (e - x)) % p := by
  rw [eF, eG, pw_add, pw_one, Int.emod_add_emod, show e - x - (n : Int) * s1 = e - (x + n * s1) by omega, Int.add_assoc]
theorem pow_step {a b : Nat} (eF : ∀ e, ev F e = pw (ev P1) s1 a e % p) (eB : ∀ e, ev B e = pw (ev P1) s1 b e % p) (eC : ∀ e, ev C e = (ev F e + ev B (e - a * s1)) % p) (e : Int) :
    ev C e = pw (ev P1) s1 (a + b) e % p := by
  rw [eC, eF, eB, Int.emod_add_emod, Int.add_emod_emod, pw_add]
end
end Dr
/-! What stands in the heap: polynomials, effects, dials, the pen. -/
namespace Dr
open PySem PySem.Spec PyProof.Rows L2

/-! ### dicts of ints -/
def dk (ts : Pl) : List (Key × V) := ts.map fun q => ((Sum.inl q.1 : Key), V.int q.2)
theorem dk_len (ts : Pl) : (dk ts).length = ts.length := List.length_map ..
theorem dk_val (e : Int) : ∀ ts : Pl, valV (dk ts) (Sum.inl e : Key) = (look ts e).map V.int
  | [] => rfl
  | q :: r => by
    by_cases h : q.1 = e
    · rw [look_pos h]
      exact valV_pos (p := ((Sum.inl q.1 : Key), V.int q.2)) (congrArg Sum.inl h)
    · rw [look_neg h, ← dk_val e r]
      exact valV_neg (p := ((Sum.inl q.1 : Key), V.int q.2)) fun z => h (Sum.inl.inj z)
theorem dk_any (e : Int) (ts : Pl) : ((dk ts).any fun kv => decide (kv.1 = (Sum.inl e : Key))) = ts.any fun q => decide (q.1 = e) := by
  rw [valV_any, dk_val, look_any]
  cases look ts e <;> rfl
theorem dk_put (ts : Pl) (e c : Int) : putK (dk ts) (Sum.inl e : Key) (V.int c) = dk (put ts e c) := by
  unfold putK put
  rw [dk_any]
  by_cases a : (ts.any fun q => decide (q.1 = e)) = true
  · rw [if_pos a, if_pos a]
    unfold dk
    rw [List.map_map, List.map_map]
    refine List.map_congr_left fun q _ => ?_
    show (if (Sum.inl q.1 : Key) = Sum.inl e then ((Sum.inl q.1 : Key), V.int c) else ((Sum.inl q.1 : Key), V.int q.2)) = ((Sum.inl (if q.1 = e then (q.1, c) else q).1 : Key), V.int (if q.1 = e then (q.1, c) else q).2)
    by_cases h : q.1 = e
    · rw [if_pos (congrArg Sum.inl h), if_pos h]
    · rw [if_neg (fun z => h (Sum.inl.inj z)), if_neg h]
  · rw [if_neg a, if_neg a]
    unfold dk
    rw [List.map_append]
    rfl
theorem dk_keys (ts : Pl) : (dk ts).map (·.1) = (ts.map (·.1)).map Sum.inl := by
  unfold dk
  rw [List.map_map, List.map_map]
  rfl
theorem dk_flat (ts : Pl) : ∀ p ∈ dk ts, flatB p.2 = true := fun p hp => by
  obtain ⟨q, _, rfl⟩ := List.mem_map.mp hp
  rfl
theorem canon_keys {p : Int} {a : Pl} (h : Canon p a) : (a.map (·.1)).Nodup :=
  List.nodup_iff_pairwise_ne.mpr (List.pairwise_map.mpr (h.asc.imp fun {x y} z => by show x.1 ≠ y.1; omega))
theorem dk_nodup {a : Pl} (h : (a.map (·.1)).Nodup) : ((dk a).map (·.1)).Nodup := by
  rw [dk_keys]
  exact List.nodup_iff_pairwise_ne.mpr (List.pairwise_map.mpr ((List.nodup_iff_pairwise_ne.mp h).imp fun {x y} z y => z (Sum.inl.inj y)))
theorem merge_nodup : ∀ (b a : Pl), ((a ++ b).map (·.1)).Nodup → mergeK (dk a) (dk b) = dk (a ++ b)
  | [], a, _ => by rw [List.append_nil]; rfl
  | q :: r, a, h => by
    show mergeK (putK (dk a) (Sum.inl q.1 : Key) (V.int q.2)) (dk r) = _
    have hn : ¬ (a.any fun z => decide (z.1 = q.1)) = true := fun z => by
      obtain ⟨y, hy, e⟩ := List.any_eq_true.mp z
      have e' : y.1 = q.1 := of_decide_eq_true e
      rw [List.map_append, List.nodup_append] at h
      exact h.2.2 y.1 (List.mem_map.mpr ⟨y, hy, rfl⟩) q.1 (List.mem_map.mpr ⟨q, List.mem_cons_self, rfl⟩) e'
    rw [dk_put]
    unfold put
    rw [if_neg hn]
    have e : a ++ q :: r = (a ++ [q]) ++ r := by rw [List.append_assoc]; rfl
    rw [e] at h ⊢
    exact merge_nodup r (a ++ [q]) h
theorem merge_canon {p : Int} {a : Pl} (h : Canon p a) : mergeK [] (dk a) = dk a := merge_nodup a [] (by rw [List.nil_append]; exact canon_keys h)

/-! ### polynomials, effects -/
def Prs (K : PySem.W.Frag) (H : Hp) (as : List Addr) (ps : Pl) : Prop := Paired (fun (a : Addr) (q : Int × Int) => SqT K H a [.int q.1, .int q.2]) as ps
def PolyAt (K : PySem.W.Frag) (H : Hp) (a : Addr) (ps : Pl) : Prop := ∃ as : List Addr, SqT K H a (as.map V.ref) ∧ Prs K H as ps
def PolyL (K : PySem.W.Frag) (H : Hp) (a : Addr) (ps : Pl) : Prop := ∃ as : List Addr, SqL K H a (as.map V.ref) ∧ Prs K H as ps
def PolyF (K : PySem.W.Frag) (H : Hp) (a : Addr) (ps : Pl) : Prop := ∃ (as : List Addr) (o : Obj), H a = some (.frz o (.tup (as.map V.ref))) ∧ o.dict = none ∧ Prs K H as ps
def EffAt (K : PySem.W.Frag) (H : Hp) (a : Addr) (ps : Pl) (s : Int) : Prop := ∃ b : Addr, SqT K H a [.ref b, .int s] ∧ PolyAt K H b ps
def DialAt (H : Hp) (a : Addr) (ps : Pl) : Prop := H a = some (.dK (dk ps))
def StAt (K : PySem.W.Frag) (H : Hp) (a : Addr) (ps : Pl) (z : Int) : Prop := ∃ d : Addr, SqT K H a [.ref d, .int z] ∧ DialAt H d ps
theorem PolyF.at {K : PySem.W.Frag} {H : Hp} {a : Addr} {ps : Pl} (h : PolyF K H a ps) : PolyAt K H a ps := by
  obtain ⟨as, o, h1, _, h2⟩ := h
  exact ⟨as, .inl (.inr ⟨o, h1⟩), h2⟩
theorem Prs.len {K : PySem.W.Frag} {H : Hp} {as : List Addr} {ps : Pl} (h : Prs K H as ps) : as.length = ps.length := Paired.length h
theorem Prs.app {K : PySem.W.Frag} {H : Hp} : ∀ {as bs : List Addr} {ps qs : Pl}, Prs K H as ps → Prs K H bs qs → Prs K H (as ++ bs) (ps ++ qs)
  | _, _, _, _, .nil, h => h
  | _, _, _, _, .cons r t, h => .cons r (Prs.app t h)
theorem Prs.snoc {K : PySem.W.Frag} {H : Hp} {as : List Addr} {ps : Pl} (h : Prs K H as ps) {a : Addr} {q : Int × Int} (r : SqT K H a [.int q.1, .int q.2]) : Prs K H (as ++ [a]) (ps ++ [q]) := h.app (.cons r .nil)
theorem Prs.get {K : PySem.W.Frag} {H : Hp} {as : List Addr} {ps : Pl} (h : Prs K H as ps) {i : Nat} {v : V} (e : (as.map V.ref)[i]? = some v) : ∃ a q, v = .ref a ∧ as[i]? = some a ∧ ps[i]? = some q ∧ SqT K H a [.int q.1, .int q.2] := by
  rw [List.getElem?_map] at e
  cases ea : as[i]? with
  | none => rw [ea] at e; cases e
  | some a =>
    rw [ea] at e
    obtain ⟨q, e1, e2⟩ := LiI.paired_get h ea
    exact ⟨a, q, (Option.some.inj e).symm, rfl, e1, e2⟩

/-! ### what stays: all, or all but the pen -/
def Off (d : Addr) (H H' : Hp) : Prop := ∀ b o, H b = some o → b ≠ d → H' b = some o
theorem Off.refl (d : Addr) (H : Hp) : Off d H H := fun _ _ e _ => e
theorem Off.trans {d : Addr} {H H1 H2 : Hp} (a : Off d H H1) (b : Off d H1 H2) : Off d H H2 := fun c o e n => b c o (a c o e n) n
theorem same_off {H H' : Hp} (h : Same H H') (d : Addr) : Off d H H' := fun b o e _ => h b o e
theorem same_upd {H : Hp} {p : Addr} {o : HO} (h : H p = none) : Same H (upd H p o) := fun b x e => by
  rw [upd_ne (ne_of_none e h)]
  exact e
/-- a new object written again -/
theorem same_over {H0 H : Hp} {p : Addr} {o : HO} (s : Same H0 H) (h : H0 p = none) : Same H0 (upd H p o) := fun b x e => by
  rw [upd_ne (ne_of_none e h)]
  exact s b x e
theorem off_over {d : Addr} {H0 H : Hp} {p : Addr} {o : HO} (s : Off d H0 H) (h : H0 p = none) : Off d H0 (upd H p o) := fun b x e n => by
  rw [upd_ne (ne_of_none e h)]
  exact s b x e n
theorem off_put {d : Addr} {H0 H : Hp} {o : HO} (s : Off d H0 H) : Off d H0 (upd H d o) := fun b x e n => by
  rw [upd_ne n]
  exact s b x e n
section
variable {K : PySem.W.Frag} {H H' : Hp} {d a : Addr} {xs : List V} {ps : Pl} {s : Int} {kv : List (Key × V)}
theorem seqT_same (e : Same H H') (h : SqT K H a xs) : SqT K H' a xs := by
  rcases h with (h | ⟨o, h⟩) | h
  · exact .inl (.inl (e _ _ h))
  · exact .inl (.inr ⟨o, e _ _ h⟩)
  · exact .inr h
theorem seqT_off (e : Off d H H') (hd : H d = some (.dK kv)) (h : SqT K H a xs) : SqT K H' a xs := by
  rcases h with (h | ⟨o, h⟩) | h
  · exact .inl (.inl (e _ _ h (ne_of h hd (by intro z; cases z))))
  · exact .inl (.inr ⟨o, e _ _ h (ne_of h hd (by intro z; cases z))⟩)
  · exact .inr h
theorem seqL_off (e : Off d H H') (hd : H d = some (.dK kv)) (h : SqL K H a xs) : SqL K H' a xs := by
  rcases h with (h | ⟨o, h⟩) | h
  · exact .inl (.inl (e _ _ h (ne_of h hd (by intro z; cases z))))
  · exact .inl (.inr ⟨o, e _ _ h (ne_of h hd (by intro z; cases z))⟩)
  · exact .inr h
theorem Prs.same {as : List Addr} (e : Same H H') (h : Prs K H as ps) : Prs K H' as ps := Paired.mapP h fun _ _ z => seqT_same e z
theorem Prs.off {as : List Addr} (e : Off d H H') (hd : H d = some (.dK kv)) (h : Prs K H as ps) : Prs K H' as ps := Paired.mapP h fun _ _ z => seqT_off e hd z
theorem PolyAt.same (e : Same H H') (h : PolyAt K H a ps) : PolyAt K H' a ps := let ⟨as, h1, h2⟩ := h; ⟨as, seqT_same e h1, h2.same e⟩
theorem PolyAt.off (e : Off d H H') (hd : H d = some (.dK kv)) (h : PolyAt K H a ps) : PolyAt K H' a ps := let ⟨as, h1, h2⟩ := h; ⟨as, seqT_off e hd h1, h2.off e hd⟩
theorem PolyF.same (e : Same H H') (h : PolyF K H a ps) : PolyF K H' a ps := let ⟨as, o, h1, h0, h2⟩ := h; ⟨as, o, e _ _ h1, h0, h2.same e⟩
theorem PolyF.off (e : Off d H H') (hd : H d = some (.dK kv)) (h : PolyF K H a ps) : PolyF K H' a ps := let ⟨as, o, h1, h0, h2⟩ := h; ⟨as, o, e _ _ h1 (ne_of h1 hd (by intro z; cases z)), h0, h2.off e hd⟩
theorem EffAt.same (e : Same H H') (h : EffAt K H a ps s) : EffAt K H' a ps s := let ⟨b, h1, h2⟩ := h; ⟨b, seqT_same e h1, h2.same e⟩
theorem EffAt.off (e : Off d H H') (hd : H d = some (.dK kv)) (h : EffAt K H a ps s) : EffAt K H' a ps s := let ⟨b, h1, h2⟩ := h; ⟨b, seqT_off e hd h1, h2.off e hd⟩
theorem DialAt.same (e : Same H H') (h : DialAt H a ps) : DialAt H' a ps := e _ _ h
theorem StAt.same (e : Same H H') (h : StAt K H a ps s) : StAt K H' a ps s := let ⟨b, h1, h2⟩ := h; ⟨b, seqT_same e h1, h2.same e⟩
end
/-! ### the pen -/
def penK (c : Addr) (u l : Int) : List (Key × V) := [(Sum.inr ("cells" : Str), .ref c), (Sum.inr ("used" : Str), .int u), (Sum.inr ("left" : Str), .int l)]
theorem n_cu : ¬ ("cells" : Str) = "used" := by decide +kernel
theorem n_cl : ¬ ("cells" : Str) = "left" := by decide +kernel
theorem n_ul : ¬ ("used" : Str) = "left" := by decide +kernel
section
variable (c : Addr) (u l z : Int)
theorem inr_ne {x y : Str} (h : ¬ x = y) : ¬ (Sum.inr x : Key) = Sum.inr y := fun e => h (Sum.inr.inj e)
theorem pen_cells : valV (penK c u l) (Sum.inr ("cells" : Str) : Key) = some (.ref c) := valV_pos rfl
theorem pen_used : valV (penK c u l) (Sum.inr ("used" : Str) : Key) = some (.int u) := by
  unfold penK
  rw [valV_neg (inr_ne n_cu)]
  exact valV_pos rfl
theorem pen_left : valV (penK c u l) (Sum.inr ("left" : Str) : Key) = some (.int l) := by
  unfold penK
  rw [valV_neg (inr_ne n_cl), valV_neg (inr_ne n_ul)]
  exact valV_pos rfl
theorem pen_set_used : putK (penK c u l) (Sum.inr ("used" : Str) : Key) (.int z) = penK c z l := by
  unfold putK
  rw [if_pos (by rw [valV_any, pen_used]; rfl)]
  show [if (Sum.inr ("cells" : Str) : Key) = Sum.inr ("used" : Str) then _ else _, if (Sum.inr ("used" : Str) : Key) = Sum.inr ("used" : Str) then _ else _, if (Sum.inr ("left" : Str) : Key) = Sum.inr ("used" : Str) then _ else _] = _
  rw [if_neg (inr_ne n_cu), if_pos rfl, if_neg (inr_ne fun e => n_ul e.symm)]
  rfl
theorem pen_set_left : putK (penK c u l) (Sum.inr ("left" : Str) : Key) (.int z) = penK c u z := by
  unfold putK
  rw [if_pos (by rw [valV_any, pen_left]; rfl)]
  show [if (Sum.inr ("cells" : Str) : Key) = Sum.inr ("left" : Str) then _ else _, if (Sum.inr ("used" : Str) : Key) = Sum.inr ("left" : Str) then _ else _, if (Sum.inr ("left" : Str) : Key) = Sum.inr ("left" : Str) then _ else _] = _
  rw [if_neg (inr_ne n_cl), if_neg (inr_ne n_ul), if_pos rfl]
  rfl
end
def Pen (K : PySem.W.Frag) (H : Hp) (d c : Addr) (n : Nat) : Prop := ∃ (ns : List Int) (u l : Int), H d = some (.dK (penK c u l)) ∧ SqL K H c (ns.map V.int) ∧ ns.length ≤ 63 ∧ 0 ≤ u ∧ u ≤ (n : Int)
theorem Pen.dict {K : PySem.W.Frag} {H : Hp} {d c : Addr} {n : Nat} (h : Pen K H d c n) : ∃ kv, H d = some (.dK kv) := let ⟨_, _, _, h1, _⟩ := h; ⟨_, h1⟩
theorem Pen.mono {K : PySem.W.Frag} {H : Hp} {d c : Addr} {n m : Nat} (h : Pen K H d c n) (hm : n ≤ m) : Pen K H d c m := let ⟨ns, u, l, h1, h2, h3, h4, h5⟩ := h; ⟨ns, u, l, h1, h2, h3, h4, by omega⟩
theorem Pen.same {K : PySem.W.Frag} {H H' : Hp} {d c : Addr} {n : Nat} (e : Same H H') (h : Pen K H d c n) : Pen K H' d c n := let ⟨ns, u, l, h1, h2, h3⟩ := h; ⟨ns, u, l, e _ _ h1, e.seq h2, h3⟩
/-- another object is written, one that was not there when the pen was -/
theorem Pen.write {K : PySem.W.Frag} {H0 H : Hp} {d c a : Addr} {n0 n : Nat} {o : HO} (h0 : Pen K H0 d c n0) (na : H0 a = none) (h : Pen K H d c n) : Pen K (upd H a o) d c n := by
  obtain ⟨ns0, u0, l0, g1, g2, g3, _⟩ := h0
  obtain ⟨ns, u, l, h1, h2, h3, h4⟩ := h
  have ad : d ≠ a := ne_of_none g1 na
  rcases g2 with g2 | g2
  · have ca : c ≠ a := by
      rcases g2 with g2 | ⟨_, g2⟩
      · exact ne_of_none g2 na
      · exact ne_of_none g2 na
    refine ⟨ns, u, l, by rw [upd_ne ad]; exact h1, ?_, h3, h4⟩
    rcases h2 with (h2 | ⟨ob, h2⟩) | h2
    · exact .inl (.inl (by rw [upd_ne ca]; exact h2))
    · exact .inl (.inr ⟨ob, by rw [upd_ne ca]; exact h2⟩)
    · exact .inr h2
  · exact ⟨ns0, u, l, by rw [upd_ne ad]; exact h1, .inr g2, g3, h4⟩
theorem pen_ne {K : PySem.W.Frag} {H : Hp} {d c a : Addr} {n : Nat} {ps : Pl} (h : Pen K H d c n) (hd : DialAt H a ps) : a ≠ d := by
  obtain ⟨ns, u, l, h1, _⟩ := h
  refine ne_of hd h1 fun e => ?_
  have e' : dk ps = penK c u l := HO.dK.inj e
  cases ps with
  | nil => cases e'
  | cons q r =>
    have e2 := congrArg (fun l : List (Key × V) => l.head?.map (·.1)) e'
    cases e2
theorem off_free {H H' : Hp} {d q : Addr} (e : Off d H H') (n : q ≠ d) (h : H' q = none) : H q = none := by
  cases x : H q with
  | none => rfl
  | some o => rw [e q o x n] at h; cases h
section
variable {K : PySem.W.Frag} {H H' : Hp} {d c a : Addr} {ps : Pl} {s : Int} {n : Nat}
theorem DialAt.off (e : Off d H H') (hp : Pen K H d c n) (h : DialAt H a ps) : DialAt H' a ps := e _ _ h (pen_ne hp h)
theorem StAt.off (e : Off d H H') (hp : Pen K H d c n) (h : StAt K H a ps s) : StAt K H' a ps s := by
  obtain ⟨b, h1, h2⟩ := h
  obtain ⟨kv, hd⟩ := hp.dict
  exact ⟨b, seqT_off e hd h1, h2.off e hp⟩
end
/-! ### as data -/
section
variable {K : PySem.W.Frag} {H : Hp}
def polyD (ps : Pl) : PyData := .tuple (ps.map fun q => .tuple [.int q.1, .int q.2])
theorem prs_dp : ∀ {as : List Addr} {ps : Pl}, Prs K H as ps → DpAll K H (as.map V.ref) (ps.map fun q => .tuple [.int q.1, .int q.2])
  | _, _, .nil => .nil
  | _, _, .cons r t => .cons (.tup r (.cons (.int _) (.cons (.int _) .nil))) (prs_dp t)
theorem poly_dp {a : Addr} {ps : Pl} (h : PolyAt K H a ps) : Dp K H (.ref a) (polyD ps) := let ⟨_, h1, h2⟩ := h; .tup h1 (prs_dp h2)
theorem eff_dp {a b : Addr} {ps : Pl} {s : Int} (h1 : SqT K H a [.ref b, .int s]) (h2 : PolyAt K H b ps) : Dp K H (.ref a) (.tuple [polyD ps, .int s]) := .tup h1 (.cons (poly_dp h2) (.cons (.int s) .nil))
theorem poly_lay : ∀ ps : Pl, PyData.canLayAll0 (ps.map fun q => PyData.tuple [.int q.1, .int q.2]) = true
  | [] => by simp only [List.map_nil, PyData.canLayAll0]
  | q :: r => by simp only [List.map_cons, PyData.canLayAll0, PyData.canLay0, poly_lay r, Bool.and_self]
theorem ints_lay : ∀ ns : List Int, PyData.canLayAll0 (ns.map PyData.int) = true
  | [] => by simp only [List.map_nil, PyData.canLayAll0]
  | q :: r => by simp only [List.map_cons, PyData.canLayAll0, PyData.canLay0, ints_lay r, Bool.and_self]
theorem poly_depth : ∀ ps : Pl, PyData.depthAll (ps.map fun q => PyData.tuple [.int q.1, .int q.2]) ≤ 2
  | [] => by simp [PyData.depthAll]
  | q :: r => by
    have := poly_depth r
    simp only [List.map_cons, PyData.depthAll, PyData.depth]
    omega
theorem ints_depth : ∀ ns : List Int, PyData.depthAll (ns.map PyData.int) ≤ 1
  | [] => by simp [PyData.depthAll]
  | q :: r => by
    have := ints_depth r
    simp only [List.map_cons, PyData.depthAll, PyData.depth]
    omega
theorem eff_shaped (ps : Pl) (s : Int) : SeqAt.shaped (.tuple [polyD ps, .int s]) = true := by
  unfold SeqAt.shaped
  rw [Bool.and_eq_true]
  refine ⟨?_, decide_eq_true ?_⟩
  · simp only [polyD, PyData.canLay0, PyData.canLayAll0, poly_lay, Bool.and_self]
  · have := poly_depth ps
    simp only [polyD, PyData.depth, PyData.depthAll]
    omega
theorem ints_shaped (ns : List Int) : SeqAt.shaped (.list (ns.map PyData.int)) = true := by
  unfold SeqAt.shaped
  rw [Bool.and_eq_true]
  refine ⟨?_, decide_eq_true ?_⟩
  · simp only [PyData.canLay0, ints_lay]
  · have := ints_depth ns
    simp only [PyData.depth]
    omega
theorem eff_eqv (ps : Pl) (s : Int) : PyData.eqv (.tuple [polyD ps, .int s]) (.tuple [polyD ps, .int s]) = true := SeqAt.eqv_refl _ (SeqAt.canLay_of_shaped (eff_shaped ps s))
theorem nil_eqv : PyData.eqv (.list (([] : List Int).map PyData.int)) (.list []) = true := SeqAt.eqv_refl _ (SeqAt.canLay_of_shaped (ints_shaped []))
theorem ints_dp : ∀ ns : List Int, DpAll K H (ns.map V.int) (ns.map PyData.int)
  | [] => .nil
  | n :: r => .cons (.int n) (ints_dp r)
end
end Dr
/-! normalize, and the law's own one. -/
namespace Dr
open PySem PySem.Spec PyProof.Rows L2
def topS (i : Nat) : Stmt := PySem.Challenge.pw_dialroad_k15_whole_effects_act.main.body.getD i (.Pass ⟨0, 0, 0, 0⟩)
abbrev sNorm : Stmt := topS 1
abbrev sAdd : Stmt := topS 2
abbrev sScale : Stmt := topS 3
abbrev sMove : Stmt := topS 4
abbrev sCompose : Stmt := topS 7
abbrev sInverse : Stmt := topS 8
abbrev sPower : Stmt := topS 9
abbrev sApply : Stmt := topS 10
abbrev sPen : Stmt := topS 12
abbrev sDraw : Stmt := topS 13
abbrev sPick : Stmt := topS 14
abbrev sPrime : Stmt := topS 15
abbrev sInteger : Stmt := topS 16
abbrev sNormal : Stmt := topS 17
abbrev sPoly : Stmt := topS 18
abbrev sEffect : Stmt := topS 19
abbrev sMoved : Stmt := topS 20
abbrev sLaw : Stmt := topS 21

theorem dget0 (o : Option Int) : (o.map V.int).getD (.int 0) = .int (o.getD 0) := by cases o <;> rfl
theorem take_snoc {α : Type} {l : List α} {i : Nat} {x : α} (h : l[i]? = some x) : l.take (i + 1) = l.take i ++ [x] := by
  rw [List.take_add_one, h]
  rfl
theorem out_snoc (ts : Pl) (ys : List Int) (e : Int) : out ts (ys ++ [e]) = out ts ys ++ (if (look ts e).getD 0 = 0 then [] else [(e, (look ts e).getD 0)]) := by
  unfold out
  rw [List.filter_append, List.map_append]
  congr 1
  by_cases h : (look ts e).getD 0 = 0
  · rw [if_pos h, List.filter_cons, if_neg (by simp [h])]
    rfl
  · rw [if_neg h, List.filter_cons, if_pos (by simp [h])]
    rfl
def kept (ts : Pl) (ys : List Int) : List Int := ys.filter fun e => !decide ((look ts e).getD 0 = 0)
theorem kept_snoc (ts : Pl) (ys : List Int) (e : Int) : kept ts (ys ++ [e]) = kept ts ys ++ (if (look ts e).getD 0 = 0 then [] else [e]) := by
  unfold kept
  rw [List.filter_append]
  congr 1
  by_cases h : (look ts e).getD 0 = 0
  · rw [if_pos h, List.filter_cons, if_neg (by simp [h])]
    rfl
  · rw [if_neg h, List.filter_cons, if_pos (by simp [h])]
    rfl
theorem get_int {ys : List Int} {j : Nat} {x : V} (h : (ys.map V.int)[j]? = some x) : ∃ e, x = .int e ∧ ys[j]? = some e := by
  rw [List.getElem?_map] at h
  cases e : ys[j]? with
  | none => rw [e] at h; cases h
  | some y => rw [e] at h; exact ⟨y, (Option.some.inj h).symm, rfl⟩
/-- what normalize promises of the pairs ps -/
def spNorm (K : PySem.W.Frag) : Sp := fun vs H Q _ => ∃ (p : Int) (a : Addr) (ps : Pl), vs = [.int p, .ref a] ∧ 0 < p ∧ (PolyAt K H a ps ∨ PolyL K H a ps) ∧ ps.length ≤ 1000 ∧
  ∀ (H' : Hp) (r : Addr) (qs : Pl), Same H H' → PolyF K H' r qs → Canon p qs → (∀ e, ev qs e = ev ps e % p) → qs.length ≤ ps.length → Q (.ref r) H'
section
variable {P : Program} {w : World} {K : PySem.W.Frag} {mg : Str → Option Value} {base : Heap}
theorem scNorm : FnScope ["prime", "pairs", "terms", "exponent", "coefficient"] ["prime", "pairs"] (defScope sNorm) := ⟨rfl, rfl, rfl, by decide +kernel, rfl, by decide +kernel, by decide +kernel⟩
/-- the loop's state -/
def NormSt (tl : L2.St) (p : Int) (a t : Addr) (H : Hp) (ps : Pl) (i : Nat) (σ : L2.St) (Hc : Hp) : Prop :=
  ∃ (ts : Pl) (y3 y4 : Option V), σ = some (.int p) :: some (.ref a) :: some (.ref t) :: y3 :: y4 :: tl ∧ Same H Hc ∧ Hc t = some (.dK (dk ts)) ∧ Tab p ts (ps.take i)
/-- one turn of the table -/
theorem norm_turn {tl : L2.St} {p : Int} (hp : 0 < p) {a t : Addr} {H : Hp} (nt : H t = none) {ps : Pl} (hl : ps.length ≤ 1000) {i : Nat} {as : List Addr} (hpr : Prs K H as ps) {x : V} {σ : L2.St} {Hc : Hp} (hx : (as.map V.ref)[i]? = some x) (h : NormSt tl p a t H ps i σ Hc) :
    ∃ (b : Addr) (q : Int × Int) (ts : Pl) (y3 y4 : Option V), x = .ref b ∧ SqT K Hc b [.int q.1, .int q.2] ∧ σ = some (.int p) :: some (.ref a) :: some (.ref t) :: y3 :: y4 :: tl ∧ Hc t = some (.dK (dk ts)) ∧ (dk ts).length < sizeLine ∧
      NormSt tl p a t H ps (i + 1) (some (.int p) :: some (.ref a) :: some (.ref t) :: some (.int q.1) :: some (.int q.2) :: tl) (upd Hc t (.dK (putK (dk ts) (Sum.inl q.1 : Key) (.int (((look ts q.1).getD 0 + q.2) % p))))) := by
  obtain ⟨b, q, rfl, _, e2, e3⟩ := hpr.get hx
  obtain ⟨ts, y3, y4, rfl, sm, ht, T⟩ := h
  refine ⟨b, q, ts, y3, y4, rfl, seqT_same sm e3, rfl, ht, ?_, put ts q.1 (((look ts q.1).getD 0 + q.2) % p), some (.int q.1), some (.int q.2), rfl, same_over sm nt, ?_, ?_⟩
  · rw [dk_len]
    have := T.len
    rw [List.length_take] at this
    exact small1000 (by omega)
  · rw [upd_same, dk_put]
  · rw [take_snoc e2]
    exact T.step q
theorem ok_norm {f : Addr} {fd : FuncData} (F : Fun K "normalize" "normalize" sNorm f fd) (mT : mg "tuple" = none) (mS : mg "sorted" = none) : FnOk P w K mg base CX0 1 f fd ["prime", "pairs"] (spNorm K) := by
  refine F.ok scNorm (fun vs H Q E h => ?_) (fun cdv A outer s H vs Q E hr h => ?_)
  · obtain ⟨p, a, ps, rfl, _⟩ := h
    rfl
  · obtain ⟨p, a, ps, rfl, hp, hps, hlen, k⟩ := h
    have hu := hu_of hr
    refine ⟨_, pss_cons (ps_set (i := 2) scNorm.nd rfl (.inr rfl) pe_dnewK)
      (pss_cons (ps_for PassesOwn.never rfl (pi_or (pi_tup (pv 1)) (pi_list (pv 1))) (pg_tup rfl (pgs_cons (pg_name (i := 3) scNorm.nd rfl (.inl rfl)) (pgs_cons (pg_name (i := 4) scNorm.nd rfl (.inl rfl)) pgs_nil)))
        (pss_one (ps_dput hu (pv 2) (pv 3) (pe_op op_mod (pe_op op_add (pe_dget2 hu (pv 2) (pv 3) pe_int ⟨rfl, rfl, rfl, rfl⟩) (pv 4)) (pv 0)) rfl)))
      (pss_one (ps_ret (pe_callTy call_tupF (by rfl) mT PyProof.Rows.boot_tuple (pa_cons
        (pe_lc (own := [("exponent", 3)]) (g := gName 3) rfl scNorm.nd (pi_list (pe_callB (call_sortedDA rfl) (by rfl) mS PyProof.Rows.boot_sorted (pa_cons (pv 2) pa_nil)))
          (blkOk_by (N := ["prime", "pairs", "terms", "exponent", "coefficient"]) (sc := defScope sNorm) (by decide +kernel))
          (fun _ _ _ _ _ => pg_name (i := 3) scNorm.nd rfl (.inl rfl))
          (fun _ _ _ _ _ => pts_one (pt_cmpR op_ne (pe_dget hu (pv 2) (pv 3) (fun _ _ => rfl)) pe_int (nomark _)))
          (fun _ _ _ _ _ => pe_tup (pa_cons (pv 3) (pa_cons (pe_dget hu (pv 2) (pv 3) (fun _ _ => rfl)) pa_nil)))) pa_nil))))), ?_⟩
    -- terms = {}
    intro t nt
    have h0 : NormSt [] p a t H ps 0 [some (.int p), some (.ref a), some (.ref t), none, none] (upd H t (.dK [])) := ⟨[], none, none, rfl, same_upd nt, upd_same, Tab.nil p⟩
    rcases hps with ⟨as, hs, hpr⟩ | ⟨as, hs, hpr⟩
    · refine .inl ⟨_, rfl, a, rfl, ⟨_, seqT_same (same_upd nt) hs⟩, for_tup (K := K) (a := a) (xs := as.map V.ref) (NormSt [] p a t H ps) h0 (fun i σ Hc _ ⟨_, _, _, _, sm, _⟩ => seqT_same sm hs) ?_ ?_⟩
      · intro i x σ Hc hx hN
        obtain ⟨b, q, ts, y3, y4, rfl, hb, rfl, ht, hsz, nxt⟩ := norm_turn hp nt hlen hpr hx hN
        refine ⟨b, _, rfl, hb, rfl, _, _, rfl, _, _, rfl, rfl, ?_⟩
        refine ⟨_, rfl, t, rfl, .inl ⟨_, .inl ht⟩, _, rfl, _, .inl ⟨dk ts, Sum.inl q.1, .inl ht, rfl, rfl⟩, ?_⟩
        refine ⟨_, rfl, (look ts q.1).getD 0, q.2, by rw [dk_val]; exact dget0 _, rfl, _, rfl, _, p, rfl, rfl, hp, ?_⟩
        exact ⟨_, rfl, _, rfl, t, _, rfl, DPut.k (k := Sum.inl q.1) ht hsz, nxt⟩
      · intro σ Hc hN
        rw [List.length_map, hpr.len] at hN
        obtain ⟨ts, y3, y4, rfl, sm, ht, T⟩ := hN
        rw [List.take_length] at T
        -- sorted(terms)
        refine ⟨_, rfl, t, dk ts, ts.map (·.1), rfl, .inl ht, dk_keys ts, fun ys sp hperm hsort nsp => ⟨sp, rfl, ⟨_, SqL.of upd_same⟩, fun D nD => ?_⟩⟩
        have tsp : t ≠ sp := ne_of_none ht nsp
        have nDt : t ≠ D := fun z => by rw [← z, upd_ne tsp, ht] at nD; cases nD
        have nDs : sp ≠ D := fun z => by rw [← z, upd_same] at nD; cases nD
        have nsp0 : H sp = none := sm.free nsp
        have nD0 : H D = none := (sm.trans (same_upd nsp)).free nD
        have hyl : ∀ e ∈ ys, ∃ c, look ts e = some c := fun e he => Option.isSome_iff_exists.mp (look_mem.mp (hperm.mem_iff.mp he))
        have hyn : ys.length ≤ 1000 := by
          rw [hperm.length_eq, List.length_map]
          exact Nat.le_trans T.len hlen
        refine lc_list (K := K) (a := sp) (xs := ys.map V.int) (fun j Hx => ∃ bs : List Addr, Same H Hx ∧ Hx t = some (.dK (dk ts)) ∧ Hx sp = some (.lst (ys.map V.int)) ∧ Hx D = some (.lst (bs.map V.ref)) ∧ Prs K Hx bs (out ts (ys.take j)) ∧ bs.length ≤ j)
          ⟨[], (sm.trans (same_upd nsp)).trans (same_upd nD), by rw [upd_ne nDt, upd_ne tsp]; exact ht, by rw [upd_ne nDs, upd_same], upd_same, .nil, Nat.le_refl _⟩ (fun j Hx _ ⟨_, _, _, h3, _⟩ => SqL.of h3) ?_ ?_
        · rintro j x Hx hx ⟨bs, s1, h1, h2, h3, h4, h5⟩
          obtain ⟨e, rfl, hj⟩ := get_int hx
          obtain ⟨c, hc⟩ := hyl e (List.mem_of_getElem? hj)
          have hjl : j < ys.length := (List.getElem?_eq_some_iff.mp hj).1
          have gt : ∀ Hz : Hp, Hz t = some (.dK (dk ts)) → DGet Hz t (.int e) (some (.int c)) := fun Hz hz => .inl ⟨dk ts, Sum.inl e, .inl hz, rfl, by rw [dk_val, hc]; rfl⟩
          refine ⟨rfl, ⟨_, rfl, _, rfl, t, _, rfl, gt _ h1, rfl, _, rfl, ite2 (fun hne => ?_) (fun heq => ?_)⟩⟩
          · have hc0 : ¬ c = 0 := fun z => by rw [z] at hne; simp at hne
            refine ⟨_, rfl, _, rfl, _, rfl, t, _, rfl, gt _ h1, by show 2 ≤ sizeLine; decide, fun q nq => ?_⟩
            have qD : D ≠ q := ne_of_none h3 nq
            refine ⟨bs.map V.ref, by rw [upd_ne qD]; exact h3, by rw [List.length_map]; exact small1000 (by omega), bs ++ [q], ?_, ?_, ?_, ?_, ?_, ?_⟩
            · exact same_over (s1.trans (same_upd nq)) nD0
            · rw [upd_ne nDt, upd_ne (ne_of_none h1 nq)]
              exact h1
            · rw [upd_ne nDs, upd_ne (ne_of_none h2 nq)]
              exact h2
            · rw [upd_same, List.map_append]
              rfl
            · rw [take_snoc hj, out_snoc, hc, Option.getD_some, if_neg hc0]
              have keep : ∀ {b : Addr} {zs : List V}, SqT K Hx b zs → SqT K (upd (upd Hx q (.tup [.int e, .int c])) D (.lst (bs.map V.ref ++ [V.ref q]))) b zs := fun {b zs} z => by
                rcases z with (z | ⟨o, z⟩) | z
                · exact .inl (.inl (by rw [upd_ne (ne_of z h3 (by intro y; cases y)), upd_ne (ne_of_none z nq)]; exact z))
                · exact .inl (.inr ⟨o, by rw [upd_ne (ne_of z h3 (by intro y; cases y)), upd_ne (ne_of_none z nq)]; exact z⟩)
                · exact .inr z
              refine Prs.snoc (Paired.mapP h4 fun _ _ z => keep z) (SqT.of ?_)
              rw [upd_ne qD.symm, upd_same]
            · rw [List.length_append, List.length_singleton]
              omega
          · have hc0 : c = 0 := by simpa using heq
            refine ⟨bs, s1, h1, h2, h3, ?_, by omega⟩
            rw [take_snoc hj, out_snoc, hc, Option.getD_some, if_pos hc0, List.append_nil]
            exact h4
        · rintro Hx ⟨bs, s1, h1, h2, h3, h4, h5⟩
          rw [List.length_map, List.take_length] at h4
          refine ⟨D, _, rfl, SqL.of h3, fun r o nr ho => ?_⟩
          obtain ⟨c1, c2, c3⟩ := T.out hp hperm hsort
          exact k _ r (out ts ys) (s1.trans (same_upd nr)) ⟨bs, o, upd_same, ho, h4.same (same_upd nr)⟩ c1 c2 c3
    · refine .inr ⟨_, rfl, a, rfl, ⟨_, (same_upd nt).seq hs⟩, for_list (K := K) (a := a) (xs := as.map V.ref) (NormSt [] p a t H ps) h0 (fun i σ Hc _ ⟨_, _, _, _, sm, _⟩ => sm.seq hs) ?_ ?_⟩
      · intro i x σ Hc hx hN
        obtain ⟨b, q, ts, y3, y4, rfl, hb, rfl, ht, hsz, nxt⟩ := norm_turn hp nt hlen hpr hx hN
        refine ⟨b, _, rfl, hb, rfl, _, _, rfl, _, _, rfl, rfl, ?_⟩
        refine ⟨_, rfl, t, rfl, .inl ⟨_, .inl ht⟩, _, rfl, _, .inl ⟨dk ts, Sum.inl q.1, .inl ht, rfl, rfl⟩, ?_⟩
        refine ⟨_, rfl, (look ts q.1).getD 0, q.2, by rw [dk_val]; exact dget0 _, rfl, _, rfl, _, p, rfl, rfl, hp, ?_⟩
        exact ⟨_, rfl, _, rfl, t, _, rfl, DPut.k (k := Sum.inl q.1) ht hsz, nxt⟩
      · intro σ Hc hN
        rw [List.length_map, hpr.len] at hN
        obtain ⟨ts, y3, y4, rfl, sm, ht, T⟩ := hN
        rw [List.take_length] at T
        -- sorted(terms)
        refine ⟨_, rfl, t, dk ts, ts.map (·.1), rfl, .inl ht, dk_keys ts, fun ys sp hperm hsort nsp => ⟨sp, rfl, ⟨_, SqL.of upd_same⟩, fun D nD => ?_⟩⟩
        have tsp : t ≠ sp := ne_of_none ht nsp
        have nDt : t ≠ D := fun z => by rw [← z, upd_ne tsp, ht] at nD; cases nD
        have nDs : sp ≠ D := fun z => by rw [← z, upd_same] at nD; cases nD
        have nsp0 : H sp = none := sm.free nsp
        have nD0 : H D = none := (sm.trans (same_upd nsp)).free nD
        have hyl : ∀ e ∈ ys, ∃ c, look ts e = some c := fun e he => Option.isSome_iff_exists.mp (look_mem.mp (hperm.mem_iff.mp he))
        have hyn : ys.length ≤ 1000 := by
          rw [hperm.length_eq, List.length_map]
          exact Nat.le_trans T.len hlen
        refine lc_list (K := K) (a := sp) (xs := ys.map V.int) (fun j Hx => ∃ bs : List Addr, Same H Hx ∧ Hx t = some (.dK (dk ts)) ∧ Hx sp = some (.lst (ys.map V.int)) ∧ Hx D = some (.lst (bs.map V.ref)) ∧ Prs K Hx bs (out ts (ys.take j)) ∧ bs.length ≤ j)
          ⟨[], (sm.trans (same_upd nsp)).trans (same_upd nD), by rw [upd_ne nDt, upd_ne tsp]; exact ht, by rw [upd_ne nDs, upd_same], upd_same, .nil, Nat.le_refl _⟩ (fun j Hx _ ⟨_, _, _, h3, _⟩ => SqL.of h3) ?_ ?_
        · rintro j x Hx hx ⟨bs, s1, h1, h2, h3, h4, h5⟩
          obtain ⟨e, rfl, hj⟩ := get_int hx
          obtain ⟨c, hc⟩ := hyl e (List.mem_of_getElem? hj)
          have hjl : j < ys.length := (List.getElem?_eq_some_iff.mp hj).1
          have gt : ∀ Hz : Hp, Hz t = some (.dK (dk ts)) → DGet Hz t (.int e) (some (.int c)) := fun Hz hz => .inl ⟨dk ts, Sum.inl e, .inl hz, rfl, by rw [dk_val, hc]; rfl⟩
          refine ⟨rfl, ⟨_, rfl, _, rfl, t, _, rfl, gt _ h1, rfl, _, rfl, ite2 (fun hne => ?_) (fun heq => ?_)⟩⟩
          · have hc0 : ¬ c = 0 := fun z => by rw [z] at hne; simp at hne
            refine ⟨_, rfl, _, rfl, _, rfl, t, _, rfl, gt _ h1, by show 2 ≤ sizeLine; decide, fun q nq => ?_⟩
            have qD : D ≠ q := ne_of_none h3 nq
            refine ⟨bs.map V.ref, by rw [upd_ne qD]; exact h3, by rw [List.length_map]; exact small1000 (by omega), bs ++ [q], ?_, ?_, ?_, ?_, ?_, ?_⟩
            · exact same_over (s1.trans (same_upd nq)) nD0
            · rw [upd_ne nDt, upd_ne (ne_of_none h1 nq)]
              exact h1
            · rw [upd_ne nDs, upd_ne (ne_of_none h2 nq)]
              exact h2
            · rw [upd_same, List.map_append]
              rfl
            · rw [take_snoc hj, out_snoc, hc, Option.getD_some, if_neg hc0]
              have keep : ∀ {b : Addr} {zs : List V}, SqT K Hx b zs → SqT K (upd (upd Hx q (.tup [.int e, .int c])) D (.lst (bs.map V.ref ++ [V.ref q]))) b zs := fun {b zs} z => by
                rcases z with (z | ⟨o, z⟩) | z
                · exact .inl (.inl (by rw [upd_ne (ne_of z h3 (by intro y; cases y)), upd_ne (ne_of_none z nq)]; exact z))
                · exact .inl (.inr ⟨o, by rw [upd_ne (ne_of z h3 (by intro y; cases y)), upd_ne (ne_of_none z nq)]; exact z⟩)
                · exact .inr z
              refine Prs.snoc (Paired.mapP h4 fun _ _ z => keep z) (SqT.of ?_)
              rw [upd_ne qD.symm, upd_same]
            · rw [List.length_append, List.length_singleton]
              omega
          · have hc0 : c = 0 := by simpa using heq
            refine ⟨bs, s1, h1, h2, h3, ?_, by omega⟩
            rw [take_snoc hj, out_snoc, hc, Option.getD_some, if_pos hc0, List.append_nil]
            exact h4
        · rintro Hx ⟨bs, s1, h1, h2, h3, h4, h5⟩
          rw [List.length_map, List.take_length] at h4
          refine ⟨D, _, rfl, SqL.of h3, fun r o nr ho => ?_⟩
          obtain ⟨c1, c2, c3⟩ := T.out hp hperm hsort
          exact k _ r (out ts ys) (s1.trans (same_upd nr)) ⟨bs, o, upd_same, ho, h4.same (same_upd nr)⟩ c1 c2 c3
/-! ### the law's own -/
def spNormal (K : PySem.W.Frag) : Sp := fun vs H Q _ => ∃ (p : Int) (a : Addr) (ps : Pl), vs = [.int p, .ref a] ∧ 0 < p ∧ PolyL K H a ps ∧ ps.length ≤ 1000 ∧
  ∀ (H' : Hp) (r : Addr) (qs : Pl), Same H H' → PolyF K H' r qs → Canon p qs → (∀ e, ev qs e = ev ps e % p) → qs.length ≤ ps.length → Q (.ref r) H'
theorem scNormal : FnScope ["_law_prime_here", "_law_pairs", "_law_terms", "_law_exponent", "_law_coefficient", "_law_kept"] ["_law_prime_here", "_law_pairs"] (defScope sNormal) := ⟨rfl, rfl, rfl, by decide +kernel, rfl, by decide +kernel, by decide +kernel⟩
theorem ok_normal {f : Addr} {fd : FuncData} (F : Fun K "_law_normal" "_law_normal" sNormal f fd) (mT : mg "tuple" = none) (mS : mg "sorted" = none) : FnOk P w K mg base CX0 1 f fd ["_law_prime_here", "_law_pairs"] (spNormal K) := by
  refine F.ok scNormal (fun vs H Q E h => ?_) (fun cdv A outer s H vs Q E hr h => ?_)
  · obtain ⟨p, a, ps, rfl, _⟩ := h
    rfl
  · obtain ⟨p, a, ps, rfl, hp, ⟨as, hs, hpr⟩, hlen, k⟩ := h
    have hu := hu_of hr
    refine ⟨_, pss_cons (ps_set (i := 2) scNormal.nd rfl (.inr rfl) pe_dnewK)
      (pss_cons (ps_for PassesOwn.never rfl (pi_list (pv 1)) (pg_tup rfl (pgs_cons (pg_name (i := 3) scNormal.nd rfl (.inl rfl)) (pgs_cons (pg_name (i := 4) scNormal.nd rfl (.inl rfl)) pgs_nil)))
        (pss_one (ps_dput hu (pv 2) (pv 3) (pe_op op_mod (pe_op op_add (pe_dget2 hu (pv 2) (pv 3) pe_int ⟨rfl, rfl, rfl, rfl⟩) (pv 4)) (pv 0)) rfl)))
      (pss_cons (ps_setLc (i := 5) (own := [("_law_exponent", 3)]) (g := gName 3) rfl scNormal.nd rfl rfl (sw_true rfl rfl rfl (by decide +kernel)) (pi_list (pe_callB (call_sortedDA rfl) (by rfl) mS PyProof.Rows.boot_sorted (pa_cons (pv 2) pa_nil)))
          (blkOk_by (N := ["_law_prime_here", "_law_pairs", "_law_terms", "_law_exponent", "_law_coefficient", "_law_kept"]) (sc := defScope sNormal) (by decide +kernel))
          (fun _ _ _ _ _ => pg_name (i := 3) scNormal.nd rfl (.inl rfl))
          (fun _ _ _ _ _ => pts_one (pt_cmpR op_ne (pe_dget hu (pv 2) (pv 3) (fun _ _ => rfl)) pe_int (nomark _)))
          (fun _ _ _ _ _ => pv 3))
      (pss_one (ps_ret (pe_callTy call_tupF (by rfl) mT PyProof.Rows.boot_tuple (pa_cons
        (pe_lc (own := [("_law_exponent", 3)]) (g := gName 3) (tt := tYes) rfl scNormal.nd (pi_list (pv 5))
          (blkOk_by (N := ["_law_prime_here", "_law_pairs", "_law_terms", "_law_exponent", "_law_coefficient", "_law_kept"]) (sc := defScope sNormal) (by decide +kernel))
          (fun _ _ _ _ _ => pg_name (i := 3) scNormal.nd rfl (.inl rfl))
          (fun _ _ _ _ _ => pts_nil)
          (fun _ _ _ _ _ => pe_tup (pa_cons (pv 3) (pa_cons (pe_dget hu (pv 2) (pv 3) (fun _ _ => rfl)) pa_nil)))) pa_nil)))))), ?_⟩
    intro t nt
    have h0 : NormSt [none] p a t H ps 0 [some (.int p), some (.ref a), some (.ref t), none, none, none] (upd H t (.dK [])) := ⟨[], none, none, rfl, same_upd nt, upd_same, Tab.nil p⟩
    refine ⟨_, rfl, a, rfl, ⟨_, (same_upd nt).seq hs⟩, for_list (K := K) (a := a) (xs := as.map V.ref) (NormSt [none] p a t H ps) h0 (fun i σ Hc _ ⟨_, _, _, _, sm, _⟩ => sm.seq hs) ?_ ?_⟩
    · intro i x σ Hc hx hN
      obtain ⟨b, q, ts, y3, y4, rfl, hb, rfl, ht, hsz, nxt⟩ := norm_turn hp nt hlen hpr hx hN
      refine ⟨b, _, rfl, hb, rfl, _, _, rfl, _, _, rfl, rfl, ?_⟩
      refine ⟨_, rfl, t, rfl, .inl ⟨_, .inl ht⟩, _, rfl, _, .inl ⟨dk ts, Sum.inl q.1, .inl ht, rfl, rfl⟩, ?_⟩
      refine ⟨_, rfl, (look ts q.1).getD 0, q.2, by rw [dk_val]; exact dget0 _, rfl, _, rfl, _, p, rfl, rfl, hp, ?_⟩
      exact ⟨_, rfl, _, rfl, t, _, rfl, DPut.k (k := Sum.inl q.1) ht hsz, nxt⟩
    · intro σ Hc hN
      rw [List.length_map, hpr.len] at hN
      obtain ⟨ts, y3, y4, rfl, sm, ht, T⟩ := hN
      rw [List.take_length] at T
      -- sorted(terms)
      refine ⟨_, rfl, t, dk ts, ts.map (·.1), rfl, .inl ht, dk_keys ts, fun ys sp hperm hsort nsp => ⟨sp, rfl, ⟨_, SqL.of upd_same⟩, fun D nD => ?_⟩⟩
      have tsp : t ≠ sp := ne_of_none ht nsp
      have nDt : t ≠ D := fun z => by rw [← z, upd_ne tsp, ht] at nD; cases nD
      have nDs : sp ≠ D := fun z => by rw [← z, upd_same] at nD; cases nD
      have nD0 : H D = none := (sm.trans (same_upd nsp)).free nD
      have hyl : ∀ e ∈ ys, ∃ c, look ts e = some c := fun e he => Option.isSome_iff_exists.mp (look_mem.mp (hperm.mem_iff.mp he))
      have hyn : ys.length ≤ 1000 := by
        rw [hperm.length_eq, List.length_map]
        exact Nat.le_trans T.len hlen
      have gt : ∀ (Hz : Hp) (e c : Int), look ts e = some c → Hz t = some (.dK (dk ts)) → DGet Hz t (.int e) (some (.int c)) := fun Hz e c hc hz => .inl ⟨dk ts, Sum.inl e, .inl hz, rfl, by rw [dk_val, hc]; rfl⟩
      -- the exponents that are kept
      refine lc_list (K := K) (a := sp) (xs := ys.map V.int) (fun j Hx => Same H Hx ∧ Hx t = some (.dK (dk ts)) ∧ Hx sp = some (.lst (ys.map V.int)) ∧ Hx D = some (.lst ((kept ts (ys.take j)).map V.int)))
        ⟨(sm.trans (same_upd nsp)).trans (same_upd nD), by rw [upd_ne nDt, upd_ne tsp]; exact ht, by rw [upd_ne nDs, upd_same], upd_same⟩ (fun j Hx _ ⟨_, _, h3, _⟩ => SqL.of h3) ?_ ?_
      · rintro j x Hx hx ⟨s1, h1, h2, h3⟩
        obtain ⟨e, rfl, hj⟩ := get_int hx
        obtain ⟨c, hc⟩ := hyl e (List.mem_of_getElem? hj)
        refine ⟨rfl, ⟨_, rfl, _, rfl, t, _, rfl, gt _ e c hc h1, rfl, _, rfl, ite2 (fun hne => ?_) (fun heq => ?_)⟩⟩
        · have hc0 : ¬ c = 0 := fun z => by rw [z] at hne; simp at hne
          refine ⟨_, rfl, (kept ts (ys.take j)).map V.int, h3, ?_, same_over s1 nD0, by rw [upd_ne nDt]; exact h1, by rw [upd_ne nDs]; exact h2, ?_⟩
          · rw [List.length_map]
            refine small1000 (Nat.le_trans (List.length_filter_le _ _) ?_)
            rw [List.length_take]
            omega
          · rw [upd_same, take_snoc hj, kept_snoc, hc, Option.getD_some, if_neg hc0, List.map_append]
            rfl
        · have hc0 : c = 0 := by simpa using heq
          refine ⟨s1, h1, h2, ?_⟩
          rw [take_snoc hj, kept_snoc, hc, Option.getD_some, if_pos hc0, List.append_nil]
          exact h3
      · rintro Hx ⟨s1, h1, _, h3⟩
        rw [List.length_map, List.take_length] at h3
        -- the terms
        refine ⟨_, rfl, D, rfl, ⟨_, SqL.of h3⟩, fun D2 nD2 => ?_⟩
        have d2t : t ≠ D2 := ne_of_none h1 nD2
        have d2D : D ≠ D2 := ne_of_none h3 nD2
        have nD20 : H D2 = none := s1.free nD2
        have hkm : ∀ e ∈ kept ts ys, ∃ c, look ts e = some c := fun e he => hyl e (List.mem_filter.mp he).1
        have hkn : (kept ts ys).length ≤ 1000 := Nat.le_trans (List.length_filter_le _ _) hyn
        refine lc_list (K := K) (a := D) (xs := (kept ts ys).map V.int) (fun j Hx => ∃ bs : List Addr, Same H Hx ∧ Hx t = some (.dK (dk ts)) ∧ Hx D = some (.lst ((kept ts ys).map V.int)) ∧ Hx D2 = some (.lst (bs.map V.ref)) ∧ Prs K Hx bs (((kept ts ys).take j).map fun e => (e, (look ts e).getD 0)) ∧ bs.length ≤ j)
          ⟨[], s1.trans (same_upd nD2), by rw [upd_ne d2t]; exact h1, by rw [upd_ne d2D]; exact h3, upd_same, .nil, Nat.le_refl _⟩ (fun j Hx _ ⟨_, _, _, h3, _⟩ => SqL.of h3) ?_ ?_
        · rintro j x Hy hx ⟨bs, s1, h1, h2, h3, h4, h5⟩
          obtain ⟨e, rfl, hj⟩ := get_int hx
          obtain ⟨c, hc⟩ := hkm e (List.mem_of_getElem? hj)
          have hjl : j < (kept ts ys).length := (List.getElem?_eq_some_iff.mp hj).1
          refine ⟨rfl, ?_⟩
          refine ⟨_, rfl, _, rfl, _, rfl, t, _, rfl, gt _ e c hc h1, by show 2 ≤ sizeLine; decide, fun q nq => ?_⟩
          have qD : D2 ≠ q := ne_of_none h3 nq
          refine ⟨bs.map V.ref, by rw [upd_ne qD]; exact h3, by rw [List.length_map]; exact small1000 (by omega), bs ++ [q], ?_, ?_, ?_, ?_, ?_, ?_⟩
          · exact same_over (s1.trans (same_upd nq)) nD20
          · rw [upd_ne d2t, upd_ne (ne_of_none h1 nq)]
            exact h1
          · rw [upd_ne d2D, upd_ne (ne_of_none h2 nq)]
            exact h2
          · rw [upd_same, List.map_append]
            rfl
          · rw [take_snoc hj, List.map_append]
            have keep : ∀ {b : Addr} {zs : List V}, SqT K Hy b zs → SqT K (upd (upd Hy q (.tup [.int e, .int c])) D2 (.lst (bs.map V.ref ++ [V.ref q]))) b zs := fun {b zs} z => by
              rcases z with (z | ⟨o, z⟩) | z
              · exact .inl (.inl (by rw [upd_ne (ne_of z h3 (by intro y; cases y)), upd_ne (ne_of_none z nq)]; exact z))
              · exact .inl (.inr ⟨o, by rw [upd_ne (ne_of z h3 (by intro y; cases y)), upd_ne (ne_of_none z nq)]; exact z⟩)
              · exact .inr z
            refine Prs.snoc (Paired.mapP h4 fun _ _ z => keep z) (q := (e, (look ts e).getD 0)) (SqT.of ?_)
            rw [upd_ne qD.symm, upd_same, hc]
            rfl
          · rw [List.length_append, List.length_singleton]
            omega
        · rintro Hy ⟨bs, s1, h1, h2, h3, h4, h5⟩
          rw [List.length_map, List.take_length] at h4
          refine ⟨D2, _, rfl, SqL.of h3, fun r o nr ho => ?_⟩
          obtain ⟨c1, c2, c3⟩ := T.out hp hperm hsort
          exact k _ r (out ts ys) (s1.trans (same_upd nr)) ⟨bs, o, upd_same, ho, Prs.same (same_upd nr) h4⟩ c1 c2 c3
end
end Dr
/-! add, scale, move, compose, inverse. -/
namespace Dr
open PySem PySem.Spec PyProof.Rows L2
/-! ### promises -/
def spAdd (K : PySem.W.Frag) : Sp := fun vs H Q _ => ∃ (p : Int) (a b : Addr) (ps qs : Pl), vs = [.int p, .ref a, .ref b] ∧ 0 < p ∧ PolyAt K H a ps ∧ PolyAt K H b qs ∧ ps.length + qs.length ≤ 1000 ∧
  ∀ (H' : Hp) (r : Addr) (rs : Pl), Same H H' → PolyF K H' r rs → Canon p rs → (∀ e, ev rs e = (ev ps e + ev qs e) % p) → rs.length ≤ ps.length + qs.length → Q (.ref r) H'
def spScale (K : PySem.W.Frag) : Sp := fun vs H Q _ => ∃ (p : Int) (a : Addr) (ps : Pl) (m : Int), vs = [.int p, .ref a, .int m] ∧ 0 < p ∧ PolyAt K H a ps ∧ ps.length ≤ 1000 ∧ (-(2 ^ 64) < m ∧ m < 2 ^ 64) ∧
  ∀ (H' : Hp) (r : Addr) (rs : Pl), Same H H' → PolyF K H' r rs → Canon p rs → (∀ e, ev rs e = (ev ps e * m) % p) → rs.length ≤ ps.length → Q (.ref r) H'
def spMove (K : PySem.W.Frag) : Sp := fun vs H Q _ => ∃ (a : Addr) (ps : Pl) (m : Int), vs = [.ref a, .int m] ∧ PolyAt K H a ps ∧ ps.length ≤ 1000 ∧
  ∀ (H' : Hp) (r : Addr), Same H H' → PolyAt K H' r (mv ps m) → Q (.ref r) H'
def spCompose (K : PySem.W.Frag) : Sp := fun vs H Q _ => ∃ (p : Int) (a b : Addr) (ps qs : Pl) (s t : Int), vs = [.int p, .ref a, .ref b] ∧ 0 < p ∧ EffAt K H a ps s ∧ EffAt K H b qs t ∧ ps.length + qs.length ≤ 1000 ∧
  ∀ (H' : Hp) (r : Addr) (rs : Pl), Same H H' → EffAt K H' r rs (s + t) → Canon p rs → (∀ e, ev rs e = (ev ps e + ev qs (e - s)) % p) → rs.length ≤ ps.length + qs.length → Q (.ref r) H'
def spInverse (K : PySem.W.Frag) : Sp := fun vs H Q _ => ∃ (p : Int) (a : Addr) (ps : Pl) (s : Int), vs = [.int p, .ref a] ∧ 0 < p ∧ EffAt K H a ps s ∧ ps.length ≤ 1000 ∧
  ∀ (H' : Hp) (r : Addr) (rs : Pl), Same H H' → EffAt K H' r rs (-s) → Canon p rs → (∀ e, ev rs e = (ev ps (e + s) * -1) % p) → rs.length ≤ ps.length → Q (.ref r) H'
section
variable {P : Program} {w : World} {K : PySem.W.Frag} {mg : Str → Option Value} {base : Heap}
/-! ### add -/
theorem scAdd : FnScope ["prime", "one", "other"] ["prime", "one", "other"] (defScope sAdd) := ⟨rfl, rfl, rfl, by decide +kernel, rfl, by decide +kernel, by decide +kernel⟩
theorem ok_add {f fN : Addr} {fd fdN : FuncData} (F : Fun K "add" "add" sAdd f fd) (FN : Fun K "normalize" "normalize" sNorm fN fdN) (bN : Binds K fdN ["prime", "pairs"] []) (gN : mg "normalize" = some (.ref fN))
    (GN : FnOk P w K mg base CX0 1 fN fdN ["prime", "pairs"] (spNorm K)) : FnOk P w K mg base CX0 2 f fd ["prime", "one", "other"] (spAdd K) := by
  refine F.ok scAdd (fun vs H Q E h => ?_) (fun cdv A outer s H vs Q E hr h => ?_)
  · obtain ⟨p, a, b, ps, qs, rfl, _⟩ := h
    rfl
  · obtain ⟨p, a, b, ps, qs, rfl, hp, ⟨as, ha, hpa⟩, ⟨bs, hb, hpb⟩, hlen, k⟩ := h
    refine ⟨_, pss_one (ps_ret (pe_call GN hr (by rfl) gN FN.kp bN .nil pass0 (pa_cons (pv 0) (pa_cons (pe_op op_catA (pv 1) (pv 2)) pa_nil)))), ?_⟩
    have la := hpa.len
    have lb := hpb.len
    have core : ∀ (x : Addr) (Hx : Hp), Same H Hx → SqT K Hx x (as.map V.ref ++ bs.map V.ref) → spNorm K [.int p, .ref x] Hx Q E0 := fun x Hx sm hx => by
      refine ⟨p, x, ps ++ qs, rfl, hp, .inl ⟨as ++ bs, by rw [List.map_append]; exact hx, (hpa.same sm).app (hpb.same sm)⟩, by rw [List.length_append]; exact hlen, fun H' r rs s' pf cn e le => ?_⟩
      exact k H' r rs (sm.trans s') pf cn (fun z => by rw [e, ev_append]) (by rw [List.length_append] at le; exact le)
    refine ⟨_, rfl, _, rfl, _, rfl, a, b, _, _, rfl, rfl, ha, hb, ?_, fun e => ?_, fun _ e => ?_, fun _ _ q nq => ?_⟩
    · rw [List.length_map, List.length_map]
      exact Nat.le_of_lt (small1000 (by omega))
    · refine core b H (Same.refl H) ?_
      rw [e, List.nil_append]
      exact hb
    · refine core a H (Same.refl H) ?_
      rw [e, List.append_nil]
      exact ha
    · exact core q _ (same_upd nq) (SqT.of upd_same)
/-! ### scale -/
theorem scScale : FnScope ["prime", "polynomial", "factor", "exponent", "coefficient"] ["prime", "polynomial", "factor"] (defScope sScale) := ⟨rfl, rfl, rfl, by decide +kernel, rfl, by decide +kernel, by decide +kernel⟩
/-- a list of pairs that grows by one -/
theorem grow {H Hx : Hp} {D q : Addr} {bs : List Addr} {rs : Pl} {z : Int × Int} (nD : H D = none) (sm : Same H Hx) (hD : Hx D = some (.lst (bs.map V.ref))) (hp : Prs K Hx bs rs) (nq : Hx q = none) :
    (upd Hx q (.tup [.int z.1, .int z.2])) D = some (.lst (bs.map V.ref)) ∧ Same H (upd (upd Hx q (.tup [.int z.1, .int z.2])) D (.lst (bs.map V.ref ++ [V.ref q]))) ∧
      (upd (upd Hx q (.tup [.int z.1, .int z.2])) D (.lst (bs.map V.ref ++ [V.ref q]))) D = some (.lst ((bs ++ [q]).map V.ref)) ∧ Prs K (upd (upd Hx q (.tup [.int z.1, .int z.2])) D (.lst (bs.map V.ref ++ [V.ref q]))) (bs ++ [q]) (rs ++ [z]) := by
  have qD : D ≠ q := ne_of_none hD nq
  refine ⟨by rw [upd_ne qD]; exact hD, same_over (sm.trans (same_upd nq)) nD, by rw [upd_same, List.map_append]; rfl, ?_⟩
  refine Prs.snoc (Paired.mapP hp fun b y z => ?_) (SqT.of (by rw [upd_ne qD.symm, upd_same]))
  rcases z with (z | ⟨o, z⟩) | z
  · exact .inl (.inl (by rw [upd_ne (ne_of z hD (by intro y; cases y)), upd_ne (ne_of_none z nq)]; exact z))
  · exact .inl (.inr ⟨o, by rw [upd_ne (ne_of z hD (by intro y; cases y)), upd_ne (ne_of_none z nq)]; exact z⟩)
  · exact .inr z
theorem ok_scale {f fN : Addr} {fd fdN : FuncData} (F : Fun K "scale" "scale" sScale f fd) (FN : Fun K "normalize" "normalize" sNorm fN fdN) (bN : Binds K fdN ["prime", "pairs"] []) (gN : mg "normalize" = some (.ref fN))
    (GN : FnOk P w K mg base CX0 1 fN fdN ["prime", "pairs"] (spNorm K)) : FnOk P w K mg base CX0 2 f fd ["prime", "polynomial", "factor"] (spScale K) := by
  refine F.ok scScale (fun vs H Q E h => ?_) (fun cdv A outer s H vs Q E hr h => ?_)
  · obtain ⟨p, a, ps, m, rfl, _⟩ := h
    rfl
  · obtain ⟨p, a, ps, m, rfl, hp, ⟨as, ha, hpa⟩, hlen, hm, k⟩ := h
    refine ⟨_, pss_one (ps_ret (pe_call GN hr (by rfl) gN FN.kp bN .nil pass0 (pa_cons (pv 0) (pa_cons
      (pe_lc (own := [("exponent", 3), ("coefficient", 4)]) (g := gTup K 2 (gCons (gName 3) (gCons (gName 4) gNil))) (tt := tYes) rfl scScale.nd (pi_tup (pv 1))
        (blkOk_by (N := ["prime", "polynomial", "factor", "exponent", "coefficient"]) (sc := defScope sScale) (by decide +kernel))
        (fun _ _ _ _ _ => pg_tup rfl (pgs_cons (pg_name (i := 3) scScale.nd rfl (.inl rfl)) (pgs_cons (pg_name (i := 4) scScale.nd rfl (.inl rfl)) pgs_nil)))
        (fun _ _ _ _ _ => pts_nil)
        (fun _ _ _ _ _ => pe_tup (pa_cons (pv 3) (pa_cons (pe_op op_mul (pv 4) (pv 2)) pa_nil)))) pa_nil)))), ?_⟩
    have la := hpa.len
    refine ⟨_, rfl, _, rfl, a, rfl, ⟨_, ha⟩, fun D nD => ?_⟩
    refine lc_tup (K := K) (a := a) (xs := as.map V.ref) (fun j Hx => ∃ bs : List Addr, Same H Hx ∧ Hx D = some (.lst (bs.map V.ref)) ∧ Prs K Hx bs (sc (ps.take j) m) ∧ bs.length ≤ j)
      ⟨[], same_upd nD, upd_same, .nil, Nat.le_refl _⟩ (fun j Hx _ ⟨_, sm, _⟩ => seqT_same sm ha) ?_ ?_
    · rintro j x Hx hx ⟨bs, sm, h3, h4, h5⟩
      obtain ⟨b, q, rfl, e1, e2, e3⟩ := hpa.get hx
      have hj : j < ps.length := (List.getElem?_eq_some_iff.mp e2).1
      refine ⟨b, _, rfl, seqT_same sm e3, rfl, _, _, rfl, _, _, rfl, rfl, ?_⟩
      refine ⟨rfl, ?_⟩
      refine ⟨_, rfl, _, rfl, _, rfl, q.2, m, rfl, rfl, .inr hm, by show 2 ≤ sizeLine; decide, fun r nr => ?_⟩
      obtain ⟨g1, g2, g3, g4⟩ := grow (z := (q.1, q.2 * m)) nD sm h3 h4 nr
      refine ⟨bs.map V.ref, g1, by rw [List.length_map]; exact small1000 (by omega), bs ++ [r], g2, g3, ?_, by rw [List.length_append, List.length_singleton]; omega⟩
      rw [take_snoc e2]
      unfold sc at g4 ⊢
      rw [List.map_append]
      exact g4
    · rintro Hx ⟨bs, sm, h3, h4, h5⟩
      rw [List.length_map, la, List.take_length] at h4
      refine ⟨p, D, sc ps m, rfl, hp, .inr ⟨bs, SqL.of h3, h4⟩, by rw [sc_len]; exact hlen, fun H' r rs s' pf cn e le => ?_⟩
      exact k H' r rs (sm.trans s') pf cn (fun z => by rw [e, ev_sc]) (by rw [sc_len] at le; exact le)
/-! ### move -/
theorem scMove : FnScope ["polynomial", "places", "exponent", "coefficient"] ["polynomial", "places"] (defScope sMove) := ⟨rfl, rfl, rfl, by decide +kernel, rfl, by decide +kernel, by decide +kernel⟩
theorem ok_move {f : Addr} {fd : FuncData} (F : Fun K "move" "move" sMove f fd) (mT : mg "tuple" = none) : FnOk P w K mg base CX0 1 f fd ["polynomial", "places"] (spMove K) := by
  refine F.ok scMove (fun vs H Q E h => ?_) (fun cdv A outer s H vs Q E hr h => ?_)
  · obtain ⟨a, ps, m, rfl, _⟩ := h
    rfl
  · obtain ⟨a, ps, m, rfl, ⟨as, ha, hpa⟩, hlen, k⟩ := h
    refine ⟨_, pss_one (ps_ret (pe_callTy call_tupF (by rfl) mT PyProof.Rows.boot_tuple (pa_cons
      (pe_lc (own := [("exponent", 2), ("coefficient", 3)]) (g := gTup K 2 (gCons (gName 2) (gCons (gName 3) gNil))) (tt := tYes) rfl scMove.nd (pi_tup (pv 0))
        (blkOk_by (N := ["polynomial", "places", "exponent", "coefficient"]) (sc := defScope sMove) (by decide +kernel))
        (fun _ _ _ _ _ => pg_tup rfl (pgs_cons (pg_name (i := 2) scMove.nd rfl (.inl rfl)) (pgs_cons (pg_name (i := 3) scMove.nd rfl (.inl rfl)) pgs_nil)))
        (fun _ _ _ _ _ => pts_nil)
        (fun _ _ _ _ _ => pe_tup (pa_cons (pe_op op_add (pv 2) (pv 1)) (pa_cons (pv 3) pa_nil)))) pa_nil))), ?_⟩
    have la := hpa.len
    refine ⟨_, rfl, a, rfl, ⟨_, ha⟩, fun D nD => ?_⟩
    refine lc_tup (K := K) (a := a) (xs := as.map V.ref) (fun j Hx => ∃ bs : List Addr, Same H Hx ∧ Hx D = some (.lst (bs.map V.ref)) ∧ Prs K Hx bs (mv (ps.take j) m) ∧ bs.length ≤ j)
      ⟨[], same_upd nD, upd_same, .nil, Nat.le_refl _⟩ (fun j Hx _ ⟨_, sm, _⟩ => seqT_same sm ha) ?_ ?_
    · rintro j x Hx hx ⟨bs, sm, h3, h4, h5⟩
      obtain ⟨b, q, rfl, e1, e2, e3⟩ := hpa.get hx
      have hj : j < ps.length := (List.getElem?_eq_some_iff.mp e2).1
      refine ⟨b, _, rfl, seqT_same sm e3, rfl, _, _, rfl, _, _, rfl, rfl, ?_⟩
      refine ⟨rfl, ?_⟩
      refine ⟨_, rfl, _, rfl, q.1, m, rfl, rfl, _, rfl, by show 2 ≤ sizeLine; decide, fun r nr => ?_⟩
      obtain ⟨g1, g2, g3, g4⟩ := grow (z := (q.1 + m, q.2)) nD sm h3 h4 nr
      refine ⟨bs.map V.ref, g1, by rw [List.length_map]; exact small1000 (by omega), bs ++ [r], g2, g3, ?_, by rw [List.length_append, List.length_singleton]; omega⟩
      rw [take_snoc e2]
      unfold mv at g4 ⊢
      rw [List.map_append]
      exact g4
    · rintro Hx ⟨bs, sm, h3, h4, h5⟩
      rw [List.length_map, la, List.take_length] at h4
      refine ⟨D, _, rfl, SqL.of h3, fun r o nr ho => ?_⟩
      exact k _ r (sm.trans (same_upd nr)) ⟨bs, .inl (.inr ⟨o, upd_same⟩), h4.same (same_upd nr)⟩
/-! ### compose -/
theorem scCompose : FnScope ["prime", "one", "other"] ["prime", "one", "other"] (defScope sCompose) := ⟨rfl, rfl, rfl, by decide +kernel, rfl, by decide +kernel, by decide +kernel⟩
theorem ok_compose {f fA fM : Addr} {fd fdA fdM : FuncData} (F : Fun K "compose" "compose" sCompose f fd) (FA : Fun K "add" "add" sAdd fA fdA) (bA : Binds K fdA ["prime", "one", "other"] []) (gA : mg "add" = some (.ref fA))
    (FM : Fun K "move" "move" sMove fM fdM) (bM : Binds K fdM ["polynomial", "places"] []) (gM : mg "move" = some (.ref fM))
    (GA : FnOk P w K mg base CX0 2 fA fdA ["prime", "one", "other"] (spAdd K)) (GM : FnOk P w K mg base CX0 1 fM fdM ["polynomial", "places"] (spMove K)) : FnOk P w K mg base CX0 3 f fd ["prime", "one", "other"] (spCompose K) := by
  refine F.ok scCompose (fun vs H Q E h => ?_) (fun cdv A outer s H vs Q E hr h => ?_)
  · obtain ⟨p, a, b, ps, qs, s, t, rfl, _⟩ := h
    rfl
  · obtain ⟨p, a, b, ps, qs, s, t, rfl, hp, ⟨a1, ha, hpa⟩, ⟨b1, hb, hpb⟩, hlen, k⟩ := h
    refine ⟨_, pss_one (ps_ret (pe_tup (pa_cons (pe_call GA hr (by rfl) gA FA.kp bA .nil pass0 (pa_cons (pv 0) (pa_cons (pe_ix ix_tup (pv 1) pe_int (fun _ _ => rfl)) (pa_cons
        (pe_call GM (hr.mono (by decide)) (by rfl) gM FM.kp bM .nil pass0 (pa_cons (pe_ix ix_tup (pv 2) pe_int (fun _ _ => rfl)) (pa_cons (pe_ix ix_tup (pv 1) pe_int (fun _ _ => rfl)) pa_nil))) pa_nil))))
      (pa_cons (pe_op op_add (pe_ix ix_tup (pv 1) pe_int (fun _ _ => rfl)) (pe_ix ix_tup (pv 2) pe_int (fun _ _ => rfl))) pa_nil)))), ?_⟩
    -- prime, one[0]
    refine ⟨_, rfl, _, rfl, a, _, 0, .ref a1, rfl, rfl, ha, atI_nat (j := 0) rfl, ?_⟩
    -- move(other[0], one[1])
    refine ⟨_, rfl, b, _, 0, .ref b1, rfl, rfl, hb, atI_nat (j := 0) rfl, _, rfl, a, _, 1, .int s, rfl, rfl, ha, atI_nat (j := 1) rfl, ?_⟩
    refine ⟨b1, qs, s, rfl, hpb, by omega, fun H1 r1 s1 h1 => ?_⟩
    -- add
    refine ⟨p, a1, r1, ps, mv qs s, rfl, hp, hpa.same s1, h1, by rw [mv_len]; exact hlen, fun H2 r2 rs s2 h2 cn e le => ?_⟩
    have s12 := s1.trans s2
    refine ⟨_, rfl, a, _, 1, .int s, rfl, rfl, seqT_same s12 ha, atI_nat (j := 1) rfl, _, rfl, b, _, 1, .int t, rfl, rfl, seqT_same s12 hb, atI_nat (j := 1) rfl, s, t, rfl, rfl, by show 2 ≤ sizeLine; decide, fun r nr => ?_⟩
    exact k _ r rs (s12.trans (same_upd nr)) ⟨r2, SqT.of upd_same, h2.at.same (same_upd nr)⟩ cn (fun z => by rw [e, ev_mv]) (by rw [mv_len] at le; exact le)
/-! ### inverse -/
theorem scInverse : FnScope ["prime", "effect"] ["prime", "effect"] (defScope sInverse) := ⟨rfl, rfl, rfl, by decide +kernel, rfl, by decide +kernel, by decide +kernel⟩
theorem ok_inverse {f fS fM : Addr} {fd fdS fdM : FuncData} (F : Fun K "inverse" "inverse" sInverse f fd) (FS : Fun K "scale" "scale" sScale fS fdS) (bS : Binds K fdS ["prime", "polynomial", "factor"] []) (gS : mg "scale" = some (.ref fS))
    (FM : Fun K "move" "move" sMove fM fdM) (bM : Binds K fdM ["polynomial", "places"] []) (gM : mg "move" = some (.ref fM))
    (GS : FnOk P w K mg base CX0 2 fS fdS ["prime", "polynomial", "factor"] (spScale K)) (GM : FnOk P w K mg base CX0 1 fM fdM ["polynomial", "places"] (spMove K)) : FnOk P w K mg base CX0 3 f fd ["prime", "effect"] (spInverse K) := by
  refine F.ok scInverse (fun vs H Q E h => ?_) (fun cdv A outer s H vs Q E hr h => ?_)
  · obtain ⟨p, a, ps, s, rfl, _⟩ := h
    rfl
  · obtain ⟨p, a, ps, s, rfl, hp, ⟨a1, ha, hpa⟩, hlen, k⟩ := h
    refine ⟨_, pss_one (ps_ret (pe_tup (pa_cons (pe_call GM (hr.mono (by decide)) (by rfl) gM FM.kp bM .nil pass0 (pa_cons
        (pe_call GS hr (by rfl) gS FS.kp bS .nil pass0 (pa_cons (pv 0) (pa_cons (pe_ix ix_tup (pv 1) pe_int (fun _ _ => rfl)) (pa_cons (pe_un un_neg pe_int) pa_nil))))
        (pa_cons (pe_un un_neg (pe_ix ix_tup (pv 1) pe_int (fun _ _ => rfl))) pa_nil)))
      (pa_cons (pe_un un_neg (pe_ix ix_tup (pv 1) pe_int (fun _ _ => rfl))) pa_nil)))), ?_⟩
    -- scale(prime, effect[0], -1)
    refine ⟨_, rfl, _, rfl, a, _, 0, .ref a1, rfl, rfl, ha, atI_nat (j := 0) rfl, 1, rfl, ?_⟩
    refine ⟨p, a1, ps, -1, rfl, hp, hpa, hlen, ⟨by decide, by decide⟩, fun H1 r1 rs s1 h1 cn e le => ?_⟩
    -- move(.., -effect[1])
    refine ⟨_, rfl, a, _, 1, .int s, rfl, rfl, seqT_same s1 ha, atI_nat (j := 1) rfl, s, rfl, ?_⟩
    refine ⟨r1, rs, -s, rfl, h1.at, by omega, fun H2 r2 s2 h2 => ?_⟩
    have s12 := s1.trans s2
    refine ⟨_, rfl, a, _, 1, .int s, rfl, rfl, seqT_same s12 ha, atI_nat (j := 1) rfl, s, rfl, by show 2 ≤ sizeLine; decide, fun r nr => ?_⟩
    exact k _ r (mv rs (-s)) (s12.trans (same_upd nr)) ⟨r2, SqT.of upd_same, h2.same (same_upd nr)⟩ (cn.mv _) (fun z => by rw [ev_mv, e, show z - -s = z + s by omega]) (by rw [mv_len]; exact le)
end
end Dr
/-! power, apply, _law_moved_dials. -/
namespace Dr
open PySem PySem.Spec PyProof.Rows L2
def spPower (K : PySem.W.Frag) : Sp := fun vs H Q _ => ∃ (p : Int) (a : Addr) (ps : Pl) (s : Int) (n : Nat), vs = [.int p, .ref a, .int (n : Int)] ∧ 0 < p ∧ EffAt K H a ps s ∧ Canon p ps ∧ ps.length ≤ 8 ∧ n ≤ 7 ∧
  ∀ (H' : Hp) (r : Addr) (rs : Pl), Same H H' → EffAt K H' r rs ((n : Int) * s) → Canon p rs → (∀ e, ev rs e = pw (ev ps) s n e % p) → rs.length ≤ 8 * n → Q (.ref r) H'
def spApply (K : PySem.W.Frag) : Sp := fun vs H Q _ => ∃ (p : Int) (a d : Addr) (ps D : Pl) (s x : Int), vs = [.int p, .ref a, .ref d, .int x] ∧ 0 < p ∧ EffAt K H a ps s ∧ DialAt H d D ∧ D.length + ps.length ≤ 1000 ∧
  ∀ (H' : Hp) (r : Addr) (rs : Pl), Same H H' → StAt K H' r rs (x + s) → Canon p rs → (∀ e, ev rs e = (ev D e + ev ps (e - x)) % p) → rs.length ≤ D.length + ps.length → Q (.ref r) H'
def spMoved (K : PySem.W.Frag) : Sp := fun vs H Q _ => ∃ (p : Int) (d : Addr) (D : Pl) (m : Int), vs = [.ref d, .int m] ∧ DialAt H d D ∧ Canon p D ∧ D.length ≤ 1000 ∧
  ∀ (H' : Hp) (r : Addr), Same H H' → DialAt H' r (mv D m) → Q (.ref r) H'
theorem prs_dk {K : PySem.W.Frag} {H : Hp} : ∀ {ts : List Addr} {D : Pl}, Paired (fun (t : Addr) (q : Key × V) => H t = some (.tup [kV q.1, q.2])) ts (dk D) → Prs K H ts D
  | [], [], _ => .nil
  | _ :: _, [], h => by cases h
  | [], _ :: _, h => by cases h
  | _ :: _, _ :: _, .cons r t => .cons (SqT.of r) (prs_dk t)
theorem dk_prs {K : PySem.W.Frag} {H : Hp} : ∀ {ts : List Addr} {D : Pl}, Prs K H ts D → Paired (fun (t : Addr) (q : Key × V) => SqT K H t [kV q.1, q.2]) ts (dk D)
  | _, _, .nil => .nil
  | _, _, .cons r t => .cons r (dk_prs t)
/-- a comprehension over the keys of a locked dict -/
theorem lc_keys {d : Addr} {od : Obj} {kvs : List (Key × V)} {g : TG} {tt : TT} {te : TE} {vs : List Nat} {σ : L2.St} {H1 : Hp} {D : Addr} {Qd : Hp → Prop} (Pv : Nat → Hp → Prop) (h0 : Pv 0 (upd H1 D (.lst []))) (hl : ∀ i H, i ≤ kvs.length → Pv i H → H d = some (.frz od (.dK kvs)))
    (hs : ∀ i k v H, kvs[i]? = some (k, v) → Pv i H → g (kV k) (wipe σ vs) H fun σ2 H2 => wipe σ2 vs = wipe σ vs ∧ tt σ2 H2 fun b H3 =>
      if b = true then te σ2 H3 fun y H4 => ∃ acc, H4 D = some (.lst acc) ∧ acc.length < sizeLine ∧ Pv (i + 1) (upd H4 D (.lst (acc ++ [y]))) else Pv (i + 1) H3) (hd : ∀ H, Pv kvs.length H → Qd H) :
    ∃ W : Nat → Nat → Hp → Prop, (∃ m, W 0 m (upd H1 D (.lst []))) ∧ ∀ i m H, W i m H →
      ((Itk d od kvs).stop i H ∧ Qd H) ∨ ((Itk d od kvs).go i H ∧ ∃ Nx : Hp → Prop, (∀ H', Nx H' → ∃ m', m' < m ∧ W (i + 1) m' H') ∧ ∀ x H', (Itk d od kvs).yld i H x H' → g x (wipe σ vs) H' fun σ2 H2 => wipe σ2 vs = wipe σ vs ∧ tt σ2 H2 fun b H3 =>
        if b = true then te σ2 H3 fun y H4 => ∃ acc, H4 D = some (.lst acc) ∧ acc.length < sizeLine ∧ Nx (upd H4 D (.lst (acc ++ [y]))) else Nx H3) := by
  refine ⟨fun i m H => m = kvs.length - i ∧ i ≤ kvs.length ∧ Pv i H, ⟨kvs.length, by simp, Nat.zero_le _, h0⟩, ?_⟩
  rintro i m H ⟨rfl, hi, p⟩
  have q := hl i H hi p
  by_cases hlt : i < kvs.length
  · refine .inr ⟨⟨q, hlt⟩, Pv (i + 1), fun H' p' => ⟨kvs.length - (i + 1), by omega, rfl, hlt, p'⟩, fun x H' y => ?_⟩
    obtain ⟨e, k, v, ek, ex⟩ := y
    subst e ex
    exact hs i k v _ ek p
  · have e : i = kvs.length := by omega
    subst e
    exact .inl ⟨⟨q, Nat.le_refl _⟩, hd H p⟩
section
variable {P : Program} {w : World} {K : PySem.W.Frag} {mg : Str → Option Value} {base : Heap}
/-! ### apply -/
theorem scApply : FnScope ["prime", "effect", "dials", "place", "turned"] ["prime", "effect", "dials", "place"] (defScope sApply) := ⟨rfl, rfl, rfl, by decide +kernel, rfl, by decide +kernel, by decide +kernel⟩
theorem ok_apply {f fN fM : Addr} {fd fdN fdM : FuncData} (F : Fun K "apply" "apply" sApply f fd) (FN : Fun K "normalize" "normalize" sNorm fN fdN) (bN : Binds K fdN ["prime", "pairs"] []) (gN : mg "normalize" = some (.ref fN))
    (FM : Fun K "move" "move" sMove fM fdM) (bM : Binds K fdM ["polynomial", "places"] []) (gM : mg "move" = some (.ref fM)) (mL : mg "list" = none) (mD : mg "dict" = none)
    (GN : FnOk P w K mg base CX0 1 fN fdN ["prime", "pairs"] (spNorm K)) (GM : FnOk P w K mg base CX0 1 fM fdM ["polynomial", "places"] (spMove K)) : FnOk P w K mg base CX0 2 f fd ["prime", "effect", "dials", "place"] (spApply K) := by
  refine F.ok scApply (fun vs H Q E h => ?_) (fun cdv A outer s H vs Q E hr h => ?_)
  · obtain ⟨p, a, d, ps, D, s, x, rfl, _⟩ := h
    rfl
  · obtain ⟨p, a, d, ps, D, s, x, rfl, hp, ⟨a1, ha, hpa⟩, hd, hlen, k⟩ := h
    refine ⟨_, pss_cons (ps_set (i := 4) scApply.nd rfl (.inl rfl) (pe_call GN hr (by rfl) gN FN.kp bN .nil pass0 (pa_cons (pv 0) (pa_cons
        (pe_op op_cat (LiI.pe_listItems rfl (pv 2) (by rfl) mL PyProof.Rows.boot_list)
          (pe_callTy call_list_of (by rfl) mL PyProof.Rows.boot_list (pa_cons (pe_call GM hr (by rfl) gM FM.kp bM .nil pass0 (pa_cons (pe_ix ix_tup (pv 1) pe_int (fun _ _ => rfl)) (pa_cons (pv 3) pa_nil))) pa_nil))) pa_nil))))
      (pss_one (ps_ret (pe_tup (pa_cons (pe_callTy (call_dictT rfl) (by rfl) mD PyProof.Rows.boot_dict (pa_cons (pv 4) pa_nil)) (pa_cons (pe_op op_add (pv 3) (pe_ix ix_tup (pv 1) pe_int (fun _ _ => rfl))) pa_nil))))), ?_⟩
    -- list(dials.items())
    refine ⟨_, rfl, _, rfl, d, dk D, rfl, hd, fun H1 p1 ts s1 np1 nts pn h1 hp1 => ?_⟩
    have s1 : Same H H1 := s1
    -- move(effect[0], place)
    refine ⟨_, rfl, a, _, 0, .ref a1, rfl, rfl, seqT_same s1 ha, atI_nat (j := 0) rfl, _, rfl, ?_⟩
    refine ⟨a1, ps, x, rfl, hpa.same s1, by omega, fun H2 r2 s2 h2 => ?_⟩
    obtain ⟨bs, hb, hpb⟩ := h2
    -- list(..) + list(..)
    refine ⟨r2, _, rfl, .inr hb, fun l nl => ?_⟩
    have s3 := same_upd (o := .lst (bs.map V.ref)) nl
    have lt : ts.length = D.length := (prs_dk (K := K) hp1).len
    have lb := hpb.len
    rw [mv_len] at lb
    refine ⟨p1, l, _, _, rfl, rfl, s3 _ _ (s2 _ _ h1), upd_same, ?_, fun c nc => ?_⟩
    · rw [List.length_map, List.length_map]
      exact Nat.le_of_lt (small1000 (by omega))
    have s4 := same_upd (o := .lst (ts.map V.ref ++ bs.map V.ref)) nc
    refine ⟨p, c, D ++ mv ps x, rfl, hp, .inr ⟨ts ++ bs, SqL.of (by rw [upd_same, List.map_append]), ((((prs_dk hp1).same s2).same s3).same s4).app ((hpb.same s3).same s4)⟩, by rw [List.length_append, mv_len]; exact hlen, fun H5 r5 F s5 h5 cn e le => ?_⟩
    have s15 : Same H H5 := (((s1.trans s2).trans s3).trans s4).trans s5
    obtain ⟨fs, o, hf, ho, hpf⟩ := id h5
    -- (dict(turned), place + effect[1])
    refine ⟨_, rfl, r5, o, fs, dk F, rfl, hf, ho, dk_prs hpf, fun g ng => ?_⟩
    have s6 := same_upd (o := .dK (mergeK [] (dk F))) ng
    refine ⟨_, rfl, _, rfl, a, _, 1, .int s, rfl, rfl, seqT_same (s15.trans s6) ha, atI_nat (j := 1) rfl, x, s, rfl, rfl, by show 2 ≤ sizeLine; decide, fun r nr => ?_⟩
    refine k _ r F ((s15.trans s6).trans (same_upd nr)) ⟨g, SqT.of upd_same, ?_⟩ cn (fun z => by rw [e, ev_append, ev_mv]) (by rw [List.length_append, mv_len] at le; exact le)
    show (upd (upd H5 g (.dK (mergeK [] (dk F)))) r _) g = some (.dK (dk F))
    rw [upd_ne (ne_of_none (upd_same (H := H5) (a := g) (o := .dK (mergeK [] (dk F)))) nr), upd_same, merge_canon cn]
/-! ### power -/
theorem scPower : FnScope ["prime", "effect", "count", "base", "found", "left"] ["prime", "effect", "count"] (defScope sPower) := ⟨rfl, rfl, rfl, by decide +kernel, rfl, by decide +kernel, by decide +kernel⟩
structure PowSt (K : PySem.W.Frag) (p : Int) (a : Addr) (ps : Pl) (s : Int) (n : Nat) (H : Hp) (m a' b' : Nat) (fa ba : Addr) (Fp Bp : Pl) (Hc : Hp) : Prop where
  sm : Same H Hc
  fe : EffAt K Hc fa Fp ((a' : Int) * s)
  be : EffAt K Hc ba Bp ((b' : Int) * s)
  fc : Canon p Fp
  fv : ∀ e, ev Fp e = pw (ev ps) s a' e % p
  bv : ∀ e, ev Bp e = pw (ev ps) s b' e % p
  sum : a' + b' * m = n
  fl : Fp.length ≤ 8 * a'
  bl : Bp.length ≤ 8 * b'
def PowW (K : PySem.W.Frag) (p : Int) (a : Addr) (ps : Pl) (s : Int) (n : Nat) (H : Hp) (m : Nat) (σ : L2.St) (Hc : Hp) : Prop :=
  ∃ (a' b' : Nat) (fa ba : Addr) (Fp Bp : Pl), σ = [some (.int p), some (.ref a), some (.int (n : Int)), some (.ref ba), some (.ref fa), some (.int (m : Int))] ∧ PowSt K p a ps s n H m a' b' fa ba Fp Bp Hc
theorem ok_power {f fC fI aI : Addr} {fd fdC fdI : FuncData} (F : Fun K "power" "power" sPower f fd) (FC : Fun K "compose" "compose" sCompose fC fdC) (bC : Binds K fdC ["prime", "one", "other"] []) (gC : mg "compose" = some (.ref fC))
    (FI : Fun K "inverse" "inverse" sInverse fI fdI) (bI : Binds K fdI ["prime", "effect"] []) (gI : mg "inverse" = some (.ref fI)) (mI : mg "IDENTITY" = some (.ref aI)) (hI : ∀ H : Hp, EffAt K H aI [] 0) (mA : mg "abs" = none)
    (GC : FnOk P w K mg base CX0 3 fC fdC ["prime", "one", "other"] (spCompose K)) (GI : FnOk P w K mg base CX0 3 fI fdI ["prime", "effect"] (spInverse K)) : FnOk P w K mg base CX0 4 f fd ["prime", "effect", "count"] (spPower K) := by
  refine F.ok scPower (fun vs H Q E h => ?_) (fun cdv A outer s H vs Q E hr h => ?_)
  · obtain ⟨p, a, ps, s, n, rfl, _⟩ := h
    rfl
  · obtain ⟨p, a, ps, s, n, rfl, hp, he, hcn, hlen, hn, k⟩ := h
    refine ⟨_, pss_cons (ps_set (i := 3) scPower.nd rfl (.inl rfl) (pe_ifExp (pt_cmpR op_ge (pv 2) pe_int (nomark _)) (pv 1) (pe_call GI hr (by rfl) gI FI.kp bI .nil pass0 (pa_cons (pv 0) (pa_cons (pv 1) pa_nil)))))
      (pss_cons (ps_par (i := 4) (j := 5) rfl scPower.nd rfl rfl (by decide) rfl rfl (pa_cons (pe_glob (v := .ref aI) (by rfl) mI rfl) (pa_cons (pe_callB call_abs (by rfl) mA (by decide +kernel) (pa_cons (pv 2) pa_nil)) pa_nil)) (by rfl))
      (pss_cons (ps_while PassesOwn.never (pt_cmpR op_gt (pv 5) pe_int (nomark _))
        (pss_cons (ps_if (pt_cmpR op_eq (pe_op op_mod (pv 5) pe_int) pe_int (nomark _))
          (pss_one (ps_set (i := 4) scPower.nd rfl (.inl rfl) (pe_call GC hr (by rfl) gC FC.kp bC .nil pass0 (pa_cons (pv 0) (pa_cons (pv 4) (pa_cons (pv 3) pa_nil)))))) pss_nil)
        (pss_one (ps_par (i := 3) (j := 5) rfl scPower.nd rfl rfl (by decide) rfl rfl (pa_cons (pe_call GC hr (by rfl) gC FC.kp bC .nil pass0 (pa_cons (pv 0) (pa_cons (pv 3) (pa_cons (pv 3) pa_nil)))) (pa_cons (pe_op op_fdiv (pv 5) pe_int) pa_nil)) (by rfl)))))
      (pss_one (ps_ret (pv 4))))), ?_⟩
    -- count >= 0
    refine ⟨_, rfl, (n : Int), 0, rfl, rfl, true, congrArg V.bl (decide_eq_true (Int.natCast_nonneg n)), ?_⟩
    refine iteT ⟨_, rfl, ?_⟩
    -- found, left
    refine ⟨_, rfl, (n : Int), rfl, _, _, rfl, ?_⟩
    have habs : (if (n : Int) < 0 then -(n : Int) else (n : Int)) = (n : Int) := if_neg (by omega)
    rw [habs]
    refine ⟨PowW K p a ps s n H, ⟨n, 0, 1, aI, a, [], ps, rfl, ⟨Same.refl H, ?_, ?_, Canon.nil p, fun e => ?_, fun e => ?_, by omega, Nat.zero_le _, by omega⟩⟩, ?_⟩
    · rw [show ((0 : Nat) : Int) * s = 0 by simp]
      exact hI H
    · rw [show ((1 : Nat) : Int) * s = s by simp]
      exact he
    · show (0 : Int) = 0 % p
      rw [Int.zero_emod]
    · rw [pw_one, hcn.mod hp]
    · rintro m σ Hc ⟨a', b', fa, ba, Fp, Bp, rfl, S⟩
      refine ⟨_, rfl, (m : Int), 0, rfl, rfl, _, rfl, ite2 (fun hm => ?_) (fun hm => ?_)⟩
      · have hm0 : 0 < m := by
          have := of_decide_eq_true hm
          omega
        have hb7 : b' ≤ 7 := by
          have h1 : b' * 1 ≤ b' * m := Nat.mul_le_mul_left b' hm0
          have := S.sum
          omega
        have ha7 : a' ≤ 7 := by
          have := S.sum
          omega
        refine ⟨PowW K p a ps s n H (m / 2), fun σ' H' h => ⟨m / 2, by omega, h⟩, ?_⟩
        have hfl := S.fl
        have hbl := S.bl
        -- if left % 2 == 1
        refine ⟨_, rfl, (m : Int), 2, rfl, rfl, by show (0 : Int) < 2; decide, rfl, _, rfl, ite2 (fun ho => ?_) (fun ho => ?_)⟩
        · have ho' : (m : Int) % 2 = 1 := V.int.inj (of_decide_eq_true ho)
          refine ⟨_, rfl, _, rfl, _, rfl, p, fa, ba, Fp, Bp, _, _, rfl, hp, S.fe, S.be, by omega, fun H1 r1 R1 s1 h1 c1 e1 l1 => ?_⟩
          refine ⟨_, rfl, _, rfl, _, rfl, p, ba, ba, Bp, Bp, _, _, rfl, hp, S.be.same s1, S.be.same s1, by omega, fun H2 r2 R2 s2 h2 c2 e2 l2 => ?_⟩
          refine ⟨_, rfl, (m : Int), 2, rfl, rfl, ⟨by decide, by decide⟩, _, _, rfl, ?_⟩
          show PowW K p a ps s n H (m / 2) [some (.int p), some (.ref a), some (.int (n : Int)), some (.ref r2), some (.ref r1), some (.int ((m : Int) / 2))] H2
          rw [show (m : Int) / 2 = ((m / 2 : Nat) : Int) by omega]
          refine ⟨a' + b', b' + b', r1, r2, R1, R2, rfl, ⟨(S.sm.trans s1).trans s2, ?_, ?_, c1, pow_step hp S.fv S.bv e1, pow_step hp S.bv S.bv e2, ?_, by omega, by omega⟩⟩
          · rw [Int.natCast_add, Int.add_mul]
            exact h1.same s2
          · rw [Int.natCast_add, Int.add_mul]
            exact h2
          · have h3 : m = 2 * (m / 2) + 1 := by omega
            have h4 := S.sum
            rw [h3, Nat.mul_add, Nat.mul_one] at h4
            rw [Nat.add_mul]
            have h5 : b' * (2 * (m / 2)) = b' * (m / 2) + b' * (m / 2) := by rw [show 2 * (m / 2) = m / 2 + m / 2 by omega, Nat.mul_add]
            omega
        · have ho' : ¬ (m : Int) % 2 = 1 := fun z => ho (decide_eq_true (congrArg V.int z))
          refine ⟨_, rfl, _, rfl, _, rfl, p, ba, ba, Bp, Bp, _, _, rfl, hp, S.be, S.be, by omega, fun H2 r2 R2 s2 h2 c2 e2 l2 => ?_⟩
          refine ⟨_, rfl, (m : Int), 2, rfl, rfl, ⟨by decide, by decide⟩, _, _, rfl, ?_⟩
          show PowW K p a ps s n H (m / 2) [some (.int p), some (.ref a), some (.int (n : Int)), some (.ref r2), some (.ref fa), some (.int ((m : Int) / 2))] H2
          rw [show (m : Int) / 2 = ((m / 2 : Nat) : Int) by omega]
          refine ⟨a', b' + b', fa, r2, Fp, R2, rfl, ⟨S.sm.trans s2, S.fe.same s2, ?_, S.fc, S.fv, pow_step hp S.bv S.bv e2, ?_, S.fl, by omega⟩⟩
          · rw [Int.natCast_add, Int.add_mul]
            exact h2
          · have h3 : m = 2 * (m / 2) := by omega
            have h4 := S.sum
            have h5 : b' * m = b' * (m / 2) + b' * (m / 2) := by rw [← Nat.mul_add]; congr 1; omega
            rw [Nat.add_mul]
            omega
      · have hm0 : m = 0 := by
          have h1 : ¬ (0 : Int) < (m : Int) := fun z => hm (decide_eq_true z)
          omega
        have hs := S.sum
        rw [hm0, Nat.mul_zero, Nat.add_zero] at hs
        subst hs
        exact ⟨_, rfl, k Hc fa Fp S.sm S.fe S.fc S.fv S.fl⟩
/-! ### _law_moved_dials -/
theorem scMoved : FnScope ["_law_dials", "_law_places", "_law_place"] ["_law_dials", "_law_places"] (defScope sMoved) := ⟨rfl, rfl, rfl, by decide +kernel, rfl, by decide +kernel, by decide +kernel⟩
theorem ok_moved {f : Addr} {fd : FuncData} (F : Fun K "_law_moved_dials" "_law_moved_dials" sMoved f fd) (mD : mg "dict" = none) : FnOk P w K mg base CX0 1 f fd ["_law_dials", "_law_places"] (spMoved K) := by
  refine F.ok scMoved (fun vs H Q E h => ?_) (fun cdv A outer s H vs Q E hr h => ?_)
  · obtain ⟨p, d, D, m, rfl, _⟩ := h
    rfl
  · obtain ⟨p, d, D, m, rfl, hd, hcn, hlen, k⟩ := h
    have hu := hu_of hr
    refine ⟨_, pss_one (ps_ret (pe_callTy (call_dictP rfl) (by rfl) mD PyProof.Rows.boot_dict (pa_cons (pe_lock
      (pe_lc (own := [("_law_place", 2)]) (g := gName 2) (tt := tYes) rfl scMoved.nd (pi_keys (pv 0))
        (blkOk_by (N := ["_law_dials", "_law_places", "_law_place"]) (sc := defScope sMoved) (by decide +kernel))
        (fun _ _ _ _ _ => pg_name (i := 2) scMoved.nd rfl (.inl rfl))
        (fun _ _ _ _ _ => pts_nil)
        (fun _ _ _ _ _ => pe_tup (pa_cons (pe_op op_add (pv 2) (pv 1)) (pa_cons (pe_dget hu (pv 0) (pv 2) (fun _ _ => rfl)) pa_nil))))) pa_nil))), ?_⟩
    refine ⟨d, _, hd, True.intro, fun od => ⟨_, rfl, d, od, rfl, .inl ⟨dk D, upd_same, fun L nL => ?_⟩⟩⟩
    have dL : d ≠ L := fun z => by rw [← z, upd_same] at nL; cases nL
    have nL0 : H L = none := by rw [upd_ne dL.symm] at nL; exact nL
    refine lc_keys (d := d) (od := od) (kvs := dk D) (fun j Hx => ∃ bs : List Addr, Off d H Hx ∧ Hx d = some (.frz od (.dK (dk D))) ∧ Hx L = some (.lst (bs.map V.ref)) ∧ Prs K Hx bs (mv (D.take j) m) ∧ bs.length ≤ j)
      ⟨[], fun b o e n => by rw [upd_ne (ne_of_none e nL0), upd_ne n]; exact e, by rw [upd_ne dL, upd_same], upd_same, .nil, Nat.le_refl _⟩ (fun j Hx _ ⟨_, _, h, _⟩ => h) ?_ ?_
    · rintro j kk vv Hx hk ⟨bs, sm, h2, h3, h4, h5⟩
      obtain ⟨q, hq, eq⟩ : ∃ q, D[j]? = some q ∧ ((Sum.inl q.1 : Key), V.int q.2) = (kk, vv) := by
        unfold dk at hk
        rw [List.getElem?_map] at hk
        cases e : D[j]? with
        | none => rw [e] at hk; cases hk
        | some q => rw [e] at hk; exact ⟨q, rfl, Option.some.inj hk⟩
      cases eq
      have hj : j < D.length := (List.getElem?_eq_some_iff.mp hq).1
      have hlk : valV (dk D) (Sum.inl q.1 : Key) = some (.int q.2) := val_nodup (dk_nodup (canon_keys hcn)) (Sum.inl q.1, .int q.2) (List.mem_map.mpr ⟨q, List.mem_of_getElem? hq, rfl⟩)
      refine ⟨rfl, ?_⟩
      refine ⟨_, rfl, _, rfl, q.1, m, rfl, rfl, _, rfl, _, rfl, d, .int q.2, rfl, .inl ⟨dk D, Sum.inl q.1, .inr ⟨od, h2⟩, rfl, hlk.symm⟩, by show 2 ≤ sizeLine; decide, fun r nr => ?_⟩
      have rL : L ≠ r := ne_of_none h3 nr
      have rd : d ≠ r := ne_of_none h2 nr
      refine ⟨bs.map V.ref, by rw [upd_ne rL]; exact h3, by rw [List.length_map]; exact small1000 (by omega), bs ++ [r], ?_, by rw [upd_ne dL, upd_ne rd]; exact h2, by rw [upd_same, List.map_append]; rfl, ?_, by rw [List.length_append, List.length_singleton]; omega⟩
      · exact off_over (off_over sm (by
          cases e : H r with
          | none => rfl
          | some o => exact absurd nr (by rw [sm r o e rd.symm]; exact fun z => by cases z))) nL0
      · rw [take_snoc hq]
        unfold mv at h4 ⊢
        rw [List.map_append]
        have g4 := (grow (H := fun _ => none) (z := (q.1 + m, q.2)) rfl (fun b o e => by cases e) h3 h4 nr).2.2.2
        exact g4
    · rintro Hx ⟨bs, sm, h2, h3, h4, h5⟩
      rw [dk_len, List.take_length] at h4
      refine ⟨h2, ?_⟩
      have hL : (upd Hx d (.dK (dk D))) L = some (.lst (bs.map V.ref)) := by rw [upd_ne dL.symm]; exact h3
      have back : ∀ {b : Addr} {zs : List V}, SqT K Hx b zs → SqT K (upd Hx d (.dK (dk D))) b zs := fun {b zs} z => by
        by_cases e : b = d
        · subst e
          rcases z with (z | ⟨o, z⟩) | z
          · rw [h2] at z; cases z
          · rw [h2] at z; cases z
          · exact .inr z
        · rcases z with (z | ⟨o, z⟩) | z
          · exact .inl (.inl (by rw [upd_ne e]; exact z))
          · exact .inl (.inr ⟨o, by rw [upd_ne e]; exact z⟩)
          · exact .inr z
      refine ⟨L, bs, dk (mv D m), rfl, SqL.of hL, dk_prs (Paired.mapP h4 fun _ _ z => back z), fun r nr => ?_⟩
      have rd : d ≠ r := ne_of_none (upd_same (H := Hx) (a := d) (o := .dK (dk D))) nr
      refine k _ r (fun b o e => ?_) ?_
      · by_cases z : b = d
        · subst z
          rw [upd_ne rd, upd_same]
          exact hd.symm.trans e
        · have e2 : (upd Hx d (.dK (dk D))) b = some o := by rw [upd_ne z]; exact sm b o e z
          rw [upd_ne (ne_of_none e2 nr)]
          exact e2
      · show (upd _ r _) r = some (.dK (dk (mv D m)))
        rw [upd_same, merge_canon (hcn.mv m)]
end
end Dr
/-! The law's helpers: the pen, what is drawn. -/
namespace Dr
open PySem PySem.Spec PyProof.Rows L2
def spPen (K : PySem.W.Frag) : Sp := fun vs H Q _ => ∃ (a : Addr) (ns : List Int), vs = [.ref a] ∧ SqL K H a (ns.map V.int) ∧ ns.length ≤ 63 ∧
  ∀ (H' : Hp) (d c : Addr), Same H H' → Pen K H' d c 0 → Q (.ref d) H'
def spDraw (K : PySem.W.Frag) : Sp := fun vs H Q _ => ∃ (d c : Addr) (m : Int) (n : Nat), vs = [.ref d, .int m] ∧ Pen K H d c n ∧ n ≤ 1000000 ∧ 0 < m ∧ m < 2 ^ 62 ∧
  ∀ (r : Int) (H' : Hp), 0 ≤ r → r < m → Pen K H' d c (n + 1) → Off d H H' → Q (.int r) H'
theorem pen_merge (c : Addr) (u l : Int) : mergeK [] (penK c u l) = penK c u l := by
  show putK (putK (putK [] (Sum.inr ("cells" : Str) : Key) (.ref c)) (Sum.inr ("used" : Str) : Key) (.int u)) (Sum.inr ("left" : Str) : Key) (.int l) = penK c u l
  rw [putK_new (κ := Key) (kvs := []) _ valV_nil, putK_new (κ := Key) (k := Sum.inr ("used" : Str)) _ ?_, putK_new (κ := Key) (k := Sum.inr ("left" : Str)) _ ?_]
  · rfl
  · rw [List.nil_append, List.singleton_append, valV_neg (inr_ne n_cl), valV_neg (inr_ne n_ul)]
    rfl
  · rw [List.nil_append, valV_neg (inr_ne n_cu)]
    rfl
section
variable {P : Program} {w : World} {K : PySem.W.Frag} {mg : Str → Option Value} {base : Heap}
/-! ### the pen -/
theorem scPen : FnScope ["_law_script"] ["_law_script"] (defScope sPen) := ⟨rfl, rfl, rfl, by decide +kernel, rfl, by decide +kernel, by decide +kernel⟩
theorem ok_pen {f : Addr} {fd : FuncData} (F : Fun K "_law_pen" "_law_pen" sPen f fd) (mL : mg "list" = none) : FnOk P w K mg base CX0 1 f fd ["_law_script"] (spPen K) := by
  refine F.ok scPen (fun vs H Q E h => ?_) (fun cdv A outer s H vs Q E hr h => ?_)
  · obtain ⟨a, ns, rfl, _⟩ := h
    rfl
  · obtain ⟨a, ns, rfl, ha, hl, k⟩ := h
    refine ⟨_, pss_one (ps_ret (pe_disp (pps_cons pe_str (pe_callTy call_list_of (by rfl) mL PyProof.Rows.boot_list (pa_cons (pe_slice sl_list (pv 0) po_none (po_some pe_int)) pa_nil))
      (pps_cons pe_str pe_int (pps_cons pe_str pe_int pps_nil))) (by rfl) (by rfl) (fun z => by cases z) (by decide))), ?_⟩
    intro d nd
    have s1 := same_upd (o := .dK []) nd
    refine ⟨_, rfl, 63, rfl, a, ns.map V.int, rfl, s1.seq ha, fun c nc => ?_⟩
    have s2 := same_upd (o := .lst (cutV (ns.map V.int) none (some 63))) nc
    refine ⟨c, _, rfl, .inl (SqL.of upd_same), fun l nl => ?_⟩
    have s3 := same_upd (o := .lst (cutV (ns.map V.int) none (some 63))) nl
    have hd : (upd (upd (upd H d (.dK [])) c (.lst (cutV (ns.map V.int) none (some 63)))) l (.lst (cutV (ns.map V.int) none (some 63)))) d = some (.dK []) := s3 _ _ (s2 _ _ upd_same)
    refine ⟨hd, penK l 0 0, rfl, by show 3 ≤ 15; decide, ?_⟩
    rw [pen_merge]
    refine k _ d l (same_over ((s1.trans s2).trans s3) nd) ⟨(ns.drop (HT.sIx (ns.map V.int).length 0 none)).take (HT.sIx (ns.map V.int).length (ns.map V.int).length (some 63) - HT.sIx (ns.map V.int).length 0 none), 0, 0, upd_same, SqL.of ?_, ?_, Int.le_refl _, Int.le_refl _⟩
    · rw [upd_ne (show l ≠ d from fun z => by rw [← z] at hd; rw [upd_same] at hd; cases hd), upd_same, List.map_take, List.map_drop]
      rfl
    · rw [List.length_take, List.length_drop]
      omega
/-! ### a draw -/
theorem scDraw : FnScope ["_law_pen_here", "_law_many", "_law_digit", "_law_used", "_law_cell", "_law_blend"] ["_law_pen_here", "_law_many"] (defScope sDraw) := ⟨rfl, rfl, rfl, by decide +kernel, rfl, by decide +kernel, by decide +kernel⟩
theorem divW {i m : Int} (h : 0 < m) (h2 : m < 2 ^ 62) : CDivW i m := wide_div (b := 62) h (by
  have e : (2 : Int) ^ 62 = ((2 ^ 62 : Nat) : Int) := by decide
  rw [e] at h2
  omega) (by decide) (by decide)
theorem gCells {H : Hp} {d c : Addr} {u l : Int} (h : H d = some (.dK (penK c u l))) : DGet H d (.str "cells") (some (.ref c)) := .inl ⟨penK c u l, Sum.inr ("cells" : Str), .inl h, rfl, (pen_cells c u l).symm⟩
theorem gUsed {H : Hp} {d c : Addr} {u l : Int} (h : H d = some (.dK (penK c u l))) : DGet H d (.str "used") (some (.int u)) := .inl ⟨penK c u l, Sum.inr ("used" : Str), .inl h, rfl, (pen_used c u l).symm⟩
theorem gLeft {H : Hp} {d c : Addr} {u l : Int} (h : H d = some (.dK (penK c u l))) : DGet H d (.str "left") (some (.int l)) := .inl ⟨penK c u l, Sum.inr ("left" : Str), .inl h, rfl, (pen_left c u l).symm⟩
theorem pUsed {H : Hp} {d c : Addr} {u l : Int} (h : H d = some (.dK (penK c u l))) (z : Int) : DPut H d (.str "used") (.int z) (upd H d (.dK (penK c z l))) := by
  have q := DPut.k (k := Sum.inr ("used" : Str)) (v := .int z) h (by show 3 < sizeLine; decide)
  rw [pen_set_used] at q
  exact q
theorem pLeft {H : Hp} {d c : Addr} {u l : Int} (h : H d = some (.dK (penK c u l))) (z : Int) : DPut H d (.str "left") (.int z) (upd H d (.dK (penK c u z))) := by
  have q := DPut.k (k := Sum.inr ("left" : Str)) (v := .int z) h (by show 3 < sizeLine; decide)
  rw [pen_set_left] at q
  exact q
theorem ok_draw {f : Addr} {fd : FuncData} (F : Fun K "_law_draw" "_law_draw" sDraw f fd) (mLen : mg "len" = none) (mA : mg "abs" = none) : FnOk P w K mg base CX0 1 f fd ["_law_pen_here", "_law_many"] (spDraw K) := by
  refine F.ok scDraw (fun vs H Q E h => ?_) (fun cdv A outer s H vs Q E hr h => ?_)
  · obtain ⟨d, c, m, n, rfl, _⟩ := h
    rfl
  · obtain ⟨d, c, m, n, rfl, ⟨ns, u, l, hd, hc, hns, hu0, hun⟩, hn, hm, hm2, k⟩ := h
    have hu := hu_of hr
    have hu64 := hr.units
    have mod_ok : ∀ z : Int, 0 ≤ z % m ∧ z % m < m := fun z => ⟨Int.emod_nonneg z (by omega), Int.emod_lt_of_pos z hm⟩
    have big : ∀ z b : Int, 0 < b → b ≤ 4294967296 → -(2 ^ 64) < z % b ∧ z % b < 2 ^ 64 := fun z b h1 h2 => by
      have a1 := Int.emod_nonneg z (show b ≠ 0 by omega)
      have a2 := Int.emod_lt_of_pos z h1
      have e : (2 : Int) ^ 64 = 18446744073709551616 := by decide
      rw [e]
      omega
    have ub : -(2 ^ 64) < u ∧ u < 2 ^ 64 := by
      have e : (2 : Int) ^ 64 = 18446744073709551616 := by decide
      rw [e]
      omega
    -- the blend
    obtain ⟨tR, pR, hR⟩ : ∃ t, PSs (cxOf CX0 P w K mg base ["_law_pen_here", "_law_many", "_law_digit", "_law_used", "_law_cell", "_law_blend"] "_law_draw" (defScope sDraw) f cdv A outer s H E).nox ((defBody sDraw).drop 6) t ∧
        ∀ (cell : Int) (y2 : Option V) (Hx : Hp), Off d H Hx → Pen K Hx d c (n + 1) → t { nx := fun _ H' => Q .non H', rt := Q } [some (.ref d), some (.int m), y2, some (.int u), some (.int cell), none] Hx := by
      refine ⟨_, pss_cons (ps_set (i := 5) scDraw.nd rfl (.inl rfl) (pe_op op_add (pe_op op_mul (pe_op op_mod (pv 4) pe_int) pe_int) (pe_op op_mul (pe_op op_mul pe_int (pv 3)) (pv 3))))
        (pss_cons (ps_set (i := 5) scDraw.nd rfl (.inl rfl) (pe_op op_mod (pe_op op_add (pe_op op_add (pv 5) (pe_op op_mul pe_int (pv 3))) pe_int) pe_int))
        (pss_cons (ps_set (i := 5) scDraw.nd rfl (.inl rfl) (pe_op op_mod (pe_op op_add (pe_op op_add (pe_op op_add (pe_op op_mul (pv 5) (pv 5)) (pe_op op_mul pe_int (pv 5))) (pe_op op_mul pe_int (pv 3))) pe_int) pe_int))
        (pss_one (ps_ret (pe_op op_mod (pe_op op_fdiv (pe_op op_mod (pe_op op_mul (pv 5) (pe_op op_add (pv 5) pe_int)) pe_int) pe_int) (pv 1)))))), fun cell y2 Hx off pen => ?_⟩
      refine ⟨_, rfl, cell, 4294967231, rfl, rfl, by show (0 : Int) < 4294967231; decide, _, _, rfl, rfl, .inr ⟨by decide, by decide⟩, _, rfl, _, u, rfl, rfl, .inl ⟨by decide, by decide⟩, _, rfl, _, u, rfl, rfl, .inr ub, _, _, rfl, rfl, ?_⟩
      refine ⟨_, rfl, _, rfl, _, u, rfl, rfl, .inl ⟨by decide, by decide⟩, _, _, rfl, rfl, _, _, rfl, rfl, _, 4294967197, rfl, rfl, by show (0 : Int) < 4294967197; decide, ?_⟩
      refine ⟨_, rfl, _, rfl, _, _, rfl, rfl, .inl (big _ _ (by decide) (by decide)), _, rfl, _, _, rfl, rfl, .inl ⟨by decide, by decide⟩, _, _, rfl, rfl, _, rfl, _, u, rfl, rfl, .inl ⟨by decide, by decide⟩, _, _, rfl, rfl, _, _, rfl, rfl, _, 4294967189, rfl, rfl, by show (0 : Int) < 4294967189; decide, ?_⟩
      refine ⟨_, rfl, _, rfl, _, _, rfl, rfl, _, _, rfl, rfl, .inl (big _ _ (by decide) (by decide)), _, 4294967291, rfl, rfl, by show (0 : Int) < 4294967291; decide, _, 64, rfl, rfl, ⟨by decide, by decide⟩, _, rfl, _, m, rfl, rfl, hm, ?_⟩
      exact k _ Hx (mod_ok _).1 (mod_ok _).2 pen off
    -- behind the choice of the cell
    obtain ⟨tS, pS, hS⟩ : ∃ t, PSs (cxOf CX0 P w K mg base ["_law_pen_here", "_law_many", "_law_digit", "_law_used", "_law_cell", "_law_blend"] "_law_draw" (defScope sDraw) f cdv A outer s H E).nox ((defBody sDraw).drop 5) t ∧
        ∀ (cell : Int) (Hx : Hp), Off d H Hx → Hx d = some (.dK (penK c (u + 1) l)) → SqL K Hx c (ns.map V.int) → t { nx := fun _ H' => Q .non H', rt := Q } [some (.ref d), some (.int m), none, some (.int u), some (.int cell), none] Hx := by
      refine ⟨_, pss_cons (ps_if (PW.pt (pw_and (pt_cmpR op_lt (pv 3) (pe_callB call_len_seq (by rfl) mLen PySem.boot_len (pa_cons (pe_dget hu (pv 0) pe_str (fun _ _ => rfl)) pa_nil)) (nomark _))
          (pw_and1 (pt_cmpR op_ge (pe_callB call_abs (by rfl) mA (by decide +kernel) (pa_cons (pv 4) pa_nil)) (pe_op op_pow pe_int pe_int) (nomark _)))))
        (pss_cons (ps_dput hu (pv 0) pe_str (pe_op op_fdivW (pe_op op_sub (pe_callB call_abs (by rfl) mA (by decide +kernel) (pa_cons (pv 4) pa_nil)) (pe_op op_pow pe_int pe_int)) (pv 1)) rfl)
        (pss_one (ps_ret (pe_op op_mod (pe_op op_sub (pe_callB call_abs (by rfl) mA (by decide +kernel) (pa_cons (pv 4) pa_nil)) (pe_op op_pow pe_int pe_int)) (pv 1))))) pss_nil) pR, fun cell Hx off hx hcx => ?_⟩
      have pen : Pen K Hx d c (n + 1) := ⟨ns, u + 1, l, hx, hcx, hns, by omega, by omega⟩
      refine ⟨_, rfl, _, rfl, d, .ref c, rfl, gCells hx, c, _, rfl, .inl hcx, u, _, rfl, rfl, _, rfl, ite2 (fun _ => ?_) (fun _ => iteF (hR cell none Hx off pen))⟩
      refine ⟨_, rfl, cell, rfl, 10, 18, rfl, rfl, ⟨by decide, by decide, by decide⟩, _, _, rfl, rfl, _, rfl, ite2 (fun _ => ?_) (fun _ => hR cell none Hx off pen)⟩
      refine ⟨_, rfl, cell, rfl, 10, 18, rfl, rfl, ⟨by decide, by decide, by decide⟩, _, _, rfl, rfl, _, rfl, _, m, rfl, rfl, divW hm hm2, _, rfl, d, _, rfl, pLeft hx _, ?_⟩
      refine ⟨_, rfl, cell, rfl, 10, 18, rfl, rfl, ⟨by decide, by decide, by decide⟩, _, _, rfl, rfl, _, rfl, _, m, rfl, rfl, hm, ?_⟩
      refine k _ _ (mod_ok _).1 (mod_ok _).2 ⟨ns, u + 1, _, upd_same, ?_, hns, by omega, by omega⟩ (off_put off)
      exact seqL_off (off_put (Off.refl d Hx)) hx hcx
    refine ⟨_, pss_cons (ps_if (pt_cmpR op_gt (pe_dget hu (pv 0) pe_str (fun _ _ => rfl)) pe_int (nomark _))
        (pss_cons (ps_set (i := 2) scDraw.nd rfl (.inl rfl) (pe_op op_mod (pe_dget hu (pv 0) pe_str (fun _ _ => rfl)) (pv 1)))
        (pss_cons (ps_dput hu (pv 0) pe_str (pe_op op_fdivW (pe_dget hu (pv 0) pe_str (fun _ _ => rfl)) (pv 1)) rfl)
        (pss_one (ps_ret (pv 2))))) pss_nil)
      (pss_cons (ps_set (i := 3) scDraw.nd rfl (.inl rfl) (pe_dget hu (pv 0) pe_str (fun _ _ => rfl)))
      (pss_cons (ps_dput hu (pv 0) pe_str (pe_op op_add (pv 3) pe_int) rfl)
      (pss_cons (ps_set (i := 4) scDraw.nd rfl (.inl rfl) (pe_op op_add (pe_op op_mul pe_int (pv 3)) pe_int))
      (pss_cons (ps_if (pt_cmpR (op_neD hu64) (pe_dget hu (pv 0) pe_str (fun _ _ => rfl)) (pe_lst pa_nil) (nomark _))
        (pss_one (ps_set (i := 4) scDraw.nd rfl (.inl rfl) (pe_ix ix_list (pe_dget hu (pv 0) pe_str (fun _ _ => rfl)) (pe_op op_mod (pv 3) (pe_callB call_len_seq (by rfl) mLen PySem.boot_len (pa_cons (pe_dget hu (pv 0) pe_str (fun _ _ => rfl)) pa_nil))) (fun _ _ => rfl)))) pss_nil) pS)))), ?_⟩
    -- left > 0
    refine ⟨_, rfl, d, .int l, rfl, gLeft hd, l, 0, rfl, rfl, _, rfl, ite2 (fun _ => ?_) (fun _ => ?_)⟩
    · refine ⟨_, rfl, d, .int l, rfl, gLeft hd, _, rfl, l, m, rfl, rfl, hm, ?_⟩
      refine ⟨_, rfl, d, .int l, rfl, gLeft hd, _, rfl, l, m, rfl, rfl, divW hm hm2, _, rfl, d, _, rfl, pLeft hd _, ?_⟩
      refine ⟨_, rfl, k _ _ (mod_ok _).1 (mod_ok _).2 ⟨ns, u, _, upd_same, ?_, hns, hu0, by omega⟩ (off_put (Off.refl d H))⟩
      exact seqL_off (off_put (Off.refl d H)) hd hc
    · refine ⟨_, rfl, d, .int u, rfl, gUsed hd, ?_⟩
      refine ⟨_, rfl, u, 1, rfl, rfl, _, rfl, d, _, rfl, pUsed hd _, ?_⟩
      have o1 : Off d H (upd H d (.dK (penK c (u + 1) l))) := off_put (Off.refl d H)
      have hc1 := seqL_off o1 hd hc
      refine ⟨_, rfl, 29, u, rfl, rfl, .inl ⟨by decide, by decide⟩, _, 11, rfl, rfl, ?_⟩
      -- cells != []
      refine ⟨_, rfl, d, .ref c, rfl, gCells upd_same, Nat.zero_le _, fun o no => ?_⟩
      have s2 := same_upd (o := .lst []) no
      have hd2 := s2 _ _ (upd_same (H := H) (a := d) (o := .dK (penK c (u + 1) l)))
      have hc2 := s2.seq hc1
      have o2 := o1.trans (same_off s2 d)
      refine ⟨.list (ns.map PyData.int), .list [], .lst hc2 (ints_dp ns), .lst (SqL.of upd_same) .nil, ints_shaped ns, ints_shaped [], _, rfl, ite2 (fun hne => ?_) (fun _ => hS _ _ o2 hd2 hc2)⟩
      have hn0 : ns ≠ [] := fun z => by
        rw [z, nil_eqv] at hne
        cases hne
      have hpos : 0 < ns.length := List.length_pos_iff.mpr hn0
      have hj := mod_place (i := u) hpos
      obtain ⟨z, hz⟩ : ∃ z, ns[(u % (ns.length : Int)).toNat]? = some z := ⟨_, List.getElem?_eq_getElem hj.1⟩
      refine ⟨_, rfl, d, .ref c, rfl, gCells hd2, _, rfl, _, rfl, d, .ref c, rfl, gCells hd2, c, _, rfl, .inl hc2, u, (((ns.map V.int).length : Nat) : Int), rfl, rfl, by rw [List.length_map]; omega, c, _, _, .int z, rfl, rfl, hc2, ?_, hS z _ o2 hd2 hc2⟩
      rw [List.length_map]
      exact at_of hj.2.symm (by rw [List.getElem?_map, hz]; rfl)
end
end Dr
/-! The law's helpers: what is built of the draws. -/
namespace Dr
open PySem PySem.Spec PyProof.Rows L2
def spPick (K : PySem.W.Frag) : Sp := fun vs H Q _ => ∃ (d c o : Addr) (xs : List V) (n : Nat), vs = [.ref d, .ref o] ∧ Pen K H d c n ∧ n ≤ 999999 ∧ SqL K H o xs ∧ 0 < xs.length ∧ xs.length ≤ 1000 ∧
  ∀ (v : V) (H' : Hp), v ∈ xs → Pen K H' d c (n + 1) → Off d H H' → Q v H'
def spPrime (K : PySem.W.Frag) : Sp := fun vs H Q _ => ∃ (d c : Addr) (n : Nat), vs = [.ref d] ∧ Pen K H d c n ∧ n ≤ 900000 ∧
  ∀ (p : Int) (H' : Hp), 2 ≤ p → p ≤ 97 → Pen K H' d c (n + 2) → Off d H H' → Q (.int p) H'
def spInteger (K : PySem.W.Frag) : Sp := fun vs H Q _ => ∃ (d c : Addr) (m : Int) (n : Nat), vs = [.ref d, .int m] ∧ Pen K H d c n ∧ n ≤ 999999 ∧ 0 ≤ m ∧ m ≤ 10 ^ 16 ∧
  ∀ (r : Int) (H' : Hp), Pen K H' d c (n + 1) → Off d H H' → Q (.int r) H'
def spPoly (K : PySem.W.Frag) : Sp := fun vs H Q _ => ∃ (d c : Addr) (p t m : Int) (n : Nat), vs = [.ref d, .int p, .int t, .int m] ∧ Pen K H d c n ∧ n ≤ 900000 ∧ 2 ≤ p ∧ p ≤ 97 ∧ 0 ≤ t ∧ t ≤ 8 ∧ 0 ≤ m ∧ m ≤ 10 ^ 16 ∧
  ∀ (H' : Hp) (r : Addr) (qs : Pl), Off d H H' → Pen K H' d c (n + 20) → PolyF K H' r qs → Canon p qs → qs.length ≤ 8 → Q (.ref r) H'
def spEffect (K : PySem.W.Frag) : Sp := fun vs H Q _ => ∃ (d c : Addr) (p t m : Int) (n : Nat), vs = [.ref d, .int p, .int t, .int m] ∧ Pen K H d c n ∧ n ≤ 800000 ∧ 2 ≤ p ∧ p ≤ 97 ∧ 0 ≤ t ∧ t ≤ 8 ∧ 0 ≤ m ∧ m ≤ 10 ^ 16 ∧
  ∀ (H' : Hp) (r : Addr) (qs : Pl) (s : Int), Off d H H' → Pen K H' d c (n + 25) → EffAt K H' r qs s → Canon p qs → qs.length ≤ 8 → Q (.ref r) H'
theorem p62 : (2 : Int) ^ 62 = 4611686018427387904 := by decide
theorem p1016 : (10 : Int) ^ 16 = 10000000000000000 := by decide
section
variable {P : Program} {w : World} {K : PySem.W.Frag} {mg : Str → Option Value} {base : Heap}
/-! ### pick -/
theorem scPick : FnScope ["_law_pen_here", "_law_options"] ["_law_pen_here", "_law_options"] (defScope sPick) := ⟨rfl, rfl, rfl, by decide +kernel, rfl, by decide +kernel, by decide +kernel⟩
theorem ok_pick {f fD : Addr} {fd fdD : FuncData} (F : Fun K "_law_pick" "_law_pick" sPick f fd) (FD : Fun K "_law_draw" "_law_draw" sDraw fD fdD) (bD : Binds K fdD ["_law_pen_here", "_law_many"] []) (gD : mg "_law_draw" = some (.ref fD)) (mLen : mg "len" = none)
    (GD : FnOk P w K mg base CX0 1 fD fdD ["_law_pen_here", "_law_many"] (spDraw K)) : FnOk P w K mg base CX0 2 f fd ["_law_pen_here", "_law_options"] (spPick K) := by
  refine F.ok scPick (fun vs H Q E h => ?_) (fun cdv A outer s H vs Q E hr h => ?_)
  · obtain ⟨d, c, o, xs, n, rfl, _⟩ := h
    rfl
  · obtain ⟨d, c, o, xs, n, rfl, pen, hn, ho, h0, h1, k⟩ := h
    refine ⟨_, pss_one (ps_ret (pe_ix ix_list (pv 1) (pe_call GD hr (by rfl) gD FD.kp bD .nil pass0 (pa_cons (pv 0) (pa_cons (pe_callB call_len_seq (by rfl) mLen PySem.boot_len (pa_cons (pv 1) pa_nil)) pa_nil))) (fun _ _ => rfl))), ?_⟩
    have h62 := p62
    refine ⟨_, rfl, _, rfl, _, rfl, o, xs, rfl, .inl ho, d, c, (xs.length : Int), n, rfl, pen, by omega, by omega, by omega, fun r H1 r0 r1 pen1 off => ?_⟩
    obtain ⟨kv, hd⟩ := pen.dict
    have hj : r.toNat < xs.length := by omega
    exact ⟨o, xs, r, xs[r.toNat], rfl, rfl, seqL_off off hd ho, at_of (show r = ((r.toNat : Nat) : Int) by omega) (List.getElem?_eq_getElem hj), k _ H1 (List.getElem_mem hj) pen1 off⟩
/-! ### prime -/
theorem scPrime : FnScope ["_law_pen_here", "_law_found", "_law_larger"] ["_law_pen_here"] (defScope sPrime) := ⟨rfl, rfl, rfl, by decide +kernel, rfl, by decide +kernel, by decide +kernel⟩
def primesA : List Int := [2, 2, 3, 3, 5, 7, 2, 3, 5, 11, 13, 97]
def primesB : List Int := [13, 17, 19, 23, 29, 31, 37, 41, 43, 47, 53, 59, 61, 67, 71, 73, 79, 83, 89]
theorem primesA_in : ∀ z ∈ primesA, 2 ≤ z ∧ z ≤ 97 := by decide
theorem primesB_in : ∀ z ∈ primesB, 2 ≤ z ∧ z ≤ 97 := by decide
theorem ok_prime {f fP : Addr} {fd fdP : FuncData} (F : Fun K "_law_prime" "_law_prime" sPrime f fd) (FP : Fun K "_law_pick" "_law_pick" sPick fP fdP) (bP : Binds K fdP ["_law_pen_here", "_law_options"] []) (gP : mg "_law_pick" = some (.ref fP))
    (GP : FnOk P w K mg base CX0 2 fP fdP ["_law_pen_here", "_law_options"] (spPick K)) : FnOk P w K mg base CX0 3 f fd ["_law_pen_here"] (spPrime K) := by
  refine F.ok scPrime (fun vs H Q E h => ?_) (fun cdv A outer s H vs Q E hr h => ?_)
  · obtain ⟨d, c, n, rfl, _⟩ := h
    rfl
  · obtain ⟨d, c, n, rfl, pen, hn, k⟩ := h
    refine ⟨_, pss_cons (ps_set (i := 1) scPrime.nd rfl (.inl rfl) (pe_call GP hr (by rfl) gP FP.kp bP .nil pass0 (pa_cons (pv 0) (pa_cons (pe_lst (pa_cons pe_int (pa_cons pe_int (pa_cons pe_int (pa_cons pe_int (pa_cons pe_int (pa_cons pe_int (pa_cons pe_int (pa_cons pe_int (pa_cons pe_int (pa_cons pe_int (pa_cons pe_int (pa_cons pe_int pa_nil))))))))))))) pa_nil))))
      (pss_cons (ps_set (i := 2) scPrime.nd rfl (.inl rfl) (pe_lst (pa_cons pe_int (pa_cons pe_int (pa_cons pe_int (pa_cons pe_int (pa_cons pe_int (pa_cons pe_int (pa_cons pe_int (pa_cons pe_int (pa_cons pe_int (pa_cons pe_int (pa_cons pe_int (pa_cons pe_int (pa_cons pe_int (pa_cons pe_int (pa_cons pe_int (pa_cons pe_int (pa_cons pe_int (pa_cons pe_int (pa_cons pe_int pa_nil)))))))))))))))))))))
      (pss_one (ps_ret (pe_ifExp (pt_cmpR op_eq (pv 1) pe_int (nomark _)) (pe_call GP hr (by rfl) gP FP.kp bP .nil pass0 (pa_cons (pv 0) (pa_cons (pv 2) pa_nil))) (pv 1))))), ?_⟩
    refine ⟨_, rfl, by show 12 ≤ sizeLine; decide, fun o no => ?_⟩
    have s1 := same_upd (o := .lst (primesA.map V.int)) no
    refine ⟨d, c, o, primesA.map V.int, n, rfl, pen.same s1, by omega, SqL.of upd_same, by decide, by decide, fun v H1 hv pen1 off1 => ?_⟩
    obtain ⟨z, hz, rfl⟩ := List.mem_map.mp hv
    have o1 := (same_off s1 d).trans off1
    refine ⟨by show 19 ≤ sizeLine; decide, fun b nb => ?_⟩
    have s2 := same_upd (o := .lst (primesB.map V.int)) nb
    refine ⟨_, rfl, rfl, _, rfl, ite2 (fun _ => ?_) (fun _ => ?_)⟩
    · refine ⟨_, rfl, _, rfl, d, c, b, primesB.map V.int, n + 1, rfl, pen1.same s2, by omega, SqL.of upd_same, by decide, by decide, fun v H2 hv pen2 off2 => ?_⟩
      obtain ⟨y, hy, rfl⟩ := List.mem_map.mp hv
      exact k y H2 (primesB_in y hy).1 (primesB_in y hy).2 pen2 ((o1.trans (same_off s2 d)).trans off2)
    · exact ⟨_, rfl, k z _ (primesA_in z hz).1 (primesA_in z hz).2 ((pen1.same s2).mono (by omega)) (o1.trans (same_off s2 d))⟩
/-! ### integer -/
theorem scInteger : FnScope ["_law_pen_here", "_law_most"] ["_law_pen_here", "_law_most"] (defScope sInteger) := ⟨rfl, rfl, rfl, by decide +kernel, rfl, by decide +kernel, by decide +kernel⟩
theorem ok_integer {f fD : Addr} {fd fdD : FuncData} (F : Fun K "_law_integer" "_law_integer" sInteger f fd) (FD : Fun K "_law_draw" "_law_draw" sDraw fD fdD) (bD : Binds K fdD ["_law_pen_here", "_law_many"] []) (gD : mg "_law_draw" = some (.ref fD))
    (GD : FnOk P w K mg base CX0 1 fD fdD ["_law_pen_here", "_law_many"] (spDraw K)) : FnOk P w K mg base CX0 2 f fd ["_law_pen_here", "_law_most"] (spInteger K) := by
  refine F.ok scInteger (fun vs H Q E h => ?_) (fun cdv A outer s H vs Q E hr h => ?_)
  · obtain ⟨d, c, m, n, rfl, _⟩ := h
    rfl
  · obtain ⟨d, c, m, n, rfl, pen, hn, h0, h1, k⟩ := h
    refine ⟨_, pss_one (ps_ret (pe_op op_sub (pe_call GD hr (by rfl) gD FD.kp bD .nil pass0 (pa_cons (pv 0) (pa_cons (pe_op op_add (pe_op op_mul pe_int (pv 1)) pe_int) pa_nil))) (pv 1))), ?_⟩
    have h62 := p62
    have h16 := p1016
    refine ⟨_, rfl, _, rfl, 2, m, rfl, rfl, .inl ⟨by decide, by decide⟩, _, 1, rfl, rfl, d, c, 2 * m + 1, n, rfl, pen, by omega, by omega, by omega, fun r H1 _ _ pen1 off => ?_⟩
    exact ⟨_, rfl, r, m, rfl, rfl, k _ H1 pen1 off⟩
/-! ### a polynomial -/
theorem scPoly : FnScope ["_law_pen_here", "_law_prime_here", "_law_terms", "_law_reach", "_law_pairs", "_law_k"] ["_law_pen_here", "_law_prime_here", "_law_terms", "_law_reach"] (defScope sPoly) := ⟨rfl, rfl, rfl, by decide +kernel, rfl, by decide +kernel, by decide +kernel⟩
theorem ok_poly {f fD fI fN : Addr} {fd fdD fdI fdN : FuncData} (F : Fun K "_law_polynomial" "_law_polynomial" sPoly f fd) (FD : Fun K "_law_draw" "_law_draw" sDraw fD fdD) (bD : Binds K fdD ["_law_pen_here", "_law_many"] []) (gD : mg "_law_draw" = some (.ref fD))
    (FI : Fun K "_law_integer" "_law_integer" sInteger fI fdI) (bI : Binds K fdI ["_law_pen_here", "_law_most"] []) (gI : mg "_law_integer" = some (.ref fI)) (FN : Fun K "_law_normal" "_law_normal" sNormal fN fdN) (bN : Binds K fdN ["_law_prime_here", "_law_pairs"] []) (gN : mg "_law_normal" = some (.ref fN)) (mR : mg "range" = none)
    (GD : FnOk P w K mg base CX0 1 fD fdD ["_law_pen_here", "_law_many"] (spDraw K)) (GI : FnOk P w K mg base CX0 2 fI fdI ["_law_pen_here", "_law_most"] (spInteger K)) (GN : FnOk P w K mg base CX0 1 fN fdN ["_law_prime_here", "_law_pairs"] (spNormal K)) :
    FnOk P w K mg base CX0 3 f fd ["_law_pen_here", "_law_prime_here", "_law_terms", "_law_reach"] (spPoly K) := by
  refine F.ok scPoly (fun vs H Q E h => ?_) (fun cdv A outer s H vs Q E hr h => ?_)
  · obtain ⟨d, c, p, t, m, n, rfl, _⟩ := h
    rfl
  · obtain ⟨d, c, p, t, m, n, rfl, pen, hn, hp2, hp97, ht0, ht8, hm0, hm1, k⟩ := h
    have h62 := p62
    have hr1 : Room 1 _ := hr.mono (by decide)
    refine ⟨_, pss_cons (ps_set (i := 4) scPoly.nd rfl (.inl rfl) (pe_lst pa_nil))
      (pss_cons (ps_for PassesOwn.never rfl (pi_range1 (by rfl) mR (pa_cons (pe_call GD hr1 (by rfl) gD FD.kp bD .nil pass0 (pa_cons (pv 0) (pa_cons (pe_op op_add (pv 2) pe_int) pa_nil))) pa_nil)) (pg_name (i := 5) scPoly.nd rfl (.inl rfl))
        (pss_one (ps_expr (pe_bm PySem.F.plainAttrs_list PySem.F.slot_list_append PySem.F.type_list_append mt_append (pv 4) (pa_cons (pe_tup (pa_cons
            (pe_call GI hr (by rfl) gI FI.kp bI .nil pass0 (pa_cons (pv 0) (pa_cons (pv 3) pa_nil)))
            (pa_cons (pe_op op_add pe_int (pe_call GD hr1 (by rfl) gD FD.kp bD .nil pass0 (pa_cons (pv 0) (pa_cons (pe_op op_sub (pv 1) pe_int) pa_nil)))) pa_nil))) pa_nil)))))
      (pss_one (ps_ret (pe_call GN hr1 (by rfl) gN FN.kp bN .nil pass0 (pa_cons (pv 1) (pa_cons (pv 4) pa_nil)))))), ?_⟩
    -- pairs = []
    refine ⟨Nat.zero_le _, fun l nl => ?_⟩
    have s1 := same_upd (o := .lst []) nl
    have pen1 := pen.same s1
    obtain ⟨kv1, hd1⟩ := pen1.dict
    have ld : l ≠ d := ne_of (upd_same (H := H) (a := l) (o := .lst [])) hd1 (by intro z; cases z)
    -- range(draw)
    refine ⟨_, rfl, _, rfl, t, 1, rfl, rfl, d, c, t + 1, n, rfl, pen1, by omega, by omega, by omega, fun r H1 r0 r1 pen2 off2 => ?_⟩
    have hl2 := off2 _ _ (upd_same (H := H) (a := l) (o := .lst [])) ld
    have rn : r.toNat ≤ 8 := by omega
    refine ⟨r, rfl, by omega, by omega, ?_⟩
    refine for_range (lo := 0) (n := r.toNat) (fun i σ Hc => ∃ (bs : List Addr) (ps : Pl) (y : Option V), σ = [some (.ref d), some (.int p), some (.int t), some (.int m), some (.ref l), y] ∧ Off d H Hc ∧ Pen K Hc d c (n + 1 + 2 * i) ∧ Hc l = some (.lst (bs.map V.ref)) ∧ Prs K Hc bs ps ∧ ps.length = i)
      ⟨[], [], none, rfl, (same_off s1 d).trans off2, pen2, hl2, .nil, rfl⟩ ?_ ?_
    · rintro i σ Hc hi ⟨bs, ps, y, rfl, off, pn, hl, hps, hlen⟩
      have lb := hps.len
      -- append((integer, 1 + draw))
      refine ⟨_, rfl, .inl ⟨rfl, _, .inl (.inl hl)⟩, ?_⟩
      refine ⟨_, rfl, _, rfl, d, c, m, n + 1 + 2 * i, rfl, pn, by omega, hm0, hm1, fun r1 H3 pen3 off3 => ?_⟩
      obtain ⟨kv, hd⟩ := pn.dict
      refine ⟨_, rfl, _, rfl, p, 1, rfl, rfl, d, c, p - 1, n + 1 + 2 * i + 1, rfl, pen3, by omega, by omega, by omega, fun r2 H4 q0 q1 pen4 off4 => ?_⟩
      have off34 := off3.trans off4
      have hl4 := off34 _ _ hl ld
      refine ⟨1, r2, rfl, rfl, by show 2 ≤ sizeLine; decide, fun q nq => ?_⟩
      have lq : l ≠ q := ne_of_none hl4 nq
      have hps4 := hps.off off34 hd
      obtain ⟨kv4, hd4⟩ := pen4.dict
      have dq : q ≠ d := fun z => by rw [z, hd4] at nq; cases nq
      have nq0 : H q = none := off_free (off.trans off34) dq nq
      obtain ⟨g1, _, g3, g4⟩ := grow (H := fun _ => none) (z := (r1, 1 + r2)) rfl (fun b o e => by cases e) hl4 hps4 nq
      refine ⟨l, _, .ref q, rfl, rfl, g1, by rw [List.length_map]; exact small1000 (by omega), ?_⟩
      refine ⟨bs ++ [q], ps ++ [(r1, 1 + r2)], _, rfl, off_over (off_over (off.trans off34) nq0) nl, ?_, g3, g4, by rw [List.length_append, List.length_singleton, hlen]⟩
      exact (pen.write nl (pen4.same (same_upd nq))).mono (by omega)
    · rintro σ Hc ⟨bs, ps, y, rfl, off, pn, hl, hps, hlen⟩
      refine ⟨_, rfl, _, rfl, p, l, ps, rfl, by omega, ⟨bs, SqL.of hl, hps⟩, by omega, fun H5 r5 qs s5 h5 cn e le => ?_⟩
      exact k H5 r5 qs (off.trans (same_off s5 d)) ((pn.same s5).mono (by omega)) h5 cn (by omega)
/-! ### an effect -/
theorem scEffect : FnScope ["_law_pen_here", "_law_prime_here", "_law_terms", "_law_reach", "_law_polynomial_here"] ["_law_pen_here", "_law_prime_here", "_law_terms", "_law_reach"] (defScope sEffect) := ⟨rfl, rfl, rfl, by decide +kernel, rfl, by decide +kernel, by decide +kernel⟩
theorem ok_effect {f fD fI fP : Addr} {fd fdD fdI fdP : FuncData} (F : Fun K "_law_effect" "_law_effect" sEffect f fd) (FD : Fun K "_law_draw" "_law_draw" sDraw fD fdD) (bD : Binds K fdD ["_law_pen_here", "_law_many"] []) (gD : mg "_law_draw" = some (.ref fD))
    (FI : Fun K "_law_integer" "_law_integer" sInteger fI fdI) (bI : Binds K fdI ["_law_pen_here", "_law_most"] []) (gI : mg "_law_integer" = some (.ref fI)) (FP : Fun K "_law_polynomial" "_law_polynomial" sPoly fP fdP) (bP : Binds K fdP ["_law_pen_here", "_law_prime_here", "_law_terms", "_law_reach"] []) (gP : mg "_law_polynomial" = some (.ref fP)) (mM : mg "min" = none)
    (GD : FnOk P w K mg base CX0 1 fD fdD ["_law_pen_here", "_law_many"] (spDraw K)) (GI : FnOk P w K mg base CX0 2 fI fdI ["_law_pen_here", "_law_most"] (spInteger K)) (GP : FnOk P w K mg base CX0 3 fP fdP ["_law_pen_here", "_law_prime_here", "_law_terms", "_law_reach"] (spPoly K)) :
    FnOk P w K mg base CX0 4 f fd ["_law_pen_here", "_law_prime_here", "_law_terms", "_law_reach"] (spEffect K) := by
  refine F.ok scEffect (fun vs H Q E h => ?_) (fun cdv A outer s H vs Q E hr h => ?_)
  · obtain ⟨d, c, p, t, m, n, rfl, _⟩ := h
    rfl
  · obtain ⟨d, c, p, t, m, n, rfl, pen, hn, hp2, hp97, ht0, ht8, hm0, hm1, k⟩ := h
    have h62 := p62
    have h16 := p1016
    refine ⟨_, pss_cons (ps_set (i := 4) scEffect.nd rfl (.inl rfl) (pe_call GP hr (by rfl) gP FP.kp bP .nil pass0 (pa_cons (pv 0) (pa_cons (pv 1) (pa_cons (pv 2) (pa_cons (pv 3) pa_nil))))))
      (pss_one (ps_ret (pe_tup (pa_cons (pv 4) (pa_cons (pe_call GI (hr.mono (by decide)) (by rfl) gI FI.kp bI .nil pass0 (pa_cons (pv 0) (pa_cons
        (pe_ix ix_list (pe_lst (pa_cons (pv 3) (pa_cons (pe_callB (call_min2 rfl) (by rfl) mM PyProof.Rows.boot_min (pa_cons pe_int (pa_cons (pv 3) pa_nil))) (pa_cons pe_int pa_nil))))
          (pe_call GD (hr.mono (by decide)) (by rfl) gD FD.kp bD .nil pass0 (pa_cons (pv 0) (pa_cons pe_int pa_nil))) (fun _ _ => rfl)) pa_nil))) pa_nil))))), ?_⟩
    refine ⟨_, rfl, _, rfl, _, rfl, _, rfl, d, c, p, t, m, n, rfl, pen, by omega, hp2, hp97, ht0, ht8, hm0, hm1, fun H1 r1 qs off1 pen1 h1 cn le => ?_⟩
    refine ⟨_, rfl, _, rfl, _, rfl, _, rfl, 3, m, rfl, by show 3 ≤ sizeLine; decide, fun o no => ?_⟩
    have s2 := same_upd (o := .lst [.int m, .int (if m < 3 then m else 3), .int 0]) no
    have pen2 := pen1.same s2
    obtain ⟨kv2, hd2⟩ := pen2.dict
    refine ⟨_, rfl, d, c, 3, n + 20, rfl, pen2, by omega, by omega, by omega, fun r H3 r0 r1' pen3 off3 => ?_⟩
    have ho3 := seqL_off off3 hd2 (SqL.of (K := K) (upd_same (H := H1) (a := o) (o := .lst [.int m, .int (if m < 3 then m else 3), .int 0])))
    obtain ⟨z, hz, z0, z1⟩ : ∃ z : Int, ([V.int m, V.int (if m < 3 then m else 3), V.int 0] : List V)[r.toNat]? = some (.int z) ∧ 0 ≤ z ∧ z ≤ 10 ^ 16 := by
      rcases (show r.toNat = 0 ∨ r.toNat = 1 ∨ r.toNat = 2 by omega) with e | e | e
      · rw [e]
        exact ⟨m, rfl, hm0, hm1⟩
      · rw [e]
        refine ⟨_, rfl, ?_, ?_⟩ <;> split <;> omega
      · rw [e]
        exact ⟨0, rfl, Int.le_refl _, by omega⟩
    refine ⟨o, _, r, .int z, rfl, rfl, ho3, at_of (show r = ((r.toNat : Nat) : Int) by omega) hz, ?_⟩
    refine ⟨d, c, z, n + 21, rfl, pen3, by omega, z0, z1, fun s4 H4 pen4 off4 => ?_⟩
    refine ⟨by show 2 ≤ sizeLine; decide, fun q nq => ?_⟩
    have s5 := same_upd (o := .tup [.ref r1, .int s4]) nq
    obtain ⟨kv3, hd3⟩ := pen3.dict
    refine k _ q qs s4 ((((off1.trans (same_off s2 d)).trans off3).trans off4).trans (same_off s5 d)) ((pen4.same s5).mono (by omega)) ⟨r1, SqT.of upd_same, ?_⟩ cn le
    exact ((((h1.at.same s2).off off3 hd2).off off4 hd3).same s5)
end
end Dr
/-! The law. -/
namespace Dr
open PySem PySem.Spec PyProof.Rows L2
def spLaw (K : PySem.W.Frag) : Sp := fun vs H Q _ => ∃ (a : Addr) (ns : List Int), vs = [.ref a] ∧ SqL K H a (ns.map V.int) ∧ ns.length ≤ 63 ∧ ∀ H' : Hp, Q (.bl true) H'
/-- what stands through a turn -/
structure Base (K : PySem.W.Frag) (H : Hp) (d c : Addr) (n : Nat) (a1 : Addr) (P1 : Pl) (s1 : Int) (a2 : Addr) (P2 : Pl) (s2 : Int) (dd : Addr) (D : Pl) : Prop where
  pen : Pen K H d c n
  e1 : EffAt K H a1 P1 s1
  e2 : EffAt K H a2 P2 s2
  dl : DialAt H dd D
section
variable {K : PySem.W.Frag} {H H' : Hp} {d c : Addr} {n n' : Nat} {a1 : Addr} {P1 : Pl} {s1 : Int} {a2 : Addr} {P2 : Pl} {s2 : Int} {dd : Addr} {D : Pl}
theorem Base.same (e : Same H H') (b : Base K H d c n a1 P1 s1 a2 P2 s2 dd D) : Base K H' d c n a1 P1 s1 a2 P2 s2 dd D := ⟨b.pen.same e, b.e1.same e, b.e2.same e, b.dl.same e⟩
theorem Base.off (e : Off d H H') (p : Pen K H' d c n') (b : Base K H d c n a1 P1 s1 a2 P2 s2 dd D) : Base K H' d c n' a1 P1 s1 a2 P2 s2 dd D := by
  obtain ⟨kv, hd⟩ := b.pen.dict
  exact ⟨p, b.e1.off e hd, b.e2.off e hd, b.dl.off e b.pen⟩
end
abbrev lawN : List Str := ["_law_script", "_law_pen_here", "_law_turn", "_law_prime_here", "_law_reach", "_law_one", "_law_other", "_law_dials", "_law_place", "_law_first", "_law_both", "_law_bare", "_law_places", "_law_moved", "_law_count", "_law_here", "_law_k"]
section
variable {P : Program} {w : World} {K : PySem.W.Frag} {mg : Str → Option Value} {base : Heap}
theorem scLaw : FnScope lawN ["_law_script"] (defScope sLaw) := ⟨rfl, rfl, rfl, by decide +kernel, rfl, by decide +kernel, by decide +kernel⟩
theorem ok_law {f fPen fPrime fPick fEff fPoly fInt fDraw fApp fCom fInv fPow fMov : Addr} {fd dPen dPrime dPick dEff dPoly dInt dDraw dApp dCom dInv dPow dMov : FuncData} (F : Fun K "law" "law" sLaw f fd)
    (F1 : Fun K "_law_pen" "_law_pen" sPen fPen dPen) (b1 : Binds K dPen ["_law_script"] []) (g1 : mg "_law_pen" = some (.ref fPen)) (G1 : FnOk P w K mg base CX0 1 fPen dPen ["_law_script"] (spPen K))
    (F2 : Fun K "_law_prime" "_law_prime" sPrime fPrime dPrime) (b2 : Binds K dPrime ["_law_pen_here"] []) (g2 : mg "_law_prime" = some (.ref fPrime)) (G2 : FnOk P w K mg base CX0 3 fPrime dPrime ["_law_pen_here"] (spPrime K))
    (F3 : Fun K "_law_pick" "_law_pick" sPick fPick dPick) (b3 : Binds K dPick ["_law_pen_here", "_law_options"] []) (g3 : mg "_law_pick" = some (.ref fPick)) (G3 : FnOk P w K mg base CX0 2 fPick dPick ["_law_pen_here", "_law_options"] (spPick K))
    (F4 : Fun K "_law_effect" "_law_effect" sEffect fEff dEff) (b4 : Binds K dEff ["_law_pen_here", "_law_prime_here", "_law_terms", "_law_reach"] []) (g4 : mg "_law_effect" = some (.ref fEff)) (G4 : FnOk P w K mg base CX0 4 fEff dEff ["_law_pen_here", "_law_prime_here", "_law_terms", "_law_reach"] (spEffect K))
    (F5 : Fun K "_law_polynomial" "_law_polynomial" sPoly fPoly dPoly) (b5 : Binds K dPoly ["_law_pen_here", "_law_prime_here", "_law_terms", "_law_reach"] []) (g5 : mg "_law_polynomial" = some (.ref fPoly)) (G5 : FnOk P w K mg base CX0 3 fPoly dPoly ["_law_pen_here", "_law_prime_here", "_law_terms", "_law_reach"] (spPoly K))
    (F6 : Fun K "_law_integer" "_law_integer" sInteger fInt dInt) (b6 : Binds K dInt ["_law_pen_here", "_law_most"] []) (g6 : mg "_law_integer" = some (.ref fInt)) (G6 : FnOk P w K mg base CX0 2 fInt dInt ["_law_pen_here", "_law_most"] (spInteger K))
    (F7 : Fun K "_law_draw" "_law_draw" sDraw fDraw dDraw) (b7 : Binds K dDraw ["_law_pen_here", "_law_many"] []) (g7 : mg "_law_draw" = some (.ref fDraw)) (G7 : FnOk P w K mg base CX0 1 fDraw dDraw ["_law_pen_here", "_law_many"] (spDraw K))
    (F8 : Fun K "apply" "apply" sApply fApp dApp) (b8 : Binds K dApp ["prime", "effect", "dials", "place"] []) (g8 : mg "apply" = some (.ref fApp)) (G8 : FnOk P w K mg base CX0 2 fApp dApp ["prime", "effect", "dials", "place"] (spApply K))
    (F9 : Fun K "compose" "compose" sCompose fCom dCom) (b9 : Binds K dCom ["prime", "one", "other"] []) (g9 : mg "compose" = some (.ref fCom)) (G9 : FnOk P w K mg base CX0 3 fCom dCom ["prime", "one", "other"] (spCompose K))
    (F10 : Fun K "inverse" "inverse" sInverse fInv dInv) (b10 : Binds K dInv ["prime", "effect"] []) (g10 : mg "inverse" = some (.ref fInv)) (G10 : FnOk P w K mg base CX0 3 fInv dInv ["prime", "effect"] (spInverse K))
    (F11 : Fun K "power" "power" sPower fPow dPow) (b11 : Binds K dPow ["prime", "effect", "count"] []) (g11 : mg "power" = some (.ref fPow)) (G11 : FnOk P w K mg base CX0 4 fPow dPow ["prime", "effect", "count"] (spPower K))
    (F12 : Fun K "_law_moved_dials" "_law_moved_dials" sMoved fMov dMov) (b12 : Binds K dMov ["_law_dials", "_law_places"] []) (g12 : mg "_law_moved_dials" = some (.ref fMov)) (G12 : FnOk P w K mg base CX0 1 fMov dMov ["_law_dials", "_law_places"] (spMoved K))
    (mR : mg "range" = none) (mD : mg "dict" = none) (mT : mg "tuple" = none) : FnOk P w K mg base CX0 5 f fd ["_law_script"] (spLaw K) := by
  refine F.ok scLaw (fun vs H Q E h => ?_) (fun cdv A outer s H vs Q E hr h => ?_)
  · obtain ⟨a, ns, rfl, _⟩ := h
    rfl
  · obtain ⟨a, ns, rfl, hS, hns, k⟩ := h
    have r1 : Room 1 _ := hr.mono (by decide)
    have r2 : Room 2 _ := hr.mono (by decide)
    have r3 : Room 3 _ := hr.mono (by decide)
    have hu64 := hr.units
    refine ⟨_, pss_cons (ps_set (i := 1) scLaw.nd rfl (.inl rfl) (pe_call G1 r1 (by rfl) g1 F1.kp b1 .nil pass0 (pa_cons (pv 0) pa_nil)))
      (pss_cons (ps_for PassesOwn.never rfl (pi_range1 (by rfl) mR (pa_cons pe_int pa_nil)) (pg_name (i := 2) scLaw.nd rfl (.inl rfl))
        -- prime, reach
        (pss_cons (ps_par (i := 3) (j := 4) rfl scLaw.nd rfl rfl (by decide) rfl rfl (pa_cons (pe_call G2 r3 (by rfl) g2 F2.kp b2 .nil pass0 (pa_cons (pv 1) pa_nil)) (pa_cons (pe_call G3 r2 (by rfl) g3 F3.kp b3 .nil pass0 (pa_cons (pv 1) (pa_cons (pe_lst (pa_cons pe_int (pa_cons pe_int (pa_cons (pe_op op_pow pe_int pe_int) pa_nil)))) pa_nil))) pa_nil)) (by rfl))
        -- one, other
        (pss_cons (ps_par (i := 5) (j := 6) rfl scLaw.nd rfl rfl (by decide) rfl rfl (pa_cons (pe_call G4 hr (by rfl) g4 F4.kp b4 .nil pass0 (pa_cons (pv 1) (pa_cons (pv 3) (pa_cons pe_int (pa_cons (pv 4) pa_nil))))) (pa_cons (pe_call G4 hr (by rfl) g4 F4.kp b4 .nil pass0 (pa_cons (pv 1) (pa_cons (pv 3) (pa_cons pe_int (pa_cons (pv 4) pa_nil))))) pa_nil)) (by rfl))
        -- dials, place
        (pss_cons (ps_par (i := 7) (j := 8) rfl scLaw.nd rfl rfl (by decide) rfl rfl (pa_cons (pe_callTy (call_dictT rfl) (by rfl) mD PyProof.Rows.boot_dict (pa_cons (pe_call G5 r3 (by rfl) g5 F5.kp b5 .nil pass0 (pa_cons (pv 1) (pa_cons (pv 3) (pa_cons pe_int (pa_cons pe_int pa_nil))))) pa_nil)) (pa_cons (pe_call G6 r2 (by rfl) g6 F6.kp b6 .nil pass0 (pa_cons (pv 1) (pa_cons pe_int pa_nil))) pa_nil)) (by rfl))
        -- first
        (pss_cons (ps_set (i := 9) scLaw.nd rfl (.inl rfl) (pe_call G8 r2 (by rfl) g8 F8.kp b8 .nil pass0 (pa_cons (pv 3) (pa_cons (pv 5) (pa_cons (pv 7) (pa_cons (pv 8) pa_nil))))))
        -- both
        (pss_cons (ps_set (i := 10) scLaw.nd rfl (.inl rfl) (pe_call G8 r2 (by rfl) g8 F8.kp b8 .nil pass0 (pa_cons (pv 3) (pa_cons (pe_call G9 r3 (by rfl) g9 F9.kp b9 .nil pass0 (pa_cons (pv 3) (pa_cons (pv 5) (pa_cons (pv 6) pa_nil)))) (pa_cons (pv 7) (pa_cons (pv 8) pa_nil))))))
        -- the composition
        (pss_cons (ps_if (pt_cmpR (op_neTD hu64) (pe_call G8 r2 (by rfl) g8 F8.kp b8 .nil pass0 (pa_cons (pv 3) (pa_cons (pv 6) (pa_cons (pe_ix ix_tup (pv 9) pe_int (fun _ _ => rfl)) (pa_cons (pe_ix ix_tup (pv 9) pe_int (fun _ _ => rfl)) pa_nil))))) (pv 10) (nomark _)) (pss_one (ps_ret pe_bl)) pss_nil)
        -- the inverse
        (pss_cons (ps_if (pt_cmpR (op_neTD hu64) (pe_call G8 r2 (by rfl) g8 F8.kp b8 .nil pass0 (pa_cons (pv 3) (pa_cons (pe_call G10 r3 (by rfl) g10 F10.kp b10 .nil pass0 (pa_cons (pv 3) (pa_cons (pv 5) pa_nil))) (pa_cons (pe_ix ix_tup (pv 9) pe_int (fun _ _ => rfl)) (pa_cons (pe_ix ix_tup (pv 9) pe_int (fun _ _ => rfl)) pa_nil))))) (pe_tup (pa_cons (pv 7) (pa_cons (pv 8) pa_nil))) (nomark _)) (pss_one (ps_ret pe_bl)) pss_nil)
        -- bare
        (pss_cons (ps_set (i := 11) scLaw.nd rfl (.inl rfl) (pe_call G8 r2 (by rfl) g8 F8.kp b8 .nil pass0 (pa_cons (pv 3) (pa_cons (pv 5) (pa_cons pe_dnewK (pa_cons pe_int pa_nil))))))
        (pss_cons (ps_if (pt_cmpR (op_neD hu64) (pe_tup (pa_cons (pe_tupItems rfl (pe_ix ix_tup (pv 11) pe_int (fun _ _ => rfl)) (by rfl) mT) (pa_cons (pe_ix ix_tup (pv 11) pe_int (fun _ _ => rfl)) pa_nil))) (pv 5) (nomark _)) (pss_one (ps_ret pe_bl)) pss_nil)
        -- places, moved
        (pss_cons (ps_set (i := 12) scLaw.nd rfl (.inl rfl) (pe_call G6 r2 (by rfl) g6 F6.kp b6 .nil pass0 (pa_cons (pv 1) (pa_cons (pe_op op_pow pe_int pe_int) pa_nil))))
        (pss_cons (ps_set (i := 13) scLaw.nd rfl (.inl rfl) (pe_call G8 r2 (by rfl) g8 F8.kp b8 .nil pass0 (pa_cons (pv 3) (pa_cons (pv 5) (pa_cons (pe_call G12 r1 (by rfl) g12 F12.kp b12 .nil pass0 (pa_cons (pv 7) (pa_cons (pv 12) pa_nil))) (pa_cons (pe_op op_add (pv 8) (pv 12)) pa_nil))))))
        (pss_cons (ps_if (pt_cmpR (op_neTD hu64) (pv 13) (pe_tup (pa_cons (pe_call G12 r1 (by rfl) g12 F12.kp b12 .nil pass0 (pa_cons (pe_ix ix_tup (pv 9) pe_int (fun _ _ => rfl)) (pa_cons (pv 12) pa_nil))) (pa_cons (pe_op op_add (pe_ix ix_tup (pv 9) pe_int (fun _ _ => rfl)) (pv 12)) pa_nil))) (nomark _)) (pss_one (ps_ret pe_bl)) pss_nil)
        -- count, here
        (pss_cons (ps_par (i := 14) (j := 15) rfl scLaw.nd rfl rfl (by decide) rfl rfl (pa_cons (pe_call G7 r1 (by rfl) g7 F7.kp b7 .nil pass0 (pa_cons (pv 1) (pa_cons pe_int pa_nil))) (pa_cons (pe_tup (pa_cons (pv 7) (pa_cons (pv 8) pa_nil))) pa_nil)) (by rfl))
        (pss_cons (ps_for PassesOwn.never rfl (pi_range1 (by rfl) mR (pa_cons (pv 14) pa_nil)) (pg_name (i := 16) scLaw.nd rfl (.inl rfl))
          (pss_one (ps_set (i := 15) scLaw.nd rfl (.inl rfl) (pe_call G8 r2 (by rfl) g8 F8.kp b8 .nil pass0 (pa_cons (pv 3) (pa_cons (pv 5) (pa_cons (pe_ix ix_tup (pv 15) pe_int (fun _ _ => rfl)) (pa_cons (pe_ix ix_tup (pv 15) pe_int (fun _ _ => rfl)) pa_nil))))))))
        -- the power
        (pss_one (ps_if (pt_cmpR (op_neTD hu64) (pe_call G8 r2 (by rfl) g8 F8.kp b8 .nil pass0 (pa_cons (pv 3) (pa_cons (pe_call G11 hr (by rfl) g11 F11.kp b11 .nil pass0 (pa_cons (pv 3) (pa_cons (pv 5) (pa_cons (pv 14) pa_nil)))) (pa_cons (pv 7) (pa_cons (pv 8) pa_nil))))) (pv 15) (nomark _)) (pss_one (ps_ret pe_bl)) pss_nil)))))))))))))))))
      (pss_one (ps_ret pe_bl))), ?_⟩
    -- the pen
    refine ⟨_, rfl, a, ns, rfl, hS, hns, fun H0 d c sm0 pen0 => ?_⟩
    refine ⟨8, rfl, by decide, by decide, ?_⟩
    refine for_range (lo := 0) (n := 8) (fun i σ Hc => ∃ y2 y3 y4 y5 y6 y7 y8 y9 y10 y11 y12 y13 y14 y15 y16 : Option V, σ = [some (.ref a), some (.ref d), y2, y3, y4, y5, y6, y7, y8, y9, y10, y11, y12, y13, y14, y15, y16] ∧ Pen K Hc d c (100 * i)) ⟨none, none, none, none, none, none, none, none, none, none, none, none, none, none, none, rfl, pen0⟩ ?turn ?done
    case done =>
      rintro σ Hc ⟨y2, y3, y4, y5, y6, y7, y8, y9, y10, y11, y12, y13, y14, y15, y16, rfl, pn⟩
      exact k Hc
    case turn =>
      rintro i σ Hc hi ⟨y2, y3, y4, y5, y6, y7, y8, y9, y10, y11, y12, y13, y14, y15, y16, rfl, pn⟩
      have h16 := p1016
      have h62 := p62
      -- prime, reach
      refine ⟨_, rfl, d, c, 100 * i, rfl, pn, by omega, fun p H1 hp2 hp97 pen1 off1 => ?_⟩
      have hp : 0 < p := by omega
      refine ⟨_, rfl, 10, 15, rfl, rfl, ⟨by decide, by decide, by decide⟩, by show 3 ≤ sizeLine; decide, fun o no => ?_⟩
      have so := same_upd (o := .lst [.int 3, .int 10, .int (10 ^ 15)]) no
      refine ⟨d, c, o, [.int 3, .int 10, .int (10 ^ 15)], 100 * i + 2, rfl, pen1.same so, by omega, SqL.of upd_same, by decide, by decide, fun v H2 hv pen2 off2 => ?_⟩
      obtain ⟨m, rfl, hm0, hm1⟩ : ∃ m : Int, v = .int m ∧ 0 ≤ m ∧ m ≤ 10 ^ 16 := by
        simp only [List.mem_cons, List.not_mem_nil, or_false] at hv
        rcases hv with rfl | rfl | rfl
        · exact ⟨3, rfl, by decide, by decide⟩
        · exact ⟨10, rfl, by decide, by decide⟩
        · exact ⟨10 ^ 15, rfl, by decide, by decide⟩
      refine ⟨_, _, rfl, ?_⟩
      -- one, other
      refine ⟨_, rfl, _, rfl, _, rfl, d, c, p, 8, m, 100 * i + 3, rfl, pen2, by omega, hp2, hp97, by decide, by decide, hm0, hm1, fun H3 a1 P1 s1 off3 pen3 e1 c1 l1 => ?_⟩
      refine ⟨_, rfl, _, rfl, _, rfl, d, c, p, 8, m, 100 * i + 28, rfl, pen3, by omega, hp2, hp97, by decide, by decide, hm0, hm1, fun H4 a2 P2 s2 off4 pen4 e2 c2 l2 => ?_⟩
      refine ⟨_, _, rfl, ?_⟩
      obtain ⟨kv3, hd3⟩ := pen3.dict
      obtain ⟨kv4, hd4⟩ := pen4.dict
      -- dials, place
      refine ⟨_, rfl, _, rfl, d, c, p, 8, 8, 100 * i + 53, rfl, pen4, by omega, hp2, hp97, by decide, by decide, by decide, by decide, fun H5 r5 D off5 pen5 h5 cD lD => ?_⟩
      obtain ⟨as, ob, hf, ho, hpr⟩ := h5
      refine ⟨r5, ob, as, dk D, rfl, hf, ho, dk_prs hpr, fun dd ndd => ?_⟩
      have s5 := same_upd (o := .dK (mergeK [] (dk D))) ndd
      have pen5' := pen5.same s5
      obtain ⟨kv5, hd5⟩ := pen5'.dict
      refine ⟨_, rfl, d, c, 10, 100 * i + 73, rfl, pen5', by omega, by decide, by decide, fun x H6 pen6 off6 => ?_⟩
      refine ⟨_, _, rfl, ?_⟩
      have dl5 : DialAt (upd H5 dd (.dK (mergeK [] (dk D)))) dd D := by
        show upd _ dd _ dd = some (.dK (dk D))
        rw [upd_same, merge_canon cD]
      have B6 : Base K H6 d c (100 * i + 74) a1 P1 s1 a2 P2 s2 dd D :=
        ⟨pen6, (((e1.off off4 hd3).off off5 hd4).same s5).off off6 hd5, ((e2.off off5 hd4).same s5).off off6 hd5, dl5.off off6 pen5'⟩
      -- first
      refine ⟨_, rfl, _, rfl, _, rfl, _, rfl, p, a1, dd, P1, D, s1, x, rfl, hp, B6.e1, B6.dl, by omega, fun H7 f F sm7 stF cF eF lF => ?_⟩
      have B7 := B6.same sm7
      -- both
      refine ⟨_, rfl, _, rfl, _, rfl, _, rfl, p, a1, a2, P1, P2, s1, s2, rfl, hp, B7.e1, B7.e2, by omega, fun H8 ac C sm8 eC cC vC lC => ?_⟩
      have B8 := B7.same sm8
      refine ⟨_, rfl, _, rfl, p, ac, dd, C, D, s1 + s2, x, rfl, hp, eC, B8.dl, by omega, fun H9 bo B sm9 stB cB vB lB => ?_⟩
      have B9 := B8.same sm9
      obtain ⟨df, hF, dF⟩ := (stF.same sm8).same sm9
      -- the composition
      refine ⟨_, rfl, _, rfl, _, rfl, f, _, 0, .ref df, rfl, rfl, hF, atI_nat (j := 0) rfl, _, rfl, f, _, 1, .int (x + s1), rfl, rfl, hF, atI_nat (j := 1) rfl, ?_⟩
      refine ⟨p, a2, df, P2, F, s2, x + s1, rfl, hp, B9.e2, dF, by omega, fun H10 g G sm10 stG cG vG lG => ?_⟩
      have B10 := B9.same sm10
      obtain ⟨dg, hG, dG⟩ := stG
      obtain ⟨db, hB, dB⟩ := stB.same sm10
      have eGB : G = B := law_compose hp cG cB eF vC vB vG
      rw [← eGB] at dB
      rw [← Int.add_assoc] at hB
      refine ⟨_, rfl, g, bo, dg, db, x + s1 + s2, dk G, rfl, rfl, hG, hB, dG, dB, dk_nodup (canon_keys cG), dk_flat G, _, rfl, ?_⟩
      refine iteF ?_
      have hF10 := seqT_same sm10 hF
      have dF10 := dF.same sm10
      -- the inverse
      refine ⟨_, rfl, _, rfl, _, rfl, p, a1, P1, s1, rfl, hp, B10.e1, by omega, fun H11 ai I sm11 eI cI vI lI => ?_⟩
      have hF11 := seqT_same sm11 hF10
      have dF11 := dF10.same sm11
      refine ⟨_, rfl, f, _, 0, .ref df, rfl, rfl, hF11, atI_nat (j := 0) rfl, _, rfl, f, _, 1, .int (x + s1), rfl, rfl, hF11, atI_nat (j := 1) rfl, ?_⟩
      refine ⟨p, ai, df, I, F, -s1, x + s1, rfl, hp, eI, dF11, by omega, fun H12 g2 R sm12 stR cR vR lR => ?_⟩
      refine ⟨_, rfl, _, rfl, by show 2 ≤ sizeLine; decide, fun q nq => ?_⟩
      have sq := same_upd (o := .tup [.ref dd, .int x]) nq
      obtain ⟨dr, hR, dR⟩ := stR.same sq
      have eRD : R = D := law_inverse hp cR cD eF vI vR
      rw [eRD] at dR
      rw [show x + s1 + -s1 = x by omega] at hR
      have B13 := ((B10.same sm11).same sm12).same sq
      have hF13 := seqT_same sq (seqT_same sm12 hF11)
      have dF13 := (dF11.same sm12).same sq
      refine ⟨g2, q, dr, dd, x, dk D, rfl, rfl, hR, SqT.of upd_same, dR, B13.dl, dk_nodup (canon_keys cD), dk_flat D, _, rfl, ?_⟩
      refine iteF ?_
      -- bare
      refine ⟨_, rfl, _, rfl, fun z nz => ?_⟩
      have sz := same_upd (o := .dK []) nz
      refine ⟨p, a1, z, P1, [], s1, 0, rfl, hp, (B13.same sz).e1, upd_same, by simp only [List.length_nil]; omega, fun H14 ba R0 sm14 stR0 cR0 vR0 lR0 => ?_⟩
      have B14 := (B13.same sz).same sm14
      have hF14 := seqT_same sm14 (seqT_same sz hF13)
      have dF14 := (dF13.same sz).same sm14
      have eR0 : R0 = P1 := law_bare hp cR0 c1 vR0
      obtain ⟨d0, hb0, db0⟩ := stR0
      rw [eR0] at db0
      refine ⟨_, rfl, ba, _, 0, .ref d0, rfl, rfl, hb0, atI_nat (j := 0) rfl, d0, dk P1, rfl, db0, fun H15 tp ts sm15 htp hpairs => ?_⟩
      have sm15 : Same H14 H15 := sm15
      refine ⟨_, rfl, ba, _, 1, .int (0 + s1), rfl, rfl, seqT_same sm15 hb0, atI_nat (j := 1) rfl, by show 2 ≤ sizeLine; decide, fun q2 nq2 => ?_⟩
      have sq2 := same_upd (o := .tup [.ref tp, .int (0 + s1)]) nq2
      have B16 := (B14.same sm15).same sq2
      have hF16 := seqT_same sq2 (seqT_same sm15 hF14)
      have dF16 := (dF14.same sm15).same sq2
      obtain ⟨pb, hpb1, hpb2⟩ := B16.e1
      have pt : PolyAt K H15 tp P1 := ⟨ts, SqT.of htp, prs_dk hpairs⟩
      have dp1 := eff_dp (K := K) (SqT.of (K := K) (upd_same (H := H15) (a := q2) (o := .tup [.ref tp, .int (0 + s1)]))) (pt.same sq2)
      have dp2 := Eq.mp (congrArg (fun z : Int => Dp K (upd H15 q2 (.tup [.ref tp, .int (0 + s1)])) (.ref q2) (.tuple [polyD P1, .int z])) (Int.zero_add s1)) dp1
      refine ⟨_, rfl, .tuple [polyD P1, .int s1], .tuple [polyD P1, .int s1], dp2, eff_dp hpb1 hpb2, eff_shaped P1 s1, eff_shaped P1 s1, false, by rw [eff_eqv]; rfl, ?_⟩
      refine iteF ?_
      -- places
      refine ⟨_, rfl, 10, 10, rfl, rfl, ⟨by decide, by decide, by decide⟩, d, c, 10 ^ 10, 100 * i + 74, rfl, B16.pen, by omega, by decide, by decide, fun kk H17 pen17 off17 => ?_⟩
      have B17 := B16.off off17 pen17
      obtain ⟨kv16, hd16⟩ := B16.pen.dict
      have hF17 := seqT_off off17 hd16 hF16
      have dF17 := dF16.off off17 B16.pen
      -- moved
      refine ⟨_, rfl, _, rfl, _, rfl, _, rfl, p, dd, D, kk, rfl, B17.dl, cD, by omega, fun H18 dm sm18 dlm => ?_⟩
      have B18 := B17.same sm18
      refine ⟨_, rfl, _, rfl, x, kk, rfl, rfl, p, a1, dm, P1, mv D kk, s1, x + kk, rfl, hp, B18.e1, dlm, by rw [mv_len]; omega, fun H19 mo M sm19 stM cM vM lM => ?_⟩
      have B19 := B18.same sm19
      have hF19 := seqT_same sm19 (seqT_same sm18 hF17)
      have dF19 := (dF17.same sm18).same sm19
      refine ⟨_, rfl, _, rfl, f, _, 0, .ref df, rfl, rfl, hF19, atI_nat (j := 0) rfl, _, rfl, p, df, F, kk, rfl, dF19, cF, by omega, fun H20 dn sm20 dln => ?_⟩
      have hF20 := seqT_same sm20 hF19
      refine ⟨_, rfl, f, _, 1, .int (x + s1), rfl, rfl, hF20, atI_nat (j := 1) rfl, _, rfl, x + s1, kk, rfl, rfl, by show 2 ≤ sizeLine; decide, fun q3 nq3 => ?_⟩
      have sq3 := same_upd (o := .tup [.ref dn, .int (x + s1 + kk)]) nq3
      have B21 := (B19.same sm20).same sq3
      have eM : M = mv F kk := law_moved hp cM cF eF vM
      obtain ⟨dmo, hmo, dmo'⟩ := (stM.same sm20).same sq3
      rw [eM] at dmo'
      rw [show x + kk + s1 = x + s1 + kk by omega] at hmo
      refine ⟨mo, q3, dmo, dn, x + s1 + kk, dk (mv F kk), rfl, rfl, hmo, SqT.of upd_same, dmo', dln.same sq3, dk_nodup (canon_keys (cF.mv kk)), dk_flat _, _, rfl, ?_⟩
      refine iteF ?_
      -- count, here
      refine ⟨_, rfl, d, c, 8, 100 * i + 75, rfl, B21.pen, by omega, by decide, by decide, fun cn H22 n0 n8 pen22 off22 => ?_⟩
      obtain ⟨nn, rfl⟩ : ∃ nn : Nat, cn = (nn : Int) := ⟨cn.toNat, by omega⟩
      refine ⟨_, rfl, _, rfl, by show 2 ≤ sizeLine; decide, fun q4 nq4 => ?_⟩
      have sq4 := same_upd (o := .tup [.ref dd, .int x]) nq4
      have B22 := (B21.off off22 pen22).same sq4
      refine ⟨_, _, rfl, ?_⟩
      refine ⟨_, rfl, (nn : Int), rfl, by omega, by omega, ?_⟩
      refine for_range (lo := 0) (n := nn) (fun j σ Hx => ∃ (hh : Addr) (G' : Pl) (yk : Option V), σ = [some (.ref a), some (.ref d), some (.int (0 + (i : Int))), some (.int p), some (.int m), some (.ref a1), some (.ref a2), some (.ref dd), some (.int x), some (.ref f), some (.ref bo), some (.ref ba), some (.int kk), some (.ref mo), some (.int (nn : Int)), some (.ref hh), yk] ∧
          Base K Hx d c (100 * i + 76) a1 P1 s1 a2 P2 s2 dd D ∧ StAt K Hx hh G' (x + (j : Int) * s1) ∧ Canon p G' ∧ (∀ e, ev G' e = (ev D e + pw (ev P1) s1 j (e - x)) % p) ∧ G'.length ≤ 8 + 8 * j)
        ⟨q4, D, y16, rfl, B22, ⟨dd, ?_, B22.dl⟩, cD, here_zero hp cD, by omega⟩ ?_ ?_
      · rw [show x + ((0 : Nat) : Int) * s1 = x by simp]
        exact SqT.of upd_same
      · rintro j σ Hx hj ⟨hh, G', yk, rfl, Bx, ⟨dh, hh1, hh2⟩, cH, vH, lH⟩
        refine ⟨_, rfl, _, rfl, _, rfl, hh, _, 0, .ref dh, rfl, rfl, hh1, atI_nat (j := 0) rfl, _, rfl, hh, _, 1, .int (x + (j : Int) * s1), rfl, rfl, hh1, atI_nat (j := 1) rfl, ?_⟩
        refine ⟨p, a1, dh, P1, G', s1, x + (j : Int) * s1, rfl, hp, Bx.e1, hh2, by omega, fun H23 h2 G2 sm23 st23 c23 v23 l23 => ?_⟩
        refine ⟨h2, G2, _, rfl, Bx.same sm23, ?_, c23, here_step hp vH v23, by omega⟩
        rw [show x + ((j + 1 : Nat) : Int) * s1 = x + (j : Int) * s1 + s1 by rw [Int.natCast_add, Int.add_mul]; simp; omega]
        exact st23
      · rintro σ Hx ⟨hh, G', yk, rfl, Bx, stH, cH, vH, lH⟩
        -- the power
        refine ⟨_, rfl, _, rfl, _, rfl, _, rfl, p, a1, P1, s1, nn, rfl, hp, Bx.e1, c1, l1, by omega, fun H24 aw W sm24 eW cW vW lW => ?_⟩
        refine ⟨_, rfl, _, rfl, p, aw, dd, W, D, (nn : Int) * s1, x, rfl, hp, eW, (Bx.same sm24).dl, by omega, fun H25 fi B2 sm25 st25 c25 v25 l25 => ?_⟩
        have eBG : B2 = G' := law_power hp cH c25 vH vW v25
        obtain ⟨d25, h25, dl25⟩ := st25
        rw [eBG] at dl25
        obtain ⟨dh, hh1, hh2⟩ := (stH.same sm24).same sm25
        refine ⟨_, rfl, fi, hh, d25, dh, x + (nn : Int) * s1, dk G', rfl, rfl, h25, hh1, dl25, hh2, dk_nodup (canon_keys cH), dk_flat G', _, rfl, ?_⟩
        refine iteF ?_
        exact ⟨_, _, _, _, _, _, _, _, _, _, _, _, _, _, _, rfl, (((Bx.same sm24).same sm25).pen).mono (by omega)⟩
end
end Dr
/-! What the top has written, and the theorem. -/
namespace Dr
open PySem PySem.Spec PyProof.Rows L2
set_option maxHeartbeats 4000000 in
theorem all_mk {l : PySem.W.OpenLaw} {w : World} {K : PySem.W.Frag} {h : Heap} {mg : Str → Option Value} {fa f_nm f_ad f_sc f_mo f_co f_iv f_po f_ap f_pe f_dr f_pi f_pr f_ig f_no f_py f_ef f_md f_lw f_id f_e : Addr} (X : K.In h) (G : h.Ns mainGlobals mg) (hfa : mg "law" = some (.ref fa))
    {od_nm an_nm od_ad an_ad od_sc an_sc od_mo an_mo od_co an_co od_iv an_iv od_po an_po od_ap an_ap od_pe an_pe od_dr an_dr od_pi an_pi od_pr an_pr od_ig an_ig od_no an_no od_py an_py od_ef an_ef od_md an_md od_lw an_lw od_id od_e : Option Addr} {sl_nm sl_ad sl_sc sl_mo sl_co sl_iv sl_po sl_ap sl_pe sl_dr sl_pi sl_pr sl_ig sl_no sl_py sl_ef sl_md sl_lw sl_id sl_e : Array (Option Value)} {oc_nm kV_nm dc_nm pm_nm cd_nm ct_nm oc_ad kV_ad dc_ad pm_ad cd_ad ct_ad oc_sc kV_sc dc_sc pm_sc cd_sc ct_sc oc_mo kV_mo dc_mo pm_mo cd_mo ct_mo oc_co kV_co dc_co pm_co cd_co ct_co oc_iv kV_iv dc_iv pm_iv cd_iv ct_iv oc_po kV_po dc_po pm_po cd_po ct_po oc_ap kV_ap dc_ap pm_ap cd_ap ct_ap oc_pe kV_pe dc_pe pm_pe cd_pe ct_pe oc_dr kV_dr dc_dr pm_dr cd_dr ct_dr oc_pi kV_pi dc_pi pm_pi cd_pi ct_pi oc_pr kV_pr dc_pr pm_pr cd_pr ct_pr oc_ig kV_ig dc_ig pm_ig cd_ig ct_ig oc_no kV_no dc_no pm_no cd_no ct_no oc_py kV_py dc_py pm_py cd_py ct_py oc_ef kV_ef dc_ef pm_ef cd_ef ct_ef oc_md kV_md dc_md pm_md cd_md ct_md oc_lw kV_lw dc_lw pm_lw cd_lw ct_lw : Value} {t_id : Tok} {n_id n_e : Nat}
    (a_nm : PySem.W.nsIn K mainGlobals "normalize" = some (some (.ref f_nm))) (l_nm : K.lookup f_nm = some ⟨oc_nm, od_nm, .func (PySem.W.fnOf "normalize" "normalize" (defArgs sNorm) (defBody sNorm) (defScope sNorm) .none kV_nm dc_nm pm_nm an_nm cd_nm ct_nm), sl_nm⟩) (c_nm : PySem.W.codeIn K cd_nm "normalize" = true) (k_nm : PySem.W.keepIn K (.ref f_nm) = true)
    (a_ad : PySem.W.nsIn K mainGlobals "add" = some (some (.ref f_ad))) (l_ad : K.lookup f_ad = some ⟨oc_ad, od_ad, .func (PySem.W.fnOf "add" "add" (defArgs sAdd) (defBody sAdd) (defScope sAdd) .none kV_ad dc_ad pm_ad an_ad cd_ad ct_ad), sl_ad⟩) (c_ad : PySem.W.codeIn K cd_ad "add" = true) (k_ad : PySem.W.keepIn K (.ref f_ad) = true)
    (a_sc : PySem.W.nsIn K mainGlobals "scale" = some (some (.ref f_sc))) (l_sc : K.lookup f_sc = some ⟨oc_sc, od_sc, .func (PySem.W.fnOf "scale" "scale" (defArgs sScale) (defBody sScale) (defScope sScale) .none kV_sc dc_sc pm_sc an_sc cd_sc ct_sc), sl_sc⟩) (c_sc : PySem.W.codeIn K cd_sc "scale" = true) (k_sc : PySem.W.keepIn K (.ref f_sc) = true)
    (a_mo : PySem.W.nsIn K mainGlobals "move" = some (some (.ref f_mo))) (l_mo : K.lookup f_mo = some ⟨oc_mo, od_mo, .func (PySem.W.fnOf "move" "move" (defArgs sMove) (defBody sMove) (defScope sMove) .none kV_mo dc_mo pm_mo an_mo cd_mo ct_mo), sl_mo⟩) (c_mo : PySem.W.codeIn K cd_mo "move" = true) (k_mo : PySem.W.keepIn K (.ref f_mo) = true)
    (a_co : PySem.W.nsIn K mainGlobals "compose" = some (some (.ref f_co))) (l_co : K.lookup f_co = some ⟨oc_co, od_co, .func (PySem.W.fnOf "compose" "compose" (defArgs sCompose) (defBody sCompose) (defScope sCompose) .none kV_co dc_co pm_co an_co cd_co ct_co), sl_co⟩) (c_co : PySem.W.codeIn K cd_co "compose" = true) (k_co : PySem.W.keepIn K (.ref f_co) = true)
    (a_iv : PySem.W.nsIn K mainGlobals "inverse" = some (some (.ref f_iv))) (l_iv : K.lookup f_iv = some ⟨oc_iv, od_iv, .func (PySem.W.fnOf "inverse" "inverse" (defArgs sInverse) (defBody sInverse) (defScope sInverse) .none kV_iv dc_iv pm_iv an_iv cd_iv ct_iv), sl_iv⟩) (c_iv : PySem.W.codeIn K cd_iv "inverse" = true) (k_iv : PySem.W.keepIn K (.ref f_iv) = true)
    (a_po : PySem.W.nsIn K mainGlobals "power" = some (some (.ref f_po))) (l_po : K.lookup f_po = some ⟨oc_po, od_po, .func (PySem.W.fnOf "power" "power" (defArgs sPower) (defBody sPower) (defScope sPower) .none kV_po dc_po pm_po an_po cd_po ct_po), sl_po⟩) (c_po : PySem.W.codeIn K cd_po "power" = true) (k_po : PySem.W.keepIn K (.ref f_po) = true)
    (a_ap : PySem.W.nsIn K mainGlobals "apply" = some (some (.ref f_ap))) (l_ap : K.lookup f_ap = some ⟨oc_ap, od_ap, .func (PySem.W.fnOf "apply" "apply" (defArgs sApply) (defBody sApply) (defScope sApply) .none kV_ap dc_ap pm_ap an_ap cd_ap ct_ap), sl_ap⟩) (c_ap : PySem.W.codeIn K cd_ap "apply" = true) (k_ap : PySem.W.keepIn K (.ref f_ap) = true)
    (a_pe : PySem.W.nsIn K mainGlobals "_law_pen" = some (some (.ref f_pe))) (l_pe : K.lookup f_pe = some ⟨oc_pe, od_pe, .func (PySem.W.fnOf "_law_pen" "_law_pen" (defArgs sPen) (defBody sPen) (defScope sPen) .none kV_pe dc_pe pm_pe an_pe cd_pe ct_pe), sl_pe⟩) (c_pe : PySem.W.codeIn K cd_pe "_law_pen" = true) (k_pe : PySem.W.keepIn K (.ref f_pe) = true)
    (a_dr : PySem.W.nsIn K mainGlobals "_law_draw" = some (some (.ref f_dr))) (l_dr : K.lookup f_dr = some ⟨oc_dr, od_dr, .func (PySem.W.fnOf "_law_draw" "_law_draw" (defArgs sDraw) (defBody sDraw) (defScope sDraw) .none kV_dr dc_dr pm_dr an_dr cd_dr ct_dr), sl_dr⟩) (c_dr : PySem.W.codeIn K cd_dr "_law_draw" = true) (k_dr : PySem.W.keepIn K (.ref f_dr) = true)
    (a_pi : PySem.W.nsIn K mainGlobals "_law_pick" = some (some (.ref f_pi))) (l_pi : K.lookup f_pi = some ⟨oc_pi, od_pi, .func (PySem.W.fnOf "_law_pick" "_law_pick" (defArgs sPick) (defBody sPick) (defScope sPick) .none kV_pi dc_pi pm_pi an_pi cd_pi ct_pi), sl_pi⟩) (c_pi : PySem.W.codeIn K cd_pi "_law_pick" = true) (k_pi : PySem.W.keepIn K (.ref f_pi) = true)
    (a_pr : PySem.W.nsIn K mainGlobals "_law_prime" = some (some (.ref f_pr))) (l_pr : K.lookup f_pr = some ⟨oc_pr, od_pr, .func (PySem.W.fnOf "_law_prime" "_law_prime" (defArgs sPrime) (defBody sPrime) (defScope sPrime) .none kV_pr dc_pr pm_pr an_pr cd_pr ct_pr), sl_pr⟩) (c_pr : PySem.W.codeIn K cd_pr "_law_prime" = true) (k_pr : PySem.W.keepIn K (.ref f_pr) = true)
    (a_ig : PySem.W.nsIn K mainGlobals "_law_integer" = some (some (.ref f_ig))) (l_ig : K.lookup f_ig = some ⟨oc_ig, od_ig, .func (PySem.W.fnOf "_law_integer" "_law_integer" (defArgs sInteger) (defBody sInteger) (defScope sInteger) .none kV_ig dc_ig pm_ig an_ig cd_ig ct_ig), sl_ig⟩) (c_ig : PySem.W.codeIn K cd_ig "_law_integer" = true) (k_ig : PySem.W.keepIn K (.ref f_ig) = true)
    (a_no : PySem.W.nsIn K mainGlobals "_law_normal" = some (some (.ref f_no))) (l_no : K.lookup f_no = some ⟨oc_no, od_no, .func (PySem.W.fnOf "_law_normal" "_law_normal" (defArgs sNormal) (defBody sNormal) (defScope sNormal) .none kV_no dc_no pm_no an_no cd_no ct_no), sl_no⟩) (c_no : PySem.W.codeIn K cd_no "_law_normal" = true) (k_no : PySem.W.keepIn K (.ref f_no) = true)
    (a_py : PySem.W.nsIn K mainGlobals "_law_polynomial" = some (some (.ref f_py))) (l_py : K.lookup f_py = some ⟨oc_py, od_py, .func (PySem.W.fnOf "_law_polynomial" "_law_polynomial" (defArgs sPoly) (defBody sPoly) (defScope sPoly) .none kV_py dc_py pm_py an_py cd_py ct_py), sl_py⟩) (c_py : PySem.W.codeIn K cd_py "_law_polynomial" = true) (k_py : PySem.W.keepIn K (.ref f_py) = true)
    (a_ef : PySem.W.nsIn K mainGlobals "_law_effect" = some (some (.ref f_ef))) (l_ef : K.lookup f_ef = some ⟨oc_ef, od_ef, .func (PySem.W.fnOf "_law_effect" "_law_effect" (defArgs sEffect) (defBody sEffect) (defScope sEffect) .none kV_ef dc_ef pm_ef an_ef cd_ef ct_ef), sl_ef⟩) (c_ef : PySem.W.codeIn K cd_ef "_law_effect" = true) (k_ef : PySem.W.keepIn K (.ref f_ef) = true)
    (a_md : PySem.W.nsIn K mainGlobals "_law_moved_dials" = some (some (.ref f_md))) (l_md : K.lookup f_md = some ⟨oc_md, od_md, .func (PySem.W.fnOf "_law_moved_dials" "_law_moved_dials" (defArgs sMoved) (defBody sMoved) (defScope sMoved) .none kV_md dc_md pm_md an_md cd_md ct_md), sl_md⟩) (c_md : PySem.W.codeIn K cd_md "_law_moved_dials" = true) (k_md : PySem.W.keepIn K (.ref f_md) = true)
    (a_lw : PySem.W.nsIn K mainGlobals "law" = some (some (.ref f_lw))) (l_lw : K.lookup f_lw = some ⟨oc_lw, od_lw, .func (PySem.W.fnOf "law" "law" (defArgs sLaw) (defBody sLaw) (defScope sLaw) .none kV_lw dc_lw pm_lw an_lw cd_lw ct_lw), sl_lw⟩) (c_lw : PySem.W.codeIn K cd_lw "law" = true) (k_lw : PySem.W.keepIn K (.ref f_lw) = true)
    (a_id : PySem.W.nsIn K mainGlobals "IDENTITY" = some (some (.ref f_id))) (l_id : K.lookup f_id = some ⟨.type "tuple", od_id, .seq #[.ref f_e, .int 0 t_id] n_id, sl_id⟩) (l_e : K.lookup f_e = some ⟨.type "tuple", od_e, .seq #[] n_e, sl_e⟩)
    (z_len : PySem.W.nsIn K mainGlobals "len" = some none)
    (z_abs : PySem.W.nsIn K mainGlobals "abs" = some none)
    (z_sorted : PySem.W.nsIn K mainGlobals "sorted" = some none)
    (z_tuple : PySem.W.nsIn K mainGlobals "tuple" = some none)
    (z_list : PySem.W.nsIn K mainGlobals "list" = some none)
    (z_dict : PySem.W.nsIn K mainGlobals "dict" = some none)
    (z_range : PySem.W.nsIn K mainGlobals "range" = some none)
    (z_min : PySem.W.nsIn K mainGlobals "min" = some none) :
    ∃ fd : FuncData, (∀ (s : Shared) (v : Value), BindsTo s fd ⟨[v], []⟩ [("_law_script", v)]) ∧ ∀ base : Heap, K.In base → base.Ns mainGlobals mg → FnOk l.prog w K mg base CX0 5 fa fd ["_law_script"] (spLaw K) := by
  have e := hfa.symm.trans (PySem.W.mg_of X G a_lw)
  cases e
  have F_nm := fun_mk (st := sNorm) l_nm c_nm k_nm
  have g_nm := PySem.W.mg_of X G a_nm
  have b_nm := F_nm.binds (ps := ["prime", "pairs"]) fun _ _ _ _ _ _ us hl => match us, hl with | [_, _], _ => rfl
  have F_ad := fun_mk (st := sAdd) l_ad c_ad k_ad
  have g_ad := PySem.W.mg_of X G a_ad
  have b_ad := F_ad.binds (ps := ["prime", "one", "other"]) fun _ _ _ _ _ _ us hl => match us, hl with | [_, _, _], _ => rfl
  have F_sc := fun_mk (st := sScale) l_sc c_sc k_sc
  have g_sc := PySem.W.mg_of X G a_sc
  have b_sc := F_sc.binds (ps := ["prime", "polynomial", "factor"]) fun _ _ _ _ _ _ us hl => match us, hl with | [_, _, _], _ => rfl
  have F_mo := fun_mk (st := sMove) l_mo c_mo k_mo
  have g_mo := PySem.W.mg_of X G a_mo
  have b_mo := F_mo.binds (ps := ["polynomial", "places"]) fun _ _ _ _ _ _ us hl => match us, hl with | [_, _], _ => rfl
  have F_co := fun_mk (st := sCompose) l_co c_co k_co
  have g_co := PySem.W.mg_of X G a_co
  have b_co := F_co.binds (ps := ["prime", "one", "other"]) fun _ _ _ _ _ _ us hl => match us, hl with | [_, _, _], _ => rfl
  have F_iv := fun_mk (st := sInverse) l_iv c_iv k_iv
  have g_iv := PySem.W.mg_of X G a_iv
  have b_iv := F_iv.binds (ps := ["prime", "effect"]) fun _ _ _ _ _ _ us hl => match us, hl with | [_, _], _ => rfl
  have F_po := fun_mk (st := sPower) l_po c_po k_po
  have g_po := PySem.W.mg_of X G a_po
  have b_po := F_po.binds (ps := ["prime", "effect", "count"]) fun _ _ _ _ _ _ us hl => match us, hl with | [_, _, _], _ => rfl
  have F_ap := fun_mk (st := sApply) l_ap c_ap k_ap
  have g_ap := PySem.W.mg_of X G a_ap
  have b_ap := F_ap.binds (ps := ["prime", "effect", "dials", "place"]) fun _ _ _ _ _ _ us hl => match us, hl with | [_, _, _, _], _ => rfl
  have F_pe := fun_mk (st := sPen) l_pe c_pe k_pe
  have g_pe := PySem.W.mg_of X G a_pe
  have b_pe := F_pe.binds (ps := ["_law_script"]) fun _ _ _ _ _ _ us hl => match us, hl with | [_], _ => rfl
  have F_dr := fun_mk (st := sDraw) l_dr c_dr k_dr
  have g_dr := PySem.W.mg_of X G a_dr
  have b_dr := F_dr.binds (ps := ["_law_pen_here", "_law_many"]) fun _ _ _ _ _ _ us hl => match us, hl with | [_, _], _ => rfl
  have F_pi := fun_mk (st := sPick) l_pi c_pi k_pi
  have g_pi := PySem.W.mg_of X G a_pi
  have b_pi := F_pi.binds (ps := ["_law_pen_here", "_law_options"]) fun _ _ _ _ _ _ us hl => match us, hl with | [_, _], _ => rfl
  have F_pr := fun_mk (st := sPrime) l_pr c_pr k_pr
  have g_pr := PySem.W.mg_of X G a_pr
  have b_pr := F_pr.binds (ps := ["_law_pen_here"]) fun _ _ _ _ _ _ us hl => match us, hl with | [_], _ => rfl
  have F_ig := fun_mk (st := sInteger) l_ig c_ig k_ig
  have g_ig := PySem.W.mg_of X G a_ig
  have b_ig := F_ig.binds (ps := ["_law_pen_here", "_law_most"]) fun _ _ _ _ _ _ us hl => match us, hl with | [_, _], _ => rfl
  have F_no := fun_mk (st := sNormal) l_no c_no k_no
  have g_no := PySem.W.mg_of X G a_no
  have b_no := F_no.binds (ps := ["_law_prime_here", "_law_pairs"]) fun _ _ _ _ _ _ us hl => match us, hl with | [_, _], _ => rfl
  have F_py := fun_mk (st := sPoly) l_py c_py k_py
  have g_py := PySem.W.mg_of X G a_py
  have b_py := F_py.binds (ps := ["_law_pen_here", "_law_prime_here", "_law_terms", "_law_reach"]) fun _ _ _ _ _ _ us hl => match us, hl with | [_, _, _, _], _ => rfl
  have F_ef := fun_mk (st := sEffect) l_ef c_ef k_ef
  have g_ef := PySem.W.mg_of X G a_ef
  have b_ef := F_ef.binds (ps := ["_law_pen_here", "_law_prime_here", "_law_terms", "_law_reach"]) fun _ _ _ _ _ _ us hl => match us, hl with | [_, _, _, _], _ => rfl
  have F_md := fun_mk (st := sMoved) l_md c_md k_md
  have g_md := PySem.W.mg_of X G a_md
  have b_md := F_md.binds (ps := ["_law_dials", "_law_places"]) fun _ _ _ _ _ _ us hl => match us, hl with | [_, _], _ => rfl
  have F_lw := fun_mk (st := sLaw) l_lw c_lw k_lw
  have g_lw := PySem.W.mg_of X G a_lw
  have m_len := PySem.W.mg_none_of X G z_len
  have m_abs := PySem.W.mg_none_of X G z_abs
  have m_sorted := PySem.W.mg_none_of X G z_sorted
  have m_tuple := PySem.W.mg_none_of X G z_tuple
  have m_list := PySem.W.mg_none_of X G z_list
  have m_dict := PySem.W.mg_none_of X G z_dict
  have m_range := PySem.W.mg_none_of X G z_range
  have m_min := PySem.W.mg_none_of X G z_min
  have hI : ∀ H : Hp, EffAt K H f_id [] 0 := fun H => ⟨f_e, .inr ⟨_, _, _, l_id, rfl, rfl, by show 2 ≤ sizeLine; decide, .cons rfl (.cons ⟨_, rfl⟩ .nil)⟩, ⟨[], .inr ⟨_, _, _, l_e, rfl, rfl, Nat.zero_le _, .nil⟩, .nil⟩⟩
  have g_id := PySem.W.mg_of X G a_id
  refine ⟨PySem.W.fnOf "law" "law" (defArgs sLaw) (defBody sLaw) (defScope sLaw) .none kV_lw dc_lw pm_lw an_lw cd_lw ct_lw, fun s v => .of_eq rfl, fun base _ _ => ?_⟩
  have G_nm : FnOk l.prog w K mg base CX0 1 f_nm _ ["prime", "pairs"] (spNorm K) := ok_norm F_nm m_tuple m_sorted
  have G_ad := ok_add F_ad F_nm b_nm g_nm G_nm
  have G_sc := ok_scale F_sc F_nm b_nm g_nm G_nm
  have G_mo : FnOk l.prog w K mg base CX0 1 f_mo _ ["polynomial", "places"] (spMove K) := ok_move F_mo m_tuple
  have G_co := ok_compose F_co F_ad b_ad g_ad F_mo b_mo g_mo G_ad G_mo
  have G_iv := ok_inverse F_iv F_sc b_sc g_sc F_mo b_mo g_mo G_sc G_mo
  have G_po := ok_power F_po F_co b_co g_co F_iv b_iv g_iv g_id hI m_abs G_co G_iv
  have G_ap := ok_apply F_ap F_nm b_nm g_nm F_mo b_mo g_mo m_list m_dict G_nm G_mo
  have G_pe : FnOk l.prog w K mg base CX0 1 f_pe _ ["_law_script"] (spPen K) := ok_pen F_pe m_list
  have G_dr : FnOk l.prog w K mg base CX0 1 f_dr _ ["_law_pen_here", "_law_many"] (spDraw K) := ok_draw F_dr m_len m_abs
  have G_pi := ok_pick F_pi F_dr b_dr g_dr m_len G_dr
  have G_pr := ok_prime F_pr F_pi b_pi g_pi G_pi
  have G_ig := ok_integer F_ig F_dr b_dr g_dr G_dr
  have G_no : FnOk l.prog w K mg base CX0 1 f_no _ ["_law_prime_here", "_law_pairs"] (spNormal K) := ok_normal F_no m_tuple m_sorted
  have G_py := ok_poly F_py F_dr b_dr g_dr F_ig b_ig g_ig F_no b_no g_no m_range G_dr G_ig G_no
  have G_ef := ok_effect F_ef F_dr b_dr g_dr F_ig b_ig g_ig F_py b_py g_py m_min G_dr G_ig G_py
  have G_md : FnOk l.prog w K mg base CX0 1 f_md _ ["_law_dials", "_law_places"] (spMoved K) := ok_moved F_md m_dict
  exact ok_law F_lw F_pe b_pe g_pe G_pe F_pr b_pr g_pr G_pr F_pi b_pi g_pi G_pi F_ef b_ef g_ef G_ef F_py b_py g_py G_py F_ig b_ig g_ig G_ig F_dr b_dr g_dr G_dr F_ap b_ap g_ap G_ap F_co b_co g_co G_co F_iv b_iv g_iv G_iv F_po b_po g_po G_po F_md b_md g_md G_md m_range m_dict m_tuple
end Dr
open PySem PySem.W PyProof.Rows
set_option maxRecDepth 100000 in
set_option maxHeartbeats 0 in
theorem PySem.Challenge.cw_dialroad_k15_whole_effects_act_holds : PySem.Challenge.rw_dialroad_k15_whole_effects_act.Holds := by
  w_on; o_law; k_head; (case hw => w_witness2)
  k_fill
  refine L2.walk_of (l := PySem.Challenge.rw_dialroad_k15_whole_effects_act) (n := 63) (k := 5) (x := "_law_script") (CX := fun _ => L2.CX0) (sp := fun w => Dr.spLaw _) rfl (by decide) rfl ⟨rfl, by decide, by decide⟩ (fun w h Y => PySem.W.kIn_of Y) ?F (fun _ _ a ns hl _ hS => ⟨a, ns, rfl, hS, hl, fun _ => rfl⟩) (fun _ _ _ _ _ h => h)
  case F =>
    intro w mg fa h KX G hmg
    refine' Dr.all_mk KX G hmg ?a_nm ?l_nm ?c_nm ?k_nm ?a_ad ?l_ad ?c_ad ?k_ad ?a_sc ?l_sc ?c_sc ?k_sc ?a_mo ?l_mo ?c_mo ?k_mo ?a_co ?l_co ?c_co ?k_co ?a_iv ?l_iv ?c_iv ?k_iv ?a_po ?l_po ?c_po ?k_po ?a_ap ?l_ap ?c_ap ?k_ap ?a_pe ?l_pe ?c_pe ?k_pe ?a_dr ?l_dr ?c_dr ?k_dr ?a_pi ?l_pi ?c_pi ?k_pi ?a_pr ?l_pr ?c_pr ?k_pr ?a_ig ?l_ig ?c_ig ?k_ig ?a_no ?l_no ?c_no ?k_no ?a_py ?l_py ?c_py ?k_py ?a_ef ?l_ef ?c_ef ?k_ef ?a_md ?l_md ?c_md ?k_md ?a_lw ?l_lw ?c_lw ?k_lw ?a_id ?l_id ?l_e ?z_len ?z_abs ?z_sorted ?z_tuple ?z_list ?z_dict ?z_range ?z_min
    (case a_nm => k_is); (case l_nm => k_is); (case c_nm => k_is); (case k_nm => k_is); (case a_ad => k_is); (case l_ad => k_is)
    (case c_ad => k_is); (case k_ad => k_is); (case a_sc => k_is); (case l_sc => k_is); (case c_sc => k_is); (case k_sc => k_is)
    (case a_mo => k_is); (case l_mo => k_is); (case c_mo => k_is); (case k_mo => k_is); (case a_co => k_is); (case l_co => k_is)
    (case c_co => k_is); (case k_co => k_is); (case a_iv => k_is); (case l_iv => k_is); (case c_iv => k_is); (case k_iv => k_is)
    (case a_po => k_is); (case l_po => k_is); (case c_po => k_is); (case k_po => k_is); (case a_ap => k_is); (case l_ap => k_is)
    (case c_ap => k_is); (case k_ap => k_is); (case a_pe => k_is); (case l_pe => k_is); (case c_pe => k_is); (case k_pe => k_is)
    (case a_dr => k_is); (case l_dr => k_is); (case c_dr => k_is); (case k_dr => k_is); (case a_pi => k_is); (case l_pi => k_is)
    (case c_pi => k_is); (case k_pi => k_is); (case a_pr => k_is); (case l_pr => k_is); (case c_pr => k_is); (case k_pr => k_is)
    (case a_ig => k_is); (case l_ig => k_is); (case c_ig => k_is); (case k_ig => k_is); (case a_no => k_is); (case l_no => k_is)
    (case c_no => k_is); (case k_no => k_is); (case a_py => k_is); (case l_py => k_is); (case c_py => k_is); (case k_py => k_is)
    (case a_ef => k_is); (case l_ef => k_is); (case c_ef => k_is); (case k_ef => k_is); (case a_md => k_is); (case l_md => k_is)
    (case c_md => k_is); (case k_md => k_is); (case a_lw => k_is); (case l_lw => k_is); (case c_lw => k_is); (case k_lw => k_is)
    (case a_id => k_is); (case l_id => k_is); (case l_e => k_is); (case z_len => k_is); (case z_abs => k_is); (case z_sorted => k_is)
    (case z_tuple => k_is); (case z_list => k_is); (case z_dict => k_is); (case z_range => k_is); (case z_min => k_is)

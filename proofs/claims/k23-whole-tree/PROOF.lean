import PyProof.Rows.All
import Wide.All
import OpenK.AllK
import Wide.FinOn
import HandS.ForMost
import HandS.Conv
import HandS.DictTup
import HandS.TupLen
import HandS.TupAny
import HandS.DictComp
import HandS.Property
import HandS.IsInst
import HandS.IterNext
import HandS.OwnIter
import KE.SortData
import KE.KTupSum
import KE.KDictKeyed
import PySem.Challenge.RW_servedalone_k23_whole_tree
import HandS.Codes
import HandS.Walk
import HandS.SetFor
set_option Elab.async false
set_option maxRecDepth 100000
set_option maxHeartbeats 4000000
namespace K23
open PySem L2 PySem.Spec PyProof.Rows PySem.W

/-! ### xs[i], read ahead of xs[i] op= e -/
def gL (K : PySem.W.Frag) : V → V → Hp → VK → Prop := fun o i H Q => ∃ p xs k v, o = .ref p ∧ i = .int k ∧ SqL K H p xs ∧ atI xs k = some v ∧ Q v H
theorem get_list {X : Cx} : PGet X (gL X.K) := by
  intro pins s σ H o i ov iv Q I ro ri h
  obtain ⟨p, xs, k, v, eo, ei, hq, hk, q⟩ := h
  subst eo; subst ei
  cases ro
  obtain ⟨tk, rfl⟩ := ri
  obtain ⟨us, rel, pl, _⟩ := I.list hq
  obtain ⟨j, n1, n2, n3, n4, n5⟩ := atI_get hk
  obtain ⟨u, eu, ru⟩ := rel.get n2
  have len := rel.length
  have line := line63
  have done : EP X pins σ Q u s := ⟨v, H, I, ru, q⟩
  by_cases z : 0 ≤ k
  · have e : k.toNat = j := by
      rw [seqIndex_of z n5] at n1
      exact Option.some.inj n1
    exact wpAny_getItem_list pl.isList z (by omega) (by rw [e]; simpa using eu) done
  · have e : (k + (us.toArray.size : Int)).toNat = j := by
      rw [seqIndex_neg (by omega) n4] at n1
      rw [List.size_toArray, ← len]
      exact Option.some.inj n1
    exact wpAny_getItem_list_neg pl.isList (by omega) (by rw [List.size_toArray] <;> omega) (by omega) (by rw [e]; simpa using eu) done

/-! ### sum of a tuple of ints -/
def rSumT (K : PySem.W.Frag) : List V → Hp → VK → Prop := fun vs H Q => ∃ (a : Addr) (ns : List Int), vs = [V.ref a] ∧ SqT K H a (ns.map V.int) ∧ Q (.int ns.sum) H
theorem cr_sumT {X : Cx} (hc : X.calm = true) : CallR X (.builtin "sum") (rSumT X.K) := by
  intro pins s σ H vs us Q I r h
  obtain ⟨a, ns, ev, hs, q⟩ := h
  subst ev
  obtain ⟨its, rv, ht, _⟩ := I.tuple hs
  rw [Vals.ref1 r]
  have hi := rv.ints
  obtain ⟨xs, ex⟩ := hi.allInts.items
  have hn : numsOf (intItems xs).toList = ns := by
    rw [← ex]
    exact hi.numsOf
  rw [nums_intItems] at hn
  obtain ⟨o, e1, e2, n, e3⟩ := ht
  rw [ex] at e3
  refine ktm_sumG (I.ok.hd hc) ⟨o, e1, e2, n, e3⟩ fun h' tk t' keep => ?_
  rw [preSum_eq, List.take_of_length_le (by simp), hn]
  exact ⟨.int _, H, I.kept keep, ⟨t', rfl⟩, q⟩

/-! ### del d[k], d.pop(k), the keys tuples -/
theorem kt_without {H : Hp} {kvs : List (List L2.Key × V)} {xs : List (List L2.Key × Addr × Value)} (r : KT H kvs xs) (k : List L2.Key) : KT H (dropK kvs k) (withoutH xs k) := by
  have e : withoutH xs k = DT.dropH xs k := rfl
  rw [e]
  exact L2.DX.KT_drop k r
section
variable {X : Cx} {pins : List (Addr × Obj)} {σ : L2.St} {H : Hp} {s : Shared} {a b : Addr} {kvs : List (List L2.Key × V)} {k : List L2.Key} {A : Around} {E : Value → Shared → Prop}
theorem at_there {v : V} {xs : List (List L2.Key × Addr × Value)} (r : KT H kvs xs) (l : valV kvs k = some v) : ∃ p, atKey xs k = some p ∧ RelV v p.2 := by
  have z := r.val k
  rw [l] at z
  cases e : atKey xs k with
  | none =>
    rw [e] at z
    exact (show False from z).elim
  | some p =>
    rw [e] at z
    exact ⟨p, rfl, z⟩
theorem back {h' : Heap} {tk : Nat} {xs : List (List L2.Key × Addr × Value)} (I : Inv X pins σ H s) (ha : H a = some (.dT kvs)) (z : kvs.length ≤ sizeLine) (hd : (a == sysModules) = false) (rel : KT H kvs xs)
    (dd : h'.DictOfH (tupleKind (mixKind X.prog X.w)) a (withoutH xs k)) (hs : Heap.SameBut a s.heap h') : Inv X pins σ (upd H a (.dT (dropK kvs k))) { s with heap := h', toks := tk } := by
  obtain ⟨o, es, ep, e1, e2, e3, e4, _, e5⟩ := dd
  refine d_write I (by rw [ha]; trivial) hs ⟨o, e1⟩ ⟨Nat.le_trans (dropK_le kvs k) z, hd, _, (kt_without rel k).keeps fun c ys ec => ?_, o, es, ep, e1, e2, e3, e4, e5⟩
  rw [upd_ne (ne_of ec ha fun q => nomatch q)]
  exact ec
theorem delT {Q : Unit → Shared → Prop} (hu : A.units + 1 < cLine) (I : Inv X pins σ H s) (ha : H a = some (.dT kvs)) (hb : H b = some (.tup (k.map kV))) (l : (valV kvs k).isSome = true)
    (h : ∀ s', Inv X pins σ (upd H a (.dT (dropK kvs k))) s' → Q () s') : wpAny (model X.prog X.w) A (delItem (.ref a) (.ref b)) Q E s := by
  obtain ⟨z, hd, xs, rel, dd⟩ := dt_of I.hok ha
  obtain ⟨v, ev⟩ := Option.isSome_iff_exists.mp l
  obtain ⟨p, ep, _⟩ := at_there rel ev
  exact wpAny_delItem_heap (hsz := by rw [← Paired.length rel]; exact z) (tupleKind_room_in1 hu) (key_of I.hok hb) hd dd ep fun h' dd' hs => h _ (back I ha z hd rel dd' hs)
theorem popT {v : V} {Q : Value → Shared → Prop} (hu : A.units + 1 < cLine) (I : Inv X pins σ H s) (ha : H a = some (.dT kvs)) (hb : H b = some (.tup (k.map kV))) (l : valV kvs k = some v)
    (h : ∀ u s', Inv X pins σ (upd H a (.dT (dropK kvs k))) s' → RelV v u → Q u s') : wpAny (model X.prog X.w) A (call (.builtin "dict.pop") [.ref a, .ref b]) Q E s := by
  obtain ⟨z, hd, xs, rel, dd⟩ := dt_of I.hok ha
  obtain ⟨p, ep, rp⟩ := at_there rel l
  exact call_pop_heap (more := []) (hsz := by rw [← Paired.length rel]; exact z) (.inl rfl) (PySem.F.args_dict_pop_2 _ _) (tupleKind_room_in1 hu) (key_of I.hok hb) hd dd ep fun h' dd' hs => h _ _ (back I ha z hd rel dd' hs) rp
end
/-- del d[k] -/
def sDelT (td ty : TE) : TS := fun D σ H => td σ H fun x H1 => ty σ H1 fun y H2 => ∃ a b kvs k, x = .ref a ∧ y = .ref b ∧ H2 a = some (.dT kvs) ∧ H2 b = some (.tup (k.map kV)) ∧ (valV kvs k).isSome = true ∧ D.nx σ (upd H2 a (.dT (dropK kvs k)))
theorem ps_delT {X : Cx} {o i : Expr} {td ty : TE} {tpos pos : Pos} (hu : X.A.units + 1 < cLine) (ho : PE X o td) (hi : PE X i ty) : PS X (.Delete [.Subscript o i tpos] pos) (sDelT td ty) := by
  refine ⟨fun pins s σ H D I h => wpAny_Delete (wpAny_deleteEach_cons (wpAny_delete_Subscript (thn (ho.run pins s σ H _ I h) fun u s1 h1 => ?_)))⟩
  obtain ⟨x, H1, I1, rx, q1⟩ := h1
  refine thn (hi.run pins s1 σ H1 _ I1 q1) fun iv s2 h2 => ?_
  obtain ⟨y, H2, I2, ry, a, b, kvs, k, ex, ey, ha, hb, l, q⟩ := h2
  subst ex; subst ey
  cases rx; cases ry
  exact delT hu I2 ha hb l fun s3 I3 => wpAny_deleteEach_nil ⟨σ, _, I3, q⟩
/-- d.pop(k) -/
def rPop1 : V → List V → Hp → VK → Prop := fun x xs H Q => ∃ (a b : Addr) (kvs : List (List L2.Key × V)) (k : List L2.Key) (v : V), x = .ref a ∧ xs = [.ref b] ∧ H a = some (.dT kvs) ∧ H b = some (.tup (k.map kV)) ∧ valV kvs k = some v ∧ Q v (upd H a (.dT (dropK kvs k)))
theorem mt_pop1 {X : Cx} (hu : X.A.units + 1 < cLine) : MtR X "dict.pop" rPop1 := by
  intro pins s σ H x xs v us Q I rx rxs h
  obtain ⟨a, b, kvs, k, w, ex, exs, ha, hb, l, q⟩ := h
  subst ex; subst exs
  cases rx
  obtain ⟨u, eu, ru⟩ := rxs.one
  subst eu
  cases ru
  exact popT hu I ha hb l fun u s' I' r => ⟨w, _, I', r, q⟩

/-! ### sorted, of tuples of ints of any lengths -/
theorem dataLe_tups {β : Type} (f : β → List Int) : dataLe false (fun b => .tuple ((f b).map .int)) = fun p q => decide (f p ≤ f q) := by
  funext p q
  show (!dataLt (.tuple ((f q).map .int)) (.tuple ((f p).map .int))) = _
  rw [dataLt_tuple]
  have e : PyProof.Rows.lexLt itemOrd (keyToksAll ((f q).map .int)) (keyToksAll ((f p).map .int)) = decide (f q < f p) := dataLt_ints (f q) (f p)
  rw [e]
  by_cases h : f q < f p
  · have n : ¬ f p ≤ f q := fun r => List.not_lt.mpr r h
    simp [h, n]
  · have n : f p ≤ f q := List.not_lt.mp h
    simp [h, n]
theorem reads_ints {h : Heap} : ∀ {ns : List Int} {us : List Value}, Vals (ns.map V.int) us → ReadsAll h us (ns.map PyData.int) []
  | [], _, r => by
    cases r
    exact .nil
  | n :: ns, _, r => by
    rw [List.map_cons] at r
    cases r with
    | cons r1 r2 =>
      obtain ⟨t, rfl⟩ := r1
      exact .cons (as := []) (bs := []) (.int n t) (reads_ints r2)
theorem reads_tup {P : Program} {w : World} {H : Hp} {h : Heap} {a : Addr} {ns : List Int} (ok : HOk P w H h) (e : H a = some (.tup (ns.map V.int))) : Reads h (.ref a) (.tuple (ns.map PyData.int)) [] := by
  obtain ⟨_, its, r, o, e1, e2, n, e3⟩ := (show ObjOk P w H h a (.tup (ns.map V.int)) from ok a _ e)
  exact .tuple e1 e2 e3 (by simpa using reads_ints r)
/-- a key with its path -/
abbrev AP' := Addr × List Int
theorem each_refs : ∀ (bs : List AP'), EachIs (fun (v : Value) (b : AP') => v = Value.ref b.1) (bs.map fun b => Value.ref b.1) bs
  | [] => .nil
  | _ :: r => .cons rfl (each_refs r)
theorem refs_each : ∀ {out : List Value} {bs : List AP'}, EachIs (fun (v : Value) (b : AP') => v = Value.ref b.1) out bs → out = bs.map fun b => Value.ref b.1
  | _, _, .nil => rfl
  | _, _, .cons e t => by rw [e, refs_each t]; rfl
theorem vals_refs' : ∀ bs : List AP', Vals (bs.map fun b => V.ref b.1) (bs.map fun b => Value.ref b.1)
  | [] => .nil
  | _ :: r => .cons rfl (vals_refs' r)
theorem each_reads {h : Heap} {a : Addr} : ∀ {bs : List AP'}, (∀ b ∈ bs, Reads h (.ref b.1) (.tuple (b.2.map PyData.int)) []) →
    EachIs (fun (v : Value) (b : AP') => ∃ as, Reads h v (.tuple (b.2.map PyData.int)) as ∧ a ∉ as) (bs.map fun b => Value.ref b.1) bs
  | [], _ => .nil
  | b :: r, k => .cons ⟨[], k b (.head _), by simp⟩ (each_reads fun c hc => k c (.tail _ hc))
theorem alike_tups (bs : List AP') : AllAlike (bs.map fun b => PyData.tuple (b.2.map PyData.int)) := AllAlike.of fun b b' => by
  show alikeAll _ _ = true
  exact alike_ints _ _
theorem sortable_tups {bs : List AP'} (k : ∀ b ∈ bs, b.2 ≠ []) : Sortable (bs.map fun b => PyData.tuple (b.2.map PyData.int)) := .inl fun d hd => by
  obtain ⟨b, hb, rfl⟩ := List.mem_map.mp hd
  have n := k b hb
  cases e : b.2 with
  | nil => exact absurd e n
  | cons x r => exact ⟨_, _, rfl⟩
theorem depth_tup (b : AP') : (PyData.tuple (b.2.map PyData.int)).depth ≤ 1 := by
  simp only [PyData.depth, depth_ints]
  omega
theorem mem_back {β : Type} {le : β → β → Bool} {l : List β} {x : β} (h : x ∈ l.mergeSort le) : x ∈ l := List.mem_mergeSort.mp h
theorem merge_ok (bs : List AP') : (bs.mergeSort (dataLe false fun b => .tuple (b.2.map PyData.int))).Pairwise fun x y => x.2 ≤ y.2 := by
  rw [dataLe_tups]
  refine List.Pairwise.imp (fun h => of_decide_eq_true h) (List.pairwise_mergeSort (le := fun p q : AP' => decide (p.2 ≤ q.2)) (fun a b c h1 h2 => ?_) (fun a b => ?_) bs)
  · exact decide_eq_true (List.le_trans (of_decide_eq_true h1) (of_decide_eq_true h2))
  · rcases List.le_total a.2 b.2 with h | h
    · simp [h]
    · simp [h]
/-- sorted(xs): xs a list of tuples of ints, none empty -/
def rSortTs (K : PySem.W.Frag) : List V → Hp → VK → Prop := fun vs H Q => ∃ (a : Addr) (bs : List AP'), vs = [V.ref a] ∧ SqL K H a (bs.map fun b => V.ref b.1) ∧ (∀ b ∈ bs, H b.1 = some (.tup (b.2.map V.int)) ∧ b.2 ≠ []) ∧
  ∀ (cs : List AP') (p : Addr), cs.Perm bs → cs.Pairwise (fun x y => x.2 ≤ y.2) → H p = none → Q (.ref p) (upd H p (.lst (cs.map fun b => V.ref b.1)))
theorem refs_vals : ∀ {bs : List AP'} {us : List Value}, Vals (bs.map fun b => V.ref b.1) us → us = bs.map fun b => Value.ref b.1
  | [], _, r => by
    cases r
    rfl
  | b :: bs, _, r => by
    rw [List.map_cons] at r
    cases r with
    | cons r1 r2 => rw [show _ = Value.ref b.1 from r1, refs_vals r2]; rfl
theorem cr_sortTs {X : Cx} {k : Nat} (hr : Room k X.A) : CallR X (.builtin "sorted") (rSortTs X.K) := by
  intro pins s σ H vs us Q I r h
  obtain ⟨a, bs, ev, hs, hb, q⟩ := h
  subst ev
  obtain ⟨its, rv, hl, hz⟩ := I.list hs
  rw [Vals.ref1 r]
  have ei := refs_vals rv
  subst ei
  rw [List.length_map] at hz
  have hun := hr.units
  refine sorted_data (enc := fun b : AP' => PyData.tuple (b.2.map PyData.int)) hl.isList (each_refs bs) ?_ (alike_tups bs) (sortable_tups fun b m => (hb b m).2) hz (fun b _ => ?_) fun out _ eo => ?_
  · exact (each_reads (a := 0) fun b m => reads_tup I.hok (hb b m).1).mono fun _ _ ⟨as, r, _⟩ => ⟨as, r⟩
  · have := depth_tup b
    omega
  · obtain ⟨c, hc⟩ := sortedAll_at s.heap (bs.map fun b => Value.ref b.1) (List.toArray out)
    have e2 := refs_each eo
    have hperm := List.mergeSort_perm bs (dataLe false fun b : AP' => PyData.tuple (b.2.map PyData.int))
    refine ⟨.ref _, upd H (s.heap.objs.size + 1) (.lst _), I.laid (t' := s.toks) (fun _ _ => sortedAll_old) (Nat.le_succ _) ⟨?_, out, c, ?_, hc⟩, rfl, q _ _ hperm (merge_ok bs) (I.hok.fresh (Nat.le_succ _))⟩
    · rw [List.length_map, hperm.length_eq]
      exact hz
    · rw [e2]
      exact vals_refs' _
end K23
namespace K23
open PySem L2 PySem.Spec PyProof.Rows PySem.W

/-! ### sorted(d), d a dict whose keys are tuples of ints -/
theorem pair_up {H : Hp} : ∀ {kvs : List (List L2.Key × V)} {ks : List (List L2.Key × Addr × Value)} {ps : List (List Int)}, KT H kvs ks → kvs.map (·.1) = ps.map (List.map Sum.inl) →
    ∃ bs : List AP', bs.map (·.1) = ks.map (fun x => x.2.1) ∧ bs.map (·.2) = ps ∧ ∀ b ∈ bs, H b.1 = some (.tup (b.2.map V.int))
  | _, _, [], .nil, _ => ⟨[], rfl, rfl, fun _ h => nomatch h⟩
  | _, _, [], .cons _ _, e => nomatch e
  | _, _, _ :: _, .nil, e => nomatch e
  | _, _, p :: ps, .cons (a := u) (b := v) h t, e => by
    rw [List.map_cons, List.map_cons] at e
    injection e with e1 e2
    obtain ⟨bs, b1, b2, b3⟩ := pair_up t e2
    refine ⟨(v.2.1, p) :: bs, by rw [List.map_cons, List.map_cons, b1], by rw [List.map_cons, b2], fun b hb => ?_⟩
    rcases List.mem_cons.mp hb with rfl | hb
    · have q := h.2.1
      rw [e1, List.map_map] at q
      exact q
    · exact b3 b hb
theorem acc_refs {P : Program} {w : World} {ks : List (List L2.Key × Addr × Value)} {es : Array DictEntry} {acc : Array Value} (he : es.toList = ks.map (entryOfKey (tupleKind (mixKind P w))))
    (it : ItemsOf (fun i v => ∃ en : DictEntry, es[i]? = some en ∧ v = en.key) acc es.size) : acc.toList = ks.map fun x => Value.ref x.2.1 := by
  have hl : acc.toList.length = ks.length := by
    rw [Array.length_toList, it.1]
    exact size_of_entries he
  apply List.ext_getElem?
  intro j
  cases hj : acc.toList[j]? with
  | none =>
    have n := List.getElem?_eq_none_iff.mp hj
    rw [List.getElem?_eq_none (by rw [List.length_map]; omega)]
  | some v =>
    have hj' : acc[j]? = some v := by
      rw [← Array.getElem?_toList]
      exact hj
    obtain ⟨en, h1, h2⟩ := it.2 j v hj'
    have h3 : es.toList[j]? = some en := by
      rw [Array.getElem?_toList]
      exact h1
    rw [he, List.getElem?_map] at h3
    obtain ⟨x, hx, hx2⟩ := Option.map_eq_some_iff.mp h3
    rw [List.getElem?_map, hx, h2, ← hx2]
    rfl
def rSortD : List V → Hp → VK → Prop := fun vs H Q => ∃ (a : Addr) (kvs : List (List L2.Key × V)) (ps : List (List Int)), vs = [V.ref a] ∧ H a = some (.dT kvs) ∧ kvs.map (·.1) = ps.map (List.map Sum.inl) ∧ (∀ p ∈ ps, p ≠ []) ∧
  ∀ (cs : List AP') (p : Addr), (cs.map (·.2)).Perm ps → cs.Pairwise (fun x y => x.2 ≤ y.2) → (∀ c ∈ cs, H c.1 = some (.tup (c.2.map V.int))) → H p = none → Q (.ref p) (upd H p (.lst (cs.map fun b => V.ref b.1)))
theorem cr_sortD {X : Cx} {k : Nat} (hc : X.calm = true) (hr : Room k X.A) : CallR X (.builtin "sorted") rSortD := by
  intro pins s σ H vs us Q I r h
  obtain ⟨a, kvs, ps, ev, ha, hks, hne, q⟩ := h
  subst ev
  obtain ⟨u, eu, ru⟩ := vals1 r
  subst eu
  cases ru
  obtain ⟨z, hsys, ks, pr, o, es, ep, ho, hx, hdt, he, hn⟩ := (show ObjOk X.prog X.w H s.heap a (.dT kvs) from I.hok a _ ha)
  have l1 : es.size = ks.length := size_of_entries he
  have l2 : kvs.length = ks.length := Paired.length pr
  obtain ⟨bs, b1, b2, b3⟩ := pair_up pr hks
  have l3 : bs.length = ks.length := by
    have := congrArg List.length b1
    simpa using this
  have hun := hr.units
  refine Calls.call_function_entry kind_sorted plain_sorted entry_sorted (args_sorted1 _) ?_
  unfold Builtin.«sorted»
  refine wpAny_bind (m := checkCount "sorted" 1 1 _) (wpAny_pure ?_)
  refine wpAny_bind (kdu_collect (A := X.A.in1) (kdl_raw hsys hx hdt) (I.ok.hd hc) ho (by omega) fun h' tk acc hk hacc => ?_)
  have ea : acc.toList = bs.map fun b => Value.ref b.1 := by
    rw [acc_refs he hacc]
    have e2 : (bs.map (·.1)).map Value.ref = (ks.map fun x => x.2.1).map Value.ref := by rw [b1]
    rw [List.map_map, List.map_map] at e2
    exact e2.symm
  rw [ea]
  have I1 : Inv X pins σ H { s with heap := h', toks := tk } := I.kept hk
  have hz : bs.length ≤ sizeLine := by omega
  refine wpAny_bind (wpAny_newList ?_ (by rw [List.length_map]; exact hz))
  have hoL : (h'.push (seqObj "list" (bs.map fun b => Value.ref b.1).toArray 0)).get? h'.objs.size = some (seqObj "list" (bs.map fun b => Value.ref b.1).toArray 0) := Heap.get?_push_size _ rfl
  refine wpAny_bind (wpAny_holding ?_)
  refine list_sort_data (s := { s with heap := h'.push (seqObj "list" (bs.map fun b => Value.ref b.1).toArray 0), toks := tk }) (enc := fun b : AP' => PyData.tuple (b.2.map PyData.int)) hoL (each_refs bs)
    (each_reads fun b m => ?_) (alike_tups bs) (sortable_tups fun b m => ?_) hz (fun b _ => ?_) fun out _ eo => ?_
  · exact PyProof.Rows.Reads.keeps (fun _ _ e => Heap.get?_push_of_some _ e) (reads_tup I1.hok (b3 b m))
  · exact hne _ (by rw [← b2]; exact List.mem_map.mpr ⟨b, m, rfl⟩)
  · have := depth_tup b
    have e : X.A.in1.units = X.A.units + 1 := rfl
    omega
  · obtain ⟨c, hcl⟩ := sortedHeap_at (vs := bs.map fun b => Value.ref b.1) (out := List.toArray out) hoL
    have e2 := refs_each eo
    have hperm := List.mergeSort_perm bs (dataLe false fun b : AP' => PyData.tuple (b.2.map PyData.int))
    refine wpAny_pure ⟨_, rfl, .ref h'.objs.size, upd H h'.objs.size (.lst ((bs.mergeSort (dataLe false fun b : AP' => PyData.tuple (b.2.map PyData.int))).map fun b => V.ref b.1)), I1.laid (t' := tk) (fun b u e => ?_) (Nat.le_refl _) ⟨?_, out, c, ?_, hcl⟩, rfl,
      q _ _ ?_ (merge_ok bs) (fun c hc => b3 c (mem_back hc)) (I1.hok.fresh (Nat.le_refl _))⟩
    · have hb : b < h'.objs.size := Heap.lt_size e
      rw [sortedHeap_old (Nat.ne_of_lt hb) (by rw [size_push']; exact Nat.lt_succ_of_lt hb)]
      exact Heap.get?_push_of_some _ e
    · rw [List.length_map, hperm.length_eq]
      exact hz
    · rw [e2]
      exact vals_refs' _
    · rw [← b2]
      exact hperm.map _
end K23
namespace K23
open PySem L2 PySem.Spec PyProof.Rows PySem.W

section
variable {X : Cx} {pins : List (Addr × Obj)} {σ : L2.St} {H : Hp} {s : Shared} {n : Nat} {A1 : Around} {f : Addr} {fd : FuncData} {ps : List Str} {sp : Sp}
/-- a def of the program runs within a built-in -/
theorem run_in {E' : Value → Shared → Prop} {Q : VK} {us : List Value} {vs : List V} (sb : Sub X n A1) (F : FnOk X.prog X.w X.K X.mg X.base CX0 n f fd ps sp) (hb : Binds X.K fd ps []) (I : Inv X pins σ H s) (r : Vals vs us) (h : sp vs H Q E0) :
    wpAny (model X.prog X.w) A1 (call (.ref f) us) (EP X pins σ Q) E' s := by
  have e := I.env0
  have e1 : Env0 X.prog X.w X.K X.mg X.base A1 X.stack s H := ⟨by rw [sb.fr]; exact e.frames, e.mod, e.bs, e.bsz, e.funs, e.frf, e.hok, e.bare⟩
  have hl := F.len _ _ _ _ h
  have hl2 : (us ++ []).length = ps.length := by rw [List.append_nil, ← r.length]; exact hl
  have hbb := hb s us I.kIn hl2
  rw [List.append_nil] at hbb
  refine wpAny_call (codeAny_mono (F.run A1 X.stack s H ⟨us, []⟩ us vs Q E0 sb.room e1 hbb r h) fun r s' hq => ?_)
  cases r with
  | error e => exact False.elim hq
  | ok fl =>
    cases fl with
    | ret u => exact I.after hq
    | next => exact False.elim hq
    | brk => exact False.elim hq
    | cont => exact False.elim hq
end

/-! ### len(o), the class has its own __len__ -/
structure OwnLen (K : PySem.W.Frag) (C fl : Addr) : Prop where
  at_ : PySem.W.findIn K (.ref C) "__len__" = some (some (.ref fl))
  fn : PySem.W.isFn K (.ref fl) = true
section
variable {X : Cx} {n : Nat} {C fl fi : Addr} {fd fdi : FuncData} {sp spi : Sp}
/-- what is asked of what __len__ hands back -/
def LenQ (Q : Int → Hp → Prop) : VK := fun v H => ∃ k : Int, v = .int k ∧ 0 ≤ k ∧ k < 2 ^ 63 ∧ Q k H
def rLenO (C : Addr) (sp : Sp) : List V → Hp → VK → Prop := fun xs H Q => ∃ a dx fs, xs = [V.ref a] ∧ H a = some (.ins C dx fs) ∧ sp [V.ref a] H (LenQ fun k H' => Q (.int k) H') E0
theorem len_in {pins : List (Addr × Obj)} {σ : L2.St} {H : Hp} {s : Shared} {A : Around} {E' : Value → Shared → Prop} {Q : Int → Hp → Prop} {a dx : Addr} {fs : List (Str × V)} (sb : Sub X (n + 1) A) (L : OwnLen X.K C fl) (F : FnOk X.prog X.w X.K X.mg X.base CX0 n fl fd ["self"] sp) (hb : Binds X.K fd ["self"] [])
    (I : Inv X pins σ H s) (ha : H a = some (.ins C dx fs)) (h : sp [V.ref a] H (LenQ Q) E0) :
    wpAny (model X.prog X.w) A (call (.builtin "len") [.ref a]) (fun v s' => ∃ k t H', v = .int k t ∧ 0 ≤ k ∧ k < 2 ^ 63 ∧ Inv X pins σ H' s' ∧ Q k H') E' s := by
  obtain ⟨mA, J, _⟩ := ins_get I.hok ha
  obtain ⟨od, J, _⟩ := J.look
  obtain ⟨m, hF⟩ := I.fr
  refine len_K hF I.ok.mod.kin J L.at_ L.fn (wpAny_mono (run_in (vs := [V.ref a]) sb.in1 F hb I (.cons rfl .nil) h) (fun v s' hv => ?_) fun _ _ z => z)
  obtain ⟨x, H', I', rx, k, ex, k0, k1, q⟩ := hv
  subst ex
  obtain ⟨t, rfl⟩ := rx
  exact ⟨⟨k0, k1⟩, k, s'.toks, H', rfl, k0, k1, I'.tok _, q⟩
theorem cr_lenO (L : OwnLen X.K C fl) (F : FnOk X.prog X.w X.K X.mg X.base CX0 n fl fd ["self"] sp) (hb : Binds X.K fd ["self"] []) (hr : Room (n + 1) X.A) : CallR X (.builtin "len") (rLenO C sp) := by
  intro pins s σ H vs us Q I r h
  obtain ⟨a, dx, fs, ev, ha, q⟩ := h
  subst ev
  rw [Vals.ref1 r]
  refine wpAny_mono (len_in ⟨hr, rfl⟩ L F hb I ha q) (fun v s' hv => ?_) fun _ _ z => z
  obtain ⟨k, t, H', rfl, _, _, I', q'⟩ := hv
  exact ⟨.int k, H', I', ⟨t, rfl⟩, q'⟩

end
/-- something stands at it -/
def StO (it : Addr) : HO := .ext fun h => ∃ o, h.get? it = some o
theorem stO_ok {P : Program} {w : World} {H : Hp} {h : Heap} {it : Addr} {o : Obj} (e : h.get? it = some o) : ObjOk P w H h it (StO it) := ⟨⟨o, e⟩, ⟨o, e⟩, fun _ _ q k => let ⟨o, e⟩ := q; ⟨o, k o e⟩⟩
/-! ### a list iterator that stands, drawn -/
section
variable {prog : Program} {w : World} {A : Around} {E : Value → Shared → Prop} {s : Shared} {it l : Addr} {i : Nat} {items : Array Value}
theorem nx_item {x : Value} {Q : Option Value → Shared → Prop} (ho : s.heap.get? it = some (GNX.itObj l i)) (hl : s.heap.IsList l items) (hx : items[i]? = some x)
    (hQ : ∀ h', h'.get? it = some (GNX.itObj l (i + 1)) → Heap.SameBut it s.heap h' → Q (some x) { s with heap := h' }) : wpAny (model prog w) A (pyNext (.ref it)) Q E s := by
  have ty : s.TypeIs (.ref it) "list_iterator" := ⟨_, ho, rfl⟩
  unfold pyNext
  refine wpAny_bind (wpAny_attempt (wpAny_callSpecial?_slot (name := Str.ofString "__next__") ty slot_listiter_next (wpAny_call_entry slot_listiter_next ty entry_listiter_next ?_ (args_listiter_next _))))
  exact GNX.next_item ho hl hx fun h' e1 sb => wpAny_pure (hQ h' e1 sb)
theorem nx_end {Q : Option Value → Shared → Prop} (hh : A.handled = none) (ho : s.heap.get? it = some (GNX.itObj l i)) (hl : s.heap.IsList l items) (hx : items[i]? = none)
    (hQ : ∀ h1 h', h1.get? it = some (GNX.itEnd i) → Heap.SameBut it s.heap h1 → (∀ b o, h1.get? b = some o → h'.get? b = some o) → Q none { s with heap := h' }) : wpAny (model prog w) A (pyNext (.ref it)) Q E s := by
  have ty : s.TypeIs (.ref it) "list_iterator" := ⟨_, ho, rfl⟩
  unfold pyNext
  refine wpAny_bind (wpAny_attempt (wpAny_callSpecial?_slot (name := Str.ofString "__next__") ty slot_listiter_next (wpAny_call_entry slot_listiter_next ty entry_listiter_next ?_ (args_listiter_next _))))
  refine GNX.next_end hh ho hl hx fun h1 h' e vs e1 sb k ne he hv => ?_
  refine wpAny_bind (wpAny_isInstance (T := "StopIteration") (b := true) ⟨_, he, rfl⟩ isSubtype_stop ?_)
  exact wpAny_pure (hQ h1 h' e1 sb k)
end
theorem upd_self {H : Hp} {a : Addr} {o : HO} (h : H a = some o) : upd H a o = H := by
  funext b
  by_cases z : b = a
  · rw [z, upd_same, h]
  · rw [upd_ne z]
theorem upd_swap {H : Hp} {a b : Addr} {o u : HO} (h : a ≠ b) : upd (upd H a o) b u = upd (upd H b u) a o := by
  funext c
  by_cases z : c = a
  · subst z
    rw [upd_ne h, upd_same, upd_same]
  · by_cases y : c = b
    · subst y
      rw [upd_same, upd_ne z, upd_same]
    · rw [upd_ne y, upd_ne z, upd_ne z, upd_ne y]
section
variable {X : Cx} {pins : List (Addr × Obj)} {σ : L2.St}
/-- from place i on the items of l go over into the list at S -/
theorem pour {S it l : Addr} {zs : List V} {A1 : Around} {Rs : Result → Shared → Prop} {H0 : Hp} (hh : A1.in1.handled = none) (nS : S ≠ it) (nl : l ≠ S) (ni : l ≠ it) (hl0 : H0 l = some (.lst zs)) (hz0 : zs.length ≤ sizeLine)
    (hdone : ∀ s, Inv X pins σ (upd (upd H0 it (StO it)) S (.lst zs)) s → Rs (.ok (.ret .none)) s) :
    ∀ (k i : Nat) (s : Shared), k + i = zs.length → Inv X pins σ (upd (upd H0 it (ItO l it i)) S (.lst (zs.take i))) s → codeAny (model X.prog X.w) A1 (.builtin "list.extend.loop" ⟨[.ref S, .ref it, .none], []⟩) Rs s := by
  intro k
  induction k with
  | zero =>
    intro i s hk I
    have hi : i = zs.length := by omega
    subst hi
    rw [List.take_of_length_le (Nat.le_refl _)] at I
    have ql : upd (upd H0 it (ItO l it zs.length)) S (.lst zs) l = some (.lst zs) := by
      rw [upd_ne nl, upd_ne ni]
      exact hl0
    have qi : upd (upd H0 it (ItO l it zs.length)) S (.lst zs) it = some (ItO l it zs.length) := by
      rw [upd_ne nS.symm, upd_same]
    obtain ⟨zl, itl, kl, rl, hll, el⟩ := I.lstM ql
    refine codeAny_builtin PySem.F.entry_extend_loop ?_
    rw [Around.under_plainId PySem.F.plain_extend_loop _]
    show wpAny _ A1.in1 (pyNext (.ref it) >>= _) _ _ s
    refine wpAny_bind (nx_end hh (itO_get I qi) ⟨_, el, rfl, _, rfl⟩ ?_ fun h1 h' e1 sb kp => wpAny_pure (hdone _ ?_))
    · rw [List.getElem?_toArray, List.getElem?_eq_none]
      rw [← rl.length]
      exact Nat.le_refl _
    · have I1 : Inv X pins σ (upd (upd (upd H0 it (ItO l it zs.length)) S (.lst zs)) it (StO it)) { s with heap := h1 } :=
        I.write (x := it) (e := it) (t' := s.toks) (by rw [qi]; trivial) (.inl rfl) (fun b o nb z => (sb.2 b nb).trans z) ⟨_, e1⟩ (stO_ok e1)
      have I2 : Inv X pins σ _ { s with heap := h' } := I1.kept (t' := s.toks) kp
      rw [upd_swap nS, upd_upd] at I2
      exact I2
  | succ k ih =>
    intro i s hk I
    have hi : i < zs.length := by omega
    have ql : upd (upd H0 it (ItO l it i)) S (.lst (zs.take i)) l = some (.lst zs) := by
      rw [upd_ne nl, upd_ne ni]
      exact hl0
    have qi : upd (upd H0 it (ItO l it i)) S (.lst (zs.take i)) it = some (ItO l it i) := by
      rw [upd_ne nS.symm, upd_same]
    obtain ⟨zl, itl, kl, rl, hll, el⟩ := I.lstM ql
    obtain ⟨u, hu, ru⟩ := rl.get (List.getElem?_eq_getElem hi)
    refine codeAny_builtin PySem.F.entry_extend_loop ?_
    rw [Around.under_plainId PySem.F.plain_extend_loop _]
    show wpAny _ A1.in1 (pyNext (.ref it) >>= _) _ _ s
    refine wpAny_bind (nx_item (itO_get I qi) ⟨_, el, rfl, _, rfl⟩ (by rw [List.getElem?_toArray]; exact hu) fun h' e1 sb => ?_)
    have I1 : Inv X pins σ (upd (upd (upd H0 it (ItO l it i)) S (.lst (zs.take i))) it (ItO l it (i + 1))) { s with heap := h' } :=
      I.write (x := it) (e := it) (t' := s.toks) (by rw [qi]; trivial) (.inl rfl) (fun b o nb z => (sb.2 b nb).trans z) ⟨_, e1⟩ (itO_ok e1)
    rw [upd_swap nS, upd_upd] at I1
    show wpAny _ A1.in1 (updateSeq S (·.push u) >>= _) _ _ _
    obtain ⟨z, its, kk, r2, hl2, e⟩ := I1.lstM upd_same
    have hlen : (zs.take i).length = i := by
      rw [List.length_take]
      omega
    have hits : its.length = i := by
      rw [← r2.length]
      exact hlen
    refine wpAny_bind (wpAny_updateSeq e rfl (wpAny_pure ⟨plainId_quiet PySem.F.plain_extend_loop _, ?_⟩) (by rw [List.size_toArray]; omega) (by show (its.toArray.push u).size ≤ sizeLine + 1; rw [Array.size_push, List.size_toArray]; omega))
    have es : zs.take i ++ [zs[i]] = zs.take (i + 1) := (List.take_append_getElem hi)
    have I3 := I1.lset (f := fun xs => xs.push u) (its' := its ++ [u]) (t' := s.toks) upd_same e (by simp) (r2.append (.cons ru .nil)) (by rw [List.length_append, List.length_singleton]; omega)
    rw [upd_upd, es] at I3
    exact ih (i + 1) _ (by omega) I3
end

section
variable {X : Cx} {n : Nat} {C fl fi : Addr} {fd fdi : FuncData} {sp spi : Sp}
/-! ### list(o), the class has its own __iter__ (it hands back iter(a list)) and __len__ -/
structure OwnIt (K : PySem.W.Frag) (C fi : Addr) : Prop where
  at_ : PySem.W.findIn K (.ref C) "__iter__" = some (some (.ref fi))
  fn : PySem.W.isFn K (.ref fi) = true
/-- what len is worth to the length hint -/
def HintQ (Q : Hp → Prop) : Int → Hp → Prop := fun k H => k.toNat ≤ sizeLine ∧ Q H
theorem hint_in {pins : List (Addr × Obj)} {σ : L2.St} {H : Hp} {s : Shared} {A : Around} {E' : Value → Shared → Prop} {Q : Hp → Prop} {R : Bool → Shared → Prop} {a dx : Addr} {fs : List (Str × V)} (sb : Sub X (n + 1) A) (L : OwnLen X.K C fl) (F : FnOk X.prog X.w X.K X.mg X.base CX0 n fl fd ["self"] sp) (hb : Binds X.K fd ["self"] [])
    (I : Inv X pins σ H s) (ha : H a = some (.ins C dx fs)) (h : sp [V.ref a] H (LenQ (HintQ Q)) E0) (hR : ∀ b s' H', Inv X pins σ H' s' → Q H' → R b s') :
    wpAny (model X.prog X.w) A (Builtin.List.listLengthHint (.ref a)) R E' s := by
  obtain ⟨mA, J, _⟩ := ins_get I.hok ha
  obtain ⟨od, J, _⟩ := J.look
  unfold Builtin.List.listLengthHint
  refine wpAny_bind (wpAny_bind (J.type.here ((looks_findIn I.kIn L.at_).here ?_)))
  refine PySem.W.KFB.if_not rfl ?_
  refine PySem.W.KFB.if_so rfl ?_
  refine wpAny_bind (wpAny_rule ?_)
  refine wpAny_bind (wpAny_attempt (wpAny_mono (len_in (E' := fun _ _ => False) sb L F hb I ha h) (fun v s' hv => ?_) fun _ _ z => z.elim))
  obtain ⟨k, t, H', rfl, _, _, I', kz, q⟩ := hv
  refine wpAny_bind (wpAny_pure ?_)
  refine PySem.W.KFB.if_not (decide_eq_false (by omega)) ?_
  exact wpAny_pure (hR _ s' H' I' q)
/-- behind list(o): S the new list, it the iterator that __iter__ made over the list at l -/
def ItQ (Q : Addr → Addr → List V → Hp → Prop) : VK := fun v H => ∃ it l zs, v = .ref it ∧ H it = some (ItO l it 0) ∧ H l = some (.lst zs) ∧ l ≠ it ∧ Q it l zs H
def rListO (C : Addr) (spi sp : Sp) : List V → Hp → VK → Prop := fun xs H Q => ∃ a dx fs, xs = [V.ref a] ∧ H a = some (.ins C dx fs) ∧ ∀ S, H S = none →
  spi [V.ref a] (upd H S (.lst [])) (ItQ fun it l zs H1 => H1 a = some (.ins C dx fs) ∧ sp [V.ref a] H1 (LenQ (HintQ fun H2 =>
    H2 it = some (ItO l it 0) ∧ H2 l = some (.lst zs) ∧ H2 S = some (.lst []) ∧ l ≠ S ∧ Q (.ref S) (upd (upd H2 it (StO it)) S (.lst zs)))) E0) E0
theorem cr_listO (T : OwnIt X.K C fi) (FI : FnOk X.prog X.w X.K X.mg X.base CX0 n fi fdi ["self"] spi) (hbi : Binds X.K fdi ["self"] []) (L : OwnLen X.K C fl) (F : FnOk X.prog X.w X.K X.mg X.base CX0 n fl fd ["self"] sp) (hb : Binds X.K fd ["self"] [])
    (hr : Room (n + 3) X.A) : CallR X (.type "list") (rListO C spi sp) := by
  intro pins s σ H xs us Q I rv h
  obtain ⟨a, dx, fs, ev, ha, hq⟩ := h
  subst ev
  rw [Vals.ref1 rv]
  have sb : Sub X (n + 1) X.A.in1.in1 := Sub.in1 (Sub.in1 (⟨hr, rfl⟩ : Sub X (n + 3) X.A))
  have hh : X.A.in1.handled = none := hr.hd
  refine callType_codes (Q₁ := fun obj s₁ => obj = .ref s.heap.objs.size ∧ s₁ = { s with heap := s.heap.push { cls := .type "list", data := .seq #[] } }) PySem.F.called_list
    (PySem.F.typeCall_list_1 _) PySem.F.entry_list_init (code_list_new _ ⟨rfl, rfl⟩) fun obj s₁ h₁ => ?_
  obtain ⟨e1, e2⟩ := h₁
  subst e1; subst e2
  generalize hSd : s.heap.objs.size = S
  have hS : (s.heap.push { cls := .type "list", data := .seq #[] }).get? S = some { cls := .type "list", data := .seq #[] } := by
    rw [← hSd]
    exact Heap.get?_push_size _ rfl
  refine ⟨⟨_, hS, rfl⟩, PySem.F.args_list_init_2 _ _, ?_⟩
  have fr : H S = none := I.hok.fresh (Nat.le_of_eq hSd)
  have spI := hq S fr
  have I1 : Inv X pins σ (upd H S (.lst [])) { s with heap := s.heap.push { cls := .type "list", data := .seq #[] } } := by
    have := I.lnew (its := []) (ys := []) (t' := s.toks) .nil (Nat.zero_le _)
    rw [hSd] at this
    exact this
  have hne : a ≠ S := ne_of_none ha fr
  have ha1 : upd H S (.lst []) a = some (.ins C dx fs) := by
    rw [upd_ne hne]
    exact ha
  show wpAny _ _ (Builtin.List.listItems (.ref S) >>= fun old => Builtin.List.listUpdate (.ref S) (fun _ => #[]) >>= fun _ => letGo old.toList.reverse >>= fun _ => Builtin.List.listExtendWith (.ref S) (.ref a) .none) _ _ _
  refine wpAny_bind ?_
  unfold Builtin.List.listItems
  refine wpAny_bind (wpAny_seqItems hS rfl (wpAny_pure ?_))
  refine wpAny_bind ?_
  show wpAny _ _ (updateSeq S (fun _ => #[])) _ _ _
  refine wpAny_updateSeq hS rfl ?_
  have I2 := I1.lset (f := fun _ => #[]) (its := []) (its' := []) (ys := []) (t' := s.toks) upd_same hS rfl .nil (Nat.zero_le _)
  rw [upd_upd] at I2
  refine wpAny_bind (wpAny_letGo ?_)
  obtain ⟨mA, J, _⟩ := ins_get I2.hok ha1
  obtain ⟨od, J, _⟩ := J.look
  obtain ⟨m0, hF⟩ := I2.fr
  unfold Builtin.List.listExtendWith
  refine wpAny_bind (J.type.here ?_)
  have z1 : Builtin.List.listSameRef (.ref S) (.ref a) = false := by simp [Builtin.List.listSameRef, hne.symm]
  have z2 : (Value.ref C == Value.type "list") = false := rfl
  have z3 : (Value.ref C == Value.type "tuple") = false := rfl
  simp only [z1, z2, z3, Bool.or_false, Bool.false_eq_true, if_false]
  refine wpAny_bind (owit_iter hF I2.ok.mod.kin J T.at_ T.fn (wpAny_mono (run_in (vs := [V.ref a]) (sb.mono (Nat.le_succ n)) FI hbi I2 (.cons rfl .nil) spI) (fun v s' hv => ?_) fun _ _ z => z))
  obtain ⟨x, H1, I3, rx, it, l, zs, ex, hit, hl, hli, hsp⟩ := hv
  subst ex
  obtain rfl : v = Value.ref it := rx
  have oit := itO_get I3 hit
  have ty : Shared.TypeIs _ (.ref it) "list_iterator" := ⟨_, oit, rfl⟩
  unfold OwitIt
  refine wpAny_specialOf ty slot_listiter_next.lookup ?_
  obtain ⟨ha2, hsp⟩ := hsp
  refine wpAny_bind (wpAny_holding (hint_in sb L F hb I3 ha2 hsp fun b s4 H2 I4 q4 => ?_))
  obtain ⟨qi, ql, qS, nlS, q⟩ := q4
  have niS : it ≠ S := ne_of qi qS fun z => nomatch z
  have niS : S ≠ it := ne_of qS qi fun z => nomatch z
  have loop : ∀ s5, Inv X pins σ H2 s5 → codeAny (model X.prog X.w) X.A.in1 (.builtin "list.extend.loop" ⟨[.ref S, .ref it, .none], []⟩) (wants (fun r s₂ => r = .none ∧ EP X pins σ Q (.ref S) s₂) X.xe) s5 := by
    intro s5 I5
    obtain ⟨zl, _⟩ := I5.lstM ql
    refine pour (X := X) (pins := pins) (σ := σ) (A1 := X.A.in1) (H0 := H2) (show X.A.in1.in1.handled = none from hr.hd) niS nlS hli ql zl (fun s6 I6 => ⟨rfl, .ref S, _, I6, rfl, q⟩) zs.length 0 s5 rfl ?_
    have e : upd (upd H2 it (ItO l it 0)) S (.lst (zs.take 0)) = H2 := by
      rw [upd_self qi]
      exact upd_self qS
    rw [e]
    exact I5
  refine wpAny_ite_split (fun _ => ?_) (fun _ => wpAny_pure ⟨plainId_quiet PySem.F.plain_extend_loop _, loop _ I4⟩)
  refine wpAny_bind (wpAny_rule ?_)
  obtain ⟨z, its, k, r3, hl3, e3⟩ := I4.lstM qS
  cases r3
  refine wpAny_bind ?_
  show wpAny _ _ (updateSeq S (fun xs => xs.push .none) >>= fun _ => updateSeq S (fun xs => xs.pop)) _ _ _
  refine wpAny_bind (wpAny_updateSeq e3 rfl ?_)
  have I5 := I4.lset (f := fun xs => xs.push Value.none) (its' := [Value.none]) (ys := [V.non]) (t' := s4.toks) qS e3 (by simp) (.cons rfl .nil) (by rw [List.length_singleton, sizeLine_eq]; decide)
  obtain ⟨z4, its4, k4, r4, hl4, e4⟩ := I5.lstM upd_same
  obtain ⟨u4, eu4, ru4⟩ := r4.one
  subst eu4
  refine wpAny_updateSeq e4 rfl ?_ (by show 1 ≤ sizeLine; rw [sizeLine_eq]; decide) (by show 0 ≤ sizeLine + 1; exact Nat.zero_le _)
  refine wpAny_pure ⟨plainId_quiet PySem.F.plain_extend_loop _, loop _ ?_⟩
  have I6 := I5.lset (f := fun xs => xs.pop) (its := [u4]) (its' := []) (ys := []) (t' := s4.toks) upd_same e4 (by rfl) .nil (Nat.zero_le _)
  rw [upd_upd, upd_self qS] at I6
  exact I6
end
end K23
namespace K23
open PySem L2 PySem.Spec PyProof.Rows PySem.W

/-! ### a dict comprehension whose keys are tuples -/
section
variable {X : Cx} {pins : List (Addr × Obj)} {σ : L2.St} {H : Hp} {s : Shared}
theorem putT {E : Value → Shared → Prop} {D b : Addr} {kvs : List (List L2.Key × V)} {k : List L2.Key} {v : V} {r : Value} {Q : Unit → Shared → Prop} (hu : X.A.units < cLine) (I : Inv X pins σ H s) (hD : H D = some (.dT kvs)) (hb : H b = some (.tup (k.map kV)))
    (hz : kvs.length < sizeLine) (rv : RelV v r) (h : ∀ s', Inv X pins σ (upd H D (.dT (putK kvs k v))) s' → Q () s') : wpAny (model X.prog X.w) X.A (dictSet D (.ref b) r) Q E s := by
  obtain ⟨z, hd, xs, rel, dd⟩ := dt_of I.hok hD
  have hx : xs.length ≤ sizeLine := by
    rw [← Paired.length rel]
    exact z
  have hl : (putK kvs k v).length ≤ sizeLine := by
    have := length_putK kvs k v
    omega
  refine wpAny_dictSet_heap (hsz := hx) (knd := tupleKind (mixKind X.prog X.w)) hu (key_of I.hok hb) dd fun h' dd' hs => h _ ?_
  obtain ⟨q, es, ep, e1, e2, e3, e4, _, e5⟩ := dd'
  refine d_write I (by rw [hD]; trivial) hs ⟨q, e1⟩ ⟨hl, hd, _, (rel.put k hb rv).keeps fun c ys ec => ?_, q, es, ep, e1, e2, e3, e4, e5⟩
  rw [upd_ne (ne_of ec hD fun q => nomatch q)]
  exact ec
end
/-- one turn of it, by what is wanted behind -/
def turnT (D : Addr) (tt : TT) (tk tv : TE) (Nx : Hp → Prop) : L2.St → Hp → Prop := fun σ H => tt σ H fun b H3 =>
  if b = true then tk σ H3 fun y H4 => tv σ H4 fun z H5 => ∃ kvs k q, y = V.ref q ∧ H5 q = some (.tup (k.map kV)) ∧ H5 D = some (.dT kvs) ∧ kvs.length < sizeLine ∧ Nx (upd H5 D (.dT (putK kvs k z))) else Nx H3
/-- what holds of W, by J, so that a walk goes through -/
def goesT (J : It) (D : Addr) (g : TG) (tt : TT) (tk tv : TE) (vs : List Nat) (σ : L2.St) (Q : VK) (W : Nat → Nat → Hp → Prop) : Prop := ∀ i m H, W i m H →
  (J.stop i H ∧ Q (.ref D) H) ∨ (J.go i H ∧ ∃ Nx : Hp → Prop, (∀ H', Nx H' → ∃ m', m' < m ∧ W (i + 1) m' H') ∧ ∀ x H', J.yld i H x H' → g x (wipe σ vs) H' fun σ2 H2 => wipe σ2 vs = wipe σ vs ∧ turnT D tt tk tv Nx σ2 H2)
def tDcT (wi : TI) (g : TG) (tt : TT) (tk tv : TE) (vs : List Nat) : TE := fun σ H Q => wi σ H fun J H1 => ∀ D, H1 D = none → ∃ W : Nat → Nat → Hp → Prop, (∃ m, W 0 m (upd H1 D (.dT []))) ∧ goesT J D g tt tk tv vs σ Q W

section
variable {Y : Cx} {tg iter kx vx : Expr} {ifs : List Expr} {scope : Scope} {pos : Pos} {g : TG} {tt : TT} {tk tv : TE} {vs : List Nat} {σ : L2.St} {J : It} {fp : List Addr} {it D : Addr} {tn : Nat → Heap → Prop} {Q : VK} {W : Nat → Nat → Hp → Prop} {R : Result → Shared → Prop}
/-- the block's loop, in the block's own context -/
theorem loopT (hxe : Y.xe = fun _ _ => False) (hcalm : Y.calm = true) (hu : Y.A.units < cLine) (pg : PG Y tg g) (pt : PTs Y ifs tt) (pk : PE Y kx tk) (pe : PE Y vx tv) (T : Turn Y.prog Y.w Y.K tg J fp it tn)
    (hfp : ∀ {σ' : L2.St} {H' : Hp} {s' : Shared}, Inv Y [] σ' H' s' → (∀ b ∈ fp, H' b = none) → ∀ b ∈ fp, FpOk Y [] H' b) (hW : goesT J D g tt tk tv vs σ Q W)
    (hend : ∀ H s, Inv Y [] (wipe σ vs) H s → Q (.ref D) H → R (.ok .next) s) (m i : Nat) (H : Hp) (s : Shared) (I : Inv Y [] (wipe σ vs) H s) (st : tn i s.heap) (hn : ∀ b ∈ fp, H b = none) (w : W i m H) :
    codeAny (model Y.prog Y.w) Y.A (.compLoop (.DictComp kx vx [⟨tg, iter, ifs, 0⟩] scope pos) 0 (.ref it) (.ref D) Y.env) R s := by
  have weaker : ∀ {α : Type} {t : Sem α} {P P' : α → Shared → Prop} {E' : Value → Shared → Prop} {s : Shared}, wpAny (model Y.prog Y.w) Y.A t P Y.xe s → (∀ a s, P a s → P' a s) → wpAny (model Y.prog Y.w) Y.A t P' E' s := by
    intro α t P P' E' s h k
    rw [hxe] at h
    exact thnF h k
  refine compLoop_anyD (fun n s' => ∃ i H', Inv Y [] (wipe σ vs) H' s' ∧ tn i s'.heap ∧ (∀ b ∈ fp, H' b = none) ∧ W i n H') ?_ m ⟨i, H, I, st, hn, w⟩
  intro n s1 h1
  obtain ⟨i1, H1, I1, st1, n1, w1⟩ := h1
  rcases hW i1 n H1 w1 with ⟨stop, q⟩ | ⟨go, Nx, hNx, step⟩
  · refine thnF (T.done Y rfl rfl rfl hcalm i1 [] s1 _ H1 (fun _ _ => False) I1 (hfp I1 n1) st1 stop) fun r s2 hr => ?_
    obtain ⟨er, I2⟩ := hr
    subst er
    exact hend H1 s2 I2 q
  · refine thnF (T.item Y rfl rfl rfl hcalm i1 [] s1 _ H1 (fun _ _ => False) I1 (hfp I1 n1) st1 go) fun r s2 hr => ?_
    obtain ⟨u, er, h2⟩ := hr
    subst er
    refine thnF h2 fun _ s3 h3 => ?_
    obtain ⟨x, H3, I3, r3, y3, st3, n3⟩ := h3
    have P3 := I3.pinned (hfp I3 n3) (T.obj _ _ st3)
    have fin : ∀ {σ5 : L2.St} {H5 : Hp} {s5 : Shared}, wipe σ5 vs = wipe σ vs → Inv Y ([] ++ pinsAt fp s3.heap) σ5 H5 s5 → Nx H5 → ∃ m', m' < n ∧ ∃ i H', Inv Y [] (wipe σ vs) H' s5 ∧ tn i s5.heap ∧ (∀ b ∈ fp, H' b = none) ∧ W i m' H' := by
      intro σ5 H5 s5 hw I5 nx
      obtain ⟨m', lt, w'⟩ := hNx H5 nx
      have stays : ∀ b ∈ fp, ∀ o, s3.heap.get? b = some o → s5.heap.get? b = some o ∧ H5 b = none := by
        intro b hb o e
        have z := I5.pin (b, o) (List.mem_append_right _ (List.mem_append_right _ (mem_pinsAt hb e)))
        exact ⟨z.1, z.2.1⟩
      refine ⟨m', lt, i1 + 1, H5, I5.unpinned.weak (by rw [← hw, wipe_length]) (fun j v e => ?_), T.keep _ _ _ st3 fun b hb o e => (stays b hb o e).1, fun b hb => ?_, w'⟩
      · rw [← hw] at e
        exact (wipe_some e).1
      · obtain ⟨o, e, _⟩ := T.obj _ _ st3 b hb
        exact (stays b hb o e).2
    refine weaker (pg.run _ s3 _ H3 x u _ P3 r3 (step x H3 y3)) fun _ s4 h4 => ?_
    obtain ⟨σ4, H4, I4, hw4, q4⟩ := h4
    refine weaker (pt.run _ s4 σ4 H4 _ I4 q4) fun b s5 h5 => ?_
    obtain ⟨H5, I5, q5⟩ := h5
    cases b with
    | false => exact fin hw4 I5 q5
    | true =>
      refine weaker (pk.run _ s5 σ4 H5 _ I5 q5) fun kv s6 h6 => ?_
      obtain ⟨yk, H6, I6, r6, q6⟩ := h6
      refine weaker (pe.run _ s6 σ4 H6 _ I6 q6) fun vv s7 h7 => ?_
      obtain ⟨yv, H7, I7, r7, kvs, k, c, ek, hc, hD, hz, nx⟩ := h7
      subst ek
      cases r6
      exact putT (X := Y) hu I7 hD hc hz r7 fun s8 I8 => fin hw4 I8 nx
end
section
variable {X : Cx}
/-- {k: v for target in iter if ..} as a value, the keys tuples of ints and texts -/
theorem pe_dcT {kx vx tg iter : Expr} {ifs : List Expr} {scope : Scope} {own : List (Str × Nat)} {pos : Pos} {wi : TI} {g : TG} {tt : TT} {tk tv : TE} (hcalm : X.calm = true) (hnd : X.N.Nodup) (hu : X.A.units < cLine) (hi : PI X tg iter wi) (ok : BlkOk X.N X.env.scope scope own)
    (hg : ∀ (s : Shared) (H : Hp) C cl fp, PG (X.blk s H scope (compEnvC scope cl C X.env) fp) tg g) (ht : ∀ (s : Shared) (H : Hp) C cl fp, PTs (X.blk s H scope (compEnvC scope cl C X.env) fp) ifs tt)
    (hk : ∀ (s : Shared) (H : Hp) C cl fp, PE (X.blk s H scope (compEnvC scope cl C X.env) fp) kx tk) (hv : ∀ (s : Shared) (H : Hp) C cl fp, PE (X.blk s H scope (compEnvC scope cl C X.env) fp) vx tv)
    (hs : ∀ x, foldedSetIterable iter X.env x = pure x := by intro _; rfl) : PE X (.DictComp kx vx [⟨tg, iter, ifs, 0⟩] scope pos) (tDcT wi g tt tk tv (own.map (·.2))) := by
  refine ⟨fun pins s σ H Q I h => ?_⟩
  rw [arm_eval_DictComp]
  have captured : ∀ y ∈ scope.names, y.2 = .free → ∃ c, X.env.cells.lookup y.1 = some c := by
    intro y hy e
    rcases ok.free y hy e with z | z
    · exact I.ok.has _ (.inl z)
    · exact I.ok.has _ (.inr z)
  refine wpAny_comprehension_free (use := Option.none) rfl hs (closure_ok captured) ok.kind (fun y hy e => by rw [ok.uniq y hy, e]) (thn (hi.run pins s σ H _ I h) fun xv s1 h1 => thn h1 fun itv s2 h2 => ?_)
  obtain ⟨it, fp, tn, J, H2, e, I2, T, st2, f2, q⟩ := h2
  subst e
  refine wpAny_newObj_type (newEnv_comp ?_)
  -- the new dict
  generalize eD : s2.heap.objs.size = D
  have nD : H2 D = none := I2.hok.fresh (Nat.le_of_eq eD)
  obtain ⟨W, ⟨m0, w0⟩, turn⟩ := q D nD
  generalize e3 : ({ s2 with heap := s2.heap.push { cls := .type "dict", data := .dict #[] } } : Shared) = s3
  have h3 : s3.heap = s2.heap.push { cls := .type "dict", data := .dict #[] } := by rw [← e3]
  have I3 : Inv X pins σ (upd H2 D (.dT [])) s3 := by
    rw [← e3]
    refine I2.laid (t' := s2.toks) (fun b o e => Heap.get?_push_of_some _ e) (Nat.le_of_eq eD) ?_
    rw [← eD]
    exact dt_empty s2.heap I2.big
  generalize eH : upd H2 D (.dT []) = H3 at I3 w0
  have young : ∀ b ∈ fp, b < s2.heap.objs.size := fun b hb => let ⟨o, e, _⟩ := T.obj _ _ st2 b hb; Heap.lt_size e
  have f3 : ∀ b ∈ fp, FpOk X pins H3 b ∧ b < s3.heap.objs.size := by
    intro b hb
    have lt := young b hb
    refine ⟨⟨?_, (f2 b hb).2⟩, by rw [h3, Heap.size_push]; exact Nat.lt_succ_of_lt lt⟩
    rw [← eH, upd_ne (by rw [← eD]; exact Nat.ne_of_lt lt)]
    exact (f2 b hb).1
  have st3 : tn 0 s3.heap := T.keep _ _ _ st2 fun b _ o e => by
    rw [h3]
    exact Heap.get?_push_of_some _ e
  have n3 : ∀ b ∈ fp, H3 b = none := fun b hb => (f3 b hb).1.1
  have I4 := block_start I3 ok hnd f3
  -- the block's context
  generalize ecl : cellsFrom (s3.heap.objs.size + 1) scope.names (cloFrom X.env.cells scope.names []) = cl at I4
  have own_free : ∀ {σ' : L2.St} {H' : Hp} {s' : Shared}, Inv (X.blk s3 H3 scope (compEnvC scope cl s3.heap.objs.size X.env) fp) [] σ' H' s' → (∀ b ∈ fp, H' b = none) →
      ∀ b ∈ fp, FpOk (X.blk s3 H3 scope (compEnvC scope cl s3.heap.objs.size X.env) fp) [] H' b := by
    intro σ' H' s' I' hn b hb
    exact ⟨hn b hb, (I'.ok.exf b hb).1, I'.ok.exfs b hb, .inl hb, fun x c e => (I'.ok.exf b hb).2 x c e, fun p hp => absurd (show p ∈ ([] : List (Addr × Obj)) ++ [] from hp) (by simp)⟩
  generalize e4 : ({ s3 with heap := pushCells (s3.heap.push { cls := .type "dict", data := .dict #[] }) scope.names } : Shared) = s4 at I4
  have st4 : tn 0 s4.heap := T.keep _ _ _ st3 fun b _ o e => by
    rw [← e4]
    exact pushCells_keeps _ _ _ _ (Heap.get?_push_of_some _ e)
  have loop := loopT (Y := X.blk s3 H3 scope (compEnvC scope cl s3.heap.objs.size X.env) fp) (D := D) (scope := scope) (pos := pos) (iter := iter) (vs := own.map (·.2)) (σ := σ) (Q := Q) (W := W)
    (R := compPost (model X.prog X.w) X.A X.xe Option.none (EP X pins σ Q) (.ref D) s3.heap.objs.size) rfl hcalm hu (hg s3 H3 s3.heap.objs.size cl fp) (ht s3 H3 s3.heap.objs.size cl fp) (hk s3 H3 s3.heap.objs.size cl fp) (hv s3 H3 s3.heap.objs.size cl fp)
    T own_free turn (fun H5 s5 I5 q5 => ?_) m0 0 H3 s4 I4 st4 n3 w0
  · have key := codeAny_compStart_dict (rest := []) loop (T.self X.A 0 _ _ _ st4 loop)
    subst ecl; subst e4; subst e3
    exact key
  · -- behind the loop: in the def's context again
    have I6 : Inv X pins σ H5 s5 := I3.call' (ch := fp) I5.os I5.base I5.hok I5.bare fun b hb => ⟨(f3 b hb).1.2.2.2.1, (f3 b hb).1.2.1, (f3 b hb).1.2.2.2.2.1, (f3 b hb).1.2.2.2.2.2⟩
    have nC : H5 s3.heap.objs.size = none := I5.free
    obtain ⟨m, hm, _⟩ := I5.loc
    obtain ⟨f0, f1, f2', f3', f4, f5⟩ := I3.fpOk (b := s3.heap.objs.size) (Nat.le_refl _) nC
    refine ⟨m, hm, fun h'' sb => ?_⟩
    exact ⟨.ref D, H5, I6.turned (t' := s5.toks) (fun b o hb e => (sb.2 b hb).trans e) f0 f1 f3' f4 f5, rfl, q5⟩
end
/-- over a list that stays -/
theorem dcT_list {K : PySem.W.Frag} {a D : Addr} {xs : List V} {g : TG} {tt : TT} {tk tv : TE} {vs : List Nat} {σ : L2.St} {H1 : Hp} {Q : VK} (Pv : Nat → Hp → Prop) (h0 : Pv 0 (upd H1 D (.dT []))) (hl : ∀ i H, i ≤ xs.length → Pv i H → SqL K H a xs)
    (hs : ∀ i x H, xs[i]? = some x → Pv i H → g x (wipe σ vs) H fun σ2 H2 => wipe σ2 vs = wipe σ vs ∧ turnT D tt tk tv (Pv (i + 1)) σ2 H2) (hd : ∀ H, Pv xs.length H → Q (.ref D) H) :
    ∃ W : Nat → Nat → Hp → Prop, (∃ m, W 0 m (upd H1 D (.dT []))) ∧ goesT (Itl K a) D g tt tk tv vs σ Q W := by
  refine ⟨fun i m H => m = xs.length - i ∧ i ≤ xs.length ∧ Pv i H, ⟨xs.length, rfl, Nat.zero_le _, h0⟩, ?_⟩
  rintro i m H ⟨em, hi, p⟩
  subst em
  have q := hl i H hi p
  by_cases lt : i < xs.length
  · refine .inr ⟨⟨xs, xs[i], q, List.getElem?_eq_getElem lt⟩, Pv (i + 1), fun H' p' => ⟨xs.length - (i + 1), by omega, rfl, lt, p'⟩, fun x H' y => ?_⟩
    obtain ⟨e, y⟩ := y
    subst e
    exact hs i x _ (y xs q) p
  · have e : i = xs.length := by omega
    subst e
    exact .inl ⟨⟨xs, q, Nat.le_refl _⟩, hd H p⟩
end K23
namespace K23
open PySem L2
/-! ### the text by places -/
def top (i : Nat) : Stmt := PySem.Challenge.pw_servedalone_k23_whole_tree.main.body.getD i (.Pass ⟨0, 0, 0, 0⟩)
abbrev sTInit : Stmt := inClass (top 2) 0
abbrev sTBeg : Stmt := inClass (top 2) 1
abbrev sTUse : Stmt := inClass (top 2) 2
abbrev sTKnown : Stmt := inClass (top 2) 3
abbrev sTPut : Stmt := inClass (top 2) 6
abbrev sTEnds : Stmt := inClass (top 2) 7
abbrev sTOldest : Stmt := inClass (top 2) 8
abbrev sTDrop : Stmt := inClass (top 2) 10
abbrev sTLen : Stmt := inClass (top 2) 11
abbrev sTIter : Stmt := inClass (top 2) 12
abbrev sBtw : Stmt := top 10
abbrev sSInit : Stmt := inClass (top 14) 0
abbrev sSFree : Stmt := inClass (top 14) 1
abbrev sSHeld : Stmt := inClass (top 14) 2
abbrev sSAlone : Stmt := inClass (top 14) 3
abbrev sSTake : Stmt := inClass (top 14) 4
abbrev sSHold : Stmt := inClass (top 14) 5
abbrev sSRel : Stmt := inClass (top 14) 6
abbrev sSRow : Stmt := inClass (top 14) 7
abbrev sSRows : Stmt := inClass (top 14) 9
abbrev sSHolders : Stmt := inClass (top 14) 10
abbrev sLPool : Stmt := top 16
abbrev sLDraw : Stmt := top 17
abbrev sLSame : Stmt := top 18
abbrev sLNew : Stmt := top 19
abbrev sLPath : Stmt := top 20
abbrev sLLetters : Stmt := top 21
abbrev sLRow : Stmt := top 22
abbrev sLUses : Stmt := top 23
abbrev sLKnown : Stmt := top 24
abbrev sLRel : Stmt := top 25
abbrev sLDropped : Stmt := top 26
abbrev sLAs : Stmt := top 27
abbrev sLFilled : Stmt := top 28
abbrev sLShown : Stmt := top 29
abbrev sLPut : Stmt := top 30
abbrev sLHeld : Stmt := top 31
abbrev sLStay : Stmt := top 32
abbrev sLaw : Stmt := top 33
theorem scTInit : FnScope ["self", "store"] ["self", "store"] (defScope sTInit) := ⟨rfl, rfl, rfl, by decide +kernel, rfl, by decide +kernel, by decide +kernel⟩
theorem scTBeg : FnScope ["self", "letters", "found", "length"] ["self", "letters"] (defScope sTBeg) := ⟨rfl, rfl, rfl, by decide +kernel, rfl, by decide +kernel, by decide +kernel⟩
theorem scTUse : FnScope ["self", "paths", "path"] ["self", "paths"] (defScope sTUse) := ⟨rfl, rfl, rfl, by decide +kernel, rfl, by decide +kernel, by decide +kernel⟩
theorem scTKnown : FnScope ["self", "letters", "paths", "path"] ["self", "letters"] (defScope sTKnown) := ⟨rfl, rfl, rfl, by decide +kernel, rfl, by decide +kernel, by decide +kernel⟩
theorem scTPut : FnScope ["self", "path", "block", "ahead"] ["self", "path", "block"] (defScope sTPut) := ⟨rfl, rfl, rfl, by decide +kernel, rfl, by decide +kernel, by decide +kernel⟩
theorem scTEnds : FnScope ["self", "paths", "ahead", "path"] ["self", "paths"] (defScope sTEnds) := ⟨rfl, rfl, rfl, by decide +kernel, rfl, by decide +kernel, by decide +kernel⟩
theorem scTOldest : FnScope ["self", "paths", "oldest", "path"] ["self", "paths"] (defScope sTOldest) := ⟨rfl, rfl, rfl, by decide +kernel, rfl, by decide +kernel, by decide +kernel⟩
theorem scTDrop : FnScope ["self", "paths", "oldest", "path"] ["self"] (defScope sTDrop) := ⟨rfl, rfl, rfl, by decide +kernel, rfl, by decide +kernel, by decide +kernel⟩
theorem scTLen : FnScope ["self"] ["self"] (defScope sTLen) := ⟨rfl, rfl, rfl, by decide +kernel, rfl, by decide +kernel, by decide +kernel⟩
theorem scTIter : FnScope ["self"] ["self"] (defScope sTIter) := ⟨rfl, rfl, rfl, by decide +kernel, rfl, by decide +kernel, by decide +kernel⟩
theorem scBtw : FnScope ["value", "least", "most"] ["value", "least", "most"] (defScope sBtw) := ⟨rfl, rfl, rfl, by decide +kernel, rfl, by decide +kernel, by decide +kernel⟩
theorem scSInit : FnScope ["self", "many", "size", "_"] ["self", "many", "size"] (defScope sSInit) := ⟨rfl, rfl, rfl, by decide +kernel, rfl, by decide +kernel, by decide +kernel⟩
theorem scSFree : FnScope ["self", "count"] ["self"] (defScope sSFree) := ⟨rfl, rfl, rfl, by decide +kernel, rfl, by decide +kernel, by decide +kernel⟩
theorem scSHeld : FnScope ["self", "block"] ["self", "block"] (defScope sSHeld) := ⟨rfl, rfl, rfl, by decide +kernel, rfl, by decide +kernel, by decide +kernel⟩
theorem scSAlone : FnScope ["self", "block"] ["self", "block"] (defScope sSAlone) := ⟨rfl, rfl, rfl, by decide +kernel, rfl, by decide +kernel, by decide +kernel⟩
theorem scSTake : FnScope ["self", "block"] ["self"] (defScope sSTake) := ⟨rfl, rfl, rfl, by decide +kernel, rfl, by decide +kernel, by decide +kernel⟩
theorem scSHold : FnScope ["self", "block"] ["self", "block"] (defScope sSHold) := ⟨rfl, rfl, rfl, by decide +kernel, rfl, by decide +kernel, by decide +kernel⟩
theorem scSRel : FnScope ["self", "block"] ["self", "block"] (defScope sSRel) := ⟨rfl, rfl, rfl, by decide +kernel, rfl, by decide +kernel, by decide +kernel⟩
theorem scSRow : FnScope ["self", "block", "row"] ["self", "block", "row"] (defScope sSRow) := ⟨rfl, rfl, rfl, by decide +kernel, rfl, by decide +kernel, by decide +kernel⟩
theorem scSRows : FnScope ["self", "block"] ["self", "block"] (defScope sSRows) := ⟨rfl, rfl, rfl, by decide +kernel, rfl, by decide +kernel, by decide +kernel⟩
theorem scSHolders : FnScope ["self", "block"] ["self", "block"] (defScope sSHolders) := ⟨rfl, rfl, rfl, by decide +kernel, rfl, by decide +kernel, by decide +kernel⟩
theorem scLPool : FnScope ["_law_script", "_law_many", "_law_pool_here", "_law_total", "_law_cell", "_law_rest", "_law_k", "_law_first", "_law_second"] ["_law_script", "_law_many"] (defScope sLPool) := ⟨rfl, rfl, rfl, by decide +kernel, rfl, by decide +kernel, by decide +kernel⟩
theorem scLDraw : FnScope ["_law_pool_here", "_law_many"] ["_law_pool_here", "_law_many"] (defScope sLDraw) := ⟨rfl, rfl, rfl, by decide +kernel, rfl, by decide +kernel, by decide +kernel⟩
theorem scLSame : FnScope ["_law_told", "_law_due", "_law_k"] ["_law_told", "_law_due"] (defScope sLSame) := ⟨rfl, rfl, rfl, by decide +kernel, rfl, by decide +kernel, by decide +kernel⟩
theorem scLNew : FnScope ["_law_pool_here", "_law_size", "_law_many"] ["_law_pool_here", "_law_size"] (defScope sLNew) := ⟨rfl, rfl, rfl, by decide +kernel, rfl, by decide +kernel, by decide +kernel⟩
theorem scLPath : FnScope ["_law_pool_here", "_law_state", "_law_paths", "_law_begun", "_law_limit"] ["_law_pool_here", "_law_state"] (defScope sLPath) := ⟨rfl, rfl, rfl, by decide +kernel, rfl, by decide +kernel, by decide +kernel⟩
theorem scLLetters : FnScope ["_law_pool_here", "_law_state", "_law_many", "_law_k"] ["_law_pool_here", "_law_state", "_law_many"] (defScope sLLetters) := ⟨rfl, rfl, rfl, by decide +kernel, rfl, by decide +kernel, by decide +kernel⟩
theorem scLRow : FnScope ["_law_state", "_law_letters_here", "_law_k", "_law_weights", "_law_j"] ["_law_state", "_law_letters_here", "_law_k"] (defScope sLRow) := ⟨rfl, rfl, rfl, by decide +kernel, rfl, by decide +kernel, by decide +kernel⟩
theorem scLUses : FnScope ["_law_state", "_law_path_here", "_law_used", "_law_clock", "_law_end"] ["_law_state", "_law_path_here"] (defScope sLUses) := ⟨rfl, rfl, rfl, by decide +kernel, rfl, by decide +kernel, by decide +kernel⟩
theorem scLKnown : FnScope ["_law_state", "_law_letters_here", "_law_out", "_law_path_here", "_law_end"] ["_law_state", "_law_letters_here"] (defScope sLKnown) := ⟨rfl, rfl, rfl, by decide +kernel, rfl, by decide +kernel, by decide +kernel⟩
theorem scLRel : FnScope ["_law_state", "_law_block", "_law_howmany"] ["_law_state", "_law_block"] (defScope sLRel) := ⟨rfl, rfl, rfl, by decide +kernel, rfl, by decide +kernel, by decide +kernel⟩
theorem scLDropped : FnScope ["_law_state", "_law_tree", "_law_used", "_law_best", "_law_path_here", "_law_longer", "_law_other"] ["_law_state"] (defScope sLDropped) := ⟨rfl, rfl, rfl, by decide +kernel, rfl, by decide +kernel, by decide +kernel⟩
theorem scLAs : FnScope ["_law_pool_here", "_law_row_here"] ["_law_pool_here", "_law_row_here"] (defScope sLAs) := ⟨rfl, rfl, rfl, by decide +kernel, rfl, by decide +kernel, by decide +kernel⟩
theorem scLFilled : FnScope ["_law_store", "_law_state", "_law_letters_here", "_law_howmany", "_law_block", "_law_due", "_law_k"] ["_law_store", "_law_state", "_law_letters_here"] (defScope sLFilled) := ⟨rfl, rfl, rfl, by decide +kernel, rfl, by decide +kernel, by decide +kernel⟩
theorem scLShown : FnScope ["_law_store", "_law_tree", "_law_state", "_law_k"] ["_law_store", "_law_tree", "_law_state"] (defScope sLShown) := ⟨rfl, rfl, rfl, by decide +kernel, rfl, by decide +kernel, by decide +kernel⟩
theorem scLPut : FnScope ["_law_pool_here", "_law_store", "_law_tree", "_law_state", "_law_path_here", "_law_keeps", "_law_paths", "_law_howmany", "_law_block", "_law_due", "_law_handed"] ["_law_pool_here", "_law_store", "_law_tree", "_law_state", "_law_path_here", "_law_keeps"] (defScope sLPut) := ⟨rfl, rfl, rfl, by decide +kernel, rfl, by decide +kernel, by decide +kernel⟩
theorem scLHeld : FnScope ["_law_pool_here", "_law_store", "_law_state", "_law_howmany", "_law_mine", "_law_blocks", "_law_block", "_law_path_here"] ["_law_pool_here", "_law_store", "_law_state"] (defScope sLHeld) := ⟨rfl, rfl, rfl, by decide +kernel, rfl, by decide +kernel, by decide +kernel⟩
theorem scLStay : FnScope ["_law_store", "_law_state", "_law_path_here", "_law_told", "_law_k"] ["_law_store", "_law_state"] (defScope sLStay) := ⟨rfl, rfl, rfl, by decide +kernel, rfl, by decide +kernel, by decide +kernel⟩
theorem scLaw : FnScope ["_law_script", "_law_pool_here", "_law_state", "_law_k", "_law_store", "_law_tree", "_law_way", "_law_path_here"] ["_law_script"] (defScope sLaw) := ⟨rfl, rfl, rfl, by decide +kernel, rfl, by decide +kernel, by decide +kernel⟩
/-- where the defs and the classes stand -/
structure Tx where
  T : Addr
  S : Addr
  free : Addr
  tInit : Addr
  tInitD : FuncData
  tBeg : Addr
  tBegD : FuncData
  tUse : Addr
  tUseD : FuncData
  tKnown : Addr
  tKnownD : FuncData
  tPut : Addr
  tPutD : FuncData
  tEnds : Addr
  tEndsD : FuncData
  tOldest : Addr
  tOldestD : FuncData
  tDrop : Addr
  tDropD : FuncData
  tLen : Addr
  tLenD : FuncData
  tIter : Addr
  tIterD : FuncData
  btw : Addr
  btwD : FuncData
  sInit : Addr
  sInitD : FuncData
  sFree : Addr
  sFreeD : FuncData
  sHeld : Addr
  sHeldD : FuncData
  sAlone : Addr
  sAloneD : FuncData
  sTake : Addr
  sTakeD : FuncData
  sHold : Addr
  sHoldD : FuncData
  sRel : Addr
  sRelD : FuncData
  sRow : Addr
  sRowD : FuncData
  sRows : Addr
  sRowsD : FuncData
  sHolders : Addr
  sHoldersD : FuncData
  lPool : Addr
  lPoolD : FuncData
  lDraw : Addr
  lDrawD : FuncData
  lSame : Addr
  lSameD : FuncData
  lNew : Addr
  lNewD : FuncData
  lPath : Addr
  lPathD : FuncData
  lLetters : Addr
  lLettersD : FuncData
  lRow : Addr
  lRowD : FuncData
  lUses : Addr
  lUsesD : FuncData
  lKnown : Addr
  lKnownD : FuncData
  lRel : Addr
  lRelD : FuncData
  lDropped : Addr
  lDroppedD : FuncData
  lAs : Addr
  lAsD : FuncData
  lFilled : Addr
  lFilledD : FuncData
  lShown : Addr
  lShownD : FuncData
  lPut : Addr
  lPutD : FuncData
  lHeld : Addr
  lHeldD : FuncData
  lStay : Addr
  lStayD : FuncData
  law : Addr
  lawD : FuncData
/-- what the top has written -/
structure Txt (K : PySem.W.Frag) (mg : Str → Option Value) (t : Tx) : Prop where
  clT : Cls K t.T
  clS : Cls K t.S
  mgT : mg "Tree" = some (.ref t.T)
  mgS : mg "Store" = some (.ref t.S)
  mb : ∃ tk, mg "MOST_BLOCKS" = some (.int 60 tk)
  mr : ∃ tk, mg "MOST_ROWS" = some (.int 8 tk)
  nT_store : NoAttr K t.T "store"
  nT_paths : NoAttr K t.T "paths"
  nT_under : NoAttr K t.T "under"
  nT_used : NoAttr K t.T "used"
  nT_clock : NoAttr K t.T "clock"
  nS_many : NoAttr K t.S "many"
  nS_size : NoAttr K t.S "size"
  nS_counts : NoAttr K t.S "counts"
  nS_kept : NoAttr K t.S "kept"
  g_tuple : mg "tuple" = none
  g_len : mg "len" = none
  g_sorted : mg "sorted" = none
  g_iter : mg "iter" = none
  g_isinstance : mg "isinstance" = none
  g_int : mg "int" = none
  g_bool : mg "bool" = none
  g_str : mg "str" = none
  g_range : mg "range" = none
  g_abs : mg "abs" = none
  g_min : mg "min" = none
  g_list : mg "list" = none
  g_sum : mg "sum" = none
  F_tInit : Fun K "__init__" "Tree.__init__" sTInit t.tInit t.tInitD
  b_tInit : Binds K t.tInitD ["self", "store"] []
  m_tInit : Mk K t.T t.tInit
  F_tBeg : Fun K "beginnings" "Tree.beginnings" sTBeg t.tBeg t.tBegD
  b_tBeg : Binds K t.tBegD ["self", "letters"] []
  m_tBeg : Meth K t.T "beginnings" t.tBeg
  F_tUse : Fun K "use" "Tree.use" sTUse t.tUse t.tUseD
  b_tUse : Binds K t.tUseD ["self", "paths"] []
  m_tUse : Meth K t.T "use" t.tUse
  F_tKnown : Fun K "known" "Tree.known" sTKnown t.tKnown t.tKnownD
  b_tKnown : Binds K t.tKnownD ["self", "letters"] []
  m_tKnown : Meth K t.T "known" t.tKnown
  F_tPut : Fun K "put" "Tree.put" sTPut t.tPut t.tPutD
  b_tPut : Binds K t.tPutD ["self", "path", "block"] []
  m_tPut : Meth K t.T "put" t.tPut
  F_tEnds : Fun K "ends_of" "Tree.ends_of" sTEnds t.tEnds t.tEndsD
  b_tEnds : Binds K t.tEndsD ["self", "paths"] []
  m_tEnds : Meth K t.T "ends_of" t.tEnds
  F_tOldest : Fun K "oldest_of" "Tree.oldest_of" sTOldest t.tOldest t.tOldestD
  b_tOldest : Binds K t.tOldestD ["self", "paths"] []
  m_tOldest : Meth K t.T "oldest_of" t.tOldest
  F_tDrop : Fun K "drop" "Tree.drop" sTDrop t.tDrop t.tDropD
  b_tDrop : Binds K t.tDropD ["self"] []
  m_tDrop : Meth K t.T "drop" t.tDrop
  F_tLen : Fun K "__len__" "Tree.__len__" sTLen t.tLen t.tLenD
  b_tLen : Binds K t.tLenD ["self"] []
  m_tLen : Meth K t.T "__len__" t.tLen
  F_tIter : Fun K "__iter__" "Tree.__iter__" sTIter t.tIter t.tIterD
  b_tIter : Binds K t.tIterD ["self"] []
  m_tIter : Meth K t.T "__iter__" t.tIter
  F_btw : Fun K "is_between" "is_between" sBtw t.btw t.btwD
  b_btw : Binds K t.btwD ["value", "least", "most"] []
  m_btw : mg "is_between" = some (.ref t.btw)
  F_sInit : Fun K "__init__" "Store.__init__" sSInit t.sInit t.sInitD
  b_sInit : Binds K t.sInitD ["self", "many", "size"] []
  m_sInit : Mk K t.S t.sInit
  F_sFree : Fun K "free" "Store.free" sSFree t.sFree t.sFreeD
  b_sFree : Binds K t.sFreeD ["self"] []
  m_sFree : PropOf K t.S "free" t.free t.sFree
  F_sHeld : Fun K "check_held" "Store.check_held" sSHeld t.sHeld t.sHeldD
  b_sHeld : Binds K t.sHeldD ["self", "block"] []
  m_sHeld : Meth K t.S "check_held" t.sHeld
  F_sAlone : Fun K "check_alone" "Store.check_alone" sSAlone t.sAlone t.sAloneD
  b_sAlone : Binds K t.sAloneD ["self", "block"] []
  m_sAlone : Meth K t.S "check_alone" t.sAlone
  F_sTake : Fun K "take" "Store.take" sSTake t.sTake t.sTakeD
  b_sTake : Binds K t.sTakeD ["self"] []
  m_sTake : Meth K t.S "take" t.sTake
  F_sHold : Fun K "hold" "Store.hold" sSHold t.sHold t.sHoldD
  b_sHold : Binds K t.sHoldD ["self", "block"] []
  m_sHold : Meth K t.S "hold" t.sHold
  F_sRel : Fun K "release" "Store.release" sSRel t.sRel t.sRelD
  b_sRel : Binds K t.sRelD ["self", "block"] []
  m_sRel : Meth K t.S "release" t.sRel
  F_sRow : Fun K "put_row" "Store.put_row" sSRow t.sRow t.sRowD
  b_sRow : Binds K t.sRowD ["self", "block", "row"] []
  m_sRow : Meth K t.S "put_row" t.sRow
  F_sRows : Fun K "rows" "Store.rows" sSRows t.sRows t.sRowsD
  b_sRows : Binds K t.sRowsD ["self", "block"] []
  m_sRows : Meth K t.S "rows" t.sRows
  F_sHolders : Fun K "holders" "Store.holders" sSHolders t.sHolders t.sHoldersD
  b_sHolders : Binds K t.sHoldersD ["self", "block"] []
  m_sHolders : Meth K t.S "holders" t.sHolders
  F_lPool : Fun K "_law_pool" "_law_pool" sLPool t.lPool t.lPoolD
  b_lPool : Binds K t.lPoolD ["_law_script", "_law_many"] []
  m_lPool : mg "_law_pool" = some (.ref t.lPool)
  F_lDraw : Fun K "_law_draw" "_law_draw" sLDraw t.lDraw t.lDrawD
  b_lDraw : Binds K t.lDrawD ["_law_pool_here", "_law_many"] []
  m_lDraw : mg "_law_draw" = some (.ref t.lDraw)
  F_lSame : Fun K "_law_same" "_law_same" sLSame t.lSame t.lSameD
  b_lSame : Binds K t.lSameD ["_law_told", "_law_due"] []
  m_lSame : mg "_law_same" = some (.ref t.lSame)
  F_lNew : Fun K "_law_new" "_law_new" sLNew t.lNew t.lNewD
  b_lNew : Binds K t.lNewD ["_law_pool_here", "_law_size"] []
  m_lNew : mg "_law_new" = some (.ref t.lNew)
  F_lPath : Fun K "_law_path" "_law_path" sLPath t.lPath t.lPathD
  b_lPath : Binds K t.lPathD ["_law_pool_here", "_law_state"] []
  m_lPath : mg "_law_path" = some (.ref t.lPath)
  F_lLetters : Fun K "_law_letters" "_law_letters" sLLetters t.lLetters t.lLettersD
  b_lLetters : Binds K t.lLettersD ["_law_pool_here", "_law_state", "_law_many"] []
  m_lLetters : mg "_law_letters" = some (.ref t.lLetters)
  F_lRow : Fun K "_law_row" "_law_row" sLRow t.lRow t.lRowD
  b_lRow : Binds K t.lRowD ["_law_state", "_law_letters_here", "_law_k"] []
  m_lRow : mg "_law_row" = some (.ref t.lRow)
  F_lUses : Fun K "_law_uses" "_law_uses" sLUses t.lUses t.lUsesD
  b_lUses : Binds K t.lUsesD ["_law_state", "_law_path_here"] []
  m_lUses : mg "_law_uses" = some (.ref t.lUses)
  F_lKnown : Fun K "_law_known" "_law_known" sLKnown t.lKnown t.lKnownD
  b_lKnown : Binds K t.lKnownD ["_law_state", "_law_letters_here"] []
  m_lKnown : mg "_law_known" = some (.ref t.lKnown)
  F_lRel : Fun K "_law_release" "_law_release" sLRel t.lRel t.lRelD
  b_lRel : Binds K t.lRelD ["_law_state", "_law_block"] []
  m_lRel : mg "_law_release" = some (.ref t.lRel)
  F_lDropped : Fun K "_law_dropped" "_law_dropped" sLDropped t.lDropped t.lDroppedD
  b_lDropped : Binds K t.lDroppedD ["_law_state"] []
  m_lDropped : mg "_law_dropped" = some (.ref t.lDropped)
  F_lAs : Fun K "_law_as" "_law_as" sLAs t.lAs t.lAsD
  b_lAs : Binds K t.lAsD ["_law_pool_here", "_law_row_here"] []
  m_lAs : mg "_law_as" = some (.ref t.lAs)
  F_lFilled : Fun K "_law_filled" "_law_filled" sLFilled t.lFilled t.lFilledD
  b_lFilled : Binds K t.lFilledD ["_law_store", "_law_state", "_law_letters_here"] []
  m_lFilled : mg "_law_filled" = some (.ref t.lFilled)
  F_lShown : Fun K "_law_shown" "_law_shown" sLShown t.lShown t.lShownD
  b_lShown : Binds K t.lShownD ["_law_store", "_law_tree", "_law_state"] []
  m_lShown : mg "_law_shown" = some (.ref t.lShown)
  F_lPut : Fun K "_law_put" "_law_put" sLPut t.lPut t.lPutD
  b_lPut : Binds K t.lPutD ["_law_pool_here", "_law_store", "_law_tree", "_law_state", "_law_path_here", "_law_keeps"] []
  m_lPut : mg "_law_put" = some (.ref t.lPut)
  F_lHeld : Fun K "_law_held" "_law_held" sLHeld t.lHeld t.lHeldD
  b_lHeld : Binds K t.lHeldD ["_law_pool_here", "_law_store", "_law_state"] []
  m_lHeld : mg "_law_held" = some (.ref t.lHeld)
  F_lStay : Fun K "_law_rows_stay" "_law_rows_stay" sLStay t.lStay t.lStayD
  b_lStay : Binds K t.lStayD ["_law_store", "_law_state"] []
  m_lStay : mg "_law_rows_stay" = some (.ref t.lStay)
  F_law : Fun K "law" "law" sLaw t.law t.lawD
  b_law : Binds K t.lawD ["_law_script"] []
  m_law : mg "law" = some (.ref t.law)
end K23
namespace K23
open PySem L2

/-! ### paths and the tables over them -/
abbrev Path := List Int
abbrev Tab := List (Path × Int)
def kp (p : Path) : List L2.Key := p.map Sum.inl
theorem kp_inj : ∀ {p q : Path}, kp p = kp q → p = q
  | [], [], _ => rfl
  | [], _ :: _, e => nomatch e
  | _ :: _, [], e => nomatch e
  | a :: p, b :: q, e => by
    have e' : (Sum.inl a : L2.Key) :: kp p = Sum.inl b :: kp q := e
    injection e' with e1 e2
    injection e1 with e3
    rw [e3, kp_inj e2]
theorem kp_eq {p q : Path} : kp p = kp q ↔ p = q := ⟨kp_inj, fun e => by rw [e]⟩
theorem kp_V (p : Path) : (kp p).map kV = p.map V.int := by
  unfold kp
  rw [List.map_map]
  rfl
def enc (m : Tab) : List (List L2.Key × V) := m.map fun e => (kp e.1, V.int e.2)
def keys (m : Tab) : List Path := m.map fun e => e.1
def look (m : Tab) (p : Path) : Option Int := (m.find? fun e => decide (e.1 = p)).map fun e => e.2
def put (m : Tab) (p : Path) (v : Int) : Tab := if (m.any fun e => decide (e.1 = p)) = true then m.map (fun e => if e.1 = p then (e.1, v) else e) else m ++ [(p, v)]
def drop (m : Tab) (p : Path) : Tab := m.filter fun e => decide (e.1 ≠ p)
theorem look_nil (p : Path) : look [] p = none := rfl
theorem look_pos {e : Path × Int} {m : Tab} {p : Path} (h : e.1 = p) : look (e :: m) p = some e.2 := by simp [look, h]
theorem look_neg {e : Path × Int} {m : Tab} {p : Path} (h : ¬ e.1 = p) : look (e :: m) p = look m p := by simp [look, h]
theorem enc_look (m : Tab) (p : Path) : valV (enc m) (kp p) = (look m p).map V.int := by
  induction m with
  | nil => rfl
  | cons e m ih =>
    by_cases h : e.1 = p
    · rw [look_pos h]
      exact valV_pos (p := (kp e.1, V.int e.2)) (show kp e.1 = kp p by rw [h])
    · rw [look_neg h]
      exact (valV_neg (p := (kp e.1, V.int e.2)) (fun z => h (kp_inj z))).trans ih
theorem enc_put (m : Tab) (p : Path) (v : Int) : putK (enc m) (kp p) (.int v) = enc (put m p v) := by
  have e1 : ((enc m).any fun kv => decide (kv.1 = kp p)) = m.any fun e => decide (e.1 = p) := by
    unfold enc
    rw [List.any_map]
    congr 1
    funext e
    show decide (kp e.1 = kp p) = decide (e.1 = p)
    exact decide_eq_decide.mpr kp_eq
  unfold putK put
  rw [e1]
  by_cases h : (m.any fun e => decide (e.1 = p)) = true
  · rw [if_pos h, if_pos h]
    unfold enc
    rw [List.map_map, List.map_map]
    apply List.map_congr_left
    intro e _
    show (if kp e.1 = kp p then (kp e.1, V.int v) else (kp e.1, V.int e.2)) = (kp (if e.1 = p then (e.1, v) else e).1, V.int (if e.1 = p then (e.1, v) else e).2)
    by_cases z : e.1 = p
    · rw [if_pos z, if_pos (by rw [z])]
    · rw [if_neg z, if_neg fun y => z (kp_inj y)]
  · rw [if_neg h, if_neg h]
    unfold enc
    rw [List.map_append]
    rfl
theorem enc_drop (m : Tab) (p : Path) : dropK (enc m) (kp p) = enc (drop m p) := by
  unfold dropK drop enc
  rw [List.filter_map]
  congr 1
  apply List.filter_congr
  intro e _
  show decide (kp e.1 ≠ kp p) = decide (e.1 ≠ p)
  exact decide_eq_decide.mpr (not_congr kp_eq)
theorem enc_keys (m : Tab) : (enc m).map (·.1) = (keys m).map (List.map Sum.inl) := by
  unfold enc keys
  rw [List.map_map, List.map_map]
  rfl
theorem enc_length (m : Tab) : (enc m).length = m.length := List.length_map _
theorem look_some {m : Tab} {p : Path} {v : Int} (h : look m p = some v) : (p, v) ∈ m := by
  unfold look at h
  obtain ⟨e, h1, h2⟩ := Option.map_eq_some_iff.mp h
  have h3 := List.find?_some h1
  have h4 := List.mem_of_find?_eq_some h1
  have h5 : e.1 = p := of_decide_eq_true h3
  rw [← h5, ← h2]
  exact h4
theorem look_isSome {m : Tab} {p : Path} : (look m p).isSome = true ↔ p ∈ keys m := by
  constructor
  · intro h
    obtain ⟨v, e⟩ := Option.isSome_iff_exists.mp h
    exact List.mem_map.mpr ⟨_, look_some e, rfl⟩
  · intro h
    obtain ⟨e, h1, h2⟩ := List.mem_map.mp h
    unfold look
    rw [Option.isSome_map, List.find?_isSome]
    exact ⟨e, h1, decide_eq_true h2⟩
theorem look_none {m : Tab} {p : Path} : look m p = none ↔ p ∉ keys m := by
  rw [← look_isSome]
  cases look m p <;> simp
theorem look_of_mem {m : Tab} (nd : (keys m).Nodup) {p : Path} {v : Int} (h : (p, v) ∈ m) : look m p = some v := by
  induction m with
  | nil => exact nomatch h
  | cons e m ih =>
    have nd' : (e.1 :: keys m).Nodup := nd
    obtain ⟨n1, n2⟩ := List.nodup_cons.mp nd'
    rcases List.mem_cons.mp h with rfl | h
    · exact look_pos rfl
    · have ne : ¬ e.1 = p := fun z => n1 (by rw [z]; exact List.mem_map.mpr ⟨_, h, rfl⟩)
      rw [look_neg ne]
      exact ih n2 h
theorem look_snoc (m : Tab) (p q : Path) (v : Int) (h : look m p = none) : look (m ++ [(p, v)]) q = if q = p then some v else look m q := by
  induction m with
  | nil =>
    by_cases z : q = p
    · rw [if_pos z]
      exact look_pos z.symm
    · rw [if_neg z]
      exact look_neg fun y => z y.symm
  | cons e m ih =>
    have np : ¬ e.1 = p := fun z => by
      rw [look_pos z] at h
      cases h
    rw [look_neg np] at h
    show look (e :: (m ++ [(p, v)])) q = _
    by_cases z : e.1 = q
    · rw [look_pos z, look_pos z, if_neg fun y => np (z.trans y)]
    · rw [look_neg z, look_neg z]
      exact ih h
theorem put_new {m : Tab} {p : Path} {v : Int} (h : look m p = none) : put m p v = m ++ [(p, v)] := by
  have n : ¬ (m.any fun e => decide (e.1 = p)) = true := fun z => by
    obtain ⟨e, h1, h2⟩ := List.any_eq_true.mp z
    exact look_none.mp h (List.mem_map.mpr ⟨e, h1, of_decide_eq_true h2⟩)
  unfold put
  rw [if_neg n]
theorem look_repl (m : Tab) (p q : Path) (v : Int) : look (m.map fun e => if e.1 = p then (e.1, v) else e) q = if q = p then (look m q).map (fun _ => v) else look m q := by
  induction m with
  | nil =>
    show none = if q = p then none else none
    rw [ite_self]
  | cons e m ih =>
    rw [List.map_cons]
    have e1 : (if e.1 = p then (e.1, v) else e).1 = e.1 := by
      by_cases z : e.1 = p
      · rw [if_pos z]
      · rw [if_neg z]
    by_cases y : e.1 = q
    · rw [look_pos (e1.trans y), look_pos y]
      by_cases z : e.1 = p
      · rw [if_pos z, if_pos (y.symm.trans z)]
        rfl
      · rw [if_neg z, if_neg fun u => z (y.trans u)]
    · rw [look_neg (by rw [e1]; exact y), look_neg y]
      exact ih
theorem look_put (m : Tab) (p q : Path) (v : Int) : look (put m p v) q = if q = p then some v else look m q := by
  cases h : look m p with
  | none => rw [put_new h, look_snoc m p q v h]
  | some w =>
    have n : (m.any fun e => decide (e.1 = p)) = true := by
      refine List.any_eq_true.mpr ⟨_, look_some h, ?_⟩
      exact decide_eq_true rfl
    unfold put
    rw [if_pos n, look_repl]
    by_cases z : q = p
    · rw [if_pos z, if_pos z, z, h]
      rfl
    · rw [if_neg z, if_neg z]
theorem put_length (m : Tab) (p : Path) (v : Int) : (put m p v).length ≤ m.length + 1 := by
  unfold put
  split
  · rw [List.length_map]
    omega
  · rw [List.length_append]
    exact Nat.le_refl _
theorem drop_length (m : Tab) (p : Path) : (drop m p).length ≤ m.length := List.length_filter_le _ _
theorem look_drop (m : Tab) (p q : Path) : look (drop m p) q = if q = p then none else look m q := by
  induction m with
  | nil =>
    show none = if q = p then none else none
    rw [ite_self]
  | cons e m ih =>
    unfold drop
    by_cases y : e.1 = p
    · rw [List.filter_cons_of_neg (by simp [y])]
      refine ih.trans ?_
      by_cases z : q = p
      · rw [if_pos z, if_pos z]
      · rw [if_neg z, if_neg z, look_neg fun u => z (u.symm.trans y)]
    · rw [List.filter_cons_of_pos (by simp [y])]
      by_cases z : e.1 = q
      · rw [look_pos z, look_pos z, if_neg fun u => y (z.trans u)]
      · rw [look_neg z, look_neg z]
        exact ih
theorem drop_keys (m : Tab) (p : Path) : keys (drop m p) = (keys m).filter fun q => decide (q ≠ p) := by
  unfold keys drop
  rw [List.filter_map]
  rfl
def putAll (u : Tab) (ps : List Path) (c : Int) : Tab := ps.foldl (fun u p => put u p c) u
theorem look_putAll (c : Int) (q : Path) : ∀ (ps : List Path) (u : Tab), look (putAll u ps c) q = if q ∈ ps then some c else look u q
  | [], u => by
    rw [if_neg (by simp)]
    rfl
  | p :: ps, u => by
    show look (putAll (put u p c) ps c) q = _
    rw [look_putAll c q ps, look_put]
    by_cases h : q ∈ ps
    · rw [if_pos h, if_pos (List.mem_cons_of_mem _ h)]
    · rw [if_neg h]
      by_cases z : q = p
      · rw [if_pos z, if_pos (by rw [z]; exact List.mem_cons_self)]
      · rw [if_neg z, if_neg]
        intro y
        rcases List.mem_cons.mp y with y | y
        · exact z y
        · exact h y
theorem putAll_length (c : Int) : ∀ (ps : List Path) (u : Tab), (putAll u ps c).length ≤ u.length + ps.length
  | [], u => Nat.le_refl _
  | p :: ps, u => by
    have h1 := putAll_length c ps (put u p c)
    have h2 := put_length u p c
    show (putAll (put u p c) ps c).length ≤ _
    rw [List.length_cons]
    omega
theorem putAll_snoc (u : Tab) (ps : List Path) (p : Path) (c : Int) : putAll u (ps ++ [p]) c = put (putAll u ps c) p c := by
  unfold putAll
  rw [List.foldl_append]
  rfl

/-! ### beginnings -/
def pre (sz : Nat) (ls : Path) (j : Nat) : Path := ls.take (j * sz)
def pres (sz : Nat) (ls : Path) (n : Nat) : List Path := (List.range n).map fun j => pre sz ls (j + 1)
theorem pres_zero (sz : Nat) (ls : Path) : pres sz ls 0 = [] := rfl
theorem pres_succ (sz : Nat) (ls : Path) (n : Nat) : pres sz ls (n + 1) = pres sz ls n ++ [pre sz ls (n + 1)] := by
  unfold pres
  rw [List.range_succ, List.map_append]
  rfl
theorem pres_length (sz : Nat) (ls : Path) (n : Nat) : (pres sz ls n).length = n := by
  unfold pres
  rw [List.length_map, List.length_range]
theorem mem_pres {sz : Nat} {ls : Path} {n : Nat} {p : Path} : p ∈ pres sz ls n ↔ ∃ j, j < n ∧ p = pre sz ls (j + 1) := by
  unfold pres
  rw [List.mem_map]
  constructor
  · rintro ⟨j, h, e⟩
    exact ⟨j, List.mem_range.mp h, e.symm⟩
  · rintro ⟨j, h, e⟩
    exact ⟨j, List.mem_range.mpr h, e.symm⟩
/-- n is how many beginnings of whole blocks of ls stand in m, one after the other -/
structure IsBeg (sz : Nat) (m : Tab) (ls : Path) (n : Nat) : Prop where
  all : ∀ j, j < n → (j + 1) * sz ≤ ls.length ∧ (look m (pre sz ls (j + 1))).isSome = true
  stop : ¬ ((n + 1) * sz ≤ ls.length ∧ (look m (pre sz ls (n + 1))).isSome = true)
theorem beg_exists (sz : Nat) (hs : 1 ≤ sz) (m : Tab) (ls : Path) : ∃ n, IsBeg sz m ls n := by
  have key : ∀ k n, ls.length < (n + k) * sz → (∀ j, j < n → (j + 1) * sz ≤ ls.length ∧ (look m (pre sz ls (j + 1))).isSome = true) → ∃ n, IsBeg sz m ls n := by
    intro k
    induction k with
    | zero =>
      intro n h all
      refine ⟨n, all, fun z => ?_⟩
      have h1 : (n + 0) * sz ≤ (n + 1) * sz := Nat.mul_le_mul_right sz (by omega)
      omega
    | succ k ih =>
      intro n h all
      by_cases z : (n + 1) * sz ≤ ls.length ∧ (look m (pre sz ls (n + 1))).isSome = true
      · refine ih (n + 1) (by rw [show n + 1 + k = n + (k + 1) by omega]; exact h) fun j hj => ?_
        by_cases e : j < n
        · exact all j e
        · have : j = n := by omega
          rw [this]
          exact z
      · exact ⟨n, all, z⟩
  refine key (ls.length + 1) 0 ?_ fun j hj => absurd hj (Nat.not_lt_zero j)
  have : (0 + (ls.length + 1)) * 1 ≤ (0 + (ls.length + 1)) * sz := Nat.mul_le_mul_left _ hs
  omega
theorem beg_le {sz : Nat} {m : Tab} {ls : Path} {n : Nat} (hs : 1 ≤ sz) (b : IsBeg sz m ls n) : n ≤ ls.length := by
  cases n with
  | zero => exact Nat.zero_le _
  | succ n =>
    have h := (b.all n (Nat.lt_succ_self n)).1
    have : (n + 1) * 1 ≤ (n + 1) * sz := Nat.mul_le_mul_left _ hs
    omega
theorem pre_length {sz : Nat} {ls : Path} {j : Nat} (h : j * sz ≤ ls.length) : (pre sz ls j).length = j * sz := by
  unfold pre
  rw [List.length_take]
  omega
theorem pre_pre {sz : Nat} {ls : Path} {i j : Nat} (h : i ≤ j) : pre sz (pre sz ls j) i = pre sz ls i := by
  unfold pre
  rw [List.take_take, Nat.min_eq_left (Nat.mul_le_mul_right sz h)]
/-- the tree: paths of whole blocks, each beginning among them -/
structure TreeOk (sz : Nat) (m : Tab) : Prop where
  nd : (keys m).Nodup
  len : ∀ p ∈ keys m, ∃ q, 1 ≤ q ∧ p.length = q * sz
  clo : ∀ p ∈ keys m, ∀ j, 1 ≤ j → j * sz ≤ p.length → pre sz p j ∈ keys m
theorem TreeOk.closed {sz : Nat} {m : Tab} {ls : Path} {n : Nat} (hs : 1 ≤ sz) (t : TreeOk sz m) (b : IsBeg sz m ls n) : ∀ j, n < j → j * sz ≤ ls.length → (look m (pre sz ls j)).isSome = false := by
  intro j hj hl
  cases e : (look m (pre sz ls j)).isSome with
  | false => rfl
  | true =>
    exfalso
    have hm := look_isSome.mp e
    have h1 : (n + 1) * sz ≤ j * sz := Nat.mul_le_mul_right sz (by omega)
    have h2 : (n + 1) * sz ≤ (pre sz ls j).length := by
      rw [pre_length hl]
      exact h1
    have h3 := t.clo _ hm (n + 1) (by omega) h2
    rw [pre_pre (by omega)] at h3
    exact b.stop ⟨by omega, look_isSome.mpr h3⟩
theorem TreeOk.ne {sz : Nat} {m : Tab} (hs : 1 ≤ sz) (t : TreeOk sz m) : ∀ p ∈ keys m, p ≠ [] := by
  intro p hp e
  obtain ⟨q, h1, h2⟩ := t.len p hp
  rw [e] at h2
  have : 1 * 1 ≤ q * sz := Nat.mul_le_mul h1 hs
  simp at h2
  omega

/-! ### leaves -/
/-- p without its last block -/
def ahd (sz : Nat) (p : Path) : Path := p.take (p.length - sz)
def leaf (sz : Nat) (ps : List Path) (p : Path) : Bool := !decide (p ∈ ps.map (ahd sz))
theorem leaf_iff {sz : Nat} {m : Tab} (hs : 1 ≤ sz) (t : TreeOk sz m) {ps : List Path} (hp : ∀ p, p ∈ ps ↔ p ∈ keys m) {p : Path} (h : p ∈ keys m) :
    leaf sz ps p = true ↔ ∀ q ∈ keys m, ¬ (p.length < q.length ∧ q.take p.length = p) := by
  unfold leaf
  simp only [Bool.not_eq_true', decide_eq_false_iff_not, List.mem_map, not_exists, not_and]
  constructor
  · intro a q hq h1 h2
    obtain ⟨i, hi, ei⟩ := t.len p h
    obtain ⟨j, hj, ej⟩ := t.len q hq
    have hij : i < j := by
      have : i * sz < j * sz := by omega
      exact Nat.lt_of_mul_lt_mul_right this
    have hle : (i + 1) * sz ≤ q.length := by
      rw [ej]
      exact Nat.mul_le_mul_right sz hij
    have hm := t.clo q hq (i + 1) (by omega) hle
    refine a (pre sz q (i + 1)) ((hp _).mpr hm) ?_
    unfold ahd
    rw [pre_length hle]
    have e1 : (i + 1) * sz - sz = i * sz := by
      rw [Nat.succ_mul]
      omega
    rw [e1]
    unfold pre
    rw [List.take_take, Nat.min_eq_left (Nat.mul_le_mul_right sz (Nat.le_succ i)), ← ei]
    exact h2
  · intro a q hq e
    have hq' := (hp q).mp hq
    obtain ⟨j, hj, ej⟩ := t.len q hq'
    have hjs : 1 * 1 ≤ j * sz := Nat.mul_le_mul hj hs
    have hsz : sz ≤ q.length := by
      rw [ej]
      have := Nat.mul_le_mul_right sz hj
      omega
    have el : p.length = q.length - sz := by
      rw [← e]
      unfold ahd
      rw [List.length_take]
      omega
    refine a q hq' (by omega) ?_
    rw [el]
    exact e
/-- the first of those with the least u -/
def least (u : Path → Int) (b : Option Path) (p : Path) : Option Path := match b with
  | none => some p
  | some q => if u p < u q then some p else some q
def argm (u : Path → Int) (ps : List Path) : Option Path := ps.foldl (least u) none
theorem argm_snoc (u : Path → Int) (ps : List Path) (p : Path) : argm u (ps ++ [p]) = least u (argm u ps) p := by
  unfold argm
  rw [List.foldl_append]
  rfl
theorem least_some (u : Path → Int) (b : Option Path) (p : Path) : ∃ q, least u b p = some q := by
  cases b with
  | none => exact ⟨p, rfl⟩
  | some q =>
    unfold least
    by_cases h : u p < u q
    · exact ⟨p, if_pos h⟩
    · exact ⟨q, if_neg h⟩
theorem argm_mem (u : Path → Int) : ∀ {ps : List Path} {q : Path}, argm u ps = some q → q ∈ ps := by
  intro ps
  have key : ∀ (ps : List Path) (b : Option Path) (q : Path), ps.foldl (least u) b = some q → q ∈ ps ∨ b = some q := by
    intro ps
    induction ps with
    | nil =>
      intro b q h
      exact .inr h
    | cons p ps ih =>
      intro b q h
      rcases ih (least u b p) q h with h | h
      · exact .inl (List.mem_cons_of_mem _ h)
      · cases b with
        | none =>
          have e : some p = some q := h
          cases e
          exact .inl List.mem_cons_self
        | some r =>
          have e : (if u p < u r then some p else some r) = some q := h
          by_cases z : u p < u r
          · rw [if_pos z] at e
            cases e
            exact .inl List.mem_cons_self
          · rw [if_neg z] at e
            exact .inr e
  intro q h
  rcases key ps none q h with h | h
  · exact h
  · cases h
theorem argm_none {u : Path → Int} {ps : List Path} : argm u ps = none ↔ ps = [] := by
  constructor
  · intro h
    rcases List.eq_nil_or_concat ps with e | ⟨qs, p, e⟩
    · exact e
    · rw [e, List.concat_eq_append, argm_snoc] at h
      obtain ⟨q, hq⟩ := least_some u (argm u qs) p
      rw [hq] at h
      cases h
  · intro h
    rw [h]
    rfl
theorem argm_congr {u v : Path → Int} {ps : List Path} (h : ∀ p ∈ ps, u p = v p) : argm u ps = argm v ps := by
  have key : ∀ (ps : List Path) (b : Option Path), (∀ p ∈ ps, u p = v p) → (∀ q, b = some q → u q = v q) → ps.foldl (least u) b = ps.foldl (least v) b := by
    intro ps
    induction ps with
    | nil =>
      intro b _ _
      rfl
    | cons p ps ih =>
      intro b h hb
      have hp := h p List.mem_cons_self
      have e : least u b p = least v b p := by
        cases b with
        | none => rfl
        | some q =>
          show (if u p < u q then some p else some q) = (if v p < v q then some p else some q)
          rw [hp, hb q rfl]
      show ps.foldl (least u) (least u b p) = ps.foldl (least v) (least v b p)
      rw [← e]
      refine ih _ (fun q hq => h q (List.mem_cons_of_mem _ hq)) fun q hq => ?_
      cases b with
      | none =>
        have e' : some p = some q := hq
        cases e'
        exact hp
      | some r =>
        have e' : (if u p < u r then some p else some r) = some q := hq
        by_cases z : u p < u r
        · rw [if_pos z] at e'
          cases e'
          exact hp
        · rw [if_neg z] at e'
          cases e'
          exact hb _ rfl
  exact key ps none h fun q hq => nomatch hq
/-- the head beside itself changes nothing -/
theorem argm_head (u : Path → Int) (p : Path) (ps : List Path) : (p :: ps).foldl (least u) (some p) = argm u (p :: ps) := by
  show ps.foldl (least u) (least u (some p) p) = ps.foldl (least u) (least u none p)
  have e : least u (some p) p = some p := by
    show (if u p < u p then some p else some p) = some p
    rw [if_neg (Int.lt_irrefl _)]
  rw [e]
  rfl

/-! ### sorted lists of paths -/
theorem sorted_eq {l l' : List Path} (p : l.Perm l') (s : l.Pairwise (· ≤ ·)) (s' : l'.Pairwise (· ≤ ·)) : l = l' :=
  p.eq_of_pairwise (fun a b _ _ h1 h2 => List.le_antisymm h1 h2) s s'
end K23
namespace K23
open PySem L2

/-! ### where things stand -/
/-- the thirteen objects that stay where they are: 0 the store, 1 the law's state, 2 counts, 3 kept, 4 the tree, 5 under, 6 used, 7 the law's tree, 8 its used, 9 holders, 10 clock, 11 mine, 12 the pool -/
structure Ad where
  a : Nat → Addr
  many : Nat
  size : Nat
  lets : Nat
structure Ad.Ok (A : Ad) : Prop where
  inj : ∀ i j, i < 13 → j < 13 → A.a i = A.a j → i = j
  m1 : 1 ≤ A.many
  m2 : A.many ≤ 20
  s1 : 1 ≤ A.size
  s2 : A.size ≤ 8
  l1 : 1 ≤ A.lets
  l2 : A.lets ≤ 12
theorem Ad.Ok.ne {A : Ad} (k : A.Ok) (i j : Nat) (hi : i < 13 := by decide) (hj : j < 13 := by decide) (h : i ≠ j := by decide) : A.a i ≠ A.a j := fun e => h (k.inj i j hi hj e)
/-- p is none of them -/
def New (A : Ad) (p : Addr) : Prop := ∀ i, i < 13 → p ≠ A.a i
def Live (A : Ad) (H : Hp) : Prop := ∀ i, i < 13 → ∃ o, H (A.a i) = some o
theorem Live.new {A : Ad} {H : Hp} {p : Addr} (l : Live A H) (h : H p = none) : New A p := fun i hi e => by
  obtain ⟨o, ho⟩ := l i hi
  rw [← e, h] at ho
  cases ho
/-- what stood stands, but for the objects of I -/
structure Fr (A : Ad) (I : List Nat) (H H' : Hp) : Prop where
  keep : ∀ b o, H b = some o → (∀ i ∈ I, b ≠ A.a i) → H' b = some o
  tup : ∀ b xs, H b = some (.tup xs) → H' b = some (.tup xs)
  live : ∀ b o, H b = some o → ∃ o', H' b = some o'
theorem Fr.refl (A : Ad) (I : List Nat) (H : Hp) : Fr A I H H := ⟨fun _ _ e _ => e, fun _ _ e => e, fun _ o e => ⟨o, e⟩⟩
theorem Fr.trans {A : Ad} {I : List Nat} {H H1 H2 : Hp} (x : Fr A I H H1) (y : Fr A I H1 H2) : Fr A I H H2 :=
  ⟨fun b o e h => y.keep b o (x.keep b o e h) h, fun b xs e => y.tup b xs (x.tup b xs e), fun b o e => let ⟨u, h⟩ := x.live b o e; y.live b u h⟩
theorem Fr.mono {A : Ad} {I J : List Nat} {H H' : Hp} (x : Fr A I H H') (h : ∀ i ∈ I, i ∈ J := by decide) : Fr A J H H' := ⟨fun b o e k => x.keep b o e fun i hi => k i (h i hi), x.tup, x.live⟩
/-- one after the other, another set each -/
theorem Fr.and {A : Ad} {I J L : List Nat} {H H1 H2 : Hp} (x : Fr A I H H1) (y : Fr A J H1 H2) (h : ∀ i ∈ I, i ∈ L := by decide) (h' : ∀ i ∈ J, i ∈ L := by decide) : Fr A L H H2 := (x.mono h).trans (y.mono h')
theorem Fr.new {A : Ad} {I : List Nat} {H : Hp} {p : Addr} {o : HO} (h : H p = none) : Fr A I H (upd H p o) := by
  have k : ∀ b u, H b = some u → upd H p o b = some u := fun b u e => by
    rw [upd_ne (ne_of_none e h)]
    exact e
  exact ⟨fun b u e _ => k b u e, fun b xs e => k b _ e, fun b u e => ⟨u, k b u e⟩⟩
theorem Fr.same {A : Ad} {I : List Nat} {H H' : Hp} (h : Same H H') : Fr A I H H' := ⟨fun b u e _ => h b u e, fun b xs e => h b _ e, fun b u e => ⟨u, h b u e⟩⟩
def notTup : HO → Bool
  | .tup _ => false
  | _ => true
theorem Fr.upd {A : Ad} {H : Hp} {i : Nat} {o u : HO} (h : H (A.a i) = some o) (n : notTup o = true) : Fr A [i] H (upd H (A.a i) u) := by
  refine ⟨fun b v e k => ?_, fun b xs e => ?_, fun b v e => ?_⟩
  · rw [upd_ne (k i (List.mem_singleton.mpr rfl))]
    exact e
  · have ne : b ≠ A.a i := fun z => by
      rw [z, h] at e
      cases e
      cases n
    rw [upd_ne ne]
    exact e
  · by_cases z : b = A.a i
    · exact ⟨u, by rw [z, upd_same]⟩
    · exact ⟨v, by rw [upd_ne z]; exact e⟩
/-- a local object is written -/
theorem Fr.loc {A : Ad} {I : List Nat} {H H1 : Hp} {p : Addr} {u : HO} (x : Fr A I H H1) (h : H p = none) : Fr A I H (L2.upd H1 p u) := by
  refine ⟨fun b v e k => ?_, fun b xs e => ?_, fun b v e => ?_⟩
  · rw [upd_ne (ne_of_none e h)]
    exact x.keep b v e k
  · rw [upd_ne (ne_of_none e h)]
    exact x.tup b xs e
  · obtain ⟨w, hw⟩ := x.live b v e
    exact ⟨w, by rw [upd_ne (ne_of_none e h)]; exact hw⟩
theorem Fr.at {A : Ad} {I : List Nat} {H H' : Hp} (x : Fr A I H H') (k : A.Ok) (j : Nat) {o : HO} (e : H (A.a j) = some o) (hI : ∀ i ∈ I, i < 13 ∧ j ≠ i := by decide) (hj : j < 13 := by decide) : H' (A.a j) = some o :=
  x.keep _ _ e fun i hi z => (hI i hi).2 (k.inj j i hj (hI i hi).1 z)
theorem Fr.own {A : Ad} {I : List Nat} {H H' : Hp} (x : Fr A I H H') {p : Addr} {o : HO} (n : New A p) (e : H p = some o) (hI : ∀ i ∈ I, i < 13 := by decide) : H' p = some o := x.keep _ _ e fun i hi => n i (hI i hi)
theorem Fr.free {A : Ad} {I : List Nat} {H H' : Hp} (x : Fr A I H H') {p : Addr} (e : H' p = none) : H p = none := by
  cases h : H p with
  | none => rfl
  | some o =>
    obtain ⟨u, hu⟩ := x.live p o h
    rw [e] at hu
    cases hu
theorem Live.fr {A : Ad} {I : List Nat} {H H' : Hp} (l : Live A H) (x : Fr A I H H') : Live A H' := fun i hi => let ⟨o, e⟩ := l i hi; x.live _ o e

/-! ### tuples -/
/-- the tuples of these paths -/
def Tups (H : Hp) (bs : List AP') : Prop := ∀ b ∈ bs, H b.1 = some (.tup (b.2.map V.int))
theorem Tups.fr {A : Ad} {I : List Nat} {H H' : Hp} {bs : List AP'} (t : Tups H bs) (x : Fr A I H H') : Tups H' bs := fun b hb => x.tup _ _ (t b hb)
theorem Tups.snoc {H : Hp} {bs : List AP'} {b : AP'} (t : Tups H bs) (h : H b.1 = some (.tup (b.2.map V.int))) : Tups H (bs ++ [b]) := fun c hc => by
  rcases List.mem_append.mp hc with hc | hc
  · exact t c hc
  · rw [List.mem_singleton.mp hc]
    exact h
def refs (bs : List AP') : List V := bs.map fun b => V.ref b.1
theorem refs_get {bs : List AP'} {i : Nat} {x : V} (h : (refs bs)[i]? = some x) : ∃ b, bs[i]? = some b ∧ x = .ref b.1 := by
  unfold refs at h
  rw [List.getElem?_map] at h
  obtain ⟨b, h1, h2⟩ := Option.map_eq_some_iff.mp h
  exact ⟨b, h1, h2.symm⟩
theorem refs_len (bs : List AP') : (refs bs).length = bs.length := List.length_map _
/-- a row: ((), weights) -/
def RowAt (H : Hp) (a : Addr) (ws : List Int) : Prop := ∃ e w, H a = some (.tup [.ref e, .ref w]) ∧ H e = some (.tup []) ∧ H w = some (.tup (ws.map V.int))
theorem RowAt.fr {A : Ad} {I : List Nat} {H H' : Hp} {a : Addr} {ws : List Int} (r : RowAt H a ws) (x : Fr A I H H') : RowAt H' a ws := by
  obtain ⟨e, w, h1, h2, h3⟩ := r
  exact ⟨e, w, x.tup _ _ h1, x.tup _ _ h2, x.tup _ _ h3⟩

/-! ### the store -/
abbrev Kept := List (Addr × List AP')
def rowsOf (ks : Kept) : List (List (List Int)) := ks.map fun k => k.2.map fun r => r.2
def sf (A : Ad) : List (Str × V) := [("many", .int A.many), ("size", .int A.size), ("counts", .ref (A.a 2)), ("kept", .ref (A.a 3))]
def KeptAt (H : Hp) (ks : Kept) : Prop := ∀ k ∈ ks, H k.1 = some (.tup (refs k.2)) ∧ ∀ r ∈ k.2, RowAt H r.1 r.2
theorem KeptAt.fr {A : Ad} {I : List Nat} {H H' : Hp} {ks : Kept} (t : KeptAt H ks) (x : Fr A I H H') : KeptAt H' ks := fun k hk => ⟨x.tup _ _ (t k hk).1, fun r hr => ((t k hk).2 r hr).fr x⟩
structure StoreAt (C : Addr) (A : Ad) (H : Hp) (cs : List Int) (rs : List (List (List Int))) : Prop where
  ob : ∃ dx, H (A.a 0) = some (.ins C dx (sf A))
  co : H (A.a 2) = some (.lst (cs.map V.int))
  ke : ∃ ks : Kept, H (A.a 3) = some (.lst (ks.map fun k => V.ref k.1)) ∧ KeptAt H ks ∧ rowsOf ks = rs
  cl : cs.length = A.many
  rl : rs.length = A.many
theorem StoreAt.fr {C : Addr} {A : Ad} {I : List Nat} {H H' : Hp} {cs : List Int} {rs : List (List (List Int))} (s : StoreAt C A H cs rs) (k : A.Ok) (x : Fr A I H H') (h0 : ∀ i ∈ I, i < 13 ∧ 0 ≠ i := by decide) (h2 : ∀ i ∈ I, i < 13 ∧ 2 ≠ i := by decide)
    (h3 : ∀ i ∈ I, i < 13 ∧ 3 ≠ i := by decide) : StoreAt C A H' cs rs := by
  obtain ⟨dx, ho⟩ := s.ob
  obtain ⟨ks, h4, h5, h6⟩ := s.ke
  exact ⟨⟨dx, x.at k 0 ho h0⟩, x.at k 2 s.co h2, ⟨ks, x.at k 3 h4 h3, h5.fr x, h6⟩, s.cl, s.rl⟩

/-! ### the tree -/
def tf (A : Ad) (pa : Addr) (ck : Int) : List (Str × V) := [("store", .ref (A.a 0)), ("paths", .ref pa), ("under", .ref (A.a 5)), ("used", .ref (A.a 6)), ("clock", .int ck)]
structure TreeAt (C : Addr) (A : Ad) (H : Hp) (pa : List Path) (un ud : Tab) (ck : Int) : Prop where
  ob : ∃ dx l bs, H (A.a 4) = some (.ins C dx (tf A l ck)) ∧ H l = some (.lst (refs bs)) ∧ Tups H bs ∧ bs.map (fun b => b.2) = pa ∧ New A l
  un : H (A.a 5) = some (.dT (enc un))
  ud : H (A.a 6) = some (.dT (enc ud))
theorem TreeAt.fr {C : Addr} {A : Ad} {I : List Nat} {H H' : Hp} {pa : List Path} {un ud : Tab} {ck : Int} (s : TreeAt C A H pa un ud ck) (k : A.Ok) (x : Fr A I H H') (h4 : ∀ i ∈ I, i < 13 ∧ 4 ≠ i := by decide) (h5 : ∀ i ∈ I, i < 13 ∧ 5 ≠ i := by decide)
    (h6 : ∀ i ∈ I, i < 13 ∧ 6 ≠ i := by decide) : TreeAt C A H' pa un ud ck := by
  obtain ⟨dx, l, bs, g1, g2, g3, g4, g5⟩ := s.ob
  exact ⟨⟨dx, l, bs, x.at k 4 g1 h4, x.own g5 g2 (fun i hi => (h4 i hi).1), g3.fr x, g4, g5⟩, x.at k 5 s.un h5, x.at k 6 s.ud h6⟩

/-! ### the law's own state -/
def stK (A : Ad) : List (L2.Key × V) := [(.inr "size", .int A.size), (.inr "many", .int A.many), (.inr "letters", .int A.lets), (.inr "tree", .ref (A.a 7)), (.inr "used", .ref (A.a 8)), (.inr "holders", .ref (A.a 9)), (.inr "clock", .ref (A.a 10)), (.inr "mine", .ref (A.a 11))]
structure LawAt (A : Ad) (H : Hp) (tr us : Tab) (hs : List Int) (cl : Int) (mi : List Int) : Prop where
  st : H (A.a 1) = some (.dK (stK A))
  tr : H (A.a 7) = some (.dT (enc tr))
  us : H (A.a 8) = some (.dT (enc us))
  hs : H (A.a 9) = some (.lst (hs.map V.int))
  cl : H (A.a 10) = some (.lst [.int cl])
  mi : H (A.a 11) = some (.lst (mi.map V.int))
theorem LawAt.fr {A : Ad} {I : List Nat} {H H' : Hp} {tr us : Tab} {hs : List Int} {cl : Int} {mi : List Int} (s : LawAt A H tr us hs cl mi) (k : A.Ok) (x : Fr A I H H') (h1 : ∀ i ∈ I, i < 13 ∧ 1 ≠ i := by decide) (h7 : ∀ i ∈ I, i < 13 ∧ 7 ≠ i := by decide)
    (h8 : ∀ i ∈ I, i < 13 ∧ 8 ≠ i := by decide) (h9 : ∀ i ∈ I, i < 13 ∧ 9 ≠ i := by decide) (h10 : ∀ i ∈ I, i < 13 ∧ 10 ≠ i := by decide) (h11 : ∀ i ∈ I, i < 13 ∧ 11 ≠ i := by decide) : LawAt A H' tr us hs cl mi :=
  ⟨x.at k 1 s.st h1, x.at k 7 s.tr h7, x.at k 8 s.us h8, x.at k 9 s.hs h9, x.at k 10 s.cl h10, x.at k 11 s.mi h11⟩
def PoolAt (A : Ad) (H : Hp) : Prop := ∃ xs : List Int, H (A.a 12) = some (.lst (xs.map V.int))
theorem PoolAt.fr {A : Ad} {I : List Nat} {H H' : Hp} (s : PoolAt A H) (k : A.Ok) (x : Fr A I H H') (h : ∀ i ∈ I, i < 13 ∧ 12 ≠ i := by decide) : PoolAt A H' := let ⟨xs, e⟩ := s; ⟨xs, x.at k 12 e h⟩

/-! ### look-ups -/
theorem sf_many (A : Ad) : (sf A).lookup ("many" : Str) = some (.int A.many) := by kernel_rfl
theorem sf_size (A : Ad) : (sf A).lookup ("size" : Str) = some (.int A.size) := by kernel_rfl
theorem sf_counts (A : Ad) : (sf A).lookup ("counts" : Str) = some (.ref (A.a 2)) := by kernel_rfl
theorem sf_kept (A : Ad) : (sf A).lookup ("kept" : Str) = some (.ref (A.a 3)) := by kernel_rfl
theorem tf_store (A : Ad) (l : Addr) (c : Int) : (tf A l c).lookup ("store" : Str) = some (.ref (A.a 0)) := by kernel_rfl
theorem tf_paths (A : Ad) (l : Addr) (c : Int) : (tf A l c).lookup ("paths" : Str) = some (.ref l) := by kernel_rfl
theorem tf_under (A : Ad) (l : Addr) (c : Int) : (tf A l c).lookup ("under" : Str) = some (.ref (A.a 5)) := by kernel_rfl
theorem tf_used (A : Ad) (l : Addr) (c : Int) : (tf A l c).lookup ("used" : Str) = some (.ref (A.a 6)) := by kernel_rfl
theorem tf_clock (A : Ad) (l : Addr) (c : Int) : (tf A l c).lookup ("clock" : Str) = some (.int c) := by kernel_rfl
theorem tf_putC (A : Ad) (l : Addr) (c d : Int) : putF "clock" (.int d) (tf A l c) = tf A l d := by kernel_rfl
theorem tf_putP (A : Ad) (l m : Addr) (c : Int) : putF "paths" (.ref m) (tf A l c) = tf A m c := by kernel_rfl
theorem st_size (A : Ad) : valV (stK A) (Sum.inr "size") = some (.int A.size) := by kernel_rfl
theorem st_many (A : Ad) : valV (stK A) (Sum.inr "many") = some (.int A.many) := by kernel_rfl
theorem st_letters (A : Ad) : valV (stK A) (Sum.inr "letters") = some (.int A.lets) := by kernel_rfl
theorem st_tree (A : Ad) : valV (stK A) (Sum.inr "tree") = some (.ref (A.a 7)) := by kernel_rfl
theorem st_used (A : Ad) : valV (stK A) (Sum.inr "used") = some (.ref (A.a 8)) := by kernel_rfl
theorem st_holders (A : Ad) : valV (stK A) (Sum.inr "holders") = some (.ref (A.a 9)) := by kernel_rfl
theorem st_clock (A : Ad) : valV (stK A) (Sum.inr "clock") = some (.ref (A.a 10)) := by kernel_rfl
theorem st_mine (A : Ad) : valV (stK A) (Sum.inr "mine") = some (.ref (A.a 11)) := by kernel_rfl
end K23
namespace K23
open PySem L2

section
variable {P : Program} {w : World} {K : PySem.W.Frag} {mg : Str → Option Value} {base : Heap} {t : Tx}
/-! ### is_between -/
def spBtw : Sp := fun vs H Q _ => ∃ v lo hi : Int, vs = [.int v, .int lo, .int hi] ∧ Q (.bl (decide (lo ≤ v) && decide (v ≤ hi))) H
theorem ok_btw (T : Txt K mg t) : FnOk P w K mg base CX0 1 t.btw t.btwD ["value", "least", "most"] spBtw := by
  refine T.F_btw.ok scBtw (fun vs H Q E h => ?_) (fun cdv Ar outer s H vs Q E hr h => ?_)
  · obtain ⟨v, lo, hi, rfl, _⟩ := h
    rfl
  · obtain ⟨v, lo, hi, rfl, k⟩ := h
    refine ⟨_, pss_one (ps_ret (pe_and (pe_callB call_isi (by rfl) T.g_isinstance PyProof.Rows.boot_isinstance (pa_cons (pv 0) (pa_cons (pe_bltn (v := .ty "int") (by rfl) T.g_int PyProof.Rows.boot_int rfl) pa_nil)))
      (pe_and (pe_not (pe_callB call_isi (by rfl) T.g_isinstance PyProof.Rows.boot_isinstance (pa_cons (pv 0) (pa_cons (pe_bltn (v := .ty "bool") (by rfl) T.g_bool PyProof.Rows.boot_bool rfl) pa_nil))))
      (pe_one (pe_chain op_le op_le (pv 1) (pv 0) (pv 2)))))), ?_⟩
    refine ⟨_, rfl, _, _, _, _, _, rfl, .ty _, .base (.int _), kit_ty (by decide +kernel : kitB "int" "int" = some true), true, rfl, iteT ?_⟩
    refine ⟨_, rfl, _, _, _, _, _, rfl, .ty _, .base (.int _), kit_ty (by decide +kernel : kitB "int" "bool" = some false), false, rfl, true, rfl, iteT ?_⟩
    refine ⟨_, rfl, _, rfl, _, _, rfl, rfl, _, rfl, ?_⟩
    by_cases z : lo ≤ v
    · rw [decide_eq_true z] at k ⊢
      exact iteT ⟨_, rfl, _, _, rfl, rfl, k⟩
    · rw [decide_eq_false z] at k ⊢
      exact iteF k
/-! ### helpers -/
theorem at_int {cs : List Int} {b : Nat} {c : Int} (h : cs[b]? = some c) : atI (cs.map V.int) (b : Int) = some (.int c) := atI_nat (by rw [List.getElem?_map, h]; rfl)
theorem ixN_nat {n j : Nat} (h : j < n) : ixN n (j : Int) = some j := by
  unfold ixN
  rw [if_pos (by omega), if_pos (by omega)]
  rfl
theorem get_lt {α : Type} {l : List α} {i : Nat} {x : α} (h : l[i]? = some x) : i < l.length := (List.getElem?_eq_some_iff.mp h).1
theorem map_set_int (cs : List Int) (i : Nat) (c : Int) : (cs.map V.int).set i (.int c) = (cs.set i c).map V.int := by rw [List.map_set]
theorem dec_ne {a b : Int} (h : a ≠ b) : decide (V.int a = V.int b) = false := decide_eq_false fun e => h (by injection e)
theorem dec_eqt {a b : Int} (h : a = b) : decide (V.int a = V.int b) = true := decide_eq_true (by rw [h])
theorem between {b n : Nat} (h : b < n) : (decide ((0 : Int) ≤ (b : Int)) && decide ((b : Int) ≤ (n : Int) - 1)) = true := by
  rw [decide_eq_true (by omega), decide_eq_true (by omega)]
  rfl

/-! ### the store's methods -/
def spHeld (t : Tx) : Sp := fun vs H Q _ => ∃ (A : Ad) (cs : List Int) (rs : List (List (List Int))) (b : Nat) (c : Int), vs = [.ref (A.a 0), .int b] ∧ StoreAt t.S A H cs rs ∧ cs[b]? = some c ∧ c ≠ 0 ∧ Q .non H
theorem ok_held (T : Txt K mg t) : FnOk P w K mg base CX0 2 t.sHeld t.sHeldD ["self", "block"] (spHeld t) := by
  refine T.F_sHeld.ok scSHeld (fun vs H Q E h => ?_) (fun cdv Ar outer s H vs Q E hr h => ?_)
  · obtain ⟨A, cs, rs, b, c, rfl, _⟩ := h
    rfl
  · obtain ⟨A, cs, rs, b, c, rfl, S, hb, hc, k⟩ := h
    obtain ⟨dx, ho⟩ := S.ob
    have lt : b < A.many := by rw [← S.cl]; exact get_lt hb
    refine ⟨_, pss_one (ps_if (PW.pt (pw_or (pt_not (pt_val (pe_call (ok_btw T) hr (by rfl) T.m_btw T.F_btw.kp T.b_btw .nil pass0 (pa_cons (pv 1) (pa_cons pe_int (pa_cons (pe_op op_sub (pe_fld (pv 0) rfl) pe_int) pa_nil))))))
      (pw_or1 (pt_cmpR op_eq (pe_ix ix_list (pe_fld (pv 0) rfl) (pv 1) (fun _ _ => rfl)) pe_int (nomark _))))) (pss_one ps_never) pss_nil), ?_⟩
    refine ⟨_, rfl, _, rfl, A.a 0, t.S, dx, _, _, rfl, ho, T.clS, T.nS_many, sf_many A, _, _, rfl, rfl, _, _, _, rfl, true, congrArg V.bl (between lt), iteF ?_⟩
    refine ⟨_, rfl, A.a 0, t.S, dx, _, _, rfl, ho, T.clS, T.nS_counts, sf_counts A, _, rfl, _, _, _, _, rfl, rfl, SqL.of S.co, at_int hb, rfl, false, congrArg V.bl (dec_ne hc), iteF ?_⟩
    exact k
def spAlone (t : Tx) : Sp := fun vs H Q _ => ∃ (A : Ad) (cs : List Int) (rs : List (List (List Int))) (b : Nat), vs = [.ref (A.a 0), .int b] ∧ StoreAt t.S A H cs rs ∧ cs[b]? = some 1 ∧ Q .non H
theorem sf_no (A : Ad) {m : Str} (h : (sf A).lookup m = none) : (sf A).lookup m = none := h
theorem ok_alone (T : Txt K mg t) : FnOk P w K mg base CX0 3 t.sAlone t.sAloneD ["self", "block"] (spAlone t) := by
  refine T.F_sAlone.ok scSAlone (fun vs H Q E h => ?_) (fun cdv Ar outer s H vs Q E hr h => ?_)
  · obtain ⟨A, cs, rs, b, rfl, _⟩ := h
    rfl
  · obtain ⟨A, cs, rs, b, rfl, S, hb, k⟩ := h
    obtain ⟨dx, ho⟩ := S.ob
    refine ⟨_, pss_cons (ps_expr (pe_meth (pv 0) T.clS T.m_sHeld (ok_held T) hr T.b_sHeld .nil pass0 (pa_cons (pv 1) pa_nil)))
      (pss_one (ps_if (pt_cmpR op_gt (pe_ix ix_list (pe_fld (pv 0) rfl) (pv 1) (fun _ _ => rfl)) pe_int (nomark _)) (pss_one ps_never) pss_nil)), ?_⟩
    refine ⟨_, rfl, A.a 0, dx, _, rfl, ho, by kernel_rfl, _, rfl, A, cs, rs, b, 1, rfl, S, hb, by decide, ?_⟩
    refine ⟨_, rfl, A.a 0, t.S, dx, _, _, rfl, ho, T.clS, T.nS_counts, sf_counts A, _, rfl, _, _, _, _, rfl, rfl, SqL.of S.co, at_int hb, _, _, rfl, rfl, false, rfl, iteF ?_⟩
    exact k
end
end K23
namespace K23
open PySem L2

/-! ### the store changes -/
theorem StoreAt.setC {C : Addr} {A : Ad} {H : Hp} {cs cs' : List Int} {rs : List (List (List Int))} (s : StoreAt C A H cs rs) (k : A.Ok) (h : cs'.length = A.many) : StoreAt C A (upd H (A.a 2) (.lst (cs'.map V.int))) cs' rs := by
  have x : Fr A [2] H (upd H (A.a 2) (.lst (cs'.map V.int))) := Fr.upd s.co rfl
  obtain ⟨dx, ho⟩ := s.ob
  obtain ⟨ks, h4, h5, h6⟩ := s.ke
  exact ⟨⟨dx, x.at k 0 ho⟩, upd_same, ⟨ks, x.at k 3 h4, h5.fr x, h6⟩, h, s.rl⟩
theorem StoreAt.setK {C : Addr} {A : Ad} {H : Hp} {cs : List Int} {rs : List (List (List Int))} {ks : Kept} (s : StoreAt C A H cs rs) (k : A.Ok) (h : KeptAt H ks) (hl : (rowsOf ks).length = A.many) : StoreAt C A (upd H (A.a 3) (.lst (ks.map fun k => V.ref k.1))) cs (rowsOf ks) := by
  obtain ⟨ks', h4, _⟩ := s.ke
  have x : Fr A [3] H (upd H (A.a 3) (.lst (ks.map fun k => V.ref k.1))) := Fr.upd h4 rfl
  obtain ⟨dx, ho⟩ := s.ob
  exact ⟨⟨dx, x.at k 0 ho⟩, x.at k 2 s.co, ⟨ks, upd_same, h.fr x, rfl⟩, s.cl, hl⟩
theorem KeptAt.set {H : Hp} {ks : Kept} (h : KeptAt H ks) (b : Nat) {k : Addr × List AP'} (h1 : H k.1 = some (.tup (refs k.2))) (h2 : ∀ r ∈ k.2, RowAt H r.1 r.2) : KeptAt H (ks.set b k) := fun c hc => by
  rcases List.mem_or_eq_of_mem_set hc with hc | rfl
  · exact h c hc
  · exact ⟨h1, h2⟩
theorem rows_set (ks : Kept) (b : Nat) (k : Addr × List AP') : rowsOf (ks.set b k) = (rowsOf ks).set b (k.2.map fun r => r.2) := by
  unfold rowsOf
  rw [List.map_set]
theorem rows_get {ks : Kept} {b : Nat} {r : List (List Int)} (h : (rowsOf ks)[b]? = some r) : ∃ k, ks[b]? = some k ∧ (k.2.map fun r => r.2) = r := by
  unfold rowsOf at h
  rw [List.getElem?_map] at h
  obtain ⟨k, h1, h2⟩ := Option.map_eq_some_iff.mp h
  exact ⟨k, h1, h2⟩
theorem kept_at {ks : Kept} {b : Nat} {k : Addr × List AP'} (h : ks[b]? = some k) : atI (ks.map fun k => V.ref k.1) (b : Int) = some (.ref k.1) := atI_nat (by rw [List.getElem?_map, h]; rfl)
theorem int_at {cs : List Int} {b : Nat} (h : b < cs.length) : ixN (cs.map V.int).length (b : Int) = some b := ixN_nat (by rw [List.length_map]; exact h)

section
variable {P : Program} {w : World} {K : PySem.W.Frag} {mg : Str → Option Value} {base : Heap} {t : Tx}
def spTake (t : Tx) : Sp := fun vs H Q _ => ∃ (A : Ad) (cs : List Int) (rs : List (List (List Int))) (i : Nat), vs = [.ref (A.a 0)] ∧ A.Ok ∧ StoreAt t.S A H cs rs ∧ cs[i]? = some 0 ∧ (∀ j, j < i → cs[j]? ≠ some 0) ∧
  ∀ H', StoreAt t.S A H' (cs.set i 1) rs → Fr A [2] H H' → Q (.int i) H'
theorem ok_take (T : Txt K mg t) : FnOk P w K mg base CX0 1 t.sTake t.sTakeD ["self"] (spTake t) := by
  refine T.F_sTake.ok scSTake (fun vs H Q E h => ?_) (fun cdv Ar outer s H vs Q E hr h => ?_)
  · obtain ⟨A, cs, rs, i, rfl, _⟩ := h
    rfl
  · obtain ⟨A, cs, rs, i, rfl, ok, S, hi, hj, k⟩ := h
    obtain ⟨dx, ho⟩ := S.ob
    have hm2 := ok.m2
    have il : i < cs.length := get_lt hi
    have cl := S.cl
    refine ⟨_, pss_cons (ps_for PassesOwn.never rfl (pi_range1 (by rfl) T.g_range (pa_cons (pe_fld (pv 0) rfl) pa_nil)) (pg_name (i := 1) scSTake.nd rfl (.inl rfl))
      (pss_one (ps_if (pt_cmpR op_eq (pe_ix ix_list (pe_fld (pv 0) rfl) (pv 1) (fun _ _ => rfl)) pe_int (nomark _))
        (pss_cons (ps_asg pe_int (pg_sub (pe_fld (pv 0) rfl) (pv 1) set_list)) (pss_one (ps_ret (pv 1)))) pss_nil)))
      (pss_one ps_never), ?_⟩
    refine ⟨_, rfl, A.a 0, t.S, dx, _, _, rfl, ho, T.clS, T.nS_many, sf_many A, _, rfl, by omega, by omega, for_range (lo := 0) (n := ((A.many : Int)).toNat) (fun n σ H' => H' = H ∧ n ≤ i ∧ ∃ v, σ = [some (.ref (A.a 0)), v]) ⟨rfl, Nat.zero_le _, _, rfl⟩ ?_ ?_⟩
    · rintro n σ H' hn ⟨rfl, hni, v, rfl⟩
      have hg : ∃ c, cs[n]? = some c := ⟨cs[n]'(by omega), List.getElem?_eq_getElem (by omega)⟩
      obtain ⟨c, hc⟩ := hg
      refine ⟨_, rfl, A.a 0, t.S, dx, _, _, rfl, ho, T.clS, T.nS_counts, sf_counts A, _, rfl, _, _, _, _, rfl, rfl, SqL.of S.co, at_of (j := n) (by omega) (by rw [List.getElem?_map, hc]; rfl), rfl, decide (c = 0), ?_, ite2 (fun z => ?_) (fun z => ?_)⟩
      · by_cases z : c = 0
        · rw [dec_eqt z, decide_eq_true z]
        · rw [dec_ne z, decide_eq_false z]
      · have c0 : c = 0 := of_decide_eq_true z
        have en : n = i := by
          rcases Nat.lt_or_ge n i with y | y
          · exact absurd (by rw [hc, c0]) (hj n y)
          · omega
        subst en
        have e0 : (0 : Int) + (n : Int) = (n : Int) := by omega
        refine ⟨_, rfl, A.a 0, t.S, dx, _, _, rfl, ho, T.clS, T.nS_counts, sf_counts A, _, rfl, _, _, _, n, rfl, rfl, S.co, by rw [e0]; exact int_at il, _, rfl, ?_⟩
        rw [e0, map_set_int]
        exact k _ (S.setC ok (by rw [List.length_set]; exact cl)) (Fr.upd S.co rfl)
      · have c0 : c ≠ 0 := of_decide_eq_false (by simpa using z)
        refine ⟨rfl, ?_, _, rfl⟩
        rcases Nat.lt_or_ge n i with y | y
        · omega
        · have : n = i := by omega
          rw [this, hi] at hc
          cases hc
          exact absurd rfl c0
    · rintro σ H' ⟨_, hn, _⟩
      exfalso
      omega
def spHold (t : Tx) : Sp := fun vs H Q _ => ∃ (A : Ad) (cs : List Int) (rs : List (List (List Int))) (b : Nat) (c : Int), vs = [.ref (A.a 0), .int b] ∧ A.Ok ∧ StoreAt t.S A H cs rs ∧ cs[b]? = some c ∧ c ≠ 0 ∧
  ∀ H', StoreAt t.S A H' (cs.set b (c + 1)) rs → Fr A [2] H H' → Q .non H'
theorem ok_hold (T : Txt K mg t) : FnOk P w K mg base CX0 3 t.sHold t.sHoldD ["self", "block"] (spHold t) := by
  refine T.F_sHold.ok scSHold (fun vs H Q E h => ?_) (fun cdv Ar outer s H vs Q E hr h => ?_)
  · obtain ⟨A, cs, rs, b, c, rfl, _⟩ := h
    rfl
  · obtain ⟨A, cs, rs, b, c, rfl, ok, S, hb, hc, k⟩ := h
    obtain ⟨dx, ho⟩ := S.ob
    refine ⟨_, pss_cons (ps_expr (pe_meth (pv 0) T.clS T.m_sHeld (ok_held T) hr T.b_sHeld .nil pass0 (pa_cons (pv 1) pa_nil)))
      (pss_one (ps_augS (pe_fld (pv 0) rfl) (pv 1) get_list pe_int ip_add set_list)), ?_⟩
    refine ⟨_, rfl, A.a 0, dx, _, rfl, ho, by kernel_rfl, _, rfl, A, cs, rs, b, c, rfl, S, hb, hc, ?_⟩
    refine ⟨_, rfl, A.a 0, t.S, dx, _, _, rfl, ho, T.clS, T.nS_counts, sf_counts A, _, rfl, _, _, _, _, rfl, rfl, SqL.of S.co, at_int hb, _, _, rfl, rfl, _, _, _, b, rfl, rfl, S.co, int_at (get_lt hb), ?_⟩
    rw [map_set_int]
    exact k _ (S.setC ok (by rw [List.length_set]; exact S.cl)) (Fr.upd S.co rfl)
def spRel (t : Tx) : Sp := fun vs H Q _ => ∃ (A : Ad) (cs : List Int) (rs : List (List (List Int))) (b : Nat) (c : Int), vs = [.ref (A.a 0), .int b] ∧ A.Ok ∧ StoreAt t.S A H cs rs ∧ cs[b]? = some c ∧ c ≠ 0 ∧
  ∀ H', StoreAt t.S A H' (cs.set b (c - 1)) (if c = 1 then rs.set b [] else rs) → Fr A [2, 3] H H' → Q .non H'
theorem ok_rel (T : Txt K mg t) : FnOk P w K mg base CX0 3 t.sRel t.sRelD ["self", "block"] (spRel t) := by
  refine T.F_sRel.ok scSRel (fun vs H Q E h => ?_) (fun cdv Ar outer s H vs Q E hr h => ?_)
  · obtain ⟨A, cs, rs, b, c, rfl, _⟩ := h
    rfl
  · obtain ⟨A, cs, rs, b, c, rfl, ok, S, hb, hc, k⟩ := h
    obtain ⟨dx, ho⟩ := S.ob
    have lb := get_lt hb
    refine ⟨_, pss_cons (ps_expr (pe_meth (pv 0) T.clS T.m_sHeld (ok_held T) hr T.b_sHeld .nil pass0 (pa_cons (pv 1) pa_nil)))
      (pss_cons (ps_augS (pe_fld (pv 0) rfl) (pv 1) get_list pe_int ip_sub set_list)
      (pss_one (ps_if (pt_cmpR op_eq (pe_ix ix_list (pe_fld (pv 0) rfl) (pv 1) (fun _ _ => rfl)) pe_int (nomark _)) (pss_one (ps_asg (pe_tup pa_nil) (pg_sub (pe_fld (pv 0) rfl) (pv 1) set_list))) pss_nil))), ?_⟩
    refine ⟨_, rfl, A.a 0, dx, _, rfl, ho, by kernel_rfl, _, rfl, A, cs, rs, b, c, rfl, S, hb, hc, ?_⟩
    refine ⟨_, rfl, A.a 0, t.S, dx, _, _, rfl, ho, T.clS, T.nS_counts, sf_counts A, _, rfl, _, _, _, _, rfl, rfl, SqL.of S.co, at_int hb, _, _, rfl, rfl, _, _, _, b, rfl, rfl, S.co, int_at lb, ?_⟩
    rw [map_set_int]
    have S1 := S.setC ok (cs' := cs.set b (c - 1)) (by rw [List.length_set]; exact S.cl)
    have x1 : Fr A [2] H (upd H (A.a 2) (.lst ((cs.set b (c - 1)).map V.int))) := Fr.upd S.co rfl
    generalize upd H (A.a 2) (.lst ((cs.set b (c - 1)).map V.int)) = H1 at S1 x1
    have ho1 := x1.at ok 0 ho
    have hb1 : (cs.set b (c - 1))[b]? = some (c - 1) := List.getElem?_set_self lb
    refine ⟨_, rfl, A.a 0, t.S, dx, _, _, rfl, ho1, T.clS, T.nS_counts, sf_counts A, _, rfl, _, _, _, _, rfl, rfl, SqL.of S1.co, at_int hb1, rfl, decide (c = 1), ?_, ite2 (fun z => ?_) (fun z => ?_)⟩
    · by_cases z : c = 1
      · rw [dec_eqt (show c - 1 = 0 by omega), decide_eq_true z]
      · rw [dec_ne (show c - 1 ≠ 0 by omega), decide_eq_false z]
    · have c1 : c = 1 := of_decide_eq_true z
      rw [if_pos c1] at k
      refine ⟨Nat.zero_le _, fun p hp => ?_⟩
      have x2 : Fr A [] H1 (upd H1 p (.tup [])) := Fr.new hp
      have S2 := S1.fr ok x2
      have ho2 := x2.at ok 0 ho1
      have ep : upd H1 p (.tup []) p = some (.tup []) := upd_same
      generalize upd H1 p (.tup []) = H2 at S2 x2 ho2 ep
      obtain ⟨ks, h4, h5, h6⟩ := S2.ke
      have kl : ks.length = A.many := by
        rw [← S2.rl, ← h6]
        unfold rowsOf
        rw [List.length_map]
      have bk : b < ks.length := by
        rw [kl, ← S.cl]
        exact lb
      refine ⟨_, rfl, A.a 0, t.S, dx, _, _, rfl, ho2, T.clS, T.nS_kept, sf_kept A, _, rfl, _, _, _, b, rfl, rfl, h4, ixN_nat (by rw [List.length_map]; exact bk), ?_⟩
      have e1 : (ks.map fun k => V.ref k.1).set b (.ref p) = (ks.set b (p, [])).map fun k => V.ref k.1 := by rw [List.map_set]
      have e2 : rowsOf (ks.set b (p, [])) = rs.set b [] := by
        rw [rows_set, h6]
        rfl
      rw [e1]
      have S3 := S2.setK ok (h5.set b (k := (p, [])) ep fun r hr => nomatch hr) (by rw [rows_set, List.length_set, h6]; exact S2.rl)
      rw [e2] at S3
      exact k _ S3 ((x1.and x2 (L := [2])).and (Fr.upd h4 rfl : Fr A [3] H2 _) (L := [2, 3]))
    · have c1 : c ≠ 1 := of_decide_eq_false (by simpa using z)
      rw [if_neg c1] at k
      exact k _ S1 (x1.mono)
def spRow (t : Tx) : Sp := fun vs H Q _ => ∃ (A : Ad) (cs : List Int) (rs : List (List (List Int))) (b : Nat) (r : List (List Int)) (q : Addr) (ws : List Int), vs = [.ref (A.a 0), .int b, .ref q] ∧ A.Ok ∧ StoreAt t.S A H cs rs ∧ cs[b]? = some 1 ∧ rs[b]? = some r ∧ r.length < A.size ∧ RowAt H q ws ∧
  ∀ H', StoreAt t.S A H' cs (rs.set b (r ++ [ws])) → Fr A [3] H H' → Q .non H'
theorem ok_row (T : Txt K mg t) : FnOk P w K mg base CX0 4 t.sRow t.sRowD ["self", "block", "row"] (spRow t) := by
  refine T.F_sRow.ok scSRow (fun vs H Q E h => ?_) (fun cdv Ar outer s H vs Q E hr h => ?_)
  · obtain ⟨A, cs, rs, b, r, q, ws, rfl, _⟩ := h
    rfl
  · obtain ⟨A, cs, rs, b, r, q, ws, rfl, ok, S, hb, hrs, hlt, hrow, k⟩ := h
    obtain ⟨dx, ho⟩ := S.ob
    obtain ⟨ks, h4, h5, h6⟩ := S.ke
    rw [← h6] at hrs
    obtain ⟨kk, g1, g2⟩ := rows_get hrs
    have gm := List.mem_of_getElem? g1
    have e0 := (h5 kk gm).1
    have lk : kk.2.length = r.length := by
      rw [← g2, List.length_map]
    have hs2 := ok.s2
    refine ⟨_, pss_cons (ps_expr (pe_meth (pv 0) T.clS T.m_sAlone (ok_alone T) hr T.b_sAlone .nil pass0 (pa_cons (pv 1) pa_nil)))
      (pss_cons (ps_if (pt_cmpR op_eq (pe_callB call_len_seq (by rfl) T.g_len PySem.boot_len (pa_cons (pe_ix ix_list (pe_fld (pv 0) rfl) (pv 1) (fun _ _ => rfl)) pa_nil)) (pe_fld (pv 0) rfl) (nomark _)) (pss_one ps_never) pss_nil)
      (pss_one (ps_asg (pe_op op_catA (pe_ix ix_list (pe_fld (pv 0) rfl) (pv 1) (fun _ _ => rfl)) (pe_tup (pa_cons (pv 2) pa_nil))) (pg_sub (pe_fld (pv 0) rfl) (pv 1) set_list)))), ?_⟩
    refine ⟨_, rfl, A.a 0, dx, _, rfl, ho, by kernel_rfl, _, rfl, A, cs, rs, b, rfl, S, hb, ?_⟩
    refine ⟨_, rfl, A.a 0, t.S, dx, _, _, rfl, ho, T.clS, T.nS_kept, sf_kept A, _, rfl, _, _, _, _, rfl, rfl, SqL.of h4, kept_at g1, _, _, rfl, .inr (SqT.of e0), _, rfl, A.a 0, t.S, dx, _, _, rfl, ho, T.clS, T.nS_size, sf_size A, rfl, false, ?_, iteF ?_⟩
    · rw [dec_ne]
      rw [refs_len, lk]
      omega
    refine ⟨_, rfl, A.a 0, t.S, dx, _, _, rfl, ho, T.clS, T.nS_kept, sf_kept A, _, rfl, _, _, _, _, rfl, rfl, SqL.of h4, kept_at g1, _, rfl, by show 1 ≤ sizeLine; rw [sizeLine_eq]; decide, fun p hp => ?_⟩
    have x1 : Fr A [] H (upd H p (.tup [.ref q])) := Fr.new hp
    have ep : upd H p (.tup [.ref q]) p = some (.tup [.ref q]) := upd_same
    generalize upd H p (.tup [.ref q]) = H1 at x1 ep
    have fin : ∀ (c : Addr) (H2 : Hp), Fr A [] H1 H2 → H2 c = some (.tup (refs (kk.2 ++ [(q, ws)]))) → gSub (tFld K (tVar 0) "kept") (tVar 1) rSetL (.ref c) [some (.ref (A.a 0)), some (.int b), some (.ref q)] H2 (fun _ H' => Q .non H') := by
      intro c H2 x2 hc
      have x := x1.and x2 (L := [])
      have ho2 := x.at ok 0 ho
      have S2 := S.fr ok x
      have h42 := x.at ok 3 h4
      refine ⟨_, rfl, A.a 0, t.S, dx, _, _, rfl, ho2, T.clS, T.nS_kept, sf_kept A, _, rfl, _, _, _, b, rfl, rfl, h42, ixN_nat (by rw [List.length_map]; exact get_lt g1), ?_⟩
      have e1 : (ks.map fun k => V.ref k.1).set b (.ref c) = (ks.set b (c, kk.2 ++ [(q, ws)])).map fun k => V.ref k.1 := by rw [List.map_set]
      have e2 : rowsOf (ks.set b (c, kk.2 ++ [(q, ws)])) = rs.set b (r ++ [ws]) := by
        rw [rows_set, h6, List.map_append, g2]
        rfl
      rw [e1]
      have S3 := S2.setK ok ((h5.fr x).set b (k := (c, kk.2 ++ [(q, ws)])) hc fun r' hr' => by
        rcases List.mem_append.mp hr' with hr' | hr'
        · exact ((h5 kk gm).2 r' hr').fr x
        · rw [List.mem_singleton.mp hr']
          exact hrow.fr x) (by rw [rows_set, List.length_set, h6]; exact S2.rl)
      rw [e2] at S3
      exact k _ S3 (x.and (Fr.upd h42 rfl : Fr A [3] H2 _) (L := [3]))
    refine ⟨_, _, _, _, rfl, rfl, SqT.of (x1.tup _ _ e0), SqT.of ep, ?_, fun en => ?_, fun _ en => (nomatch en), fun ne _ p2 hp2 => ?_⟩
    · rw [refs_len, lk, sizeLine_eq]
      show r.length + 1 ≤ _
      omega
    · refine fin p H1 (Fr.refl _ _ _) ?_
      have : kk.2 = [] := List.map_eq_nil_iff.mp en
      rw [this]
      exact ep
    · refine fin p2 _ (Fr.new hp2) ?_
      have e3 : refs (kk.2 ++ [(q, ws)]) = refs kk.2 ++ [V.ref q] := by
        unfold refs
        rw [List.map_append]
        rfl
      rw [e3]
      exact upd_same
def spRows (t : Tx) : Sp := fun vs H Q _ => ∃ (A : Ad) (cs : List Int) (rs : List (List (List Int))) (b : Nat) (c : Int) (r : List (List Int)), vs = [.ref (A.a 0), .int b] ∧ StoreAt t.S A H cs rs ∧ cs[b]? = some c ∧ c ≠ 0 ∧ rs[b]? = some r ∧
  ∀ (q : Addr) (vs : List AP'), H q = some (.tup (refs vs)) → (∀ v ∈ vs, RowAt H v.1 v.2) → (vs.map fun v => v.2) = r → Q (.ref q) H
theorem ok_rows (T : Txt K mg t) : FnOk P w K mg base CX0 3 t.sRows t.sRowsD ["self", "block"] (spRows t) := by
  refine T.F_sRows.ok scSRows (fun vs H Q E h => ?_) (fun cdv Ar outer s H vs Q E hr h => ?_)
  · obtain ⟨A, cs, rs, b, c, r, rfl, _⟩ := h
    rfl
  · obtain ⟨A, cs, rs, b, c, r, rfl, S, hb, hc, hrs, k⟩ := h
    obtain ⟨dx, ho⟩ := S.ob
    obtain ⟨ks, h4, h5, h6⟩ := S.ke
    rw [← h6] at hrs
    obtain ⟨kk, g1, g2⟩ := rows_get hrs
    have gm := List.mem_of_getElem? g1
    refine ⟨_, pss_cons (ps_expr (pe_meth (pv 0) T.clS T.m_sHeld (ok_held T) hr T.b_sHeld .nil pass0 (pa_cons (pv 1) pa_nil))) (pss_one (ps_ret (pe_ix ix_list (pe_fld (pv 0) rfl) (pv 1) (fun _ _ => rfl)))), ?_⟩
    refine ⟨_, rfl, A.a 0, dx, _, rfl, ho, by kernel_rfl, _, rfl, A, cs, rs, b, c, rfl, S, hb, hc, ?_⟩
    exact ⟨_, rfl, A.a 0, t.S, dx, _, _, rfl, ho, T.clS, T.nS_kept, sf_kept A, _, rfl, _, _, _, _, rfl, rfl, SqL.of h4, kept_at g1, k kk.1 kk.2 (h5 kk gm).1 (h5 kk gm).2 g2⟩
def spHolders (t : Tx) : Sp := fun vs H Q _ => ∃ (A : Ad) (cs : List Int) (rs : List (List (List Int))) (b : Nat) (c : Int), vs = [.ref (A.a 0), .int b] ∧ StoreAt t.S A H cs rs ∧ cs[b]? = some c ∧ Q (.int c) H
theorem ok_holders (T : Txt K mg t) : FnOk P w K mg base CX0 2 t.sHolders t.sHoldersD ["self", "block"] (spHolders t) := by
  refine T.F_sHolders.ok scSHolders (fun vs H Q E h => ?_) (fun cdv Ar outer s H vs Q E hr h => ?_)
  · obtain ⟨A, cs, rs, b, c, rfl, _⟩ := h
    rfl
  · obtain ⟨A, cs, rs, b, c, rfl, S, hb, k⟩ := h
    obtain ⟨dx, ho⟩ := S.ob
    have lt : b < A.many := by rw [← S.cl]; exact get_lt hb
    refine ⟨_, pss_cons (ps_if (pt_not (pt_val (pe_call (ok_btw T) hr (by rfl) T.m_btw T.F_btw.kp T.b_btw .nil pass0 (pa_cons (pv 1) (pa_cons pe_int (pa_cons (pe_op op_sub (pe_fld (pv 0) rfl) pe_int) pa_nil)))))) (pss_one ps_never) pss_nil)
      (pss_one (ps_ret (pe_ix ix_list (pe_fld (pv 0) rfl) (pv 1) (fun _ _ => rfl)))), ?_⟩
    refine ⟨_, rfl, _, rfl, A.a 0, t.S, dx, _, _, rfl, ho, T.clS, T.nS_many, sf_many A, _, _, rfl, rfl, _, _, _, rfl, true, congrArg V.bl (between lt), iteF ?_⟩
    exact ⟨_, rfl, A.a 0, t.S, dx, _, _, rfl, ho, T.clS, T.nS_counts, sf_counts A, _, rfl, _, _, _, _, rfl, rfl, SqL.of S.co, at_int hb, k⟩
end
end K23
namespace K23
open PySem L2

section
variable {P : Program} {w : World} {K : PySem.W.Frag} {mg : Str → Option Value} {base : Heap} {t : Tx}
def zeros (cs : List Int) : List Int := cs.filter fun c => decide (c = 0)
def spFree (t : Tx) : Sp := fun vs H Q _ => ∃ (A : Ad) (cs : List Int) (rs : List (List (List Int))), vs = [.ref (A.a 0)] ∧ A.Ok ∧ StoreAt t.S A H cs rs ∧ ∀ H', Fr A [] H H' → Q (.int (zeros cs).length) H'
theorem zeros_succ {cs : List Int} {i : Nat} {c : Int} (h : cs[i]? = some c) : zeros (cs.take (i + 1)) = if c = 0 then zeros (cs.take i) ++ [c] else zeros (cs.take i) := by
  obtain ⟨hl, he⟩ := List.getElem?_eq_some_iff.mp h
  have e : cs.take (i + 1) = cs.take i ++ [c] := by
    rw [← he]
    exact (List.take_append_getElem hl).symm
  unfold zeros
  rw [e, List.filter_append]
  by_cases z : c = 0
  · rw [if_pos z, List.filter_cons_of_pos (by simp [z])]
    rfl
  · rw [if_neg z, List.filter_cons_of_neg (by simp [z])]
    exact List.append_nil _
theorem ok_free (T : Txt K mg t) : FnOk P w K mg base CX0 1 t.sFree t.sFreeD ["self"] (spFree t) := by
  refine T.F_sFree.ok scSFree (fun vs H Q E h => ?_) (fun cdv Ar outer s H vs Q E hr h => ?_)
  · obtain ⟨A, cs, rs, rfl, _⟩ := h
    rfl
  · obtain ⟨A, cs, rs, rfl, ok, S, k⟩ := h
    obtain ⟨dx, ho⟩ := S.ob
    refine ⟨_, pss_one (ps_ret (pe_callB call_len_seq (by rfl) T.g_len PySem.boot_len (pa_cons (pe_lc (own := [("count", 1)]) (g := gName 1) (by rfl) scSFree.nd (pi_list (pe_fld (pv 0) rfl)) (blkOk_by (own := [("count", 1)]) (N := ["self", "count"]) (sc := defScope sSFree) (by decide +kernel))
      (fun _ _ _ _ _ => pg_name (i := 1) scSFree.nd rfl (Or.inl rfl)) (fun _ _ _ _ _ => pts_one (pt_cmpR op_eq (pv 1) pe_int (nomark _))) (fun _ _ _ _ _ => pv 1)) pa_nil))), ?_⟩
    refine ⟨_, rfl, A.a 0, t.S, dx, _, _, rfl, ho, T.clS, T.nS_counts, sf_counts A, A.a 2, rfl, ⟨_, SqL.of S.co⟩, fun D nD => ?_⟩
    have ne2 : A.a 2 ≠ D := ne_of_none S.co nD
    refine lc_list (K := K) (a := A.a 2) (xs := cs.map V.int) (fun i H' => H' = upd H D (.lst ((zeros (cs.take i)).map V.int))) rfl (fun i H' _ e => by rw [e]; exact SqL.of (by rw [upd_ne ne2]; exact S.co)) ?_ ?_
    · rintro i x H' hi rfl
      rw [List.getElem?_map] at hi
      obtain ⟨c, hc, ex⟩ := Option.map_eq_some_iff.mp hi
      subst ex
      have hz := zeros_succ hc
      refine ⟨rfl, _, rfl, rfl, decide (c = 0), ?_, ite2 (fun z => ?_) (fun z => ?_)⟩
      · by_cases z : c = 0
        · rw [dec_eqt z, decide_eq_true z]
        · rw [dec_ne z, decide_eq_false z]
      · rw [if_pos (of_decide_eq_true z)] at hz
        refine ⟨_, rfl, _, upd_same, ?_, ?_⟩
        · rw [List.length_map]
          have h1 : (zeros (cs.take i)).length ≤ (cs.take i).length := List.length_filter_le _ _
          have h2 : (cs.take i).length ≤ A.many := by
            rw [List.length_take, S.cl]
            exact Nat.min_le_right _ _
          have h3 := get_lt hc
          have h4 : cs.length ≤ sizeLine := by
            have hz2 := S.cl
            have hm2 := ok.m2
            rw [sizeLine_eq]
            omega
          have h5 : (cs.take i).length = i := by
            rw [List.length_take]
            omega
          omega
        · rw [hz, List.map_append, upd_upd]
          rfl
      · rw [if_neg (of_decide_eq_false (by simpa using z))] at hz
        rw [hz]
    · rintro H' rfl
      refine ⟨D, _, rfl, .inl (SqL.of upd_same), ?_⟩
      have e : (zeros (cs.take (cs.map V.int).length)) = zeros cs := by rw [List.length_map, List.take_of_length_le (Nat.le_refl _)]
      rw [List.length_map, e]
      exact k _ (Fr.new nD)
/-! ### Store(many, size) -/
def sf0 (many size : Nat) (c k : Addr) : List (Str × V) := [("many", .int many), ("size", .int size), ("counts", .ref c), ("kept", .ref k)]
def spSInit (t : Tx) : Sp := fun vs H Q _ => ∃ (x dx : Addr) (many size : Nat), vs = [.ref x, .int many, .int size] ∧ H x = some (.ins t.S dx []) ∧ 1 ≤ many ∧ many ≤ 20 ∧ 1 ≤ size ∧ size ≤ 8 ∧
  ∀ (c k : Addr) (ks : Kept) (H' : Hp), H' x = some (.ins t.S dx (sf0 many size c k)) → H' c = some (.lst ((List.replicate many 0).map V.int)) → H' k = some (.lst (ks.map fun k => V.ref k.1)) → KeptAt H' ks → rowsOf ks = List.replicate many [] →
    H c = none → H k = none → c ≠ k → (∀ b o, H b = some o → b ≠ x → H' b = some o) → Q .non H'
theorem pf1 (a : Nat) : putF "many" (.int a) [] = [(("many" : Str), V.int a)] := by kernel_rfl
theorem pf2 (a b : Nat) : putF "size" (.int b) [(("many" : Str), V.int a)] = [(("many" : Str), V.int a), ("size", V.int b)] := by kernel_rfl
theorem pf3 (a b : Nat) (c : Addr) : putF "counts" (.ref c) [(("many" : Str), V.int a), ("size", V.int b)] = [(("many" : Str), V.int a), ("size", V.int b), ("counts", .ref c)] := by kernel_rfl
theorem pf4 (a b : Nat) (c k : Addr) : putF "kept" (.ref k) [(("many" : Str), V.int a), ("size", V.int b), ("counts", .ref c)] = sf0 a b c k := by kernel_rfl
theorem rep_succ {α : Type} (n : Nat) (x : α) : List.replicate (n + 1) x = List.replicate n x ++ [x] := List.replicate_succ'
theorem rowsOf_empty (ps : List Addr) : rowsOf (ps.map fun p => (p, [])) = List.replicate ps.length [] := by
  unfold rowsOf
  rw [List.map_map]
  induction ps with
  | nil => rfl
  | cons p ps ih =>
    rw [List.map_cons, ih]
    rfl
theorem ok_sinit (T : Txt K mg t) : FnOk P w K mg base CX0 2 t.sInit t.sInitD ["self", "many", "size"] (spSInit t) := by
  refine T.F_sInit.ok scSInit (fun vs H Q E h => ?_) (fun cdv Ar outer s H vs Q E hr h => ?_)
  · obtain ⟨x, dx, many, size, rfl, _⟩ := h
    rfl
  · obtain ⟨x, dx, many, size, rfl, hx, m1, m2, s1, s2, k⟩ := h
    obtain ⟨tb, hb⟩ := T.mb
    obtain ⟨tr, hm⟩ := T.mr
    refine ⟨_, pss_cons (ps_if (pt_not (pt_val (pe_call (ok_btw T) hr (by rfl) T.m_btw T.F_btw.kp T.b_btw .nil pass0 (pa_cons (pv 1) (pa_cons pe_int (pa_cons (pe_glob (v := .int 60) (by rfl) hb ⟨tb, rfl⟩) pa_nil)))))) (pss_one ps_never) pss_nil)
      (pss_cons (ps_if (pt_not (pt_val (pe_call (ok_btw T) hr (by rfl) T.m_btw T.F_btw.kp T.b_btw .nil pass0 (pa_cons (pv 2) (pa_cons pe_int (pa_cons (pe_glob (v := .int 8) (by rfl) hm ⟨tr, rfl⟩) pa_nil)))))) (pss_one ps_never) pss_nil)
      (pss_cons (ps_fld (pv 0) (pv 1) rfl) (pss_cons (ps_fld (pv 0) (pv 2) rfl)
      (pss_cons (ps_fld (pv 0) (pe_lc (own := [("_", 3)]) (g := gName 3) (tt := tYes) (by rfl) scSInit.nd (pi_range1 (by rfl) T.g_range (pa_cons (pv 1) pa_nil)) (blkOk_by (own := [("_", 3)]) (N := ["self", "many", "size", "_"]) (sc := defScope sSInit) (by decide +kernel))
        (fun _ _ _ _ _ => pg_name (i := 3) scSInit.nd rfl (Or.inl rfl)) (fun _ _ _ _ _ => pts_nil) (fun _ _ _ _ _ => pe_int)) rfl)
      (pss_one (ps_fld (pv 0) (pe_lc (own := [("_", 3)]) (g := gName 3) (tt := tYes) (by rfl) scSInit.nd (pi_range1 (by rfl) T.g_range (pa_cons (pv 1) pa_nil)) (blkOk_by (own := [("_", 3)]) (N := ["self", "many", "size", "_"]) (sc := defScope sSInit) (by decide +kernel))
        (fun _ _ _ _ _ => pg_name (i := 3) scSInit.nd rfl (Or.inl rfl)) (fun _ _ _ _ _ => pts_nil) (fun _ _ _ _ _ => pe_tup pa_nil)) rfl)))))), ?_⟩
    have e1 : (decide ((1 : Int) ≤ (many : Int)) && decide ((many : Int) ≤ 60)) = true := by
      rw [decide_eq_true (by omega), decide_eq_true (by omega)]
      rfl
    have e2 : (decide ((1 : Int) ≤ (size : Int)) && decide ((size : Int) ≤ 8)) = true := by
      rw [decide_eq_true (by omega), decide_eq_true (by omega)]
      rfl
    refine ⟨_, rfl, _, _, _, rfl, true, congrArg V.bl e1, iteF ?_⟩
    refine ⟨_, rfl, _, _, _, rfl, true, congrArg V.bl e2, iteF ?_⟩
    refine ⟨_, rfl, _, rfl, x, t.S, dx, _, rfl, hx, T.clS, T.nS_many, by decide, ?_⟩
    rw [pf1]
    refine ⟨_, rfl, _, rfl, x, t.S, dx, _, rfl, upd_same, T.clS, T.nS_size, (by show 1 < 1000; decide), ?_⟩
    rw [pf2, upd_upd]
    generalize eH : upd H x (.ins t.S dx [(("many" : Str), V.int many), ("size", V.int size)]) = H1
    have hx1 : H1 x = some (.ins t.S dx [(("many" : Str), V.int many), ("size", V.int size)]) := by rw [← eH, upd_same]
    have keep1 : ∀ b o, H b = some o → b ≠ x → H1 b = some o := fun b o e n => by
      rw [← eH, upd_ne n]
      exact e
    have free1 : ∀ b, H1 b = none → H b = none := fun b e => by
      have n : b ≠ x := fun z => by
        rw [z, hx1] at e
        cases e
      rw [← eH, upd_ne n] at e
      exact e
    -- counts
    refine ⟨_, rfl, _, rfl, by omega, by omega, fun D nD => ?_⟩
    have nxD : x ≠ D := ne_of_none hx1 nD
    have et : ((many : Int)).toNat = many := by omega
    refine lc_range (lo := 0) (n := ((many : Int)).toNat) (fun i H' => H' = upd H1 D (.lst ((List.replicate i (0 : Int)).map V.int))) rfl ?_ ?_
    · rintro i H' hi rfl
      refine ⟨rfl, _, upd_same, ?_, ?_⟩
      · rw [List.length_map, List.length_replicate, sizeLine_eq]
        omega
      · rw [upd_upd, rep_succ, List.map_append]
        rfl
    · rintro H2 rfl
      rw [et]
      refine ⟨_, rfl, x, t.S, dx, _, rfl, (by rw [upd_ne nxD]; exact hx1), T.clS, T.nS_counts, (by show 2 < 1000; decide), ?_⟩
      rw [pf3]
      generalize eH2 : upd (upd H1 D (.lst ((List.replicate many (0 : Int)).map V.int))) x (.ins t.S dx [(("many" : Str), V.int many), ("size", V.int size), ("counts", .ref D)]) = H2
      have hx2 : H2 x = some (.ins t.S dx [(("many" : Str), V.int many), ("size", V.int size), ("counts", .ref D)]) := by rw [← eH2, upd_same]
      have hD2 : H2 D = some (.lst ((List.replicate many (0 : Int)).map V.int)) := by rw [← eH2, upd_ne nxD.symm, upd_same]
      have keep2 : ∀ b o, H b = some o → b ≠ x → H2 b = some o := fun b o e n => by
        have e1 := keep1 b o e n
        rw [← eH2, upd_ne n, upd_ne (ne_of_none e1 nD)]
        exact e1
      -- kept
      refine ⟨_, rfl, _, rfl, by omega, by omega, fun M nM => ?_⟩
      have nxM : x ≠ M := ne_of_none hx2 nM
      have nDM : D ≠ M := ne_of_none hD2 nM
      have hM1 : H1 M = none := by
        rw [← eH2, upd_ne nxM.symm, upd_ne nDM.symm] at nM
        exact nM
      refine lc_range (lo := 0) (n := ((many : Int)).toNat) (fun i H' => ∃ ps : List Addr, ps.length = i ∧ H' M = some (.lst (ps.map V.ref)) ∧ (∀ p ∈ ps, H' p = some (.tup [])) ∧ (∀ b o, H2 b = some o → H' b = some o)) ⟨[], rfl, upd_same, fun _ h => (nomatch h), fun b o e => by rw [upd_ne (ne_of_none e nM)]; exact e⟩ ?_ ?_
      · rintro i H' hi ⟨ps, hl, hM, hps, kp⟩
        refine ⟨rfl, Nat.zero_le _, fun p np => ?_⟩
        have nMp : M ≠ p := ne_of_none hM np
        refine ⟨_, (by rw [upd_ne nMp]; exact hM), (by rw [List.length_map, hl, sizeLine_eq]; omega), ps ++ [p], by rw [List.length_append, hl]; rfl, ?_, fun q hq => ?_, fun b o e => ?_⟩
        · rw [upd_same, List.map_append]
          rfl
        · rcases List.mem_append.mp hq with hq | hq
          · have eq := hps q hq
            have n1 : q ≠ M := ne_of eq hM fun z => nomatch z
            rw [upd_ne n1, upd_ne (ne_of_none eq np)]
            exact eq
          · rw [List.mem_singleton.mp hq, upd_ne nMp.symm, upd_same]
        · have e1 := kp b o e
          rw [upd_ne (ne_of_none e nM), upd_ne (ne_of_none e1 np)]
          exact e1
      · rintro H3 ⟨ps, hl, hM, hps, kp⟩
        have hx3 := kp x _ hx2
        refine ⟨_, rfl, x, t.S, dx, _, rfl, hx3, T.clS, T.nS_kept, (by show 3 < 1000; decide), ?_⟩
        rw [pf4]
        have npx : ∀ p ∈ ps, p ≠ x := fun p hp => ne_of (hps p hp) hx3 fun z => nomatch z
        refine k D M (ps.map fun p => (p, [])) _ upd_same ?_ ?_ ?_ ?_ (free1 D nD) (free1 M hM1) nDM fun b o e n => ?_
        · rw [upd_ne nxD.symm]
          exact kp D _ hD2
        · rw [upd_ne nxM.symm, hM, List.map_map]
          rfl
        · intro q hq
          obtain ⟨p, hp, eq⟩ := List.mem_map.mp hq
          subst eq
          refine ⟨?_, fun r hr => nomatch hr⟩
          rw [upd_ne (npx p hp)]
          exact hps p hp
        · rw [rowsOf_empty, hl, et]
        · rw [upd_ne n]
          exact kp b o (keep2 b o e n)
end
end K23
namespace K23
open PySem L2

/-! ### slices and look-ups by paths -/
theorem cut_take (xs : List V) (k : Nat) : cutV xs none (some (k : Int)) = xs.take k := by
  unfold cutV
  rw [HT.sIx_none, HT.sIx_nat, List.drop_zero, Nat.sub_zero]
  rcases Nat.le_total k xs.length with h | h
  · rw [Nat.min_eq_left h]
  · rw [Nat.min_eq_right h, List.take_of_length_le (Nat.le_refl _), List.take_of_length_le h]
/-- t[:k] of a tuple of ints -/
theorem slT {K : PySem.W.Frag} {A : Ad} {H : Hp} {a : Addr} {ls : List Int} {k : Nat} {Q : VK} (h : H a = some (.tup (ls.map V.int))) (q : ∀ c H2, Fr A [] H H2 → H2 c = some (.tup ((ls.take k).map V.int)) → Q (.ref c) H2) :
    rSlA K (.ref a) none (some (k : Int)) H Q := by
  refine ⟨a, _, rfl, SqT.of h, fun e => ?_, fun _ p hp => ?_⟩
  · refine q a H (Fr.refl _ _ _) ?_
    have e2 := e.2
    rw [HT.sIx_nat, List.length_map] at e2
    rw [List.take_of_length_le (by omega)]
    exact h
  · refine q p _ (Fr.new hp) ?_
    rw [upd_same, cut_take, List.map_take]
theorem dget {H : Hp} {a b : Addr} {p : Path} {m : Tab} (e : H a = some (.dT (enc m))) (eb : H b = some (.tup (p.map V.int))) : DGet H a (.ref b) ((look m p).map V.int) := by
  rw [← enc_look]
  exact DGet.t e (by rw [kp_V]; exact eb)
theorem dgetS {H : Hp} {a b : Addr} {p : Path} {m : Tab} {v : Int} (e : H a = some (.dT (enc m))) (eb : H b = some (.tup (p.map V.int))) (h : look m p = some v) : DGet H a (.ref b) (some (.int v)) := by
  have d := dget e eb
  rw [h] at d
  exact d
theorem dputP {H : Hp} {a b : Addr} {p : Path} {m : Tab} {v : Int} (e : H a = some (.dT (enc m))) (eb : H b = some (.tup (p.map V.int))) (hl : m.length < sizeLine) : DPut H a (.ref b) (.int v) (upd H a (.dT (enc (put m p v)))) := by
  rw [← enc_put]
  exact DPut.t e (by rw [kp_V]; exact eb) (by rw [enc_length]; exact hl)
theorem some_map {m : Tab} {p : Path} : V.bl ((look m p).map V.int).isSome = V.bl (look m p).isSome := by rw [Option.isSome_map]
/-- a list or a tuple of these ints -/
def SeqAt2 (H : Hp) (a : Addr) (ls : List Int) : Prop := H a = some (.lst (ls.map V.int)) ∨ H a = some (.tup (ls.map V.int))
/-- tuple(..), list(..) of a list or a tuple -/
def rTupOf (K : PySem.W.Frag) : List V → Hp → VK → Prop := fun xs H Q => ∃ p ys, xs = [V.ref p] ∧ ((SqL K H p ys ∧ ∀ l, H l = none → Q (.ref l) (upd H l (.tup ys))) ∨ (SqT K H p ys ∧ Q (.ref p) H))
theorem cr_tupOf {X : Cx} : CallR X (.type "tuple") (rTupOf X.K) := call_tuple_of
def rLstOf (K : PySem.W.Frag) : List V → Hp → VK → Prop := fun xs H Q => ∃ p ys, xs = [V.ref p] ∧ (SqL K H p ys ∨ SqT K H p ys) ∧ ∀ l, H l = none → Q (.ref l) (upd H l (.lst ys))
theorem cr_lstOf {X : Cx} : CallR X (.type "list") (rLstOf X.K) := call_list_of
/-- tuple(letters) -/
theorem tupOf {K : PySem.W.Frag} {A : Ad} {σ : L2.St} {H : Hp} {a : Addr} {ls : List Int} {Q : VK} (h : SeqAt2 H a ls) (q : ∀ c H2, Fr A [] H H2 → H2 c = some (.tup (ls.map V.int)) → Q (.ref c) H2) :
    tNil σ H fun xs H2 => rTupOf K (V.ref a :: xs) H2 Q := by
  rcases h with h | h
  · exact ⟨a, _, rfl, .inl ⟨SqL.of h, fun l hl => q l _ (Fr.new hl) upd_same⟩⟩
  · exact ⟨a, _, rfl, .inr ⟨SqT.of h, q a H (Fr.refl _ _ _) h⟩⟩

section
variable {P : Program} {w : World} {K : PySem.W.Frag} {mg : Str → Option Value} {base : Heap} {t : Tx}
def spBeg (t : Tx) : Sp := fun vs H Q _ => ∃ (A : Ad) (pa : List Path) (un ud : Tab) (ck : Int) (cs : List Int) (rs : List (List (List Int))) (a : Addr) (ls : List Int) (n : Nat), vs = [.ref (A.a 4), .ref a] ∧ A.Ok ∧ Live A H ∧ StoreAt t.S A H cs rs ∧ TreeAt t.T A H pa un ud ck ∧
  SeqAt2 H a ls ∧ ls.length ≤ 1000 ∧ IsBeg A.size un ls n ∧
  ∀ (l : Addr) (bs : List AP') (H' : Hp), H' l = some (.lst (refs bs)) → Tups H' bs → bs.map (fun b => b.2) = pres A.size ls n → New A l → Fr A [] H H' → Q (.ref l) H'
theorem ok_beg (T : Txt K mg t) : FnOk P w K mg base CX0 1 t.tBeg t.tBegD ["self", "letters"] (spBeg t) := by
  refine T.F_tBeg.ok scTBeg (fun vs H Q E h => ?_) (fun cdv Ar outer s H vs Q E hr h => ?_)
  · obtain ⟨A, pa, un, ud, ck, cs, rs, a, ls, n, rfl, _⟩ := h
    rfl
  · obtain ⟨A, pa, un, ud, ck, cs, rs, a, ls, n, rfl, ok, lv, S, R, hls, hlen, hb, k⟩ := h
    have hu := hu_of hr
    refine ⟨_, pss_cons (ps_set (i := 1) scTBeg.nd rfl (.inl rfl) (pe_callTy cr_tupOf (by rfl) T.g_tuple PyProof.Rows.boot_tuple (pa_cons (pv 1) pa_nil)))
      (pss_cons (ps_set (i := 2) scTBeg.nd rfl (.inl rfl) (pe_lst pa_nil))
      (pss_cons (ps_set (i := 3) scTBeg.nd rfl (.inl rfl) (pe_fld (pe_fld (pv 0) rfl) rfl))
      (pss_cons (ps_while PassesOwn.never (PW.pt (pw_and (pt_cmpR op_le (pv 3) (pe_callB call_len_seq (by rfl) T.g_len PySem.boot_len (pa_cons (pv 1) pa_nil)) (nomark _))
          (pw_and1 (pt_cmp (pc_din hu (pe_slice sl_tupA (pv 1) po_none (po_some (pv 3))) (pe_fld (pv 0) rfl))))))
        (pss_cons (ps_expr (pe_bm PySem.F.plainAttrs_list PySem.F.slot_list_append PySem.F.type_list_append mt_append (pv 2) (pa_cons (pe_slice sl_tupA (pv 1) po_none (po_some (pv 3))) pa_nil)))
        (pss_one (ps_aug (i := 3) scTBeg.nd rfl (.inl rfl) (pe_fld (pe_fld (pv 0) rfl) rfl) ip_add))))
      (pss_one (ps_ret (pv 2)))))), ?_⟩
    refine ⟨_, rfl, tupOf (A := A) hls fun c H1 x1 hc => ?_⟩
    refine ⟨Nat.zero_le _, fun l nl => ?_⟩
    have x2 : Fr A [] H (upd H1 l (.lst [])) := x1.trans (Fr.new nl)
    have newl : New A l := (lv.fr x1).new nl
    have hl2 : upd H1 l (.lst []) l = some (.lst []) := upd_same
    have hc2 : upd H1 l (.lst []) c = some (.tup (ls.map V.int)) := by
      rw [upd_ne (ne_of_none hc nl)]
      exact hc
    generalize upd H1 l (.lst []) = H2 at x2 hl2 hc2
    obtain ⟨dx, lp, bs0, g1, g2, g3, g4, g5⟩ := (R.fr ok x2).ob
    obtain ⟨dy, ho⟩ := (S.fr ok x2).ob
    refine ⟨_, rfl, A.a 4, t.T, dx, _, _, rfl, g1, T.clT, T.nT_store, tf_store A _ _, A.a 0, t.S, dy, _, _, rfl, ho, T.clS, T.nS_size, sf_size A, ?_⟩
    have s1 := ok.s1
    refine ⟨fun m σ H' => ∃ (i : Nat) (bs : List AP'), m = n - i ∧ i ≤ n ∧ σ = [some (.ref (A.a 4)), some (.ref c), some (.ref l), some (.int (((i + 1) * A.size : Nat) : Int))] ∧ H' l = some (.lst (refs bs)) ∧ Tups H' bs ∧ bs.map (fun b => b.2) = pres A.size ls i ∧ Fr A [] H H' ∧ H' c = some (.tup (ls.map V.int)),
      ⟨n, 0, [], rfl, Nat.zero_le _, by rw [Nat.zero_add, Nat.one_mul]; rfl, hl2, fun _ h => (nomatch h), rfl, x2, hc2⟩, ?_⟩
    rintro m σ H3 ⟨i, bs, rfl, hi, rfl, hl3, ht3, hm3, x3, hc3⟩
    have R3 := R.fr ok x3
    have S3 := S.fr ok x3
    obtain ⟨dx3, lp3, bs3, g1, g2, g3, g4, g5⟩ := R3.ob
    obtain ⟨dy3, ho3⟩ := S3.ob
    have bl : bs.length = i := by
      have := congrArg List.length hm3
      rwa [List.length_map, pres_length] at this
    have nle := beg_le s1 hb
    refine ⟨_, rfl, _, rfl, c, _, rfl, .inr (SqT.of hc3), _, _, rfl, rfl, decide ((i + 1) * A.size ≤ ls.length), ?_, ite2 (fun z => ?_) (fun z => ?_)⟩
    · rw [List.length_map]
      exact congrArg V.bl (decide_eq_decide.mpr Int.ofNat_le)
    · have z := of_decide_eq_true z
      refine ⟨_, rfl, _, rfl, _, rfl, slT (A := A) hc3 fun d H4 x4 hd => ?_⟩
      have R4 := R3.fr ok x4
      obtain ⟨dx4, lp4, bs4, e1, e2, e3, e4, e5⟩ := R4.ob
      refine ⟨_, rfl, A.a 4, t.T, dx4, _, _, rfl, e1, T.clT, T.nT_under, tf_under A _ _, A.a 5, _, rfl, dget R4.un hd, _, some_map, ite2 (fun y => ?_) (fun y => ?_)⟩
      · -- one more
        have ilt : i < n := by
          rcases Nat.lt_or_ge i n with q | q
          · exact q
          · have ei : i = n := by omega
            subst ei
            exact absurd ⟨z, y⟩ hb.stop
        have x34 := x3.trans x4
        have hl4 := x4.own newl hl3
        have hc4 := x4.tup _ _ hc3
        have ht4 := ht3.fr x4
        refine ⟨fun σ' H' => ∃ (bs : List AP'), σ' = [some (.ref (A.a 4)), some (.ref c), some (.ref l), some (.int (((i + 1 + 1) * A.size : Nat) : Int))] ∧ H' l = some (.lst (refs bs)) ∧ Tups H' bs ∧ bs.map (fun b => b.2) = pres A.size ls (i + 1) ∧ Fr A [] H H' ∧ H' c = some (.tup (ls.map V.int)),
          fun σ' H' ⟨bs', q1, q2, q3, q4, q5, q6⟩ => ⟨n - (i + 1), by omega, i + 1, bs', rfl, ilt, q1, q2, q3, q4, q5, q6⟩, ?_⟩
        refine ⟨_, rfl, .inl ⟨rfl, _, SqL.of hl4⟩, _, rfl, _, rfl, _, rfl, slT (A := A) hc4 fun d5 H5 x5 hd5 => ?_⟩
        have hl5 := x5.own newl hl4
        refine ⟨l, _, _, rfl, rfl, hl5, by rw [refs_len, bl, sizeLine_eq]; omega, ?_⟩
        have nfree : H l = none := x1.free nl
        have x6 : Fr A [] H (upd H5 l (.lst (refs bs ++ [V.ref d5]))) := (x34.trans x5).loc nfree
        have nc : ∀ {q : Addr} {xs : List V}, H5 q = some (.tup xs) → upd H5 l (.lst (refs bs ++ [V.ref d5])) q = some (.tup xs) := fun {q xs} e => by
          rw [upd_ne (ne_of e hl5 fun z => nomatch z)]
          exact e
        obtain ⟨dx6, lp6, bs6, e1, _⟩ := (R.fr ok x6).ob
        obtain ⟨dy6, ho6⟩ := (S.fr ok x6).ob
        refine ⟨_, rfl, _, rfl, A.a 4, t.T, dx6, _, _, rfl, e1, T.clT, T.nT_store, tf_store A _ _, A.a 0, t.S, dy6, _, _, rfl, ho6, T.clS, T.nS_size, sf_size A, _, _, rfl, rfl, bs ++ [(d5, pre A.size ls (i + 1))], ?_, ?_, ?_, ?_, x6, nc (x5.tup _ _ hc4)⟩
        · have e : ((((i + 1) * A.size : Nat) : Int) + (A.size : Int)) = (((i + 1 + 1) * A.size : Nat) : Int) := by
            rw [Nat.succ_mul (i + 1)]
            omega
          exact congrArg (fun z : Int => [some (V.ref (A.a 4)), some (V.ref c), some (V.ref l), some (V.int z)]) e
        · rw [upd_same]
          unfold refs
          rw [List.map_append]
          rfl
        · exact Tups.snoc (fun b hb => nc (ht4.fr x5 b hb)) (nc hd5)
        · rw [List.map_append, hm3, pres_succ]
          rfl
      · -- the end: not in the tree
        have y : (look un (pre A.size ls (i + 1))).isSome = false := eq_false_of_ne_true y
        have ei : i = n := by
          rcases Nat.lt_or_ge i n with q | q
          · have := (hb.all i q).2
            rw [y] at this
            cases this
          · omega
        subst ei
        have x34 := x3.trans x4
        exact ⟨_, rfl, k l bs H4 (x4.own newl hl3) (ht3.fr x4) hm3 newl x34⟩
    · have z : ¬ (i + 1) * A.size ≤ ls.length := by simpa using z
      have ei : i = n := by
        rcases Nat.lt_or_ge i n with q | q
        · exact absurd (hb.all i q).1 z
        · omega
      subst ei
      exact iteF ⟨_, rfl, k l bs H3 hl3 ht3 hm3 newl x3⟩
end
end K23
namespace K23
open PySem L2

def lk (m : Tab) (p : Path) : Int := (look m p).getD 0
theorem look_lk {m : Tab} {p : Path} (h : (look m p).isSome = true) : look m p = some (lk m p) := by
  unfold lk
  cases e : look m p with
  | none =>
    rw [e] at h
    cases h
  | some v => rfl
theorem snd_take (bs : List AP') (i : Nat) : (bs.take i).map (fun b => b.2) = (bs.map fun b => b.2).take i := List.map_take
theorem take_succ' {α : Type} {l : List α} {i : Nat} {x : α} (h : l[i]? = some x) : l.take (i + 1) = l.take i ++ [x] := by
  obtain ⟨hl, he⟩ := List.getElem?_eq_some_iff.mp h
  rw [← he]
  exact (List.take_append_getElem hl).symm
theorem len100 {n : Nat} (h : n ≤ 100000) : n < sizeLine := by
  rw [sizeLine_eq]
  omega
section
variable {P : Program} {w : World} {K : PySem.W.Frag} {mg : Str → Option Value} {base : Heap} {t : Tx}
/-! ### use -/
def spUse (t : Tx) : Sp := fun vs H Q _ => ∃ (A : Ad) (pa : List Path) (un ud : Tab) (ck : Int) (l : Addr) (bs : List AP'), vs = [.ref (A.a 4), .ref l] ∧ A.Ok ∧ TreeAt t.T A H pa un ud ck ∧ H l = some (.lst (refs bs)) ∧ Tups H bs ∧ New A l ∧ ud.length + bs.length ≤ 100000 ∧
  ∀ H', TreeAt t.T A H' pa un (putAll ud (bs.map fun b => b.2) (ck + 1)) (ck + 1) → Fr A [4, 6] H H' → Q .non H'
theorem ok_use (T : Txt K mg t) : FnOk P w K mg base CX0 1 t.tUse t.tUseD ["self", "paths"] (spUse t) := by
  refine T.F_tUse.ok scTUse (fun vs H Q E h => ?_) (fun cdv Ar outer s H vs Q E hr h => ?_)
  · obtain ⟨A, pa, un, ud, ck, l, bs, rfl, _⟩ := h
    rfl
  · obtain ⟨A, pa, un, ud, ck, l, bs, rfl, ok, R, hl, ht, nl, hz, k⟩ := h
    have hu := hu_of hr
    obtain ⟨dx, lp, b0, g1, g2, g3, g4, g5⟩ := R.ob
    refine ⟨_, pss_cons (ps_fldaug (pv 0) pe_int in_add) (pss_one (ps_for PassesOwn.never rfl (pi_list (pv 1)) (pg_name (i := 2) scTUse.nd rfl (.inl rfl))
      (pss_one (ps_dput hu (pe_fld (pv 0) rfl) (pv 2) (pe_fld (pv 0) rfl) rfl)))), ?_⟩
    refine ⟨_, rfl, A.a 4, t.T, dx, _, _, rfl, g1, T.clT, T.nT_clock, tf_clock A _ _, _, _, rfl, rfl, dx, _, g1, (by show 5 < 1000; decide), ?_⟩
    rw [tf_putC]
    have x1 : Fr A [4] H (upd H (A.a 4) (.ins t.T dx (tf A lp (ck + 1)))) := Fr.upd g1 rfl
    have R1 : TreeAt t.T A (upd H (A.a 4) (.ins t.T dx (tf A lp (ck + 1)))) pa un ud (ck + 1) := ⟨⟨dx, lp, b0, upd_same, x1.own g5 g2, g3.fr x1, g4, g5⟩, x1.at ok 5 R.un, x1.at ok 6 R.ud⟩
    generalize upd H (A.a 4) (.ins t.T dx (tf A lp (ck + 1))) = H1 at x1 R1
    have y1 : Fr A [4, 6] H H1 := x1.mono
    refine ⟨_, rfl, l, rfl, ⟨_, SqL.of (x1.own nl hl)⟩, for_list (K := K) (a := l) (xs := refs bs) (fun i σ H' => ∃ v, σ = [some (.ref (A.a 4)), some (.ref l), v] ∧ TreeAt t.T A H' pa un (putAll ud ((bs.take i).map fun b => b.2) (ck + 1)) (ck + 1) ∧ Fr A [4, 6] H H')
      ⟨_, rfl, R1, y1⟩ (fun i σ H' _ ⟨_, _, _, x⟩ => SqL.of (x.own nl hl)) ?_ ?_⟩
    · rintro i y σ H' hi ⟨v, rfl, R2, x2⟩
      obtain ⟨b, hb, rfl⟩ := refs_get hi
      obtain ⟨dx2, lp2, b2, e1, e2, e3, e4, e5⟩ := R2.ob
      have hbt := x2.tup _ _ (ht b (List.mem_of_getElem? hb))
      have hlen : (putAll ud ((bs.take i).map fun b => b.2) (ck + 1)).length < sizeLine := by
        have h1 := putAll_length (ck + 1) ((bs.take i).map fun b => b.2) ud
        have h2 : ((bs.take i).map fun b => b.2).length ≤ bs.length := by
          rw [List.length_map, List.length_take]
          exact Nat.min_le_right _ _
        exact len100 (by omega)
      refine ⟨_, rfl, A.a 4, t.T, dx2, _, _, rfl, e1, T.clT, T.nT_clock, tf_clock A _ _, _, rfl, A.a 4, t.T, dx2, _, _, rfl, e1, T.clT, T.nT_used, tf_used A _ _, _, rfl, A.a 6, _, rfl, dputP R2.ud hbt hlen, ?_⟩
      have x3 : Fr A [6] H' (upd H' (A.a 6) (.dT (enc (put (putAll ud ((bs.take i).map fun b => b.2) (ck + 1)) b.2 (ck + 1))))) := Fr.upd R2.ud rfl
      refine ⟨_, rfl, ?_, x2.and x3⟩
      rw [take_succ' hb, List.map_append]
      rw [show [b].map (fun b => b.2) = [b.2] from rfl, putAll_snoc]
      exact ⟨⟨dx2, lp2, b2, x3.at ok 4 e1, x3.own e5 e2, e3.fr x3, e4, e5⟩, x3.at ok 5 R2.un, upd_same⟩
    · rintro σ H' ⟨v, rfl, R2, x2⟩
      rw [refs_len, List.take_of_length_le (Nat.le_refl _)] at R2
      exact k H' R2 x2
/-! ### known -/
def spKnown (t : Tx) : Sp := fun vs H Q _ => ∃ (A : Ad) (pa : List Path) (un ud : Tab) (ck : Int) (cs : List Int) (rs : List (List (List Int))) (a : Addr) (ls : List Int) (n : Nat), vs = [.ref (A.a 4), .ref a] ∧ A.Ok ∧ Live A H ∧ StoreAt t.S A H cs rs ∧ TreeAt t.T A H pa un ud ck ∧
  SeqAt2 H a ls ∧ ls.length ≤ 1000 ∧ IsBeg A.size un ls n ∧ ud.length ≤ 10000 ∧
  ∀ (q : Addr) (H' : Hp), H' q = some (.tup ((pres A.size ls n).map fun p => V.int (lk un p))) → TreeAt t.T A H' pa un (putAll ud (pres A.size ls n) (ck + 1)) (ck + 1) → Fr A [4, 6] H H' → Q (.ref q) H'
theorem ok_known (T : Txt K mg t) : FnOk P w K mg base CX0 2 t.tKnown t.tKnownD ["self", "letters"] (spKnown t) := by
  refine T.F_tKnown.ok scTKnown (fun vs H Q E h => ?_) (fun cdv Ar outer s H vs Q E hr h => ?_)
  · obtain ⟨A, pa, un, ud, ck, cs, rs, a, ls, n, rfl, _⟩ := h
    rfl
  · obtain ⟨A, pa, un, ud, ck, cs, rs, a, ls, n, rfl, ok, lv, S, R, hls, hlen, hb, hud, k⟩ := h
    have hu := hu_of hr
    obtain ⟨dx, lp, b0, g1, g2, g3, g4, g5⟩ := R.ob
    refine ⟨_, pss_cons (ps_set (i := 2) scTKnown.nd rfl (.inl rfl) (pe_meth (pv 0) T.clT T.m_tBeg (ok_beg T) hr T.b_tBeg .nil pass0 (pa_cons (pv 1) pa_nil)))
      (pss_cons (ps_expr (pe_meth (pv 0) T.clT T.m_tUse (ok_use T) hr T.b_tUse .nil pass0 (pa_cons (pv 2) pa_nil)))
      (pss_one (ps_ret (pe_callTy cr_tupOf (by rfl) T.g_tuple PyProof.Rows.boot_tuple (pa_cons (pe_lc (own := [("path", 3)]) (g := gName 3) (tt := tYes) (te := tDGet (tFld K (tVar 0) "under") (tVar 3)) (by rfl) scTKnown.nd (pi_list (pv 2)) (blkOk_by (own := [("path", 3)]) (N := ["self", "letters", "paths", "path"]) (sc := defScope sTKnown) (by decide +kernel))
        (fun _ _ _ _ _ => pg_name (i := 3) scTKnown.nd rfl (Or.inl rfl)) (fun _ _ _ _ _ => pts_nil) (fun _ _ _ _ _ => pe_dget (by exact hu) (pe_fld (pv 0) (by rfl)) (pv 3) (fun _ _ => rfl))) pa_nil))))), ?_⟩
    refine ⟨_, rfl, A.a 4, dx, _, rfl, g1, by kernel_rfl, _, rfl, A, pa, un, ud, ck, cs, rs, a, ls, n, rfl, ok, lv, S, R, hls, hlen, hb, fun l bs H1 hl ht hm nl x1 => ?_⟩
    have R1 := R.fr ok x1
    obtain ⟨dx1, lp1, b1, e1, e2, e3, e4, e5⟩ := R1.ob
    have nle := beg_le ok.s1 hb
    have bl : bs.length = n := by
      have := congrArg List.length hm
      rwa [List.length_map, pres_length] at this
    refine ⟨_, rfl, A.a 4, dx1, _, rfl, e1, by kernel_rfl, _, rfl, A, pa, un, ud, ck, l, bs, rfl, ok, R1, hl, ht, nl, by omega, fun H2 R2 x2 => ?_⟩
    rw [hm] at R2
    have hl2 := x2.own nl hl
    have ht2 := ht.fr x2
    refine ⟨_, rfl, l, rfl, ⟨_, SqL.of hl2⟩, fun D nD => ?_⟩
    have x3 : Fr A [4, 6] H H2 := x1.and x2
    have newD : New A D := (lv.fr x3).new nD
    have inm : ∀ b ∈ bs, (look un b.2).isSome = true := fun b hb' => by
      have hb2 : b.2 ∈ pres A.size ls n := by
        rw [← hm]
        exact List.mem_map.mpr ⟨b, hb', rfl⟩
      obtain ⟨j, hj, ej⟩ := mem_pres.mp hb2
      rw [ej]
      exact (hb.all j hj).2
    refine lc_list (K := K) (a := l) (xs := refs bs) (fun i H' => H' = upd H2 D (.lst ((bs.take i).map fun b => V.int (lk un b.2)))) rfl (fun i H' _ e => by rw [e]; exact SqL.of (by rw [upd_ne (ne_of_none hl2 nD)]; exact hl2)) ?_ ?_
    · rintro i y H' hi rfl
      obtain ⟨b, hb', rfl⟩ := refs_get hi
      have bm := List.mem_of_getElem? hb'
      have x4 : Fr A [] H2 (upd H2 D (.lst ((bs.take i).map fun b => V.int (lk un b.2)))) := Fr.new nD
      have R4 := R2.fr ok x4
      obtain ⟨dx4, lp4, b4, f1, _⟩ := R4.ob
      refine ⟨rfl, _, rfl, A.a 4, t.T, dx4, _, _, rfl, f1, T.clT, T.nT_under, tf_under A _ _, _, rfl, A.a 5, _, rfl, dgetS R4.un (x4.tup _ _ (ht2 b bm)) (look_lk (inm b bm)), _, upd_same, ?_, ?_⟩
      · rw [List.length_map, List.length_take]
        exact len100 (by omega)
      · rw [upd_upd, take_succ' hb', List.map_append]
        rfl
    · rintro H' rfl
      rw [refs_len, List.take_of_length_le (Nat.le_refl _)]
      have x4 : Fr A [] H2 (upd H2 D (.lst (bs.map fun b => V.int (lk un b.2)))) := Fr.new nD
      have eD : upd H2 D (.lst (bs.map fun b => V.int (lk un b.2))) D = some (.lst (bs.map fun b => V.int (lk un b.2))) := upd_same
      generalize upd H2 D (.lst (bs.map fun b => V.int (lk un b.2))) = H4 at x4 eD
      refine ⟨D, _, rfl, .inl ⟨SqL.of eD, fun q nq => ?_⟩⟩
      have x5 : Fr A [] H4 (upd H4 q (.tup (bs.map fun b => V.int (lk un b.2)))) := Fr.new nq
      have x45 := x4.trans x5
      refine k q _ ?_ (R2.fr ok x45) (x3.and x45)
      rw [upd_same, ← hm, List.map_map]
      rfl
/-! ### __len__, __iter__ -/
def spTLen (t : Tx) : Sp := fun vs H Q _ => ∃ (A : Ad) (pa : List Path) (un ud : Tab) (ck : Int), vs = [.ref (A.a 4)] ∧ TreeAt t.T A H pa un ud ck ∧ Q (.int pa.length) H
theorem ok_tlen (T : Txt K mg t) : FnOk P w K mg base CX0 1 t.tLen t.tLenD ["self"] (spTLen t) := by
  refine T.F_tLen.ok scTLen (fun vs H Q E h => ?_) (fun cdv Ar outer s H vs Q E hr h => ?_)
  · obtain ⟨A, pa, un, ud, ck, rfl, _⟩ := h
    rfl
  · obtain ⟨A, pa, un, ud, ck, rfl, R, k⟩ := h
    obtain ⟨dx, lp, b0, g1, g2, g3, g4, g5⟩ := R.ob
    refine ⟨_, pss_one (ps_ret (pe_callB call_len_seq (by rfl) T.g_len PySem.boot_len (pa_cons (pe_fld (pv 0) rfl) pa_nil))), ?_⟩
    refine ⟨_, rfl, A.a 4, t.T, dx, _, _, rfl, g1, T.clT, T.nT_paths, tf_paths A _ _, lp, _, rfl, .inl (SqL.of g2), ?_⟩
    have e : (refs b0).length = pa.length := by rw [refs_len, ← g4, List.length_map]
    rw [e]
    exact k
def spTIter (t : Tx) : Sp := fun vs H Q _ => ∃ (A : Ad) (pa : List Path) (un ud : Tab) (ck : Int), vs = [.ref (A.a 4)] ∧ TreeAt t.T A H pa un ud ck ∧
  ∀ (l : Addr) (bs : List AP') (it : Addr), H l = some (.lst (refs bs)) → Tups H bs → bs.map (fun b => b.2) = pa → New A l → (∃ dx, H (A.a 4) = some (.ins t.T dx (tf A l ck))) → H it = none → Q (.ref it) (upd H it (ItO l it 0))
theorem ok_titer (T : Txt K mg t) : FnOk P w K mg base CX0 1 t.tIter t.tIterD ["self"] (spTIter t) := by
  refine T.F_tIter.ok scTIter (fun vs H Q E h => ?_) (fun cdv Ar outer s H vs Q E hr h => ?_)
  · obtain ⟨A, pa, un, ud, ck, rfl, _⟩ := h
    rfl
  · obtain ⟨A, pa, un, ud, ck, rfl, R, k⟩ := h
    obtain ⟨dx, lp, b0, g1, g2, g3, g4, g5⟩ := R.ob
    refine ⟨_, pss_one (ps_ret (pe_callB call_iterL (by rfl) T.g_iter PyProof.Rows.boot_iter (pa_cons (pe_fld (pv 0) rfl) pa_nil))), ?_⟩
    exact ⟨_, rfl, A.a 4, t.T, dx, _, _, rfl, g1, T.clT, T.nT_paths, tf_paths A _ _, lp, _, rfl, SqL.of g2, fun it ni => k lp b0 it g2 g3 g4 g5 ⟨dx, g1⟩ ni⟩
/-! ### oldest_of -/
def spOldest (t : Tx) : Sp := fun vs H Q _ => ∃ (A : Ad) (pa : List Path) (un ud : Tab) (ck : Int) (l : Addr) (bs : List AP') (best : Path), vs = [.ref (A.a 4), .ref l] ∧ TreeAt t.T A H pa un ud ck ∧ H l = some (.lst (refs bs)) ∧ Tups H bs ∧ (∀ b ∈ bs, (look ud b.2).isSome = true) ∧
  argm (lk ud) (bs.map fun b => b.2) = some best ∧ ∀ b ∈ bs, b.2 = best → Q (.ref b.1) H
theorem ok_oldest (T : Txt K mg t) : FnOk P w K mg base CX0 1 t.tOldest t.tOldestD ["self", "paths"] (spOldest t) := by
  refine T.F_tOldest.ok scTOldest (fun vs H Q E h => ?_) (fun cdv Ar outer s H vs Q E hr h => ?_)
  · obtain ⟨A, pa, un, ud, ck, l, bs, best, rfl, _⟩ := h
    rfl
  · obtain ⟨A, pa, un, ud, ck, l, bs, best, rfl, R, hl, ht, hu', ha, k⟩ := h
    have hu := hu_of hr
    obtain ⟨dx, lp, b0, g1, g2, g3, g4, g5⟩ := R.ob
    cases bs with
    | nil => exact nomatch ha
    | cons c cs =>
      refine ⟨_, pss_cons (ps_set (i := 2) scTOldest.nd rfl (.inl rfl) (pe_ix ix_list (pv 1) pe_int (fun _ _ => rfl)))
        (pss_cons (ps_for PassesOwn.never rfl (pi_list (pv 1)) (pg_name (i := 3) scTOldest.nd rfl (.inl rfl))
          (pss_one (ps_if (pt_cmpR op_lt (pe_dget hu (pe_fld (pv 0) rfl) (pv 3) (fun _ _ => rfl)) (pe_dget hu (pe_fld (pv 0) rfl) (pv 2) (fun _ _ => rfl)) (nomark _)) (pss_one (ps_set (i := 2) scTOldest.nd rfl (.inl rfl) (pv 3))) pss_nil)))
        (pss_one (ps_ret (pv 2)))), ?_⟩
      have h0 : atI (refs (c :: cs)) 0 = some (.ref c.1) := at_of (j := 0) rfl rfl
      refine ⟨_, rfl, l, _, _, _, rfl, rfl, SqL.of hl, h0, ?_⟩
      refine ⟨_, rfl, l, rfl, ⟨_, SqL.of hl⟩, for_list (K := K) (a := l) (xs := refs (c :: cs)) (fun i σ H' => H' = H ∧ ∃ (v : Option V) (b : AP'), σ = [some (.ref (A.a 4)), some (.ref l), some (.ref b.1), v] ∧ b ∈ c :: cs ∧
        ((((c :: cs).map fun b => b.2).take i).foldl (least (lk ud)) (some c.2)) = some b.2) ⟨rfl, _, c, rfl, List.mem_cons_self, rfl⟩ (fun i σ H' _ ⟨e, _⟩ => by rw [e]; exact SqL.of hl) ?_ ?_⟩
      · rintro i y σ H' hi ⟨rfl, v, b, rfl, hb, hf⟩
        obtain ⟨d, hd, rfl⟩ := refs_get hi
        have dm := List.mem_of_getElem? hd
        have hd2 : ((c :: cs).map fun b => b.2)[i]? = some d.2 := by rw [List.getElem?_map, hd]; rfl
        have step : (((c :: cs).map fun b => b.2).take (i + 1)).foldl (least (lk ud)) (some c.2) = least (lk ud) (some b.2) d.2 := by
          rw [take_succ' hd2, List.foldl_append, hf]
          rfl
        refine ⟨_, rfl, A.a 4, t.T, dx, _, _, rfl, g1, T.clT, T.nT_used, tf_used A _ _, _, rfl, A.a 6, _, rfl, dgetS R.ud (ht d dm) (look_lk (hu' d dm)), _, rfl, A.a 4, t.T, dx, _, _, rfl, g1, T.clT, T.nT_used, tf_used A _ _, _, rfl, A.a 6, _, rfl, dgetS R.ud (ht b hb) (look_lk (hu' b hb)),
          _, _, rfl, rfl, _, rfl, ite2 (fun z => ?_) (fun z => ?_)⟩
        · have z := of_decide_eq_true z
          refine ⟨_, rfl, rfl, _, d, rfl, dm, ?_⟩
          rw [step]
          exact if_pos z
        · have z : ¬ lk ud d.2 < lk ud b.2 := by simpa using z
          refine ⟨rfl, _, b, rfl, hb, ?_⟩
          rw [step]
          exact if_neg z
      · rintro σ H' ⟨rfl, v, b, rfl, hb, hf⟩
        refine ⟨_, rfl, k b hb ?_⟩
        rw [refs_len, List.take_of_length_le (by rw [List.length_map]; exact Nat.le_refl _)] at hf
        have e := argm_head (lk ud) c.2 (cs.map fun b => b.2)
        have e2 : ((c :: cs).map fun b => b.2) = c.2 :: cs.map fun b => b.2 := rfl
        rw [e2] at hf ha
        rw [e, ha] at hf
        exact (Option.some.inj hf).symm
end
end K23
namespace K23
open PySem L2

/-- what the new dict of ends_of holds: the paths without their last blocks -/
def HasB (kvs : List (List L2.Key × V)) (ps : List Path) : Prop := ∀ p : Path, (valV kvs (kp p)).isSome = decide (p ∈ ps)
theorem HasB.put {kvs : List (List L2.Key × V)} {ps : List Path} (h : HasB kvs ps) (q : Path) (v : V) : HasB (putK kvs (kp q) v) (ps ++ [q]) := fun p => by
  rw [valV_put]
  by_cases e : p = q
  · rw [if_pos (by rw [e])]
    exact (decide_eq_true (by rw [e]; simp)).symm
  · rw [if_neg fun z => e (kp_inj z), h p]
    exact decide_eq_decide.mpr ⟨fun z => List.mem_append_left _ z, fun z => by
      rcases List.mem_append.mp z with z | z
      · exact z
      · exact absurd (List.mem_singleton.mp z) e⟩
theorem filt_pos {p : AP' → Bool} {b : AP'} (h : p b = true) : [b].filter p = [b] := by
  rw [List.filter_cons_of_pos h]
  rfl
theorem filt_neg {p : AP' → Bool} {b : AP'} (h : ¬ p b = true) : [b].filter p = [] := by
  rw [List.filter_cons_of_neg h]
  rfl
section
variable {P : Program} {w : World} {K : PySem.W.Frag} {mg : Str → Option Value} {base : Heap} {t : Tx}
def spEnds (t : Tx) : Sp := fun vs H Q _ => ∃ (A : Ad) (pa : List Path) (un ud : Tab) (ck : Int) (cs : List Int) (rs : List (List (List Int))) (l : Addr) (bs : List AP'), vs = [.ref (A.a 4), .ref l] ∧ A.Ok ∧ Live A H ∧ StoreAt t.S A H cs rs ∧ TreeAt t.T A H pa un ud ck ∧
  H l = some (.lst (refs bs)) ∧ Tups H bs ∧ (∀ b ∈ bs, A.size ≤ b.2.length) ∧ bs.length ≤ 1000 ∧
  ∀ (l' : Addr) (H' : Hp), H' l' = some (.lst (refs (bs.filter fun b => leaf A.size (bs.map fun b => b.2) b.2))) → New A l' → Fr A [] H H' → Q (.ref l') H'
theorem ok_ends (T : Txt K mg t) : FnOk P w K mg base CX0 1 t.tEnds t.tEndsD ["self", "paths"] (spEnds t) := by
  refine T.F_tEnds.ok scTEnds (fun vs H Q E h => ?_) (fun cdv Ar outer s H vs Q E hr h => ?_)
  · obtain ⟨A, pa, un, ud, ck, cs, rs, l, bs, rfl, _⟩ := h
    rfl
  · obtain ⟨A, pa, un, ud, ck, cs, rs, l, bs, rfl, ok, lv, S, R, hl, ht, hsz, hlen, k⟩ := h
    have hu := hu_of hr
    refine ⟨_, pss_cons (ps_set (i := 2) scTEnds.nd rfl (.inr rfl) (pe_dcT (own := [("path", 3)]) (g := gName 3) (tt := tYes) (tk := tSl (rSlA K) (tVar 3) tNoPart (tPart (tOp (rI0 fun i j => .int (i - j)) (tCB (fun xs H Q => ∃ p ys, xs = [.ref p] ∧ (SqL K H p ys ∨ SqT K H p ys) ∧ Q (.int ys.length) H) (tCons (tVar 3) tNil)) (tFld K (tFld K (tVar 0) "store") "size")))) (tv := tC (.bl true))
        (by rfl) scTEnds.nd hr.units0 (pi_list (pv 1)) (blkOk_by (own := [("path", 3)]) (N := ["self", "paths", "ahead", "path"]) (sc := defScope sTEnds) (by decide +kernel))
        (fun _ _ _ _ _ => pg_name (i := 3) scTEnds.nd rfl (Or.inl rfl)) (fun _ _ _ _ _ => pts_nil)
        (fun _ _ _ _ _ => pe_slice sl_tupA (pv 3) po_none (po_some (pe_op op_sub (pe_callB call_len_seq (by rfl) T.g_len PySem.boot_len (pa_cons (pv 3) pa_nil)) (pe_fld (pe_fld (pv 0) (by rfl)) (by rfl))))) (fun _ _ _ _ _ => pe_bl)))
      (pss_one (ps_ret (pe_lc (own := [("path", 3)]) (g := gName 3) (tt := tB (tDNotIn (tVar 3) (tVar 2))) (te := tVar 3) (by rfl) scTEnds.nd (pi_list (pv 1)) (blkOk_by (own := [("path", 3)]) (N := ["self", "paths", "ahead", "path"]) (sc := defScope sTEnds) (by decide +kernel))
        (fun _ _ _ _ _ => pg_name (i := 3) scTEnds.nd rfl (Or.inl rfl)) (fun _ _ _ _ _ => pts_one (pt_cmp (pc_dnotin (by exact hu) (pv 3) (pv 2)))) (fun _ _ _ _ _ => pv 3)))), ?_⟩
    refine ⟨_, rfl, l, rfl, ⟨_, SqL.of hl⟩, fun D nD => ?_⟩
    have nlD : l ≠ D := ne_of_none hl nD
    refine dcT_list (K := K) (a := l) (xs := refs bs) (fun i H' => ∃ kvs, H' D = some (.dT kvs) ∧ kvs.length ≤ i ∧ HasB kvs (((bs.take i).map fun b => b.2).map (ahd A.size)) ∧ Same H H' ∧ Fr A [] H H') ?_ ?_ ?_ ?_
    · have x : Fr A [] H (upd H D (.dT [])) := Fr.new nD
      exact ⟨[], upd_same, Nat.zero_le _, fun p => rfl, fun b o e => by rw [upd_ne (ne_of_none e nD)]; exact e, x⟩
    · rintro i H' _ ⟨kvs, _, _, _, sm, _⟩
      exact SqL.of (sm _ _ hl)
    · rintro i y H' hi ⟨kvs, hD, hk, hh, sm, x⟩
      obtain ⟨b, hb, rfl⟩ := refs_get hi
      have bm := List.mem_of_getElem? hb
      have S1 := S.fr ok x
      have R1 := R.fr ok x
      obtain ⟨dx, lp, b0, g1, _⟩ := R1.ob
      obtain ⟨dy, ho⟩ := S1.ob
      have hbt := sm _ _ (ht b bm)
      have il : i < bs.length := get_lt hb
      have e1 : ((b.2.map V.int).length : Int) - (A.size : Int) = ((b.2.length - A.size : Nat) : Int) := by
        have := hsz b bm
        rw [List.length_map]
        omega
      have step : ∀ c H2, Fr A [] H' H2 → Same H' H2 → H2 c = some (.tup ((b.2.take (b.2.length - A.size)).map V.int)) → turnT D tYes (fun _ H2 Q => Q (.ref c) H2) (tC (.bl true)) (fun H' => ∃ kvs, H' D = some (.dT kvs) ∧ kvs.length ≤ i + 1 ∧ HasB kvs (((bs.take (i + 1)).map fun b => b.2).map (ahd A.size)) ∧ Same H H' ∧ Fr A [] H H') [] H2 := by
        intro c H2 x2 sm2 hc
        have hD2 := sm2 _ _ hD
        refine ⟨kvs, kp (ahd A.size b.2), c, rfl, (by rw [kp_V]; exact hc), hD2, len100 (by omega), ?_⟩
        refine ⟨_, upd_same, ?_, ?_, fun q o e => ?_, (x.trans x2).loc nD⟩
        · have := length_putK kvs (kp (ahd A.size b.2)) (V.bl true)
          omega
        · rw [take_succ' hb, List.map_append, List.map_append]
          exact hh.put _ _
        · rw [upd_ne (ne_of_none e nD)]
          exact sm2 _ _ (sm _ _ e)
      refine ⟨rfl, _, rfl, _, rfl, b.1, _, rfl, .inr (SqT.of hbt), _, rfl, A.a 4, t.T, dx, _, _, rfl, g1, T.clT, T.nT_store, tf_store A _ _, A.a 0, t.S, dy, _, _, rfl, ho, T.clS, T.nS_size, sf_size A, _, _, rfl, rfl, _, rfl, ?_⟩
      show rSlA K (.ref b.1) none (some (((b.2.map V.int).length : Int) - (A.size : Int))) H' _
      rw [e1]
      refine ⟨b.1, _, rfl, SqT.of hbt, fun e => ?_, fun _ p hp => ?_⟩
      · have e2 := e.2
        rw [HT.sIx_nat, List.length_map] at e2
        refine step b.1 H' (Fr.refl _ _ _) (Same.refl _) ?_
        rw [List.take_of_length_le (by omega)]
        exact hbt
      · refine step p _ (Fr.new hp) (fun q o e => by rw [upd_ne (ne_of_none e hp)]; exact e) ?_
        rw [upd_same, cut_take, List.map_take]
    · rintro H1 ⟨kvs, hD, hk, hh, sm, x⟩
      rw [refs_len, List.take_of_length_le (Nat.le_refl _)] at hh
      have hl1 := sm _ _ hl
      refine ⟨_, rfl, l, rfl, ⟨_, SqL.of hl1⟩, fun M nM => ?_⟩
      have newM : New A M := (lv.fr x).new nM
      have nDM : D ≠ M := ne_of_none hD nM
      refine lc_list (K := K) (a := l) (xs := refs bs) (fun i H' => H' = upd H1 M (.lst (refs ((bs.take i).filter fun b => leaf A.size (bs.map fun b => b.2) b.2)))) rfl (fun i H' _ e => by rw [e]; exact SqL.of (by rw [upd_ne (ne_of_none hl1 nM)]; exact hl1)) ?_ ?_
      · rintro i y H' hi rfl
        obtain ⟨b, hb, rfl⟩ := refs_get hi
        have bm := List.mem_of_getElem? hb
        have hbt := sm _ _ (ht b bm)
        refine ⟨rfl, _, rfl, _, rfl, D, _, rfl, .inr ⟨kvs, kp b.2, b.1, .inl (by rw [upd_ne nDM]; exact hD), rfl, by rw [upd_ne (ne_of_none hbt nM), kp_V]; exact hbt, rfl⟩, leaf A.size (bs.map fun b => b.2) b.2, ?_, ite2 (fun z => ?_) (fun z => ?_)⟩
        · rw [hh b.2]
          rfl
        · refine ⟨_, rfl, _, upd_same, ?_, ?_⟩
          · rw [refs_len]
            have h1 := List.length_filter_le (fun b : AP' => leaf A.size (bs.map fun b => b.2) b.2) (bs.take i)
            have h2 : (bs.take i).length ≤ bs.length := by
              rw [List.length_take]
              exact Nat.min_le_right _ _
            exact len100 (by omega)
          · rw [upd_upd, take_succ' hb, List.filter_append, filt_pos (p := fun b : AP' => leaf A.size (bs.map fun b => b.2) b.2) z]
            unfold refs
            rw [List.map_append]
            rfl
        · rw [take_succ' hb, List.filter_append, filt_neg (p := fun b : AP' => leaf A.size (bs.map fun b => b.2) b.2) z, List.append_nil]
      · rintro H' rfl
        rw [refs_len, List.take_of_length_le (Nat.le_refl _)]
        exact k M _ upd_same newM (x.trans (Fr.new nM))
/-! ### Tree(store) -/
def spTInit (t : Tx) : Sp := fun vs H Q _ => ∃ (x dx st : Addr), vs = [.ref x, .ref st] ∧ H x = some (.ins t.T dx []) ∧
  ∀ (l un ud : Addr) (H' : Hp), H' x = some (.ins t.T dx [("store", .ref st), ("paths", .ref l), ("under", .ref un), ("used", .ref ud), ("clock", .int 0)]) → H' l = some (.lst []) → H' un = some (.dT []) → H' ud = some (.dT []) →
    H l = none → H un = none → H ud = none → l ≠ un → l ≠ ud → un ≠ ud → (∀ b o, H b = some o → b ≠ x → H' b = some o) → Q .non H'
theorem ti1 (a : Addr) : putF "store" (.ref a) [] = [(("store" : Str), V.ref a)] := by kernel_rfl
theorem ti2 (a b : Addr) : putF "paths" (.ref b) [(("store" : Str), V.ref a)] = [(("store" : Str), V.ref a), ("paths", .ref b)] := by kernel_rfl
theorem ti3 (a b c : Addr) : putF "under" (.ref c) [(("store" : Str), V.ref a), ("paths", .ref b)] = [(("store" : Str), V.ref a), ("paths", .ref b), ("under", .ref c)] := by kernel_rfl
theorem ti4 (a b c d : Addr) : putF "used" (.ref d) [(("store" : Str), V.ref a), ("paths", .ref b), ("under", .ref c)] = [(("store" : Str), V.ref a), ("paths", .ref b), ("under", .ref c), ("used", .ref d)] := by kernel_rfl
theorem ti5 (a b c d : Addr) : putF "clock" (.int 0) [(("store" : Str), V.ref a), ("paths", .ref b), ("under", .ref c), ("used", .ref d)] = [(("store" : Str), V.ref a), ("paths", .ref b), ("under", .ref c), ("used", .ref d), ("clock", .int 0)] := by kernel_rfl
theorem ok_tinit (T : Txt K mg t) : FnOk P w K mg base CX0 1 t.tInit t.tInitD ["self", "store"] (spTInit t) := by
  refine T.F_tInit.ok scTInit (fun vs H Q E h => ?_) (fun cdv Ar outer s H vs Q E hr h => ?_)
  · obtain ⟨x, dx, st, rfl, _⟩ := h
    rfl
  · obtain ⟨x, dx, st, rfl, hx, k⟩ := h
    refine ⟨_, pss_cons (ps_fld (pv 0) (pv 1) rfl) (pss_cons (ps_fld (pv 0) (pe_lst pa_nil) rfl) (pss_cons (ps_fld (pv 0) pe_dnewT rfl) (pss_cons (ps_fld (pv 0) pe_dnewT rfl) (pss_one (ps_fld (pv 0) pe_int rfl))))), ?_⟩
    have up : ∀ {H : Hp} {p : Addr} {o : HO} {q : Addr} {u : HO}, H q = some u → H p = none → upd H p o q = some u := fun {H p o q u} e n => by
      rw [upd_ne (ne_of_none e n)]
      exact e
    refine ⟨_, rfl, _, rfl, x, t.T, dx, _, rfl, hx, T.clT, T.nT_store, by decide, ?_⟩
    rw [ti1]
    refine ⟨Nat.zero_le _, fun l nl => ?_⟩
    have nxl : x ≠ l := ne_of_none upd_same nl
    refine ⟨_, rfl, x, t.T, dx, _, rfl, up upd_same nl, T.clT, T.nT_paths, (by show 1 < 1000; decide), ?_⟩
    rw [ti2]
    refine fun un nun => ?_
    have nxu : x ≠ un := ne_of_none upd_same nun
    have nlu : l ≠ un := ne_of_none (by rw [upd_ne nxl.symm, upd_same]) nun
    refine ⟨_, rfl, x, t.T, dx, _, rfl, up upd_same nun, T.clT, T.nT_under, (by show 2 < 1000; decide), ?_⟩
    rw [ti3]
    refine fun ud nud => ?_
    have nxd : x ≠ ud := ne_of_none upd_same nud
    have nud' : un ≠ ud := ne_of_none (by rw [upd_ne nxu.symm, upd_same]) nud
    have nld : l ≠ ud := ne_of_none (by rw [upd_ne nxl.symm, upd_ne nlu, upd_ne nxl.symm, upd_same]) nud
    refine ⟨_, rfl, x, t.T, dx, _, rfl, up upd_same nud, T.clT, T.nT_used, (by show 3 < 1000; decide), ?_⟩
    rw [ti4]
    refine ⟨_, rfl, x, t.T, dx, _, rfl, upd_same, T.clT, T.nT_clock, (by show 4 < 1000; decide), ?_⟩
    rw [ti5]
    have hl : H l = none := by
      rw [upd_ne nxl.symm] at nl
      exact nl
    have hun : H un = none := by
      rw [upd_ne nxu.symm, upd_ne nlu.symm, upd_ne nxu.symm] at nun
      exact nun
    have hud : H ud = none := by
      rw [upd_ne nxd.symm, upd_ne nud'.symm, upd_ne nxd.symm, upd_ne nld.symm, upd_ne nxd.symm] at nud
      exact nud
    refine k l un ud _ upd_same ?_ ?_ ?_ hl hun hud nlu nld nud' fun b o e n => ?_
    · rw [upd_ne nxl.symm, upd_ne nxl.symm, upd_ne nld, upd_ne nxl.symm, upd_ne nlu, upd_ne nxl.symm, upd_same]
    · rw [upd_ne nxu.symm, upd_ne nxu.symm, upd_ne nud', upd_ne nxu.symm, upd_same]
    · rw [upd_ne nxd.symm, upd_ne nxd.symm, upd_same]
    · rw [upd_ne n, upd_ne n, upd_ne (ne_of_none e hud), upd_ne n, upd_ne (ne_of_none e hun), upd_ne n, upd_ne (ne_of_none e hl), upd_ne n]
      exact e
end
end K23
namespace K23
open PySem L2

section
variable {P : Program} {w : World} {K : PySem.W.Frag} {mg : Str → Option Value} {base : Heap} {t : Tx}
/-! ### put -/
/-- does the path come into the tree -/
def Ins (sz : Nat) (un : Tab) (ls : Path) : Prop := look un ls = none ∧ (ls.length = sz ∨ (look un (ahd sz ls)).isSome = true)
def PutRes (sz : Nat) (un : Tab) (ls : Path) (b : Nat) (c : Int) (cs : List Int) (pa : List Path) (cs1 : List Int) (pa1 : List Path) (un1 : Tab) : Prop :=
  (Ins sz un ls ∧ cs1 = cs.set b (c + 1) ∧ un1 = un ++ [(ls, (b : Int))] ∧ pa1.Perm (pa ++ [ls]) ∧ pa1.Pairwise (· ≤ ·)) ∨ (¬ Ins sz un ls ∧ cs1 = cs ∧ un1 = un ∧ pa1 = pa)
def PutMid (t : Tx) (A : Ad) (H : Hp) (pa : List Path) (un ud : Tab) (ck : Int) (cs : List Int) (rs : List (List (List Int))) (ls : Path) (b : Nat) (c : Int) (d f : Addr) : L2.St → Hp → Prop := fun σ' H' =>
  σ' = [some (.ref (A.a 4)), some (.ref d), some (.int b), some (.ref f)] ∧ H' d = some (.tup (ls.map V.int)) ∧ Fr A [2, 4, 5, 6] H H' ∧ ∃ cs1 pa1 un1, StoreAt t.S A H' cs1 rs ∧ TreeAt t.T A H' pa1 un1 ud ck ∧ PutRes A.size un ls b c cs pa cs1 pa1 un1
def spTPut (t : Tx) : Sp := fun vs H Q _ => ∃ (A : Ad) (pa : List Path) (un ud : Tab) (ck : Int) (cs : List Int) (rs : List (List (List Int))) (a : Addr) (ls : List Int) (b : Nat) (c : Int), vs = [.ref (A.a 4), .ref a, .int b] ∧ A.Ok ∧ Live A H ∧ StoreAt t.S A H cs rs ∧ TreeAt t.T A H pa un ud ck ∧
  SeqAt2 H a ls ∧ A.size ≤ ls.length ∧ ls.length ≤ 1000 ∧ cs[b]? = some c ∧ c ≠ 0 ∧ pa.length ≤ 1000 ∧ un.length ≤ 1000 ∧ (∀ p ∈ pa, p ≠ []) ∧ ud.length ≤ 10000 ∧
  ∀ (cs1 : List Int) (pa1 : List Path) (un1 : Tab) (n : Nat) (H' : Hp), PutRes A.size un ls b c cs pa cs1 pa1 un1 → IsBeg A.size un1 ls n → StoreAt t.S A H' cs1 rs → TreeAt t.T A H' pa1 un1 (putAll ud (pres A.size ls n) (ck + 1)) (ck + 1) → Fr A [2, 4, 5, 6] H H' →
    Q (.int ((look un1 ls).getD b)) H'
theorem ok_tput (T : Txt K mg t) : FnOk P w K mg base CX0 4 t.tPut t.tPutD ["self", "path", "block"] (spTPut t) := by
  refine T.F_tPut.ok scTPut (fun vs H Q E h => ?_) (fun cdv Ar outer s H vs Q E hr h => ?_)
  · obtain ⟨A, pa, un, ud, ck, cs, rs, a, ls, b, c, rfl, _⟩ := h
    rfl
  · obtain ⟨A, pa, un, ud, ck, cs, rs, a, ls, b, c, rfl, ok, lv, S, R, hls, hsz, hlen, hb, hc, hpa, hun, hne, hud, k⟩ := h
    have hu := hu_of hr
    have hr1 : Room 1 _ := hr.mono (by decide)
    refine ⟨_, pss_cons (ps_set (i := 1) scTPut.nd rfl (.inl rfl) (pe_callTy cr_tupOf (by rfl) T.g_tuple PyProof.Rows.boot_tuple (pa_cons (pv 1) pa_nil)))
      (pss_cons (ps_set (i := 3) scTPut.nd rfl (.inl rfl) (pe_slice sl_tupA (pv 1) po_none (po_some (pe_op op_sub (pe_callB call_len_seq (by rfl) T.g_len PySem.boot_len (pa_cons (pv 1) pa_nil)) (pe_fld (pe_fld (pv 0) rfl) rfl)))))
      (C8.pss_cut (ps_if (PW.pt (pw_and (pt_cmp (pc_dnotin hu (pv 1) (pe_fld (pv 0) rfl))) (pw_and1 (PW.pt (pw_or (pt_cmpR op_eq (pe_callB call_len_seq (by rfl) T.g_len PySem.boot_len (pa_cons (pv 3) pa_nil)) pe_int (nomark _)) (pw_or1 (pt_cmp (pc_din hu (pv 3) (pe_fld (pv 0) rfl)))))))))
          (pss_cons (ps_expr (pe_meth (pe_fld (pv 0) rfl) T.clS T.m_sHold (ok_hold T) hr T.b_sHold .nil pass0 (pa_cons (pv 2) pa_nil)))
          (pss_cons (ps_dput hu (pe_fld (pv 0) rfl) (pv 1) (pv 2) rfl)
          (pss_one (ps_fld (pv 0) (pe_callB (cr_sortTs hr) (by rfl) T.g_sorted PyProof.Rows.boot_sorted (pa_cons (pe_op op_cat (pe_fld (pv 0) rfl) (pe_lst (pa_cons (pv 1) pa_nil))) pa_nil)) rfl)))) pss_nil)
      (pss_cons (ps_expr (pe_meth (pv 0) T.clT T.m_tUse (ok_use T) hr1 T.b_tUse .nil pass0 (pa_cons (pe_meth (pv 0) T.clT T.m_tBeg (ok_beg T) hr1 T.b_tBeg .nil pass0 (pa_cons (pv 1) pa_nil)) pa_nil)))
      (pss_one (ps_ret (pe_dget2 hu (pe_fld (pv 0) rfl) (pv 1) (pv 2) ⟨rfl, rfl, rfl, rfl⟩)))))), ?_⟩
    refine ⟨_, rfl, tupOf (A := A) hls fun d H1 x1 hd => ?_⟩
    obtain ⟨dx, lp, b0, g1, g2, g3, g4, g5⟩ := (R.fr ok x1).ob
    obtain ⟨dy, ho⟩ := (S.fr ok x1).ob
    have e1 : ((ls.map V.int).length : Int) - (A.size : Int) = ((ls.length - A.size : Nat) : Int) := by
      rw [List.length_map]
      omega
    refine ⟨_, rfl, _, rfl, d, _, rfl, .inr (SqT.of hd), _, rfl, A.a 4, t.T, dx, _, _, rfl, g1, T.clT, T.nT_store, tf_store A _ _, A.a 0, t.S, dy, _, _, rfl, ho, T.clS, T.nS_size, sf_size A, _, _, rfl, rfl, _, rfl, ?_⟩
    show rSlA K (.ref d) none (some (((ls.map V.int).length : Int) - (A.size : Int))) H1 _
    rw [e1]
    refine slT (A := A) hd fun f H2 x2 hf => ?_
    have x02 := x1.trans x2
    have R2 := R.fr ok x02
    have S2 := S.fr ok x02
    have hd2 := x2.tup _ _ hd
    have s1 := ok.s1
    have lsne : ls ≠ [] := fun z => by
      rw [z] at hsz
      simp at hsz
      omega
    have lz : (ahd A.size ls).length = ls.length - A.size := by
      unfold ahd
      rw [List.length_take]
      omega
    refine ⟨PutMid t A H pa un ud ck cs rs ls b c d f, ?_, ?_⟩
    · obtain ⟨dx2, lp2, b2, f1, f2, f3, f4, f5⟩ := R2.ob
      have no : ¬ Ins A.size un ls → PutMid t A H pa un ud ck cs rs ls b c d f [some (.ref (A.a 4)), some (.ref d), some (.int b), some (.ref f)] H2 := fun z => ⟨rfl, hd2, x02.mono, cs, pa, un, S2, R2, .inr ⟨z, rfl, rfl, rfl⟩⟩
      have body : Ins A.size un ls → tSeq (tDrop (tMeth t.S (Str.ofString "hold") (spHold t) [] E0 (tFld K (tVar 0) (Str.ofString "store")) (tCons (tVar 2) tNil)))
          (tSeq (sDPut (tFld K (tVar 0) (Str.ofString "under")) (tVar 1) (tVar 2))
            (sFld K (tVar 0) (tCB (rSortTs K) (tCons (tOp rCat (tFld K (tVar 0) (Str.ofString "paths")) (tLst (tCons (tVar 1) tNil))) tNil)) (Str.ofString "paths")))
          { nx := PutMid t A H pa un ud ck cs rs ls b c d f, rt := Q } [some (V.ref (A.a 4)), some (V.ref d), some (V.int b), some (V.ref f)] H2 := by
        intro ins
        refine ⟨_, rfl, A.a 4, t.T, dx2, _, _, rfl, f1, T.clT, T.nT_store, tf_store A _ _, A.a 0, _, _, rfl, S2.ob.choose_spec, by kernel_rfl, _, rfl, A, cs, rs, b, c, rfl, ok, S2, hb, hc, fun H3 S3 x3 => ?_⟩
        have R3 := R2.fr ok x3
        have hd3 := x3.tup _ _ hd2
        obtain ⟨dx3, lp3, b3, f1, f2, f3, f4, f5⟩ := R3.ob
        refine ⟨_, rfl, _, rfl, A.a 4, t.T, dx3, _, _, rfl, f1, T.clT, T.nT_under, tf_under A _ _, _, rfl, A.a 5, _, rfl, dputP R3.un hd3 (len100 (by omega)), ?_⟩
        rw [put_new ins.1]
        have x4 : Fr A [5] H3 (upd H3 (A.a 5) (.dT (enc (un ++ [(ls, (b : Int))])))) := Fr.upd R3.un rfl
        have hun4 : upd H3 (A.a 5) (.dT (enc (un ++ [(ls, (b : Int))]))) (A.a 5) = some (.dT (enc (un ++ [(ls, (b : Int))]))) := upd_same
        generalize upd H3 (A.a 5) (.dT (enc (un ++ [(ls, (b : Int))]))) = H4 at x4 hun4
        have f14 := x4.at ok 4 f1
        have f24 := x4.own f5 f2
        have f34 := f3.fr x4
        have hd4 := x4.tup _ _ hd3
        have lv4 : Live A H4 := ((lv.fr x02).fr x3).fr x4
        have bl : b3.length = pa.length := by rw [← f4, List.length_map]
        refine ⟨_, rfl, A.a 4, t.T, dx3, _, _, rfl, f14, T.clT, T.nT_paths, tf_paths A _ _, _, rfl, by show 1 ≤ sizeLine; rw [sizeLine_eq]; decide, fun m nm => ?_⟩
        have x5 : Fr A [] H4 (upd H4 m (.lst [.ref d])) := Fr.new nm
        have hm5 : upd H4 m (.lst [.ref d]) m = some (.lst [.ref d]) := upd_same
        generalize upd H4 m (.lst [.ref d]) = H5 at x5 hm5
        have f25 := x5.own f5 f24
        refine ⟨lp3, m, _, _, rfl, rfl, f25, hm5, by rw [refs_len, bl]; exact Nat.le_of_lt (len100 (by show pa.length + 1 ≤ _; omega)), fun q nq => ?_⟩
        have x6 : Fr A [] H5 (upd H5 q (.lst (refs b3 ++ [.ref d]))) := Fr.new nq
        have hq6 : upd H5 q (.lst (refs b3 ++ [.ref d])) q = some (.lst (refs b3 ++ [.ref d])) := upd_same
        generalize upd H5 q (.lst (refs b3 ++ [.ref d])) = H6 at x6 hq6
        have er : refs b3 ++ [V.ref d] = (b3 ++ [(d, ls)]).map fun b => V.ref b.1 := by
          rw [List.map_append]
          rfl
        have x46 := x5.trans x6
        have ht6 : Tups H6 (b3 ++ [(d, ls)]) := (f34.fr x46).snoc (x46.tup _ _ hd4)
        have hne6 : ∀ b ∈ b3 ++ [(d, ls)], b.2 ≠ [] := by
          intro b hb'
          rcases List.mem_append.mp hb' with h | h
          · exact hne _ (by rw [← f4]; exact List.mem_map.mpr ⟨b, h, rfl⟩)
          · rw [List.mem_singleton.mp h]
            exact lsne
        refine ⟨q, b3 ++ [(d, ls)], rfl, SqL.of (by rw [hq6, er]), fun b hb' => ⟨ht6 b hb', hne6 b hb'⟩, fun ss z perm sorted nz => ?_⟩
        have x7 : Fr A [] H6 (upd H6 z (.lst (ss.map fun b => V.ref b.1))) := Fr.new nz
        have hz7 : upd H6 z (.lst (ss.map fun b => V.ref b.1)) z = some (.lst (refs ss)) := upd_same
        have newz : New A z := (lv4.fr x46).new nz
        generalize upd H6 z (.lst (ss.map fun b => V.ref b.1)) = H7 at x7 hz7
        have x47 : Fr A [] H4 H7 := x46.trans x7
        have ht7 : Tups H7 ss := fun b hb' => (ht6.fr x7) b (perm.mem_iff.mp hb')
        have f17 := x47.at ok 4 f14
        refine ⟨_, rfl, A.a 4, t.T, dx3, _, rfl, f17, T.clT, T.nT_paths, (by show 5 < 1000; decide), ?_⟩
        rw [tf_putP]
        have x8 : Fr A [4] H7 (upd H7 (A.a 4) (.ins t.T dx3 (tf A z ck))) := Fr.upd f17 rfl
        have x24 : Fr A [2, 4, 5, 6] H H4 := (x02.and x3 (L := [2])).and x4
        have x78 : Fr A [4] H4 (upd H7 (A.a 4) (.ins t.T dx3 (tf A z ck))) := x47.and x8
        refine ⟨rfl, x78.tup _ _ hd4, x24.and x78, cs.set b (c + 1), ss.map (fun b => b.2), un ++ [(ls, (b : Int))], (S3.fr ok x4).fr ok x78, ⟨⟨dx3, z, ss, upd_same, x8.own newz hz7, ht7.fr x8, rfl, newz⟩, x78.at ok 5 hun4, x78.at ok 6 (x4.at ok 6 R3.ud)⟩, .inl ⟨ins, rfl, rfl, ?_, ?_⟩⟩
        · have p2 := perm.map (fun b : AP' => b.2)
          rw [List.map_append, f4] at p2
          exact p2
        · exact List.pairwise_map.mpr sorted
      refine ⟨_, rfl, _, rfl, A.a 4, t.T, dx2, _, _, rfl, f1, T.clT, T.nT_under, tf_under A _ _, A.a 5, _, rfl, dget R2.un hd2, !(look un ls).isSome, congrArg (fun z => V.bl (!z)) (Option.isSome_map ..), ?_⟩
      cases hlk : look un ls with
      | some v =>
        refine iteF (iteF (no fun z => ?_))
        rw [z.1] at hlk
        cases hlk
      | none =>
        refine iteT ⟨_, rfl, f, _, rfl, .inr (SqT.of hf), rfl, decide (ls.length = A.size), ?_, ite2 (fun z => ?_) (fun z => ?_)⟩
        · rw [List.length_map, List.length_take, Nat.min_eq_left (Nat.sub_le _ _)]
          by_cases z : ls.length = A.size
          · rw [decide_eq_true z, dec_eqt (by omega)]
          · rw [decide_eq_false z, dec_ne (by omega)]
        · exact iteT (body ⟨hlk, .inl (of_decide_eq_true z)⟩)
        · have z' : ¬ ls.length = A.size := of_decide_eq_false (eq_false_of_ne_true z)
          refine ⟨_, rfl, _, rfl, A.a 4, t.T, dx2, _, _, rfl, f1, T.clT, T.nT_under, tf_under A _ _, A.a 5, _, rfl, dget R2.un hf, _, some_map, ite2 (fun y => ?_) (fun y => ?_)⟩
          · exact body ⟨hlk, .inr y⟩
          · refine no fun q => ?_
            rcases q.2 with q | q
            · exact z' q
            · exact y q
    · rintro σ' H3 ⟨rfl, hd3, x3, cs1, pa1, un1, S3, R3, res⟩
      obtain ⟨n, hn⟩ := beg_exists A.size s1 un1 ls
      have nle := beg_le s1 hn
      obtain ⟨dx3, lp3, b3, f1, f2, f3, f4, f5⟩ := R3.ob
      refine ⟨_, rfl, A.a 4, dx3, _, rfl, f1, by kernel_rfl, _, rfl, A.a 4, dx3, _, rfl, f1, by kernel_rfl, _, rfl, A, pa1, un1, ud, ck, cs1, rs, d, ls, n, rfl, ok, lv.fr x3, S3, R3, .inr hd3, hlen, hn, fun l bs H4 hl ht hm nl x4 => ?_⟩
      have R4 := R3.fr ok x4
      have bl : bs.length = n := by
        have := congrArg List.length hm
        rwa [List.length_map, pres_length] at this
      refine ⟨A, pa1, un1, ud, ck, l, bs, rfl, ok, R4, hl, ht, nl, by omega, fun H5 R5 x5 => ?_⟩
      rw [hm] at R5
      obtain ⟨dx5, lp5, b5, g1, g2, g3, g4, g5⟩ := R5.ob
      have x35 : Fr A [4, 6] H3 H5 := x4.and x5
      refine ⟨_, rfl, A.a 4, t.T, dx5, _, _, rfl, g1, T.clT, T.nT_under, tf_under A _ _, A.a 5, rfl, .inr ⟨_, .inl R5.un⟩, _, rfl, _, rfl, _, dget R5.un (x35.tup _ _ hd3), ?_⟩
      have ev : (((look un1 ls).map V.int).getD (.int b)) = V.int ((look un1 ls).getD b) := by
        cases look un1 ls <;> rfl
      rw [ev]
      exact k cs1 pa1 un1 n H5 res hn (S3.fr ok x35) R5 (x3.and x35)
end
end K23
namespace K23
open PySem L2

/-! ### tuples of ints as data -/
theorem dpAll_ints {K : PySem.W.Frag} {H : Hp} : ∀ ls : List Int, DpAll K H (ls.map V.int) (ls.map PyData.int)
  | [] => .nil
  | i :: ls => .cons (.int i) (dpAll_ints ls)
theorem dp_tup {K : PySem.W.Frag} {H : Hp} {a : Addr} {ls : List Int} (h : H a = some (.tup (ls.map V.int))) : Dp K H (.ref a) (.tuple (ls.map PyData.int)) := .tup (SqT.of h) (dpAll_ints ls)
theorem shaped_tup (ns : List Int) : SeqAt.shaped (.tuple (ns.map PyData.int)) = true := by
  have h1 := PySem.W.depthAll_ints ns
  have h2 : PyData.depth (.tuple (ns.map PyData.int)) ≤ 64 := by
    simp only [PyData.depth]
    omega
  show (PyData.canLay0 (.tuple (ns.map PyData.int)) && decide (PyData.depth (.tuple (ns.map PyData.int)) ≤ 64)) = true
  rw [Bool.and_eq_true]
  exact ⟨by simp only [PyData.canLay0]; exact PySem.W.canLayAll0_ints ns, decide_eq_true h2⟩
theorem eqv_ints : ∀ p q : List Int, PyData.eqvAll (p.map PyData.int) (q.map PyData.int) = decide (p = q)
  | [], [] => by simp [PyData.eqvAll]
  | [], _ :: _ => by simp [PyData.eqvAll]
  | _ :: _, [] => by simp [PyData.eqvAll]
  | i :: p, j :: q => by
    rw [List.map_cons, List.map_cons, PyData.eqvAll, PyData.eqv, eqv_ints p q]
    by_cases h : i = j <;> simp [h]
theorem eqv_tups (p q : List Int) : PyData.eqv (.tuple (p.map PyData.int)) (.tuple (q.map PyData.int)) = decide (p = q) := by
  rw [PyData.eqv]
  exact eqv_ints p q
/-- the dict without a path -/
theorem enc_dropT (m : Tab) (p : Path) : dropK (enc m) (kp p) = enc (drop m p) := enc_drop m p

/-- the block of a path -/
def blk (un : Tab) (p : Path) : Nat := (lk un p).toNat
/-- paths that may go: nothing goes on from them, and nobody else holds their blocks -/
def mayGo (sz : Nat) (pa : List Path) (un : Tab) (cs : List Int) : List Path := (pa.filter fun p => leaf sz pa p).filter fun p => decide (cs[blk un p]? = some 1)
section
variable {P : Program} {w : World} {K : PySem.W.Frag} {mg : Str → Option Value} {base : Heap} {t : Tx}
/-! ### drop -/
def spTDrop (t : Tx) : Sp := fun vs H Q _ => ∃ (A : Ad) (pa : List Path) (un ud : Tab) (ck : Int) (cs : List Int) (rs : List (List (List Int))), vs = [.ref (A.a 4)] ∧ A.Ok ∧ Live A H ∧ StoreAt t.S A H cs rs ∧ TreeAt t.T A H pa un ud ck ∧
  pa.length ≤ 1000 ∧ (∀ p ∈ pa, A.size ≤ p.length) ∧ (∀ p ∈ pa, ∃ c, look un p = some (blk un p : Int) ∧ cs[blk un p]? = some c ∧ c ≠ 0) ∧ (∀ p ∈ pa, (look ud p).isSome = true) ∧
  (argm (lk ud) (mayGo A.size pa un cs) = none → ∀ H', Fr A [] H H' → Q (.bl false) H') ∧
  (∀ best, argm (lk ud) (mayGo A.size pa un cs) = some best → ∀ H', StoreAt t.S A H' (cs.set (blk un best) 0) (rs.set (blk un best) []) → TreeAt t.T A H' (pa.filter fun p => decide (p ≠ best)) (drop un best) (drop ud best) ck → Fr A [2, 3, 4, 5, 6] H H' → Q (.bl true) H')
theorem ok_tdrop (T : Txt K mg t) : FnOk P w K mg base CX0 4 t.tDrop t.tDropD ["self"] (spTDrop t) := by
  refine T.F_tDrop.ok scTDrop (fun vs H Q E h => ?_) (fun cdv Ar outer s H vs Q E hr h => ?_)
  · obtain ⟨A, pa, un, ud, ck, cs, rs, rfl, _⟩ := h
    rfl
  · obtain ⟨A, pa, un, ud, ck, cs, rs, rfl, ok, lv, S, R, hpl, hpz, hun, hud, k0, k1⟩ := h
    have hu := hu_of hr
    have hr1 : Room 1 _ := hr.mono (by decide)
    have hr2 : Room 2 _ := hr.mono (by decide)
    have hr3 : Room 3 _ := hr.mono (by decide)
    refine ⟨_, pss_cons (ps_setLc (i := 1) (own := [("path", 3)]) (g := gName 3) (te := tVar 3)
          (tt := tTest (tOp rEq (tMeth t.S "holders" (spHolders t) [] E0 (tFld K (tVar 0) "store") (tCons (tDGet (tFld K (tVar 0) "under") (tVar 3)) tNil)) (tC (.int 1)))) (by rfl) scTDrop.nd rfl rfl (sw_true rfl rfl rfl (by decide +kernel))
          (pi_list (pe_meth (pv 0) T.clT T.m_tEnds (ok_ends T) hr1 T.b_tEnds .nil pass0 (pa_cons (pe_fld (pv 0) rfl) pa_nil)))
          (blkOk_by (own := [("path", 3)]) (N := ["self", "paths", "oldest", "path"]) (sc := defScope sTDrop) (by decide +kernel))
          (fun _ _ _ _ _ => pg_name (i := 3) scTDrop.nd rfl (Or.inl rfl))
          (fun _ _ _ _ _ => pts_one (pt_cmpR op_eq (pe_meth (pe_fld (pv 0) (by rfl)) T.clS T.m_sHolders (ok_holders T) (by exact hr2) T.b_sHolders .nil pass0 (pa_cons (pe_dget (by exact hu) (pe_fld (pv 0) (by rfl)) (pv 3) (fun _ _ => rfl)) pa_nil)) pe_int (nomark _)))
          (fun _ _ _ _ _ => pv 3))
      (pss_cons (ps_if (pt_cmpR op_eq (pe_callB call_len_seq (by rfl) T.g_len PySem.boot_len (pa_cons (pv 1) pa_nil)) pe_int (nomark _)) (pss_one (ps_ret pe_bl)) pss_nil)
      (pss_cons (ps_set (i := 2) scTDrop.nd rfl (.inr rfl) (pe_meth (pv 0) T.clT T.m_tOldest (ok_oldest T) hr1 T.b_tOldest .nil pass0 (pa_cons (pv 1) pa_nil)))
      (pss_cons (ps_expr (pe_meth (pe_fld (pv 0) rfl) T.clS T.m_sRel (ok_rel T) hr3 T.b_sRel .nil pass0 (pa_cons (pe_dget hu (pe_fld (pv 0) rfl) (pv 2) (fun _ _ => rfl)) pa_nil)))
      (pss_cons (ps_delT hu (pe_fld (pv 0) rfl) (pv 2))
      (pss_cons (ps_delT hu (pe_fld (pv 0) rfl) (pv 2))
      (pss_cons (ps_fld (pv 0) (pe_lc (own := [("path", 3)]) (g := gName 3) (te := tVar 3) (tt := tTest (tOp (rNeD K) (tVar 3) (tVar 2))) (by rfl) scTDrop.nd (pi_list (pe_fld (pv 0) rfl)) (blkOk_by (own := [("path", 3)]) (N := ["self", "paths", "oldest", "path"]) (sc := defScope sTDrop) (by decide +kernel))
          (fun _ _ _ _ _ => pg_name (i := 3) scTDrop.nd rfl (Or.inl rfl)) (fun _ _ _ _ _ => pts_one (pt_cmpR (op_neD (by exact hr.units)) (pv 3) (pv 2) (nomark _))) (fun _ _ _ _ _ => pv 3)) rfl)
      (pss_one (ps_ret pe_bl)))))))), ?_⟩
    obtain ⟨dx, lp, b0, g1, g2, g3, g4, g5⟩ := R.ob
    have g4' : b0.map (fun b => b.2) = pa := g4
    have inpa : ∀ b ∈ b0, b.2 ∈ pa := fun b hb => by
      rw [← g4]
      exact List.mem_map.mpr ⟨b, hb, rfl⟩
    have bl0 : b0.length = pa.length := by rw [← g4, List.length_map]
    refine ⟨_, rfl, A.a 4, dx, _, rfl, g1, by kernel_rfl, _, rfl, A.a 4, t.T, dx, _, _, rfl, g1, T.clT, T.nT_paths, tf_paths A _ _, A, pa, un, ud, ck, cs, rs, lp, b0, rfl, ok, lv, S, R, g2, g3, fun b hb => hpz _ (inpa b hb), by omega, fun l H1 hl nl x1 => ?_⟩
    rw [g4] at hl
    generalize hes : (b0.filter fun b => leaf A.size pa b.2) = es at hl
    have esub : ∀ b ∈ es, b ∈ b0 := fun b hb => by
      rw [← hes] at hb
      exact (List.mem_filter.mp hb).1
    have esl : es.length ≤ b0.length := by
      rw [← hes]
      exact List.length_filter_le _ _
    have hte : Tups H1 es := fun b hb => x1.tup _ _ (g3 b (esub b hb))
    have S1 := S.fr ok x1
    have R1 := R.fr ok x1
    refine ⟨l, rfl, ⟨_, SqL.of hl⟩, fun D nD => ?_⟩
    have newD : New A D := (lv.fr x1).new nD
    refine lc_list (K := K) (a := l) (xs := refs es) (fun i H' => H' = upd H1 D (.lst (refs ((es.take i).filter fun b => decide (cs[blk un b.2]? = some 1))))) rfl (fun i H' _ e => by rw [e]; exact SqL.of (by rw [upd_ne (ne_of_none hl nD)]; exact hl)) ?_ ?_
    · rintro i y H' hi rfl
      obtain ⟨b, hb, rfl⟩ := refs_get hi
      have bm := List.mem_of_getElem? hb
      have bp := inpa b (esub b bm)
      obtain ⟨c, hlk, hc, _⟩ := hun _ bp
      have x2 : Fr A [] H1 (upd H1 D (.lst (refs ((es.take i).filter fun b => decide (cs[blk un b.2]? = some 1))))) := Fr.new nD
      have S2 := S1.fr ok x2
      have R2 := R1.fr ok x2
      obtain ⟨dx2, lp2, b2, f1, f2, f3, f4, f5⟩ := R2.ob
      obtain ⟨dy2, ho2⟩ := S2.ob
      have hbt := x2.tup _ _ (hte b bm)
      have hD : upd H1 D (.lst (refs ((es.take i).filter fun b => decide (cs[blk un b.2]? = some 1)))) D = _ := upd_same
      refine ⟨rfl, _, rfl, A.a 4, t.T, dx2, _, _, rfl, f1, T.clT, T.nT_store, tf_store A _ _, A.a 0, dy2, _, rfl, ho2, by kernel_rfl, _, rfl, A.a 4, t.T, dx2, _, _, rfl, f1, T.clT, T.nT_under, tf_under A _ _, _, rfl, A.a 5, _, rfl, dgetS R2.un hbt hlk, A, cs, rs, blk un b.2, c, rfl, S2, hc, rfl, decide (cs[blk un b.2]? = some 1), ?_, ite2 (fun z => ?_) (fun z => ?_)⟩
      · rw [hc]
        by_cases z : c = 1
        · rw [dec_eqt z, decide_eq_true (by rw [z])]
        · rw [dec_ne z, decide_eq_false fun e => z (by injection e)]
      · refine ⟨_, rfl, _, upd_same, ?_, ?_⟩
        · rw [refs_len]
          have h1 := List.length_filter_le (fun b : AP' => decide (cs[blk un b.2]? = some 1)) (es.take i)
          have h2 : (es.take i).length ≤ es.length := by
            rw [List.length_take]
            exact Nat.min_le_right _ _
          exact len100 (by omega)
        · rw [upd_upd, take_succ' hb, List.filter_append, filt_pos (p := fun b : AP' => decide (cs[blk un b.2]? = some 1)) z]
          unfold refs
          rw [List.map_append]
          rfl
      · rw [take_succ' hb, List.filter_append, filt_neg (p := fun b : AP' => decide (cs[blk un b.2]? = some 1)) z, List.append_nil]
    · rintro H' rfl
      rw [refs_len, List.take_of_length_le (Nat.le_refl _)]
      generalize hms : (es.filter fun b => decide (cs[blk un b.2]? = some 1)) = ms
      have msub : ∀ b ∈ ms, b ∈ b0 := fun b hb => by
        rw [← hms] at hb
        exact esub b (List.mem_filter.mp hb).1
      have mmap : ms.map (fun b => b.2) = mayGo A.size pa un cs := by
        rw [← hms, ← hes]
        unfold mayGo
        rw [← g4', List.filter_map, List.filter_map]
        rfl
      have m1 : ∀ b ∈ ms, cs[blk un b.2]? = some 1 := fun b hb => by
        rw [← hms] at hb
        exact of_decide_eq_true (List.mem_filter.mp hb).2
      have x2 : Fr A [] H1 (upd H1 D (.lst (refs ms))) := Fr.new nD
      have hD : upd H1 D (.lst (refs ms)) D = some (.lst (refs ms)) := upd_same
      generalize upd H1 D (.lst (refs ms)) = H2 at x2 hD
      have x02 := x1.trans x2
      have S2 := S1.fr ok x2
      have R2 := R1.fr ok x2
      have htm : Tups H2 ms := fun b hb => x02.tup _ _ (g3 b (msub b hb))
      refine ⟨_, rfl, D, _, rfl, .inl (SqL.of hD), rfl, decide (ms = []), ?_, ite2 (fun z => ?_) (fun z => ?_)⟩
      · rw [refs_len]
        cases ms with
        | nil => rfl
        | cons b ms => exact congrArg V.bl (dec_ne (by rw [List.length_cons]; omega))
      · have z := of_decide_eq_true z
        rw [z] at mmap
        exact k0 (by rw [← mmap]; rfl) H2 x02
      · have z : ms ≠ [] := of_decide_eq_false (eq_false_of_ne_true z)
        cases hbest : argm (lk ud) (mayGo A.size pa un cs) with
        | none =>
          rw [argm_none.mp hbest] at mmap
          exact absurd (List.map_eq_nil_iff.mp mmap) z
        | some best =>
          obtain ⟨dx2, lp2, b2, f1, f2, f3, f4, f5⟩ := R2.ob
          refine ⟨_, rfl, A.a 4, dx2, _, rfl, f1, by kernel_rfl, _, rfl, A, pa, un, ud, ck, D, ms, best, rfl, R2, hD, htm, fun b hb => hud _ (inpa b (msub b hb)), by rw [mmap]; exact hbest, fun b hb eb => ?_⟩
          subst eb
          have bp := inpa b (msub b hb)
          obtain ⟨c, hlk, hc, hc0⟩ := hun _ bp
          have hc1 := m1 b hb
          have hbt := htm b hb
          obtain ⟨dy2, ho2⟩ := S2.ob
          refine ⟨_, rfl, A.a 4, t.T, dx2, _, _, rfl, f1, T.clT, T.nT_store, tf_store A _ _, A.a 0, dy2, _, rfl, ho2, by kernel_rfl, _, rfl, A.a 4, t.T, dx2, _, _, rfl, f1, T.clT, T.nT_under, tf_under A _ _, _, rfl, A.a 5, _, rfl, dgetS R2.un hbt hlk, A, cs, rs, blk un b.2, 1, rfl, ok, S2, hc1, by decide, fun H3 S3 x3 => ?_⟩
          rw [if_pos rfl] at S3
          have R3 := R2.fr ok x3
          obtain ⟨dx3, lp3, b3, e1, e2, e3, e4, e5⟩ := R3.ob
          have hbt3 := x3.tup _ _ hbt
          refine ⟨_, rfl, A.a 4, t.T, dx3, _, _, rfl, e1, T.clT, T.nT_under, tf_under A _ _, _, rfl, A.a 5, b.1, enc un, kp b.2, rfl, rfl, R3.un, by rw [kp_V]; exact hbt3, by rw [enc_look, hlk]; rfl, ?_⟩
          rw [enc_dropT]
          have x4 : Fr A [5] H3 (upd H3 (A.a 5) (.dT (enc (drop un b.2)))) := Fr.upd R3.un rfl
          have hun4 : upd H3 (A.a 5) (.dT (enc (drop un b.2))) (A.a 5) = some (.dT (enc (drop un b.2))) := upd_same
          generalize upd H3 (A.a 5) (.dT (enc (drop un b.2))) = H4 at x4 hun4
          have e14 := x4.at ok 4 e1
          have ud4 := x4.at ok 6 R3.ud
          have hbt4 := x4.tup _ _ hbt3
          refine ⟨_, rfl, A.a 4, t.T, dx3, _, _, rfl, e14, T.clT, T.nT_used, tf_used A _ _, _, rfl, A.a 6, b.1, enc ud, kp b.2, rfl, rfl, ud4, by rw [kp_V]; exact hbt4, by rw [enc_look, Option.isSome_map]; exact hud _ bp, ?_⟩
          rw [enc_dropT]
          have x5 : Fr A [6] H4 (upd H4 (A.a 6) (.dT (enc (drop ud b.2)))) := Fr.upd ud4 rfl
          have hud5 : upd H4 (A.a 6) (.dT (enc (drop ud b.2))) (A.a 6) = some (.dT (enc (drop ud b.2))) := upd_same
          generalize upd H4 (A.a 6) (.dT (enc (drop ud b.2))) = H5 at x5 hud5
          have x35 : Fr A [5, 6] H3 H5 := x4.and x5
          have e15 := x35.at ok 4 e1
          have hun5 := x5.at ok 5 hun4
          have e25 := x35.own e5 e2
          have e35 := e3.fr x35
          have hbt5 := x35.tup _ _ hbt3
          have lv5 : Live A H5 := ((lv.fr x02).fr x3).fr x35
          have b3l : b3.length = pa.length := by rw [← e4, List.length_map]
          refine ⟨_, rfl, A.a 4, t.T, dx3, _, _, rfl, e15, T.clT, T.nT_paths, tf_paths A _ _, lp3, rfl, ⟨_, SqL.of e25⟩, fun M nM => ?_⟩
          refine lc_list (K := K) (a := lp3) (xs := refs b3) (fun i H' => H' = upd H5 M (.lst (refs ((b3.take i).filter fun q => decide (q.2 ≠ b.2))))) rfl (fun i H' _ e => by rw [e]; exact SqL.of (by rw [upd_ne (ne_of_none e25 nM)]; exact e25)) ?_ ?_
          · rintro i y H' hi rfl
            obtain ⟨q, hq, rfl⟩ := refs_get hi
            have qm := List.mem_of_getElem? hq
            have hqt := e35 q qm
            refine ⟨rfl, _, rfl, _, rfl, _, _, dp_tup (ls := q.2) (by rw [upd_ne (ne_of_none hqt nM)]; exact hqt), dp_tup (ls := b.2) (by rw [upd_ne (ne_of_none hbt5 nM)]; exact hbt5), shaped_tup _, shaped_tup _, decide (q.2 ≠ b.2), ?_, ite2 (fun z => ?_) (fun z => ?_)⟩
            · rw [eqv_tups]
              by_cases z : q.2 = b.2 <;> simp [z]
            · refine ⟨_, rfl, _, upd_same, ?_, ?_⟩
              · rw [refs_len]
                have h1 := List.length_filter_le (fun q : AP' => decide (q.2 ≠ b.2)) (b3.take i)
                have h2 : (b3.take i).length ≤ b3.length := by
                  rw [List.length_take]
                  exact Nat.min_le_right _ _
                exact len100 (by omega)
              · rw [upd_upd, take_succ' hq, List.filter_append, filt_pos (p := fun q : AP' => decide (q.2 ≠ b.2)) z]
                unfold refs
                rw [List.map_append]
                rfl
            · rw [take_succ' hq, List.filter_append, filt_neg (p := fun q : AP' => decide (q.2 ≠ b.2)) z, List.append_nil]
          · rintro H' rfl
            rw [refs_len, List.take_of_length_le (Nat.le_refl _)]
            have x6 : Fr A [] H5 (upd H5 M (.lst (refs (b3.filter fun q => decide (q.2 ≠ b.2))))) := Fr.new nM
            have hM : upd H5 M (.lst (refs (b3.filter fun q => decide (q.2 ≠ b.2)))) M = some (.lst (refs (b3.filter fun q => decide (q.2 ≠ b.2)))) := upd_same
            have newM : New A M := lv5.new nM
            generalize upd H5 M (.lst (refs (b3.filter fun q => decide (q.2 ≠ b.2)))) = H6 at x6 hM
            have e16 := x6.at ok 4 e15
            refine ⟨_, rfl, A.a 4, t.T, dx3, _, rfl, e16, T.clT, T.nT_paths, (by show 5 < 1000; decide), ?_⟩
            rw [tf_putP]
            have x7 : Fr A [4] H6 (upd H6 (A.a 4) (.ins t.T dx3 (tf A M ck))) := Fr.upd e16 rfl
            have x57 : Fr A [4] H5 (upd H6 (A.a 4) (.ins t.T dx3 (tf A M ck))) := x6.and x7
            have x37 : Fr A [4, 5, 6] H3 (upd H6 (A.a 4) (.ins t.T dx3 (tf A M ck))) := x35.and x57
            have x03 : Fr A [2, 3] H H3 := x02.and x3
            have t7 : Tups (upd H6 (A.a 4) (.ins t.T dx3 (tf A M ck))) (b3.filter fun q => decide (q.2 ≠ b.2)) := fun q hq => (e35.fr x57) q (List.mem_filter.mp hq).1
            refine k1 b.2 hbest _ (S3.fr ok x37) ⟨⟨dx3, M, _, upd_same, x7.own newM hM, t7, ?_, newM⟩, x57.at ok 5 hun5, x57.at ok 6 hud5⟩ (x03.and x37)
            rw [← e4, List.filter_map]
            rfl
end
end K23
namespace K23
open PySem L2

/-! ### helpers -/
theorem dgk {H : Hp} {a : Addr} {kvs : List (L2.Key × V)} {s : Str} {v : V} (e : H a = some (.dK kvs)) (h : valV kvs (.inr s) = some v) : DGet H a (.str s) (some v) := by
  have := DGet.k (k := .inr s) e
  rwa [h] at this
theorem upd_id {H : Hp} {a : Addr} {o : HO} (h : H a = some o) : upd H a o = H := by
  funext b
  by_cases e : b = a
  · rw [e, upd_same, h]
  · rw [upd_ne e]
section
variable {P : Program} {w : World} {K : PySem.W.Frag} {mg : Str → Option Value} {base : Heap} {t : Tx}
/-! ### draw -/
def spDraw : Sp := fun vs H Q _ => ∃ (po : Addr) (xs : List Int) (n : Nat), vs = [.ref po, .int n] ∧ 1 ≤ n ∧ H po = some (.lst (xs.map V.int)) ∧ ∀ (d : Nat) (xs' : List Int), d < n → Q (.int d) (upd H po (.lst (xs'.map V.int)))
theorem ok_draw (T : Txt K mg t) : FnOk P w K mg base CX0 1 t.lDraw t.lDrawD ["_law_pool_here", "_law_many"] spDraw := by
  refine T.F_lDraw.ok scLDraw (fun vs H Q E h => ?_) (fun cdv Ar outer s H vs Q E hr h => ?_)
  · obtain ⟨po, xs, n, rfl, _⟩ := h
    rfl
  · obtain ⟨po, xs, n, rfl, hn, hp, k⟩ := h
    refine ⟨_, pss_cons (ps_if (pt_cmpR op_eq (pe_callB call_len_seq (by rfl) T.g_len PySem.boot_len (pa_cons (pv 0) pa_nil)) pe_int (nomark _)) (pss_one (ps_ret pe_int)) pss_nil)
      (pss_one (ps_ret (pe_op op_mod (pe_callTy call_int1 (by rfl) T.g_int PyProof.Rows.boot_int (pa_cons (pe_bm0 PySem.F.plainAttrs_list PySem.F.slot_list_pop PySem.F.type_list_pop mt_pop (pv 0)) pa_nil)) (pv 1)))), ?_⟩
    refine ⟨_, rfl, po, _, rfl, .inl (SqL.of hp), rfl, decide (xs = []), ?_, ite2 (fun z => ?_) (fun z => ?_)⟩
    · rw [List.length_map]
      cases xs with
      | nil => rfl
      | cons x xs => exact congrArg V.bl (dec_ne (by rw [List.length_cons]; omega))
    · have q := k 0 xs (by omega)
      rw [upd_id hp] at q
      exact q
    · have z : xs ≠ [] := of_decide_eq_false (eq_false_of_ne_true z)
      obtain ⟨ys, y, rfl⟩ : ∃ ys y, xs = ys ++ [y] := ⟨xs.dropLast, xs.getLast z, (List.dropLast_concat_getLast z).symm⟩
      have hn' : (0 : Int) < (n : Int) := by omega
      have e1 : ((ys ++ [y]).map V.int)[((ys ++ [y]).map V.int).length - 1]? = some (.int y) := by
        rw [List.map_append]
        simp
      have e2 : ((ys ++ [y]).map V.int).dropLast = ys.map V.int := by
        rw [List.map_append]
        exact List.dropLast_concat
      refine ⟨_, rfl, .inl ⟨rfl, _, SqL.of hp⟩, po, _, _, rfl, rfl, hp, e1, .inl ⟨_, rfl, _, rfl, _, _, rfl, rfl, hn', ?_⟩⟩
      rw [e2]
      have h1 := Int.emod_nonneg y (Int.ne_of_gt hn')
      have h2 := Int.emod_lt_of_pos y hn'
      have e3 : (((y % (n : Int)).toNat : Nat) : Int) = y % (n : Int) := Int.toNat_of_nonneg h1
      have q := k (y % (n : Int)).toNat ys (by omega)
      rw [e3] at q
      exact q
theorem drawn {A : Ad} {H : Hp} (p : PoolAt A H) (xs : List Int) : ∃ H1, upd H (A.a 12) (.lst (xs.map V.int)) = H1 ∧ PoolAt A H1 ∧ Fr A [12] H H1 := by
  obtain ⟨ys, hp⟩ := p
  exact ⟨_, rfl, ⟨xs, upd_same⟩, Fr.upd hp rfl⟩
/-! ### as -/
def spLAs : Sp := fun vs H Q _ => ∃ (A : Ad) (a : Addr) (ls : List Int), vs = [.ref (A.a 12), .ref a] ∧ A.Ok ∧ PoolAt A H ∧ H a = some (.tup (ls.map V.int)) ∧
  ∀ (c : Addr) (H' : Hp), SeqAt2 H' c ls → PoolAt A H' → Fr A [12] H H' → Q (.ref c) H'
theorem ok_las (T : Txt K mg t) : FnOk P w K mg base CX0 2 t.lAs t.lAsD ["_law_pool_here", "_law_row_here"] spLAs := by
  refine T.F_lAs.ok scLAs (fun vs H Q E h => ?_) (fun cdv Ar outer s H vs Q E hr h => ?_)
  · obtain ⟨A, a, ls, rfl, _⟩ := h
    rfl
  · obtain ⟨A, a, ls, rfl, ok, po, ha, k⟩ := h
    refine ⟨_, pss_cons (ps_if (pt_cmpR op_eq (pe_call (ok_draw T) hr (by rfl) T.m_lDraw T.F_lDraw.kp T.b_lDraw .nil pass0 (pa_cons (pv 0) (pa_cons pe_int pa_nil))) pe_int (nomark _)) (pss_one (ps_ret (pe_callTy cr_lstOf (by rfl) T.g_list PyProof.Rows.boot_list (pa_cons (pv 1) pa_nil)))) pss_nil)
      (pss_one (ps_ret (pe_callTy cr_tupOf (by rfl) T.g_tuple PyProof.Rows.boot_tuple (pa_cons (pv 1) pa_nil)))), ?_⟩
    refine ⟨_, rfl, A.a 12, _, 2, rfl, by decide, po.choose_spec, fun d xs1 hd => ?_⟩
    obtain ⟨H1, e1, po1, x1⟩ := drawn po xs1
    rw [e1]
    refine ⟨rfl, decide (d = 0), ?_, ite2 (fun z => ?_) (fun z => ?_)⟩
    · by_cases z : d = 0
      · rw [decide_eq_true z, dec_eqt (by omega)]
      · rw [decide_eq_false z, dec_ne (by omega)]
    · have ha1 := x1.tup _ _ ha
      refine ⟨_, rfl, a, _, rfl, .inr (SqT.of ha1), fun l hl => ?_⟩
      have x2 : Fr A [] H1 (upd H1 l (.lst (ls.map V.int))) := Fr.new hl
      exact k l _ (.inl upd_same) (po1.fr ok x2) (x1.and x2)
    · have ha1 := x1.tup _ _ ha
      exact ⟨_, rfl, a, _, rfl, .inr ⟨SqT.of ha1, k a _ (.inr ha1) po1 x1⟩⟩
/-! ### release -/
def spLRel : Sp := fun vs H Q _ => ∃ (A : Ad) (tr us : Tab) (hs : List Int) (cl : Int) (mi : List Int) (b : Nat) (c : Int), vs = [.ref (A.a 1), .int b] ∧ A.Ok ∧ LawAt A H tr us hs cl mi ∧ hs[b]? = some c ∧
  ∀ H', LawAt A H' tr us (hs.set b (c - 1)) cl mi → Fr A [9] H H' → Q .non H'
theorem LawAt.setH {A : Ad} {H : Hp} {tr us : Tab} {hs hs' : List Int} {cl : Int} {mi : List Int} (s : LawAt A H tr us hs cl mi) (ok : A.Ok) : LawAt A (upd H (A.a 9) (.lst (hs'.map V.int))) tr us hs' cl mi := by
  have x : Fr A [9] H (upd H (A.a 9) (.lst (hs'.map V.int))) := Fr.upd s.hs rfl
  exact ⟨x.at ok 1 s.st, x.at ok 7 s.tr, x.at ok 8 s.us, upd_same, x.at ok 10 s.cl, x.at ok 11 s.mi⟩
theorem ok_lrel (T : Txt K mg t) : FnOk P w K mg base CX0 1 t.lRel t.lRelD ["_law_state", "_law_block"] spLRel := by
  refine T.F_lRel.ok scLRel (fun vs H Q E h => ?_) (fun cdv Ar outer s H vs Q E hr h => ?_)
  · obtain ⟨A, tr, us, hs, cl, mi, b, c, rfl, _⟩ := h
    rfl
  · obtain ⟨A, tr, us, hs, cl, mi, b, c, rfl, ok, L, hb, k⟩ := h
    have hu := hu_of hr
    refine ⟨_, pss_cons (ps_set (i := 2) scLRel.nd rfl (.inl rfl) (pe_dget hu (pv 0) pe_str (fun _ _ => rfl)))
      (pss_one (ps_asg (pe_op op_sub (pe_ix ix_list (pv 2) (pv 1) (fun _ _ => rfl)) pe_int) (pg_sub (pv 2) (pv 1) set_list))), ?_⟩
    refine ⟨_, rfl, A.a 1, _, rfl, dgk L.st (st_holders A), ?_⟩
    refine ⟨_, rfl, _, rfl, _, _, _, _, rfl, rfl, SqL.of L.hs, at_int hb, _, _, rfl, rfl, _, rfl, _, rfl, _, _, _, b, rfl, rfl, L.hs, ixN_nat (by rw [List.length_map]; exact get_lt hb), ?_⟩
    rw [map_set_int]
    exact k _ (L.setH ok) (Fr.upd L.hs rfl)
/-! ### letters -/
def spLetters : Sp := fun vs H Q _ => ∃ (A : Ad) (tr us : Tab) (hs : List Int) (cl : Int) (mi : List Int) (m : Nat), vs = [.ref (A.a 12), .ref (A.a 1), .int m] ∧ A.Ok ∧ Live A H ∧ LawAt A H tr us hs cl mi ∧ PoolAt A H ∧ m ≤ 1000 ∧
  ∀ (ls : List Int) (c : Addr) (H' : Hp), ls.length = m → H' c = some (.tup (ls.map V.int)) → PoolAt A H' → Fr A [12] H H' → Q (.ref c) H'
theorem ok_letters (T : Txt K mg t) : FnOk P w K mg base CX0 2 t.lLetters t.lLettersD ["_law_pool_here", "_law_state", "_law_many"] spLetters := by
  refine T.F_lLetters.ok scLLetters (fun vs H Q E h => ?_) (fun cdv Ar outer s H vs Q E hr h => ?_)
  · obtain ⟨A, tr, us, hs, cl, mi, m, rfl, _⟩ := h
    rfl
  · obtain ⟨A, tr, us, hs, cl, mi, m, rfl, ok, lv, L, po, hm, k⟩ := h
    have hu := hu_of hr
    refine ⟨_, pss_one (ps_ret (pe_callTy cr_tupOf (by rfl) T.g_tuple PyProof.Rows.boot_tuple (pa_cons (pe_lc (own := [("_law_k", 3)]) (g := gName 3) (tt := tYes) (te := tCall spDraw [] E0 (tCons (tVar 0) (tCons (tDGet (tVar 1) (tC (.str "letters"))) tNil))) (by rfl) scLLetters.nd
      (pi_range1 (by rfl) T.g_range (pa_cons (pv 2) pa_nil)) (blkOk_by (own := [("_law_k", 3)]) (N := ["_law_pool_here", "_law_state", "_law_many", "_law_k"]) (sc := defScope sLLetters) (by decide +kernel))
      (fun _ _ _ _ _ => pg_name (i := 3) scLLetters.nd rfl (Or.inl rfl)) (fun _ _ _ _ _ => pts_nil)
      (fun _ _ _ _ _ => pe_call (ok_draw T) (by exact hr) (by rfl) T.m_lDraw T.F_lDraw.kp T.b_lDraw .nil pass0 (pa_cons (pv 0) (pa_cons (pe_dget (by exact hu) (pv 1) pe_str (fun _ _ => rfl)) pa_nil)))) pa_nil))), ?_⟩
    refine ⟨_, rfl, _, rfl, by omega, by omega, fun D nD => ?_⟩
    have newD : New A D := lv.new nD
    rw [Int.toNat_natCast]
    refine lc_range (fun i H' => ∃ ls : List Int, ls.length = i ∧ H' D = some (.lst (ls.map V.int)) ∧ PoolAt A H' ∧ Fr A [12] H H') ⟨[], rfl, upd_same, po.fr ok (Fr.new nD : Fr A [] _ _), Fr.new nD⟩ ?_ ?_
    · rintro i H1 hi ⟨ls, hl, hD, po1, x1⟩
      refine ⟨rfl, _, rfl, _, rfl, A.a 1, _, rfl, dgk (x1.at ok 1 L.st) (st_letters A), A.a 12, _, A.lets, rfl, ok.l1, po1.choose_spec, fun d xs1 hd => ?_⟩
      obtain ⟨H2, e2, po2, x2⟩ := drawn po1 xs1
      rw [e2]
      refine ⟨_, x2.own newD hD, ?_, ls ++ [(d : Int)], ?_, ?_, ?_, ?_⟩
      · rw [List.length_map]
        exact len100 (by omega)
      · rw [List.length_append, hl]
        rfl
      · rw [upd_same, List.map_append]
        rfl
      · obtain ⟨xs, hx⟩ := po2
        exact ⟨xs, by rw [upd_ne (newD 12 (by decide)).symm]; exact hx⟩
      · exact (x1.trans x2).loc nD
    · rintro H1 ⟨ls, hl, hD, po1, x1⟩
      refine ⟨D, _, rfl, .inl ⟨SqL.of hD, fun q nq => ?_⟩⟩
      have x2 : Fr A [] H1 (upd H1 q (.tup (ls.map V.int))) := Fr.new nq
      exact k ls q _ hl upd_same (po1.fr ok x2) (x1.and x2)
end
end K23
namespace K23
open PySem L2

/-! ### range(size, length + 1, size) -/
theorem size_div {c l : Nat} (h1 : 1 ≤ c) : Builtin.Range.rangeSize (c : Int) ((l : Int) + 1) (c : Int) = ((l / c : Nat) : Int) := by
  unfold Builtin.Range.rangeSize
  rw [if_pos (by omega)]
  by_cases z : c ≤ l
  · rw [if_pos (by omega)]
    have e1 : (l : Int) + 1 - c - 1 = ((l - c : Nat) : Int) := by omega
    rw [e1]
    have e2 : l / c = (l - c) / c + 1 := by
      rw [Nat.div_eq_sub_div (by omega) z]
    rw [e2]
    rfl
  · rw [if_neg (by omega), Nat.div_eq_of_lt (by omega)]
    rfl
theorem rgc_size {c l : Nat} (h1 : 1 ≤ c) (h2 : c ≤ 8) (h3 : l ≤ 1000) : RgC (c : Int) ((l : Int) + 1) (c : Int) (l / c) := by
  have h4 : l / c ≤ l := Nat.div_le_self _ _
  refine ⟨by omega, by omega, ?_, size_div h1⟩
  unfold Builtin.Range.small
  rw [size_div h1]
  generalize l / c = q at h4 ⊢
  simp only [Builtin.Range.rangeFitsLong, Bool.and_eq_true, Bool.or_eq_true, decide_eq_true_eq, beq_iff_eq, show (c : Int) > 0 by omega, if_true]
  omega
theorem div_mul {c l i : Nat} (h1 : 1 ≤ c) (h : i < l / c) : (i + 1) * c ≤ l := (Nat.le_div_iff_mul_le h1).mp h
theorem le_div {c l n : Nat} (h1 : 1 ≤ c) (h : n * c ≤ l) : n ≤ l / c := (Nat.le_div_iff_mul_le h1).mpr h
theorem beg_mul {sz : Nat} {m : Tab} {ls : Path} {n : Nat} (b : IsBeg sz m ls n) : n * sz ≤ ls.length := by
  cases n with
  | zero => rw [Nat.zero_mul]; exact Nat.zero_le _
  | succ n => exact (b.all n (Nat.lt_succ_self n)).1
theorem end_nat (i sz : Nat) : ((sz : Int) + (i : Nat) * (sz : Int)) = (((i + 1) * sz : Nat) : Int) := by
  rw [Nat.succ_mul, Int.natCast_add, Int.natCast_mul]
  omega
theorem LawAt.setU {A : Ad} {H : Hp} {tr us us' : Tab} {hs : List Int} {cl : Int} {mi : List Int} (s : LawAt A H tr us hs cl mi) (ok : A.Ok) : LawAt A (upd H (A.a 8) (.dT (enc us'))) tr us' hs cl mi := by
  have x : Fr A [8] H (upd H (A.a 8) (.dT (enc us'))) := Fr.upd s.us rfl
  exact ⟨x.at ok 1 s.st, x.at ok 7 s.tr, upd_same, x.at ok 9 s.hs, x.at ok 10 s.cl, x.at ok 11 s.mi⟩
theorem LawAt.setC {A : Ad} {H : Hp} {tr us : Tab} {hs : List Int} {cl cl' : Int} {mi : List Int} (s : LawAt A H tr us hs cl mi) (ok : A.Ok) : LawAt A (upd H (A.a 10) (.lst [.int cl'])) tr us hs cl' mi := by
  have x : Fr A [10] H (upd H (A.a 10) (.lst [.int cl'])) := Fr.upd s.cl rfl
  exact ⟨x.at ok 1 s.st, x.at ok 7 s.tr, x.at ok 8 s.us, x.at ok 9 s.hs, upd_same, x.at ok 11 s.mi⟩
theorem dinP {H : Hp} {a b : Addr} {p : Path} {m : Tab} (e : H a = some (.dT (enc m))) (eb : H b = some (.tup (p.map V.int))) : DGet H a (.ref b) ((look m p).map V.int) := dget e eb

section
variable {P : Program} {w : World} {K : PySem.W.Frag} {mg : Str → Option Value} {base : Heap} {t : Tx}
/-! ### uses -/
def spLUses : Sp := fun vs H Q _ => ∃ (A : Ad) (tr us : Tab) (hs : List Int) (cl : Int) (mi : List Int) (a : Addr) (ls : List Int) (n : Nat), vs = [.ref (A.a 1), .ref a] ∧ A.Ok ∧ LawAt A H tr us hs cl mi ∧ H a = some (.tup (ls.map V.int)) ∧ ls.length ≤ 1000 ∧ TreeOk A.size tr ∧ IsBeg A.size tr ls n ∧ us.length ≤ 10000 ∧
  ∀ H', LawAt A H' tr (putAll us (pres A.size ls n) (cl + 1)) hs (cl + 1) mi → Fr A [8, 10] H H' → Q .non H'
theorem ok_luses (T : Txt K mg t) : FnOk P w K mg base CX0 1 t.lUses t.lUsesD ["_law_state", "_law_path_here"] spLUses := by
  refine T.F_lUses.ok scLUses (fun vs H Q E h => ?_) (fun cdv Ar outer s H vs Q E hr h => ?_)
  · obtain ⟨A, tr, us, hs, cl, mi, a, ls, n, rfl, _⟩ := h
    rfl
  · obtain ⟨A, tr, us, hs, cl, mi, a, ls, n, rfl, ok, L, ha, hlen, tok, hb, hus, k⟩ := h
    have hu := hu_of hr
    refine ⟨_, pss_cons (ps_set (i := 2) scLUses.nd rfl (.inl rfl) (pe_dget hu (pv 0) pe_str (fun _ _ => rfl)))
      (pss_cons (ps_set (i := 3) scLUses.nd rfl (.inl rfl) (pe_dget hu (pv 0) pe_str (fun _ _ => rfl)))
      (pss_cons (ps_asg (pe_op op_add (pe_ix ix_list (pv 3) pe_int (fun _ _ => rfl)) pe_int) (pg_sub (pv 3) pe_int set_list))
      (pss_one (ps_for PassesOwn.never rfl (pi_range3 (by rfl) T.g_range (pa_cons (pe_dget hu (pv 0) pe_str (fun _ _ => rfl)) (pa_cons (pe_op op_add (pe_callB call_len_seq (by rfl) T.g_len PySem.boot_len (pa_cons (pv 1) pa_nil)) pe_int) (pa_cons (pe_dget hu (pv 0) pe_str (fun _ _ => rfl)) pa_nil)))) (pg_name (i := 4) scLUses.nd rfl (.inl rfl))
        (pss_one (ps_if (pt_cmp (pc_din hu (pe_slice sl_tupA (pv 1) po_none (po_some (pv 4))) (pe_dget hu (pv 0) pe_str (fun _ _ => rfl))))
          (pss_one (ps_dput hu (pv 2) (pe_slice sl_tupA (pv 1) po_none (po_some (pv 4))) (pe_ix ix_list (pv 3) pe_int (fun _ _ => rfl)) rfl)) pss_nil)))))), ?_⟩
    have s1 := ok.s1
    have s2 := ok.s2
    refine ⟨_, rfl, A.a 1, _, rfl, dgk L.st (st_used A), ?_⟩
    refine ⟨_, rfl, A.a 1, _, rfl, dgk L.st (st_clock A), ?_⟩
    have c0 : ∀ c : Int, atI [V.int c] 0 = some (.int c) := fun c => at_of (j := 0) rfl rfl
    refine ⟨_, rfl, A.a 10, _, _, _, rfl, rfl, SqL.of L.cl, c0 _, _, _, rfl, rfl, _, rfl, A.a 10, _, _, 0, rfl, rfl, L.cl, rfl, ?_⟩
    have x1 : Fr A [10] H (upd H (A.a 10) (.lst [.int (cl + 1)])) := Fr.upd L.cl rfl
    have L1 : LawAt A (upd H (A.a 10) (.lst [.int (cl + 1)])) tr us hs (cl + 1) mi := L.setC ok
    rw [show [V.int cl].set 0 (V.int (cl + 1)) = [V.int (cl + 1)] from rfl]
    generalize upd H (A.a 10) (.lst [.int (cl + 1)]) = H1 at x1 L1
    have ha1 := x1.tup _ _ ha
    refine ⟨_, rfl, A.a 1, _, rfl, dgk L1.st (st_size A), _, rfl, a, _, rfl, .inr (SqT.of ha1), _, _, rfl, rfl, _, rfl, A.a 1, _, rfl, dgk L1.st (st_size A), _, _, _, ls.length / A.size, rfl, ?_, ?_⟩
    · rw [List.length_map]
      exact rgc_size s1 s2 hlen
    refine for_rangeC (fun i σ H' => ∃ v, σ = [some (.ref (A.a 1)), some (.ref a), some (.ref (A.a 8)), some (.ref (A.a 10)), v] ∧ LawAt A H' tr (putAll us (pres A.size ls (min i n)) (cl + 1)) hs (cl + 1) mi ∧ Fr A [8, 10] H H') ?_ ?_ ?_
    · exact ⟨_, rfl, by rw [Nat.zero_min]; exact L1, x1.mono⟩
    · rintro i σ H2 hi ⟨v, rfl, L2, x2⟩
      have ha2 := x2.tup _ _ ha
      have hil := div_mul s1 hi
      rw [end_nat]
      refine ⟨_, rfl, _, rfl, _, rfl, slT (A := A) ha2 fun d H3 x3 hd => ?_⟩
      have L3 := L2.fr ok x3
      refine ⟨_, rfl, A.a 1, _, rfl, dgk L3.st (st_tree A), A.a 7, _, rfl, dget L3.tr hd, (look tr (pre A.size ls (i + 1))).isSome, some_map, ite2 (fun z => ?_) (fun z => ?_)⟩
      · have iln : i < n := by
          rcases Nat.lt_or_ge i n with q | q
          · exact q
          · have := tok.closed s1 hb (i + 1) (by omega) hil
            rw [z] at this
            cases this
        refine ⟨_, rfl, A.a 10, _, _, _, rfl, rfl, SqL.of L3.cl, c0 _, _, rfl, _, rfl, _, rfl, _, rfl, slT (A := A) (x3.tup _ _ ha2) fun e H4 x4 he => ?_⟩
        have L4 := L3.fr ok x4
        have hlen4 : (putAll us (pres A.size ls (min i n)) (cl + 1)).length < sizeLine := by
          have h1 := putAll_length (cl + 1) (pres A.size ls (min i n)) us
          have h2 := Nat.min_le_right i n
          have h3 := beg_le s1 hb
          rw [pres_length] at h1
          exact len100 (by omega)
        refine ⟨A.a 8, _, rfl, dputP L4.us he hlen4, ?_⟩
        have ep : put (putAll us (pres A.size ls (min i n)) (cl + 1)) (ls.take ((i + 1) * A.size)) (cl + 1) = putAll us (pres A.size ls (min (i + 1) n)) (cl + 1) := by
          rw [Nat.min_eq_left (by omega), Nat.min_eq_left (by omega), pres_succ, putAll_snoc]
          rfl
        rw [ep]
        exact ⟨_, rfl, L4.setU ok, (x2.and (x3.trans x4) (L := [8, 10])).and (Fr.upd L4.us rfl : Fr A [8] H4 _) (L := [8, 10])⟩
      · have iln : n ≤ i := by
          rcases Nat.lt_or_ge i n with q | q
          · exact absurd (hb.all i q).2 z
          · exact q
        refine ⟨_, rfl, ?_, x2.and x3⟩
        rw [Nat.min_eq_right (by omega)] at L3 ⊢
        exact L3
    · rintro σ H2 ⟨v, rfl, L2, x2⟩
      rw [Nat.min_eq_right (le_div s1 (beg_mul hb))] at L2
      exact k H2 L2 x2
/-! ### known -/
def spLKnown : Sp := fun vs H Q _ => ∃ (A : Ad) (tr us : Tab) (hs : List Int) (cl : Int) (mi : List Int) (a : Addr) (ls : List Int) (n : Nat), vs = [.ref (A.a 1), .ref a] ∧ A.Ok ∧ Live A H ∧ LawAt A H tr us hs cl mi ∧ H a = some (.tup (ls.map V.int)) ∧ ls.length ≤ 1000 ∧ TreeOk A.size tr ∧ IsBeg A.size tr ls n ∧ us.length ≤ 10000 ∧
  ∀ (q : Addr) (H' : Hp), H' q = some (.tup ((pres A.size ls n).map fun p => V.int (lk tr p))) → LawAt A H' tr (putAll us (pres A.size ls n) (cl + 1)) hs (cl + 1) mi → Fr A [8, 10] H H' → Q (.ref q) H'
theorem beg_pre {sz : Nat} {m : Tab} {ls : Path} {n : Nat} (s1 : 1 ≤ sz) (b : IsBeg sz m ls n) : IsBeg sz m (pre sz ls n) n := by
  refine ⟨fun j hj => ?_, fun z => ?_⟩
  · rw [pre_length (beg_mul b), pre_pre hj]
    exact ⟨Nat.mul_le_mul_right sz hj, (b.all j hj).2⟩
  · have h := z.1
    rw [pre_length (beg_mul b), Nat.succ_mul] at h
    omega
theorem pres_pre {sz : Nat} {ls : Path} {n : Nat} : pres sz (pre sz ls n) n = pres sz ls n := by
  unfold pres
  refine List.map_congr_left fun j hj => ?_
  exact pre_pre (List.mem_range.mp hj)
theorem ok_lknown (T : Txt K mg t) : FnOk P w K mg base CX0 2 t.lKnown t.lKnownD ["_law_state", "_law_letters_here"] spLKnown := by
  refine T.F_lKnown.ok scLKnown (fun vs H Q E h => ?_) (fun cdv Ar outer s H vs Q E hr h => ?_)
  · obtain ⟨A, tr, us, hs, cl, mi, a, ls, n, rfl, _⟩ := h
    rfl
  · obtain ⟨A, tr, us, hs, cl, mi, a, ls, n, rfl, ok, lv, L, ha, hlen, tok, hb, hus, k⟩ := h
    have hu := hu_of hr
    refine ⟨_, pss_cons (ps_set (i := 2) scLKnown.nd rfl (.inl rfl) (pe_lst pa_nil))
      (pss_cons (ps_set (i := 3) scLKnown.nd rfl (.inl rfl) (pe_tup pa_nil))
      (C8.pss_cut (ps_for PassesOwn.never rfl (pi_range3 (by rfl) T.g_range (pa_cons (pe_dget hu (pv 0) pe_str (fun _ _ => rfl)) (pa_cons (pe_op op_add (pe_callB call_len_seq (by rfl) T.g_len PySem.boot_len (pa_cons (pv 1) pa_nil)) pe_int) (pa_cons (pe_dget hu (pv 0) pe_str (fun _ _ => rfl)) pa_nil)))) (pg_name (i := 4) scLKnown.nd rfl (.inl rfl))
        (pss_cons (ps_if (pt_cmp (pc_dnotin hu (pe_slice sl_tupA (pv 1) po_none (po_some (pv 4))) (pe_dget hu (pv 0) pe_str (fun _ _ => rfl)))) (pss_one ps_break) pss_nil)
        (pss_cons (ps_set (i := 3) scLKnown.nd rfl (.inl rfl) (pe_slice sl_tupA (pv 1) po_none (po_some (pv 4))))
        (pss_one (ps_expr (pe_bm PySem.F.plainAttrs_list PySem.F.slot_list_append PySem.F.type_list_append mt_append (pv 2) (pa_cons (pe_dget hu (pe_dget hu (pv 0) pe_str (fun _ _ => rfl)) (pv 3) (fun _ _ => rfl)) pa_nil)))))))
      (pss_cons (ps_expr (pe_call (ok_luses T) hr (by rfl) T.m_lUses T.F_lUses.kp T.b_lUses .nil pass0 (pa_cons (pv 0) (pa_cons (pv 3) pa_nil))))
      (pss_one (ps_ret (pe_callTy cr_tupOf (by rfl) T.g_tuple PyProof.Rows.boot_tuple (pa_cons (pv 2) pa_nil))))))), ?_⟩
    have s1 := ok.s1
    have s2 := ok.s2
    refine ⟨Nat.zero_le _, fun l nl => ?_⟩
    have x1 : Fr A [] H (upd H l (.lst [])) := Fr.new nl
    have hl1 : upd H l (.lst []) l = some (.lst []) := upd_same
    have newl : New A l := lv.new nl
    generalize upd H l (.lst []) = H1 at x1 hl1
    refine ⟨Nat.zero_le _, fun pc npc => ?_⟩
    have x2 : Fr A [] H1 (upd H1 pc (.tup [])) := Fr.new npc
    have hp2 : upd H1 pc (.tup []) pc = some (.tup []) := upd_same
    have hl2 := x2.own newl hl1
    generalize upd H1 pc (.tup []) = H2 at x2 hp2 hl2
    have x02 := x1.trans x2
    have L2' := L.fr ok x02
    have ha2 := x02.tup _ _ ha
    refine ⟨fun σ H' => ∃ c v, σ = [some (.ref (A.a 1)), some (.ref a), some (.ref l), some (.ref c), v] ∧ H' l = some (.lst ((pres A.size ls n).map fun p => V.int (lk tr p))) ∧ H' c = some (.tup ((pre A.size ls n).map V.int)) ∧ Fr A [] H H', ?_, ?_⟩
    · refine ⟨_, rfl, A.a 1, _, rfl, dgk L2'.st (st_size A), _, rfl, a, _, rfl, .inr (SqT.of ha2), _, _, rfl, rfl, _, rfl, A.a 1, _, rfl, dgk L2'.st (st_size A), _, _, _, ls.length / A.size, rfl, ?_, ?_⟩
      · rw [List.length_map]
        exact rgc_size s1 s2 hlen
      refine for_rangeC (fun i σ H' => i ≤ n ∧ ∃ c v, σ = [some (.ref (A.a 1)), some (.ref a), some (.ref l), some (.ref c), v] ∧ H' l = some (.lst ((pres A.size ls i).map fun p => V.int (lk tr p))) ∧ H' c = some (.tup ((pre A.size ls i).map V.int)) ∧ Fr A [] H H') ?_ ?_ ?_
      · refine ⟨Nat.zero_le _, pc, _, rfl, hl2, ?_, x02⟩
        unfold pre
        rw [Nat.zero_mul]
        exact hp2
      · rintro i σ H3 hi ⟨hin, c, v, rfl, hl3, hc3, x3⟩
        have ha3 := x3.tup _ _ ha
        have hil := div_mul s1 hi
        rw [end_nat]
        refine ⟨_, rfl, _, rfl, _, rfl, slT (A := A) ha3 fun d H4 x4 hd => ?_⟩
        have L4 := (L.fr ok x3).fr ok x4
        have hl4 := x4.own newl hl3
        refine ⟨_, rfl, A.a 1, _, rfl, dgk L4.st (st_tree A), A.a 7, _, rfl, dget L4.tr hd, !(look tr (pre A.size ls (i + 1))).isSome, congrArg (fun z => V.bl (!z)) (Option.isSome_map ..), ite2 (fun z => ?_) (fun z => ?_)⟩
        · -- break
          have z : (look tr (pre A.size ls (i + 1))).isSome = false := by simpa using z
          have ei : i = n := by
            rcases Nat.lt_or_ge i n with q | q
            · have := (hb.all i q).2
              rw [z] at this
              cases this
            · omega
          subst ei
          exact ⟨c, _, rfl, hl4, x4.tup _ _ hc3, x3.trans x4⟩
        · have z : (look tr (pre A.size ls (i + 1))).isSome = true := by
            cases y : (look tr (pre A.size ls (i + 1))).isSome with
            | true => rfl
            | false =>
              rw [y] at z
              exact absurd rfl z
          have iln : i < n := by
            rcases Nat.lt_or_ge i n with q | q
            · exact q
            · have := tok.closed s1 hb (i + 1) (by omega) hil
              rw [z] at this
              cases this
          refine ⟨_, rfl, _, rfl, _, rfl, slT (A := A) (x4.tup _ _ ha3) fun e H5 x5 he => ?_⟩
          have L5 := L4.fr ok x5
          have hl5 := x5.own newl hl4
          have il : (pres A.size ls i).length = i := pres_length _ _ _
          have nle := beg_le s1 hb
          refine ⟨_, rfl, .inl ⟨rfl, _, SqL.of hl5⟩, _, rfl, A.a 1, _, rfl, dgk L5.st (st_tree A), _, rfl, A.a 7, _, rfl, dgetS L5.tr he (look_lk z), l, _, _, rfl, rfl, hl5, by rw [List.length_map, il]; exact len100 (by omega), ?_⟩
          have nfree : H l = none := nl
          refine ⟨iln, e, _, rfl, ?_, ?_, ((x3.trans x4).trans x5).loc nl⟩
          · rw [upd_same, pres_succ, List.map_append]
            rfl
          · rw [upd_ne (ne_of he hl5 fun z => nomatch z)]
            exact he
      · rintro σ H3 ⟨hin, c, v, rfl, hl3, hc3, x3⟩
        have ei : ls.length / A.size = n := by
          have := le_div s1 (beg_mul hb)
          omega
        rw [ei] at hl3 hc3
        exact ⟨c, v, rfl, hl3, hc3, x3⟩
    · rintro σ H3 ⟨c, v, rfl, hl3, hc3, x3⟩
      have nle := beg_le s1 hb
      have hlp : (pre A.size ls n).length ≤ 1000 := by
        unfold pre
        rw [List.length_take]
        omega
      refine ⟨_, rfl, _, rfl, A, tr, us, hs, cl, mi, c, pre A.size ls n, n, rfl, ok, L.fr ok x3, hc3, hlp, tok, beg_pre s1 hb, hus, fun H4 L4 x4 => ?_⟩
      rw [pres_pre] at L4
      have hl4 := x4.own newl hl3
      refine ⟨_, rfl, l, _, rfl, .inl ⟨SqL.of hl4, fun q nq => ?_⟩⟩
      have x5 : Fr A [] H4 (upd H4 q (.tup ((pres A.size ls n).map fun p => V.int (lk tr p)))) := Fr.new nq
      exact k q _ upd_same (L4.fr ok x5) ((x3.and x4 (L := [8, 10])).and x5)
end
end K23
namespace K23
open PySem L2

/-! ### row -/
def wts (ls : List Int) (k lets : Nat) : List Int := (List.range lets).map fun (j : Nat) => 1 + (ls.sum * ((j : Int) + 3) + (ls.length : Int) * (k : Int) + (j : Int) * (k : Int)) % 7
theorem wts_take {ls : List Int} {k i : Nat} : wts ls k (i + 1) = wts ls k i ++ [1 + (ls.sum * ((i : Int) + 3) + (ls.length : Int) * (k : Int) + (i : Int) * (k : Int)) % 7] := by
  unfold wts
  rw [List.range_succ, List.map_append]
  rfl
theorem wts_len (ls : List Int) (k n : Nat) : (wts ls k n).length = n := by
  unfold wts
  rw [List.length_map, List.length_range]
theorem cmul_i {i j : Int} (h0 : 0 ≤ j) (h : j ≤ 1000) : CMul i j := .inr ⟨by omega, by omega⟩
theorem cmul_r {i : Int} {j : Nat} (h : j ≤ 1000) : CMul i (j : Int) := .inr ⟨by omega, by omega⟩
def rInt1 : List V → Hp → VK → Prop := fun xs H Q => (∃ i, xs = [V.int i] ∧ Q (.int i) H) ∨ ∃ k, xs = [V.bl k] ∧ Q (.int (if k then 1 else 0)) H
theorem cr_int1 {X : Cx} : CallR X (.type "int") rInt1 := call_int1
def rLenS (K : PySem.W.Frag) : List V → Hp → VK → Prop := fun xs H Q => ∃ p ys, xs = [V.ref p] ∧ (SqL K H p ys ∨ SqT K H p ys) ∧ Q (.int ys.length) H
theorem cr_lenS {X : Cx} : CallR X (.builtin "len") (rLenS X.K) := call_len_seq
abbrev rPlus : R2 := rI0 fun i j => .int (i + j)
abbrev rTimes : R2 := rI CMul fun i j => .int (i * j)
abbrev rModP : R2 := rI (fun _ j => 0 < j) fun i j => .int (i % j)
section
variable {P : Program} {w : World} {K : PySem.W.Frag} {mg : Str → Option Value} {base : Heap} {t : Tx}
def spLRow : Sp := fun vs H Q _ => ∃ (A : Ad) (tr us : Tab) (hs : List Int) (cl : Int) (mi : List Int) (a : Addr) (ls : List Int) (k : Nat), vs = [.ref (A.a 1), .ref a, .int k] ∧ A.Ok ∧ Live A H ∧ LawAt A H tr us hs cl mi ∧ H a = some (.tup (ls.map V.int)) ∧ k ≤ 8 ∧
  ∀ (q : Addr) (H' : Hp), RowAt H' q (wts ls k A.lets) → Fr A [] H H' → Q (.ref q) H'
theorem ok_lrow (T : Txt K mg t) : FnOk P w K mg base CX0 1 t.lRow t.lRowD ["_law_state", "_law_letters_here", "_law_k"] spLRow := by
  refine T.F_lRow.ok scLRow (fun vs H Q E h => ?_) (fun cdv Ar outer s H vs Q E hr h => ?_)
  · obtain ⟨A, tr, us, hs, cl, mi, a, ls, k, rfl, _⟩ := h
    rfl
  · obtain ⟨A, tr, us, hs, cl, mi, a, ls, k, rfl, ok, lv, L, ha, hk, q⟩ := h
    have hu := hu_of hr
    refine ⟨_, pss_cons (ps_setLc (i := 3) (own := [("_law_j", 4)]) (g := gName 4) (tt := tYes)
          (te := tOp rPlus (tC (.int 1)) (tOp rModP (tCB rInt1 (tCons (tOp rPlus (tOp rPlus (tOp rTimes (tCB (rSumT K) (tCons (tVar 1) tNil)) (tOp rPlus (tVar 4) (tC (.int 3)))) (tOp rTimes (tCB (rLenS K) (tCons (tVar 1) tNil)) (tVar 2))) (tOp rTimes (tVar 4) (tVar 2))) tNil)) (tC (.int 7))))
          (by rfl) scLRow.nd rfl rfl (sw_true rfl rfl rfl (by decide +kernel))
          (pi_range1 (by rfl) T.g_range (pa_cons (pe_dget hu (pv 0) pe_str (fun _ _ => rfl)) pa_nil))
          (blkOk_by (own := [("_law_j", 4)]) (N := ["_law_state", "_law_letters_here", "_law_k", "_law_weights", "_law_j"]) (sc := defScope sLRow) (by decide +kernel))
          (fun _ _ _ _ _ => pg_name (i := 4) scLRow.nd rfl (Or.inl rfl)) (fun _ _ _ _ _ => pts_nil)
          (fun _ _ _ _ _ => pe_op op_add pe_int (pe_op op_mod (pe_callTy cr_int1 (by rfl) T.g_int PyProof.Rows.boot_int (pa_cons (pe_op op_add (pe_op op_add (pe_op op_mul (pe_callB (cr_sumT (by rfl)) (by rfl) T.g_sum PyProof.Rows.boot_sum (pa_cons (pv 1) pa_nil)) (pe_op op_add (pv 4) pe_int))
            (pe_op op_mul (pe_callB cr_lenS (by rfl) T.g_len PySem.boot_len (pa_cons (pv 1) pa_nil)) (pv 2))) (pe_op op_mul (pv 4) (pv 2))) pa_nil)) pe_int)))
      (pss_one (ps_ret (pe_tup (pa_cons (pe_tup pa_nil) (pa_cons (pe_callTy cr_tupOf (by rfl) T.g_tuple PyProof.Rows.boot_tuple (pa_cons (pv 3) pa_nil)) pa_nil))))), ?_⟩
    have l2 := ok.l2
    refine ⟨_, rfl, A.a 1, _, rfl, dgk L.st (st_letters A), _, rfl, by omega, by omega, fun D nD => ?_⟩
    have newD : New A D := lv.new nD
    rw [Int.toNat_natCast]
    refine lc_range (fun i H' => H' = upd H D (.lst ((wts ls k i).map V.int))) rfl ?_ ?_
    · rintro i H1 hi rfl
      have ha1 : upd H D (.lst ((wts ls k i).map V.int)) a = some (.tup (ls.map V.int)) := by
        rw [upd_ne (ne_of_none ha nD)]
        exact ha
      refine ⟨rfl, _, rfl, a, ls, rfl, SqT.of ha1, _, rfl, _, _, rfl, rfl, _, _, rfl, rfl, cmul_i (by omega) (by omega), _, rfl, a, _, rfl, .inr (SqT.of ha1), _, rfl, _, _, rfl, rfl, cmul_r (by omega), _, _, rfl, rfl, _, rfl, _, rfl, _, _, rfl, rfl, cmul_i (by omega) (by omega), _, _, rfl, rfl, .inl ⟨_, rfl, _, _, rfl, rfl, (by show (0 : Int) < 7; decide), _, _, rfl, rfl, _, upd_same, ?_, ?_⟩⟩
      · rw [List.length_map, wts_len]
        exact len100 (by omega)
      · rw [upd_upd, wts_take, List.map_append, List.length_map]
        show upd H D _ = upd H D _
        rw [Int.zero_add]
        rfl
    · rintro H1 rfl
      have x1 : Fr A [] H (upd H D (.lst ((wts ls k A.lets).map V.int))) := Fr.new nD
      have hD : upd H D (.lst ((wts ls k A.lets).map V.int)) D = some (.lst ((wts ls k A.lets).map V.int)) := upd_same
      generalize upd H D (.lst ((wts ls k A.lets).map V.int)) = H1 at x1 hD
      refine ⟨Nat.zero_le _, fun e ne => ?_⟩
      have x2 : Fr A [] H1 (upd H1 e (.tup [])) := Fr.new ne
      have he : upd H1 e (.tup []) e = some (.tup []) := upd_same
      have hD2 := x2.own newD hD
      generalize upd H1 e (.tup []) = H2 at x2 he hD2
      refine ⟨_, rfl, D, _, rfl, .inl ⟨SqL.of hD2, fun v nv => ?_⟩⟩
      have x3 : Fr A [] H2 (upd H2 v (.tup ((wts ls k A.lets).map V.int))) := Fr.new nv
      have hv : upd H2 v (.tup ((wts ls k A.lets).map V.int)) v = some (.tup ((wts ls k A.lets).map V.int)) := upd_same
      generalize upd H2 v (.tup ((wts ls k A.lets).map V.int)) = H3 at x3 hv
      refine ⟨by show 2 ≤ sizeLine; rw [sizeLine_eq]; decide, fun p np => ?_⟩
      have x4 : Fr A [] H3 (upd H3 p (.tup [.ref e, .ref v])) := Fr.new np
      exact q p _ ⟨e, v, upd_same, x4.tup _ _ (x3.tup _ _ he), x4.tup _ _ hv⟩ (((x1.trans x2).trans x3).trans x4)
/-! ### the paths of the law's tree, ascending -/
theorem keys_tr {m : Tab} : (enc m).map (·.1) = (keys m).map (List.map Sum.inl) := by
  unfold enc keys
  rw [List.map_map, List.map_map]
  rfl
/-! ### path -/
def spLPath : Sp := fun vs H Q _ => ∃ (A : Ad) (tr us : Tab) (hs : List Int) (cl : Int) (mi : List Int), vs = [.ref (A.a 12), .ref (A.a 1)] ∧ A.Ok ∧ Live A H ∧ LawAt A H tr us hs cl mi ∧ PoolAt A H ∧ TreeOk A.size tr ∧
  ∀ (p : Path) (j : Nat) (c : Addr) (H' : Hp), p.length = j * A.size → p.length ≤ 60 → H' c = some (.tup (p.map V.int)) → PoolAt A H' → Fr A [12] H H' → Q (.ref c) H'
theorem ok_lpath (T : Txt K mg t) : FnOk P w K mg base CX0 2 t.lPath t.lPathD ["_law_pool_here", "_law_state"] spLPath := by
  refine T.F_lPath.ok scLPath (fun vs H Q E h => ?_) (fun cdv Ar outer s H vs Q E hr h => ?_)
  · obtain ⟨A, tr, us, hs, cl, mi, rfl, _⟩ := h
    rfl
  · obtain ⟨A, tr, us, hs, cl, mi, rfl, ok, lv, L, po, tok, k⟩ := h
    have hu := hu_of hr
    have s1 := ok.s1
    have s2 := ok.s2
    refine ⟨_, pss_cons (ps_if (PW.pt (pw_and (pt_cmpR op_gt (pe_callB call_len_dT (by rfl) T.g_len PySem.boot_len (pa_cons (pe_dget hu (pv 1) pe_str (fun _ _ => rfl)) pa_nil)) pe_int (nomark _))
          (pw_and1 (pt_cmpR op_gt (pe_call (ok_draw T) hr (by rfl) T.m_lDraw T.F_lDraw.kp T.b_lDraw .nil pass0 (pa_cons (pv 0) (pa_cons pe_int pa_nil))) pe_int (nomark _)))))
        (pss_cons (ps_set (i := 2) scLPath.nd rfl (.inl rfl) (pe_callB (cr_sortD rfl hr) (by rfl) T.g_sorted PyProof.Rows.boot_sorted (pa_cons (pe_dget hu (pv 1) pe_str (fun _ _ => rfl)) pa_nil)))
        (pss_cons (ps_set (i := 3) scLPath.nd rfl (.inl rfl) (pe_ix ix_list (pv 2) (pe_call (ok_draw T) hr (by rfl) T.m_lDraw T.F_lDraw.kp T.b_lDraw .nil pass0 (pa_cons (pv 0) (pa_cons (pe_callB call_len_seq (by rfl) T.g_len PySem.boot_len (pa_cons (pv 2) pa_nil)) pa_nil))) (fun _ _ => rfl)))
        (pss_cons (ps_set (i := 4) scLPath.nd rfl (.inl rfl) (pe_op op_fdiv (pe_op op_sub pe_int (pe_op op_mul pe_int (pe_dget hu (pv 1) pe_str (fun _ _ => rfl)))) (pe_dget hu (pv 1) pe_str (fun _ _ => rfl))))
        (pss_one (ps_ret (pe_slice sl_tupA (pv 3) po_none (po_some (pe_op op_mul (pe_dget hu (pv 1) pe_str (fun _ _ => rfl)) (pe_callB (call_min2 (by rfl)) (by rfl) T.g_min PyProof.Rows.boot_min (pa_cons (pv 4) (pa_cons (pe_call (ok_draw T) hr (by rfl) T.m_lDraw T.F_lDraw.kp T.b_lDraw .nil pass0 (pa_cons (pv 0) (pa_cons pe_int pa_nil))) pa_nil)))))))))))
        pss_nil)
      (pss_one (ps_ret (pe_tup pa_nil))), ?_⟩
    have fin : ∀ H', PoolAt A H' → Fr A [12] H H' → ∀ p, H' p = none → Q (.ref p) (upd H' p (.tup [])) := fun H' po' x' p np => by
      have x2 : Fr A [] H' (upd H' p (.tup [])) := Fr.new np
      exact k [] 0 p _ (by rw [Nat.zero_mul]; rfl) (Nat.zero_le _) upd_same (po'.fr ok x2) (x'.and x2)
    refine ⟨_, rfl, A.a 1, _, rfl, dgk L.st (st_tree A), A.a 7, _, rfl, L.tr, _, _, rfl, rfl, decide (tr ≠ []), ?_, ite2 (fun z => ?_) (fun z => ?_)⟩
    · rw [enc_length]
      cases tr with
      | nil => rfl
      | cons e tr =>
        refine congrArg V.bl ?_
        rw [decide_eq_true (by rw [List.length_cons]; omega)]
        rfl
    · have z : tr ≠ [] := of_decide_eq_true z
      refine ⟨_, rfl, A.a 12, _, 3, rfl, by decide, po.choose_spec, fun d xs1 hd => ?_⟩
      obtain ⟨H1, e1, po1, x1⟩ := drawn po xs1
      rw [e1]
      have L1 := L.fr ok x1
      refine ⟨_, _, rfl, rfl, _, rfl, ite2 (fun y => ?_) (fun y => ?_)⟩
      · refine ⟨_, rfl, A.a 1, _, rfl, dgk L1.st (st_tree A), A.a 7, _, keys tr, rfl, L1.tr, keys_tr, tok.ne s1, fun bs z' perm sorted ht nz => ?_⟩
        have x2 : Fr A [] H1 (upd H1 z' (.lst (bs.map fun b => V.ref b.1))) := Fr.new nz
        have hz : upd H1 z' (.lst (bs.map fun b => V.ref b.1)) z' = some (.lst (refs bs)) := upd_same
        have newz : New A z' := (lv.fr x1).new nz
        generalize upd H1 z' (.lst (bs.map fun b => V.ref b.1)) = H2 at x2 hz
        have L2' := L1.fr ok x2
        have po2 := po1.fr ok x2
        have bl : 1 ≤ bs.length := by
          have h1 := perm.length_eq
          rw [List.length_map] at h1
          unfold keys at h1
          rw [List.length_map] at h1
          have h2 : 0 < tr.length := List.length_pos_iff.mpr z
          omega
        refine ⟨_, rfl, _, rfl, _, rfl, z', _, rfl, .inl (SqL.of hz), A.a 12, _, (refs bs).length, rfl, by rw [refs_len]; exact bl, po2.choose_spec, fun d2 xs2 hd2 => ?_⟩
        obtain ⟨H3, e3, po3, x3⟩ := drawn po2 xs2
        rw [e3]
        rw [refs_len] at hd2
        have hz3 := x3.own newz hz
        have hb : bs[d2]? = some bs[d2] := List.getElem?_eq_getElem hd2
        have hb2 : (refs bs)[d2]? = some (.ref bs[d2].1) := by
          unfold refs
          rw [List.getElem?_map, hb]
          rfl
        have bm := List.mem_of_getElem? hb
        have x13 : Fr A [12] H1 H3 := x2.and x3
        have hbt3 : H3 bs[d2].1 = some (.tup (bs[d2].2.map V.int)) := x13.tup _ _ (ht _ bm)
        have L3 := L2'.fr ok x3
        have mem : bs[d2].2 ∈ keys tr := perm.mem_iff.mp (List.mem_map.mpr ⟨_, bm, rfl⟩)
        generalize bs[d2] = b at hb2 hbt3 mem
        refine ⟨_, _, _, _, rfl, rfl, SqL.of hz3, atI_nat hb2, ?_⟩
        have e2 : (53 - 2 * (A.size : Int)) / (A.size : Int) = (((53 - 2 * A.size) / A.size : Nat) : Int) := by
          rw [Int.natCast_ediv]
          congr 1
          omega
        refine ⟨_, rfl, A.a 1, _, rfl, dgk L3.st (st_size A), _, _, rfl, rfl, cmul_r (by omega), _, _, rfl, rfl, _, rfl, A.a 1, _, rfl, dgk L3.st (st_size A), _, _, rfl, rfl, ⟨by omega, by omega⟩, ?_⟩
        refine ⟨_, rfl, _, rfl, A.a 1, _, rfl, dgk L3.st (st_size A), _, rfl, _, rfl, A.a 12, _, 9, rfl, by decide, po3.choose_spec, fun d3 xs3 hd3 => ?_⟩
        obtain ⟨H4, e4, po4, x4⟩ := drawn po3 xs3
        rw [e4]
        refine ⟨_, _, rfl, ?_⟩
        have e5 : (if ((d3 : Nat) : Int) < (53 - 2 * (A.size : Int)) / (A.size : Int) then ((d3 : Nat) : Int) else (53 - 2 * (A.size : Int)) / (A.size : Int)) = ((min d3 ((53 - 2 * A.size) / A.size) : Nat) : Int) := by
          rw [e2]
          split <;> omega
        rw [e5]
        have hm1 : min d3 ((53 - 2 * A.size) / A.size) ≤ 9 := Nat.le_trans (Nat.min_le_left _ _) (Nat.le_of_lt hd3)
        have hm2 : min d3 ((53 - 2 * A.size) / A.size) * A.size ≤ 53 := by
          refine Nat.le_trans (Nat.mul_le_mul_right _ (Nat.min_le_right _ _)) ?_
          refine Nat.le_trans (Nat.div_mul_le_self _ _) ?_
          omega
        generalize min d3 ((53 - 2 * A.size) / A.size) = m at hm1 hm2
        refine ⟨_, _, rfl, rfl, cmul_r (by omega), _, rfl, ?_⟩
        have e6 : (A.size : Int) * ((m : Nat) : Int) = ((m * A.size : Nat) : Int) := by
          rw [Int.natCast_mul, Int.mul_comm]
        rw [e6]
        refine slT (A := A) (x4.tup _ _ hbt3) fun c H5 x5 hc => ?_
        obtain ⟨q, hq, eq⟩ := tok.len _ mem
        refine k (b.2.take (m * A.size)) (min m q) c H5 ?_ ?_ hc (po4.fr ok x5) (((x1.and x13 (L := [12])).trans x4).and x5)
        · rw [List.length_take, eq]
          rcases Nat.le_total m q with h | h
          · rw [Nat.min_eq_left h, Nat.min_eq_left (Nat.mul_le_mul_right _ h)]
          · rw [Nat.min_eq_right h, Nat.min_eq_right (Nat.mul_le_mul_right _ h)]
        · rw [List.length_take]
          omega
      · exact ⟨Nat.zero_le _, fin H1 po1 x1⟩
    · exact iteF ⟨Nat.zero_le _, fin H po (Fr.refl _ _ _)⟩
end
end K23
namespace K23
open PySem L2

/-- read while an object of the law is locked -/
theorem Fr.unlock {A : Ad} {i : Nat} {od : Obj} {u : HO} {H H' : Hp} (h : H (A.a i) = some u) (x : Fr A [] (L2.upd H (A.a i) (.frz od u)) H') : Fr A [] H (L2.upd H' (A.a i) u) := by
  have kp : ∀ b o, H b = some o → L2.upd H' (A.a i) u b = some o := fun b o e => by
    by_cases z : b = A.a i
    · rw [z, upd_same, ← e, z, h]
    · rw [upd_ne z]
      exact x.keep b o (by rw [upd_ne z]; exact e) fun j hj => nomatch hj
  exact ⟨fun b o e _ => kp b o e, fun b xs e => kp b _ e, fun b o e => ⟨o, kp b o e⟩⟩
abbrev rGtI : R2 := rI0 fun i j => .bl (decide (j < i))
/-- the paths that go on from p -/
def longer (ks : List Path) (p : Path) : List Path := ks.filter fun q => decide (p.length < q.length) && decide (q.take p.length = p)
theorem longer_nil {sz : Nat} {m : Tab} (hs : 1 ≤ sz) (t : TreeOk sz m) {ps : List Path} (hp : ∀ p, p ∈ ps ↔ p ∈ keys m) {p : Path} (h : p ∈ keys m) : longer (keys m) p = [] ↔ leaf sz ps p = true := by
  rw [leaf_iff hs t hp h]
  unfold longer
  rw [List.filter_eq_nil_iff]
  constructor
  · intro a q hq ⟨h1, h2⟩
    refine a q hq ?_
    rw [decide_eq_true h1, decide_eq_true h2]
    rfl
  · intro a q hq e
    rw [Bool.and_eq_true] at e
    exact a q hq ⟨of_decide_eq_true e.1, of_decide_eq_true e.2⟩
theorem mayGo_snoc {sz : Nat} {pa : List Path} {un : Tab} {cs : List Int} (ps : List Path) (p : Path) :
    ((ps ++ [p]).filter fun p => leaf sz pa p && decide (cs[blk un p]? = some 1)) = (ps.filter fun p => leaf sz pa p && decide (cs[blk un p]? = some 1)) ++ (if (leaf sz pa p && decide (cs[blk un p]? = some 1)) = true then [p] else []) := by
  rw [List.filter_append]
  congr 1
  by_cases h : (leaf sz pa p && decide (cs[blk un p]? = some 1)) = true
  · rw [if_pos h, List.filter_cons_of_pos (by exact h)]
    rfl
  · rw [if_neg h, List.filter_cons_of_neg (by exact h)]
    rfl
theorem mayGo_eq {sz : Nat} {pa : List Path} {un : Tab} {cs : List Int} : mayGo sz pa un cs = pa.filter fun p => leaf sz pa p && decide (cs[blk un p]? = some 1) := by
  unfold mayGo
  rw [List.filter_filter]
  congr 1
  funext p
  exact Bool.and_comm _ _
section
variable {P : Program} {w : World} {K : PySem.W.Frag} {mg : Str → Option Value} {base : Heap} {t : Tx}
def spLDropped : Sp := fun vs H Q _ => ∃ (A : Ad) (tr us : Tab) (hs : List Int) (cl : Int) (mi : List Int) (pa : List Path), vs = [.ref (A.a 1)] ∧ A.Ok ∧ Live A H ∧ LawAt A H tr us hs cl mi ∧ TreeOk A.size tr ∧ tr.length ≤ 1000 ∧ pa.Perm (keys tr) ∧ pa.Pairwise (· ≤ ·) ∧
  (∀ p ∈ pa, ∃ c, look tr p = some (blk tr p : Int) ∧ hs[blk tr p]? = some c) ∧ (∀ p ∈ pa, (look us p).isSome = true) ∧
  (argm (lk us) (mayGo A.size pa tr hs) = none → ∀ H', Fr A [] H H' → Q (.bl false) H') ∧
  (∀ best, argm (lk us) (mayGo A.size pa tr hs) = some best → ∀ H', LawAt A H' (drop tr best) us (hs.set (blk tr best) 0) cl mi → Fr A [7, 9] H H' → Q (.bl true) H')
theorem LawAt.setT {A : Ad} {H : Hp} {tr tr' us : Tab} {hs : List Int} {cl : Int} {mi : List Int} (s : LawAt A H tr us hs cl mi) (ok : A.Ok) : LawAt A (upd H (A.a 7) (.dT (enc tr'))) tr' us hs cl mi := by
  have x : Fr A [7] H (upd H (A.a 7) (.dT (enc tr'))) := Fr.upd s.tr rfl
  exact ⟨x.at ok 1 s.st, upd_same, x.at ok 8 s.us, x.at ok 9 s.hs, x.at ok 10 s.cl, x.at ok 11 s.mi⟩
theorem ok_ldropped (T : Txt K mg t) : FnOk P w K mg base CX0 2 t.lDropped t.lDroppedD ["_law_state"] spLDropped := by
  refine T.F_lDropped.ok scLDropped (fun vs H Q E h => ?_) (fun cdv Ar outer s H vs Q E hr h => ?_)
  · obtain ⟨A, tr, us, hs, cl, mi, pa, rfl, _⟩ := h
    rfl
  · obtain ⟨A, tr, us, hs, cl, mi, pa, rfl, ok, lv, L, tok, htl, hperm, hsort, htr, hus, k0, k1⟩ := h
    have hu := hu_of hr
    have s1 := ok.s1
    refine ⟨_, pss_cons (ps_set (i := 1) scLDropped.nd rfl (.inl rfl) (pe_dget hu (pv 0) pe_str (fun _ _ => rfl)))
      (pss_cons (ps_set (i := 2) scLDropped.nd rfl (.inl rfl) (pe_dget hu (pv 0) pe_str (fun _ _ => rfl)))
      (pss_cons (ps_set (i := 3) scLDropped.nd rfl (.inl rfl) pe_non)
      (pss_cons (ps_for PassesOwn.never rfl (pi_list (pe_callB (cr_sortD rfl hr) (by rfl) T.g_sorted PyProof.Rows.boot_sorted (pa_cons (pv 1) pa_nil))) (pg_name (i := 4) scLDropped.nd rfl (.inr rfl))
        (pss_cons (ps_lock (ps_setLc (i := 5) (own := [("_law_other", 6)]) (g := gName 6) (te := tVar 6)
            (tt := tAnd (tTest (tOp rGtI (tCB (rLenS K) (tCons (tVar 6) tNil)) (tCB (rLenS K) (tCons (tVar 4) tNil)))) (tTest (tOp (rEqD K) (L2.tSl (rSlA K) (tVar 6) tNoPart (tPart (tCB (rLenS K) (tCons (tVar 4) tNil)))) (tVar 4))))
            (by rfl) scLDropped.nd rfl rfl (sw_true rfl rfl rfl (by decide +kernel)) (pi_keys (pv 1))
            (blkOk_by (own := [("_law_other", 6)]) (N := ["_law_state", "_law_tree", "_law_used", "_law_best", "_law_path_here", "_law_longer", "_law_other"]) (sc := defScope sLDropped) (by decide +kernel))
            (fun _ _ _ _ _ => pg_name (i := 6) scLDropped.nd rfl (Or.inl rfl))
            (fun _ _ _ _ _ => pts_one (PW.pt (pw_and (pt_cmpR op_gt (pe_callB cr_lenS (by rfl) T.g_len PySem.boot_len (pa_cons (pv 6) pa_nil)) (pe_callB cr_lenS (by rfl) T.g_len PySem.boot_len (pa_cons (pv 4) pa_nil)) (nomark _))
              (pw_and1 (pt_cmpR (op_eqD (by exact hr.units)) (pe_slice sl_tupA (pv 6) po_none (po_some (pe_callB cr_lenS (by rfl) T.g_len PySem.boot_len (pa_cons (pv 4) pa_nil)))) (pv 4) (nomark _))))))
            (fun _ _ _ _ _ => pv 6)))
        (pss_one (ps_if (PW.pt (pw_and (pt_cmpR op_eq (pe_callB cr_lenS (by rfl) T.g_len PySem.boot_len (pa_cons (pv 5) pa_nil)) pe_int (nomark _))
            (pw_and1 (pt_cmpR op_eq (pe_ix ix_list (pe_dget hu (pv 0) pe_str (fun _ _ => rfl)) (pe_dget hu (pv 1) (pv 4) (fun _ _ => rfl)) (fun _ _ => rfl)) pe_int (nomark _)))))
          (pss_one (ps_if (PW.pt (pw_or (pt_cmp (pc_isN (pv 3))) (pw_or1 (pt_cmpR op_lt (pe_dget hu (pv 2) (pv 4) (fun _ _ => rfl)) (pe_dget hu (pv 2) (pv 3) (fun _ _ => rfl)) (nomark _)))))
            (pss_one (ps_set (i := 3) scLDropped.nd rfl (.inl rfl) (pv 4))) pss_nil)) pss_nil))))
      (pss_cons (ps_if (pt_cmp (pc_notN (pv 3)))
        (pss_one (ps_expr (pe_call (ok_lrel T) hr (by rfl) T.m_lRel T.F_lRel.kp T.b_lRel .nil pass0 (pa_cons (pv 0) (pa_cons (pe_bm PySem.F.plainAttrs_dict PySem.F.slot_dict_pop PySem.F.type_dict_pop (mt_pop1 hu) (pv 1) (pa_cons (pv 3) pa_nil)) pa_nil))))) pss_nil)
      (pss_one (ps_ret (pe_cmp (pc_notN (pv 3))))))))), ?_⟩
    refine ⟨_, rfl, A.a 1, _, rfl, dgk L.st (st_tree A), ?_⟩
    refine ⟨_, rfl, A.a 1, _, rfl, dgk L.st (st_used A), ?_⟩
    refine ⟨_, rfl, A.a 7, _, keys tr, rfl, L.tr, keys_tr, tok.ne s1, fun bs z perm sorted ht nz => ?_⟩
    have x1 : Fr A [] H (upd H z (.lst (bs.map fun b => V.ref b.1))) := Fr.new nz
    have hz1 : upd H z (.lst (bs.map fun b => V.ref b.1)) z = some (.lst (refs bs)) := upd_same
    have newz : New A z := lv.new nz
    have bpa : bs.map (fun b => b.2) = pa := sorted_eq (perm.trans hperm.symm) (List.pairwise_map.mpr sorted) hsort
    have inpa : ∀ b ∈ bs, b.2 ∈ pa := fun b hb => by
      rw [← bpa]
      exact List.mem_map.mpr ⟨b, hb, rfl⟩
    generalize upd H z (.lst (bs.map fun b => V.ref b.1)) = H1 at x1 hz1
    refine ⟨z, rfl, ⟨_, SqL.of hz1⟩, ?_⟩
    refine for_list (K := K) (a := z) (xs := refs bs) (fun i σ H' => Fr A [] H1 H' ∧ ∃ (bv : V) (v4 v5 : Option V), σ = [some (.ref (A.a 1)), some (.ref (A.a 7)), some (.ref (A.a 8)), some bv, v4, v5, none] ∧
      ((argm (lk us) ((pa.take i).filter fun p => leaf A.size pa p && decide (hs[blk tr p]? = some 1)) = none ∧ bv = .non) ∨ ∃ b ∈ bs, argm (lk us) ((pa.take i).filter fun p => leaf A.size pa p && decide (hs[blk tr p]? = some 1)) = some b.2 ∧ bv = .ref b.1)) ?_ ?_ ?_ ?_
    · exact ⟨Fr.refl _ _ _, .non, none, none, rfl, .inl ⟨rfl, rfl⟩⟩
    · rintro i σ H' _ ⟨x, _⟩
      exact SqL.of (x.own newz hz1)
    · rintro i y σ H2 hi ⟨x2, bv, v4, v5, rfl, hbest⟩
      obtain ⟨b, hb, rfl⟩ := refs_get hi
      have bm := List.mem_of_getElem? hb
      have bp := inpa b bm
      have bk : b.2 ∈ keys tr := hperm.mem_iff.mp bp
      obtain ⟨c, hlk, hc⟩ := htr _ bp
      have x02 : Fr A [] H H2 := x1.trans x2
      have L2' := L.fr ok x02
      have hbt : H2 b.1 = some (.tup (b.2.map V.int)) := x02.tup _ _ (ht b bm)
      have ttr := L2'.tr
      refine ⟨A.a 7, _, ttr, trivial, fun od => ?_⟩
      have hfz : upd H2 (A.a 7) (.frz od (.dT (enc tr))) (A.a 7) = some (.frz od (.dT (enc tr))) := upd_same
      have hbtL : upd H2 (A.a 7) (.frz od (.dT (enc tr))) b.1 = some (.tup (b.2.map V.int)) := by
        rw [upd_ne (ne_of hbt ttr fun z => nomatch z)]
        exact hbt
      refine ⟨_, rfl, A.a 7, od, rfl, .inr ⟨enc tr, hfz, fun D nD => ?_⟩⟩
      have nD2 : H2 D = none := by
        by_cases e : D = A.a 7
        · rw [e, hfz] at nD
          cases nD
        · rw [upd_ne e] at nD
          exact nD
      refine lc_it walk_keysT (fun i H' => Fr A [] (upd H2 (A.a 7) (.frz od (.dT (enc tr)))) H' ∧ ∃ acc : List V, acc.length = (longer ((keys tr).take i) b.2).length ∧ H' D = some (.lst acc)) ?_ ?_ ?_ ?_
      · exact ⟨Fr.new nD, [], rfl, upd_same⟩
      · rintro j H' _ ⟨x3, _⟩
        exact x3.keep _ _ hfz fun j hj => nomatch hj
      · rintro j x H3 H3' hj ⟨x3, acc, hacc, hD⟩ ⟨rfl, kk, v, q, hkv, rfl, hq⟩
        obtain ⟨e, he, hp⟩ : ∃ e, tr[j]? = some e ∧ kk = kp e.1 := by
          unfold enc at hkv
          rw [List.getElem?_map] at hkv
          obtain ⟨e, h1, h2⟩ := Option.map_eq_some_iff.mp hkv
          exact ⟨e, h1, (congrArg Prod.fst h2).symm⟩
        rw [hp, kp_V] at hq
        have hkj : (keys tr)[j]? = some e.1 := by
          unfold keys
          rw [List.getElem?_map, he]
          rfl
        have hlg : longer ((keys tr).take (j + 1)) b.2 = longer ((keys tr).take j) b.2 ++ (if (decide (b.2.length < e.1.length) && decide (e.1.take b.2.length = b.2)) = true then [e.1] else []) := by
          unfold longer
          rw [take_succ' hkj, List.filter_append]
          congr 1
          by_cases h : (decide (b.2.length < e.1.length) && decide (e.1.take b.2.length = b.2)) = true
          · rw [if_pos h, List.filter_cons_of_pos (by exact h)]
            rfl
          · rw [if_neg h, List.filter_cons_of_neg (by exact h)]
            rfl
        have hb3 := x3.tup _ _ hbtL
        refine ⟨rfl, _, rfl, q, _, rfl, .inr (SqT.of hq), _, rfl, b.1, _, rfl, .inr (SqT.of hb3), _, _, rfl, rfl, decide (b.2.length < e.1.length), ?_, ?_⟩
        · rw [List.length_map, List.length_map]
          exact congrArg V.bl (decide_eq_decide.mpr Int.ofNat_lt)
        by_cases h1 : b.2.length < e.1.length
        · rw [decide_eq_true h1] at hlg ⊢
          refine iteT ⟨_, rfl, _, rfl, b.1, _, rfl, .inr (SqT.of hb3), _, rfl, ?_⟩
          rw [List.length_map]
          refine slT (A := A) hq fun d H4 x4 hd => ?_
          have hb4 := x4.tup _ _ hb3
          have hD4 : H4 D = some (.lst acc) := x4.keep _ _ hD fun _ h => (nomatch h)
          refine ⟨_, rfl, _, _, dp_tup hd, dp_tup hb4, shaped_tup _, shaped_tup _, _, rfl, ?_⟩
          rw [eqv_tups]
          by_cases h2 : e.1.take b.2.length = b.2
          · rw [decide_eq_true h2] at hlg ⊢
            rw [Bool.true_and, if_pos rfl] at hlg
            refine iteT ⟨_, rfl, acc, hD4, ?_, ((x3.trans x4).loc nD), acc ++ [.ref q], ?_, upd_same⟩
            · rw [hacc]
              have h5 := List.length_filter_le (fun q => decide (b.2.length < q.length) && decide (q.take b.2.length = b.2)) ((keys tr).take j)
              have h6 : ((keys tr).take j).length ≤ tr.length := by
                rw [List.length_take]
                unfold keys
                rw [List.length_map]
                exact Nat.min_le_right _ _
              refine len100 ?_
              unfold longer
              omega
            · rw [hlg, List.length_append, List.length_append, hacc]
              rfl
          · rw [decide_eq_false h2] at hlg ⊢
            rw [Bool.and_false, if_neg Bool.false_ne_true, List.append_nil] at hlg
            refine iteF ⟨x3.trans x4, acc, ?_, hD4⟩
            rw [hlg, hacc]
        · rw [decide_eq_false h1] at hlg ⊢
          rw [Bool.false_and, if_neg Bool.false_ne_true, List.append_nil] at hlg
          refine iteF (iteF ⟨x3, acc, ?_, hD⟩)
          rw [hlg, hacc]
      · rintro H3 ⟨x3, acc, hacc, hD⟩
        rw [enc_length, List.take_of_length_le (by unfold keys; rw [List.length_map]; exact Nat.le_refl _)] at hacc
        refine ⟨x3.keep _ _ hfz fun _ h => (nomatch h), ?_⟩
        have x4 : Fr A [] H2 (upd H3 (A.a 7) (.dT (enc tr))) := x3.unlock ttr
        have hD4 : upd H3 (A.a 7) (.dT (enc tr)) D = some (.lst acc) := by
          have ne : D ≠ A.a 7 := fun e => by
            rw [e, ttr] at nD2
            cases nD2
          rw [upd_ne ne]
          exact hD
        generalize upd H3 (A.a 7) (.dT (enc tr)) = H4 at x4 hD4
        have L4 := L2'.fr ok x4
        have hbt4 := x4.tup _ _ hbt
        have x14 := x2.trans x4
        have hpi : pa[i]? = some b.2 := by
          rw [← bpa, List.getElem?_map, hb]
          rfl
        have hsn := mayGo_snoc (sz := A.size) (pa := pa) (un := tr) (cs := hs) (pa.take i) b.2
        rw [← take_succ' hpi] at hsn
        have leafI := longer_nil s1 tok (ps := pa) (fun p => hperm.mem_iff) bk
        -- nothing new
        have same : (leaf A.size pa b.2 && decide (hs[blk tr b.2]? = some 1)) = false → ∀ v5', Fr A [] H1 H4 ∧ ∃ (bv' : V) (v4 v5 : Option V), [some (.ref (A.a 1)), some (.ref (A.a 7)), some (.ref (A.a 8)), some bv, some (.ref b.1), v5', none] = [some (.ref (A.a 1)), some (.ref (A.a 7)), some (.ref (A.a 8)), some bv', v4, v5, none] ∧
            ((argm (lk us) ((pa.take (i + 1)).filter fun p => leaf A.size pa p && decide (hs[blk tr p]? = some 1)) = none ∧ bv' = .non) ∨ ∃ b ∈ bs, argm (lk us) ((pa.take (i + 1)).filter fun p => leaf A.size pa p && decide (hs[blk tr p]? = some 1)) = some b.2 ∧ bv' = .ref b.1) := by
          intro hf v5'
          refine ⟨x14, bv, _, _, rfl, ?_⟩
          rw [hsn, hf, if_neg Bool.false_ne_true, List.append_nil]
          exact hbest
        refine ⟨_, rfl, D, _, rfl, .inl (SqL.of hD4), rfl, decide (acc.length = 0), ?_, ite2 (fun z => ?_) (fun z => ?_)⟩
        · by_cases z : acc.length = 0
          · rw [decide_eq_true z, dec_eqt (by omega)]
          · rw [decide_eq_false z, dec_ne (by omega)]
        · have z : acc.length = 0 := of_decide_eq_true z
          have lf : leaf A.size pa b.2 = true := leafI.mp (List.eq_nil_of_length_eq_zero (by omega))
          refine ⟨_, rfl, A.a 1, _, rfl, dgk L4.st (st_holders A), _, rfl, _, rfl, A.a 7, _, rfl, dgetS L4.tr hbt4 hlk, _, _, _, _, rfl, rfl, SqL.of L4.hs, at_int hc, rfl, decide (hs[blk tr b.2]? = some 1), ?_, ite2 (fun y => ?_) (fun y => ?_)⟩
          · rw [hc]
            by_cases y : c = 1
            · rw [dec_eqt y, decide_eq_true (by rw [y])]
            · rw [dec_ne y, decide_eq_false fun e => y (by injection e)]
          · have both : (leaf A.size pa b.2 && decide (hs[blk tr b.2]? = some 1)) = true := by
              rw [lf, y]
              rfl
            rw [both, if_pos rfl] at hsn
            have take : argm (lk us) ((pa.take (i + 1)).filter fun p => leaf A.size pa p && decide (hs[blk tr p]? = some 1)) = some b.2 → ∀ v5', Fr A [] H1 H4 ∧ ∃ (bv' : V) (v4 v5 : Option V), [some (.ref (A.a 1)), some (.ref (A.a 7)), some (.ref (A.a 8)), some (.ref b.1), some (.ref b.1), v5', none] = [some (.ref (A.a 1)), some (.ref (A.a 7)), some (.ref (A.a 8)), some bv', v4, v5, none] ∧
                ((argm (lk us) ((pa.take (i + 1)).filter fun p => leaf A.size pa p && decide (hs[blk tr p]? = some 1)) = none ∧ bv' = .non) ∨ ∃ b ∈ bs, argm (lk us) ((pa.take (i + 1)).filter fun p => leaf A.size pa p && decide (hs[blk tr p]? = some 1)) = some b.2 ∧ bv' = .ref b.1) := fun e v5' =>
              ⟨x14, _, _, _, rfl, .inr ⟨b, bm, e, rfl⟩⟩
            rcases hbest with ⟨hn, rfl⟩ | ⟨b', bm', hn, rfl⟩
            · refine ⟨_, rfl, true, rfl, iteT (iteT ⟨_, rfl, take ?_ _⟩)⟩
              rw [hsn, argm_snoc, hn]
              rfl
            · have hbt' := (x02.trans x4).tup _ _ (ht b' bm')
              refine ⟨_, rfl, false, rfl, iteF ⟨_, rfl, _, rfl, A.a 8, _, rfl, dgetS L4.us hbt4 (look_lk (hus _ bp)), _, rfl, _, rfl, A.a 8, _, rfl, dgetS L4.us hbt' (look_lk (hus _ (inpa b' bm'))), _, _, rfl, rfl, decide (lk us b.2 < lk us b'.2), rfl, ite2 (fun x => ?_) (fun x => ?_)⟩⟩
              · refine ⟨_, rfl, take ?_ _⟩
                rw [hsn, argm_snoc, hn]
                exact if_pos (of_decide_eq_true x)
              · refine ⟨x14, _, _, _, rfl, .inr ⟨b', bm', ?_, rfl⟩⟩
                rw [hsn, argm_snoc, hn]
                exact if_neg (of_decide_eq_false (eq_false_of_ne_true x))
          · refine same ?_ _
            rw [eq_false_of_ne_true y, Bool.and_false]
        · refine iteF (same ?_ _)
          have z : acc.length ≠ 0 := of_decide_eq_false (eq_false_of_ne_true z)
          have lf : leaf A.size pa b.2 = false := by
            cases h : leaf A.size pa b.2 with
            | false => rfl
            | true =>
              have e := leafI.mpr h
              rw [e] at hacc
              exact absurd hacc z
          rw [lf, Bool.false_and]
    · rintro σ H2 ⟨x2, bv, v4, v5, rfl, hbest⟩
      have e1 : pa.take (refs bs).length = pa := List.take_of_length_le (by rw [refs_len, ← bpa, List.length_map]; exact Nat.le_refl _)
      rw [e1, ← mayGo_eq] at hbest
      have x02 : Fr A [] H H2 := x1.trans x2
      have L2' := L.fr ok x02
      rcases hbest with ⟨hn, rfl⟩ | ⟨b, bm, hn, rfl⟩
      · exact ⟨_, rfl, false, rfl, iteF ⟨_, rfl, k0 hn H2 x02⟩⟩
      · have bp := inpa b bm
        obtain ⟨c, hlk, hc⟩ := htr _ bp
        have hbt : H2 b.1 = some (.tup (b.2.map V.int)) := x02.tup _ _ (ht b bm)
        have hc1 : hs[blk tr b.2]? = some 1 := by
          have m := argm_mem _ hn
          rw [mayGo_eq] at m
          have m2 := (List.mem_filter.mp m).2
          rw [Bool.and_eq_true] at m2
          exact of_decide_eq_true m2.2
        refine ⟨_, rfl, true, rfl, iteT ⟨_, rfl, _, rfl, .inr (.inr (.inl ⟨rfl, .inr ⟨_, L2'.tr⟩⟩)), _, rfl, A.a 7, b.1, enc tr, kp b.2, .int (blk tr b.2), rfl, rfl, L2'.tr, by rw [kp_V]; exact hbt, by rw [enc_look, hlk]; rfl, ?_⟩⟩
        rw [enc_dropT]
        have x3 : Fr A [7] H2 (upd H2 (A.a 7) (.dT (enc (drop tr b.2)))) := Fr.upd L2'.tr rfl
        have L3 : LawAt A (upd H2 (A.a 7) (.dT (enc (drop tr b.2)))) (drop tr b.2) us hs cl mi := L2'.setT ok
        generalize upd H2 (A.a 7) (.dT (enc (drop tr b.2))) = H3 at x3 L3
        refine ⟨A, drop tr b.2, us, hs, cl, mi, blk tr b.2, 1, rfl, ok, L3, hc1, fun H4 L4 x4 => ⟨_, rfl, ?_⟩⟩
        exact k1 b.2 hn H4 L4 ((x02.and x3 (L := [7])).and x4)
end
end K23
namespace K23
open PySem L2

/-- the same data, tuples of at most n levels -/
def Alike : Nat → Hp → V → V → Prop
  | 0, _, x, y => (∃ i, x = .int i ∧ y = .int i) ∨ ∃ b, x = .bl b ∧ y = .bl b
  | n + 1, H, x, y => ((∃ i, x = .int i ∧ y = .int i) ∨ ∃ b, x = .bl b ∧ y = .bl b) ∨ ∃ a b xs ys, x = .ref a ∧ y = .ref b ∧ H a = some (.tup xs) ∧ H b = some (.tup ys) ∧ xs.length = ys.length ∧ ys.length ≤ 100000 ∧ ∀ (i : Nat) (u v : V), xs[i]? = some u → ys[i]? = some v → Alike n H u v
theorem Alike.int (n : Nat) (H : Hp) (i : Int) : Alike n H (.int i) (.int i) := by
  cases n with
  | zero => exact .inl ⟨i, rfl, rfl⟩
  | succ n => exact .inl (.inl ⟨i, rfl, rfl⟩)
theorem Alike.bl (n : Nat) (H : Hp) (b : Bool) : Alike n H (.bl b) (.bl b) := by
  cases n with
  | zero => exact .inr ⟨b, rfl, rfl⟩
  | succ n => exact .inl (.inr ⟨b, rfl, rfl⟩)
theorem Alike.ints (n : Nat) {H : Hp} {a b : Addr} {ls : List Int} (ha : H a = some (.tup (ls.map V.int))) (hb : H b = some (.tup (ls.map V.int))) (hl : ls.length ≤ 100000) : Alike (n + 1) H (.ref a) (.ref b) := by
  refine .inr ⟨a, b, _, _, rfl, rfl, ha, hb, rfl, by rw [List.length_map]; exact hl, fun i u v h1 h2 => ?_⟩
  rw [h1] at h2
  obtain rfl := Option.some.inj h2
  rw [List.getElem?_map] at h1
  obtain ⟨c, _, rfl⟩ := Option.map_eq_some_iff.mp h1
  exact Alike.int n H c
theorem Alike.refs (n : Nat) {H : Hp} {a b : Addr} {bs cs : List AP'} (ha : H a = some (.tup (refs bs))) (hb : H b = some (.tup (refs cs))) (e : bs.map (fun b => b.2) = cs.map (fun b => b.2)) (hl : cs.length ≤ 100000)
    (h : ∀ (i : Nat) (u v : AP'), bs[i]? = some u → cs[i]? = some v → u.2 = v.2 → Alike n H (.ref u.1) (.ref v.1)) : Alike (n + 1) H (.ref a) (.ref b) := by
  have el : bs.length = cs.length := by
    have := congrArg List.length e
    rwa [List.length_map, List.length_map] at this
  refine .inr ⟨a, b, _, _, rfl, rfl, ha, hb, by rw [refs_len, refs_len, el], by rw [refs_len]; exact hl, fun i u v h1 h2 => ?_⟩
  obtain ⟨u', hu, rfl⟩ := refs_get h1
  obtain ⟨v', hv, rfl⟩ := refs_get h2
  refine h i u' v' hu hv ?_
  have e2 := congrArg (fun z : List (List Int) => z[i]?) e
  simp only [List.getElem?_map, hu, hv, Option.map_some] at e2
  exact Option.some.inj e2
section
variable {P : Program} {w : World} {K : PySem.W.Frag} {mg : Str → Option Value} {base : Heap} {t : Tx}
def spSame (n : Nat) : Sp := fun vs H Q _ => ∃ x y, vs = [x, y] ∧ Alike n H x y ∧ Q (.bl true) H
theorem ok_same0 (T : Txt K mg t) : FnOk P w K mg base CX0 1 t.lSame t.lSameD ["_law_told", "_law_due"] (spSame 0) := by
  refine T.F_lSame.ok scLSame (fun vs H Q E h => ?_) (fun cdv Ar outer s H vs Q E hr h => ?_)
  · obtain ⟨x, y, rfl, _⟩ := h
    rfl
  · obtain ⟨x, y, rfl, h, k⟩ := h
    refine ⟨_, pss_cons (ps_if (pt_val (pe_callB call_isi (by rfl) T.g_isinstance PyProof.Rows.boot_isinstance (pa_cons (pv 1) (pa_cons (pe_bltn (v := .ty "tuple") (by rfl) T.g_tuple PyProof.Rows.boot_tuple rfl) pa_nil)))) pss_never pss_nil)
      (pss_cons (ps_if (pt_cmp (pc_isN (pv 1))) (pss_one ps_never) pss_nil)
      (pss_cons (ps_if (pt_val (pe_callB call_isi (by rfl) T.g_isinstance PyProof.Rows.boot_isinstance (pa_cons (pv 1) (pa_cons (pe_bltn (v := .ty "bool") (by rfl) T.g_bool PyProof.Rows.boot_bool rfl) pa_nil)))) (pss_one (ps_ret (pe_and (pe_callB call_isi (by rfl) T.g_isinstance PyProof.Rows.boot_isinstance (pa_cons (pv 0) (pa_cons (pe_bltn (v := .ty "bool") (by rfl) T.g_bool PyProof.Rows.boot_bool rfl) pa_nil))) (pe_one (pe_cmpR op_eq (pv 0) (pv 1) (nomark _)))))) pss_nil)
      (pss_cons (ps_if (pt_val (pe_callB call_isi (by rfl) T.g_isinstance PyProof.Rows.boot_isinstance (pa_cons (pv 1) (pa_cons (pe_bltn (v := .ty "str") (by rfl) T.g_str PyProof.Rows.boot_str rfl) pa_nil)))) (pss_one ps_never) pss_nil)
      (pss_one (ps_ret (pe_and (pe_callB call_isi (by rfl) T.g_isinstance PyProof.Rows.boot_isinstance (pa_cons (pv 0) (pa_cons (pe_bltn (v := .ty "int") (by rfl) T.g_int PyProof.Rows.boot_int rfl) pa_nil))) (pe_and (pe_not (pe_callB call_isi (by rfl) T.g_isinstance PyProof.Rows.boot_isinstance (pa_cons (pv 0) (pa_cons (pe_bltn (v := .ty "bool") (by rfl) T.g_bool PyProof.Rows.boot_bool rfl) pa_nil)))) (pe_one (pe_cmpR op_eq (pv 0) (pv 1) (nomark _)))))))))), ?_⟩
    rcases h with h | h
    · obtain ⟨i, rfl, rfl⟩ := h
      refine ⟨_, rfl, _, _, _, _, _, rfl, .ty _, .base (.int _), kit_ty (by decide +kernel : kitB "int" "tuple" = some false), false, rfl, iteF ?_⟩
      refine ⟨_, rfl, false, rfl, iteF ?_⟩
      refine ⟨_, rfl, _, _, _, _, _, rfl, .ty _, .base (.int _), kit_ty (by decide +kernel : kitB "int" "bool" = some false), false, rfl, iteF ?_⟩
      refine ⟨_, rfl, _, _, _, _, _, rfl, .ty _, .base (.int _), kit_ty (by decide +kernel : kitB "int" "str" = some false), false, rfl, iteF ?_⟩
      refine ⟨_, rfl, _, _, _, _, _, rfl, .ty _, .base (.int _), kit_ty (by decide +kernel : kitB "int" "int" = some true), true, rfl, iteT ⟨_, rfl, _, _, _, _, _, rfl, .ty _, .base (.int _), kit_ty (by decide +kernel : kitB "int" "bool" = some false), false, rfl, true, rfl, iteT ⟨_, rfl, _, rfl, rfl, ?_⟩⟩⟩
      rw [dec_eqt (rfl : i = i)]
      exact k
    · obtain ⟨b, rfl, rfl⟩ := h
      refine ⟨_, rfl, _, _, _, _, _, rfl, .ty _, .base (.bl _), kit_ty (by decide +kernel : kitB "bool" "tuple" = some false), false, rfl, iteF ?_⟩
      refine ⟨_, rfl, false, rfl, iteF ?_⟩
      refine ⟨_, rfl, _, _, _, _, _, rfl, .ty _, .base (.bl _), kit_ty (by decide +kernel : kitB "bool" "bool" = some true), true, rfl, iteT ?_⟩
      refine ⟨_, rfl, _, _, _, _, _, rfl, .ty _, .base (.bl _), kit_ty (by decide +kernel : kitB "bool" "bool" = some true), true, rfl, iteT ⟨_, rfl, _, rfl, rfl, ?_⟩⟩
      rw [decide_eq_true (rfl : V.bl b = V.bl b)]
      exact k
theorem ok_sameS (T : Txt K mg t) {n m : Nat} (F : FnOk P w K mg base CX0 m t.lSame t.lSameD ["_law_told", "_law_due"] (spSame n)) : FnOk P w K mg base CX0 (m + 1) t.lSame t.lSameD ["_law_told", "_law_due"] (spSame (n + 1)) := by
  refine T.F_lSame.ok scLSame (fun vs H Q E h => ?_) (fun cdv Ar outer s H vs Q E hr h => ?_)
  · obtain ⟨x, y, rfl, _⟩ := h
    rfl
  · obtain ⟨x, y, rfl, h, k⟩ := h
    refine ⟨_, pss_cons (ps_if (pt_val (pe_callB call_isi (by rfl) T.g_isinstance PyProof.Rows.boot_isinstance (pa_cons (pv 1) (pa_cons (pe_bltn (v := .ty "tuple") (by rfl) T.g_tuple PyProof.Rows.boot_tuple rfl) pa_nil)))) (pss_cons (ps_if (PW.pt (pw_or (pt_not (pt_val (pe_callB call_isi (by rfl) T.g_isinstance PyProof.Rows.boot_isinstance (pa_cons (pv 0) (pa_cons (pe_bltn (v := .ty "tuple") (by rfl) T.g_tuple PyProof.Rows.boot_tuple rfl) pa_nil))))) (pw_or1 (pt_cmpR op_ne (pe_callB cr_lenS (by rfl) T.g_len PySem.boot_len (pa_cons (pv 0) pa_nil)) (pe_callB cr_lenS (by rfl) T.g_len PySem.boot_len (pa_cons (pv 1) pa_nil)) (nomark _))))) (pss_one ps_never) pss_nil)
        (pss_cons (ps_for PassesOwn.never rfl (pi_range1 (by rfl) T.g_range (pa_cons (pe_callB cr_lenS (by rfl) T.g_len PySem.boot_len (pa_cons (pv 1) pa_nil)) pa_nil)) (pg_name (i := 2) scLSame.nd rfl (.inl rfl))
          (pss_one (ps_if (pt_not (pt_val (pe_call F hr (by rfl) T.m_lSame T.F_lSame.kp T.b_lSame .nil pass0 (pa_cons (pe_ix ix_tup (pv 0) (pv 2) (fun _ _ => rfl)) (pa_cons (pe_ix ix_tup (pv 1) (pv 2) (fun _ _ => rfl)) pa_nil))))) (pss_one ps_never) pss_nil)))
        (pss_one (ps_ret pe_bl)))) pss_nil)
      (pss_cons (ps_if (pt_cmp (pc_isN (pv 1))) (pss_one ps_never) pss_nil)
      (pss_cons (ps_if (pt_val (pe_callB call_isi (by rfl) T.g_isinstance PyProof.Rows.boot_isinstance (pa_cons (pv 1) (pa_cons (pe_bltn (v := .ty "bool") (by rfl) T.g_bool PyProof.Rows.boot_bool rfl) pa_nil)))) (pss_one (ps_ret (pe_and (pe_callB call_isi (by rfl) T.g_isinstance PyProof.Rows.boot_isinstance (pa_cons (pv 0) (pa_cons (pe_bltn (v := .ty "bool") (by rfl) T.g_bool PyProof.Rows.boot_bool rfl) pa_nil))) (pe_one (pe_cmpR op_eq (pv 0) (pv 1) (nomark _)))))) pss_nil)
      (pss_cons (ps_if (pt_val (pe_callB call_isi (by rfl) T.g_isinstance PyProof.Rows.boot_isinstance (pa_cons (pv 1) (pa_cons (pe_bltn (v := .ty "str") (by rfl) T.g_str PyProof.Rows.boot_str rfl) pa_nil)))) (pss_one ps_never) pss_nil)
      (pss_one (ps_ret (pe_and (pe_callB call_isi (by rfl) T.g_isinstance PyProof.Rows.boot_isinstance (pa_cons (pv 0) (pa_cons (pe_bltn (v := .ty "int") (by rfl) T.g_int PyProof.Rows.boot_int rfl) pa_nil))) (pe_and (pe_not (pe_callB call_isi (by rfl) T.g_isinstance PyProof.Rows.boot_isinstance (pa_cons (pv 0) (pa_cons (pe_bltn (v := .ty "bool") (by rfl) T.g_bool PyProof.Rows.boot_bool rfl) pa_nil)))) (pe_one (pe_cmpR op_eq (pv 0) (pv 1) (nomark _)))))))))), ?_⟩
    rcases h with h | h
    · rcases h with h | h
      · obtain ⟨i, rfl, rfl⟩ := h
        refine ⟨_, rfl, _, _, _, _, _, rfl, .ty _, .base (.int _), kit_ty (by decide +kernel : kitB "int" "tuple" = some false), false, rfl, iteF ?_⟩
        refine ⟨_, rfl, false, rfl, iteF ?_⟩
        refine ⟨_, rfl, _, _, _, _, _, rfl, .ty _, .base (.int _), kit_ty (by decide +kernel : kitB "int" "bool" = some false), false, rfl, iteF ?_⟩
        refine ⟨_, rfl, _, _, _, _, _, rfl, .ty _, .base (.int _), kit_ty (by decide +kernel : kitB "int" "str" = some false), false, rfl, iteF ?_⟩
        refine ⟨_, rfl, _, _, _, _, _, rfl, .ty _, .base (.int _), kit_ty (by decide +kernel : kitB "int" "int" = some true), true, rfl, iteT ⟨_, rfl, _, _, _, _, _, rfl, .ty _, .base (.int _), kit_ty (by decide +kernel : kitB "int" "bool" = some false), false, rfl, true, rfl, iteT ⟨_, rfl, _, rfl, rfl, ?_⟩⟩⟩
        rw [dec_eqt (rfl : i = i)]
        exact k
      · obtain ⟨b, rfl, rfl⟩ := h
        refine ⟨_, rfl, _, _, _, _, _, rfl, .ty _, .base (.bl _), kit_ty (by decide +kernel : kitB "bool" "tuple" = some false), false, rfl, iteF ?_⟩
        refine ⟨_, rfl, false, rfl, iteF ?_⟩
        refine ⟨_, rfl, _, _, _, _, _, rfl, .ty _, .base (.bl _), kit_ty (by decide +kernel : kitB "bool" "bool" = some true), true, rfl, iteT ?_⟩
        refine ⟨_, rfl, _, _, _, _, _, rfl, .ty _, .base (.bl _), kit_ty (by decide +kernel : kitB "bool" "bool" = some true), true, rfl, iteT ⟨_, rfl, _, rfl, rfl, ?_⟩⟩
        rw [decide_eq_true (rfl : V.bl b = V.bl b)]
        exact k
    · obtain ⟨a, b, xs, ys, rfl, rfl, ha, hb, he, hl, hal⟩ := h
      refine ⟨_, rfl, _, _, _, _, _, rfl, .ty _, .base (.tup hb), kit_ty (by decide +kernel : kitB "tuple" "tuple" = some true), true, rfl, iteT ?_⟩
      refine ⟨_, rfl, _, _, _, _, _, rfl, .ty _, .base (.tup ha), kit_ty (by decide +kernel : kitB "tuple" "tuple" = some true), true, rfl, iteF ?_⟩
      refine ⟨_, rfl, a, _, rfl, .inr (SqT.of ha), _, rfl, b, _, rfl, .inr (SqT.of hb), rfl, false, ?_, iteF ?_⟩
      · rw [he, dec_eqt rfl]
        rfl
      refine ⟨_, rfl, b, _, rfl, .inr (SqT.of hb), _, rfl, by omega, by omega, ?_⟩
      rw [Int.toNat_natCast]
      refine for_range (fun i σ H' => H' = H ∧ ∃ v, σ = [some (.ref a), some (.ref b), v]) ⟨rfl, _, rfl⟩ ?_ ?_
      · rintro i σ H' hi ⟨rfl, v, rfl⟩
        have hx : xs[i]? = some (xs[i]'(by omega)) := List.getElem?_eq_getElem _
        have hy : ys[i]? = some ys[i] := List.getElem?_eq_getElem _
        have h0 : (0 : Int) + (i : Int) = (i : Int) := Int.zero_add _
        rw [h0]
        refine ⟨_, rfl, _, rfl, _, _, _, _, rfl, rfl, SqT.of ha, atI_nat hx, _, rfl, _, rfl, _, _, _, _, rfl, rfl, SqT.of hb, atI_nat hy, _, _, rfl, hal i _ _ hx hy, true, rfl, iteF ⟨rfl, _, rfl⟩⟩
      · rintro σ H' ⟨rfl, v, rfl⟩
        exact k
theorem ok_same (T : Txt K mg t) : ∀ n, FnOk P w K mg base CX0 (n + 1) t.lSame t.lSameD ["_law_told", "_law_due"] (spSame n)
  | 0 => ok_same0 T
  | n + 1 => ok_sameS T (ok_same T n)
end
end K23
namespace K23
open PySem L2

/-! ### filled -/
def rowsFor (ls : List Int) (lets k : Nat) : List (List Int) := (List.range k).map fun j => wts ls j lets
theorem rowsFor_succ (ls : List Int) (lets k : Nat) : rowsFor ls lets (k + 1) = rowsFor ls lets k ++ [wts ls k lets] := by
  unfold rowsFor
  rw [List.range_succ, List.map_append]
  rfl
theorem rowsFor_len (ls : List Int) (lets k : Nat) : (rowsFor ls lets k).length = k := by
  unfold rowsFor
  rw [List.length_map, List.length_range]
theorem all_flat (cs : List Int) : (cs.map V.int).all flatV = true := by
  rw [List.all_eq_true]
  intro x hx
  obtain ⟨c, _, rfl⟩ := List.mem_map.mp hx
  rfl
section
variable {P : Program} {w : World} {K : PySem.W.Frag} {mg : Str → Option Value} {base : Heap} {t : Tx}
def spFilled (t : Tx) : Sp := fun vs H Q _ => ∃ (A : Ad) (tr us : Tab) (cs : List Int) (cl : Int) (mi : List Int) (rs : List (List (List Int))) (a : Addr) (ls : List Int) (i : Nat), vs = [.ref (A.a 0), .ref (A.a 1), .ref a] ∧ A.Ok ∧ Live A H ∧ LawAt A H tr us cs cl mi ∧ StoreAt t.S A H cs rs ∧
  H a = some (.tup (ls.map V.int)) ∧ cs[i]? = some 0 ∧ (∀ j, j < i → cs[j]? ≠ some 0) ∧ rs[i]? = some [] ∧
  ∀ H', LawAt A H' tr us (cs.set i 1) cl mi → StoreAt t.S A H' (cs.set i 1) (rs.set i (rowsFor ls A.lets A.size)) → Fr A [2, 3, 9] H H' → Q (.int i) H'
theorem ok_filled (T : Txt K mg t) : FnOk P w K mg base CX0 5 t.lFilled t.lFilledD ["_law_store", "_law_state", "_law_letters_here"] (spFilled t) := by
  refine T.F_lFilled.ok scLFilled (fun vs H Q E h => ?_) (fun cdv Ar outer s H vs Q E hr h => ?_)
  · obtain ⟨A, tr, us, cs, cl, mi, rs, a, ls, i, rfl, _⟩ := h
    rfl
  · obtain ⟨A, tr, us, cs, cl, mi, rs, a, ls, i, rfl, ok, lv, L, S, ha, hi, hlt, hri, k⟩ := h
    have hu := hu_of hr
    have hr1 : Room 1 _ := hr.mono (by decide)
    refine ⟨_, pss_cons (ps_set (i := 3) scLFilled.nd rfl (.inl rfl) (pe_dget hu (pv 1) pe_str (fun _ _ => rfl)))
      (pss_cons (ps_set (i := 4) scLFilled.nd rfl (.inl rfl) (pe_meth0 (pv 0) T.clS T.m_sTake (ok_take T) hr1 T.b_sTake .nil pass0))
      (pss_cons (ps_set (i := 5) scLFilled.nd rfl (.inl rfl) (pe_bm PySem.F.plainAttrs_list PySem.F.slot_list_index PySem.F.type_list_index mt_index (pv 3) (pa_cons pe_int pa_nil)))
      (pss_cons (ps_asg pe_int (pg_sub (pv 3) (pv 5) set_list))
      (pss_cons (ps_if (pt_not (pt_val (pe_call (ok_same T 0) hr1 (by rfl) T.m_lSame T.F_lSame.kp T.b_lSame .nil pass0 (pa_cons (pv 4) (pa_cons (pv 5) pa_nil))))) (pss_one ps_never) pss_nil)
      (pss_cons (ps_for PassesOwn.never rfl (pi_range1 (by rfl) T.g_range (pa_cons (pe_dget hu (pv 1) pe_str (fun _ _ => rfl)) pa_nil)) (pg_name (i := 6) scLFilled.nd rfl (.inl rfl))
        (pss_one (ps_expr (pe_meth (pv 0) T.clS T.m_sRow (ok_row T) hr T.b_sRow .nil pass0 (pa_cons (pv 5) (pa_cons (pe_call (ok_lrow T) hr1 (by rfl) T.m_lRow T.F_lRow.kp T.b_lRow .nil pass0 (pa_cons (pv 1) (pa_cons (pv 2) (pa_cons (pv 6) pa_nil)))) pa_nil))))))
      (pss_one (ps_ret (pv 5)))))))), ?_⟩
    obtain ⟨dx, ho⟩ := S.ob
    have lb := get_lt hi
    refine ⟨_, rfl, A.a 1, _, rfl, dgk L.st (st_holders A), ?_⟩
    refine ⟨_, rfl, A.a 0, dx, _, rfl, ho, by kernel_rfl, A, cs, rs, i, rfl, ok, S, hi, hlt, fun H1 S1 x1 => ?_⟩
    have L1 := L.fr ok x1
    have ha1 := x1.tup _ _ ha
    refine ⟨_, rfl, .inl ⟨rfl, _, SqL.of L1.hs⟩, A.a 9, cs.map V.int, .int 0, i, .int 0, rfl, rfl, SqL.of L1.hs, rfl, all_flat cs, by rw [List.getElem?_map, hi]; rfl, rfl, fun m z hm hz => ?_, ?_⟩
    · rw [List.getElem?_map] at hz
      obtain ⟨c, hc, rfl⟩ := Option.map_eq_some_iff.mp hz
      have ne : c ≠ 0 := fun e => hlt m hm (by rw [hc, e])
      show (c == 0) = false
      exact beq_eq_false_iff_ne.mpr ne
    refine ⟨_, rfl, _, rfl, A.a 9, _, _, i, rfl, rfl, L1.hs, ixN_nat (by rw [List.length_map]; exact lb), ?_⟩
    rw [map_set_int]
    have x2 : Fr A [9] H1 (upd H1 (A.a 9) (.lst ((cs.set i 1).map V.int))) := Fr.upd L1.hs rfl
    have L2' : LawAt A (upd H1 (A.a 9) (.lst ((cs.set i 1).map V.int))) tr us (cs.set i 1) cl mi := L1.setH ok
    generalize upd H1 (A.a 9) (.lst ((cs.set i 1).map V.int)) = H2 at x2 L2'
    have S2 := S1.fr ok x2
    have ha2 := x2.tup _ _ ha1
    have x02 : Fr A [2, 3, 9] H H2 := x1.and x2
    refine ⟨_, rfl, _, rfl, _, _, rfl, Alike.int 0 H2 i, true, rfl, iteF ?_⟩
    refine ⟨_, rfl, A.a 1, _, rfl, dgk L2'.st (st_size A), _, rfl, by have := ok.s2; omega, by have := ok.s2; omega, ?_⟩
    rw [Int.toNat_natCast]
    refine for_range (fun j σ H' => Fr A [2, 3, 9] H H' ∧ LawAt A H' tr us (cs.set i 1) cl mi ∧ StoreAt t.S A H' (cs.set i 1) (rs.set i (rowsFor ls A.lets j)) ∧ ∃ v, σ = [some (.ref (A.a 0)), some (.ref (A.a 1)), some (.ref a), some (.ref (A.a 9)), some (.int i), some (.int i), v]) ?_ ?_ ?_
    · refine ⟨x02, L2', ?_, _, rfl⟩
      have e : rs.set i (rowsFor ls A.lets 0) = rs := by
        obtain ⟨h1, h2⟩ := List.getElem?_eq_some_iff.mp hri
        show rs.set i [] = rs
        rw [← h2]
        exact List.set_getElem_self h1
      rw [e]
      exact S2
    · rintro j σ H3 hj ⟨x3, L3, S3, v, rfl⟩
      have ha3 := x3.tup _ _ ha
      obtain ⟨dx3, ho3⟩ := S3.ob
      rw [Int.zero_add]
      have hs2 := ok.s2
      refine ⟨_, rfl, A.a 0, dx3, _, rfl, ho3, by kernel_rfl, _, rfl, _, rfl, _, rfl, _, rfl, A, tr, us, cs.set i 1, cl, mi, a, ls, j, rfl, ok, lv.fr x3, L3, ha3, by omega, fun q H4 hq x4 => ?_⟩
      have S4 := S3.fr ok x4
      have hrl : i < rs.length := get_lt hri
      refine ⟨A, cs.set i 1, _, i, rowsFor ls A.lets j, q, wts ls j A.lets, rfl, ok, S4, List.getElem?_set_self lb, List.getElem?_set_self hrl, by rw [rowsFor_len]; exact hj, hq, fun H5 S5 x5 => ?_⟩
      rw [List.set_set, ← rowsFor_succ] at S5
      exact ⟨(x3.and x4 (L := [2, 3, 9])).and x5, (L3.fr ok x4).fr ok x5, S5, _, rfl⟩
    · rintro σ H3 ⟨x3, L3, S3, v, rfl⟩
      exact ⟨_, rfl, k H3 L3 S3 x3⟩
/-! ### shown -/
theorem zeros_count (cs : List Int) : (zeros cs).length = cs.count 0 := by
  unfold zeros
  rw [List.count_eq_countP, List.countP_eq_length_filter]
  congr 1
theorem own_len (T : Txt K mg t) : OwnLen K t.T t.tLen := ⟨T.m_tLen.at_, T.m_tLen.fn⟩
theorem own_it (T : Txt K mg t) : OwnIt K t.T t.tIter := ⟨T.m_tIter.at_, T.m_tIter.fn⟩
def spShown (t : Tx) : Sp := fun vs H Q _ => ∃ (A : Ad) (tr us : Tab) (cs : List Int) (cl : Int) (mi : List Int) (rs : List (List (List Int))) (pa : List Path) (ud : Tab) (ck : Int), vs = [.ref (A.a 0), .ref (A.a 4), .ref (A.a 1)] ∧ A.Ok ∧ Live A H ∧ LawAt A H tr us cs cl mi ∧ StoreAt t.S A H cs rs ∧
  TreeAt t.T A H pa tr ud ck ∧ TreeOk A.size tr ∧ pa.Perm (keys tr) ∧ pa.Pairwise (· ≤ ·) ∧ tr.length ≤ 1000 ∧ (∀ p ∈ pa, p.length ≤ 1000) ∧ ∀ H', Fr A [] H H' → Q (.bl true) H'
theorem ok_shown (T : Txt K mg t) : FnOk P w K mg base CX0 5 t.lShown t.lShownD ["_law_store", "_law_tree", "_law_state"] (spShown t) := by
  refine T.F_lShown.ok scLShown (fun vs H Q E h => ?_) (fun cdv Ar outer s H vs Q E hr h => ?_)
  · obtain ⟨A, tr, us, cs, cl, mi, rs, pa, ud, ck, rfl, _⟩ := h
    rfl
  · obtain ⟨A, tr, us, cs, cl, mi, rs, pa, ud, ck, rfl, ok, lv, L, S, R, tok, hperm, hsort, htl, hpz, k⟩ := h
    have hu := hu_of hr
    have hr1 : Room 1 _ := hr.mono (by decide)
    have hr2 : Room 2 _ := hr.mono (by decide)
    have hr3 : Room 3 _ := hr.mono (by decide)
    have s1 := ok.s1
    have hpl : pa.length = tr.length := by
      have := hperm.length_eq
      unfold keys at this
      rwa [List.length_map] at this
    refine ⟨_, pss_cons (ps_if (PW.pt (pw_or (pt_not (pt_val (pe_call (ok_same T 0) hr1 (by rfl) T.m_lSame T.F_lSame.kp T.b_lSame .nil pass0
            (pa_cons (pe_callB (cr_lenO (own_len T) (ok_tlen T) T.b_tLen hr2) (by rfl) T.g_len PySem.boot_len (pa_cons (pv 1) pa_nil)) (pa_cons (pe_callB call_len_dT (by rfl) T.g_len PySem.boot_len (pa_cons (pe_dget hu (pv 2) pe_str (fun _ _ => rfl)) pa_nil)) pa_nil)))))
          (pw_or1 (pt_not (pt_val (pe_call (ok_same T 0) hr1 (by rfl) T.m_lSame T.F_lSame.kp T.b_lSame .nil pass0
            (pa_cons (pe_prop (pv 0) T.clS T.m_sFree (ok_free T) hr2 T.b_sFree .nil pass0 rfl) (pa_cons (pe_bm PySem.F.plainAttrs_list PySem.F.slot_list_count PySem.F.type_list_count mt_lcount (pe_dget hu (pv 2) pe_str (fun _ _ => rfl)) (pa_cons pe_int pa_nil)) pa_nil)))))))) (pss_one ps_never) pss_nil)
      (pss_cons (ps_if (pt_not (pt_val (pe_call (ok_same T 2) hr3 (by rfl) T.m_lSame T.F_lSame.kp T.b_lSame .nil pass0
            (pa_cons (pe_callTy cr_tupOf (by rfl) T.g_tuple PyProof.Rows.boot_tuple (pa_cons (pe_callTy (cr_listO (own_it T) (ok_titer T) T.b_tIter (own_len T) (ok_tlen T) T.b_tLen hr) (by rfl) T.g_list PyProof.Rows.boot_list (pa_cons (pv 1) pa_nil)) pa_nil))
            (pa_cons (pe_callTy cr_tupOf (by rfl) T.g_tuple PyProof.Rows.boot_tuple (pa_cons (pe_callB (cr_sortD rfl hr) (by rfl) T.g_sorted PyProof.Rows.boot_sorted (pa_cons (pe_dget hu (pv 2) pe_str (fun _ _ => rfl)) pa_nil)) pa_nil)) pa_nil))))) (pss_one ps_never) pss_nil)
      (pss_one (ps_ret (pe_call (ok_same T 1) hr2 (by rfl) T.m_lSame T.F_lSame.kp T.b_lSame .nil pass0
            (pa_cons (pe_callTy cr_tupOf (by rfl) T.g_tuple PyProof.Rows.boot_tuple (pa_cons (pe_lc (own := [("_law_k", 3)]) (g := gName 3) (tt := tYes) (te := tMeth t.S "holders" (spHolders t) [] E0 (tVar 0) (tCons (tVar 3) tNil)) (by rfl) scLShown.nd
              (pi_range1 (by rfl) T.g_range (pa_cons (pe_dget hu (pv 2) pe_str (fun _ _ => rfl)) pa_nil)) (blkOk_by (own := [("_law_k", 3)]) (N := ["_law_store", "_law_tree", "_law_state", "_law_k"]) (sc := defScope sLShown) (by decide +kernel))
              (fun _ _ _ _ _ => pg_name (i := 3) scLShown.nd rfl (Or.inl rfl)) (fun _ _ _ _ _ => pts_nil)
              (fun _ _ _ _ _ => pe_meth (pv 0) T.clS T.m_sHolders (ok_holders T) (by exact hr2) T.b_sHolders .nil pass0 (pa_cons (pv 3) pa_nil))) pa_nil))
            (pa_cons (pe_callTy cr_tupOf (by rfl) T.g_tuple PyProof.Rows.boot_tuple (pa_cons (pe_dget hu (pv 2) pe_str (fun _ _ => rfl)) pa_nil)) pa_nil)))))), ?_⟩
    obtain ⟨dx, lp, b0, g1, g2, g3, g4, g5⟩ := R.ob
    obtain ⟨dy, ho⟩ := S.ob
    refine ⟨_, rfl, A.a 4, dx, _, rfl, g1, A, pa, tr, ud, ck, rfl, R, _, rfl, by omega, by omega, ?_⟩
    refine ⟨_, rfl, A.a 1, _, rfl, dgk L.st (st_tree A), A.a 7, _, rfl, L.tr, _, _, rfl, ?_, true, rfl, iteF ?_⟩
    · rw [enc_length, hpl]
      exact Alike.int 0 H _
    refine ⟨_, rfl, A.a 0, dy, _, rfl, ho, A, cs, rs, rfl, ok, S, fun H1 x1 => ?_⟩
    have L1 := L.fr ok x1
    have R1 := R.fr ok x1
    refine ⟨_, rfl, A.a 1, _, rfl, dgk L1.st (st_holders A), .inl ⟨rfl, _, SqL.of L1.hs⟩, A.a 9, cs, 0, rfl, rfl, SqL.of L1.hs, _, _, rfl, ?_, true, rfl, iteF ?_⟩
    · rw [zeros_count]
      exact Alike.int 0 H1 _
    obtain ⟨dx1, lp1, b1, e1, e2, e3, e4, e5⟩ := R1.ob
    refine ⟨_, rfl, A.a 4, dx1, _, rfl, e1, fun W nW => ?_⟩
    have lv1 := lv.fr x1
    have newW : New A W := lv1.new nW
    have x2 : Fr A [] H1 (upd H1 W (.lst [])) := Fr.new nW
    have hW2 : upd H1 W (.lst []) W = some (.lst []) := upd_same
    have R2 := R1.fr ok x2
    generalize upd H1 W (.lst []) = H2 at x2 hW2 R2
    refine ⟨A, pa, tr, ud, ck, rfl, R2, fun l bs it hl ht hm nl hob nit => ?_⟩
    have lW : l ≠ W := fun e => by
      obtain ⟨dz, hz⟩ := hob
      rw [x2.at ok 4 e1] at hz
      have e7 := congrArg (fun o : Option HO => match o with | some (.ins _ _ fs) => fs.lookup ("paths" : Str) | _ => none) hz
      have e8 : (tf A lp1 ck).lookup ("paths" : Str) = (tf A l ck).lookup ("paths" : Str) := e7
      rw [tf_paths, tf_paths] at e8
      injection e8 with e9
      injection e9 with e10
      rw [← e10] at e
      rw [e, nW] at e2
      cases e2
    have x3 : Fr A [] H2 (upd H2 it (ItO l it 0)) := Fr.new nit
    have hit3 : upd H2 it (ItO l it 0) it = some (ItO l it 0) := upd_same
    have hl3 := x3.own nl hl
    have hW3 := x3.own newW hW2
    have R3 := R2.fr ok x3
    have nWit : W ≠ it := ne_of_none hW2 nit
    have nlit : l ≠ it := ne_of_none hl nit
    have ht3 := ht.fr x3
    have lv3 : Live A (upd H2 it (ItO l it 0)) := (lv1.fr x2).fr x3
    have fit : H1 it = none := x2.free nit
    generalize upd H2 it (ItO l it 0) = H3 at x3 hit3 hl3 hW3 R3 ht3 lv3
    have e13 : H3 (A.a 4) = some (.ins t.T dx1 (tf A lp1 ck)) := (x2.trans x3).at ok 4 e1
    refine ⟨it, l, _, rfl, hit3, hl3, nlit, e13, A, pa, tr, ud, ck, rfl, R3, _, rfl, by omega, by omega, (by rw [Int.toNat_natCast]; exact Nat.le_of_lt (len100 (by omega))), hit3, hl3, hW3, lW, ?_⟩
    have x13 : Fr A [] H1 H3 := x2.trans x3
    have x14 : Fr A [] H1 (upd (upd H3 it (StO it)) W (.lst (refs bs))) := (x13.loc fit).loc nW
    have hW4 : upd (upd H3 it (StO it)) W (.lst (refs bs)) W = some (.lst (refs bs)) := upd_same
    have ht4 : Tups (upd (upd H3 it (StO it)) W (.lst (refs bs))) bs := fun b hb => by
      have q := ht3 b hb
      rw [upd_ne (ne_of q hW3 fun z => nomatch z), upd_ne (ne_of q hit3 fun z => nomatch z)]
      exact q
    generalize upd (upd H3 it (StO it)) W (.lst (refs bs)) = H4 at x14 hW4 ht4
    have lv4 := lv1.fr x14
    refine ⟨W, _, rfl, .inl ⟨SqL.of hW4, fun d nd => ?_⟩⟩
    have x5 : Fr A [] H4 (upd H4 d (.tup (refs bs))) := Fr.new nd
    have hd5 : upd H4 d (.tup (refs bs)) d = some (.tup (refs bs)) := upd_same
    have ht5 := ht4.fr x5
    generalize upd H4 d (.tup (refs bs)) = H5 at x5 hd5 ht5
    have x05 : Fr A [] H H5 := (x1.trans x14).trans x5
    have L5 := L.fr ok x05
    refine ⟨_, rfl, A.a 1, _, rfl, dgk L5.st (st_tree A), A.a 7, _, keys tr, rfl, L5.tr, keys_tr, tok.ne s1, fun qs z perm sorted htq nz => ?_⟩
    have epa : qs.map (fun b => b.2) = bs.map (fun b => b.2) := (sorted_eq (perm.trans hperm.symm) (List.pairwise_map.mpr sorted) hsort).trans hm.symm
    have x6 : Fr A [] H5 (upd H5 z (.lst (qs.map fun b => V.ref b.1))) := Fr.new nz
    have hz6 : upd H5 z (.lst (qs.map fun b => V.ref b.1)) z = some (.lst (refs qs)) := upd_same
    generalize upd H5 z (.lst (qs.map fun b => V.ref b.1)) = H6 at x6 hz6
    refine ⟨z, _, rfl, .inl ⟨SqL.of hz6, fun e ne => ?_⟩⟩
    have x7 : Fr A [] H6 (upd H6 e (.tup (refs qs))) := Fr.new ne
    have he7 : upd H6 e (.tup (refs qs)) e = some (.tup (refs qs)) := upd_same
    generalize upd H6 e (.tup (refs qs)) = H7 at x7 he7
    have x57 := x6.trans x7
    have bl : bs.length = pa.length := by rw [← hm, List.length_map]
    have ql : qs.length = bs.length := by
      have := congrArg List.length epa
      rwa [List.length_map, List.length_map] at this
    refine ⟨_, _, rfl, Alike.refs 1 (x57.tup _ _ hd5) he7 epa.symm (by omega) (fun i u v hu' hv' e => ?_), true, rfl, iteF ?_⟩
    · have q1 := x57.tup _ _ (ht5 u (List.mem_of_getElem? hu'))
      have q2 := x57.tup _ _ (htq v (List.mem_of_getElem? hv'))
      rw [e] at q1
      have vm : v.2 ∈ pa := by
        rw [← hm, ← epa]
        exact List.mem_map.mpr ⟨v, List.mem_of_getElem? hv', rfl⟩
      have := hpz _ vm
      exact Alike.ints 0 q1 q2 (by omega)
    have x07 : Fr A [] H H7 := x05.trans x57
    have lv7 := lv.fr x07
    have L7 := L.fr ok x07
    have S7 := S.fr ok x07
    have m2 := ok.m2
    refine ⟨_, rfl, A.a 1, _, rfl, dgk L7.st (st_many A), _, rfl, by omega, by omega, fun D nD => ?_⟩
    rw [Int.toNat_natCast]
    have newD : New A D := lv7.new nD
    refine lc_range (fun i H' => H' = upd H7 D (.lst ((cs.take i).map V.int))) rfl ?_ ?_
    · rintro i H8 hi rfl
      have x8 : Fr A [] H7 (upd H7 D (.lst ((cs.take i).map V.int))) := Fr.new nD
      have S8 := S7.fr ok x8
      obtain ⟨dy8, ho8⟩ := S8.ob
      have hc : cs[i]? = some (cs[i]'(by rw [S.cl]; exact hi)) := List.getElem?_eq_getElem _
      rw [Int.zero_add]
      refine ⟨rfl, _, rfl, A.a 0, dy8, _, rfl, ho8, by kernel_rfl, _, rfl, A, cs, rs, i, _, rfl, S8, hc, _, upd_same, ?_, ?_⟩
      · rw [List.length_map, List.length_take]
        exact len100 (by omega)
      · rw [upd_upd, take_succ' hc, List.map_append]
        rfl
    · rintro H8 rfl
      rw [List.take_of_length_le (Nat.le_of_eq S.cl)]
      have x8 : Fr A [] H7 (upd H7 D (.lst (cs.map V.int))) := Fr.new nD
      have hD8 : upd H7 D (.lst (cs.map V.int)) D = some (.lst (cs.map V.int)) := upd_same
      generalize upd H7 D (.lst (cs.map V.int)) = H8 at x8 hD8
      refine ⟨D, _, rfl, .inl ⟨SqL.of hD8, fun u nu => ?_⟩⟩
      have x9 : Fr A [] H8 (upd H8 u (.tup (cs.map V.int))) := Fr.new nu
      have hu9 : upd H8 u (.tup (cs.map V.int)) u = some (.tup (cs.map V.int)) := upd_same
      generalize upd H8 u (.tup (cs.map V.int)) = H9 at x9 hu9
      have L9 := (L7.fr ok x8).fr ok x9
      refine ⟨_, rfl, A.a 1, _, rfl, dgk L9.st (st_holders A), A.a 9, _, rfl, .inl ⟨SqL.of L9.hs, fun v nv => ?_⟩⟩
      have x10 : Fr A [] H9 (upd H9 v (.tup (cs.map V.int))) := Fr.new nv
      have hv10 : upd H9 v (.tup (cs.map V.int)) v = some (.tup (cs.map V.int)) := upd_same
      generalize upd H9 v (.tup (cs.map V.int)) = H10 at x10 hv10
      have cl' := S.cl
      exact ⟨_, _, rfl, Alike.ints 0 (x10.tup _ _ hu9) hv10 (by omega), k H10 (((x07.trans x8).trans x9).trans x10)⟩
end
end K23
namespace K23
open PySem L2

/-! ### the mirror state and what holds of it -/
structure Mir where
  pa : List Path
  tr : Tab
  ud : Tab
  us : Tab
  ck : Int
  cs : List Int
  rs : List (List (List Int))
  mi : List Int
def vals (m : Tab) : List Int := m.map fun e => e.2
structure Good (A : Ad) (m : Mir) : Prop where
  tok : TreeOk A.size m.tr
  perm : m.pa.Perm (keys m.tr)
  sort : m.pa.Pairwise (· ≤ ·)
  plen : ∀ p ∈ keys m.tr, p.length ≤ 1000
  uu : ∀ p ∈ keys m.tr, look m.ud p = look m.us p ∧ (look m.us p).isSome = true
  cl : m.cs.length = A.many
  rl : m.rs.length = A.many
  vn : (vals m.tr).Nodup
  vr : ∀ v ∈ vals m.tr, 0 ≤ v ∧ v < (A.many : Int)
  mr : ∀ v ∈ m.mi, 0 ≤ v ∧ v < (A.many : Int)
  cnt : ∀ b : Nat, b < A.many → m.cs[b]? = some (((vals m.tr).count (b : Int) + m.mi.count (b : Int) : Nat) : Int)
  rows : ∀ p v, (p, v) ∈ m.tr → m.rs[v.toNat]? = some (rowsFor p A.lets A.size)
  free : ∀ b : Nat, m.cs[b]? = some 0 → m.rs[b]? = some []
structure Bnd (k : Nat) (m : Mir) : Prop where
  ud : m.ud.length ≤ 100 * k
  us : m.us.length ≤ 100 * k
  tr : m.tr.length ≤ k
  mi : m.mi.length ≤ k
theorem mem_vals {m : Tab} {p : Path} {v : Int} (h : (p, v) ∈ m) : v ∈ vals m := List.mem_map.mpr ⟨_, h, rfl⟩
section
variable {A : Ad} {m : Mir}
theorem Good.at_ (g : Good A m) {p : Path} (h : p ∈ keys m.tr) : ∃ c : Int, look m.tr p = some (blk m.tr p : Int) ∧ m.cs[blk m.tr p]? = some c ∧ c ≠ 0 ∧ blk m.tr p < A.many ∧ (p, (blk m.tr p : Int)) ∈ m.tr := by
  obtain ⟨v, hv⟩ := Option.isSome_iff_exists.mp (look_isSome.mpr h)
  have hm := look_some hv
  obtain ⟨r1, r2⟩ := g.vr v (mem_vals hm)
  have e : blk m.tr p = v.toNat := by
    unfold blk lk
    rw [hv]
    rfl
  have e2 : ((v.toNat : Nat) : Int) = v := Int.toNat_of_nonneg r1
  have lt : v.toNat < A.many := by omega
  refine ⟨_, by rw [e, e2]; exact hv, by rw [e]; exact g.cnt _ lt, ?_, by rw [e]; exact lt, by rw [e, e2]; exact hm⟩
  rw [e2]
  have := List.count_pos_iff.mpr (mem_vals hm)
  omega
theorem Good.mem_pa (g : Good A m) {p : Path} : p ∈ m.pa ↔ p ∈ keys m.tr := g.perm.mem_iff
theorem Good.zero (g : Good A m) {i : Nat} (h : m.cs[i]? = some 0) : i < A.many ∧ (i : Int) ∉ vals m.tr ∧ (i : Int) ∉ m.mi := by
  have lt : i < A.many := by rw [← g.cl]; exact get_lt h
  have e := g.cnt i lt
  rw [h] at e
  injection e with e
  refine ⟨lt, fun z => ?_, fun z => ?_⟩
  · have := List.count_pos_iff.mpr z
    omega
  · have := List.count_pos_iff.mpr z
    omega
theorem count_snoc (l : List Int) (x y : Int) : (l ++ [x]).count y = l.count y + if x = y then 1 else 0 := by
  rw [List.count_append, List.count_singleton]
  congr 1
  by_cases h : x = y
  · rw [if_pos h, if_pos (beq_iff_eq.mpr h)]
  · rw [if_neg h, if_neg (fun z => h (beq_iff_eq.mp z))]
theorem set_at {α : Type} {l : List α} {i b : Nat} {x : α} (h : i < l.length) : (l.set i x)[b]? = if b = i then some x else l[b]? := by
  by_cases e : b = i
  · rw [if_pos e, e, List.getElem?_set_self h]
  · rw [if_neg e, List.getElem?_set_ne fun z => e z.symm]
/-- a free block comes among the law's own -/
theorem Good.take (g : Good A m) {i : Nat} (h : m.cs[i]? = some 0) (r : List (List Int)) : Good A { m with cs := m.cs.set i 1, rs := m.rs.set i r, mi := m.mi ++ [(i : Int)] } := by
  obtain ⟨lt, nv, nm⟩ := g.zero h
  have lc : i < m.cs.length := get_lt h
  have lr : i < m.rs.length := by rw [g.rl]; exact lt
  refine ⟨g.tok, g.perm, g.sort, g.plen, g.uu, by rw [List.length_set]; exact g.cl, by rw [List.length_set]; exact g.rl, g.vn, g.vr, fun v hv => ?_, fun b hb => ?_, fun p v hp => ?_, fun b hb => ?_⟩
  · rcases List.mem_append.mp hv with hv | hv
    · exact g.mr v hv
    · rw [List.mem_singleton.mp hv]
      omega
  · show (m.cs.set i 1)[b]? = _
    rw [set_at lc, count_snoc]
    by_cases e : b = i
    · rw [if_pos e, e, if_pos rfl, List.count_eq_zero.mpr nv, List.count_eq_zero.mpr nm]
      rfl
    · rw [if_neg e, if_neg (fun z => e (by omega))]
      exact g.cnt b hb
  · show (m.rs.set i r)[v.toNat]? = _
    have ne : v.toNat ≠ i := fun e => by
      have hv := mem_vals hp
      have := (g.vr v hv).1
      have e2 : v = (i : Int) := by omega
      rw [e2] at hv
      exact nv hv
    rw [set_at lr, if_neg ne]
    exact g.rows p v hp
  · have hb : (m.cs.set i 1)[b]? = some 0 := hb
    show (m.rs.set i r)[b]? = _
    rw [set_at lc] at hb
    by_cases e : b = i
    · rw [if_pos e] at hb
      cases hb
    · rw [if_neg e] at hb
      rw [set_at lr, if_neg e]
      exact g.free b hb
/-- the law puts one holder more on a block -/
theorem Good.hold (g : Good A m) {b : Nat} {c : Int} (h : m.cs[b]? = some c) (hc : c ≠ 0) : Good A { m with cs := m.cs.set b (c + 1), mi := m.mi ++ [(b : Int)] } := by
  have lc : b < m.cs.length := get_lt h
  have lt : b < A.many := by rw [← g.cl]; exact lc
  refine ⟨g.tok, g.perm, g.sort, g.plen, g.uu, by rw [List.length_set]; exact g.cl, g.rl, g.vn, g.vr, fun v hv => ?_, fun j hj => ?_, g.rows, fun j hj => ?_⟩
  · rcases List.mem_append.mp hv with hv | hv
    · exact g.mr v hv
    · rw [List.mem_singleton.mp hv]
      omega
  · show (m.cs.set b (c + 1))[j]? = some (((vals m.tr).count (j : Int) + (m.mi ++ [(b : Int)]).count (j : Int) : Nat) : Int)
    rw [set_at lc, count_snoc]
    by_cases e : j = b
    · have e2 := g.cnt b lt
      rw [h] at e2
      injection e2 with e2
      rw [if_pos e, e, if_pos rfl]
      congr 1
      omega
    · rw [if_neg e, if_neg (fun z => e (by omega))]
      exact g.cnt j hj
  · have hj : (m.cs.set b (c + 1))[j]? = some 0 := hj
    rw [set_at lc] at hj
    by_cases e : j = b
    · have e2 := g.cnt b lt
      rw [h] at e2
      injection e2 with e2
      rw [if_pos e] at hj
      injection hj with hj
      omega
    · rw [if_neg e] at hj
      exact g.free j hj
theorem er_perm {α : Type} : ∀ (l : List α) (d : Nat) (x : α), l[d]? = some x → l.Perm (x :: l.eraseIdx d)
  | [], _, _, h => nomatch h
  | y :: l, 0, x, h => by
    obtain rfl : y = x := Option.some.inj h
    exact List.Perm.refl _
  | y :: l, d + 1, x, h => ((er_perm l d x h).cons y).trans (List.Perm.swap x y _)
theorem count_erase (l : List Int) (d : Nat) (x y : Int) (h : l[d]? = some x) : l.count y = (l.eraseIdx d).count y + if x = y then 1 else 0 := by
  rw [(er_perm l d x h).count_eq, List.count_cons]
  congr 1
  by_cases e : x = y
  · rw [if_pos e, if_pos (beq_iff_eq.mpr e)]
  · rw [if_neg e, if_neg (fun z => e (beq_iff_eq.mp z))]
/-- the law takes one of its own away -/
theorem Good.rel (g : Good A m) {d b : Nat} {c : Int} (hd : m.mi[d]? = some (b : Int)) (h : m.cs[b]? = some c) : Good A { m with cs := m.cs.set b (c - 1), rs := (if c = 1 then m.rs.set b [] else m.rs), mi := m.mi.eraseIdx d } ∧ c ≠ 0 := by
  have lc : b < m.cs.length := get_lt h
  have lt : b < A.many := by rw [← g.cl]; exact lc
  have lr : b < m.rs.length := by rw [g.rl]; exact lt
  have hce := count_erase m.mi d (b : Int) (b : Int) hd
  rw [if_pos rfl] at hce
  have e2 := g.cnt b lt
  rw [h] at e2
  injection e2 with e2
  have c0 : c ≠ 0 := by omega
  have sub : ∀ v ∈ m.mi.eraseIdx d, v ∈ m.mi := fun v hv => List.mem_of_mem_eraseIdx hv
  refine ⟨⟨g.tok, g.perm, g.sort, g.plen, g.uu, by rw [List.length_set]; exact g.cl, ?_, g.vn, g.vr, fun v hv => g.mr v (sub v hv), fun j hj => ?_, fun p v hp => ?_, fun j hj => ?_⟩, c0⟩
  · show (if c = 1 then m.rs.set b [] else m.rs).length = _
    split
    · rw [List.length_set]
      exact g.rl
    · exact g.rl
  · show (m.cs.set b (c - 1))[j]? = some (((vals m.tr).count (j : Int) + (m.mi.eraseIdx d).count (j : Int) : Nat) : Int)
    have h3 := count_erase m.mi d (b : Int) (j : Int) hd
    rw [set_at lc]
    by_cases e : j = b
    · rw [if_pos e, e]
      congr 1
      omega
    · rw [if_neg (fun z => e (by omega))] at h3
      rw [if_neg e, g.cnt j hj, h3]
      rfl
  · have hp : (p, v) ∈ m.tr := hp
    show (if c = 1 then m.rs.set b [] else m.rs)[v.toNat]? = _
    by_cases e : c = 1
    · rw [if_pos e]
      have hv := mem_vals hp
      have ne : v.toNat ≠ b := fun z => by
        have := (g.vr v hv).1
        have z2 : v = (b : Int) := by omega
        rw [z2] at hv
        have := List.count_pos_iff.mpr hv
        omega
      rw [set_at lr, if_neg ne]
      exact g.rows p v hp
    · rw [if_neg e]
      exact g.rows p v hp
  · have hj : (m.cs.set b (c - 1))[j]? = some 0 := hj
    show (if c = 1 then m.rs.set b [] else m.rs)[j]? = _
    rw [set_at lc] at hj
    by_cases e : j = b
    · rw [if_pos e] at hj
      injection hj with hj
      rw [if_pos (show c = 1 by omega), set_at lr, if_pos e]
    · rw [if_neg e] at hj
      split
      · rw [set_at lr, if_neg e]
        exact g.free j hj
      · exact g.free j hj
/-- the paths are used -/
theorem Good.use (g : Good A m) {ud us : Tab} {ck : Int} (hu : ∀ p ∈ keys m.tr, look ud p = look us p ∧ (look us p).isSome = true) : Good A { m with ud := ud, us := us, ck := ck } :=
  ⟨g.tok, g.perm, g.sort, g.plen, hu, g.cl, g.rl, g.vn, g.vr, g.mr, g.cnt, g.rows, g.free⟩
theorem keys_snoc (m : Tab) (p : Path) (v : Int) : keys (m ++ [(p, v)]) = keys m ++ [p] := by
  unfold keys
  rw [List.map_append]
  rfl
theorem vals_snoc (m : Tab) (p : Path) (v : Int) : vals (m ++ [(p, v)]) = vals m ++ [v] := by
  unfold vals
  rw [List.map_append]
  rfl
theorem TreeOk.ins {sz : Nat} {m : Tab} {ls : Path} {j : Nat} {v : Int} (hs : 1 ≤ sz) (t : TreeOk sz m) (hj : 1 ≤ j) (hl : ls.length = j * sz) (h : Ins sz m ls) : TreeOk sz (m ++ [(ls, v)]) := by
  refine ⟨?_, ?_, ?_⟩
  · rw [keys_snoc]
    refine List.nodup_append.mpr ⟨t.nd, by simp, fun a ha b hb e => ?_⟩
    rw [List.mem_singleton.mp hb] at e
    rw [e] at ha
    exact look_none.mp h.1 ha
  · intro p hp
    rw [keys_snoc] at hp
    rcases List.mem_append.mp hp with hp | hp
    · exact t.len p hp
    · rw [List.mem_singleton.mp hp]
      exact ⟨j, hj, hl⟩
  · intro p hp q hq hql
    rw [keys_snoc] at hp ⊢
    rcases List.mem_append.mp hp with hp | hp
    · exact List.mem_append_left _ (t.clo p hp q hq hql)
    · have ep := List.mem_singleton.mp hp
      rw [ep] at hql ⊢
      rw [hl] at hql
      have qj : q ≤ j := Nat.le_of_mul_le_mul_right hql hs
      by_cases e : q = j
      · refine List.mem_append_right _ (List.mem_singleton.mpr ?_)
        unfold pre
        rw [e]
        exact List.take_of_length_le (by omega)
      · have q1 : q ≤ j - 1 := by omega
        rcases h.2 with h2 | h2
        · rw [hl] at h2
          have : j = 1 := Nat.eq_of_mul_eq_mul_right hs (by rw [Nat.one_mul]; exact h2)
          omega
        · refine List.mem_append_left _ ?_
          have ha : ahd sz ls = pre sz ls (j - 1) := by
            unfold ahd pre
            rw [hl, Nat.sub_mul, Nat.one_mul]
          rw [ha] at h2
          have hm := look_isSome.mp h2
          have hle : (j - 1) * sz ≤ ls.length := by
            rw [hl]
            exact Nat.mul_le_mul_right _ (by omega)
          have := t.clo _ hm q hq (by rw [pre_length hle]; exact Nat.mul_le_mul_right _ q1)
          rw [pre_pre q1] at this
          exact this
theorem Good.ins (g : Good A m) (hs : 1 ≤ A.size) {ls : Path} {i j : Nat} {c : Int} {pa : List Path} {ud us : Tab} {ck : Int} (hj : 1 ≤ j) (hl : ls.length = j * A.size) (hz : ls.length ≤ 1000) (h : Ins A.size m.tr ls)
    (hc : m.cs[i]? = some c) (hr : m.rs[i]? = some (rowsFor ls A.lets A.size)) (nv : (i : Int) ∉ vals m.tr) (hp : pa.Perm (m.pa ++ [ls])) (hso : pa.Pairwise (· ≤ ·))
    (hu : ∀ p ∈ keys (m.tr ++ [(ls, (i : Int))]), look ud p = look us p ∧ (look us p).isSome = true) :
    Good A { m with pa := pa, tr := m.tr ++ [(ls, (i : Int))], ud := ud, us := us, ck := ck, cs := m.cs.set i (c + 1) } := by
  have lc : i < m.cs.length := get_lt hc
  have lt : i < A.many := by rw [← g.cl]; exact lc
  refine ⟨g.tok.ins hs hj hl h, ?_, hso, fun p hp => ?_, hu, by rw [List.length_set]; exact g.cl, g.rl, ?_, fun v hv => ?_, g.mr, fun b hb => ?_, fun p v hpv => ?_, fun b hb => ?_⟩
  · show pa.Perm (keys (m.tr ++ [(ls, (i : Int))]))
    rw [keys_snoc]
    exact hp.trans (g.perm.append_right _)
  · have hp : p ∈ keys (m.tr ++ [(ls, (i : Int))]) := hp
    rw [keys_snoc] at hp
    rcases List.mem_append.mp hp with hp | hp
    · exact g.plen p hp
    · rw [List.mem_singleton.mp hp]
      exact hz
  · show (vals (m.tr ++ [(ls, (i : Int))])).Nodup
    rw [vals_snoc]
    refine List.nodup_append.mpr ⟨g.vn, by simp, fun a ha b hb e => ?_⟩
    rw [List.mem_singleton.mp hb] at e
    rw [e] at ha
    exact nv ha
  · have hv : v ∈ vals (m.tr ++ [(ls, (i : Int))]) := hv
    rw [vals_snoc] at hv
    rcases List.mem_append.mp hv with hv | hv
    · exact g.vr v hv
    · rw [List.mem_singleton.mp hv]
      omega
  · show (m.cs.set i (c + 1))[b]? = some (((vals (m.tr ++ [(ls, (i : Int))])).count (b : Int) + m.mi.count (b : Int) : Nat) : Int)
    rw [set_at lc, vals_snoc, count_snoc]
    by_cases e : b = i
    · have e2 := g.cnt i lt
      rw [hc] at e2
      injection e2 with e2
      rw [if_pos e, e, if_pos rfl]
      congr 1
      omega
    · rw [if_neg e, if_neg (fun z => e (by omega))]
      exact g.cnt b hb
  · have hpv : (p, v) ∈ m.tr ++ [(ls, (i : Int))] := hpv
    rcases List.mem_append.mp hpv with hpv | hpv
    · exact g.rows p v hpv
    · have e := List.mem_singleton.mp hpv
      injection e with e1 e2
      rw [e1, e2]
      exact hr
  · have hb : (m.cs.set i (c + 1))[b]? = some 0 := hb
    rw [set_at lc] at hb
    by_cases e : b = i
    · have e2 := g.cnt i lt
      rw [hc] at e2
      injection e2 with e2
      rw [if_pos e] at hb
      injection hb with hb
      omega
    · rw [if_neg e] at hb
      exact g.free b hb
theorem drop_not {m : Tab} {p : Path} (h : p ∉ keys m) : drop m p = m := by
  unfold drop
  refine List.filter_eq_self.mpr fun e he => decide_eq_true fun z => h ?_
  rw [← z]
  exact List.mem_map.mpr ⟨e, he, rfl⟩
theorem drop_perm : ∀ {m : Tab} {p : Path} {v : Int}, (keys m).Nodup → look m p = some v → m.Perm ((p, v) :: drop m p)
  | [], _, _, _, h => nomatch h
  | e :: m, p, v, nd, h => by
    obtain ⟨n1, n2⟩ := List.nodup_cons.mp (show (e.1 :: keys m).Nodup from nd)
    by_cases z : e.1 = p
    · rw [look_pos z] at h
      injection h with h
      have e1 : e = (p, v) := Prod.ext z h
      have e2 : drop (e :: m) p = m := by
        show List.filter (fun e => decide (e.1 ≠ p)) (e :: m) = m
        rw [List.filter_cons_of_neg (by simp [z])]
        rw [z] at n1
        exact drop_not n1
      rw [e2, e1]
    · rw [look_neg z] at h
      have e2 : drop (e :: m) p = e :: drop m p := by
        show List.filter (fun e => decide (e.1 ≠ p)) (e :: m) = _
        rw [List.filter_cons_of_pos (by simp [z])]
        rfl
      rw [e2]
      exact ((drop_perm n2 h).cons e).trans (List.Perm.swap _ _ _)
/-- a path that may go goes -/
theorem Good.drop (g : Good A m) (hs : 1 ≤ A.size) {p : Path} (hp : p ∈ mayGo A.size m.pa m.tr m.cs) :
    Good A { m with pa := m.pa.filter (fun q => decide (q ≠ p)), tr := K23.drop m.tr p, ud := K23.drop m.ud p, cs := m.cs.set (blk m.tr p) 0, rs := m.rs.set (blk m.tr p) [] } := by
  rw [mayGo_eq] at hp
  obtain ⟨hpa, h2⟩ := List.mem_filter.mp hp
  rw [Bool.and_eq_true] at h2
  have hlf := h2.1
  have hc1 := of_decide_eq_true h2.2
  have hk := g.mem_pa.mp hpa
  obtain ⟨c, hlk, hc, hc0, lt, hm⟩ := g.at_ hk
  have lc : blk m.tr p < m.cs.length := by rw [g.cl]; exact lt
  have lr : blk m.tr p < m.rs.length := by rw [g.rl]; exact lt
  have perm := drop_perm g.tok.nd hlk
  have pk : (keys m.tr).Perm (p :: keys (K23.drop m.tr p)) := perm.map _
  have pv : (vals m.tr).Perm ((blk m.tr p : Int) :: vals (K23.drop m.tr p)) := perm.map _
  have sub : ∀ e, e ∈ K23.drop m.tr p → e ∈ m.tr := fun e he => perm.mem_iff.mpr (List.mem_cons_of_mem _ he)
  have subk : ∀ q, q ∈ keys (K23.drop m.tr p) → q ∈ keys m.tr ∧ q ≠ p := fun q hq => by
    rw [drop_keys] at hq
    obtain ⟨h1, h2⟩ := List.mem_filter.mp hq
    exact ⟨h1, of_decide_eq_true h2⟩
  have subv : ∀ v, v ∈ vals (K23.drop m.tr p) → v ∈ vals m.tr := fun v hv => pv.mem_iff.mpr (List.mem_cons_of_mem _ hv)
  have nv : (blk m.tr p : Int) ∉ vals (K23.drop m.tr p) := (List.nodup_cons.mp (pv.nodup_iff.mp g.vn)).1
  have cntp := g.cnt _ lt
  rw [hc1] at cntp
  injection cntp with cntp
  have inv1 : 0 < (vals m.tr).count (blk m.tr p : Int) := List.count_pos_iff.mpr (mem_vals hm)
  have nmi : (blk m.tr p : Int) ∉ m.mi := fun z => by
    have := List.count_pos_iff.mpr z
    omega
  have lf := (leaf_iff hs g.tok (ps := m.pa) (fun q => g.mem_pa) hk).mp hlf
  refine ⟨⟨?_, fun q hq => g.tok.len q (subk q hq).1, fun q hq j hj hl => ?_⟩, ?_, g.sort.filter _, fun q hq => g.plen q (subk q hq).1, fun q hq => ?_, by rw [List.length_set]; exact g.cl, by rw [List.length_set]; exact g.rl, (List.nodup_cons.mp (pv.nodup_iff.mp g.vn)).2, fun v hv => g.vr v (subv v hv), g.mr, fun b hb => ?_, fun q v hq => ?_, fun b hb => ?_⟩
  · exact (List.nodup_cons.mp (pk.nodup_iff.mp g.tok.nd)).2
  · have hq' := subk q hq
    have hin := g.tok.clo q hq'.1 j hj hl
    show pre A.size q j ∈ keys (K23.drop m.tr p)
    rw [drop_keys]
    refine List.mem_filter.mpr ⟨hin, decide_eq_true fun e => ?_⟩
    have hpl : (pre A.size q j).length = j * A.size := pre_length hl
    rw [e] at hpl
    by_cases z : p.length < q.length
    · refine lf q hq'.1 ⟨z, ?_⟩
      rw [hpl]
      exact e
    · have : q = p := by
        rw [← e]
        unfold pre
        rw [List.take_of_length_le (by omega)]
      exact hq'.2 this
  · show (m.pa.filter fun q => decide (q ≠ p)).Perm (keys (K23.drop m.tr p))
    rw [drop_keys]
    exact g.perm.filter _
  · have hq' := subk q hq
    show look (K23.drop m.ud p) q = look m.us q ∧ _
    rw [look_drop, if_neg hq'.2]
    exact g.uu q hq'.1
  · show (m.cs.set (blk m.tr p) 0)[b]? = some (((vals (K23.drop m.tr p)).count (b : Int) + m.mi.count (b : Int) : Nat) : Int)
    rw [set_at lc]
    by_cases e : b = blk m.tr p
    · rw [if_pos e, e, List.count_eq_zero.mpr nv, List.count_eq_zero.mpr nmi]
      rfl
    · rw [if_neg e, g.cnt b hb, pv.count_eq, List.count_cons, if_neg (fun z => e (by have := beq_iff_eq.mp z; omega)), Nat.add_zero]
  · show (m.rs.set (blk m.tr p) [])[v.toNat]? = _
    have hv := mem_vals hq
    have ne : v.toNat ≠ blk m.tr p := fun e => by
      have := (g.vr v (subv v hv)).1
      have e2 : v = (blk m.tr p : Int) := by omega
      rw [e2] at hv
      exact nv hv
    rw [set_at lr, if_neg ne]
    exact g.rows q v (sub _ hq)
  · have hb : (m.cs.set (blk m.tr p) 0)[b]? = some 0 := hb
    show (m.rs.set (blk m.tr p) [])[b]? = _
    rw [set_at lr]
    rw [set_at lc] at hb
    by_cases e : b = blk m.tr p
    · rw [if_pos e]
    · rw [if_neg e] at hb ⊢
      exact g.free b hb
end
end K23
namespace K23
open PySem L2

structure Wd (t : Tx) (A : Ad) (H : Hp) (m : Mir) : Prop where
  S : StoreAt t.S A H m.cs m.rs
  R : TreeAt t.T A H m.pa m.tr m.ud m.ck
  L : LawAt A H m.tr m.us m.cs m.ck m.mi
  po : PoolAt A H
  lv : Live A H
theorem Alike.row {H : Hp} {a b : Addr} {ws : List Int} (ha : RowAt H a ws) (hb : RowAt H b ws) (hl : ws.length ≤ 100000) : Alike 2 H (.ref a) (.ref b) := by
  obtain ⟨e, w, h1, h2, h3⟩ := ha
  obtain ⟨f, v, g1, g2, g3⟩ := hb
  refine .inr ⟨a, b, _, _, rfl, rfl, h1, g1, rfl, (by show 2 ≤ 100000; decide), fun i u z k1 k2 => ?_⟩
  match i with
  | 0 =>
    obtain rfl := Option.some.inj k1
    obtain rfl := Option.some.inj k2
    exact Alike.ints 0 (ls := []) h2 g2 (by decide)
  | 1 =>
    obtain rfl := Option.some.inj k1
    obtain rfl := Option.some.inj k2
    exact Alike.ints 0 h3 g3 hl
  | i + 2 => exact nomatch k1
theorem mem_rowsFor {ls : List Int} {lets k : Nat} {ws : List Int} (h : ws ∈ rowsFor ls lets k) : ws.length = lets := by
  unfold rowsFor at h
  obtain ⟨j, _, rfl⟩ := List.mem_map.mp h
  exact wts_len _ _ _
section
variable {P : Program} {w : World} {K : PySem.W.Frag} {mg : Str → Option Value} {base : Heap} {t : Tx}
/-! ### rows_stay -/
def spStay (t : Tx) : Sp := fun vs H Q _ => ∃ (A : Ad) (m : Mir), vs = [.ref (A.a 0), .ref (A.a 1)] ∧ A.Ok ∧ Wd t A H m ∧ Good A m ∧ m.tr.length ≤ 1000 ∧ ∀ H', Q (.bl true) H'
theorem ok_stay (T : Txt K mg t) : FnOk P w K mg base CX0 5 t.lStay t.lStayD ["_law_store", "_law_state"] (spStay t) := by
  refine T.F_lStay.ok scLStay (fun vs H Q E h => ?_) (fun cdv Ar outer s H vs Q E hr h => ?_)
  · obtain ⟨A, m, rfl, _⟩ := h
    rfl
  · obtain ⟨A, m, rfl, ok, W, g, htl, k⟩ := h
    have hu := hu_of hr
    have hr1 : Room 1 _ := hr.mono (by decide)
    have hr3 : Room 3 _ := hr.mono (by decide)
    have s1 := ok.s1
    have s2 := ok.s2
    have l2 := ok.l2
    refine ⟨_, pss_cons (ps_for PassesOwn.never rfl (pi_list (pe_callB (cr_sortD rfl hr) (by rfl) T.g_sorted PyProof.Rows.boot_sorted (pa_cons (pe_dget hu (pv 1) pe_str (fun _ _ => rfl)) pa_nil))) (pg_name (i := 2) scLStay.nd rfl (.inr rfl))
        (pss_cons (ps_set (i := 3) scLStay.nd rfl (.inl rfl) (pe_meth (pv 0) T.clS T.m_sRows (ok_rows T) hr3 T.b_sRows .nil pass0 (pa_cons (pe_dget hu (pe_dget hu (pv 1) pe_str (fun _ _ => rfl)) (pv 2) (fun _ _ => rfl)) pa_nil)))
        (pss_one (ps_if (pt_not (pt_val (pe_call (ok_same T 3) hr (by rfl) T.m_lSame T.F_lSame.kp T.b_lSame .nil pass0
          (pa_cons (pv 3) (pa_cons (pe_callTy cr_tupOf (by rfl) T.g_tuple PyProof.Rows.boot_tuple (pa_cons (pe_lc (own := [("_law_k", 4)]) (g := gName 4) (tt := tYes) (te := tCall spLRow [] E0 (tCons (tVar 1) (tCons (tVar 2) (tCons (tVar 4) tNil)))) (by rfl) scLStay.nd
            (pi_range1 (by rfl) T.g_range (pa_cons (pe_dget hu (pv 1) pe_str (fun _ _ => rfl)) pa_nil)) (blkOk_by (own := [("_law_k", 4)]) (N := ["_law_store", "_law_state", "_law_path_here", "_law_told", "_law_k"]) (sc := defScope sLStay) (by decide +kernel))
            (fun _ _ _ _ _ => pg_name (i := 4) scLStay.nd rfl (Or.inl rfl)) (fun _ _ _ _ _ => pts_nil)
            (fun _ _ _ _ _ => pe_call (ok_lrow T) (by exact hr1) (by rfl) T.m_lRow T.F_lRow.kp T.b_lRow .nil pass0 (pa_cons (pv 1) (pa_cons (pv 2) (pa_cons (pv 4) pa_nil))))) pa_nil)) pa_nil))))) (pss_one ps_never) pss_nil))))
      (pss_one (ps_ret pe_bl)), ?_⟩
    refine ⟨_, rfl, A.a 1, _, rfl, dgk W.L.st (st_tree A), A.a 7, _, keys m.tr, rfl, W.L.tr, keys_tr, g.tok.ne s1, fun bs z perm sorted ht nz => ?_⟩
    have x1 : Fr A [] H (upd H z (.lst (bs.map fun b => V.ref b.1))) := Fr.new nz
    have hz1 : upd H z (.lst (bs.map fun b => V.ref b.1)) z = some (.lst (refs bs)) := upd_same
    have newz : New A z := W.lv.new nz
    generalize upd H z (.lst (bs.map fun b => V.ref b.1)) = H1 at x1 hz1
    refine ⟨z, rfl, ⟨_, SqL.of hz1⟩, ?_⟩
    refine for_list (K := K) (a := z) (xs := refs bs) (fun i σ H' => Fr A [] H1 H' ∧ ∃ (v2 v3 : Option V), σ = [some (.ref (A.a 0)), some (.ref (A.a 1)), v2, v3, none]) ⟨Fr.refl _ _ _, _, _, rfl⟩ (fun i σ H' _ ⟨x, _⟩ => SqL.of (x.own newz hz1)) ?_ ?_
    · rintro i y σ H2 hi ⟨x2, v2, v3, rfl⟩
      obtain ⟨b, hb, rfl⟩ := refs_get hi
      have bm := List.mem_of_getElem? hb
      have bk : b.2 ∈ keys m.tr := perm.mem_iff.mp (List.mem_map.mpr ⟨b, bm, rfl⟩)
      obtain ⟨c, hlk, hc, hc0, _, hmem⟩ := g.at_ bk
      have hrow := g.rows _ _ hmem
      rw [Int.toNat_natCast] at hrow
      have x02 : Fr A [] H H2 := x1.trans x2
      have L2' := W.L.fr ok x02
      have S2 := W.S.fr ok x02
      have hbt : H2 b.1 = some (.tup (b.2.map V.int)) := x02.tup _ _ (ht b bm)
      obtain ⟨dx, ho⟩ := S2.ob
      refine ⟨_, rfl, A.a 0, dx, _, rfl, ho, by kernel_rfl, _, rfl, A.a 1, _, rfl, dgk L2'.st (st_tree A), _, rfl, A.a 7, _, rfl, dgetS L2'.tr hbt hlk, A, m.cs, m.rs, blk m.tr b.2, c, _, rfl, S2, hc, hc0, hrow, fun q rws hq hrs hrm => ?_⟩
      refine ⟨_, rfl, _, rfl, A.a 1, _, rfl, dgk L2'.st (st_size A), _, rfl, by omega, by omega, fun D nD => ?_⟩
      have lv2 := W.lv.fr x02
      have newD : New A D := lv2.new nD
      rw [Int.toNat_natCast]
      refine lc_range (fun j H' => Fr A [] H2 H' ∧ ∃ vs : List AP', H' D = some (.lst (refs vs)) ∧ (∀ v ∈ vs, RowAt H' v.1 v.2) ∧ vs.map (fun v => v.2) = rowsFor b.2 A.lets j) ⟨Fr.new nD, [], upd_same, fun v hv => (nomatch hv), rfl⟩ ?_ ?_
      · rintro j H3 hj ⟨x3, vs, hD, hvs, hvm⟩
        rw [Int.zero_add]
        refine ⟨rfl, _, rfl, _, rfl, _, rfl, A, m.tr, m.us, m.cs, m.ck, m.mi, b.1, b.2, j, rfl, ok, lv2.fr x3, L2'.fr ok x3, x3.tup _ _ hbt, by omega, fun p H4 hp x4 => ?_⟩
        have hD4 := x4.own newD hD
        have x5 : Fr A [] H2 (upd H4 D (.lst (refs vs ++ [.ref p]))) := (x3.trans x4).loc nD
        have nt : ∀ {c : Addr} {ws : List Int}, RowAt H4 c ws → RowAt (upd H4 D (.lst (refs vs ++ [.ref p]))) c ws := fun {c ws} r => by
          obtain ⟨e, w, h1, h2, h3⟩ := r
          exact ⟨e, w, by rw [upd_ne (ne_of h1 hD4 fun z => nomatch z)]; exact h1, by rw [upd_ne (ne_of h2 hD4 fun z => nomatch z)]; exact h2, by rw [upd_ne (ne_of h3 hD4 fun z => nomatch z)]; exact h3⟩
        refine ⟨_, hD4, ?_, x5, vs ++ [(p, wts b.2 j A.lets)], ?_, ?_, ?_⟩
        · rw [refs_len]
          have := congrArg List.length hvm
          rw [List.length_map, rowsFor_len] at this
          exact len100 (by omega)
        · rw [upd_same]
          unfold refs
          rw [List.map_append]
          rfl
        · intro v hv
          rcases List.mem_append.mp hv with hv | hv
          · exact nt ((hvs v hv).fr x4)
          · rw [List.mem_singleton.mp hv]
            exact nt hp
        · rw [List.map_append, hvm, rowsFor_succ]
          rfl
      · rintro H3 ⟨x3, vs, hD, hvs, hvm⟩
        refine ⟨D, _, rfl, .inl ⟨SqL.of hD, fun u nu => ?_⟩⟩
        have x4 : Fr A [] H3 (upd H3 u (.tup (refs vs))) := Fr.new nu
        have hu4 : upd H3 u (.tup (refs vs)) u = some (.tup (refs vs)) := upd_same
        generalize upd H3 u (.tup (refs vs)) = H4 at x4 hu4
        have x24 := x3.trans x4
        have vl : vs.length = A.size := by
          have := congrArg List.length hvm
          rwa [List.length_map, rowsFor_len] at this
        refine ⟨_, _, rfl, Alike.refs 2 (x24.tup _ _ hq) hu4 (hrm.trans hvm.symm) (by omega) (fun i u v hu' hv' e => ?_), true, rfl, iteF ⟨x2.trans x24, _, _, rfl⟩⟩
        have r1 := (hrs u (List.mem_of_getElem? hu')).fr x24
        have r2 := (hvs v (List.mem_of_getElem? hv')).fr x4
        rw [e] at r1
        have vm : v.2 ∈ rowsFor b.2 A.lets A.size := by
          rw [← hvm]
          exact List.mem_map.mpr ⟨v, List.mem_of_getElem? hv', rfl⟩
        have := mem_rowsFor vm
        exact Alike.row r1 r2 (by omega)
    · rintro σ H2 ⟨x2, v2, v3, rfl⟩
      exact k H2
/-! ### held -/
theorem LawAt.setM {A : Ad} {H : Hp} {tr us : Tab} {hs : List Int} {cl : Int} {mi mi' : List Int} (s : LawAt A H tr us hs cl mi) (ok : A.Ok) : LawAt A (upd H (A.a 11) (.lst (mi'.map V.int))) tr us hs cl mi' := by
  have x : Fr A [11] H (upd H (A.a 11) (.lst (mi'.map V.int))) := Fr.upd s.mi rfl
  exact ⟨x.at ok 1 s.st, x.at ok 7 s.tr, x.at ok 8 s.us, x.at ok 9 s.hs, x.at ok 10 s.cl, upd_same⟩
theorem erase_map (l : List Int) : ∀ d, (l.map V.int).eraseIdx d = (l.eraseIdx d).map V.int := by
  induction l with
  | nil =>
    intro d
    rfl
  | cons x l ih =>
    intro d
    cases d with
    | zero => rfl
    | succ d => exact congrArg (V.int x :: ·) (ih d)
def spLHeld (t : Tx) : Sp := fun vs H Q _ => ∃ (A : Ad) (m : Mir) (k : Nat), vs = [.ref (A.a 12), .ref (A.a 0), .ref (A.a 1)] ∧ A.Ok ∧ Wd t A H m ∧ Good A m ∧ Bnd k m ∧ k ≤ 1000 ∧ ∀ (m' : Mir) (H' : Hp), Wd t A H' m' → Good A m' → Bnd (k + 1) m' → Q .non H'
theorem ok_lheld (T : Txt K mg t) : FnOk P w K mg base CX0 4 t.lHeld t.lHeldD ["_law_pool_here", "_law_store", "_law_state"] (spLHeld t) := by
  refine T.F_lHeld.ok scLHeld (fun vs H Q E h => ?_) (fun cdv Ar outer s H vs Q E hr h => ?_)
  · obtain ⟨A, m, k, rfl, _⟩ := h
    rfl
  · obtain ⟨A, m, k, rfl, ok, W, g, bd, hk, q⟩ := h
    have hu := hu_of hr
    have hr1 : Room 1 _ := hr.mono (by decide)
    have s1 := ok.s1
    have htl := bd.tr
    have hml := bd.mi
    have m2 := ok.m2
    refine ⟨_, pss_cons (ps_set (i := 3) scLHeld.nd rfl (.inl rfl) (pe_dget hu (pv 2) pe_str (fun _ _ => rfl)))
      (pss_cons (ps_set (i := 4) scLHeld.nd rfl (.inl rfl) (pe_dget hu (pv 2) pe_str (fun _ _ => rfl)))
      (pss_cons (ps_setLc (i := 5) (own := [("_law_path_here", 7)]) (g := gName 7) (tt := tYes) (te := tDGet (tDGet (tVar 2) (tC (.str "tree"))) (tVar 7)) (by rfl) scLHeld.nd rfl rfl (sw_true rfl rfl rfl (by decide +kernel))
          (pi_list (pe_callB (cr_sortD rfl hr) (by rfl) T.g_sorted PyProof.Rows.boot_sorted (pa_cons (pe_dget hu (pv 2) pe_str (fun _ _ => rfl)) pa_nil)))
          (blkOk_by (own := [("_law_path_here", 7)]) (N := ["_law_pool_here", "_law_store", "_law_state", "_law_howmany", "_law_mine", "_law_blocks", "_law_block", "_law_path_here"]) (sc := defScope sLHeld) (by decide +kernel))
          (fun _ _ _ _ _ => pg_name (i := 7) scLHeld.nd rfl (Or.inl rfl)) (fun _ _ _ _ _ => pts_nil)
          (fun _ _ _ _ _ => pe_dget (by exact hu) (pe_dget (by exact hu) (pv 2) pe_str (fun _ _ => rfl)) (pv 7) (fun _ _ => rfl)))
      (pss_one (ps_if (PW.pt (pw_and (pt_cmpR op_eq (pe_call (ok_draw T) hr1 (by rfl) T.m_lDraw T.F_lDraw.kp T.b_lDraw .nil pass0 (pa_cons (pv 0) (pa_cons pe_int pa_nil))) pe_int (nomark _))
            (pw_and1 (pt_cmpR op_gt (pe_callB cr_lenS (by rfl) T.g_len PySem.boot_len (pa_cons (pv 5) pa_nil)) pe_int (nomark _)))))
        (pss_cons (ps_set (i := 6) scLHeld.nd rfl (.inl rfl) (pe_ix ix_list (pv 5) (pe_call (ok_draw T) hr1 (by rfl) T.m_lDraw T.F_lDraw.kp T.b_lDraw .nil pass0 (pa_cons (pv 0) (pa_cons (pe_callB cr_lenS (by rfl) T.g_len PySem.boot_len (pa_cons (pv 5) pa_nil)) pa_nil))) (fun _ _ => rfl)))
        (pss_cons (ps_expr (pe_meth (pv 1) T.clS T.m_sHold (ok_hold T) hr T.b_sHold .nil pass0 (pa_cons (pv 6) pa_nil)))
        (pss_cons (ps_asg (pe_op op_add (pe_ix ix_list (pv 3) (pv 6) (fun _ _ => rfl)) pe_int) (pg_sub (pv 3) (pv 6) set_list))
        (pss_one (ps_expr (pe_bm PySem.F.plainAttrs_list PySem.F.slot_list_append PySem.F.type_list_append mt_append (pv 4) (pa_cons (pv 6) pa_nil)))))))
        (pss_one (ps_if (pt_cmpR op_gt (pe_callB cr_lenS (by rfl) T.g_len PySem.boot_len (pa_cons (pv 4) pa_nil)) pe_int (nomark _))
          (pss_cons (ps_set (i := 6) scLHeld.nd rfl (.inl rfl) (pe_bm PySem.F.plainAttrs_list PySem.F.slot_list_pop PySem.F.type_list_pop mt_popAt (pv 4) (pa_cons (pe_call (ok_draw T) hr1 (by rfl) T.m_lDraw T.F_lDraw.kp T.b_lDraw .nil pass0 (pa_cons (pv 0) (pa_cons (pe_callB cr_lenS (by rfl) T.g_len PySem.boot_len (pa_cons (pv 4) pa_nil)) pa_nil))) pa_nil)))
          (pss_cons (ps_expr (pe_meth (pv 1) T.clS T.m_sRel (ok_rel T) hr T.b_sRel .nil pass0 (pa_cons (pv 6) pa_nil)))
          (pss_one (ps_expr (pe_call (ok_lrel T) hr1 (by rfl) T.m_lRel T.F_lRel.kp T.b_lRel .nil pass0 (pa_cons (pv 2) (pa_cons (pv 6) pa_nil))))))) pss_nil)))))), ?_⟩
    refine ⟨_, rfl, A.a 1, _, rfl, dgk W.L.st (st_holders A), ?_⟩
    refine ⟨_, rfl, A.a 1, _, rfl, dgk W.L.st (st_mine A), ?_⟩
    refine ⟨_, rfl, A.a 1, _, rfl, dgk W.L.st (st_tree A), A.a 7, _, keys m.tr, rfl, W.L.tr, keys_tr, g.tok.ne s1, fun bs z perm sorted ht nz => ?_⟩
    have x1 : Fr A [] H (upd H z (.lst (bs.map fun b => V.ref b.1))) := Fr.new nz
    have hz1 : upd H z (.lst (bs.map fun b => V.ref b.1)) z = some (.lst (refs bs)) := upd_same
    generalize upd H z (.lst (bs.map fun b => V.ref b.1)) = H1 at x1 hz1
    have L1 := W.L.fr ok x1
    have bl : bs.length = m.tr.length := by
      have := perm.length_eq
      unfold keys at this
      rwa [List.length_map, List.length_map] at this
    refine ⟨z, rfl, ⟨_, SqL.of hz1⟩, fun D nD => ?_⟩
    have newD : New A D := (W.lv.fr x1).new nD
    refine lc_list (K := K) (a := z) (xs := refs bs) (fun i H' => H' = upd H1 D (.lst ((bs.take i).map fun b => V.int (blk m.tr b.2)))) rfl (fun i H' _ e => by rw [e]; exact SqL.of (by rw [upd_ne (ne_of_none hz1 nD)]; exact hz1)) ?_ ?_
    · rintro i y H' hi rfl
      obtain ⟨b, hb, rfl⟩ := refs_get hi
      have bm := List.mem_of_getElem? hb
      have bk : b.2 ∈ keys m.tr := perm.mem_iff.mp (List.mem_map.mpr ⟨b, bm, rfl⟩)
      obtain ⟨c, hlk, _⟩ := g.at_ bk
      have x2 : Fr A [] H1 (upd H1 D (.lst ((bs.take i).map fun b => V.int (blk m.tr b.2)))) := Fr.new nD
      have L2' := L1.fr ok x2
      refine ⟨rfl, _, rfl, A.a 1, _, rfl, dgk L2'.st (st_tree A), _, rfl, A.a 7, _, rfl, dgetS L2'.tr ((x1.trans x2).tup _ _ (ht b bm)) hlk, _, upd_same, ?_, ?_⟩
      · rw [List.length_map, List.length_take]
        exact len100 (by omega)
      · rw [upd_upd, take_succ' hb, List.map_append]
        rfl
    · rintro H' rfl
      rw [refs_len, List.take_of_length_le (Nat.le_refl _)]
      have x2 : Fr A [] H1 (upd H1 D (.lst (bs.map fun b => V.int (blk m.tr b.2)))) := Fr.new nD
      have hD2 : upd H1 D (.lst (bs.map fun b => V.int (blk m.tr b.2))) D = some (.lst (bs.map fun b => V.int (blk m.tr b.2))) := upd_same
      generalize upd H1 D (.lst (bs.map fun b => V.int (blk m.tr b.2))) = H2 at x2 hD2
      have x02 := x1.trans x2
      have po2 := W.po.fr ok x02
      refine ⟨_, rfl, A.a 12, _, 2, rfl, by decide, po2.choose_spec, fun d xs1 hd => ?_⟩
      obtain ⟨H3, e3, po3, x3⟩ := drawn po2 xs1
      rw [e3]
      have x03 : Fr A [12] H H3 := x02.and x3
      have L3 := W.L.fr ok x03
      have S3 := W.S.fr ok x03
      have R3 := W.R.fr ok x03
      have lv3 := W.lv.fr x03
      have hD3 := x3.own newD hD2
      -- the law's own holders
      have els : tIfS (tTest (tOp rGtI (tCB (rLenS K) (tCons (tVar 4) tNil)) (tC (.int 0))))
          (tSeq (tAsg (tBM K "list" rPopAt (tVar 4) (tCons (tCall spDraw [] E0 (tCons (tVar 0) (tCons (tCB (rLenS K) (tCons (tVar 4) tNil)) tNil))) tNil)) (gName 6))
            (tSeq (tDrop (tMeth t.S (Str.ofString "release") (spRel t) [] E0 (tVar 1) (tCons (tVar 6) tNil))) (tDrop (tCall spLRel [] E0 (tCons (tVar 2) (tCons (tVar 6) tNil)))))) tNext
          { nx := fun _ H' => Q .non H', rt := Q } [some (.ref (A.a 12)), some (.ref (A.a 0)), some (.ref (A.a 1)), some (.ref (A.a 9)), some (.ref (A.a 11)), some (.ref D), none, none] H3 := by
        refine ⟨_, rfl, A.a 11, _, rfl, .inl (SqL.of L3.mi), _, _, rfl, rfl, decide (0 < m.mi.length), ?_, ite2 (fun y => ?_) (fun y => ?_)⟩
        · rw [List.length_map]
          exact congrArg V.bl (decide_eq_decide.mpr (by omega))
        · have y := of_decide_eq_true y
          refine ⟨_, rfl, .inl ⟨rfl, _, SqL.of L3.mi⟩, _, rfl, _, rfl, A.a 11, _, rfl, .inl (SqL.of L3.mi), A.a 12, _, m.mi.length, by rw [List.length_map]; rfl, y, po3.choose_spec, fun e xs2 he => ?_⟩
          obtain ⟨H4, e4, po4, x4⟩ := drawn po3 xs2
          rw [e4]
          have L4 := L3.fr ok x4
          have hx : m.mi[e]? = some m.mi[e] := List.getElem?_eq_getElem he
          obtain ⟨r1, r2⟩ := g.mr _ (List.mem_of_getElem? hx)
          have hxb : m.mi[e] = ((m.mi[e].toNat : Nat) : Int) := (Int.toNat_of_nonneg r1).symm
          have blt : m.mi[e].toNat < A.many := by omega
          generalize m.mi[e].toNat = b at hxb blt
          rw [hxb] at hx
          have hc := g.cnt b blt
          have rel := g.rel hx hc
          generalize (((vals m.tr).count (b : Int) + m.mi.count (b : Int) : Nat) : Int) = c at hc rel
          obtain ⟨g', c0⟩ := rel
          refine ⟨A.a 11, _, (e : Int), e, .int b, rfl, rfl, L4.mi, by omega, by omega, ?_, by rw [List.getElem?_map, hx]; rfl, ?_⟩
          · rw [seqIndex_of (by omega) (by rw [List.length_map]; omega)]
            rfl
          rw [erase_map]
          have x5 : Fr A [11] H4 (upd H4 (A.a 11) (.lst ((m.mi.eraseIdx e).map V.int))) := Fr.upd L4.mi rfl
          have L5 : LawAt A (upd H4 (A.a 11) (.lst ((m.mi.eraseIdx e).map V.int))) m.tr m.us m.cs m.ck (m.mi.eraseIdx e) := L4.setM ok
          generalize upd H4 (A.a 11) (.lst ((m.mi.eraseIdx e).map V.int)) = H5 at x5 L5
          have x35 : Fr A [11, 12] H3 H5 := x4.and x5
          have S5 := S3.fr ok x35
          obtain ⟨dy, ho⟩ := S5.ob
          refine ⟨_, rfl, A.a 0, dy, _, rfl, ho, by kernel_rfl, _, rfl, A, m.cs, m.rs, b, c, rfl, ok, S5, hc, c0, fun H6 S6 x6 => ?_⟩
          have L6 := L5.fr ok x6
          refine ⟨_, rfl, _, rfl, A, m.tr, m.us, m.cs, m.ck, m.mi.eraseIdx e, b, c, rfl, ok, L6, hc, fun H7 L7 x7 => ?_⟩
          have x37 : Fr A [2, 3, 9, 11, 12] H3 H7 := (x35.and x6 (L := [2, 3, 9, 11, 12])).and x7
          refine q { m with cs := m.cs.set b (c - 1), rs := (if c = 1 then m.rs.set b [] else m.rs), mi := m.mi.eraseIdx e } H7 ⟨S6.fr ok x7, R3.fr ok x37, L7, (po4.fr ok x5).fr ok (x6.and x7 (L := [2, 3, 9])), lv3.fr x37⟩ g' ⟨?_, ?_, ?_, ?_⟩
          · have := bd.ud
            show m.ud.length ≤ _
            omega
          · have := bd.us
            show m.us.length ≤ _
            omega
          · show m.tr.length ≤ _
            omega
          · show (m.mi.eraseIdx e).length ≤ _
            have := List.length_eraseIdx_le m.mi e
            omega
        · refine q m H3 ⟨S3, R3, L3, po3, lv3⟩ g ⟨?_, ?_, ?_, ?_⟩
          · have := bd.ud
            omega
          · have := bd.us
            omega
          · omega
          · omega
      refine ⟨rfl, decide (d = 0), ?_, ite2 (fun y => ?_) (fun y => ?_)⟩
      · by_cases z : d = 0
        · rw [decide_eq_true z, dec_eqt (by omega)]
        · rw [decide_eq_false z, dec_ne (by omega)]
      · refine ⟨_, rfl, D, _, rfl, .inl (SqL.of hD3), _, _, rfl, rfl, decide (0 < bs.length), ?_, ite2 (fun y => ?_) (fun y => ?_)⟩
        · rw [List.length_map]
          exact congrArg V.bl (decide_eq_decide.mpr (by omega))
        · have y := of_decide_eq_true y
          refine ⟨_, rfl, _, rfl, _, rfl, D, _, rfl, .inl (SqL.of hD3), A.a 12, _, bs.length, by rw [List.length_map]; rfl, y, po3.choose_spec, fun e xs2 he => ?_⟩
          obtain ⟨H4, e4, po4, x4⟩ := drawn po3 xs2
          rw [e4]
          have hD4 := x4.own newD hD3
          have L4 := L3.fr ok x4
          have S4 := S3.fr ok x4
          have hb : bs[e]? = some bs[e] := List.getElem?_eq_getElem he
          have bm := List.mem_of_getElem? hb
          have bk : bs[e].2 ∈ keys m.tr := perm.mem_iff.mp (List.mem_map.mpr ⟨_, bm, rfl⟩)
          obtain ⟨c, hlk, hc, hc0, blt, _⟩ := g.at_ bk
          have hb2 : (bs.map fun b => V.int (blk m.tr b.2))[e]? = some (V.int (blk m.tr bs[e].2)) := by
            rw [List.getElem?_map, hb]
            rfl
          generalize blk m.tr bs[e].2 = b at hlk hc blt hb2
          obtain ⟨dy, ho⟩ := S4.ob
          refine ⟨_, _, _, _, rfl, rfl, SqL.of hD4, atI_nat hb2, ?_⟩
          refine ⟨_, rfl, A.a 0, dy, _, rfl, ho, by kernel_rfl, _, rfl, A, m.cs, m.rs, b, c, rfl, ok, S4, hc, hc0, fun H5 S5 x5 => ?_⟩
          have L5 := L4.fr ok x5
          refine ⟨_, rfl, _, rfl, _, _, _, _, rfl, rfl, SqL.of L5.hs, at_int hc, _, _, rfl, rfl, _, rfl, _, rfl, A.a 9, _, _, b, rfl, rfl, L5.hs, ixN_nat (by rw [List.length_map]; exact get_lt hc), ?_⟩
          rw [map_set_int]
          have x6 : Fr A [9] H5 (upd H5 (A.a 9) (.lst ((m.cs.set b (c + 1)).map V.int))) := Fr.upd L5.hs rfl
          have L6 : LawAt A (upd H5 (A.a 9) (.lst ((m.cs.set b (c + 1)).map V.int))) m.tr m.us (m.cs.set b (c + 1)) m.ck m.mi := L5.setH ok
          generalize upd H5 (A.a 9) (.lst ((m.cs.set b (c + 1)).map V.int)) = H6 at x6 L6
          refine ⟨_, rfl, .inl ⟨rfl, _, SqL.of L6.mi⟩, _, rfl, A.a 11, _, _, rfl, rfl, L6.mi, by rw [List.length_map]; exact len100 (by omega), ?_⟩
          have em : m.mi.map V.int ++ [V.int b] = (m.mi ++ [(b : Int)]).map V.int := by
            rw [List.map_append]
            rfl
          rw [em]
          have x7 : Fr A [11] H6 (upd H6 (A.a 11) (.lst ((m.mi ++ [(b : Int)]).map V.int))) := Fr.upd L6.mi rfl
          have x37 : Fr A [2, 9, 11, 12] H3 (upd H6 (A.a 11) (.lst ((m.mi ++ [(b : Int)]).map V.int))) := ((x4.and x5 (L := [2, 9, 11, 12])).and x6 (L := [2, 9, 11, 12])).and x7
          refine q { m with cs := m.cs.set b (c + 1), mi := m.mi ++ [(b : Int)] } _ ⟨S5.fr ok (x6.and x7 (L := [9, 11])), R3.fr ok x37, L6.setM ok, po4.fr ok ((x5.and x6 (L := [2, 9, 11])).and x7 (L := [2, 9, 11])), lv3.fr x37⟩ (g.hold hc hc0) ⟨?_, ?_, ?_, ?_⟩
          · have := bd.ud
            show m.ud.length ≤ _
            omega
          · have := bd.us
            show m.us.length ≤ _
            omega
          · show m.tr.length ≤ _
            omega
          · show (m.mi ++ [(b : Int)]).length ≤ _
            rw [List.length_append]
            show m.mi.length + 1 ≤ _
            omega
        · exact els
      · exact iteF els
end
end K23
namespace K23
open PySem L2

/-! ### plain -/
theorem first_zero : ∀ {cs : List Int}, (∃ i : Nat, cs[i]? = some 0) → ∃ i : Nat, cs[i]? = some 0 ∧ ∀ j, j < i → cs[j]? ≠ some 0
  | [], ⟨i, h⟩ => nomatch h
  | c :: cs, ⟨i, h⟩ => by
    by_cases z : c = 0
    · exact ⟨0, by rw [z]; rfl, fun j hj => absurd hj (Nat.not_lt_zero j)⟩
    · cases i with
      | zero => exact absurd (Option.some.inj h) z
      | succ i =>
        obtain ⟨i', h1, h2⟩ := first_zero (cs := cs) ⟨i, h⟩
        refine ⟨i' + 1, h1, fun j hj => ?_⟩
        cases j with
        | zero => exact fun e => z (Option.some.inj e)
        | succ j => exact h2 j (by omega)
theorem beg_unique {sz : Nat} {m : Tab} {ls : Path} {n n' : Nat} (b : IsBeg sz m ls n) (b' : IsBeg sz m ls n') : n = n' := by
  rcases Nat.lt_trichotomy n n' with h | h | h
  · exact absurd (b'.all n h) b.stop
  · exact h
  · exact absurd (b.all n' h) b'.stop
theorem uses_uu {ks ps : List Path} {ud us : Tab} {c : Int} (h : ∀ p ∈ ks, p ∉ ps → look ud p = look us p ∧ (look us p).isSome = true) : ∀ p ∈ ks, look (putAll ud ps c) p = look (putAll us ps c) p ∧ (look (putAll us ps c) p).isSome = true := by
  intro p hp
  rw [look_putAll, look_putAll]
  by_cases e : p ∈ ps
  · rw [if_pos e, if_pos e]
    exact ⟨rfl, rfl⟩
  · rw [if_neg e, if_neg e]
    exact h p hp e
theorem ls_mem {sz : Nat} {m : Tab} {ls : Path} {j n : Nat} (hs : 1 ≤ sz) (t : TreeOk sz m) (hj : 1 ≤ j) (hl : ls.length = j * sz) (hk : ls ∈ keys m) (b : IsBeg sz m ls n) : ls ∈ pres sz ls n := by
  have e : pre sz ls j = ls := by
    unfold pre
    exact List.take_of_length_le (by omega)
  have nj : j ≤ n := by
    rcases Nat.lt_or_ge n j with h | h
    · have := t.closed hs b j h (by omega)
      rw [e, look_isSome.mpr hk] at this
      cases this
    · exact h
  refine mem_pres.mpr ⟨j - 1, by omega, ?_⟩
  rw [show j - 1 + 1 = j by omega, e]
theorem erase_last (l : List Int) (x : Int) : (l ++ [x]).eraseIdx l.length = l := by
  induction l with
  | nil => rfl
  | cons y l ih => exact congrArg (y :: ·) ih
theorem ahd_len {sz : Nat} {ls : Path} (h : sz ≤ ls.length) : (ahd sz ls).length = ls.length - sz := by
  unfold ahd
  rw [List.length_take]
  omega
/-- t[:0 - n] -/
theorem slN {K : PySem.W.Frag} {A : Ad} {H : Hp} {a : Addr} {ls : List Int} {k : Nat} {Q : VK} (h : H a = some (.tup (ls.map V.int))) (hk : 1 ≤ k) (hl : k ≤ ls.length) (q : ∀ c H2, Fr A [] H H2 → H2 c = some (.tup ((ls.take (ls.length - k)).map V.int)) → Q (.ref c) H2) :
    rSlA K (.ref a) none (some (0 - (k : Int))) H Q := by
  have e : HT.sIx (ls.map V.int).length (ls.map V.int).length (some (0 - (k : Int))) = ls.length - k := by
    show (if (0 - (k : Int)) < 0 then ((0 - (k : Int)) + ((ls.map V.int).length : Int)).toNat else _) = _
    rw [if_pos (by omega), List.length_map]
    omega
  refine ⟨a, _, rfl, SqT.of h, fun z => ?_, fun _ p hp => ?_⟩
  · rw [e, List.length_map] at z
    omega
  · refine q p _ (Fr.new hp) ?_
    rw [upd_same]
    unfold cutV
    rw [HT.sIx_none, e, List.drop_zero, Nat.sub_zero, List.map_take]
/-! ### a local list is cleared -/
structure Fx (h : Addr) (H H' : Hp) : Prop where
  keep : ∀ b o, H b = some o → b ≠ h → H' b = some o
  tup : ∀ b xs, H b = some (.tup xs) → H' b = some (.tup xs)
  live : ∀ b o, H b = some o → ∃ o', H' b = some o'
theorem Fx.clear {H : Hp} {h : Addr} {xs ys : List V} (e : H h = some (.lst xs)) : Fx h H (upd H h (.lst ys)) := by
  refine ⟨fun b o k n => by rw [upd_ne n]; exact k, fun b zs k => by rw [upd_ne (ne_of k e fun z => nomatch z)]; exact k, fun b o k => ?_⟩
  by_cases z : b = h
  · exact ⟨_, by rw [z, upd_same]⟩
  · exact ⟨o, by rw [upd_ne z]; exact k⟩
section
variable {A : Ad} {H H' : Hp} {h : Addr}
theorem Fx.at (x : Fx h H H') (n : New A h) (i : Nat) {o : HO} (e : H (A.a i) = some o) (hi : i < 13 := by decide) : H' (A.a i) = some o := x.keep _ _ e (n i hi).symm
theorem StoreAt.fx {C : Addr} {cs : List Int} {rs : List (List (List Int))} (s : StoreAt C A H cs rs) (n : New A h) (x : Fx h H H') : StoreAt C A H' cs rs := by
  obtain ⟨dx, ho⟩ := s.ob
  obtain ⟨ks, h4, h5, h6⟩ := s.ke
  refine ⟨⟨dx, x.at n 0 ho⟩, x.at n 2 s.co, ⟨ks, x.at n 3 h4, fun k hk => ⟨x.tup _ _ (h5 k hk).1, fun r hr => ?_⟩, h6⟩, s.cl, s.rl⟩
  obtain ⟨e, w, h1, h2, h3⟩ := (h5 k hk).2 r hr
  exact ⟨e, w, x.tup _ _ h1, x.tup _ _ h2, x.tup _ _ h3⟩
theorem TreeAt.fx {C : Addr} {pa : List Path} {un ud : Tab} {ck : Int} {y : Int} {ys : List V} (s : TreeAt C A H pa un ud ck) (n : New A h) (e : H h = some (.lst (V.int y :: ys))) (x : Fx h H H') : TreeAt C A H' pa un ud ck := by
  obtain ⟨dx, l, bs, g1, g2, g3, g4, g5⟩ := s.ob
  have ne : l ≠ h := fun z => by
    rw [z, e] at g2
    injection g2 with g2
    injection g2 with g2
    cases bs with
    | nil => exact nomatch g2
    | cons b bs =>
      injection g2 with g2
      exact nomatch g2
  exact ⟨⟨dx, l, bs, x.at n 4 g1, x.keep _ _ g2 ne, fun b hb => x.tup _ _ (g3 b hb), g4, g5⟩, x.at n 5 s.un, x.at n 6 s.ud⟩
theorem LawAt.fx {tr us : Tab} {hs : List Int} {cl : Int} {mi : List Int} (s : LawAt A H tr us hs cl mi) (n : New A h) (x : Fx h H H') : LawAt A H' tr us hs cl mi :=
  ⟨x.at n 1 s.st, x.at n 7 s.tr, x.at n 8 s.us, x.at n 9 s.hs, x.at n 10 s.cl, x.at n 11 s.mi⟩
theorem PoolAt.fx (s : PoolAt A H) (n : New A h) (x : Fx h H H') : PoolAt A H' := let ⟨xs, e⟩ := s; ⟨xs, x.at n 12 e⟩
theorem Live.fx (l : Live A H) (x : Fx h H H') : Live A H' := fun i hi => let ⟨o, e⟩ := l i hi; x.live _ o e
end
/-- the law's own step -/
def LawRes (sz : Nat) (tr : Tab) (ls : Path) (i : Nat) (cs : List Int) (tr1 : Tab) (hs1 : List Int) : Prop :=
  (Ins sz tr ls ∧ tr1 = tr ++ [(ls, (i : Int))] ∧ hs1 = (cs.set i 1).set i (1 + 1)) ∨ (¬ Ins sz tr ls ∧ tr1 = tr ∧ hs1 = cs.set i 1)
def PutM1 (A : Ad) (H : Hp) (a : Addr) (kb : Bool) : L2.St → Hp → Prop := fun σ' H' =>
  σ' = [some (.ref (A.a 12)), some (.ref (A.a 0)), some (.ref (A.a 4)), some (.ref (A.a 1)), some (.ref a), some (.bl kb), some (.ref (A.a 7)), some (.ref (A.a 9)), none, none, none] ∧ PoolAt A H' ∧ Fr A [12] H H'
def PutM2 (A : Ad) (H : Hp) (a : Addr) (kb : Bool) (m : Mir) (ls : Path) (i : Nat) : L2.St → Hp → Prop := fun σ' H' =>
  σ' = [some (.ref (A.a 12)), some (.ref (A.a 0)), some (.ref (A.a 4)), some (.ref (A.a 1)), some (.ref a), some (.bl kb), some (.ref (A.a 7)), some (.ref (A.a 9)), some (.int i), some (.int ((look m.tr ls).getD i)), none] ∧
    Fr A [7, 9] H H' ∧ ∃ tr1 hs1, LawRes A.size m.tr ls i m.cs tr1 hs1 ∧ LawAt A H' tr1 m.us hs1 m.ck m.mi
section
variable {P : Program} {w : World} {K : PySem.W.Frag} {mg : Str → Option Value} {base : Heap} {t : Tx}
def spLPut (t : Tx) : Sp := fun vs H Q _ => ∃ (A : Ad) (m : Mir) (k : Nat) (a : Addr) (kb : Bool) (ls : Path) (j : Nat), vs = [.ref (A.a 12), .ref (A.a 0), .ref (A.a 4), .ref (A.a 1), .ref a, .bl kb] ∧ A.Ok ∧ Wd t A H m ∧ Good A m ∧ Bnd k m ∧ k ≤ 60 ∧ H a = some (.tup (ls.map V.int)) ∧
  1 ≤ j ∧ ls.length = j * A.size ∧ ls.length ≤ 100 ∧ (∃ i : Nat, m.cs[i]? = some 0) ∧ ∀ (m' : Mir) (H' : Hp), Wd t A H' m' → Good A m' → Bnd (k + 1) m' → Q (.bl true) H'
theorem ok_lput (T : Txt K mg t) : FnOk P w K mg base CX0 6 t.lPut t.lPutD ["_law_pool_here", "_law_store", "_law_tree", "_law_state", "_law_path_here", "_law_keeps"] (spLPut t) := by
  refine T.F_lPut.ok scLPut (fun vs H Q E h => ?_) (fun cdv Ar outer s H vs Q E hr h => ?_)
  · obtain ⟨A, m, k, a, kb, ls, j, rfl, _⟩ := h
    rfl
  · obtain ⟨A, m, k, a, kb, ls, j, rfl, ok, W, g, bd, hk, ha, hj, hlj, hl100, hfree, q⟩ := h
    have hu := hu_of hr
    have hr1 : Room 1 _ := hr.mono (by decide)
    have hr2 : Room 2 _ := hr.mono (by decide)
    have hr3 : Room 3 _ := hr.mono (by decide)
    have hr4 : Room 4 _ := hr.mono (by decide)
    refine ⟨_, pss_cons (ps_set (i := 6) scLPut.nd rfl (.inl rfl) (pe_dget hu (pv 3) pe_str (fun _ _ => rfl)))
      (pss_cons (ps_set (i := 7) scLPut.nd rfl (.inl rfl) (pe_dget hu (pv 3) pe_str (fun _ _ => rfl)))
      (C8.pss_cut (ps_if (PW.pt (pw_and (pt_cmp (pc_din hu (pv 4) (pv 6))) (pw_and1 (pt_cmpR op_eq (pe_call (ok_draw T) hr1 (by rfl) T.m_lDraw T.F_lDraw.kp T.b_lDraw .nil pass0 (pa_cons (pv 0) (pa_cons pe_int pa_nil))) pe_int (nomark _)))))
          (pss_cons (ps_expr (pe_call (ok_luses T) hr1 (by rfl) T.m_lUses T.F_lUses.kp T.b_lUses .nil pass0 (pa_cons (pv 3) (pa_cons (pv 4) pa_nil))))
          (pss_one (ps_ret (pe_call (ok_same T 0) hr1 (by rfl) T.m_lSame T.F_lSame.kp T.b_lSame .nil pass0
            (pa_cons (pe_meth (pv 2) T.clT T.m_tPut (ok_tput T) hr4 T.b_tPut .nil pass0 (pa_cons (pe_call (ok_las T) hr2 (by rfl) T.m_lAs T.F_lAs.kp T.b_lAs .nil pass0 (pa_cons (pv 0) (pa_cons (pv 4) pa_nil))) (pa_cons (pe_dget hu (pv 6) (pv 4) (fun _ _ => rfl)) pa_nil)))
            (pa_cons (pe_dget hu (pv 6) (pv 4) (fun _ _ => rfl)) pa_nil)))))) pss_nil)
      (pss_cons (ps_set (i := 8) scLPut.nd rfl (.inl rfl) (pe_call (ok_filled T) hr (by rfl) T.m_lFilled T.F_lFilled.kp T.b_lFilled .nil pass0 (pa_cons (pv 1) (pa_cons (pv 3) (pa_cons (pv 4) pa_nil)))))
      (pss_cons (ps_if (pt_cmpR op_lt (pv 8) pe_int (nomark _)) (pss_one ps_never) pss_nil)
      (pss_cons (ps_set (i := 9) scLPut.nd rfl (.inl rfl) (pe_dget2 hu (pv 6) (pv 4) (pv 8) ⟨rfl, rfl, rfl, rfl⟩))
      (C8.pss_cut (ps_if (PW.pt (pw_and (pt_cmp (pc_dnotin hu (pv 4) (pv 6))) (pw_and1 (PW.pt (pw_or (pt_cmpR op_le (pe_callB cr_lenS (by rfl) T.g_len PySem.boot_len (pa_cons (pv 4) pa_nil)) (pe_dget hu (pv 3) pe_str (fun _ _ => rfl)) (nomark _))
            (pw_or1 (pt_cmp (pc_din hu (pe_slice sl_tupA (pv 4) po_none (po_some (pe_op op_sub pe_int (pe_dget hu (pv 3) pe_str (fun _ _ => rfl))))) (pv 6)))))))))
          (pss_cons (ps_dput hu (pv 6) (pv 4) (pv 8) rfl) (pss_one (ps_asg pe_int (pg_sub (pv 7) (pv 8) set_list)))) pss_nil)
      (pss_cons (ps_expr (pe_call (ok_luses T) hr1 (by rfl) T.m_lUses T.F_lUses.kp T.b_lUses .nil pass0 (pa_cons (pv 3) (pa_cons (pv 4) pa_nil))))
      (pss_cons (ps_set (i := 10) scLPut.nd rfl (.inl rfl) (pe_callTy cr_lstOf (by rfl) T.g_list PyProof.Rows.boot_list (pa_cons (pv 4) pa_nil)))
      (pss_cons (ps_if (pt_not (pt_val (pe_call (ok_same T 0) hr1 (by rfl) T.m_lSame T.F_lSame.kp T.b_lSame .nil pass0
            (pa_cons (pe_meth (pv 2) T.clT T.m_tPut (ok_tput T) hr4 T.b_tPut .nil pass0 (pa_cons (pe_ix ix_list (pe_lst (pa_cons (pv 10) (pa_cons (pv 4) pa_nil))) (pe_call (ok_draw T) hr1 (by rfl) T.m_lDraw T.F_lDraw.kp T.b_lDraw .nil pass0 (pa_cons (pv 0) (pa_cons pe_int pa_nil))) (fun _ _ => rfl)) (pa_cons (pv 8) pa_nil)))
            (pa_cons (pv 9) pa_nil))))) (pss_one ps_never) pss_nil)
      (pss_cons (ps_expr (pe_bm0 PySem.F.plainAttrs_list PySem.F.slot_list_clear PySem.F.type_list_clear mt_clear (pv 10)))
      (pss_cons (ps_if (pt_val (pv 5)) (pss_one (ps_expr (pe_bm PySem.F.plainAttrs_list PySem.F.slot_list_append PySem.F.type_list_append mt_append (pe_dget hu (pv 3) pe_str (fun _ _ => rfl)) (pa_cons (pv 8) pa_nil))))
          (pss_cons (ps_expr (pe_meth (pv 1) T.clS T.m_sRel (ok_rel T) hr3 T.b_sRel .nil pass0 (pa_cons (pv 8) pa_nil))) (pss_one (ps_expr (pe_call (ok_lrel T) hr1 (by rfl) T.m_lRel T.F_lRel.kp T.b_lRel .nil pass0 (pa_cons (pv 3) (pa_cons (pv 8) pa_nil)))))))
      (pss_one (ps_ret pe_bl))))))))))))), ?_⟩
    have s1 := ok.s1
    have m2 := ok.m2
    have bud := bd.ud
    have bus := bd.us
    have btr := bd.tr
    have bmi := bd.mi
    have hsz : A.size ≤ ls.length := by
      rw [hlj]
      exact Nat.le_mul_of_pos_left _ hj
    have hpl : m.pa.length = m.tr.length := by
      have := g.perm.length_eq
      unfold keys at this
      rwa [List.length_map] at this
    have hpne : ∀ p ∈ m.pa, p ≠ [] := fun p hp => g.tok.ne s1 p (g.mem_pa.mp hp)
    refine ⟨_, rfl, A.a 1, _, rfl, dgk W.L.st (st_tree A), ?_⟩
    refine ⟨_, rfl, A.a 1, _, rfl, dgk W.L.st (st_holders A), ?_⟩
    refine ⟨PutM1 A H a kb, ?_, ?_⟩
    · -- a path of the tree is put again
      refine ⟨_, rfl, _, rfl, A.a 7, _, rfl, dget W.L.tr ha, (look m.tr ls).isSome, some_map, ite2 (fun z => ?_) (fun z => ?_)⟩
      · refine ⟨_, rfl, A.a 12, _, 4, rfl, by decide, W.po.choose_spec, fun d xs1 hd => ?_⟩
        obtain ⟨H1, e1, po1, x1⟩ := drawn W.po xs1
        rw [e1]
        refine ⟨rfl, decide (d = 0), ?_, ite2 (fun y => ?_) (fun y => ?_)⟩
        · by_cases y : d = 0
          · rw [decide_eq_true y, dec_eqt (by omega)]
          · rw [decide_eq_false y, dec_ne (by omega)]
        · have lk1 := look_isSome.mp z
          obtain ⟨c, hlk, hc, hc0, blt, _⟩ := g.at_ lk1
          obtain ⟨n, hn⟩ := beg_exists A.size s1 m.tr ls
          have nle := beg_le s1 hn
          have L1 := W.L.fr ok x1
          refine ⟨_, rfl, _, rfl, A, m.tr, m.us, m.cs, m.ck, m.mi, a, ls, n, rfl, ok, L1, x1.tup _ _ ha, by omega, g.tok, hn, by omega, fun H2 L2' x2 => ?_⟩
          have x02 : Fr A [8, 10, 12] H H2 := x1.and x2
          have R2 := W.R.fr ok x02
          obtain ⟨dx, lp, b0, g1, _⟩ := R2.ob
          refine ⟨_, rfl, A.a 4, dx, _, rfl, g1, by kernel_rfl, _, rfl, _, rfl, A, a, ls, rfl, ok, po1.fr ok x2, x02.tup _ _ ha, fun h H3 hh po3 x3 => ?_⟩
          have x03 : Fr A [8, 10, 12] H H3 := x02.and x3
          have L3 := L2'.fr ok x3
          refine ⟨_, rfl, _, rfl, A.a 7, _, rfl, dgetS L3.tr (x03.tup _ _ ha) hlk, A, m.pa, m.tr, m.ud, m.ck, m.cs, m.rs, h, ls, blk m.tr ls, c, rfl, ok, W.lv.fr x03, W.S.fr ok x03, W.R.fr ok x03, hh, hsz, by omega, hc, hc0, by omega, by omega, hpne, by omega, fun cs1 pa1 un1 n' H4 res hn' S4 R4 x4 => ?_⟩
          rcases res with ⟨ins, _⟩ | ⟨_, e5, e6, e7⟩
          · have := ins.1
            rw [this] at z
            cases z
          · rw [e5] at S4
            rw [e6, e7] at R4
            rw [e6] at hn'
            have en := beg_unique hn hn'
            rw [← en] at R4
            have L4 := L3.fr ok x4
            have x04 : Fr A [2, 4, 5, 6, 8, 10, 12] H H4 := x03.and x4
            rw [e6, hlk]
            refine ⟨_, rfl, _, rfl, A.a 7, _, rfl, dgetS L4.tr (x04.tup _ _ ha) hlk, _, _, rfl, Alike.int 0 H4 _, ?_⟩
            refine q { m with ud := putAll m.ud (pres A.size ls n) (m.ck + 1), us := putAll m.us (pres A.size ls n) (m.ck + 1), ck := m.ck + 1 } H4 ⟨S4, R4, L4, po3.fr ok x4, W.lv.fr x04⟩ (g.use (uses_uu fun p hp _ => g.uu p hp)) ⟨?_, ?_, ?_, ?_⟩
            · have := putAll_length (m.ck + 1) (pres A.size ls n) m.ud
              rw [pres_length] at this
              show (putAll m.ud (pres A.size ls n) (m.ck + 1)).length ≤ _
              omega
            · have := putAll_length (m.ck + 1) (pres A.size ls n) m.us
              rw [pres_length] at this
              show (putAll m.us (pres A.size ls n) (m.ck + 1)).length ≤ _
              omega
            · show m.tr.length ≤ _
              omega
            · show m.mi.length ≤ _
              omega
        · exact ⟨rfl, po1, x1⟩
      · exact iteF ⟨rfl, W.po, Fr.refl _ _ _⟩
    · -- a new block
      rintro σ' H1 ⟨rfl, po1, x1⟩
      obtain ⟨i, hi, hlt⟩ := first_zero hfree
      have L1 := W.L.fr ok x1
      have S1 := W.S.fr ok x1
      have R1 := W.R.fr ok x1
      have lv1 := W.lv.fr x1
      refine ⟨_, rfl, _, rfl, _, rfl, A, m.tr, m.us, m.cs, m.ck, m.mi, m.rs, a, ls, i, rfl, ok, lv1, L1, S1, x1.tup _ _ ha, hi, hlt, g.free i hi, fun H2 L2' S2 x2 => ?_⟩
      have x02 : Fr A [2, 3, 9, 12] H H2 := x1.and x2
      have ha2 := x02.tup _ _ ha
      have R2 := R1.fr ok x2
      have po2 := po1.fr ok x2
      have lv2 := lv1.fr x2
      obtain ⟨ilt, nvi, nmi⟩ := g.zero hi
      have icl : i < m.cs.length := get_lt hi
      refine ⟨_, rfl, _, _, rfl, rfl, false, congrArg V.bl (decide_eq_false (by omega)), iteF ?_⟩
      refine ⟨_, rfl, A.a 7, rfl, .inr ⟨_, .inl L2'.tr⟩, _, rfl, _, rfl, _, dget L2'.tr ha2, ?_⟩
      have ev : (((look m.tr ls).map V.int).getD (.int i)) = V.int ((look m.tr ls).getD i) := by
        cases look m.tr ls <;> rfl
      rw [ev]
      refine ⟨PutM2 A H2 a kb m ls i, ?_, ?_⟩
      · have no : ¬ Ins A.size m.tr ls → ∀ H', Fr A [] H2 H' → PutM2 A H2 a kb m ls i [some (.ref (A.a 12)), some (.ref (A.a 0)), some (.ref (A.a 4)), some (.ref (A.a 1)), some (.ref a), some (.bl kb), some (.ref (A.a 7)), some (.ref (A.a 9)), some (.int i), some (.int ((look m.tr ls).getD i)), none] H' :=
          fun z H' x' => ⟨rfl, x'.mono, m.tr, m.cs.set i 1, .inr ⟨z, rfl, rfl⟩, L2'.fr ok x'⟩
        have body : Ins A.size m.tr ls → ∀ H', Fr A [] H2 H' → tSeq (sDPut (tVar 6) (tVar 4) (tVar 8)) (tAsg (tC (.int 2)) (gSub (tVar 7) (tVar 8) rSetL)) { nx := PutM2 A H2 a kb m ls i, rt := Q }
            [some (.ref (A.a 12)), some (.ref (A.a 0)), some (.ref (A.a 4)), some (.ref (A.a 1)), some (.ref a), some (.bl kb), some (.ref (A.a 7)), some (.ref (A.a 9)), some (.int i), some (.int ((look m.tr ls).getD i)), none] H' := by
          intro ins H3 x3
          have L3 := L2'.fr ok x3
          refine ⟨_, rfl, _, rfl, _, rfl, A.a 7, _, rfl, dputP L3.tr (x3.tup _ _ ha2) (len100 (by omega)), ?_⟩
          rw [put_new ins.1]
          have x4 : Fr A [7] H3 (upd H3 (A.a 7) (.dT (enc (m.tr ++ [(ls, (i : Int))])))) := Fr.upd L3.tr rfl
          have L4 : LawAt A (upd H3 (A.a 7) (.dT (enc (m.tr ++ [(ls, (i : Int))])))) (m.tr ++ [(ls, (i : Int))]) m.us (m.cs.set i 1) m.ck m.mi := L3.setT ok
          generalize upd H3 (A.a 7) (.dT (enc (m.tr ++ [(ls, (i : Int))]))) = H4 at x4 L4
          refine ⟨_, rfl, _, rfl, A.a 9, _, _, i, rfl, rfl, L4.hs, ixN_nat (by rw [List.length_map, List.length_set]; exact icl), ?_⟩
          rw [map_set_int]
          have x5 : Fr A [9] H4 (upd H4 (A.a 9) (.lst (((m.cs.set i 1).set i 2).map V.int))) := Fr.upd L4.hs rfl
          exact ⟨rfl, (x3.and x4 (L := [7])).and x5, _, _, .inl ⟨ins, rfl, rfl⟩, L4.setH ok⟩
        refine ⟨_, rfl, _, rfl, A.a 7, _, rfl, dget L2'.tr ha2, !(look m.tr ls).isSome, congrArg (fun z => V.bl (!z)) (Option.isSome_map ..), ?_⟩
        cases hlk : look m.tr ls with
        | some v =>
          rw [hlk] at no
          refine iteF (iteF (no (fun z => ?_) H2 (Fr.refl _ _ _)))
          rw [z.1] at hlk
          cases hlk
        | none =>
          rw [hlk] at no body
          refine iteT ⟨_, rfl, a, _, rfl, .inr (SqT.of ha2), _, rfl, A.a 1, _, rfl, dgk L2'.st (st_size A), _, _, rfl, rfl, decide (ls.length = A.size), ?_, ite2 (fun z => ?_) (fun z => ?_)⟩
          · rw [List.length_map]
            exact congrArg V.bl (decide_eq_decide.mpr (by omega))
          · exact iteT (body ⟨hlk, .inl (of_decide_eq_true z)⟩ H2 (Fr.refl _ _ _))
          · have z' : ¬ ls.length = A.size := of_decide_eq_false (eq_false_of_ne_true z)
            refine ⟨_, rfl, _, rfl, A.a 1, _, rfl, dgk L2'.st (st_size A), _, _, rfl, rfl, _, rfl, slN (A := A) ha2 s1 hsz fun c H3 x3 hc => ?_⟩
            have L3 := L2'.fr ok x3
            refine ⟨_, rfl, A.a 7, _, rfl, dget L3.tr hc, (look m.tr (ahd A.size ls)).isSome, some_map, ite2 (fun y => ?_) (fun y => ?_)⟩
            · exact body ⟨hlk, .inr y⟩ H3 x3
            · refine no (fun q => ?_) H3 x3
              rcases q.2 with q | q
              · exact z' q
              · exact y q
      · rintro σ' H3 ⟨rfl, x3, tr1, hs1, res, L3⟩
        have S3 := S2.fr ok x3
        have R3 := R2.fr ok x3
        have po3 := po2.fr ok x3
        have lv3 := lv2.fr x3
        have ha3 := x3.tup _ _ ha2
        obtain ⟨n, hn⟩ := beg_exists A.size s1 tr1 ls
        have nle := beg_le s1 hn
        have tok1 : TreeOk A.size tr1 := by
          rcases res with ⟨ins, rfl, _⟩ | ⟨_, rfl, _⟩
          · exact g.tok.ins s1 hj hlj ins
          · exact g.tok
        refine ⟨_, rfl, _, rfl, A, tr1, m.us, hs1, m.ck, m.mi, a, ls, n, rfl, ok, L3, ha3, by omega, tok1, hn, by omega, fun H4 L4 x4 => ?_⟩
        have ha4 := x4.tup _ _ ha3
        refine ⟨_, rfl, a, _, rfl, .inr (SqT.of ha4), fun h nh => ?_⟩
        have x5 : Fr A [] H4 (upd H4 h (.lst (ls.map V.int))) := Fr.new nh
        have hh5 : upd H4 h (.lst (ls.map V.int)) h = some (.lst (ls.map V.int)) := upd_same
        have newh : New A h := (lv3.fr x4).new nh
        generalize upd H4 h (.lst (ls.map V.int)) = H5 at x5 hh5
        have x35 : Fr A [8, 10] H3 H5 := x4.and x5
        have R5 := R3.fr ok x35
        obtain ⟨dx, lp, b0, g1, _⟩ := R5.ob
        refine ⟨_, rfl, A.a 4, dx, _, rfl, g1, by kernel_rfl, _, rfl, _, rfl, by show 2 ≤ sizeLine; rw [sizeLine_eq]; decide, fun e ne => ?_⟩
        have x6 : Fr A [] H5 (upd H5 e (.lst [.ref h, .ref a])) := Fr.new ne
        have he6 : upd H5 e (.lst [.ref h, .ref a]) e = some (.lst [.ref h, .ref a]) := upd_same
        have newe : New A e := (lv3.fr x35).new ne
        generalize upd H5 e (.lst [.ref h, .ref a]) = H6 at x6 he6
        have x36 : Fr A [8, 10] H3 H6 := x35.and x6
        have po6 := po3.fr ok x36
        refine ⟨_, rfl, A.a 12, _, 2, rfl, by decide, po6.choose_spec, fun d xs1 hd => ?_⟩
        obtain ⟨H7, e7, po7, x7⟩ := drawn po6 xs1
        rw [e7]
        have x37 : Fr A [8, 10, 12] H3 H7 := x36.and x7
        have he7 := x7.own newe he6
        have hh7 : H7 h = some (.lst (ls.map V.int)) := x7.own newh (x6.own newh hh5)
        have ha7 := x37.tup _ _ ha3
        have S7 := S3.fr ok x37
        have R7 := R3.fr ok x37
        have L7 := (L4.fr ok x5).fr ok (x6.and x7 (L := [12]))
        have lv7 := lv3.fr x37
        have arg : ∃ y, ([V.ref h, V.ref a])[d]? = some (V.ref y) ∧ SeqAt2 H7 y ls := by
          match d, hd with
          | 0, _ => exact ⟨h, rfl, .inl hh7⟩
          | 1, _ => exact ⟨a, rfl, .inr ha7⟩
        obtain ⟨y, hy, hyl⟩ := arg
        refine ⟨e, _, _, _, rfl, rfl, SqL.of he7, atI_nat hy, ?_⟩
        have hci : (m.cs.set i 1)[i]? = some 1 := List.getElem?_set_self icl
        refine ⟨_, rfl, A, m.pa, m.tr, m.ud, m.ck, m.cs.set i 1, m.rs.set i (rowsFor ls A.lets A.size), y, ls, i, 1, rfl, ok, lv7, S7, R7, hyl, hsz, by omega, hci, by decide, by omega, by omega, hpne, by omega, fun cs1 pa1 un1 n' H8 res' hn' S8 R8 x8 => ?_⟩
        have L8 := L7.fr ok x8
        have po8 := po7.fr ok x8
        have lv8 := lv7.fr x8
        have hh8 := x8.own newh hh7
        have g1' := g.take hi (rowsFor ls A.lets A.size)
        -- the mirror, the block still among the law's own
        have mir : ∃ (m2 : Mir) (c : Int), Good A m2 ∧ m2.mi = m.mi ++ [(i : Int)] ∧ StoreAt t.S A H8 m2.cs m2.rs ∧ TreeAt t.T A H8 m2.pa m2.tr m2.ud m2.ck ∧ LawAt A H8 m2.tr m2.us m2.cs m2.ck m.mi ∧ m2.cs[i]? = some c ∧
            m2.ud.length ≤ 100 * (k + 1) ∧ m2.us.length ≤ 100 * (k + 1) ∧ m2.tr.length ≤ k + 1 ∧ (look un1 ls).getD (i : Int) = (look m.tr ls).getD (i : Int) := by
          have bu := putAll_length (m.ck + 1) (pres A.size ls n) m.ud
          have bs := putAll_length (m.ck + 1) (pres A.size ls n) m.us
          rw [pres_length] at bu bs
          rcases res with ⟨ins, rfl, rfl⟩ | ⟨nins, rfl, rfl⟩
          · rcases res' with ⟨_, rfl, rfl, hp, hso⟩ | ⟨nins, _⟩
            · have en := beg_unique hn hn'
              subst en
              have hmem : ls ∈ keys (m.tr ++ [(ls, (i : Int))]) := by
                rw [keys_snoc]
                exact List.mem_append_right _ (List.mem_singleton.mpr rfl)
              have lm := ls_mem s1 tok1 hj hlj hmem hn
              have gi := g1'.ins s1 (ls := ls) (i := i) (j := j) (c := 1) (pa := pa1) (ud := putAll m.ud (pres A.size ls n) (m.ck + 1)) (us := putAll m.us (pres A.size ls n) (m.ck + 1)) (ck := m.ck + 1) hj hlj (by omega) ins hci
                (List.getElem?_set_self (by rw [g.rl]; exact ilt)) nvi hp hso (uses_uu fun p hp hnp => by
                  have hp : p ∈ keys (m.tr ++ [(ls, (i : Int))]) := hp
                  rw [keys_snoc] at hp
                  rcases List.mem_append.mp hp with hp | hp
                  · exact g.uu p hp
                  · rw [List.mem_singleton.mp hp] at hnp
                    exact absurd lm hnp)
              refine ⟨_, 1 + 1, gi, rfl, S8, R8, L8, List.getElem?_set_self (by rw [List.length_set]; exact icl), ?_, ?_, ?_, ?_⟩
              · show (putAll m.ud (pres A.size ls n) (m.ck + 1)).length ≤ _
                omega
              · show (putAll m.us (pres A.size ls n) (m.ck + 1)).length ≤ _
                omega
              · show (m.tr ++ [(ls, (i : Int))]).length ≤ _
                rw [List.length_append]
                show m.tr.length + 1 ≤ _
                omega
              · rw [look_snoc m.tr ls ls i ins.1, if_pos rfl, ins.1]
                rfl
            · exact absurd ins nins
          · rcases res' with ⟨ins, _⟩ | ⟨_, rfl, rfl, rfl⟩
            · exact absurd ins nins
            · have en := beg_unique hn hn'
              subst en
              have gi := g1'.use (ud := putAll m.ud (pres A.size ls n) (m.ck + 1)) (us := putAll m.us (pres A.size ls n) (m.ck + 1)) (ck := m.ck + 1) (uses_uu fun p hp _ => g.uu p hp)
              refine ⟨_, 1, gi, rfl, S8, R8, L8, hci, ?_, ?_, ?_, rfl⟩
              · show (putAll m.ud (pres A.size ls n) (m.ck + 1)).length ≤ _
                omega
              · show (putAll m.us (pres A.size ls n) (m.ck + 1)).length ≤ _
                omega
              · show m.tr.length ≤ _
                omega
        obtain ⟨mm, c, gg, emi, SS, RR, LL, hcc, b1, b2, b3, elk⟩ := mir
        rw [elk]
        refine ⟨_, rfl, _, _, rfl, Alike.int 0 H8 _, true, rfl, iteF ?_⟩
        refine ⟨_, rfl, .inl ⟨rfl, _, SqL.of hh8⟩, h, _, rfl, rfl, hh8, ?_⟩
        have x9 : Fx h H8 (upd H8 h (.lst [])) := Fx.clear hh8
        obtain ⟨y0, ys, eys⟩ : ∃ y0 ys, ls = y0 :: ys := by
          cases ls with
          | nil =>
            have : A.size ≤ 0 := hsz
            omega
          | cons y0 ys => exact ⟨y0, ys, rfl⟩
        have RR9 : TreeAt t.T A (upd H8 h (.lst [])) mm.pa mm.tr mm.ud mm.ck := RR.fx newh (y := y0) (ys := ys.map V.int) (by rw [hh8, eys]; rfl) x9
        have SS9 := SS.fx newh x9
        have LL9 := LL.fx newh x9
        have po9 := po8.fx newh x9
        have lv9 := lv8.fx x9
        generalize upd H8 h (.lst []) = H9 at RR9 SS9 LL9 po9 lv9
        refine ⟨_, rfl, kb, rfl, ite2 (fun z => ?_) (fun z => ?_)⟩
        · refine ⟨_, rfl, A.a 1, _, rfl, dgk LL9.st (st_mine A), .inl ⟨rfl, _, SqL.of LL9.mi⟩, _, rfl, A.a 11, _, _, rfl, rfl, LL9.mi, by rw [List.length_map]; exact len100 (by omega), ?_⟩
          have em : m.mi.map V.int ++ [V.int i] = mm.mi.map V.int := by
            rw [emi, List.map_append]
            rfl
          rw [em]
          have x10 : Fr A [11] H9 (upd H9 (A.a 11) (.lst (mm.mi.map V.int))) := Fr.upd LL9.mi rfl
          refine q mm _ ⟨SS9.fr ok x10, RR9.fr ok x10, LL9.setM ok, po9.fr ok x10, lv9.fr x10⟩ gg ⟨b1, b2, b3, ?_⟩
          rw [emi, List.length_append]
          show m.mi.length + 1 ≤ _
          omega
        · obtain ⟨dy, ho⟩ := SS9.ob
          have hdm : mm.mi[m.mi.length]? = some (i : Int) := by
            rw [emi, List.getElem?_append_right (Nat.le_refl _), Nat.sub_self]
            rfl
          obtain ⟨gr, c0⟩ := gg.rel hdm hcc
          refine ⟨_, rfl, A.a 0, dy, _, rfl, ho, by kernel_rfl, _, rfl, A, mm.cs, mm.rs, i, c, rfl, ok, SS9, hcc, c0, fun H10 S10 x10 => ?_⟩
          refine ⟨_, rfl, _, rfl, A, mm.tr, mm.us, mm.cs, mm.ck, m.mi, i, c, rfl, ok, LL9.fr ok x10, hcc, fun H11 L11 x11 => ?_⟩
          have x911 : Fr A [2, 3, 9] H9 H11 := x10.and x11
          have ee : mm.mi.eraseIdx m.mi.length = m.mi := by
            rw [emi]
            exact erase_last _ _
          rw [ee] at gr
          refine q { mm with cs := mm.cs.set i (c - 1), rs := (if c = 1 then mm.rs.set i [] else mm.rs), mi := m.mi } H11 ⟨S10.fr ok x11, RR9.fr ok x911, L11, po9.fr ok x911, lv9.fr x911⟩ gr ⟨b1, b2, b3, ?_⟩
          show m.mi.length ≤ _
          omega
end
end K23
namespace K23
open PySem L2

theorem sqL_same {K : PySem.W.Frag} {H H' : Hp} {a : Addr} {xs : List V} (h : SqL K H a xs) (k : ∀ b o, H b = some o → H' b = some o) : SqL K H' a xs := by
  rcases h with h | h
  · rcases h with h | ⟨o, h⟩
    · exact .inl (.inl (k _ _ h))
    · exact .inl (.inr ⟨o, k _ _ h⟩)
  · exact .inr h
theorem cmul_c {i j : Int} (h0 : -1000000000000 ≤ j) (h : j ≤ 1000000000000) : CMul i j := .inr ⟨by omega, by omega⟩
theorem cmul_l {i j : Int} (h0 : -1000000000000 ≤ i) (h : i ≤ 1000000000000) : CMul i j := .inl ⟨by omega, by omega⟩
section
variable {P : Program} {w : World} {K : PySem.W.Frag} {mg : Str → Option Value} {base : Heap} {t : Tx}
def spPool (K : PySem.W.Frag) : Sp := fun vs H Q _ => ∃ (a : Addr) (ns : List Int) (m : Nat), vs = [.ref a, .int m] ∧ SqL K H a (ns.map V.int) ∧ ns.length ≤ 63 ∧ m ≤ 2000 ∧ ∀ (p : Addr) (xs : List Int) (H' : Hp), H' p = some (.lst (xs.map V.int)) → Q (.ref p) H'
def PoolM (H : Hp) (a p : Addr) (m i : Nat) (tot c : Int) : L2.St → Hp → Prop := fun σ' H' => ∃ (v5 v6 v7 v8 : Option V) (xs : List Int), σ' = [some (.ref a), some (.int m), some (.ref p), some (.int tot), some (.int c), v5, v6, v7, v8] ∧ H' p = some (.lst (xs.map V.int)) ∧ xs.length ≤ 60 * (i + 1) ∧ ∀ b o, H b = some o → H' b = some o
theorem app_map (xs : List Int) (x : Int) : xs.map V.int ++ [V.int x] = (xs ++ [x]).map V.int := by
  rw [List.map_append]
  rfl
theorem keep_new {H H' : Hp} {p : Addr} {o : HO} (hp : H p = none) (k : ∀ b u, H b = some u → H' b = some u) : ∀ b u, H b = some u → upd H' p o b = some u := fun b u e => by
  rw [upd_ne (ne_of_none e hp)]
  exact k b u e
theorem ok_pool (T : Txt K mg t) : FnOk P w K mg base CX0 1 t.lPool t.lPoolD ["_law_script", "_law_many"] (spPool K) := by
  refine T.F_lPool.ok scLPool (fun vs H Q E h => ?_) (fun cdv Ar outer s H vs Q E hr h => ?_)
  · obtain ⟨a, ns, m, rfl, _⟩ := h
    rfl
  · obtain ⟨a, ns, m, rfl, hs, hn, hm, k⟩ := h
    refine ⟨_, pss_cons (ps_set (i := 2) scLPool.nd rfl (.inl rfl) (pe_lst pa_nil))
      (pss_cons (ps_set (i := 3) scLPool.nd rfl (.inl rfl) pe_int)
      (pss_cons (ps_for PassesOwn.never rfl (pi_list (pv 0)) (pg_name (i := 4) scLPool.nd rfl (.inl rfl))
        (pss_cons (ps_set (i := 5) scLPool.nd rfl (.inl rfl) (pe_callTy cr_int1 (by rfl) T.g_int PyProof.Rows.boot_int (pa_cons (pe_callB call_abs (by rfl) T.g_abs PyProof.Rows.boot_abs (pa_cons (pv 4) pa_nil)) pa_nil)))
        (C8.pss_cut (ps_if (pt_cmpR op_ge (pv 5) (pe_op op_pow pe_int pe_int) (nomark _))
            (pss_one (ps_for PassesOwn.never rfl (pi_range1 (by rfl) T.g_range (pa_cons (pe_callB (call_min2 (by rfl)) (by rfl) T.g_min PyProof.Rows.boot_min (pa_cons pe_int (pa_cons (pe_op op_sub (pv 1) (pe_callB cr_lenS (by rfl) T.g_len PySem.boot_len (pa_cons (pv 2) pa_nil))) pa_nil))) pa_nil)) (pg_name (i := 6) scLPool.nd rfl (.inl rfl))
              (pss_cons (ps_expr (pe_bm PySem.F.plainAttrs_list PySem.F.slot_list_append PySem.F.type_list_append mt_append (pv 2) (pa_cons (pe_op op_mod (pe_callTy cr_int1 (by rfl) T.g_int PyProof.Rows.boot_int (pa_cons (pv 5) pa_nil)) pe_int) pa_nil)))
              (pss_cons (ps_set (i := 5) scLPool.nd rfl (.inl rfl) (pe_op op_fdiv (pv 5) pe_int))
              (pss_one (ps_if (pt_cmpR op_eq (pv 5) pe_int (nomark _)) (pss_one ps_break) pss_nil))))))
            (pss_cons (ps_set (i := 7) scLPool.nd rfl (.inl rfl) (pe_op op_mod (pe_callTy cr_int1 (by rfl) T.g_int PyProof.Rows.boot_int (pa_cons (pe_op op_add (pe_op op_add (pe_op op_mul (pv 4) pe_int) (pe_op op_mul (pe_callB cr_lenS (by rfl) T.g_len PySem.boot_len (pa_cons (pv 2) pa_nil)) pe_int)) pe_int) pa_nil)) pe_int))
            (pss_cons (ps_set (i := 8) scLPool.nd rfl (.inl rfl) (pe_op op_mod (pe_callTy cr_int1 (by rfl) T.g_int PyProof.Rows.boot_int (pa_cons (pe_op op_add (pe_op op_mul (pv 7) (pv 7)) pe_int) pa_nil)) pe_int))
            (pss_cons (ps_expr (pe_bm PySem.F.plainAttrs_list PySem.F.slot_list_append PySem.F.type_list_append mt_append (pv 2) (pa_cons (pe_op op_mod (pe_callTy cr_int1 (by rfl) T.g_int PyProof.Rows.boot_int (pa_cons (pe_op op_fdiv (pv 8) pe_int) pa_nil)) pe_int) pa_nil)))
            (pss_one (ps_expr (pe_bm PySem.F.plainAttrs_list PySem.F.slot_list_append PySem.F.type_list_append mt_append (pv 2) (pa_cons (pe_op op_mod (pe_op op_mod (pe_callTy cr_int1 (by rfl) T.g_int PyProof.Rows.boot_int (pa_cons (pe_op op_add (pe_op op_mul (pv 8) pe_int) (pv 7)) pa_nil)) pe_int) pe_int) pa_nil))))))))
        (pss_one (ps_set (i := 3) scLPool.nd rfl (.inl rfl) (pe_op op_mod (pe_callTy cr_int1 (by rfl) T.g_int PyProof.Rows.boot_int (pa_cons (pe_op op_add (pe_op op_mul (pv 3) pe_int) (pv 4)) pa_nil)) pe_int))))))
      (pss_cons (ps_for PassesOwn.never rfl (pi_range1 (by rfl) T.g_range (pa_cons (pv 1) pa_nil)) (pg_name (i := 6) scLPool.nd rfl (.inl rfl))
        (pss_cons (ps_set (i := 3) scLPool.nd rfl (.inl rfl) (pe_op op_mod (pe_callTy cr_int1 (by rfl) T.g_int PyProof.Rows.boot_int (pa_cons (pe_op op_add (pe_op op_add (pe_op op_mul (pv 3) pe_int) (pe_op op_mul (pv 6) pe_int)) pe_int) pa_nil)) pe_int))
        (pss_one (ps_expr (pe_bm PySem.F.plainAttrs_list PySem.F.slot_list_append PySem.F.type_list_append mt_append (pv 2) (pa_cons (pe_op op_mod (pe_callTy cr_int1 (by rfl) T.g_int PyProof.Rows.boot_int (pa_cons (pe_op op_fdiv (pv 3) pe_int) pa_nil)) pe_int) pa_nil))))))
      (pss_cons (ps_set (i := 2) scLPool.nd rfl (.inl rfl) (pe_slice sl_list (pv 2) po_none (po_some (pv 1))))
      (pss_cons (ps_expr (pe_bm0 PySem.F.plainAttrs_list PySem.F.slot_list_reverse PySem.F.type_list_reverse mt_reverse (pv 2)))
      (pss_one (ps_ret (pv 2)))))))), ?_⟩
    refine ⟨Nat.zero_le _, fun p hp => ?_⟩
    refine ⟨_, rfl, a, rfl, ⟨_, sqL_same hs (fun b o e => by rw [upd_ne (ne_of_none e hp)]; exact e)⟩, ?_⟩
    refine for_list (K := K) (a := a) (xs := ns.map V.int) (fun i σ H' => ∃ (tot : Int) (v4 v5 v6 v7 v8 : Option V) (xs : List Int), σ = [some (.ref a), some (.int m), some (.ref p), some (.int tot), v4, v5, v6, v7, v8] ∧ H' p = some (.lst (xs.map V.int)) ∧ xs.length ≤ 60 * i ∧ ∀ b o, H b = some o → H' b = some o) ?_ ?_ ?_ ?_
    · exact ⟨1, _, _, _, _, _, [], rfl, upd_same, Nat.zero_le _, fun b o e => by rw [upd_ne (ne_of_none e hp)]; exact e⟩
    · rintro i σ H' _ ⟨_, _, _, _, _, _, _, _, _, _, kp⟩
      exact sqL_same hs kp
    · rintro i y σ H1 hi ⟨tot, v4, v5, v6, v7, v8, xs, rfl, h1, hl, kp⟩
      rw [List.getElem?_map] at hi
      obtain ⟨c, hc, rfl⟩ := Option.map_eq_some_iff.mp hi
      have il := get_lt hc
      have el : (xs.map V.int).length = xs.length := List.length_map _
      refine ⟨_, rfl, _, rfl, .inl ⟨_, rfl, ?_⟩⟩
      refine ⟨PoolM H a p m i tot c, ?_, ?_⟩
      · refine ⟨_, rfl, _, _, rfl, rfl, ⟨by decide, by decide, by decide⟩, _, _, rfl, rfl, _, rfl, ite2 (fun z => ?_) (fun z => ?_)⟩
        · -- a large number gives up to sixty
          refine ⟨_, rfl, _, rfl, p, _, rfl, .inl (SqL.of h1), _, _, rfl, rfl, _, _, rfl, _, rfl, ?_, ?_, ?_⟩
          · split <;> omega
          · split <;> omega
          have hn60 : (if (m : Int) - ((xs.map V.int).length : Int) < 60 then (m : Int) - ((xs.map V.int).length : Int) else 60).toNat ≤ 60 := by
            split <;> omega
          generalize (if (m : Int) - ((xs.map V.int).length : Int) < 60 then (m : Int) - ((xs.map V.int).length : Int) else 60).toNat = N at hn60
          refine for_range (fun j σ H' => ∃ (r : Int) (v6 : Option V) (ys : List Int), σ = [some (.ref a), some (.int m), some (.ref p), some (.int tot), some (.int c), some (.int r), v6, v7, v8] ∧ H' p = some (.lst (ys.map V.int)) ∧ ys.length ≤ 60 * i + j ∧ ∀ b o, H b = some o → H' b = some o) ?_ ?_ ?_
          · exact ⟨_, _, xs, rfl, h1, hl, kp⟩
          · rintro j σ H2 hj ⟨r, v6', ys, rfl, h2, hl2, kp2⟩
            refine ⟨_, rfl, .inl ⟨rfl, _, SqL.of h2⟩, _, rfl, .inl ⟨_, rfl, _, _, rfl, rfl, (by show (0 : Int) < 2520; decide), p, _, _, rfl, rfl, h2, by rw [List.length_map]; exact len100 (by omega), ?_⟩⟩
            rw [app_map]
            refine ⟨_, rfl, _, _, rfl, rfl, ⟨by decide, by decide⟩, ?_⟩
            refine ⟨_, rfl, rfl, _, rfl, ite2 (fun z => ?_) (fun z => ?_)⟩
            · exact ⟨_, _, _, _, _, rfl, upd_same, by rw [List.length_append]; show ys.length + 1 ≤ _; omega, keep_new hp kp2⟩
            · exact ⟨_, _, _, rfl, upd_same, by rw [List.length_append]; show ys.length + 1 ≤ _; omega, keep_new hp kp2⟩
          · rintro σ H2 ⟨r, v6', ys, rfl, h2, hl2, kp2⟩
            exact ⟨_, _, _, _, ys, rfl, h2, by omega, kp2⟩
        · -- any other gives two
          refine ⟨_, rfl, _, _, rfl, rfl, cmul_c (by decide) (by decide), _, rfl, p, _, rfl, .inl (SqL.of h1), _, _, rfl, rfl, cmul_c (by decide) (by decide), _, _, rfl, rfl, _, _, rfl, rfl, .inl ⟨_, rfl, _, _, rfl, rfl, (by show (0 : Int) < 2147483647; decide), ?_⟩⟩
          have f0 := Int.emod_nonneg (c * 48271 + ((xs.map V.int).length : Int) * 69621 + 11) (b := 2147483647) (by decide)
          have f1 := Int.emod_lt_of_pos (c * 48271 + ((xs.map V.int).length : Int) * 69621 + 11) (b := 2147483647) (by decide)
          refine ⟨_, rfl, _, rfl, _, _, rfl, rfl, cmul_l (by omega) (by omega), _, _, rfl, rfl, .inl ⟨_, rfl, _, _, rfl, rfl, (by show (0 : Int) < 2147483629; decide), ?_⟩⟩
          refine ⟨_, rfl, .inl ⟨rfl, _, SqL.of h1⟩, _, rfl, _, _, rfl, rfl, ⟨by decide, by decide⟩, .inl ⟨_, rfl, _, _, rfl, rfl, (by show (0 : Int) < 2520; decide), p, _, _, rfl, rfl, h1, by rw [List.length_map]; exact len100 (by omega), ?_⟩⟩
          rw [app_map]
          have hx2 : (xs ++ [((c * 48271 + ((xs.map V.int).length : Int) * 69621 + 11) % 2147483647 * ((c * 48271 + ((xs.map V.int).length : Int) * 69621 + 11) % 2147483647) + 5) % 2147483629 / 7 % 2520]).length ≤ 60 * i + 1 := by
            rw [List.length_append]
            show xs.length + 1 ≤ _
            omega
          generalize (xs ++ [((c * 48271 + ((xs.map V.int).length : Int) * 69621 + 11) % 2147483647 * ((c * 48271 + ((xs.map V.int).length : Int) * 69621 + 11) % 2147483647) + 5) % 2147483629 / 7 % 2520]) = ys at hx2
          refine ⟨_, rfl, .inl ⟨rfl, _, SqL.of upd_same⟩, _, rfl, _, _, rfl, rfl, cmul_c (by decide) (by decide), _, rfl, _, _, rfl, rfl, .inl ⟨_, rfl, _, _, rfl, rfl, (by show (0 : Int) < 2147483587; decide), _, _, rfl, rfl, (by show (0 : Int) < 2520; decide), p, _, _, rfl, rfl, upd_same, by rw [List.length_map]; exact len100 (by omega), ?_⟩⟩
          rw [app_map]
          exact ⟨_, _, _, _, _, rfl, upd_same, by rw [List.length_append]; show ys.length + 1 ≤ _; omega, keep_new hp (keep_new hp kp)⟩
      · rintro σ' H2 ⟨v5', v6', v7', v8', ys, rfl, h2, hl2, kp2⟩
        exact ⟨_, rfl, _, _, rfl, rfl, cmul_c (by decide) (by decide), _, rfl, _, _, rfl, rfl, .inl ⟨_, rfl, _, _, rfl, rfl, (by show (0 : Int) < 1000003; decide), _, _, _, _, _, _, ys, rfl, h2, hl2, kp2⟩⟩
    · rintro σ H1 ⟨tot, v4, v5, v6, v7, v8, xs, rfl, h1, hl, kp⟩
      rw [List.length_map] at hl
      refine ⟨_, rfl, _, rfl, by omega, by omega, ?_⟩
      rw [Int.toNat_natCast]
      refine for_range (fun j σ H' => ∃ (tot : Int) (v6 : Option V) (ys : List Int), σ = [some (.ref a), some (.int m), some (.ref p), some (.int tot), v4, v5, v6, v7, v8] ∧ H' p = some (.lst (ys.map V.int)) ∧ ys.length ≤ 3780 + j) ?_ ?_ ?_
      · exact ⟨_, _, xs, rfl, h1, by omega⟩
      · rintro j σ H2 hj ⟨tot', v6', ys, rfl, h2, hl2⟩
        refine ⟨_, rfl, _, _, rfl, rfl, cmul_c (by decide) (by decide), _, rfl, _, _, rfl, rfl, cmul_c (by decide) (by decide), _, _, rfl, rfl, _, _, rfl, rfl, .inl ⟨_, rfl, _, _, rfl, rfl, (by show (0 : Int) < 2147483647; decide), ?_⟩⟩
        refine ⟨_, rfl, .inl ⟨rfl, _, SqL.of h2⟩, _, rfl, _, _, rfl, rfl, ⟨by decide, by decide⟩, .inl ⟨_, rfl, _, _, rfl, rfl, (by show (0 : Int) < 2520; decide), p, _, _, rfl, rfl, h2, by rw [List.length_map]; exact len100 (by omega), ?_⟩⟩
        rw [app_map]
        exact ⟨_, _, _, rfl, upd_same, by rw [List.length_append]; show ys.length + 1 ≤ _; omega⟩
      · rintro σ H2 ⟨tot', v6', ys, rfl, h2, hl2⟩
        refine ⟨_, rfl, _, rfl, _, rfl, p, _, rfl, SqL.of h2, fun q nq => ?_⟩
        rw [cut_take, ← List.map_take]
        refine ⟨_, rfl, .inl ⟨rfl, _, SqL.of upd_same⟩, q, _, rfl, rfl, upd_same, _, rfl, ?_⟩
        rw [← List.map_reverse]
        exact k q _ _ upd_same
end
end K23
namespace K23
open PySem L2

def stk (sz many lets : Nat) (a7 a8 a9 a10 a11 : Addr) : List (L2.Key × V) := [(.inr "size", .int sz), (.inr "many", .int many), (.inr "letters", .int lets), (.inr "tree", .ref a7), (.inr "used", .ref a8), (.inr "holders", .ref a9), (.inr "clock", .ref a10), (.inr "mine", .ref a11)]
theorem stk_merge (sz many lets : Nat) (a7 a8 a9 a10 a11 : Addr) : mergeK [] (stk sz many lets a7 a8 a9 a10 a11) = stk sz many lets a7 a8 a9 a10 a11 := by kernel_rfl
theorem up {H : Hp} {p q : Addr} {o u : HO} (n : H p = none) (e : H q = some u) : upd H p o q = some u := by
  rw [upd_ne (ne_of_none e n)]
  exact e
section
variable {P : Program} {w : World} {K : PySem.W.Frag} {mg : Str → Option Value} {base : Heap} {t : Tx}
def spNew : Sp := fun vs H Q _ => ∃ (po : Addr) (xs : List Int) (sz : Nat), vs = [.ref po, .int sz] ∧ H po = some (.lst (xs.map V.int)) ∧
  ∀ (many lets : Nat) (st a7 a8 a9 a10 a11 : Addr) (xs' : List Int) (H' : Hp), 1 ≤ many → many ≤ 20 → 1 ≤ lets → lets ≤ 12 → H' st = some (.dK (stk sz many lets a7 a8 a9 a10 a11)) → H' a7 = some (.dT []) → H' a8 = some (.dT []) → H' a9 = some (.lst []) → H' a10 = some (.lst [.int 0]) → H' a11 = some (.lst []) →
    H' po = some (.lst (xs'.map V.int)) → [a11, a10, a9, a8, a7, st, po].Nodup → Q (.ref st) H'
theorem ok_new (T : Txt K mg t) : FnOk P w K mg base CX0 2 t.lNew t.lNewD ["_law_pool_here", "_law_size"] spNew := by
  refine T.F_lNew.ok scLNew (fun vs H Q E h => ?_) (fun cdv Ar outer s H vs Q E hr h => ?_)
  · obtain ⟨po, xs, sz, rfl, _⟩ := h
    rfl
  · obtain ⟨po, xs, sz, rfl, hp, k⟩ := h
    refine ⟨_, pss_cons (ps_set (i := 2) scLNew.nd rfl (.inl rfl) (pe_ix ix_list
          (pe_lst (pa_cons (pe_op op_add pe_int (pe_call (ok_draw T) hr (by rfl) T.m_lDraw T.F_lDraw.kp T.b_lDraw .nil pass0 (pa_cons (pv 0) (pa_cons pe_int pa_nil)))) (pa_cons pe_int pa_nil)))
          (pe_callTy cr_int1 (by rfl) T.g_int PyProof.Rows.boot_int (pa_cons (pe_cmpR op_eq (pe_call (ok_draw T) hr (by rfl) T.m_lDraw T.F_lDraw.kp T.b_lDraw .nil pass0 (pa_cons (pv 0) (pa_cons pe_int pa_nil))) pe_int (nomark _)) pa_nil)) (fun _ _ => rfl)))
      (pss_one (ps_ret (pe_disp (pps_cons pe_str (pv 1) (pps_cons pe_str (pv 2) (pps_cons pe_str (pe_ix ix_list (pe_lst (pa_cons pe_int (pa_cons pe_int (pa_cons pe_int (pa_cons pe_int (pa_cons pe_int (pa_cons pe_int pa_nil)))))))
            (pe_call (ok_draw T) hr (by rfl) T.m_lDraw T.F_lDraw.kp T.b_lDraw .nil pass0 (pa_cons (pv 0) (pa_cons pe_int pa_nil))) (fun _ _ => rfl))
          (pps_cons pe_str pe_dnewT (pps_cons pe_str pe_dnewT (pps_cons pe_str (pe_lst pa_nil) (pps_cons pe_str (pe_lst (pa_cons pe_int pa_nil)) (pps_cons pe_str (pe_lst pa_nil) pps_nil)))))))) rfl rfl (by simp) (by decide)))), ?_⟩
    refine ⟨_, rfl, po, xs, 12, rfl, by decide, hp, fun d1 xs1 hd1 => ?_⟩
    have p1 : upd H po (.lst (xs1.map V.int)) po = some (.lst (xs1.map V.int)) := upd_same
    generalize upd H po (.lst (xs1.map V.int)) = H1 at p1
    refine ⟨_, _, rfl, rfl, by show 2 ≤ sizeLine; rw [sizeLine_eq]; decide, fun e1 ne1 => ?_⟩
    have p2 := up (o := .lst [.int (1 + (d1 : Int)), .int 20]) ne1 p1
    have q2 : upd H1 e1 (.lst [.int (1 + (d1 : Int)), .int 20]) e1 = some (.lst [.int (1 + (d1 : Int)), .int 20]) := upd_same
    have n1 : e1 ≠ po := (ne_of_none p1 ne1).symm
    generalize upd H1 e1 (.lst [.int (1 + (d1 : Int)), .int 20]) = H2 at p2 q2
    refine ⟨_, rfl, po, xs1, 8, rfl, by decide, p2, fun d2 xs2 hd2 => ?_⟩
    have p3 : upd H2 po (.lst (xs2.map V.int)) po = some (.lst (xs2.map V.int)) := upd_same
    have q3 := (upd_ne (H := H2) (o := .lst (xs2.map V.int)) n1).trans q2
    generalize upd H2 po (.lst (xs2.map V.int)) = H3 at p3 q3
    refine ⟨rfl, .inr ⟨decide (d2 = 0), ?_, ?_⟩⟩
    · by_cases z : d2 = 0
      · rw [decide_eq_true z, dec_eqt (by omega)]
      · rw [decide_eq_false z, dec_ne (by omega)]
    obtain ⟨many, hm1, hm2, hat⟩ : ∃ many : Nat, 1 ≤ many ∧ many ≤ 20 ∧ atI [V.int (1 + (d1 : Int)), V.int 20] (if decide (d2 = 0) = true then 1 else 0) = some (.int (many : Int)) := by
      by_cases z : d2 = 0
      · rw [if_pos (decide_eq_true z)]
        exact ⟨20, by decide, by decide, rfl⟩
      · rw [if_neg (by rw [decide_eq_false z]; exact Bool.false_ne_true)]
        refine ⟨1 + d1, by omega, by omega, ?_⟩
        have e : ((1 + d1 : Nat) : Int) = 1 + (d1 : Int) := by omega
        rw [e]
        rfl
    refine ⟨e1, _, _, _, rfl, rfl, SqL.of q3, hat, ?_⟩
    -- the dict
    intro st nst
    have p4 := up (o := .dK []) nst p3
    have s4 : upd H3 st (.dK []) st = some (.dK []) := upd_same
    have n2 : st ≠ po := (ne_of_none p3 nst).symm
    generalize upd H3 st (.dK []) = H4 at p4 s4
    refine ⟨_, rfl, _, rfl, ?_⟩
    refine ⟨by show 6 ≤ sizeLine; rw [sizeLine_eq]; decide, fun e2 ne2 => ?_⟩
    have p5 := up (o := .lst [.int 1, .int 2, .int 2, .int 3, .int 3, .int 12]) ne2 p4
    have s5 := up (o := .lst [.int 1, .int 2, .int 2, .int 3, .int 3, .int 12]) ne2 s4
    have q5 : upd H4 e2 (.lst [.int 1, .int 2, .int 2, .int 3, .int 3, .int 12]) e2 = some (.lst [.int 1, .int 2, .int 2, .int 3, .int 3, .int 12]) := upd_same
    have n3 : e2 ≠ po := (ne_of_none p4 ne2).symm
    generalize upd H4 e2 (.lst [.int 1, .int 2, .int 2, .int 3, .int 3, .int 12]) = H5 at p5 s5 q5
    refine ⟨_, rfl, po, xs2, 6, rfl, by decide, p5, fun d3 xs3 hd3 => ?_⟩
    have p6 : upd H5 po (.lst (xs3.map V.int)) po = some (.lst (xs3.map V.int)) := upd_same
    have q6 := (upd_ne (H := H5) (o := .lst (xs3.map V.int)) n3).trans q5
    have s6 := (upd_ne (H := H5) (o := .lst (xs3.map V.int)) n2).trans s5
    generalize upd H5 po (.lst (xs3.map V.int)) = H6 at p6 q6 s6
    obtain ⟨lets, hl1, hl2, hlat⟩ : ∃ lets : Nat, 1 ≤ lets ∧ lets ≤ 12 ∧ atI [V.int 1, V.int 2, V.int 2, V.int 3, V.int 3, V.int 12] (d3 : Int) = some (.int (lets : Int)) := by
      match d3, hd3 with
      | 0, _ => exact ⟨1, by decide, by decide, rfl⟩
      | 1, _ => exact ⟨2, by decide, by decide, rfl⟩
      | 2, _ => exact ⟨2, by decide, by decide, rfl⟩
      | 3, _ => exact ⟨3, by decide, by decide, rfl⟩
      | 4, _ => exact ⟨3, by decide, by decide, rfl⟩
      | 5, _ => exact ⟨12, by decide, by decide, rfl⟩
    refine ⟨e2, _, _, _, rfl, rfl, SqL.of q6, hlat, ?_⟩
    intro a7 na7
    have p7 := up (o := .dT []) na7 p6
    have s7 := up (o := .dT []) na7 s6
    have t7 : upd H6 a7 (.dT []) a7 = some (.dT []) := upd_same
    have m7 : ∀ {q : Addr} {u : HO}, H6 q = some u → a7 ≠ q := fun e => (ne_of_none e na7).symm
    have m71 := m7 p6
    have m72 := m7 s6
    clear m7
    generalize upd H6 a7 (.dT []) = H7 at p7 s7 t7
    intro a8 na8
    have p8 := up (o := .dT []) na8 p7
    have s8 := up (o := .dT []) na8 s7
    have t8 := up (o := .dT []) na8 t7
    have u8 : upd H7 a8 (.dT []) a8 = some (.dT []) := upd_same
    have m81 : a8 ≠ po := (ne_of_none p7 na8).symm
    have m82 : a8 ≠ st := (ne_of_none s7 na8).symm
    have m83 : a8 ≠ a7 := (ne_of_none t7 na8).symm
    generalize upd H7 a8 (.dT []) = H8 at p8 s8 t8 u8
    refine ⟨Nat.zero_le _, fun a9 na9 => ?_⟩
    have p9 := up (o := .lst []) na9 p8
    have s9 := up (o := .lst []) na9 s8
    have t9 := up (o := .lst []) na9 t8
    have u9 := up (o := .lst []) na9 u8
    have v9 : upd H8 a9 (.lst []) a9 = some (.lst []) := upd_same
    have m91 : a9 ≠ po := (ne_of_none p8 na9).symm
    have m92 : a9 ≠ st := (ne_of_none s8 na9).symm
    have m93 : a9 ≠ a7 := (ne_of_none t8 na9).symm
    have m94 : a9 ≠ a8 := (ne_of_none u8 na9).symm
    generalize upd H8 a9 (.lst []) = H9 at p9 s9 t9 u9 v9
    refine ⟨by show 1 ≤ sizeLine; rw [sizeLine_eq]; decide, fun a10 na10 => ?_⟩
    have p10 := up (o := .lst [.int 0]) na10 p9
    have s10 := up (o := .lst [.int 0]) na10 s9
    have t10 := up (o := .lst [.int 0]) na10 t9
    have u10 := up (o := .lst [.int 0]) na10 u9
    have v10 := up (o := .lst [.int 0]) na10 v9
    have w10 : upd H9 a10 (.lst [.int 0]) a10 = some (.lst [.int 0]) := upd_same
    have m101 : a10 ≠ po := (ne_of_none p9 na10).symm
    have m102 : a10 ≠ st := (ne_of_none s9 na10).symm
    have m103 : a10 ≠ a7 := (ne_of_none t9 na10).symm
    have m104 : a10 ≠ a8 := (ne_of_none u9 na10).symm
    have m105 : a10 ≠ a9 := (ne_of_none v9 na10).symm
    generalize upd H9 a10 (.lst [.int 0]) = H10 at p10 s10 t10 u10 v10 w10
    refine ⟨Nat.zero_le _, fun a11 na11 => ?_⟩
    have p11 := up (o := .lst []) na11 p10
    have s11 := up (o := .lst []) na11 s10
    have t11 := up (o := .lst []) na11 t10
    have u11 := up (o := .lst []) na11 u10
    have v11 := up (o := .lst []) na11 v10
    have w11 := up (o := .lst []) na11 w10
    have x11 : upd H10 a11 (.lst []) a11 = some (.lst []) := upd_same
    have m111 : a11 ≠ po := (ne_of_none p10 na11).symm
    have m112 : a11 ≠ st := (ne_of_none s10 na11).symm
    have m113 : a11 ≠ a7 := (ne_of_none t10 na11).symm
    have m114 : a11 ≠ a8 := (ne_of_none u10 na11).symm
    have m115 : a11 ≠ a9 := (ne_of_none v10 na11).symm
    have m116 : a11 ≠ a10 := (ne_of_none w10 na11).symm
    generalize upd H10 a11 (.lst []) = H11 at p11 s11 t11 u11 v11 w11 x11
    refine ⟨s11, stk sz many lets a7 a8 a9 a10 a11, rfl, (by show 8 ≤ 15; decide), ?_⟩
    rw [stk_merge]
    refine k many lets st a7 a8 a9 a10 a11 xs3 _ hm1 hm2 hl1 hl2 upd_same ?_ ?_ ?_ ?_ ?_ ?_ ?_
    · rw [upd_ne m72]; exact t11
    · rw [upd_ne m82]; exact u11
    · rw [upd_ne m92]; exact v11
    · rw [upd_ne m102]; exact w11
    · rw [upd_ne m112]; exact x11
    · rw [upd_ne n2.symm]; exact p11
    · simp [n2, m71, m72, m81, m82, m83, m91, m92, m93, m94, m101, m102, m103, m104, m105, m111, m112, m113, m114, m115, m116]
end
end K23
namespace K23
open PySem L2

def pos13 (i : Nat) : Nat := [5, 11, 4, 3, 2, 1, 0, 10, 9, 8, 7, 6, 12].getD i 0
theorem pos13_inj : ∀ i, i < 13 → ∀ j, j < 13 → pos13 i = pos13 j → i = j := by decide
theorem pos13_lt : ∀ i, i < 13 → pos13 i < 13 := by decide
theorem mkAd {x0 st c k x4 un ud a7 a8 a9 a10 a11 po : Addr} {many sz lets : Nat} (nd : [ud, un, x4, k, c, x0, a11, a10, a9, a8, a7, st, po].Nodup) (m1 : 1 ≤ many) (m2 : many ≤ 20) (s1 : 1 ≤ sz) (s2 : sz ≤ 8) (l1 : 1 ≤ lets) (l2 : lets ≤ 12) :
    ∃ A : Ad, A.Ok ∧ (x0 = A.a 0 ∧ st = A.a 1 ∧ c = A.a 2 ∧ k = A.a 3 ∧ x4 = A.a 4 ∧ un = A.a 5 ∧ ud = A.a 6 ∧ a7 = A.a 7 ∧ a8 = A.a 8 ∧ a9 = A.a 9 ∧ a10 = A.a 10 ∧ a11 = A.a 11 ∧ po = A.a 12) ∧ many = A.many ∧ sz = A.size ∧ lets = A.lets ∧
      ∀ p, p ∉ [ud, un, x4, k, c, x0, a11, a10, a9, a8, a7, st, po] → New A p := by
  let C := [ud, un, x4, k, c, x0, a11, a10, a9, a8, a7, st, po]
  have at_ : ∀ i, i < 13 → C[pos13 i]? = some (C.getD (pos13 i) 0) := fun i hi => by
    have h : pos13 i < C.length := pos13_lt i hi
    rw [List.getD_eq_getElem?_getD, List.getElem?_eq_getElem h]
    rfl
  refine ⟨⟨fun i => C.getD (pos13 i) 0, many, sz, lets⟩, ⟨fun i j hi hj e => ?_, m1, m2, s1, s2, l1, l2⟩, ⟨rfl, rfl, rfl, rfl, rfl, rfl, rfl, rfl, rfl, rfl, rfl, rfl, rfl⟩, rfl, rfl, rfl, fun p hp i hi e => hp ?_⟩
  · have e : C.getD (pos13 i) 0 = C.getD (pos13 j) 0 := e
    have h : pos13 i < C.length := pos13_lt i hi
    have e2 : C[pos13 i]? = C[pos13 j]? := by rw [at_ i hi, at_ j hj, e]
    exact pos13_inj i hi j hj ((List.getElem?_inj h nd).mp e2)
  · rw [e]
    exact List.mem_of_getElem? (at_ i hi)
theorem not_live {H : Hp} {L : List Addr} {p : Addr} (l : ∀ q ∈ L, ∃ o, H q = some o) (h : H p = none) : p ∉ L := fun z => by
  obtain ⟨o, e⟩ := l p z
  rw [h] at e
  cases e
def mir0 (many : Nat) : Mir := ⟨[], [], [], [], 0, List.replicate many 0, List.replicate many [], []⟩
theorem good0 (A : Ad) : Good A (mir0 A.many) := by
  refine ⟨⟨List.nodup_nil, fun p hp => (nomatch hp), fun p hp => (nomatch hp)⟩, List.Perm.refl _, List.Pairwise.nil, fun p hp => (nomatch hp), fun p hp => (nomatch hp), List.length_replicate, List.length_replicate, List.nodup_nil, fun v hv => (nomatch hv), fun v hv => (nomatch hv), fun b hb => ?_, fun p v h => (nomatch h), fun b hb => ?_⟩
  · show (List.replicate A.many (0 : Int))[b]? = _
    rw [List.getElem?_replicate, if_pos hb]
    rfl
  · have lt : b < A.many := by
      have := get_lt hb
      rwa [show (mir0 A.many).cs = List.replicate A.many 0 from rfl, List.length_replicate] at this
    show (List.replicate A.many ([] : List (List Int)))[b]? = _
    rw [List.getElem?_replicate, if_pos lt]
theorem bnd0 (n : Nat) : Bnd 0 (mir0 n) := ⟨Nat.le_refl _, Nat.le_refl _, Nat.le_refl _, Nat.le_refl _⟩
theorem Bnd.mono {k k' : Nat} {m : Mir} (b : Bnd k m) (h : k ≤ k') : Bnd k' m := ⟨by have := b.ud; omega, by have := b.us; omega, by have := b.tr; omega, by have := b.mi; omega⟩
theorem Wd.fr0 {t : Tx} {A : Ad} {H H' : Hp} {m : Mir} (W : Wd t A H m) (ok : A.Ok) (x : Fr A [] H H') : Wd t A H' m := ⟨W.S.fr ok x, W.R.fr ok x, W.L.fr ok x, W.po.fr ok x, W.lv.fr x⟩
theorem Wd.frP {t : Tx} {A : Ad} {H H' : Hp} {m : Mir} (W : Wd t A H m) (ok : A.Ok) (x : Fr A [12] H H') (po : PoolAt A H') : Wd t A H' m := ⟨W.S.fr ok x, W.R.fr ok x, W.L.fr ok x, po, W.lv.fr x⟩
/-- t + u of tuples of ints -/
theorem catT {K : PySem.W.Frag} {A : Ad} {H : Hp} {a b : Addr} {p ls : List Int} {Q : VK} (ha : H a = some (.tup (p.map V.int))) (hb : H b = some (.tup (ls.map V.int))) (hl : p.length + ls.length ≤ 1000) (q : ∀ c H', Fr A [] H H' → H' c = some (.tup ((p ++ ls).map V.int)) → Q (.ref c) H') :
    rCatA K (.ref a) (.ref b) H Q := by
  refine ⟨a, b, _, _, rfl, rfl, SqT.of ha, SqT.of hb, ?_, fun e => ?_, fun _ e => ?_, fun _ _ c nc => ?_⟩
  · rw [List.length_map, List.length_map, sizeLine_eq]
    omega
  · have e' : p = [] := List.map_eq_nil_iff.mp e
    refine q b H (Fr.refl _ _ _) ?_
    rw [e']
    exact hb
  · have e' : ls = [] := List.map_eq_nil_iff.mp e
    refine q a H (Fr.refl _ _ _) ?_
    rw [e', List.append_nil]
    exact ha
  · refine q c _ (Fr.new nc) ?_
    rw [upd_same, List.map_append]
theorem inV_zero {cs : List Int} (h : inV (.int 0) (cs.map V.int) = true) : ∃ i : Nat, cs[i]? = some 0 := by
  unfold inV at h
  obtain ⟨x, hx, e⟩ := List.any_eq_true.mp h
  obtain ⟨c, hc, rfl⟩ := List.mem_map.mp hx
  have : c = 0 := by
    have e' : (c == 0) = true := by first | exact e | (rw [← e]; rfl) | simpa [eqV, eq_comm] using e
    exact beq_iff_eq.mp e'
  rw [this] at hc
  obtain ⟨i, hi, he⟩ := List.mem_iff_getElem.mp hc
  exact ⟨i, by rw [List.getElem?_eq_getElem hi, he]⟩
end K23
namespace K23
open PySem L2

section
variable {P : Program} {w : World} {K : PySem.W.Frag} {mg : Str → Option Value} {base : Heap} {t : Tx}
def spLaw (K : PySem.W.Frag) : Sp := fun vs H Q _ => ∃ (a : Addr) (ns : List Int), vs = [.ref a] ∧ SqL K H a (ns.map V.int) ∧ ns.length ≤ 63 ∧ ∀ H', Q (.bl true) H'
/-- behind each turn -/
def LawM (t : Tx) (a : Addr) (A : Ad) (k : Nat) : L2.St → Hp → Prop := fun σ' H' => ∃ (v3 v6 v7 : Option V) (m : Mir), σ' = [some (.ref a), some (.ref (A.a 12)), some (.ref (A.a 1)), v3, some (.ref (A.a 0)), some (.ref (A.a 4)), v6, v7] ∧ Wd t A H' m ∧ Good A m ∧ Bnd k m
theorem ok_law (T : Txt K mg t) : FnOk P w K mg base CX0 12 t.law t.lawD ["_law_script"] (spLaw K) := by
  refine T.F_law.ok scLaw (fun vs H Q E h => ?_) (fun cdv Ar outer s H vs Q E hr h => ?_)
  · obtain ⟨a, ns, rfl, _⟩ := h
    rfl
  · obtain ⟨a, ns, rfl, hs, hn, q⟩ := h
    have hu := hu_of hr
    have hr1 : Room 1 _ := hr.mono (by decide)
    have hr2 : Room 2 _ := hr.mono (by decide)
    have hr3 : Room 3 _ := hr.mono (by decide)
    have hr4 : Room 4 _ := hr.mono (by decide)
    have hr5 : Room 5 _ := hr.mono (by decide)
    have hr6 : Room 6 _ := hr.mono (by decide)
    refine ⟨_, (pss_cons (ps_set (i := 1) scLaw.nd rfl (.inl rfl) (pe_call (ok_pool T) hr1 (by rfl) T.m_lPool T.F_lPool.kp T.b_lPool .nil pass0 (pa_cons (pv 0) (pa_cons pe_int pa_nil)))) (pss_cons (ps_set (i := 2) scLaw.nd rfl (.inl rfl) (pe_call (ok_new T) hr2 (by rfl) T.m_lNew T.F_lNew.kp T.b_lNew .nil pass0 (pa_cons (pv 1) (pa_cons (pe_ix ix_list (pe_lst (pa_cons pe_int (pa_cons pe_int (pa_cons pe_int (pa_cons pe_int (pa_cons pe_int (pa_cons pe_int (pa_cons pe_int pa_nil)))))))) (pe_call (ok_draw T) hr1 (by rfl) T.m_lDraw T.F_lDraw.kp T.b_lDraw .nil pass0 (pa_cons (pv 1) (pa_cons pe_int pa_nil))) (fun _ _ => rfl)) pa_nil)))) (pss_cons (ps_expr (pe_bm PySem.F.plainAttrs_list PySem.F.slot_list_extend PySem.F.type_list_extend mt_extend (pe_dget hu (pv 2) pe_str (fun _ _ => rfl)) (pa_cons (pe_lc (own := [("_law_k", 3)]) (g := gName 3) (tt := tYes) (by rfl) scLaw.nd (pi_range1 (by rfl) T.g_range (pa_cons (pe_dget hu (pv 2) pe_str (fun _ _ => rfl)) pa_nil)) (blkOk_by (own := [("_law_k", 3)]) (N := ["_law_script", "_law_pool_here", "_law_state", "_law_k", "_law_store", "_law_tree", "_law_way", "_law_path_here"]) (sc := defScope sLaw) (by decide +kernel)) (fun _ _ _ _ _ => pg_name (i := 3) scLaw.nd rfl (Or.inl rfl)) (fun _ _ _ _ _ => pts_nil) (fun _ _ _ _ _ => pe_int)) pa_nil))) (pss_cons (ps_set (i := 4) scLaw.nd rfl (.inl rfl) (pe_make T.m_sInit (ok_sinit T) hr3 (by rfl) T.mgS T.b_sInit .nil pass0 (pa_cons (pe_dget hu (pv 2) pe_str (fun _ _ => rfl)) (pa_cons (pe_dget hu (pv 2) pe_str (fun _ _ => rfl)) pa_nil)))) (pss_cons (ps_set (i := 5) scLaw.nd rfl (.inl rfl) (pe_make T.m_tInit (ok_tinit T) hr2 (by rfl) T.mgT T.b_tInit .nil pass0 (pa_cons (pv 4) pa_nil))) (pss_cons (ps_for PassesOwn.never rfl (pi_range1 (by rfl) T.g_range (pa_cons (pe_call (ok_draw T) hr1 (by rfl) T.m_lDraw T.F_lDraw.kp T.b_lDraw .nil pass0 (pa_cons (pv 1) (pa_cons pe_int pa_nil))) pa_nil)) (pg_name (i := 3) scLaw.nd rfl (.inl rfl)) (pss_cons (ps_set (i := 6) scLaw.nd rfl (.inl rfl) (pe_call (ok_draw T) hr1 (by rfl) T.m_lDraw T.F_lDraw.kp T.b_lDraw .nil pass0 (pa_cons (pv 1) (pa_cons pe_int pa_nil)))) (pss_cons (ps_set (i := 7) scLaw.nd rfl (.inl rfl) (pe_call (ok_lpath T) hr2 (by rfl) T.m_lPath T.F_lPath.kp T.b_lPath .nil pass0 (pa_cons (pv 1) (pa_cons (pv 2) pa_nil)))) (C8.pss_cut (ps_if (pt_cmpR op_lt (pv 6) pe_int (nomark _)) (pss_cons (ps_set (i := 7) scLaw.nd rfl (.inl rfl) (pe_op op_catA (pv 7) (pe_call (ok_letters T) hr2 (by rfl) T.m_lLetters T.F_lLetters.kp T.b_lLetters .nil pass0 (pa_cons (pv 1) (pa_cons (pv 2) (pa_cons (pe_op op_mul (pe_dget hu (pv 2) pe_str (fun _ _ => rfl)) (pe_ix ix_list (pe_lst (pa_cons pe_int (pa_cons pe_int (pa_cons pe_int (pa_cons pe_int pa_nil))))) (pe_call (ok_draw T) hr1 (by rfl) T.m_lDraw T.F_lDraw.kp T.b_lDraw .nil pass0 (pa_cons (pv 1) (pa_cons pe_int pa_nil))) (fun _ _ => rfl))) pa_nil)))))) (pss_one (ps_if (PW.pt (pw_and (pt_cmpR op_in_seq pe_int (pe_dget hu (pv 2) pe_str (fun _ _ => rfl)) (by rfl)) (pw_and1 (pt_not (pt_val (pe_call (ok_lput T) hr6 (by rfl) T.m_lPut T.F_lPut.kp T.b_lPut .nil pass0 (pa_cons (pv 1) (pa_cons (pv 4) (pa_cons (pv 5) (pa_cons (pv 2) (pa_cons (pv 7) (pa_cons (pe_cmpR op_eq (pe_call (ok_draw T) hr1 (by rfl) T.m_lDraw T.F_lDraw.kp T.b_lDraw .nil pass0 (pa_cons (pv 1) (pa_cons pe_int pa_nil))) pe_int (nomark _)) pa_nil)))))))))))) (pss_one ps_never) pss_nil))) (pss_one (ps_if (pt_cmpR op_lt (pv 6) pe_int (nomark _)) (pss_cons (ps_set (i := 7) scLaw.nd rfl (.inl rfl) (pe_op op_catA (pv 7) (pe_call (ok_letters T) hr2 (by rfl) T.m_lLetters T.F_lLetters.kp T.b_lLetters .nil pass0 (pa_cons (pv 1) (pa_cons (pv 2) (pa_cons (pe_call (ok_draw T) hr1 (by rfl) T.m_lDraw T.F_lDraw.kp T.b_lDraw .nil pass0 (pa_cons (pv 1) (pa_cons pe_int pa_nil))) pa_nil)))))) (pss_one (ps_if (pt_not (pt_val (pe_call (ok_same T 1) hr2 (by rfl) T.m_lSame T.F_lSame.kp T.b_lSame .nil pass0 (pa_cons (pe_meth (pv 5) T.clT T.m_tKnown (ok_known T) hr2 T.b_tKnown .nil pass0 (pa_cons (pe_call (ok_las T) hr2 (by rfl) T.m_lAs T.F_lAs.kp T.b_lAs .nil pass0 (pa_cons (pv 1) (pa_cons (pv 7) pa_nil))) pa_nil)) (pa_cons (pe_call (ok_lknown T) hr2 (by rfl) T.m_lKnown T.F_lKnown.kp T.b_lKnown .nil pass0 (pa_cons (pv 2) (pa_cons (pv 7) pa_nil))) pa_nil))))) (pss_one ps_never) pss_nil))) (pss_one (ps_if (pt_cmpR op_lt (pv 6) pe_int (nomark _)) (pss_one (ps_if (pt_not (pt_val (pe_call (ok_same T 0) hr1 (by rfl) T.m_lSame T.F_lSame.kp T.b_lSame .nil pass0 (pa_cons (pe_meth0 (pv 5) T.clT T.m_tDrop (ok_tdrop T) hr4 T.b_tDrop .nil pass0) (pa_cons (pe_call (ok_ldropped T) hr2 (by rfl) T.m_lDropped T.F_lDropped.kp T.b_lDropped .nil pass0 (pa_cons (pv 2) pa_nil)) pa_nil))))) (pss_one ps_never) pss_nil)) (pss_one (ps_expr (pe_call (ok_lheld T) hr4 (by rfl) T.m_lHeld T.F_lHeld.kp T.b_lHeld .nil pass0 (pa_cons (pv 1) (pa_cons (pv 4) (pa_cons (pv 2) pa_nil))))))))))) (pss_one (ps_if (pt_not (pt_val (pe_call (ok_shown T) hr5 (by rfl) T.m_lShown T.F_lShown.kp T.b_lShown .nil pass0 (pa_cons (pv 4) (pa_cons (pv 5) (pa_cons (pv 2) pa_nil)))))) (pss_one ps_never) pss_nil)))))) (pss_one (ps_ret (pe_call (ok_stay T) hr5 (by rfl) T.m_lStay T.F_lStay.kp T.b_lStay .nil pass0 (pa_cons (pv 4) (pa_cons (pv 2) pa_nil))))))))))), ?_⟩
    refine ⟨_, rfl, a, ns, 1050, rfl, hs, hn, by decide, fun po xs0 H0 hp0 => ?_⟩
    refine ⟨_, rfl, by show 7 ≤ sizeLine; rw [sizeLine_eq]; decide, fun e1 ne1 => ?_⟩
    have p1 := up (o := .lst [.int 1, .int 1, .int 2, .int 2, .int 3, .int 4, .int 8]) ne1 hp0
    have q1 : upd H0 e1 (.lst [.int 1, .int 1, .int 2, .int 2, .int 3, .int 4, .int 8]) e1 = some (.lst [.int 1, .int 1, .int 2, .int 2, .int 3, .int 4, .int 8]) := upd_same
    have n1 : e1 ≠ po := (ne_of_none hp0 ne1).symm
    generalize upd H0 e1 (.lst [.int 1, .int 1, .int 2, .int 2, .int 3, .int 4, .int 8]) = H1 at p1 q1
    refine ⟨_, rfl, po, xs0, 7, rfl, by decide, p1, fun d1 xs1 hd1 => ?_⟩
    have p2 : upd H1 po (.lst (xs1.map V.int)) po = some (.lst (xs1.map V.int)) := upd_same
    have q2 := (upd_ne (H := H1) (o := .lst (xs1.map V.int)) n1).trans q1
    generalize upd H1 po (.lst (xs1.map V.int)) = H2 at p2 q2
    obtain ⟨sz, s1, s2, hat⟩ : ∃ sz : Nat, 1 ≤ sz ∧ sz ≤ 8 ∧ atI [V.int 1, V.int 1, V.int 2, V.int 2, V.int 3, V.int 4, V.int 8] (d1 : Int) = some (.int (sz : Int)) := by
      match d1, hd1 with
      | 0, _ => exact ⟨1, by decide, by decide, rfl⟩
      | 1, _ => exact ⟨1, by decide, by decide, rfl⟩
      | 2, _ => exact ⟨2, by decide, by decide, rfl⟩
      | 3, _ => exact ⟨2, by decide, by decide, rfl⟩
      | 4, _ => exact ⟨3, by decide, by decide, rfl⟩
      | 5, _ => exact ⟨4, by decide, by decide, rfl⟩
      | 6, _ => exact ⟨8, by decide, by decide, rfl⟩
    refine ⟨e1, _, _, _, rfl, rfl, SqL.of q2, hat, ?_⟩
    refine ⟨po, xs1, sz, rfl, p2, fun many lets st a7 a8 a9 a10 a11 xs2 H3 m1 m2 l1 l2 fst f7 f8 f9 f10 f11 fpo nd3 => ?_⟩
    -- the holders
    have kmany : valV (stk sz many lets a7 a8 a9 a10 a11) (Sum.inr "many") = some (.int many) := by kernel_rfl
    have ksize : valV (stk sz many lets a7 a8 a9 a10 a11) (Sum.inr "size") = some (.int sz) := by kernel_rfl
    have kholders : valV (stk sz many lets a7 a8 a9 a10 a11) (Sum.inr "holders") = some (.ref a9) := by kernel_rfl
    refine ⟨_, rfl, st, _, rfl, dgk fst kholders, .inl ⟨rfl, _, SqL.of f9⟩, _, rfl, st, _, rfl, dgk fst kmany, _, rfl, by omega, by omega, fun D nD => ?_⟩
    rw [Int.toNat_natCast]
    refine lc_range (fun i H' => H' = upd H3 D (.lst ((List.replicate i (0 : Int)).map V.int))) rfl ?_ ?_
    · rintro i H' hi rfl
      refine ⟨rfl, _, upd_same, ?_, ?_⟩
      · rw [List.length_map, List.length_replicate]
        exact len100 (by omega)
      · rw [upd_upd, rep_succ, List.map_append]
        rfl
    rintro H4 rfl
    have g9 := up (o := .lst ((List.replicate many (0 : Int)).map V.int)) nD f9
    have gst := up (o := .lst ((List.replicate many (0 : Int)).map V.int)) nD fst
    have g7 := up (o := .lst ((List.replicate many (0 : Int)).map V.int)) nD f7
    have g8 := up (o := .lst ((List.replicate many (0 : Int)).map V.int)) nD f8
    have g10 := up (o := .lst ((List.replicate many (0 : Int)).map V.int)) nD f10
    have g11 := up (o := .lst ((List.replicate many (0 : Int)).map V.int)) nD f11
    have gpo := up (o := .lst ((List.replicate many (0 : Int)).map V.int)) nD fpo
    have gD : upd H3 D (.lst ((List.replicate many (0 : Int)).map V.int)) D = some (.lst ((List.replicate many (0 : Int)).map V.int)) := upd_same
    generalize upd H3 D (.lst ((List.replicate many (0 : Int)).map V.int)) = H4 at g9 gst g7 g8 g10 g11 gpo gD
    refine ⟨a9, D, _, _, rfl, rfl, g9, gD, by rw [List.length_map, List.length_replicate]; exact Nat.le_of_lt (len100 (by show 0 + many ≤ _; omega)), ?_⟩
    rw [List.nil_append]
    have h9 : upd H4 a9 (.lst ((List.replicate many (0 : Int)).map V.int)) a9 = some (.lst ((List.replicate many (0 : Int)).map V.int)) := upd_same
    have nds := nd3
    simp only [List.nodup_cons, List.mem_cons, not_or, List.not_mem_nil] at nds
    obtain ⟨⟨_, n119, _⟩, ⟨n109, _⟩, ⟨n98, n97, n9s, n9p, _⟩, _⟩ := nds
    have hst : upd H4 a9 (.lst ((List.replicate many (0 : Int)).map V.int)) st = some _ := (upd_ne (Ne.symm n9s)).trans gst
    have h7 : upd H4 a9 (.lst ((List.replicate many (0 : Int)).map V.int)) a7 = some _ := (upd_ne (Ne.symm n97)).trans g7
    have h8 : upd H4 a9 (.lst ((List.replicate many (0 : Int)).map V.int)) a8 = some _ := (upd_ne (Ne.symm n98)).trans g8
    have h10 : upd H4 a9 (.lst ((List.replicate many (0 : Int)).map V.int)) a10 = some _ := (upd_ne n109).trans g10
    have h11 : upd H4 a9 (.lst ((List.replicate many (0 : Int)).map V.int)) a11 = some _ := (upd_ne n119).trans g11
    have hpo : upd H4 a9 (.lst ((List.replicate many (0 : Int)).map V.int)) po = some _ := (upd_ne (Ne.symm n9p)).trans gpo
    generalize upd H4 a9 (.lst ((List.replicate many (0 : Int)).map V.int)) = H5 at h9 hst h7 h8 h10 h11 hpo
    have lv5 : ∀ z ∈ [a11, a10, a9, a8, a7, st, po], ∃ o, H5 z = some o := by
      intro z hz
      simp only [List.mem_cons, List.not_mem_nil, or_false] at hz
      rcases hz with rfl | rfl | rfl | rfl | rfl | rfl | rfl
      · exact ⟨_, h11⟩
      · exact ⟨_, h10⟩
      · exact ⟨_, h9⟩
      · exact ⟨_, h8⟩
      · exact ⟨_, h7⟩
      · exact ⟨_, hst⟩
      · exact ⟨_, hpo⟩
    -- Store(..)
    refine ⟨_, rfl, st, _, rfl, dgk hst kmany, _, rfl, st, _, rfl, dgk hst ksize, fun x0 dx0 nx0 ndx0 nxd => ?_⟩
    have k6 : ∀ b o, H5 b = some o → upd (upd H5 dx0 (.own x0)) x0 (.ins t.S dx0 []) b = some o := fun b o e => by
      rw [upd_ne (ne_of_none e nx0), upd_ne (ne_of_none e ndx0)]
      exact e
    have x6 : upd (upd H5 dx0 (.own x0)) x0 (.ins t.S dx0 []) x0 = some (.ins t.S dx0 []) := upd_same
    have lx0 := not_live lv5 nx0
    generalize upd (upd H5 dx0 (.own x0)) x0 (.ins t.S dx0 []) = H6 at k6 x6
    refine ⟨x0, dx0, many, sz, rfl, x6, m1, m2, s1, s2, fun c k ks H7 ox oc ok' hks hrs nc nk nck k7 => ⟨rfl, ?_⟩⟩
    have lv6 : ∀ z ∈ [x0, a11, a10, a9, a8, a7, st, po], ∃ o, H6 z = some o := fun z hz => by
      rcases List.mem_cons.mp hz with rfl | hz
      · exact ⟨_, x6⟩
      · obtain ⟨o, e⟩ := lv5 z hz
        exact ⟨o, k6 _ _ e⟩
    have lc := not_live lv6 nc
    have lk0 := not_live lv6 nk
    have k57 : ∀ b o, H5 b = some o → H7 b = some o := fun b o e => k7 b o (k6 b o e) (ne_of_none e nx0)
    have lv7 : ∀ z ∈ [k, c, x0, a11, a10, a9, a8, a7, st, po], ∃ o, H7 z = some o := fun z hz => by
      rcases List.mem_cons.mp hz with rfl | hz
      · exact ⟨_, ok'⟩
      rcases List.mem_cons.mp hz with rfl | hz
      · exact ⟨_, oc⟩
      rcases List.mem_cons.mp hz with rfl | hz
      · exact ⟨_, ox⟩
      · obtain ⟨o, e⟩ := lv5 z hz
        exact ⟨o, k57 _ _ e⟩
    -- Tree(..)
    refine ⟨_, rfl, fun x4 dx4 nx4 ndx4 nxd4 => ?_⟩
    have k8 : ∀ b o, H7 b = some o → upd (upd H7 dx4 (.own x4)) x4 (.ins t.T dx4 []) b = some o := fun b o e => by
      rw [upd_ne (ne_of_none e nx4), upd_ne (ne_of_none e ndx4)]
      exact e
    have x8 : upd (upd H7 dx4 (.own x4)) x4 (.ins t.T dx4 []) x4 = some (.ins t.T dx4 []) := upd_same
    have lx4 := not_live lv7 nx4
    generalize upd (upd H7 dx4 (.own x4)) x4 (.ins t.T dx4 []) = H8 at k8 x8
    refine ⟨x4, dx4, x0, rfl, x8, fun l un ud H9 yx yl yun yud nl nun nud nlun nlud nunud k9 => ⟨rfl, ?_⟩⟩
    have lv8 : ∀ z ∈ [x4, k, c, x0, a11, a10, a9, a8, a7, st, po], ∃ o, H8 z = some o := fun z hz => by
      rcases List.mem_cons.mp hz with rfl | hz
      · exact ⟨_, x8⟩
      · obtain ⟨o, e⟩ := lv7 z hz
        exact ⟨o, k8 _ _ e⟩
    have ll := not_live lv8 nl
    have lun := not_live lv8 nun
    have lud := not_live lv8 nud
    have k79 : ∀ b o, H7 b = some o → H9 b = some o := fun b o e => k9 b o (k8 b o e) (ne_of_none e nx4)
    have nd : [ud, un, x4, k, c, x0, a11, a10, a9, a8, a7, st, po].Nodup := by
      refine List.nodup_cons.mpr ⟨fun z => ?_, List.nodup_cons.mpr ⟨lun, List.nodup_cons.mpr ⟨lx4, List.nodup_cons.mpr ⟨fun z => ?_, List.nodup_cons.mpr ⟨lc, List.nodup_cons.mpr ⟨lx0, nd3⟩⟩⟩⟩⟩⟩
      · rcases List.mem_cons.mp z with e | e
        · exact nunud e.symm
        · exact lud e
      · rcases List.mem_cons.mp z with e | e
        · exact nck e.symm
        · exact lk0 e
    obtain ⟨A, ok, ⟨e0, e1', e2, e3, e4, e5, e6, e7, e8, e9, e10, e11, e12⟩, em, es, el, hnew⟩ := mkAd nd m1 m2 s1 s2 l1 l2
    have newl : New A l := hnew l fun z => by
      rcases List.mem_cons.mp z with e | z
      · exact nlud e
      rcases List.mem_cons.mp z with e | z
      · exact nlun e
      · exact ll z
    clear hnew nd lv8 ll lun lud lv7 lv6 lc lk0 lx0 lx4 lv5 nd3
    have kk : ∀ b o, H5 b = some o → H9 b = some o := fun b o e => k79 b o (k57 b o e)
    have j1 := kk _ _ hst
    have j7 := kk _ _ h7
    have j8 := kk _ _ h8
    have j9 := kk _ _ h9
    have j10 := kk _ _ h10
    have j11 := kk _ _ h11
    have j12 := kk _ _ hpo
    have jx := k79 _ _ ox
    have jc := k79 _ _ oc
    have jk := k79 _ _ ok'
    have jks : KeptAt H9 ks := fun z hz => ⟨k79 _ _ (hks z hz).1, fun r hr => by
      obtain ⟨e, w, h1, h2, h3⟩ := (hks z hz).2 r hr
      exact ⟨e, w, k79 _ _ h1, k79 _ _ h2, k79 _ _ h3⟩⟩
    have W0 : Wd t A H9 (mir0 A.many) := by
      subst e0 e1' e2 e3 e4 e5 e6 e7 e8 e9 e10 e11 e12 em es el
      refine ⟨⟨⟨dx0, jx⟩, jc, ⟨ks, jk, jks, hrs⟩, List.length_replicate, List.length_replicate⟩, ⟨⟨dx4, l, [], yx, yl, fun b hb => (nomatch hb), rfl, newl⟩, yun, yud⟩, ⟨j1, j7, j8, j9, j10, j11⟩, ⟨xs2, j12⟩, fun i hi => ?_⟩
      match i, hi with
      | 0, _ => exact ⟨_, jx⟩
      | 1, _ => exact ⟨_, j1⟩
      | 2, _ => exact ⟨_, jc⟩
      | 3, _ => exact ⟨_, jk⟩
      | 4, _ => exact ⟨_, yx⟩
      | 5, _ => exact ⟨_, yun⟩
      | 6, _ => exact ⟨_, yud⟩
      | 7, _ => exact ⟨_, j7⟩
      | 8, _ => exact ⟨_, j8⟩
      | 9, _ => exact ⟨_, j9⟩
      | 10, _ => exact ⟨_, j10⟩
      | 11, _ => exact ⟨_, j11⟩
      | 12, _ => exact ⟨_, j12⟩
    have G0 := good0 A
    have B0 := bnd0 A.many
    subst e0 e1' e4 e12
    clear j1 j7 j8 j9 j10 j11 j12 jx jc jk jks yx yl yun yud
    generalize mir0 A.many = m0 at W0 G0 B0
    have as1 := ok.s1
    have as2 := ok.s2
    refine ⟨_, rfl, A.a 12, _, 41, rfl, by decide, W0.po.choose_spec, fun N xs3 hN => ?_⟩
    obtain ⟨H10, e10', po10, x10⟩ := drawn W0.po xs3
    rw [e10']
    have W1 := W0.frP ok x10 po10
    refine ⟨_, rfl, by omega, by omega, ?_⟩
    rw [Int.toNat_natCast]
    refine for_range (fun i σ H' => LawM t a A i σ H') ⟨_, _, _, m0, rfl, W1, G0, B0⟩ ?_ ?_
    · rintro i σ H2 hi ⟨v3, v6, v7, m, rfl, W, g, bd⟩
      have bud := bd.ud
      have bus := bd.us
      have btr := bd.tr
      have bmi := bd.mi
      have hpl : m.pa.length = m.tr.length := by
        have := g.perm.length_eq
        unfold keys at this
        rwa [List.length_map] at this
      refine ⟨_, rfl, A.a 12, _, 10, rfl, by decide, W.po.choose_spec, fun way xs4 hw => ?_⟩
      obtain ⟨H3, e3, po3, x3⟩ := drawn W.po xs4
      rw [e3]
      have W3 := W.frP ok x3 po3
      refine ⟨_, rfl, _, rfl, A, m.tr, m.us, m.cs, m.ck, m.mi, rfl, ok, W3.lv, W3.L, W3.po, g.tok, fun p j c H4 hpj hp60 hc po4 x4 => ?_⟩
      have W4 := W3.frP ok x4 po4
      refine ⟨LawM t a A (i + 1), ?_, ?_⟩
      · refine ⟨_, rfl, _, _, rfl, rfl, _, rfl, ite2 (fun _ => ?_) (fun _ => ?_)⟩
        · -- a full block put
          refine ⟨_, rfl, _, rfl, _, rfl, _, rfl, A.a 1, _, rfl, dgk W4.L.st (st_size A), by show 4 ≤ sizeLine; rw [sizeLine_eq]; decide, fun e ne => ?_⟩
          have x5 : Fr A [] H4 (upd H4 e (.lst [.int 1, .int 1, .int 1, .int 2])) := Fr.new ne
          have he5 : upd H4 e (.lst [.int 1, .int 1, .int 1, .int 2]) e = some (.lst [.int 1, .int 1, .int 1, .int 2]) := upd_same
          have newe : New A e := W4.lv.new ne
          generalize upd H4 e (.lst [.int 1, .int 1, .int 1, .int 2]) = H5 at x5 he5
          have W5 := W4.fr0 ok x5
          refine ⟨_, rfl, A.a 12, _, 4, rfl, by decide, W5.po.choose_spec, fun d xs5 hd => ?_⟩
          obtain ⟨H6, e6, po6, x6⟩ := drawn W5.po xs5
          rw [e6]
          have W6 := W5.frP ok x6 po6
          have he6 := x6.own newe he5
          have hc6 := x6.tup _ _ (x5.tup _ _ hc)
          obtain ⟨mm, hmm1, hmm2, hat⟩ : ∃ mm : Nat, 1 ≤ mm ∧ mm ≤ 2 ∧ atI [V.int 1, V.int 1, V.int 1, V.int 2] (d : Int) = some (.int (mm : Int)) := by
            match d, hd with
            | 0, _ => exact ⟨1, by decide, by decide, rfl⟩
            | 1, _ => exact ⟨1, by decide, by decide, rfl⟩
            | 2, _ => exact ⟨1, by decide, by decide, rfl⟩
            | 3, _ => exact ⟨2, by decide, by decide, rfl⟩
          have hsm : A.size * mm ≤ 16 := by
            have := Nat.mul_le_mul as2 hmm2
            omega
          refine ⟨e, _, _, _, rfl, rfl, SqL.of he6, hat, _, _, rfl, rfl, cmul_r (by omega), A, m.tr, m.us, m.cs, m.ck, m.mi, A.size * mm, by rw [Int.natCast_mul]; rfl, ok, W6.lv, W6.L, W6.po, by omega, fun ls c2 H7 hls hc2 po7 x7 => ?_⟩
          have W7 := W6.frP ok x7 po7
          refine catT (A := A) (x7.tup _ _ hc6) hc2 (by omega) fun c3 H8 x8 hc3 => ?_
          have W8 := W7.fr0 ok x8
          refine ⟨_, rfl, A.a 1, _, rfl, dgk W8.L.st (st_holders A), A.a 9, _, rfl, .inl (SqL.of W8.L.hs), rfl, all_flat _, _, rfl, ite2 (fun z => ?_) (fun z => ?_)⟩
          · have hz : inV (.int 0) (m.cs.map V.int) = true := z
            refine ⟨_, rfl, _, rfl, _, rfl, _, rfl, _, rfl, _, rfl, A.a 12, _, 5, rfl, by decide, W8.po.choose_spec, fun d2 xs6 hd2 => ?_⟩
            obtain ⟨H9', e9', po9, x9⟩ := drawn W8.po xs6
            rw [e9']
            have W9 := W8.frP ok x9 po9
            have hjm : (p ++ ls).length = (j + mm) * A.size := by
              rw [List.length_append, hpj, hls, Nat.add_mul, Nat.mul_comm A.size mm]
            refine ⟨rfl, A, m, i, c3, _, p ++ ls, j + mm, rfl, ok, W9, g, bd, by omega, x9.tup _ _ hc3, by omega, hjm, by rw [List.length_append]; omega, inV_zero hz, fun m' H' W' g' b' => ⟨true, rfl, iteF ⟨_, _, _, m', rfl, W', g', b'⟩⟩⟩
          · exact iteF ⟨_, _, _, m, rfl, W8, g, bd.mono (Nat.le_succ i)⟩
        · refine ⟨_, rfl, _, _, rfl, rfl, _, rfl, ite2 (fun _ => ?_) (fun _ => ?_)⟩
          · -- known
            refine ⟨_, rfl, _, rfl, _, rfl, _, rfl, A.a 12, _, 6, rfl, by decide, W4.po.choose_spec, fun d xs5 hd => ?_⟩
            obtain ⟨H5, e5, po5, x5⟩ := drawn W4.po xs5
            rw [e5]
            have W5 := W4.frP ok x5 po5
            refine ⟨A, m.tr, m.us, m.cs, m.ck, m.mi, d, rfl, ok, W5.lv, W5.L, W5.po, by omega, fun ls c2 H6 hls hc2 po6 x6 => ?_⟩
            have W6 := W5.frP ok x6 po6
            have hc6 := x6.tup _ _ (x5.tup _ _ hc)
            refine catT (A := A) hc6 hc2 (by omega) fun c3 H7 x7 hc3 => ?_
            have W7 := W6.fr0 ok x7
            have hlen : (p ++ ls).length ≤ 100 := by
              rw [List.length_append]
              omega
            generalize p ++ ls = path at hc3 hlen
            obtain ⟨dx, lp, b0, g1, _⟩ := W7.R.ob
            refine ⟨_, rfl, A.a 4, dx, _, rfl, g1, by kernel_rfl, _, rfl, _, rfl, A, c3, path, rfl, ok, W7.po, hc3, fun h H8 hh po8 x8 => ?_⟩
            have W8 := W7.frP ok x8 po8
            have hc8 := x8.tup _ _ hc3
            obtain ⟨n, hn⟩ := beg_exists A.size as1 m.tr path
            have nle := beg_le as1 hn
            refine ⟨A, m.pa, m.tr, m.ud, m.ck, m.cs, m.rs, h, path, n, rfl, ok, W8.lv, W8.S, W8.R, hh, by omega, hn, by omega, fun q1 H9' hq1 R9 x9 => ?_⟩
            have L9 := W8.L.fr ok x9
            refine ⟨_, rfl, _, rfl, A, m.tr, m.us, m.cs, m.ck, m.mi, c3, path, n, rfl, ok, W8.lv.fr x9, L9, x9.tup _ _ hc8, by omega, g.tok, hn, by omega, fun q2 H10' hq2 L10 x10' => ?_⟩
            have em : ((pres A.size path n).map fun p => V.int (lk m.tr p)) = ((pres A.size path n).map (lk m.tr)).map V.int := by
              rw [List.map_map]
              rfl
            rw [em] at hq1 hq2
            have x810 : Fr A [4, 6, 8, 10] H8 H10' := x9.and x10'
            refine ⟨_, _, rfl, Alike.ints 0 (x10'.tup _ _ hq1) hq2 (by rw [List.length_map, pres_length]; omega), true, rfl, iteF ⟨_, _, _, { m with ud := putAll m.ud (pres A.size path n) (m.ck + 1), us := putAll m.us (pres A.size path n) (m.ck + 1), ck := m.ck + 1 }, rfl,
              ⟨W8.S.fr ok x810, R9.fr ok x10', L10, W8.po.fr ok x810, W8.lv.fr x810⟩, g.use (uses_uu fun p hp _ => g.uu p hp), ⟨?_, ?_, ?_, ?_⟩⟩⟩
            · have := putAll_length (m.ck + 1) (pres A.size path n) m.ud
              rw [pres_length] at this
              show (putAll m.ud (pres A.size path n) (m.ck + 1)).length ≤ _
              omega
            · have := putAll_length (m.ck + 1) (pres A.size path n) m.us
              rw [pres_length] at this
              show (putAll m.us (pres A.size path n) (m.ck + 1)).length ≤ _
              omega
            · show m.tr.length ≤ _
              omega
            · show m.mi.length ≤ _
              omega
          · refine ⟨_, rfl, _, _, rfl, rfl, _, rfl, ite2 (fun _ => ?_) (fun _ => ?_)⟩
            · -- drop
              obtain ⟨dx, lp, b0, g1, _⟩ := W4.R.ob
              have huu : argm (lk m.ud) (mayGo A.size m.pa m.tr m.cs) = argm (lk m.us) (mayGo A.size m.pa m.tr m.cs) := by
                refine argm_congr fun p hp => ?_
                rw [mayGo_eq] at hp
                have hk := g.mem_pa.mp (List.mem_filter.mp hp).1
                unfold lk
                rw [(g.uu p hk).1]
              have hud : ∀ p ∈ m.pa, (look m.ud p).isSome = true := fun p hp => by
                have := g.uu p (g.mem_pa.mp hp)
                rw [this.1]
                exact this.2
              have hsz : ∀ p ∈ m.pa, A.size ≤ p.length := fun p hp => by
                obtain ⟨q, h1, h2⟩ := g.tok.len p (g.mem_pa.mp hp)
                rw [h2]
                exact Nat.le_mul_of_pos_left _ h1
              have hat : ∀ p ∈ m.pa, ∃ c, look m.tr p = some (blk m.tr p : Int) ∧ m.cs[blk m.tr p]? = some c ∧ c ≠ 0 := fun p hp => by
                obtain ⟨c, h1, h2, h3, _⟩ := g.at_ (g.mem_pa.mp hp)
                exact ⟨c, h1, h2, h3⟩
              refine ⟨_, rfl, A.a 4, dx, _, rfl, g1, by kernel_rfl, A, m.pa, m.tr, m.ud, m.ck, m.cs, m.rs, rfl, ok, W4.lv, W4.S, W4.R, by omega, hsz, hat, hud, fun en H5 x5 => ?_, fun best eb H5 S5 R5 x5 => ?_⟩
              · have W5 := W4.fr0 ok x5
                refine ⟨_, rfl, A, m.tr, m.us, m.cs, m.ck, m.mi, m.pa, rfl, ok, W5.lv, W5.L, g.tok, by omega, g.perm, g.sort, fun p hp => ?_, fun p hp => (g.uu p (g.mem_pa.mp hp)).2, fun _ H6 x6 => ?_, fun best eb => ?_⟩
                · obtain ⟨c, h1, h2, _⟩ := hat p hp
                  exact ⟨c, h1, h2⟩
                · exact ⟨_, _, rfl, Alike.bl 0 H6 false, true, rfl, iteF ⟨_, _, _, m, rfl, W5.fr0 ok x6, g, bd.mono (Nat.le_succ i)⟩⟩
                · rw [← huu, en] at eb
                  cases eb
              · have L5 := W4.L.fr ok x5
                have lv5 := W4.lv.fr x5
                refine ⟨_, rfl, A, m.tr, m.us, m.cs, m.ck, m.mi, m.pa, rfl, ok, lv5, L5, g.tok, by omega, g.perm, g.sort, fun p hp => ?_, fun p hp => (g.uu p (g.mem_pa.mp hp)).2, fun en => ?_, fun best' eb' H6 L6 x6 => ?_⟩
                · obtain ⟨c, h1, h2, _⟩ := hat p hp
                  exact ⟨c, h1, h2⟩
                · rw [← huu, eb] at en
                  cases en
                · rw [← huu, eb] at eb'
                  cases eb'
                  have gd := g.drop as1 (argm_mem _ eb)
                  have x46 : Fr A [2, 3, 4, 5, 6, 7, 9] H4 H6 := x5.and x6
                  refine ⟨_, _, rfl, Alike.bl 0 H6 true, true, rfl, iteF ⟨_, _, _, _, rfl, ⟨S5.fr ok x6, R5.fr ok x6, L6, W4.po.fr ok x46, W4.lv.fr x46⟩, gd, ⟨?_, ?_, ?_, ?_⟩⟩⟩
                  · have := drop_length m.ud best
                    show (drop m.ud best).length ≤ _
                    omega
                  · show m.us.length ≤ _
                    omega
                  · have := drop_length m.tr best
                    show (drop m.tr best).length ≤ _
                    omega
                  · show m.mi.length ≤ _
                    omega
            · -- holders
              exact ⟨_, rfl, _, rfl, _, rfl, A, m, i, rfl, ok, W4, g, bd, by omega, fun m' H' W' g' b' => ⟨_, _, _, m', rfl, W', g', b'⟩⟩
      · rintro σ' H5 ⟨v3', v6', v7', m', rfl, W5, g5, b5⟩
        have := b5.tr
        exact ⟨_, rfl, _, rfl, _, rfl, A, m'.tr, m'.us, m'.cs, m'.ck, m'.mi, m'.rs, m'.pa, m'.ud, m'.ck, rfl, ok, W5.lv, W5.L, W5.S, W5.R, g5.tok, g5.perm, g5.sort, by omega, fun p hp => g5.plen p (g5.mem_pa.mp hp), fun H6 x6 => ⟨true, rfl, iteF ⟨v3', v6', v7', m', rfl, W5.fr0 ok x6, g5, b5⟩⟩⟩
    · rintro σ H2 ⟨v3, v6, v7, m, rfl, W, g, bd⟩
      have := bd.tr
      exact ⟨_, rfl, _, rfl, A, m, rfl, ok, W, g, by omega, fun H3 => q H3⟩
end
end K23
namespace K23
open PySem L2

theorem all_mk {l : PySem.W.OpenLaw} {w : World} {K : PySem.W.Frag} {h : Heap} {mg : Str → Option Value} {fa T S fr : Addr} {tb tr : Tok} {rest : List Value} (X : K.In h) (G : h.Ns mainGlobals mg) (hfa : mg "law" = some (.ref fa))
    {f_tInit : Addr} {od_tInit an_tInit : Option Addr} {sl_tInit : Array (Option Value)} {oc_tInit kV_tInit dc_tInit pm_tInit cd_tInit ct_tInit : Value}
    {f_tBeg : Addr} {od_tBeg an_tBeg : Option Addr} {sl_tBeg : Array (Option Value)} {oc_tBeg kV_tBeg dc_tBeg pm_tBeg cd_tBeg ct_tBeg : Value}
    {f_tUse : Addr} {od_tUse an_tUse : Option Addr} {sl_tUse : Array (Option Value)} {oc_tUse kV_tUse dc_tUse pm_tUse cd_tUse ct_tUse : Value}
    {f_tKnown : Addr} {od_tKnown an_tKnown : Option Addr} {sl_tKnown : Array (Option Value)} {oc_tKnown kV_tKnown dc_tKnown pm_tKnown cd_tKnown ct_tKnown : Value}
    {f_tPut : Addr} {od_tPut an_tPut : Option Addr} {sl_tPut : Array (Option Value)} {oc_tPut kV_tPut dc_tPut pm_tPut cd_tPut ct_tPut : Value}
    {f_tEnds : Addr} {od_tEnds an_tEnds : Option Addr} {sl_tEnds : Array (Option Value)} {oc_tEnds kV_tEnds dc_tEnds pm_tEnds cd_tEnds ct_tEnds : Value}
    {f_tOldest : Addr} {od_tOldest an_tOldest : Option Addr} {sl_tOldest : Array (Option Value)} {oc_tOldest kV_tOldest dc_tOldest pm_tOldest cd_tOldest ct_tOldest : Value}
    {f_tDrop : Addr} {od_tDrop an_tDrop : Option Addr} {sl_tDrop : Array (Option Value)} {oc_tDrop kV_tDrop dc_tDrop pm_tDrop cd_tDrop ct_tDrop : Value}
    {f_tLen : Addr} {od_tLen an_tLen : Option Addr} {sl_tLen : Array (Option Value)} {oc_tLen kV_tLen dc_tLen pm_tLen cd_tLen ct_tLen : Value}
    {f_tIter : Addr} {od_tIter an_tIter : Option Addr} {sl_tIter : Array (Option Value)} {oc_tIter kV_tIter dc_tIter pm_tIter cd_tIter ct_tIter : Value}
    {f_btw : Addr} {od_btw an_btw : Option Addr} {sl_btw : Array (Option Value)} {oc_btw kV_btw dc_btw pm_btw cd_btw ct_btw : Value}
    {f_sInit : Addr} {od_sInit an_sInit : Option Addr} {sl_sInit : Array (Option Value)} {oc_sInit kV_sInit dc_sInit pm_sInit cd_sInit ct_sInit : Value}
    {f_sFree : Addr} {od_sFree an_sFree : Option Addr} {sl_sFree : Array (Option Value)} {oc_sFree kV_sFree dc_sFree pm_sFree cd_sFree ct_sFree : Value}
    {f_sHeld : Addr} {od_sHeld an_sHeld : Option Addr} {sl_sHeld : Array (Option Value)} {oc_sHeld kV_sHeld dc_sHeld pm_sHeld cd_sHeld ct_sHeld : Value}
    {f_sAlone : Addr} {od_sAlone an_sAlone : Option Addr} {sl_sAlone : Array (Option Value)} {oc_sAlone kV_sAlone dc_sAlone pm_sAlone cd_sAlone ct_sAlone : Value}
    {f_sTake : Addr} {od_sTake an_sTake : Option Addr} {sl_sTake : Array (Option Value)} {oc_sTake kV_sTake dc_sTake pm_sTake cd_sTake ct_sTake : Value}
    {f_sHold : Addr} {od_sHold an_sHold : Option Addr} {sl_sHold : Array (Option Value)} {oc_sHold kV_sHold dc_sHold pm_sHold cd_sHold ct_sHold : Value}
    {f_sRel : Addr} {od_sRel an_sRel : Option Addr} {sl_sRel : Array (Option Value)} {oc_sRel kV_sRel dc_sRel pm_sRel cd_sRel ct_sRel : Value}
    {f_sRow : Addr} {od_sRow an_sRow : Option Addr} {sl_sRow : Array (Option Value)} {oc_sRow kV_sRow dc_sRow pm_sRow cd_sRow ct_sRow : Value}
    {f_sRows : Addr} {od_sRows an_sRows : Option Addr} {sl_sRows : Array (Option Value)} {oc_sRows kV_sRows dc_sRows pm_sRows cd_sRows ct_sRows : Value}
    {f_sHolders : Addr} {od_sHolders an_sHolders : Option Addr} {sl_sHolders : Array (Option Value)} {oc_sHolders kV_sHolders dc_sHolders pm_sHolders cd_sHolders ct_sHolders : Value}
    {f_lPool : Addr} {od_lPool an_lPool : Option Addr} {sl_lPool : Array (Option Value)} {oc_lPool kV_lPool dc_lPool pm_lPool cd_lPool ct_lPool : Value}
    {f_lDraw : Addr} {od_lDraw an_lDraw : Option Addr} {sl_lDraw : Array (Option Value)} {oc_lDraw kV_lDraw dc_lDraw pm_lDraw cd_lDraw ct_lDraw : Value}
    {f_lSame : Addr} {od_lSame an_lSame : Option Addr} {sl_lSame : Array (Option Value)} {oc_lSame kV_lSame dc_lSame pm_lSame cd_lSame ct_lSame : Value}
    {f_lNew : Addr} {od_lNew an_lNew : Option Addr} {sl_lNew : Array (Option Value)} {oc_lNew kV_lNew dc_lNew pm_lNew cd_lNew ct_lNew : Value}
    {f_lPath : Addr} {od_lPath an_lPath : Option Addr} {sl_lPath : Array (Option Value)} {oc_lPath kV_lPath dc_lPath pm_lPath cd_lPath ct_lPath : Value}
    {f_lLetters : Addr} {od_lLetters an_lLetters : Option Addr} {sl_lLetters : Array (Option Value)} {oc_lLetters kV_lLetters dc_lLetters pm_lLetters cd_lLetters ct_lLetters : Value}
    {f_lRow : Addr} {od_lRow an_lRow : Option Addr} {sl_lRow : Array (Option Value)} {oc_lRow kV_lRow dc_lRow pm_lRow cd_lRow ct_lRow : Value}
    {f_lUses : Addr} {od_lUses an_lUses : Option Addr} {sl_lUses : Array (Option Value)} {oc_lUses kV_lUses dc_lUses pm_lUses cd_lUses ct_lUses : Value}
    {f_lKnown : Addr} {od_lKnown an_lKnown : Option Addr} {sl_lKnown : Array (Option Value)} {oc_lKnown kV_lKnown dc_lKnown pm_lKnown cd_lKnown ct_lKnown : Value}
    {f_lRel : Addr} {od_lRel an_lRel : Option Addr} {sl_lRel : Array (Option Value)} {oc_lRel kV_lRel dc_lRel pm_lRel cd_lRel ct_lRel : Value}
    {f_lDropped : Addr} {od_lDropped an_lDropped : Option Addr} {sl_lDropped : Array (Option Value)} {oc_lDropped kV_lDropped dc_lDropped pm_lDropped cd_lDropped ct_lDropped : Value}
    {f_lAs : Addr} {od_lAs an_lAs : Option Addr} {sl_lAs : Array (Option Value)} {oc_lAs kV_lAs dc_lAs pm_lAs cd_lAs ct_lAs : Value}
    {f_lFilled : Addr} {od_lFilled an_lFilled : Option Addr} {sl_lFilled : Array (Option Value)} {oc_lFilled kV_lFilled dc_lFilled pm_lFilled cd_lFilled ct_lFilled : Value}
    {f_lShown : Addr} {od_lShown an_lShown : Option Addr} {sl_lShown : Array (Option Value)} {oc_lShown kV_lShown dc_lShown pm_lShown cd_lShown ct_lShown : Value}
    {f_lPut : Addr} {od_lPut an_lPut : Option Addr} {sl_lPut : Array (Option Value)} {oc_lPut kV_lPut dc_lPut pm_lPut cd_lPut ct_lPut : Value}
    {f_lHeld : Addr} {od_lHeld an_lHeld : Option Addr} {sl_lHeld : Array (Option Value)} {oc_lHeld kV_lHeld dc_lHeld pm_lHeld cd_lHeld ct_lHeld : Value}
    {f_lStay : Addr} {od_lStay an_lStay : Option Addr} {sl_lStay : Array (Option Value)} {oc_lStay kV_lStay dc_lStay pm_lStay cd_lStay ct_lStay : Value}
    {f_law : Addr} {od_law an_law : Option Addr} {sl_law : Array (Option Value)} {oc_law kV_law dc_law pm_law cd_law ct_law : Value}
    (aT : PySem.W.nsIn K mainGlobals "Tree" = some (some (.ref T)))
    (pgT : PySem.W.plainGet K T Str.empty = true)
    (hdT : PySem.W.hasDictIn K T = true)
    (poT : PySem.W.plainOver K T = true)
    (saT : PySem.W.findIn K (.ref T) "__setattr__" = some (some (.builtin "object.__setattr__")))
    (mkT : PySem.W.makesIn K T = true)
    (kcT : PySem.W.keepIn K (.ref T) = true)
    (nT_store : PySem.W.findIn K (.ref T) "store" = some none)
    (nT_paths : PySem.W.findIn K (.ref T) "paths" = some none)
    (nT_under : PySem.W.findIn K (.ref T) "under" = some none)
    (nT_used : PySem.W.findIn K (.ref T) "used" = some none)
    (nT_clock : PySem.W.findIn K (.ref T) "clock" = some none)
    (aS : PySem.W.nsIn K mainGlobals "Store" = some (some (.ref S)))
    (pgS : PySem.W.plainGet K S Str.empty = true)
    (hdS : PySem.W.hasDictIn K S = true)
    (poS : PySem.W.plainOver K S = true)
    (saS : PySem.W.findIn K (.ref S) "__setattr__" = some (some (.builtin "object.__setattr__")))
    (mkS : PySem.W.makesIn K S = true)
    (kcS : PySem.W.keepIn K (.ref S) = true)
    (nS_many : PySem.W.findIn K (.ref S) "many" = some none)
    (nS_size : PySem.W.findIn K (.ref S) "size" = some none)
    (nS_counts : PySem.W.findIn K (.ref S) "counts" = some none)
    (nS_kept : PySem.W.findIn K (.ref S) "kept" = some none)
    (mb : PySem.W.nsIn K mainGlobals "MOST_BLOCKS" = some (some (.int 60 tb)))
    (mr : PySem.W.nsIn K mainGlobals "MOST_ROWS" = some (some (.int 8 tr)))
    (g_tuple : PySem.W.nsIn K mainGlobals "tuple" = some none)
    (g_len : PySem.W.nsIn K mainGlobals "len" = some none)
    (g_sorted : PySem.W.nsIn K mainGlobals "sorted" = some none)
    (g_iter : PySem.W.nsIn K mainGlobals "iter" = some none)
    (g_isinstance : PySem.W.nsIn K mainGlobals "isinstance" = some none)
    (g_int : PySem.W.nsIn K mainGlobals "int" = some none)
    (g_bool : PySem.W.nsIn K mainGlobals "bool" = some none)
    (g_str : PySem.W.nsIn K mainGlobals "str" = some none)
    (g_range : PySem.W.nsIn K mainGlobals "range" = some none)
    (g_abs : PySem.W.nsIn K mainGlobals "abs" = some none)
    (g_min : PySem.W.nsIn K mainGlobals "min" = some none)
    (g_list : PySem.W.nsIn K mainGlobals "list" = some none)
    (g_sum : PySem.W.nsIn K mainGlobals "sum" = some none)
    (fp : PySem.W.findIn K (.ref S) "free" = some (some (.ref fr)))
    (fg : PySem.W.specialIn K (.ref fr) "__get__" = some (some (.builtin "property.__get__")))
    (ft : PySem.W.takesIn K (.ref fr) = some true)
    (fx : PySem.W.recIn K fr "property" = some (.ref f_sFree :: rest))
    (a_tInit : PySem.W.findIn K (.ref T) "__init__" = some (some (.ref f_tInit)))
    (i_tInit : PySem.W.isFn K (.ref f_tInit) = true)
    (l_tInit : K.lookup f_tInit = some ⟨oc_tInit, od_tInit, .func (PySem.W.fnOf "__init__" "Tree.__init__" (defArgs sTInit) (defBody sTInit) (defScope sTInit) .none kV_tInit dc_tInit pm_tInit an_tInit cd_tInit ct_tInit), sl_tInit⟩)
    (c_tInit : PySem.W.codeIn K cd_tInit "Tree.__init__" = true)
    (k_tInit : PySem.W.keepIn K (.ref f_tInit) = true)
    (a_tBeg : PySem.W.findIn K (.ref T) "beginnings" = some (some (.ref f_tBeg)))
    (i_tBeg : PySem.W.isFn K (.ref f_tBeg) = true)
    (l_tBeg : K.lookup f_tBeg = some ⟨oc_tBeg, od_tBeg, .func (PySem.W.fnOf "beginnings" "Tree.beginnings" (defArgs sTBeg) (defBody sTBeg) (defScope sTBeg) .none kV_tBeg dc_tBeg pm_tBeg an_tBeg cd_tBeg ct_tBeg), sl_tBeg⟩)
    (c_tBeg : PySem.W.codeIn K cd_tBeg "Tree.beginnings" = true)
    (k_tBeg : PySem.W.keepIn K (.ref f_tBeg) = true)
    (a_tUse : PySem.W.findIn K (.ref T) "use" = some (some (.ref f_tUse)))
    (i_tUse : PySem.W.isFn K (.ref f_tUse) = true)
    (l_tUse : K.lookup f_tUse = some ⟨oc_tUse, od_tUse, .func (PySem.W.fnOf "use" "Tree.use" (defArgs sTUse) (defBody sTUse) (defScope sTUse) .none kV_tUse dc_tUse pm_tUse an_tUse cd_tUse ct_tUse), sl_tUse⟩)
    (c_tUse : PySem.W.codeIn K cd_tUse "Tree.use" = true)
    (k_tUse : PySem.W.keepIn K (.ref f_tUse) = true)
    (a_tKnown : PySem.W.findIn K (.ref T) "known" = some (some (.ref f_tKnown)))
    (i_tKnown : PySem.W.isFn K (.ref f_tKnown) = true)
    (l_tKnown : K.lookup f_tKnown = some ⟨oc_tKnown, od_tKnown, .func (PySem.W.fnOf "known" "Tree.known" (defArgs sTKnown) (defBody sTKnown) (defScope sTKnown) .none kV_tKnown dc_tKnown pm_tKnown an_tKnown cd_tKnown ct_tKnown), sl_tKnown⟩)
    (c_tKnown : PySem.W.codeIn K cd_tKnown "Tree.known" = true)
    (k_tKnown : PySem.W.keepIn K (.ref f_tKnown) = true)
    (a_tPut : PySem.W.findIn K (.ref T) "put" = some (some (.ref f_tPut)))
    (i_tPut : PySem.W.isFn K (.ref f_tPut) = true)
    (l_tPut : K.lookup f_tPut = some ⟨oc_tPut, od_tPut, .func (PySem.W.fnOf "put" "Tree.put" (defArgs sTPut) (defBody sTPut) (defScope sTPut) .none kV_tPut dc_tPut pm_tPut an_tPut cd_tPut ct_tPut), sl_tPut⟩)
    (c_tPut : PySem.W.codeIn K cd_tPut "Tree.put" = true)
    (k_tPut : PySem.W.keepIn K (.ref f_tPut) = true)
    (a_tEnds : PySem.W.findIn K (.ref T) "ends_of" = some (some (.ref f_tEnds)))
    (i_tEnds : PySem.W.isFn K (.ref f_tEnds) = true)
    (l_tEnds : K.lookup f_tEnds = some ⟨oc_tEnds, od_tEnds, .func (PySem.W.fnOf "ends_of" "Tree.ends_of" (defArgs sTEnds) (defBody sTEnds) (defScope sTEnds) .none kV_tEnds dc_tEnds pm_tEnds an_tEnds cd_tEnds ct_tEnds), sl_tEnds⟩)
    (c_tEnds : PySem.W.codeIn K cd_tEnds "Tree.ends_of" = true)
    (k_tEnds : PySem.W.keepIn K (.ref f_tEnds) = true)
    (a_tOldest : PySem.W.findIn K (.ref T) "oldest_of" = some (some (.ref f_tOldest)))
    (i_tOldest : PySem.W.isFn K (.ref f_tOldest) = true)
    (l_tOldest : K.lookup f_tOldest = some ⟨oc_tOldest, od_tOldest, .func (PySem.W.fnOf "oldest_of" "Tree.oldest_of" (defArgs sTOldest) (defBody sTOldest) (defScope sTOldest) .none kV_tOldest dc_tOldest pm_tOldest an_tOldest cd_tOldest ct_tOldest), sl_tOldest⟩)
    (c_tOldest : PySem.W.codeIn K cd_tOldest "Tree.oldest_of" = true)
    (k_tOldest : PySem.W.keepIn K (.ref f_tOldest) = true)
    (a_tDrop : PySem.W.findIn K (.ref T) "drop" = some (some (.ref f_tDrop)))
    (i_tDrop : PySem.W.isFn K (.ref f_tDrop) = true)
    (l_tDrop : K.lookup f_tDrop = some ⟨oc_tDrop, od_tDrop, .func (PySem.W.fnOf "drop" "Tree.drop" (defArgs sTDrop) (defBody sTDrop) (defScope sTDrop) .none kV_tDrop dc_tDrop pm_tDrop an_tDrop cd_tDrop ct_tDrop), sl_tDrop⟩)
    (c_tDrop : PySem.W.codeIn K cd_tDrop "Tree.drop" = true)
    (k_tDrop : PySem.W.keepIn K (.ref f_tDrop) = true)
    (a_tLen : PySem.W.findIn K (.ref T) "__len__" = some (some (.ref f_tLen)))
    (i_tLen : PySem.W.isFn K (.ref f_tLen) = true)
    (l_tLen : K.lookup f_tLen = some ⟨oc_tLen, od_tLen, .func (PySem.W.fnOf "__len__" "Tree.__len__" (defArgs sTLen) (defBody sTLen) (defScope sTLen) .none kV_tLen dc_tLen pm_tLen an_tLen cd_tLen ct_tLen), sl_tLen⟩)
    (c_tLen : PySem.W.codeIn K cd_tLen "Tree.__len__" = true)
    (k_tLen : PySem.W.keepIn K (.ref f_tLen) = true)
    (a_tIter : PySem.W.findIn K (.ref T) "__iter__" = some (some (.ref f_tIter)))
    (i_tIter : PySem.W.isFn K (.ref f_tIter) = true)
    (l_tIter : K.lookup f_tIter = some ⟨oc_tIter, od_tIter, .func (PySem.W.fnOf "__iter__" "Tree.__iter__" (defArgs sTIter) (defBody sTIter) (defScope sTIter) .none kV_tIter dc_tIter pm_tIter an_tIter cd_tIter ct_tIter), sl_tIter⟩)
    (c_tIter : PySem.W.codeIn K cd_tIter "Tree.__iter__" = true)
    (k_tIter : PySem.W.keepIn K (.ref f_tIter) = true)
    (a_btw : PySem.W.nsIn K mainGlobals "is_between" = some (some (.ref f_btw)))
    (l_btw : K.lookup f_btw = some ⟨oc_btw, od_btw, .func (PySem.W.fnOf "is_between" "is_between" (defArgs sBtw) (defBody sBtw) (defScope sBtw) .none kV_btw dc_btw pm_btw an_btw cd_btw ct_btw), sl_btw⟩)
    (c_btw : PySem.W.codeIn K cd_btw "is_between" = true)
    (k_btw : PySem.W.keepIn K (.ref f_btw) = true)
    (a_sInit : PySem.W.findIn K (.ref S) "__init__" = some (some (.ref f_sInit)))
    (i_sInit : PySem.W.isFn K (.ref f_sInit) = true)
    (l_sInit : K.lookup f_sInit = some ⟨oc_sInit, od_sInit, .func (PySem.W.fnOf "__init__" "Store.__init__" (defArgs sSInit) (defBody sSInit) (defScope sSInit) .none kV_sInit dc_sInit pm_sInit an_sInit cd_sInit ct_sInit), sl_sInit⟩)
    (c_sInit : PySem.W.codeIn K cd_sInit "Store.__init__" = true)
    (k_sInit : PySem.W.keepIn K (.ref f_sInit) = true)
    (l_sFree : K.lookup f_sFree = some ⟨oc_sFree, od_sFree, .func (PySem.W.fnOf "free" "Store.free" (defArgs sSFree) (defBody sSFree) (defScope sSFree) .none kV_sFree dc_sFree pm_sFree an_sFree cd_sFree ct_sFree), sl_sFree⟩)
    (c_sFree : PySem.W.codeIn K cd_sFree "Store.free" = true)
    (k_sFree : PySem.W.keepIn K (.ref f_sFree) = true)
    (a_sHeld : PySem.W.findIn K (.ref S) "check_held" = some (some (.ref f_sHeld)))
    (i_sHeld : PySem.W.isFn K (.ref f_sHeld) = true)
    (l_sHeld : K.lookup f_sHeld = some ⟨oc_sHeld, od_sHeld, .func (PySem.W.fnOf "check_held" "Store.check_held" (defArgs sSHeld) (defBody sSHeld) (defScope sSHeld) .none kV_sHeld dc_sHeld pm_sHeld an_sHeld cd_sHeld ct_sHeld), sl_sHeld⟩)
    (c_sHeld : PySem.W.codeIn K cd_sHeld "Store.check_held" = true)
    (k_sHeld : PySem.W.keepIn K (.ref f_sHeld) = true)
    (a_sAlone : PySem.W.findIn K (.ref S) "check_alone" = some (some (.ref f_sAlone)))
    (i_sAlone : PySem.W.isFn K (.ref f_sAlone) = true)
    (l_sAlone : K.lookup f_sAlone = some ⟨oc_sAlone, od_sAlone, .func (PySem.W.fnOf "check_alone" "Store.check_alone" (defArgs sSAlone) (defBody sSAlone) (defScope sSAlone) .none kV_sAlone dc_sAlone pm_sAlone an_sAlone cd_sAlone ct_sAlone), sl_sAlone⟩)
    (c_sAlone : PySem.W.codeIn K cd_sAlone "Store.check_alone" = true)
    (k_sAlone : PySem.W.keepIn K (.ref f_sAlone) = true)
    (a_sTake : PySem.W.findIn K (.ref S) "take" = some (some (.ref f_sTake)))
    (i_sTake : PySem.W.isFn K (.ref f_sTake) = true)
    (l_sTake : K.lookup f_sTake = some ⟨oc_sTake, od_sTake, .func (PySem.W.fnOf "take" "Store.take" (defArgs sSTake) (defBody sSTake) (defScope sSTake) .none kV_sTake dc_sTake pm_sTake an_sTake cd_sTake ct_sTake), sl_sTake⟩)
    (c_sTake : PySem.W.codeIn K cd_sTake "Store.take" = true)
    (k_sTake : PySem.W.keepIn K (.ref f_sTake) = true)
    (a_sHold : PySem.W.findIn K (.ref S) "hold" = some (some (.ref f_sHold)))
    (i_sHold : PySem.W.isFn K (.ref f_sHold) = true)
    (l_sHold : K.lookup f_sHold = some ⟨oc_sHold, od_sHold, .func (PySem.W.fnOf "hold" "Store.hold" (defArgs sSHold) (defBody sSHold) (defScope sSHold) .none kV_sHold dc_sHold pm_sHold an_sHold cd_sHold ct_sHold), sl_sHold⟩)
    (c_sHold : PySem.W.codeIn K cd_sHold "Store.hold" = true)
    (k_sHold : PySem.W.keepIn K (.ref f_sHold) = true)
    (a_sRel : PySem.W.findIn K (.ref S) "release" = some (some (.ref f_sRel)))
    (i_sRel : PySem.W.isFn K (.ref f_sRel) = true)
    (l_sRel : K.lookup f_sRel = some ⟨oc_sRel, od_sRel, .func (PySem.W.fnOf "release" "Store.release" (defArgs sSRel) (defBody sSRel) (defScope sSRel) .none kV_sRel dc_sRel pm_sRel an_sRel cd_sRel ct_sRel), sl_sRel⟩)
    (c_sRel : PySem.W.codeIn K cd_sRel "Store.release" = true)
    (k_sRel : PySem.W.keepIn K (.ref f_sRel) = true)
    (a_sRow : PySem.W.findIn K (.ref S) "put_row" = some (some (.ref f_sRow)))
    (i_sRow : PySem.W.isFn K (.ref f_sRow) = true)
    (l_sRow : K.lookup f_sRow = some ⟨oc_sRow, od_sRow, .func (PySem.W.fnOf "put_row" "Store.put_row" (defArgs sSRow) (defBody sSRow) (defScope sSRow) .none kV_sRow dc_sRow pm_sRow an_sRow cd_sRow ct_sRow), sl_sRow⟩)
    (c_sRow : PySem.W.codeIn K cd_sRow "Store.put_row" = true)
    (k_sRow : PySem.W.keepIn K (.ref f_sRow) = true)
    (a_sRows : PySem.W.findIn K (.ref S) "rows" = some (some (.ref f_sRows)))
    (i_sRows : PySem.W.isFn K (.ref f_sRows) = true)
    (l_sRows : K.lookup f_sRows = some ⟨oc_sRows, od_sRows, .func (PySem.W.fnOf "rows" "Store.rows" (defArgs sSRows) (defBody sSRows) (defScope sSRows) .none kV_sRows dc_sRows pm_sRows an_sRows cd_sRows ct_sRows), sl_sRows⟩)
    (c_sRows : PySem.W.codeIn K cd_sRows "Store.rows" = true)
    (k_sRows : PySem.W.keepIn K (.ref f_sRows) = true)
    (a_sHolders : PySem.W.findIn K (.ref S) "holders" = some (some (.ref f_sHolders)))
    (i_sHolders : PySem.W.isFn K (.ref f_sHolders) = true)
    (l_sHolders : K.lookup f_sHolders = some ⟨oc_sHolders, od_sHolders, .func (PySem.W.fnOf "holders" "Store.holders" (defArgs sSHolders) (defBody sSHolders) (defScope sSHolders) .none kV_sHolders dc_sHolders pm_sHolders an_sHolders cd_sHolders ct_sHolders), sl_sHolders⟩)
    (c_sHolders : PySem.W.codeIn K cd_sHolders "Store.holders" = true)
    (k_sHolders : PySem.W.keepIn K (.ref f_sHolders) = true)
    (a_lPool : PySem.W.nsIn K mainGlobals "_law_pool" = some (some (.ref f_lPool)))
    (l_lPool : K.lookup f_lPool = some ⟨oc_lPool, od_lPool, .func (PySem.W.fnOf "_law_pool" "_law_pool" (defArgs sLPool) (defBody sLPool) (defScope sLPool) .none kV_lPool dc_lPool pm_lPool an_lPool cd_lPool ct_lPool), sl_lPool⟩)
    (c_lPool : PySem.W.codeIn K cd_lPool "_law_pool" = true)
    (k_lPool : PySem.W.keepIn K (.ref f_lPool) = true)
    (a_lDraw : PySem.W.nsIn K mainGlobals "_law_draw" = some (some (.ref f_lDraw)))
    (l_lDraw : K.lookup f_lDraw = some ⟨oc_lDraw, od_lDraw, .func (PySem.W.fnOf "_law_draw" "_law_draw" (defArgs sLDraw) (defBody sLDraw) (defScope sLDraw) .none kV_lDraw dc_lDraw pm_lDraw an_lDraw cd_lDraw ct_lDraw), sl_lDraw⟩)
    (c_lDraw : PySem.W.codeIn K cd_lDraw "_law_draw" = true)
    (k_lDraw : PySem.W.keepIn K (.ref f_lDraw) = true)
    (a_lSame : PySem.W.nsIn K mainGlobals "_law_same" = some (some (.ref f_lSame)))
    (l_lSame : K.lookup f_lSame = some ⟨oc_lSame, od_lSame, .func (PySem.W.fnOf "_law_same" "_law_same" (defArgs sLSame) (defBody sLSame) (defScope sLSame) .none kV_lSame dc_lSame pm_lSame an_lSame cd_lSame ct_lSame), sl_lSame⟩)
    (c_lSame : PySem.W.codeIn K cd_lSame "_law_same" = true)
    (k_lSame : PySem.W.keepIn K (.ref f_lSame) = true)
    (a_lNew : PySem.W.nsIn K mainGlobals "_law_new" = some (some (.ref f_lNew)))
    (l_lNew : K.lookup f_lNew = some ⟨oc_lNew, od_lNew, .func (PySem.W.fnOf "_law_new" "_law_new" (defArgs sLNew) (defBody sLNew) (defScope sLNew) .none kV_lNew dc_lNew pm_lNew an_lNew cd_lNew ct_lNew), sl_lNew⟩)
    (c_lNew : PySem.W.codeIn K cd_lNew "_law_new" = true)
    (k_lNew : PySem.W.keepIn K (.ref f_lNew) = true)
    (a_lPath : PySem.W.nsIn K mainGlobals "_law_path" = some (some (.ref f_lPath)))
    (l_lPath : K.lookup f_lPath = some ⟨oc_lPath, od_lPath, .func (PySem.W.fnOf "_law_path" "_law_path" (defArgs sLPath) (defBody sLPath) (defScope sLPath) .none kV_lPath dc_lPath pm_lPath an_lPath cd_lPath ct_lPath), sl_lPath⟩)
    (c_lPath : PySem.W.codeIn K cd_lPath "_law_path" = true)
    (k_lPath : PySem.W.keepIn K (.ref f_lPath) = true)
    (a_lLetters : PySem.W.nsIn K mainGlobals "_law_letters" = some (some (.ref f_lLetters)))
    (l_lLetters : K.lookup f_lLetters = some ⟨oc_lLetters, od_lLetters, .func (PySem.W.fnOf "_law_letters" "_law_letters" (defArgs sLLetters) (defBody sLLetters) (defScope sLLetters) .none kV_lLetters dc_lLetters pm_lLetters an_lLetters cd_lLetters ct_lLetters), sl_lLetters⟩)
    (c_lLetters : PySem.W.codeIn K cd_lLetters "_law_letters" = true)
    (k_lLetters : PySem.W.keepIn K (.ref f_lLetters) = true)
    (a_lRow : PySem.W.nsIn K mainGlobals "_law_row" = some (some (.ref f_lRow)))
    (l_lRow : K.lookup f_lRow = some ⟨oc_lRow, od_lRow, .func (PySem.W.fnOf "_law_row" "_law_row" (defArgs sLRow) (defBody sLRow) (defScope sLRow) .none kV_lRow dc_lRow pm_lRow an_lRow cd_lRow ct_lRow), sl_lRow⟩)
    (c_lRow : PySem.W.codeIn K cd_lRow "_law_row" = true)
    (k_lRow : PySem.W.keepIn K (.ref f_lRow) = true)
    (a_lUses : PySem.W.nsIn K mainGlobals "_law_uses" = some (some (.ref f_lUses)))
    (l_lUses : K.lookup f_lUses = some ⟨oc_lUses, od_lUses, .func (PySem.W.fnOf "_law_uses" "_law_uses" (defArgs sLUses) (defBody sLUses) (defScope sLUses) .none kV_lUses dc_lUses pm_lUses an_lUses cd_lUses ct_lUses), sl_lUses⟩)
    (c_lUses : PySem.W.codeIn K cd_lUses "_law_uses" = true)
    (k_lUses : PySem.W.keepIn K (.ref f_lUses) = true)
    (a_lKnown : PySem.W.nsIn K mainGlobals "_law_known" = some (some (.ref f_lKnown)))
    (l_lKnown : K.lookup f_lKnown = some ⟨oc_lKnown, od_lKnown, .func (PySem.W.fnOf "_law_known" "_law_known" (defArgs sLKnown) (defBody sLKnown) (defScope sLKnown) .none kV_lKnown dc_lKnown pm_lKnown an_lKnown cd_lKnown ct_lKnown), sl_lKnown⟩)
    (c_lKnown : PySem.W.codeIn K cd_lKnown "_law_known" = true)
    (k_lKnown : PySem.W.keepIn K (.ref f_lKnown) = true)
    (a_lRel : PySem.W.nsIn K mainGlobals "_law_release" = some (some (.ref f_lRel)))
    (l_lRel : K.lookup f_lRel = some ⟨oc_lRel, od_lRel, .func (PySem.W.fnOf "_law_release" "_law_release" (defArgs sLRel) (defBody sLRel) (defScope sLRel) .none kV_lRel dc_lRel pm_lRel an_lRel cd_lRel ct_lRel), sl_lRel⟩)
    (c_lRel : PySem.W.codeIn K cd_lRel "_law_release" = true)
    (k_lRel : PySem.W.keepIn K (.ref f_lRel) = true)
    (a_lDropped : PySem.W.nsIn K mainGlobals "_law_dropped" = some (some (.ref f_lDropped)))
    (l_lDropped : K.lookup f_lDropped = some ⟨oc_lDropped, od_lDropped, .func (PySem.W.fnOf "_law_dropped" "_law_dropped" (defArgs sLDropped) (defBody sLDropped) (defScope sLDropped) .none kV_lDropped dc_lDropped pm_lDropped an_lDropped cd_lDropped ct_lDropped), sl_lDropped⟩)
    (c_lDropped : PySem.W.codeIn K cd_lDropped "_law_dropped" = true)
    (k_lDropped : PySem.W.keepIn K (.ref f_lDropped) = true)
    (a_lAs : PySem.W.nsIn K mainGlobals "_law_as" = some (some (.ref f_lAs)))
    (l_lAs : K.lookup f_lAs = some ⟨oc_lAs, od_lAs, .func (PySem.W.fnOf "_law_as" "_law_as" (defArgs sLAs) (defBody sLAs) (defScope sLAs) .none kV_lAs dc_lAs pm_lAs an_lAs cd_lAs ct_lAs), sl_lAs⟩)
    (c_lAs : PySem.W.codeIn K cd_lAs "_law_as" = true)
    (k_lAs : PySem.W.keepIn K (.ref f_lAs) = true)
    (a_lFilled : PySem.W.nsIn K mainGlobals "_law_filled" = some (some (.ref f_lFilled)))
    (l_lFilled : K.lookup f_lFilled = some ⟨oc_lFilled, od_lFilled, .func (PySem.W.fnOf "_law_filled" "_law_filled" (defArgs sLFilled) (defBody sLFilled) (defScope sLFilled) .none kV_lFilled dc_lFilled pm_lFilled an_lFilled cd_lFilled ct_lFilled), sl_lFilled⟩)
    (c_lFilled : PySem.W.codeIn K cd_lFilled "_law_filled" = true)
    (k_lFilled : PySem.W.keepIn K (.ref f_lFilled) = true)
    (a_lShown : PySem.W.nsIn K mainGlobals "_law_shown" = some (some (.ref f_lShown)))
    (l_lShown : K.lookup f_lShown = some ⟨oc_lShown, od_lShown, .func (PySem.W.fnOf "_law_shown" "_law_shown" (defArgs sLShown) (defBody sLShown) (defScope sLShown) .none kV_lShown dc_lShown pm_lShown an_lShown cd_lShown ct_lShown), sl_lShown⟩)
    (c_lShown : PySem.W.codeIn K cd_lShown "_law_shown" = true)
    (k_lShown : PySem.W.keepIn K (.ref f_lShown) = true)
    (a_lPut : PySem.W.nsIn K mainGlobals "_law_put" = some (some (.ref f_lPut)))
    (l_lPut : K.lookup f_lPut = some ⟨oc_lPut, od_lPut, .func (PySem.W.fnOf "_law_put" "_law_put" (defArgs sLPut) (defBody sLPut) (defScope sLPut) .none kV_lPut dc_lPut pm_lPut an_lPut cd_lPut ct_lPut), sl_lPut⟩)
    (c_lPut : PySem.W.codeIn K cd_lPut "_law_put" = true)
    (k_lPut : PySem.W.keepIn K (.ref f_lPut) = true)
    (a_lHeld : PySem.W.nsIn K mainGlobals "_law_held" = some (some (.ref f_lHeld)))
    (l_lHeld : K.lookup f_lHeld = some ⟨oc_lHeld, od_lHeld, .func (PySem.W.fnOf "_law_held" "_law_held" (defArgs sLHeld) (defBody sLHeld) (defScope sLHeld) .none kV_lHeld dc_lHeld pm_lHeld an_lHeld cd_lHeld ct_lHeld), sl_lHeld⟩)
    (c_lHeld : PySem.W.codeIn K cd_lHeld "_law_held" = true)
    (k_lHeld : PySem.W.keepIn K (.ref f_lHeld) = true)
    (a_lStay : PySem.W.nsIn K mainGlobals "_law_rows_stay" = some (some (.ref f_lStay)))
    (l_lStay : K.lookup f_lStay = some ⟨oc_lStay, od_lStay, .func (PySem.W.fnOf "_law_rows_stay" "_law_rows_stay" (defArgs sLStay) (defBody sLStay) (defScope sLStay) .none kV_lStay dc_lStay pm_lStay an_lStay cd_lStay ct_lStay), sl_lStay⟩)
    (c_lStay : PySem.W.codeIn K cd_lStay "_law_rows_stay" = true)
    (k_lStay : PySem.W.keepIn K (.ref f_lStay) = true)
    (a_law : PySem.W.nsIn K mainGlobals "law" = some (some (.ref f_law)))
    (l_law : K.lookup f_law = some ⟨oc_law, od_law, .func (PySem.W.fnOf "law" "law" (defArgs sLaw) (defBody sLaw) (defScope sLaw) .none kV_law dc_law pm_law an_law cd_law ct_law), sl_law⟩)
    (c_law : PySem.W.codeIn K cd_law "law" = true)
    (k_law : PySem.W.keepIn K (.ref f_law) = true)
    : ∃ fd : FuncData, (∀ (s : Shared) (v : Value), BindsTo s fd ⟨[v], []⟩ [("_law_script", v)]) ∧ ∀ base : Heap, K.In base → base.Ns mainGlobals mg → FnOk l.prog w K mg base CX0 12 fa fd ["_law_script"] (spLaw K) := by
  have e := hfa.symm.trans (PySem.W.mg_of X G a_law)
  cases e
  have F_tInit := fun_mk (st := sTInit) l_tInit c_tInit k_tInit
  have b_tInit := F_tInit.binds (ps := ["self", "store"]) fun _ _ _ _ _ _ us hl => match us, hl with | [_, _], _ => rfl
  have F_tBeg := fun_mk (st := sTBeg) l_tBeg c_tBeg k_tBeg
  have b_tBeg := F_tBeg.binds (ps := ["self", "letters"]) fun _ _ _ _ _ _ us hl => match us, hl with | [_, _], _ => rfl
  have F_tUse := fun_mk (st := sTUse) l_tUse c_tUse k_tUse
  have b_tUse := F_tUse.binds (ps := ["self", "paths"]) fun _ _ _ _ _ _ us hl => match us, hl with | [_, _], _ => rfl
  have F_tKnown := fun_mk (st := sTKnown) l_tKnown c_tKnown k_tKnown
  have b_tKnown := F_tKnown.binds (ps := ["self", "letters"]) fun _ _ _ _ _ _ us hl => match us, hl with | [_, _], _ => rfl
  have F_tPut := fun_mk (st := sTPut) l_tPut c_tPut k_tPut
  have b_tPut := F_tPut.binds (ps := ["self", "path", "block"]) fun _ _ _ _ _ _ us hl => match us, hl with | [_, _, _], _ => rfl
  have F_tEnds := fun_mk (st := sTEnds) l_tEnds c_tEnds k_tEnds
  have b_tEnds := F_tEnds.binds (ps := ["self", "paths"]) fun _ _ _ _ _ _ us hl => match us, hl with | [_, _], _ => rfl
  have F_tOldest := fun_mk (st := sTOldest) l_tOldest c_tOldest k_tOldest
  have b_tOldest := F_tOldest.binds (ps := ["self", "paths"]) fun _ _ _ _ _ _ us hl => match us, hl with | [_, _], _ => rfl
  have F_tDrop := fun_mk (st := sTDrop) l_tDrop c_tDrop k_tDrop
  have b_tDrop := F_tDrop.binds (ps := ["self"]) fun _ _ _ _ _ _ us hl => match us, hl with | [_], _ => rfl
  have F_tLen := fun_mk (st := sTLen) l_tLen c_tLen k_tLen
  have b_tLen := F_tLen.binds (ps := ["self"]) fun _ _ _ _ _ _ us hl => match us, hl with | [_], _ => rfl
  have F_tIter := fun_mk (st := sTIter) l_tIter c_tIter k_tIter
  have b_tIter := F_tIter.binds (ps := ["self"]) fun _ _ _ _ _ _ us hl => match us, hl with | [_], _ => rfl
  have F_btw := fun_mk (st := sBtw) l_btw c_btw k_btw
  have b_btw := F_btw.binds (ps := ["value", "least", "most"]) fun _ _ _ _ _ _ us hl => match us, hl with | [_, _, _], _ => rfl
  have F_sInit := fun_mk (st := sSInit) l_sInit c_sInit k_sInit
  have b_sInit := F_sInit.binds (ps := ["self", "many", "size"]) fun _ _ _ _ _ _ us hl => match us, hl with | [_, _, _], _ => rfl
  have F_sFree := fun_mk (st := sSFree) l_sFree c_sFree k_sFree
  have b_sFree := F_sFree.binds (ps := ["self"]) fun _ _ _ _ _ _ us hl => match us, hl with | [_], _ => rfl
  have F_sHeld := fun_mk (st := sSHeld) l_sHeld c_sHeld k_sHeld
  have b_sHeld := F_sHeld.binds (ps := ["self", "block"]) fun _ _ _ _ _ _ us hl => match us, hl with | [_, _], _ => rfl
  have F_sAlone := fun_mk (st := sSAlone) l_sAlone c_sAlone k_sAlone
  have b_sAlone := F_sAlone.binds (ps := ["self", "block"]) fun _ _ _ _ _ _ us hl => match us, hl with | [_, _], _ => rfl
  have F_sTake := fun_mk (st := sSTake) l_sTake c_sTake k_sTake
  have b_sTake := F_sTake.binds (ps := ["self"]) fun _ _ _ _ _ _ us hl => match us, hl with | [_], _ => rfl
  have F_sHold := fun_mk (st := sSHold) l_sHold c_sHold k_sHold
  have b_sHold := F_sHold.binds (ps := ["self", "block"]) fun _ _ _ _ _ _ us hl => match us, hl with | [_, _], _ => rfl
  have F_sRel := fun_mk (st := sSRel) l_sRel c_sRel k_sRel
  have b_sRel := F_sRel.binds (ps := ["self", "block"]) fun _ _ _ _ _ _ us hl => match us, hl with | [_, _], _ => rfl
  have F_sRow := fun_mk (st := sSRow) l_sRow c_sRow k_sRow
  have b_sRow := F_sRow.binds (ps := ["self", "block", "row"]) fun _ _ _ _ _ _ us hl => match us, hl with | [_, _, _], _ => rfl
  have F_sRows := fun_mk (st := sSRows) l_sRows c_sRows k_sRows
  have b_sRows := F_sRows.binds (ps := ["self", "block"]) fun _ _ _ _ _ _ us hl => match us, hl with | [_, _], _ => rfl
  have F_sHolders := fun_mk (st := sSHolders) l_sHolders c_sHolders k_sHolders
  have b_sHolders := F_sHolders.binds (ps := ["self", "block"]) fun _ _ _ _ _ _ us hl => match us, hl with | [_, _], _ => rfl
  have F_lPool := fun_mk (st := sLPool) l_lPool c_lPool k_lPool
  have b_lPool := F_lPool.binds (ps := ["_law_script", "_law_many"]) fun _ _ _ _ _ _ us hl => match us, hl with | [_, _], _ => rfl
  have F_lDraw := fun_mk (st := sLDraw) l_lDraw c_lDraw k_lDraw
  have b_lDraw := F_lDraw.binds (ps := ["_law_pool_here", "_law_many"]) fun _ _ _ _ _ _ us hl => match us, hl with | [_, _], _ => rfl
  have F_lSame := fun_mk (st := sLSame) l_lSame c_lSame k_lSame
  have b_lSame := F_lSame.binds (ps := ["_law_told", "_law_due"]) fun _ _ _ _ _ _ us hl => match us, hl with | [_, _], _ => rfl
  have F_lNew := fun_mk (st := sLNew) l_lNew c_lNew k_lNew
  have b_lNew := F_lNew.binds (ps := ["_law_pool_here", "_law_size"]) fun _ _ _ _ _ _ us hl => match us, hl with | [_, _], _ => rfl
  have F_lPath := fun_mk (st := sLPath) l_lPath c_lPath k_lPath
  have b_lPath := F_lPath.binds (ps := ["_law_pool_here", "_law_state"]) fun _ _ _ _ _ _ us hl => match us, hl with | [_, _], _ => rfl
  have F_lLetters := fun_mk (st := sLLetters) l_lLetters c_lLetters k_lLetters
  have b_lLetters := F_lLetters.binds (ps := ["_law_pool_here", "_law_state", "_law_many"]) fun _ _ _ _ _ _ us hl => match us, hl with | [_, _, _], _ => rfl
  have F_lRow := fun_mk (st := sLRow) l_lRow c_lRow k_lRow
  have b_lRow := F_lRow.binds (ps := ["_law_state", "_law_letters_here", "_law_k"]) fun _ _ _ _ _ _ us hl => match us, hl with | [_, _, _], _ => rfl
  have F_lUses := fun_mk (st := sLUses) l_lUses c_lUses k_lUses
  have b_lUses := F_lUses.binds (ps := ["_law_state", "_law_path_here"]) fun _ _ _ _ _ _ us hl => match us, hl with | [_, _], _ => rfl
  have F_lKnown := fun_mk (st := sLKnown) l_lKnown c_lKnown k_lKnown
  have b_lKnown := F_lKnown.binds (ps := ["_law_state", "_law_letters_here"]) fun _ _ _ _ _ _ us hl => match us, hl with | [_, _], _ => rfl
  have F_lRel := fun_mk (st := sLRel) l_lRel c_lRel k_lRel
  have b_lRel := F_lRel.binds (ps := ["_law_state", "_law_block"]) fun _ _ _ _ _ _ us hl => match us, hl with | [_, _], _ => rfl
  have F_lDropped := fun_mk (st := sLDropped) l_lDropped c_lDropped k_lDropped
  have b_lDropped := F_lDropped.binds (ps := ["_law_state"]) fun _ _ _ _ _ _ us hl => match us, hl with | [_], _ => rfl
  have F_lAs := fun_mk (st := sLAs) l_lAs c_lAs k_lAs
  have b_lAs := F_lAs.binds (ps := ["_law_pool_here", "_law_row_here"]) fun _ _ _ _ _ _ us hl => match us, hl with | [_, _], _ => rfl
  have F_lFilled := fun_mk (st := sLFilled) l_lFilled c_lFilled k_lFilled
  have b_lFilled := F_lFilled.binds (ps := ["_law_store", "_law_state", "_law_letters_here"]) fun _ _ _ _ _ _ us hl => match us, hl with | [_, _, _], _ => rfl
  have F_lShown := fun_mk (st := sLShown) l_lShown c_lShown k_lShown
  have b_lShown := F_lShown.binds (ps := ["_law_store", "_law_tree", "_law_state"]) fun _ _ _ _ _ _ us hl => match us, hl with | [_, _, _], _ => rfl
  have F_lPut := fun_mk (st := sLPut) l_lPut c_lPut k_lPut
  have b_lPut := F_lPut.binds (ps := ["_law_pool_here", "_law_store", "_law_tree", "_law_state", "_law_path_here", "_law_keeps"]) fun _ _ _ _ _ _ us hl => match us, hl with | [_, _, _, _, _, _], _ => rfl
  have F_lHeld := fun_mk (st := sLHeld) l_lHeld c_lHeld k_lHeld
  have b_lHeld := F_lHeld.binds (ps := ["_law_pool_here", "_law_store", "_law_state"]) fun _ _ _ _ _ _ us hl => match us, hl with | [_, _, _], _ => rfl
  have F_lStay := fun_mk (st := sLStay) l_lStay c_lStay k_lStay
  have b_lStay := F_lStay.binds (ps := ["_law_store", "_law_state"]) fun _ _ _ _ _ _ us hl => match us, hl with | [_, _], _ => rfl
  have F_law := fun_mk (st := sLaw) l_law c_law k_law
  have b_law := F_law.binds (ps := ["_law_script"]) fun _ _ _ _ _ _ us hl => match us, hl with | [_], _ => rfl
  have Z : Txt K mg ⟨T, S, fr, f_tInit, (PySem.W.fnOf "__init__" "Tree.__init__" (defArgs sTInit) (defBody sTInit) (defScope sTInit) .none kV_tInit dc_tInit pm_tInit an_tInit cd_tInit ct_tInit), f_tBeg, (PySem.W.fnOf "beginnings" "Tree.beginnings" (defArgs sTBeg) (defBody sTBeg) (defScope sTBeg) .none kV_tBeg dc_tBeg pm_tBeg an_tBeg cd_tBeg ct_tBeg), f_tUse, (PySem.W.fnOf "use" "Tree.use" (defArgs sTUse) (defBody sTUse) (defScope sTUse) .none kV_tUse dc_tUse pm_tUse an_tUse cd_tUse ct_tUse), f_tKnown, (PySem.W.fnOf "known" "Tree.known" (defArgs sTKnown) (defBody sTKnown) (defScope sTKnown) .none kV_tKnown dc_tKnown pm_tKnown an_tKnown cd_tKnown ct_tKnown), f_tPut, (PySem.W.fnOf "put" "Tree.put" (defArgs sTPut) (defBody sTPut) (defScope sTPut) .none kV_tPut dc_tPut pm_tPut an_tPut cd_tPut ct_tPut), f_tEnds, (PySem.W.fnOf "ends_of" "Tree.ends_of" (defArgs sTEnds) (defBody sTEnds) (defScope sTEnds) .none kV_tEnds dc_tEnds pm_tEnds an_tEnds cd_tEnds ct_tEnds), f_tOldest, (PySem.W.fnOf "oldest_of" "Tree.oldest_of" (defArgs sTOldest) (defBody sTOldest) (defScope sTOldest) .none kV_tOldest dc_tOldest pm_tOldest an_tOldest cd_tOldest ct_tOldest), f_tDrop, (PySem.W.fnOf "drop" "Tree.drop" (defArgs sTDrop) (defBody sTDrop) (defScope sTDrop) .none kV_tDrop dc_tDrop pm_tDrop an_tDrop cd_tDrop ct_tDrop), f_tLen, (PySem.W.fnOf "__len__" "Tree.__len__" (defArgs sTLen) (defBody sTLen) (defScope sTLen) .none kV_tLen dc_tLen pm_tLen an_tLen cd_tLen ct_tLen), f_tIter, (PySem.W.fnOf "__iter__" "Tree.__iter__" (defArgs sTIter) (defBody sTIter) (defScope sTIter) .none kV_tIter dc_tIter pm_tIter an_tIter cd_tIter ct_tIter), f_btw, (PySem.W.fnOf "is_between" "is_between" (defArgs sBtw) (defBody sBtw) (defScope sBtw) .none kV_btw dc_btw pm_btw an_btw cd_btw ct_btw), f_sInit, (PySem.W.fnOf "__init__" "Store.__init__" (defArgs sSInit) (defBody sSInit) (defScope sSInit) .none kV_sInit dc_sInit pm_sInit an_sInit cd_sInit ct_sInit), f_sFree, (PySem.W.fnOf "free" "Store.free" (defArgs sSFree) (defBody sSFree) (defScope sSFree) .none kV_sFree dc_sFree pm_sFree an_sFree cd_sFree ct_sFree), f_sHeld, (PySem.W.fnOf "check_held" "Store.check_held" (defArgs sSHeld) (defBody sSHeld) (defScope sSHeld) .none kV_sHeld dc_sHeld pm_sHeld an_sHeld cd_sHeld ct_sHeld), f_sAlone, (PySem.W.fnOf "check_alone" "Store.check_alone" (defArgs sSAlone) (defBody sSAlone) (defScope sSAlone) .none kV_sAlone dc_sAlone pm_sAlone an_sAlone cd_sAlone ct_sAlone), f_sTake, (PySem.W.fnOf "take" "Store.take" (defArgs sSTake) (defBody sSTake) (defScope sSTake) .none kV_sTake dc_sTake pm_sTake an_sTake cd_sTake ct_sTake), f_sHold, (PySem.W.fnOf "hold" "Store.hold" (defArgs sSHold) (defBody sSHold) (defScope sSHold) .none kV_sHold dc_sHold pm_sHold an_sHold cd_sHold ct_sHold), f_sRel, (PySem.W.fnOf "release" "Store.release" (defArgs sSRel) (defBody sSRel) (defScope sSRel) .none kV_sRel dc_sRel pm_sRel an_sRel cd_sRel ct_sRel), f_sRow, (PySem.W.fnOf "put_row" "Store.put_row" (defArgs sSRow) (defBody sSRow) (defScope sSRow) .none kV_sRow dc_sRow pm_sRow an_sRow cd_sRow ct_sRow), f_sRows, (PySem.W.fnOf "rows" "Store.rows" (defArgs sSRows) (defBody sSRows) (defScope sSRows) .none kV_sRows dc_sRows pm_sRows an_sRows cd_sRows ct_sRows), f_sHolders, (PySem.W.fnOf "holders" "Store.holders" (defArgs sSHolders) (defBody sSHolders) (defScope sSHolders) .none kV_sHolders dc_sHolders pm_sHolders an_sHolders cd_sHolders ct_sHolders), f_lPool, (PySem.W.fnOf "_law_pool" "_law_pool" (defArgs sLPool) (defBody sLPool) (defScope sLPool) .none kV_lPool dc_lPool pm_lPool an_lPool cd_lPool ct_lPool), f_lDraw, (PySem.W.fnOf "_law_draw" "_law_draw" (defArgs sLDraw) (defBody sLDraw) (defScope sLDraw) .none kV_lDraw dc_lDraw pm_lDraw an_lDraw cd_lDraw ct_lDraw), f_lSame, (PySem.W.fnOf "_law_same" "_law_same" (defArgs sLSame) (defBody sLSame) (defScope sLSame) .none kV_lSame dc_lSame pm_lSame an_lSame cd_lSame ct_lSame), f_lNew, (PySem.W.fnOf "_law_new" "_law_new" (defArgs sLNew) (defBody sLNew) (defScope sLNew) .none kV_lNew dc_lNew pm_lNew an_lNew cd_lNew ct_lNew), f_lPath, (PySem.W.fnOf "_law_path" "_law_path" (defArgs sLPath) (defBody sLPath) (defScope sLPath) .none kV_lPath dc_lPath pm_lPath an_lPath cd_lPath ct_lPath), f_lLetters, (PySem.W.fnOf "_law_letters" "_law_letters" (defArgs sLLetters) (defBody sLLetters) (defScope sLLetters) .none kV_lLetters dc_lLetters pm_lLetters an_lLetters cd_lLetters ct_lLetters), f_lRow, (PySem.W.fnOf "_law_row" "_law_row" (defArgs sLRow) (defBody sLRow) (defScope sLRow) .none kV_lRow dc_lRow pm_lRow an_lRow cd_lRow ct_lRow), f_lUses, (PySem.W.fnOf "_law_uses" "_law_uses" (defArgs sLUses) (defBody sLUses) (defScope sLUses) .none kV_lUses dc_lUses pm_lUses an_lUses cd_lUses ct_lUses), f_lKnown, (PySem.W.fnOf "_law_known" "_law_known" (defArgs sLKnown) (defBody sLKnown) (defScope sLKnown) .none kV_lKnown dc_lKnown pm_lKnown an_lKnown cd_lKnown ct_lKnown), f_lRel, (PySem.W.fnOf "_law_release" "_law_release" (defArgs sLRel) (defBody sLRel) (defScope sLRel) .none kV_lRel dc_lRel pm_lRel an_lRel cd_lRel ct_lRel), f_lDropped, (PySem.W.fnOf "_law_dropped" "_law_dropped" (defArgs sLDropped) (defBody sLDropped) (defScope sLDropped) .none kV_lDropped dc_lDropped pm_lDropped an_lDropped cd_lDropped ct_lDropped), f_lAs, (PySem.W.fnOf "_law_as" "_law_as" (defArgs sLAs) (defBody sLAs) (defScope sLAs) .none kV_lAs dc_lAs pm_lAs an_lAs cd_lAs ct_lAs), f_lFilled, (PySem.W.fnOf "_law_filled" "_law_filled" (defArgs sLFilled) (defBody sLFilled) (defScope sLFilled) .none kV_lFilled dc_lFilled pm_lFilled an_lFilled cd_lFilled ct_lFilled), f_lShown, (PySem.W.fnOf "_law_shown" "_law_shown" (defArgs sLShown) (defBody sLShown) (defScope sLShown) .none kV_lShown dc_lShown pm_lShown an_lShown cd_lShown ct_lShown), f_lPut, (PySem.W.fnOf "_law_put" "_law_put" (defArgs sLPut) (defBody sLPut) (defScope sLPut) .none kV_lPut dc_lPut pm_lPut an_lPut cd_lPut ct_lPut), f_lHeld, (PySem.W.fnOf "_law_held" "_law_held" (defArgs sLHeld) (defBody sLHeld) (defScope sLHeld) .none kV_lHeld dc_lHeld pm_lHeld an_lHeld cd_lHeld ct_lHeld), f_lStay, (PySem.W.fnOf "_law_rows_stay" "_law_rows_stay" (defArgs sLStay) (defBody sLStay) (defScope sLStay) .none kV_lStay dc_lStay pm_lStay an_lStay cd_lStay ct_lStay), fa, (PySem.W.fnOf "law" "law" (defArgs sLaw) (defBody sLaw) (defScope sLaw) .none kV_law dc_law pm_law an_law cd_law ct_law)⟩ := by
    constructor
    · exact ⟨pgT, hdT, poT, saT⟩
    · exact ⟨pgS, hdS, poS, saS⟩
    · exact PySem.W.mg_of X G aT
    · exact PySem.W.mg_of X G aS
    · exact ⟨tb, PySem.W.mg_of X G mb⟩
    · exact ⟨tr, PySem.W.mg_of X G mr⟩
    · exact nT_store
    · exact nT_paths
    · exact nT_under
    · exact nT_used
    · exact nT_clock
    · exact nS_many
    · exact nS_size
    · exact nS_counts
    · exact nS_kept
    · exact PySem.W.mg_none_of X G g_tuple
    · exact PySem.W.mg_none_of X G g_len
    · exact PySem.W.mg_none_of X G g_sorted
    · exact PySem.W.mg_none_of X G g_iter
    · exact PySem.W.mg_none_of X G g_isinstance
    · exact PySem.W.mg_none_of X G g_int
    · exact PySem.W.mg_none_of X G g_bool
    · exact PySem.W.mg_none_of X G g_str
    · exact PySem.W.mg_none_of X G g_range
    · exact PySem.W.mg_none_of X G g_abs
    · exact PySem.W.mg_none_of X G g_min
    · exact PySem.W.mg_none_of X G g_list
    · exact PySem.W.mg_none_of X G g_sum
    · exact F_tInit
    · exact b_tInit
    · exact ⟨mkT, a_tInit, i_tInit, kcT⟩
    · exact F_tBeg
    · exact b_tBeg
    · exact ⟨a_tBeg, i_tBeg, k_tBeg⟩
    · exact F_tUse
    · exact b_tUse
    · exact ⟨a_tUse, i_tUse, k_tUse⟩
    · exact F_tKnown
    · exact b_tKnown
    · exact ⟨a_tKnown, i_tKnown, k_tKnown⟩
    · exact F_tPut
    · exact b_tPut
    · exact ⟨a_tPut, i_tPut, k_tPut⟩
    · exact F_tEnds
    · exact b_tEnds
    · exact ⟨a_tEnds, i_tEnds, k_tEnds⟩
    · exact F_tOldest
    · exact b_tOldest
    · exact ⟨a_tOldest, i_tOldest, k_tOldest⟩
    · exact F_tDrop
    · exact b_tDrop
    · exact ⟨a_tDrop, i_tDrop, k_tDrop⟩
    · exact F_tLen
    · exact b_tLen
    · exact ⟨a_tLen, i_tLen, k_tLen⟩
    · exact F_tIter
    · exact b_tIter
    · exact ⟨a_tIter, i_tIter, k_tIter⟩
    · exact F_btw
    · exact b_btw
    · exact PySem.W.mg_of X G a_btw
    · exact F_sInit
    · exact b_sInit
    · exact ⟨mkS, a_sInit, i_sInit, kcS⟩
    · exact F_sFree
    · exact b_sFree
    · exact ⟨fp, fg, ft, ⟨rest, fx⟩⟩
    · exact F_sHeld
    · exact b_sHeld
    · exact ⟨a_sHeld, i_sHeld, k_sHeld⟩
    · exact F_sAlone
    · exact b_sAlone
    · exact ⟨a_sAlone, i_sAlone, k_sAlone⟩
    · exact F_sTake
    · exact b_sTake
    · exact ⟨a_sTake, i_sTake, k_sTake⟩
    · exact F_sHold
    · exact b_sHold
    · exact ⟨a_sHold, i_sHold, k_sHold⟩
    · exact F_sRel
    · exact b_sRel
    · exact ⟨a_sRel, i_sRel, k_sRel⟩
    · exact F_sRow
    · exact b_sRow
    · exact ⟨a_sRow, i_sRow, k_sRow⟩
    · exact F_sRows
    · exact b_sRows
    · exact ⟨a_sRows, i_sRows, k_sRows⟩
    · exact F_sHolders
    · exact b_sHolders
    · exact ⟨a_sHolders, i_sHolders, k_sHolders⟩
    · exact F_lPool
    · exact b_lPool
    · exact PySem.W.mg_of X G a_lPool
    · exact F_lDraw
    · exact b_lDraw
    · exact PySem.W.mg_of X G a_lDraw
    · exact F_lSame
    · exact b_lSame
    · exact PySem.W.mg_of X G a_lSame
    · exact F_lNew
    · exact b_lNew
    · exact PySem.W.mg_of X G a_lNew
    · exact F_lPath
    · exact b_lPath
    · exact PySem.W.mg_of X G a_lPath
    · exact F_lLetters
    · exact b_lLetters
    · exact PySem.W.mg_of X G a_lLetters
    · exact F_lRow
    · exact b_lRow
    · exact PySem.W.mg_of X G a_lRow
    · exact F_lUses
    · exact b_lUses
    · exact PySem.W.mg_of X G a_lUses
    · exact F_lKnown
    · exact b_lKnown
    · exact PySem.W.mg_of X G a_lKnown
    · exact F_lRel
    · exact b_lRel
    · exact PySem.W.mg_of X G a_lRel
    · exact F_lDropped
    · exact b_lDropped
    · exact PySem.W.mg_of X G a_lDropped
    · exact F_lAs
    · exact b_lAs
    · exact PySem.W.mg_of X G a_lAs
    · exact F_lFilled
    · exact b_lFilled
    · exact PySem.W.mg_of X G a_lFilled
    · exact F_lShown
    · exact b_lShown
    · exact PySem.W.mg_of X G a_lShown
    · exact F_lPut
    · exact b_lPut
    · exact PySem.W.mg_of X G a_lPut
    · exact F_lHeld
    · exact b_lHeld
    · exact PySem.W.mg_of X G a_lHeld
    · exact F_lStay
    · exact b_lStay
    · exact PySem.W.mg_of X G a_lStay
    · exact F_law
    · exact b_law
    · exact PySem.W.mg_of X G a_law
  exact ⟨_, fun s v => .of_eq rfl, fun base _ _ => ok_law Z⟩
theorem walk {l : PySem.W.OpenLaw} {q : Program} {loose : List Str} {XP : (Str → Option Value) → Heap → Prop} {YP : World → Heap → Prop} {d : DefRec} {K : Params → PySem.W.Frag} (hn : l.most = some 63) (hdf : d.params.defaults = [])
    (hY : ∀ (w : World) (h : Heap), YP w h → (K w.params).In h)
    (F : ∀ (w : World) (mg : Str → Option Value) (fa : Addr) (h : Heap), (K w.params).In h → h.Ns mainGlobals mg → mg d.name = some (.ref fa) →
      ∃ fd : FuncData, (∀ (s : Shared) (u : Value), BindsTo s fd ⟨[u], []⟩ [("_law_script", u)]) ∧ ∀ base : Heap, (K w.params).In base → base.Ns mainGlobals mg → FnOk l.prog w (K w.params) mg base CX0 12 fa fd ["_law_script"] (spLaw (K w.params))) :
    PySem.W.WalkO q loose XP YP l.row.toRowW d [] (fun f vs => PySem.call f vs) :=
  L2.walk_of (n := 63) (k := 12) (x := "_law_script") (CX := fun _ => CX0) (sp := fun w => spLaw (K w.params)) hn (by decide) hdf ⟨rfl, by decide, by decide⟩ hY F (fun _ _ a ns hl _ hS => ⟨a, ns, rfl, hS, hl, fun _ => rfl⟩) fun _ _ _ _ _ z => z
end K23

open PySem PySem.W PyProof.Rows in
set_option maxRecDepth 100000 in
set_option maxHeartbeats 0 in
theorem PySem.Challenge.cw_servedalone_k23_whole_tree_holds : PySem.Challenge.rw_servedalone_k23_whole_tree.Holds := by
  w_on; o_law; k_head; (case hw => w_witness2)
  k_fill
  refine K23.walk (l := PySem.Challenge.rw_servedalone_k23_whole_tree) rfl rfl (fun w h Y => PySem.W.kIn_of Y) ?F
  case F =>
    intro w mg fa h KX G hmg
    refine' K23.all_mk KX G hmg ?aT ?pgT ?hdT ?poT ?saT ?mkT ?kcT ?nT_store ?nT_paths ?nT_under ?nT_used ?nT_clock ?aS ?pgS ?hdS ?poS ?saS ?mkS ?kcS ?nS_many ?nS_size ?nS_counts ?nS_kept ?mb ?mr ?g_tuple ?g_len ?g_sorted ?g_iter ?g_isinstance ?g_int ?g_bool ?g_str ?g_range ?g_abs ?g_min ?g_list ?g_sum ?fp ?fg ?ft ?fx ?a_tInit ?i_tInit ?l_tInit ?c_tInit ?k_tInit ?a_tBeg ?i_tBeg ?l_tBeg ?c_tBeg ?k_tBeg ?a_tUse ?i_tUse ?l_tUse ?c_tUse ?k_tUse ?a_tKnown ?i_tKnown ?l_tKnown ?c_tKnown ?k_tKnown ?a_tPut ?i_tPut ?l_tPut ?c_tPut ?k_tPut ?a_tEnds ?i_tEnds ?l_tEnds ?c_tEnds ?k_tEnds ?a_tOldest ?i_tOldest ?l_tOldest ?c_tOldest ?k_tOldest ?a_tDrop ?i_tDrop ?l_tDrop ?c_tDrop ?k_tDrop ?a_tLen ?i_tLen ?l_tLen ?c_tLen ?k_tLen ?a_tIter ?i_tIter ?l_tIter ?c_tIter ?k_tIter ?a_btw ?l_btw ?c_btw ?k_btw ?a_sInit ?i_sInit ?l_sInit ?c_sInit ?k_sInit ?l_sFree ?c_sFree ?k_sFree ?a_sHeld ?i_sHeld ?l_sHeld ?c_sHeld ?k_sHeld ?a_sAlone ?i_sAlone ?l_sAlone ?c_sAlone ?k_sAlone ?a_sTake ?i_sTake ?l_sTake ?c_sTake ?k_sTake ?a_sHold ?i_sHold ?l_sHold ?c_sHold ?k_sHold ?a_sRel ?i_sRel ?l_sRel ?c_sRel ?k_sRel ?a_sRow ?i_sRow ?l_sRow ?c_sRow ?k_sRow ?a_sRows ?i_sRows ?l_sRows ?c_sRows ?k_sRows ?a_sHolders ?i_sHolders ?l_sHolders ?c_sHolders ?k_sHolders ?a_lPool ?l_lPool ?c_lPool ?k_lPool ?a_lDraw ?l_lDraw ?c_lDraw ?k_lDraw ?a_lSame ?l_lSame ?c_lSame ?k_lSame ?a_lNew ?l_lNew ?c_lNew ?k_lNew ?a_lPath ?l_lPath ?c_lPath ?k_lPath ?a_lLetters ?l_lLetters ?c_lLetters ?k_lLetters ?a_lRow ?l_lRow ?c_lRow ?k_lRow ?a_lUses ?l_lUses ?c_lUses ?k_lUses ?a_lKnown ?l_lKnown ?c_lKnown ?k_lKnown ?a_lRel ?l_lRel ?c_lRel ?k_lRel ?a_lDropped ?l_lDropped ?c_lDropped ?k_lDropped ?a_lAs ?l_lAs ?c_lAs ?k_lAs ?a_lFilled ?l_lFilled ?c_lFilled ?k_lFilled ?a_lShown ?l_lShown ?c_lShown ?k_lShown ?a_lPut ?l_lPut ?c_lPut ?k_lPut ?a_lHeld ?l_lHeld ?c_lHeld ?k_lHeld ?a_lStay ?l_lStay ?c_lStay ?k_lStay ?a_law ?l_law ?c_law ?k_law
    (case aT => k_is)
    (case pgT => k_is)
    (case hdT => k_is)
    (case poT => k_is)
    (case saT => k_is)
    (case mkT => k_is)
    (case kcT => k_is)
    (case nT_store => k_is)
    (case nT_paths => k_is)
    (case nT_under => k_is)
    (case nT_used => k_is)
    (case nT_clock => k_is)
    (case aS => k_is)
    (case pgS => k_is)
    (case hdS => k_is)
    (case poS => k_is)
    (case saS => k_is)
    (case mkS => k_is)
    (case kcS => k_is)
    (case nS_many => k_is)
    (case nS_size => k_is)
    (case nS_counts => k_is)
    (case nS_kept => k_is)
    (case mb => k_is)
    (case mr => k_is)
    (case g_tuple => k_is)
    (case g_len => k_is)
    (case g_sorted => k_is)
    (case g_iter => k_is)
    (case g_isinstance => k_is)
    (case g_int => k_is)
    (case g_bool => k_is)
    (case g_str => k_is)
    (case g_range => k_is)
    (case g_abs => k_is)
    (case g_min => k_is)
    (case g_list => k_is)
    (case g_sum => k_is)
    (case fp => k_is)
    (case fg => k_is)
    (case ft => k_is)
    (case fx => k_is)
    (case a_tInit => k_is)
    (case i_tInit => k_is)
    (case l_tInit => k_is)
    (case c_tInit => k_is)
    (case k_tInit => k_is)
    (case a_tBeg => k_is)
    (case i_tBeg => k_is)
    (case l_tBeg => k_is)
    (case c_tBeg => k_is)
    (case k_tBeg => k_is)
    (case a_tUse => k_is)
    (case i_tUse => k_is)
    (case l_tUse => k_is)
    (case c_tUse => k_is)
    (case k_tUse => k_is)
    (case a_tKnown => k_is)
    (case i_tKnown => k_is)
    (case l_tKnown => k_is)
    (case c_tKnown => k_is)
    (case k_tKnown => k_is)
    (case a_tPut => k_is)
    (case i_tPut => k_is)
    (case l_tPut => k_is)
    (case c_tPut => k_is)
    (case k_tPut => k_is)
    (case a_tEnds => k_is)
    (case i_tEnds => k_is)
    (case l_tEnds => k_is)
    (case c_tEnds => k_is)
    (case k_tEnds => k_is)
    (case a_tOldest => k_is)
    (case i_tOldest => k_is)
    (case l_tOldest => k_is)
    (case c_tOldest => k_is)
    (case k_tOldest => k_is)
    (case a_tDrop => k_is)
    (case i_tDrop => k_is)
    (case l_tDrop => k_is)
    (case c_tDrop => k_is)
    (case k_tDrop => k_is)
    (case a_tLen => k_is)
    (case i_tLen => k_is)
    (case l_tLen => k_is)
    (case c_tLen => k_is)
    (case k_tLen => k_is)
    (case a_tIter => k_is)
    (case i_tIter => k_is)
    (case l_tIter => k_is)
    (case c_tIter => k_is)
    (case k_tIter => k_is)
    (case a_btw => k_is)
    (case l_btw => k_is)
    (case c_btw => k_is)
    (case k_btw => k_is)
    (case a_sInit => k_is)
    (case i_sInit => k_is)
    (case l_sInit => k_is)
    (case c_sInit => k_is)
    (case k_sInit => k_is)
    (case l_sFree => k_is)
    (case c_sFree => k_is)
    (case k_sFree => k_is)
    (case a_sHeld => k_is)
    (case i_sHeld => k_is)
    (case l_sHeld => k_is)
    (case c_sHeld => k_is)
    (case k_sHeld => k_is)
    (case a_sAlone => k_is)
    (case i_sAlone => k_is)
    (case l_sAlone => k_is)
    (case c_sAlone => k_is)
    (case k_sAlone => k_is)
    (case a_sTake => k_is)
    (case i_sTake => k_is)
    (case l_sTake => k_is)
    (case c_sTake => k_is)
    (case k_sTake => k_is)
    (case a_sHold => k_is)
    (case i_sHold => k_is)
    (case l_sHold => k_is)
    (case c_sHold => k_is)
    (case k_sHold => k_is)
    (case a_sRel => k_is)
    (case i_sRel => k_is)
    (case l_sRel => k_is)
    (case c_sRel => k_is)
    (case k_sRel => k_is)
    (case a_sRow => k_is)
    (case i_sRow => k_is)
    (case l_sRow => k_is)
    (case c_sRow => k_is)
    (case k_sRow => k_is)
    (case a_sRows => k_is)
    (case i_sRows => k_is)
    (case l_sRows => k_is)
    (case c_sRows => k_is)
    (case k_sRows => k_is)
    (case a_sHolders => k_is)
    (case i_sHolders => k_is)
    (case l_sHolders => k_is)
    (case c_sHolders => k_is)
    (case k_sHolders => k_is)
    (case a_lPool => k_is)
    (case l_lPool => k_is)
    (case c_lPool => k_is)
    (case k_lPool => k_is)
    (case a_lDraw => k_is)
    (case l_lDraw => k_is)
    (case c_lDraw => k_is)
    (case k_lDraw => k_is)
    (case a_lSame => k_is)
    (case l_lSame => k_is)
    (case c_lSame => k_is)
    (case k_lSame => k_is)
    (case a_lNew => k_is)
    (case l_lNew => k_is)
    (case c_lNew => k_is)
    (case k_lNew => k_is)
    (case a_lPath => k_is)
    (case l_lPath => k_is)
    (case c_lPath => k_is)
    (case k_lPath => k_is)
    (case a_lLetters => k_is)
    (case l_lLetters => k_is)
    (case c_lLetters => k_is)
    (case k_lLetters => k_is)
    (case a_lRow => k_is)
    (case l_lRow => k_is)
    (case c_lRow => k_is)
    (case k_lRow => k_is)
    (case a_lUses => k_is)
    (case l_lUses => k_is)
    (case c_lUses => k_is)
    (case k_lUses => k_is)
    (case a_lKnown => k_is)
    (case l_lKnown => k_is)
    (case c_lKnown => k_is)
    (case k_lKnown => k_is)
    (case a_lRel => k_is)
    (case l_lRel => k_is)
    (case c_lRel => k_is)
    (case k_lRel => k_is)
    (case a_lDropped => k_is)
    (case l_lDropped => k_is)
    (case c_lDropped => k_is)
    (case k_lDropped => k_is)
    (case a_lAs => k_is)
    (case l_lAs => k_is)
    (case c_lAs => k_is)
    (case k_lAs => k_is)
    (case a_lFilled => k_is)
    (case l_lFilled => k_is)
    (case c_lFilled => k_is)
    (case k_lFilled => k_is)
    (case a_lShown => k_is)
    (case l_lShown => k_is)
    (case c_lShown => k_is)
    (case k_lShown => k_is)
    (case a_lPut => k_is)
    (case l_lPut => k_is)
    (case c_lPut => k_is)
    (case k_lPut => k_is)
    (case a_lHeld => k_is)
    (case l_lHeld => k_is)
    (case c_lHeld => k_is)
    (case k_lHeld => k_is)
    (case a_lStay => k_is)
    (case l_lStay => k_is)
    (case c_lStay => k_is)
    (case k_lStay => k_is)
    (case a_law => k_is)
    (case l_law => k_is)
    (case c_law => k_is)
    (case k_law => k_is)

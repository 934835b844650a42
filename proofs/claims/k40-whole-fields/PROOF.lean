import PyProof.Rows.All
import HandS.ForMost
import HandS.Deep
import HandS.DictComp
import HandS.IsInst
import HandS.Style
import HandS.TryOnly
import HandS.Star
import HandS.SortRule
import HandS.SortInts
import HandS.TupLen
import HandS.Conv
import HandS.Evl
import KE.DataMinMax
import KE.LtData
import HandS.DictTup
import PySem.Challenge.RW_leaprows_k40_whole_fields
import KE.SortData
import HandS.Head0
import HandS.Head1
import HandS.Head2
import HandS.HeadEnd
import HandS.HeadHook1
import HandS.HeadHook2
import HandS.Defaults
import HandS.Ends
set_option Elab.async false
set_option linter.all false
set_option maxRecDepth 100000
set_option maxHeartbeats 0
/-! rules that the layer lacks: order of nested tuples, min and max and sorted of a tuple of ints, an item of a list read for -=, the greatest value of a dict with tuple keys -/
namespace LR
open PySem L2 PySem.W
section
variable {X : Cx}
def rLtD (K : PySem.W.Frag) : R2 := fun x y H Q => ∃ d e, Dp K H x d ∧ Dp K H y e ∧ alike d e = true ∧ d ≠ .none ∧ d.depth ≤ 60 ∧ Q (.bl (dataLt d e)) H
theorem op_ltD (hu : X.A.units + 64 < cLine) : OpR X (compareOp .Lt) (rLtD X.K) := by
  intro pins s σ H x y v u Q I rx ry ⟨d, e, hd, he, ha, hn, hz, q⟩
  have ⟨_, r1⟩ := Dp.reads I d x v hd rx
  have ⟨_, r2⟩ := Dp.reads I e y u he ry
  exact rcLt_alike d e X.A s v u _ _ r1 r2 ha hn (by omega) _ _ _ _ ⟨.bl _, H, I, rfl, q⟩

/-- a tuple of ints, as data -/
theorem ints_read {pins : List (Addr × Obj)} {σ : St} {H : Hp} {s : Shared} (I : Inv X pins σ H s) : ∀ {ns : List Int} {us : List Value}, Vals (ns.map V.int) us → ∃ as, ReadsAll s.heap us (ns.map PyData.int) as
  | [], us, r => by cases r; exact ⟨_, ReadsAll.nil⟩
  | n :: ns, us, r => by
    cases r with
    | cons h t =>
      have ⟨_, q⟩ := ints_read I t
      have ⟨tk, e⟩ := h
      subst e
      exact ⟨_, ReadsAll.cons (Reads.int n tk) q⟩
theorem alike_of_ints (ns : List Int) : AlikeAll (ns.map PyData.int) := by
  refine ⟨fun x hx y hy => ?_, fun x hx => ?_⟩
  · have ⟨i, _, ei⟩ := List.mem_map.mp hx
    have ⟨j, _, ej⟩ := List.mem_map.mp hy
    subst ei; subst ej
    rfl
  · have ⟨i, _, ei⟩ := List.mem_map.mp hx
    subst ei
    exact fun z => nomatch z
theorem depth_of_ints : ∀ ns : List Int, PyData.depthAll (ns.map PyData.int) = 0
  | [] => by simp [PyData.depthAll]
  | n :: ns => by simp [PyData.depthAll, PyData.depth, depth_of_ints ns]
def rMaxU (K : PySem.W.Frag) : List V → Hp → VK → Prop := fun vs H Q => ∃ (a : Addr) (n : Int) (ns : List Int), vs = [V.ref a] ∧ SqT K H a ((n :: ns).map V.int) ∧ Q (.int (ns.foldl max n)) H
def rMinU (K : PySem.W.Frag) : List V → Hp → VK → Prop := fun vs H Q => ∃ (a : Addr) (n : Int) (ns : List Int), vs = [V.ref a] ∧ SqT K H a ((n :: ns).map V.int) ∧ Q (.int (ns.foldl min n)) H
theorem cr_maxU (hc : X.calm = true) (hu : X.A.units + 64 < cLine) : CallR X (.builtin "max") (rMaxU X.K) := by
  intro pins s σ H vs us Q I r ⟨a, n, ns, e, hs, q⟩
  subst e
  have ⟨its, rv, ht, _⟩ := I.tuple hs
  rw [Vals.ref1 r]
  have ⟨as, rd⟩ := ints_read (ns := n :: ns) I rv
  have rd' : ReadsAll s.heap its.toArray.toList (.int n :: ns.map PyData.int) as := by simpa using rd
  refine max_tuple_data (I.ok.hd hc) ht rd' (alike_of_ints (n :: ns)) (by have := depth_of_ints (n :: ns); simp only [List.map_cons] at this; omega) fun i v h' tk bs _ hr hk => ?_
  rw [maxD_ints] at hr
  cases hr
  exact ⟨.int _, H, I.kept hk, ⟨_, rfl⟩, q⟩
theorem cr_minU (hc : X.calm = true) (hu : X.A.units + 64 < cLine) : CallR X (.builtin "min") (rMinU X.K) := by
  intro pins s σ H vs us Q I r ⟨a, n, ns, e, hs, q⟩
  subst e
  have ⟨its, rv, ht, _⟩ := I.tuple hs
  rw [Vals.ref1 r]
  have ⟨as, rd⟩ := ints_read (ns := n :: ns) I rv
  have rd' : ReadsAll s.heap its.toArray.toList (.int n :: ns.map PyData.int) as := by simpa using rd
  refine min_tuple_data (I.ok.hd hc) ht rd' (alike_of_ints (n :: ns)) (by have := depth_of_ints (n :: ns); simp only [List.map_cons] at this; omega) fun i v h' tk bs _ hr hk => ?_
  rw [minD_ints] at hr
  cases hr
  exact ⟨.int _, H, I.kept hk, ⟨_, rfl⟩, q⟩
/-- an item of a list, for o[i] -= e -/
def rGetL (K : PySem.W.Frag) : V → V → Hp → VK → Prop := fun o i H Q => ∃ p xs, ∃ k : Nat, ∃ v, o = .ref p ∧ i = .int (k : Int) ∧ SqL K H p xs ∧ xs[k]? = some v ∧ Q v H
theorem get_list : PGet X (rGetL X.K) := by
  intro pins s σ H o i ov iv Q I ro ri ⟨p, xs, k, v, eo, ei, hs, hv, q⟩
  subst eo; subst ei
  have ⟨tk, ek⟩ := ri
  subst ek
  obtain rfl : ov = Value.ref p := ro
  have ⟨its, rv, ht, hz⟩ := I.list hs
  have ⟨u, hu, ru⟩ := Vals.get rv hv
  have hk := (List.getElem?_eq_some_iff.mp hv).1
  have hn := line63
  exact wpAny_getItem_list ht.isList (Int.natCast_nonneg k) (by omega) (by simpa using hu) ⟨v, H, I, ru, q⟩
end

section
open PySem.Calls PyProof.Rows
variable {prog : Program} {w : World} {A : Around} {E : Value → Shared → Prop} {s : Shared}
/-- what collect gives of a tuple -/
theorem collect_tup {t : Addr} {vs : List Value} {Q : List Value → Shared → Prop} (ht : s.heap.IsTuple t vs.toArray) (hz : vs.length ≤ sizeLine)
    (h : Q vs { s with heap := (s.heap.push (seqObj "list" #[] 0)).update s.heap.objs.size (Obj.mapSeq (· ++ vs.toArray)) }) : wpAny (model prog w) A (collect (.ref t)) Q E s := by
  have ⟨o, ho, hc, n, hd⟩ := ht
  have ho2 : (s.heap.push (seqObj "list" #[] 0)).get? t = some o := Heap.get?_push_of_some _ ho
  have hnew : (s.heap.push (seqObj "list" #[] 0)).get? s.heap.objs.size = some (seqObj "list" #[] 0) := Heap.get?_push_size _ rfl
  unfold collect
  refine wpAny_bind (wpAny_runValue (codeAny_builtin entry_proto_collect' ?_))
  refine wpAny_bind (wpAny_newList (wpAny_pure ⟨Code.quiet_builtin _ (by decide +kernel), codeAny_builtin entry_list_iadd' ?_⟩))
  show wpAny _ _ (Builtin.List.listExtendWith (Value.ref s.heap.objs.size) (Value.ref t) (Value.ref s.heap.objs.size)) _ _ { s with heap := s.heap.push (seqObj "list" #[] 0) }
  unfold Builtin.List.listExtendWith
  refine wpAny_bind (wpAny_typeOf (T := "tuple") ⟨o, ho2, hc⟩ ?_)
  rw [if_pos (by simp)]
  refine wpAny_bind (listItems_at ho2 hd (wpAny_bind (listItems_at (n := 0) (xs := #[]) hnew rfl ?_)))
  rw [if_neg (by simp)]
  refine wpAny_bind (listUpdate_at (n := 0) (xs := #[]) hnew rfl ?_ (Nat.zero_le _) (by simp only [Array.size_append, List.size_toArray, List.length_nil]; omega))
  refine wpAny_pure ?_
  show wpAny (model prog w) A (do
      let u ← load s.heap.objs.size
      match u.data with
      | .seq ys _ => pure ys.toList
      | _ => unsupported "internal:collect") Q E { s with heap := (s.heap.push (seqObj "list" #[] 0)).update s.heap.objs.size (Obj.mapSeq (· ++ vs.toArray)) }
  refine wpAny_bind (wpAny_load (get?_update_seq hnew _) ?_)
  show wpAny _ _ (pure (#[] ++ vs.toArray : Array Value).toList) Q E _
  have e : (#[] ++ vs.toArray : Array Value).toList = vs := by simp
  rw [e]
  exact wpAny_pure h
theorem sorted_tupI {t : Addr} {vs : List Value} {ns : List Int} {Q : Value → Shared → Prop} (ht : s.heap.IsTuple t vs.toArray) (hi : IntsAre vs ns) (hz : vs.length < 64)
    (h : ∀ (out : Array Value) (ms : List Int), IntsAre out.toList ms → ms.Perm ns → ms.Pairwise (· ≤ ·) → Q (.ref (s.heap.objs.size + 1)) { s with heap := sortedAll s.heap vs out }) :
    wpAny (model prog w) A (call (.builtin "sorted") [.ref t]) Q E s := by
  refine Calls.call_function_entry kind_sorted plain_sorted entry_sorted (args_sorted1 _) ?_
  unfold Builtin.«sorted»
  refine wpAny_bind (m := checkCount "sorted" 1 1 _) (wpAny_pure (wpAny_bind (collect_tup ht (small64 hz) (wpAny_bind (wpAny_newList ?_)))))
  generalize hg : (s.heap.push (seqObj "list" #[] 0)).update s.heap.objs.size (Obj.mapSeq (· ++ vs.toArray)) = g
  have z : g.objs.size = s.heap.objs.size + 1 := by rw [← hg, Heap.size_update, size_push']
  have at1 : (g.push (seqObj "list" vs.toArray 0)).get? (s.heap.objs.size + 1) = some (seqObj "list" vs.toArray 0) := by
    rw [← z]
    exact Heap.get?_push_size _ rfl
  show wpAny _ _ _ _ _ { s with heap := g.push (seqObj "list" vs.toArray 0) }
  rw [z]
  refine wpAny_bind (wpAny_holding (wpAny_call_entry slot_list_sort ⟨_, at1, rfl⟩ entry_list_sort (list_sort_tree at1 hi hz fun out ms a1 a2 a3 => ⟨_, rfl, wpAny_pure ⟨_, rfl, ?_⟩⟩) (args_list_sort _)))
  have := h out ms a1 a2 a3
  unfold sortedAll at this
  rw [hg] at this
  exact this
end
section
variable {X : Cx}
def rSortU3 (K : PySem.W.Frag) : List V → Hp → VK → Prop := fun vs H Q => ∃ (a : Addr) (ns : List Int), vs = [V.ref a] ∧ SqT K H a (ns.map V.int) ∧ ns.length < 64 ∧
  ∀ (ms : List Int) (p : Addr), ms.Perm ns → ms.Pairwise (· ≤ ·) → H p = none → Q (.ref p) (upd H p (.lst (ms.map V.int)))
theorem cr_sortU3 : CallR X (.builtin "sorted") (rSortU3 X.K) := by
  intro pins s σ H vs us Q I r ⟨a, ns, e, hs, h64, q⟩
  subst e
  have ⟨its, rv, ht, _⟩ := I.tuple hs
  rw [Vals.ref1 r]
  have hi := rv.ints
  refine sorted_tupI ht hi (by rw [hi.length]; exact h64) fun out ms h1 h2 h3 => ?_
  have ⟨ep, he⟩ := PyProof.Rows.sortedAll_at s.heap its out
  have hl : (ms.map V.int).length ≤ sizeLine := by rw [List.length_map, h2.length_eq]; exact small64 h64
  exact ⟨.ref _, _, I.laid (t' := s.toks) (o := .lst (ms.map V.int)) (fun _ _ => PyProof.Rows.sortedAll_old) (Nat.le_succ _) ⟨hl, out.toList, ep, vals_of_ints h1, he⟩, rfl, q ms _ h2 h3 (I.hok.fresh (Nat.le_succ _))⟩
end
end LR
/-! max(d.values()), d a dict with tuple keys -/
namespace LR
open PySem L2 PySem.W PySem.Calls PyProof.Rows
section
variable {prog : Program} {w : World} {A : Around} {E : Value → Shared → Prop} {s : Shared} {d it : Addr} {i ep : Nat} {es : Array DictEntry}
theorem callVals {Q : Value → Shared → Prop} (hd : (d == sysModules) = false) (hm : DT.Raw s.heap d es ep)
    (h : Q (.ref s.heap.objs.size) { s with heap := s.heap.push { cls := .type "dict_values", data := .fields #[.ref d] } }) : wpAny (model prog w) A (call (.builtin "dict.values") [.ref d]) Q E s := by
  have M : MeetsIn prog w (Builtin.«dict.values» ⟨[.ref d], []⟩) (fun _ R s => (∃ es ep, DT.Raw s.heap d es ep) ∧
      R (.ok (.ret (.ref s.heap.objs.size))) { s with heap := s.heap.push { cls := .type "dict_values", data := .fields #[.ref d] } }) := .of_wp fun A R s ⟨⟨es, ep, hr⟩, hR⟩ => by
    refine wpAny_bind ?_
    unfold Builtin.Dict.noArgs
    refine wpAny_bind (wpAny_notOrdered_dict hr.typeIs ?_)
    show wpAny _ _ (pure d) _ _ s
    refine wpAny_pure ?_
    show wpAny _ _ (Builtin.Dict.showsAll d >>= _) _ _ s
    unfold Builtin.Dict.showsAll
    rw [if_neg (by rw [hd]; exact Bool.false_ne_true)]
    exact wpAny_bind (wpAny_pure (wpAny_bind (wpAny_newObj_type (wpAny_pure ⟨_, rfl, hR⟩))))
  exact call_meetsIn F.slot_dict_values hm.typeIs F.entry_dict_values (F.args_dict_values_1 _) M ⟨⟨es, ep, hm⟩, h⟩
theorem iterVals {v : Addr} {Q : Value → Shared → Prop} (hv : s.heap.IsValuesView v d) (hm : DT.Raw s.heap d es ep)
    (h : Q (.ref s.heap.objs.size) { s with heap := s.heap.push { cls := .type "dict_valueiterator", data := .fields #[.ref d, .int 0 0, .int es.size 0, .int ep 0] } }) : wpAny (model prog w) A (pyIter (.ref v)) Q E s := by
  have ⟨ov, hov, _, hdv⟩ := id hv
  have ⟨o, ho, _, hdat⟩ := hm
  refine wpAny_pyIter_slot hv.typeIs F.slot_dict_values_iter (wpAny_call_entry F.slot_dict_values_iter hv.typeIs F.entry_dict_values_iter ?_ (F.args_dict_values_iter_1 _))
  unfold Builtin.«dict_values.__iter__»
  refine wpAny_bind (wpAny_pure (wpAny_bind ?_))
  unfold Builtin.Dict_items.dictOf
  refine wpAny_bind (wpAny_field hov hdv (x := .ref d) rfl (wpAny_pure (wpAny_bind ?_)))
  unfold Builtin.Dict_items.newIterator
  refine wpAny_bind (wpAny_dictEntries ho hdat (wpAny_bind (wpAny_dictEpoch ho hdat ?_)))
  simp only [show Builtin.Dict_items.ownsTuple "dict_valueiterator" = false from by decide, Bool.false_eq_true, if_false]
  exact wpAny_newObj_type (wpAny_pure ⟨_, rfl, "dict_valueiterator", _, ⟨_, Heap.get?_push_size _ rfl, rfl⟩, F.slot_dict_valueiterator_next.lookup, by simpa [rawInt] using h⟩)
theorem nextVal {Q : Option Value → Shared → Prop} (hit : s.heap.IsValIter it d i es.size ep) (hm : DT.Raw s.heap d es ep) (hi : i < es.size)
    (h : ∀ g, g.IsValIter it d (i + 1) es.size ep → Heap.SameBut it s.heap g → Q (some es[i].val) { s with heap := g }) : wpAny (model prog w) A (pyNext (.ref it)) Q E s := by
  have ⟨oi, hoi, hci, hdi⟩ := id hit
  have ⟨od, hod, _, hdd⟩ := hm
  unfold pyNext
  refine wpAny_bind (wpAny_attempt (wpAny_callSpecial?_slot (name := Str.ofString "__next__") hit.typeIs F.slot_dict_valueiterator_next
    (wpAny_call_entry F.slot_dict_valueiterator_next hit.typeIs F.entry_dict_valueiterator_next ?_ (F.args_dict_valueiterator_next_1 _))))
  refine wpAny_bind (wpAny_pure (wpAny_bind (wpAny_bind ?_)))
  first
  | refine wpAny_bind (wpAny_typeNameOfWhole_valiter hit.typeIs (wpAny_pure ?_))
  | refine wpAny_bind (wpAny_typeNameOf_valiter hit.typeIs (wpAny_pure ?_))
  refine wpAny_bind (wpAny_fieldsOf hoi hdi ?_)
  simp only [show Builtin.Dict_items.ownsTuple "dict_valueiterator" = false from by decide, Bool.false_eq_true, if_false]
  show wpAny _ _ (if (Value.ref d == Value.none) = true then _ else _) _ _ _
  rw [if_neg (fun z : (Value.ref d == Value.none) = true => Bool.false_ne_true z)]
  refine wpAny_bind (wpAny_pure (wpAny_bind (wpAny_dictEntries hod hdd ?_)))
  rw [if_neg (by simp)]
  refine wpAny_bind (wpAny_pure (wpAny_bind (wpAny_dictEpoch hod hdd ?_)))
  rw [if_neg (by simp)]
  refine wpAny_pure ?_
  have hneg : ¬ ((i : Int) < 0) := by omega
  simp only [hneg, if_false, Int.toNat_natCast, Array.getElem?_eq_getElem hi]
  refine wpAny_bind ?_
  first
  | refine wpAny_bind (wpAny_typeNameOfWhole_valiter hit.typeIs (wpAny_pure ?_))
  | refine wpAny_bind (wpAny_typeNameOf_valiter hit.typeIs (wpAny_pure ?_))
  refine wpAny_bind (wpAny_isOneOf_valiter hit.typeIs ?_)
  show wpAny _ _ (setField (.ref it) 1 (rawInt ((i : Int) + 1)) >>= _) _ _ s
  refine wpAny_bind (wpAny_setField hoi hdi (by simp) ?_)
  generalize hg : s.heap.update it (Obj.mapFields (·.setIfInBounds 1 (rawInt ((i : Int) + 1)))) = g
  have hg2 : g.IsValIter it d (i + 1) es.size ep := by
    rw [← hg]
    exact ⟨_, Heap.get?_update_self _ hoi (Obj.isFreed_of_fields (Obj.data_mapFields hdi _)), (Obj.cls_mapFields ..).trans hci, by rw [Obj.data_mapFields hdi]; simp [rawInt]⟩
  have hsb : Heap.SameBut it s.heap g := by
    rw [← hg]
    exact Heap.SameBut.update ..
  refine wpAny_bind (wpAny_holding (wpAny_bind (wpAny_isOneOf_valiter (s := { s with heap := g }) hg2.typeIs (wpAny_bind (wpAny_isOneOf_valiter (s := { s with heap := g }) hg2.typeIs ?_)))))
  show wpAny _ _ (pure es[i].val) _ _ _
  exact wpAny_pure (wpAny_pure ⟨_, rfl, wpAny_pure (h g hg2 hsb)⟩)
theorem endVal {Q : Option Value → Shared → Prop} (hh : A.handled = none) (hit : s.heap.IsValIter it d es.size es.size ep) (hm : DT.Raw s.heap d es ep)
    (h : ∀ g, Heap.ExtBut it s.heap g → Q none { s with heap := g }) : wpAny (model prog w) A (pyNext (.ref it)) Q E s := by
  have ⟨oi, hoi, hci, hdi⟩ := id hit
  have ⟨od, hod, _, hdd⟩ := hm
  unfold pyNext
  refine wpAny_bind (wpAny_attempt (wpAny_callSpecial?_slot (name := Str.ofString "__next__") hit.typeIs F.slot_dict_valueiterator_next
    (wpAny_call_entry F.slot_dict_valueiterator_next hit.typeIs F.entry_dict_valueiterator_next ?_ (F.args_dict_valueiterator_next_1 _))))
  refine wpAny_bind (wpAny_pure (wpAny_bind (wpAny_bind ?_)))
  first
  | refine wpAny_bind (wpAny_typeNameOfWhole_valiter hit.typeIs (wpAny_pure ?_))
  | refine wpAny_bind (wpAny_typeNameOf_valiter hit.typeIs (wpAny_pure ?_))
  refine wpAny_bind (wpAny_fieldsOf hoi hdi ?_)
  simp only [show Builtin.Dict_items.ownsTuple "dict_valueiterator" = false from by decide, Bool.false_eq_true, if_false]
  show wpAny _ _ (if (Value.ref d == Value.none) = true then _ else _) _ _ _
  rw [if_neg (fun z : (Value.ref d == Value.none) = true => Bool.false_ne_true z)]
  refine wpAny_bind (wpAny_pure (wpAny_bind (wpAny_dictEntries hod hdd ?_)))
  rw [if_neg (by simp)]
  refine wpAny_bind (wpAny_pure (wpAny_bind (wpAny_dictEpoch hod hdd ?_)))
  rw [if_neg (by simp)]
  refine wpAny_pure ?_
  have hneg : ¬ ((es.size : Int) < 0) := by omega
  simp only [hneg, if_false, Int.toNat_natCast, Array.getElem?_eq_none (Nat.le_refl es.size)]
  refine wpAny_bind ?_
  first
  | refine wpAny_bind (wpAny_typeNameOfWhole_valiter hit.typeIs (wpAny_pure ?_))
  | refine wpAny_bind (wpAny_typeNameOf_valiter hit.typeIs (wpAny_pure ?_))
  show wpAny _ _ (setField (.ref it) 0 .none >>= _) _ _ s
  refine wpAny_bind (wpAny_setField hoi hdi (by simp) ?_)
  show wpAny _ _ (newExc (.type "StopIteration") [] >>= _) _ _ _
  refine wpAny_bind ?_
  simp only [newExc, newTuple]
  refine wpAny_bind (wpAny_newObj_type (wpAny_bind (m := firstArgMember _ _) (wpAny_of_eq (a := Value.none) (by first | rfl | (simp only [firstArgMember]; rfl)) ?_)) (by size_fits))
  refine wpAny_newObj_type ?_ (by size_fits)
  simp only [raiseNew]
  refine wpAny_bind (wpAny_handled ?_)
  rw [show A.in1.handled = none from hh]
  refine wpAny_bind (wpAny_pure (wpAny_throw ?_))
  refine wpAny_bind (wpAny_isInstance (T := "StopIteration") (b := true) ⟨_, Heap.get?_push_size _ rfl, rfl⟩ isSubtype_stop ?_)
  exact wpAny_pure (h _ (((Heap.SameBut.update ..).extBut.push _).push _))
theorem walkVals (hh : A.handled = none) (I d : Addr) (hne : d ≠ I) (es : Array DictEntry) (ep : Nat) :
    Walks prog w A I [I, d] [I] es.size (fun i v => ∃ e, es[i]? = some e ∧ v = e.val) (fun i h => h.IsValIter I d i es.size ep ∧ DT.Raw h d es ep) where
  sub := fun b hb => by simp at hb; simp [hb]
  frame := fun _ _ _ st hk => ⟨st.1.at fun o e => hk I (by simp) o e, st.2.at' fun o e => hk d (by simp) o e⟩
  item := fun i s Q E hi st hQ => nextVal st.1 st.2 hi fun g hg hs => hQ _ g s.toks ⟨es[i], Array.getElem?_eq_getElem hi, rfl⟩ ⟨hg, st.2.at' fun o e => hs.extBut d o hne e⟩ fun b o hb e => hs.extBut b o (fun z => hb (by simp [z])) e
  done := fun s Q E st hQ => endVal hh st.1 st.2 fun g hg => hQ g s.toks fun b o hb e => hg b o (fun z => hb (by simp [z])) e
  self := fun _ _ _ _ st hQ => wpAny_pyIter_valiter st.1 hQ
end
section
variable {X : Cx} {o : Expr} {p pos apos mpos : Pos} {td : TE}
/-- max(o.values()), o a dict with tuple keys whose values are ints, one at least -/
def tMaxVals (td : TE) : TE := fun σ H Q => td σ H fun x H1 => ∃ a kvs ns, x = V.ref a ∧ H1 a = some (.dT kvs) ∧ kvs.map (·.2) = ns.map V.int ∧ ns ≠ [] ∧ ∀ m, m ∈ ns → (∀ j ∈ ns, j ≤ m) → Q (.int m) H1
theorem pe_maxVals (hc : X.calm = true) (hg : Gl X "max") (hm : X.mg "max" = none) (hd : PE X o td) (hbase : attributeBase o "values" X.env (eval o X.env) = eval o X.env := by rfl) (hline : (apos.endLine == mpos.line) = true := by rfl)
    (hse : starEach [Expr.Call (.Attribute o "values" apos) [] [] mpos] X.env = [(false, eval (Expr.Call (.Attribute o "values" apos) [] [] mpos) X.env)] := by rfl) :
    PE X (.Call (.Name "max" p) [.Call (.Attribute o "values" apos) [] [] mpos] [] pos) (tMaxVals td) := by
  refine ⟨fun pins s σ H Q I h => ?_⟩
  refine wpAny_Call_Name_kw (ld_blt I hg hm (u := .builtin "max") (by decide +kernel) ?_ (by decide +kernel) (by decide +kernel))
  rw [hse]
  refine PySem.callWith_builtin1 (wpAny_Call_method0_late hbase hline (thn (hd.run pins s σ H _ I h) fun v s1 ⟨x, H1, I1, r1, a, kvs, ns, ex, ha, hv, hne, q⟩ => ?_))
  subst ex
  obtain rfl : v = Value.ref a := r1
  have ⟨_, hsys, xs, rel, ob, es, ep, ho, exd, hdat, hes, _⟩ := I1.hok a _ ha
  have raw : DT.Raw s1.heap a es ep := ⟨ob, ho, exd, hdat⟩
  refine ⟨"dict", "dict.values", F.plainAttrs_dict, F.slot_dict_values, F.type_dict_values, ⟨ob, ho, exd.1⟩, fun b e => ?_, Calls.callWith_builtin rfl (PySem.evalArgs_none ?_)⟩
  · cases e
    exact ⟨ob, ho, exd.2.1⟩
  refine callVals hsys raw ?_
  have hsz : es.size = xs.length := by
    rw [← Array.length_toList, hes, List.length_map]
  have hln : xs.length = ns.length := by
    have e1 := congrArg List.length hv
    rw [List.length_map, List.length_map] at e1
    rw [← e1]
    exact (Paired.length rel).symm
  have hpos : 0 < es.size := by
    rw [hsz, hln]
    exact List.length_pos_iff.mpr hne
  have hval : ∀ (i : Nat) (v : Value), (∃ e, es[i]? = some e ∧ v = e.val) → ∃ t, v = Value.int (ns.getD i 0) t := fun i v ⟨e, he, ev⟩ => by
    have h1 : es.toList[i]? = some e := by simpa using he
    rw [hes, List.getElem?_map] at h1
    have ⟨y, hy, ey⟩ := Option.map_eq_some_iff.mp h1
    have ⟨z, hz, _, _, rz⟩ := L2.DX.pget rel hy
    have h2 : (kvs.map (·.2))[i]? = some z.2 := by rw [List.getElem?_map, hz]; rfl
    rw [hv, List.getElem?_map] at h2
    have ⟨j, hj, ej⟩ := Option.map_eq_some_iff.mp h2
    rw [← ej] at rz
    have ⟨t, et⟩ := rz
    refine ⟨t, ?_⟩
    rw [ev, ← ey, List.getD_eq_getElem?_getD, hj]
    exact et
  generalize hg1 : s1.heap.push { cls := .type "dict_values", data := .fields #[.ref a] } = g
  have k1 : ∀ b u, s1.heap.get? b = some u → g.get? b = some u := fun b u e => by
    rw [← hg1]
    exact Heap.get?_push_of_some _ e
  have hgs : g.objs.size = s1.heap.objs.size + 1 := by
    rw [← hg1]
    exact Heap.size_push _ _
  have raw1 : DT.Raw g a es ep := raw.at' fun o e => k1 a o e
  have hlt : a < s1.heap.objs.size := Heap.lt_size ho
  refine call_max_walk (iterVals (s := { s1 with heap := g }) (v := s1.heap.objs.size) (d := a) ⟨_, by rw [← hg1]; exact Heap.get?_push_size _ rfl, rfl, rfl⟩ raw1 ?_)
  refine ⟨_, _, _, _, _, _, _, rfl, walkVals (A := X.A.in1) (I.ok.hd hc) g.objs.size a (by rw [hgs]; exact Nat.ne_of_lt (Nat.lt_succ_of_lt hlt)) es ep, ⟨⟨_, Heap.get?_push_size _ rfl, rfl, rfl⟩, raw1.push _⟩, fun b hb => ?_, hpos, CmpOf.ints_gt (fun i => ns.getD i 0) hval, fun v h' tk hP hk => ?_⟩
  · show b < (g.push _).objs.size
    rw [Heap.size_push]
    rcases List.mem_cons.mp hb with e | hb
    · rw [e]
      exact Nat.lt_succ_self _
    · have e : b = a := List.mem_singleton.mp hb
      rw [e, hgs]
      exact Nat.lt_succ_of_lt (Nat.lt_succ_of_lt hlt)
  · have ⟨t, et⟩ := hval _ v hP
    have ⟨b1, b2⟩ := argBest_gt (fun i => ns.getD i 0) (es.size - 1)
    refine ⟨.int _, H1, I1.kept (t' := tk) fun b u e => hk b u (fun hmem => ?_) (Heap.get?_push_of_some _ (k1 b u e)), ⟨t, et⟩, q _ ?_ fun j hj => ?_⟩
    · have e1 : b = g.objs.size := List.mem_singleton.mp hmem
      have e2 : b < s1.heap.objs.size := Heap.lt_size e
      rw [e1, hgs] at e2
      exact absurd e2 (Nat.not_lt.mpr (Nat.le_succ _))
    · have hb : argBest (fun i j => decide (ns.getD i 0 > ns.getD j 0)) (es.size - 1) < ns.length := by omega
      rw [List.getD_eq_getElem?_getD, List.getElem?_eq_getElem hb]
      exact List.getElem_mem hb
    · have ⟨i, hi, e⟩ := List.mem_iff_getElem.mp hj
      have e2 : ns.getD i 0 = j := by rw [List.getD_eq_getElem?_getD, List.getElem?_eq_getElem hi, ← e]; rfl
      rw [← e2]
      exact b2 i (by omega)
end
end LR
/-! environments of data: what a reading does is told over data alone -/
namespace LR
open PySem L2 PySem.W
open Evl (Ex)
abbrev Fg := PySem.W.Frag
/-! ### data in a heap -/
abbrev dScr (ns : List Int) : PyData := .dict [(.list (ns.map .int), .none)]
mutual
inductive Rp (K : Fg) (H : Hp) : V → PyData → Prop
  | non : Rp K H .non .none
  | bl (b : Bool) : Rp K H (.bl b) (.bool b)
  | int (i : Int) : Rp K H (.int i) (.int i)
  | lst {a : Addr} {xs : List V} {ds : List PyData} : H a = some (.lst xs) → RpAll K H xs ds → Rp K H (.ref a) (.list ds)
  | tup {a : Addr} {xs : List V} {ds : List PyData} : H a = some (.tup xs) → RpAll K H xs ds → Rp K H (.ref a) (.tuple ds)
  | scr {a : Addr} {ns : List Int} : SqL K H a (ns.map V.int) → Rp K H (.ref a) (dScr ns)
inductive RpAll (K : Fg) (H : Hp) : List V → List PyData → Prop
  | nil : RpAll K H [] []
  | cons {v : V} {vs : List V} {d : PyData} {ds : List PyData} : Rp K H v d → RpAll K H vs ds → RpAll K H (v :: vs) (d :: ds)
end
section
variable {K : Fg} {H H' : Hp}
mutual
theorem Rp.mono (e : Ex H H') : ∀ (d : PyData) (v : V), Rp K H v d → Rp K H' v d
  | .none, _, h => by cases h; exact .non
  | .bool b, _, h => by cases h; exact .bl b
  | .int i, _, h => by cases h; exact .int i
  | .str x, _, h => by cases h
  | .list ds, _, h => by
    cases h with
    | lst h1 h2 => exact .lst (e _ _ h1) (RpAll.mono e ds _ h2)
  | .tuple ds, _, h => by
    cases h with
    | tup h1 h2 => exact .tup (e _ _ h1) (RpAll.mono e ds _ h2)
  | .dict kvs, _, h => by
    cases h with
    | scr h1 => exact .scr (Evl.ex_l e h1)
theorem RpAll.mono (e : Ex H H') : ∀ (ds : List PyData) (vs : List V), RpAll K H vs ds → RpAll K H' vs ds
  | [], _, h => by cases h; exact .nil
  | d :: ds, _, h => by
    cases h with
    | cons h1 h2 => exact .cons (Rp.mono e d _ h1) (RpAll.mono e ds _ h2)
end
mutual
theorem Rp.dp : ∀ (d : PyData) (v : V), d.canLay0 = true → Rp K H v d → Dp K H v d
  | .none, _, _, h => by cases h; exact .non
  | .bool b, _, _, h => by cases h; exact .bl b
  | .int i, _, _, h => by cases h; exact .int i
  | .str x, _, _, h => by cases h
  | .list ds, _, c, h => by
    cases h with
    | lst h1 h2 => exact .lst (SqL.of h1) (RpAll.dp ds _ (by simpa [PyData.canLay0] using c) h2)
  | .tuple ds, _, c, h => by
    cases h with
    | tup h1 h2 => exact .tup (SqT.of h1) (RpAll.dp ds _ (by simpa [PyData.canLay0] using c) h2)
  | .dict kvs, _, c, h => by simp [PyData.canLay0] at c
theorem RpAll.dp : ∀ (ds : List PyData) (vs : List V), PyData.canLayAll0 ds = true → RpAll K H vs ds → DpAll K H vs ds
  | [], _, _, h => by cases h; exact .nil
  | d :: ds, _, c, h => by
    have c' : d.canLay0 = true ∧ PyData.canLayAll0 ds = true := by simpa [PyData.canLayAll0] using c
    cases h with
    | cons h1 h2 => exact .cons (Rp.dp d _ c'.1 h1) (RpAll.dp ds _ c'.2 h2)
end
theorem Rp.mo {d : PyData} {v : V} (h : Rp K H v d) (e : Ex H H') : Rp K H' v d := Rp.mono e d v h
theorem RpAll.mo {ds : List PyData} {vs : List V} (h : RpAll K H vs ds) (e : Ex H H') : RpAll K H' vs ds := RpAll.mono e ds vs h
theorem RpAll.length : ∀ {vs : List V} {ds : List PyData}, RpAll K H vs ds → vs.length = ds.length
  | _, _, .nil => rfl
  | _, _, .cons _ t => congrArg (· + 1) (RpAll.length t)
theorem RpAll.get : ∀ {vs : List V} {ds : List PyData} {i : Nat} {d : PyData}, RpAll K H vs ds → ds[i]? = some d → ∃ v, vs[i]? = some v ∧ Rp K H v d
  | _, _, _, _, .nil, e => by simp at e
  | _, _, 0, _, .cons h _, e => by
    have e' := Option.some.inj (show some _ = some _ from e)
    subst e'
    exact ⟨_, rfl, h⟩
  | _, _, i + 1, _, .cons _ t, e => RpAll.get (i := i) t e
theorem RpAll.append : ∀ {vs ws : List V} {ds es : List PyData}, RpAll K H vs ds → RpAll K H ws es → RpAll K H (vs ++ ws) (ds ++ es)
  | _, _, _, _, .nil, h => h
  | _, _, _, _, .cons a t, h => .cons a (RpAll.append t h)
theorem RpAll.take : ∀ {vs : List V} {ds : List PyData} (n : Nat), RpAll K H vs ds → RpAll K H (vs.take n) (ds.take n)
  | _, _, 0, _ => .nil
  | _, _, _ + 1, .nil => .nil
  | _, _, n + 1, .cons a t => .cons a (RpAll.take n t)
theorem RpAll.drop : ∀ {vs : List V} {ds : List PyData} (n : Nat), RpAll K H vs ds → RpAll K H (vs.drop n) (ds.drop n)
  | _, _, 0, h => h
  | _, _, _ + 1, .nil => .nil
  | _, _, n + 1, .cons _ t => RpAll.drop n t
theorem RpAll.set {v : V} {d : PyData} (h : Rp K H v d) : ∀ {vs : List V} {ds : List PyData} (n : Nat), RpAll K H vs ds → RpAll K H (vs.set n v) (ds.set n d)
  | _, _, _, .nil => .nil
  | _, _, 0, .cons _ t => .cons h t
  | _, _, n + 1, .cons a t => .cons a (RpAll.set h n t)
theorem RpAll.snoc {vs : List V} {ds : List PyData} {v : V} {d : PyData} (h : RpAll K H vs ds) (g : Rp K H v d) : RpAll K H (vs ++ [v]) (ds ++ [d]) := h.append (.cons g .nil)
theorem RpAll.rev : ∀ {vs : List V} {ds : List PyData}, RpAll K H vs ds → RpAll K H vs.reverse ds.reverse
  | _, _, .nil => .nil
  | _, _, .cons a t => by
    rw [List.reverse_cons, List.reverse_cons]
    exact (RpAll.rev t).snoc a
theorem RpAll.dropLast {vs : List V} {ds : List PyData} (h : RpAll K H vs ds) : RpAll K H vs.dropLast ds.dropLast := by
  rw [List.dropLast_eq_take, List.dropLast_eq_take, h.length]
  exact h.take _
theorem RpAll.ints : ∀ {vs : List V} {ns : List Int}, RpAll K H vs (ns.map .int) → vs = ns.map V.int
  | _, [], h => by cases h; rfl
  | _, n :: ns, h => by
    cases h with
    | cons h1 h2 =>
      cases h1
      rw [RpAll.ints h2]
      rfl
theorem RpAll.of_ints : ∀ (ns : List Int), RpAll K H (ns.map V.int) (ns.map .int)
  | [] => .nil
  | n :: ns => .cons (.int n) (RpAll.of_ints ns)
theorem RpAll.of_bls : ∀ {vs : List V} {bs : List Bool}, RpAll K H vs (bs.map .bool) → vs = bs.map V.bl
  | _, [], h => by cases h; rfl
  | _, b :: bs, h => by
    cases h with
    | cons h1 h2 =>
      cases h1
      rw [RpAll.of_bls h2]
      rfl
theorem Rp.int_inv {v : V} {i : Int} (h : Rp K H v (.int i)) : v = .int i := by cases h; rfl
theorem Rp.bl_inv {v : V} {b : Bool} (h : Rp K H v (.bool b)) : v = .bl b := by cases h; rfl
theorem Rp.non_inv {v : V} (h : Rp K H v .none) : v = .non := by cases h; rfl
theorem Rp.tup_inv {v : V} {ds : List PyData} (h : Rp K H v (.tuple ds)) : ∃ a xs, v = .ref a ∧ H a = some (.tup xs) ∧ RpAll K H xs ds := by
  cases h with
  | tup h1 h2 => exact ⟨_, _, rfl, h1, h2⟩
theorem Rp.lst_inv {v : V} {ds : List PyData} (h : Rp K H v (.list ds)) : ∃ a xs, v = .ref a ∧ H a = some (.lst xs) ∧ RpAll K H xs ds := by
  cases h with
  | lst h1 h2 => exact ⟨_, _, rfl, h1, h2⟩
theorem Rp.scr_inv {v : V} {ns : List Int} (h : Rp K H v (dScr ns)) : ∃ a, v = .ref a ∧ SqL K H a (ns.map V.int) := by
  generalize hd : dScr ns = d at h
  cases h with
  | @scr a ms h1 =>
    have e : ns = ms := by
      have h2 : ns.map PyData.int = ms.map PyData.int := by simpa [dScr] using hd
      exact List.map_inj_right (fun x y z => by cases z; rfl) |>.mp h2
    subst e
    exact ⟨_, rfl, h1⟩
  | non => cases hd
  | bl => cases hd
  | int => cases hd
  | lst => cases hd
  | tup => cases hd
end

/-! ### heaps that grow: F the part that stands still, H the whole -/
structure Gr (F H F' H' : Hp) : Prop where
  f : Ex F F'
  h : Ex H H'
  le : Ex F' H'
  old : ∀ a o, H a = some o → F' a = F a
theorem Gr.refl {F H : Hp} (e : Ex F H) : Gr F H F H := ⟨Ex.refl _, Ex.refl _, e, fun _ _ _ => rfl⟩
theorem Gr.trans {F H F1 H1 F2 H2 : Hp} (a : Gr F H F1 H1) (b : Gr F1 H1 F2 H2) : Gr F H F2 H2 :=
  ⟨a.f.trans b.f, a.h.trans b.h, b.le, fun c o h => (b.old c o (a.h c o h)).trans (a.old c o h)⟩
/-- a new object that stands still -/
theorem Gr.new {F H : Hp} {p : Addr} {o : HO} (e : Ex F H) (h : H p = none) : Gr F H (upd F p o) (upd H p o) := by
  have hf : F p = none := Evl.fresh_back e h
  refine ⟨Ex.new hf, Ex.new h, fun a u q => ?_, fun a u q => ?_⟩
  · by_cases ha : a = p
    · subst ha
      rw [upd_same] at q ⊢
      exact q
    · rw [upd_ne ha] at q ⊢
      exact e a u q
  · rw [upd_ne (ne_of_none q h)]
/-- a new object that may change -/
theorem Gr.own {F H : Hp} {p : Addr} {o : HO} (e : Ex F H) (h : H p = none) : Gr F H F (upd H p o) :=
  ⟨Ex.refl _, Ex.new h, e.trans (Ex.new h), fun _ _ _ => rfl⟩
/-- the same, X an address that may change -/
structure GrX (X : Option Addr) (F H F' H' : Hp) : Prop where
  f : Ex F F'
  h : ∀ a o, X ≠ some a → H a = some o → H' a = some o
  le : Ex F' H'
  old : ∀ a o, H a = some o → F' a = F a
  there : ∀ a o, H a = some o → ∃ o', H' a = some o'
theorem GrX.refl {X : Option Addr} {F H : Hp} (e : Ex F H) : GrX X F H F H := ⟨Ex.refl _, fun _ _ _ h => h, e, fun _ _ _ => rfl, fun _ o h => ⟨o, h⟩⟩
theorem GrX.gr {X : Option Addr} {F H F1 H1 F2 H2 : Hp} (a : GrX X F H F1 H1) (b : Gr F1 H1 F2 H2) : GrX X F H F2 H2 :=
  ⟨a.f.trans b.f, fun c o hx h => b.h c o (a.h c o hx h), b.le, fun c o h => by
    have ⟨o', h'⟩ := a.there c o h
    exact (b.old c o' h').trans (a.old c o h), fun c o h => by
    have ⟨o', h'⟩ := a.there c o h
    exact ⟨o', b.h c o' h'⟩⟩
theorem GrX.toGr {F H F' H' : Hp} (a : GrX none F H F' H') : Gr F H F' H' := ⟨a.f, fun c o h => a.h c o (by simp) h, a.le, a.old⟩

/-! ### environments -/
inductive En where
  | no
  | val (d : PyData)
  | own (ds : List PyData)
  | dic (kvs : List (List Key × PyData))
  | row (a : Addr) (ds : List PyData)
def En.isOwn : En → Bool
  | .own _ => true
  | .dic _ => true
  | .row _ _ => true
  | _ => false
def EnOk (K : Fg) (F H : Hp) (ov : Option V) : En → Prop
  | .no => True
  | .val d => ∃ v, ov = some v ∧ Rp K F v d
  | .own ds => ∃ a xs, ov = some (.ref a) ∧ H a = some (.lst xs) ∧ F a = none ∧ RpAll K F xs ds
  | .dic kvs => ∃ a ks, ov = some (.ref a) ∧ H a = some (.dT ks) ∧ F a = none ∧ Paired (fun (p : List Key × V) (q : List Key × PyData) => p.1 = q.1 ∧ Rp K F p.2 q.2) ks kvs
  | .row a ds => ∃ xs, ov = some (.ref a) ∧ H a = some (.lst xs) ∧ F a = none ∧ RpAll K F xs ds
theorem kvs_mono {K : Fg} {F F' : Hp} (e : Ex F F') : ∀ {ks : List (List Key × V)} {kvs : List (List Key × PyData)}, Paired (fun (p : List Key × V) (q : List Key × PyData) => p.1 = q.1 ∧ Rp K F p.2 q.2) ks kvs → Paired (fun (p : List Key × V) (q : List Key × PyData) => p.1 = q.1 ∧ Rp K F' p.2 q.2) ks kvs
  | _, _, .nil => .nil
  | _, _, .cons h t => .cons ⟨h.1, h.2.mo e⟩ (kvs_mono e t)
theorem EnOk.gr {K : Fg} {F H F' H' : Hp} {ov : Option V} {e : En} (g : Gr F H F' H') (h : EnOk K F H ov e) : EnOk K F' H' ov e := by
  cases e with
  | no => exact True.intro
  | val d =>
    have ⟨v, a, b⟩ := h
    exact ⟨v, a, b.mo g.f⟩
  | own ds =>
    have ⟨a, xs, h1, h2, h3, h4⟩ := h
    exact ⟨a, xs, h1, g.h _ _ h2, (g.old a _ h2).trans h3, h4.mo g.f⟩
  | dic kvs =>
    have ⟨a, xs, h1, h2, h3, h4⟩ := h
    exact ⟨a, xs, h1, g.h _ _ h2, (g.old a _ h2).trans h3, kvs_mono g.f h4⟩
  | row a ds =>
    have ⟨xs, h1, h2, h3, h4⟩ := h
    exact ⟨xs, h1, g.h _ _ h2, (g.old a _ h2).trans h3, h4.mo g.f⟩
abbrev Ens (K : Fg) (F H : Hp) : L2.St → List En → Prop := Paired (EnOk K F H)
theorem Paired.getR {α β : Type} {R : α → β → Prop} : ∀ {l : List α} {m : List β} {i : Nat} {b : β}, Paired R l m → m[i]? = some b → ∃ a, l[i]? = some a ∧ R a b
  | _, _, _, _, .nil, e => by simp at e
  | _, _, 0, _, .cons h _, e => by
    have e' := Option.some.inj (show some _ = some _ from e)
    subst e'
    exact ⟨_, rfl, h⟩
  | _, _, i + 1, _, .cons _ t, e => Paired.getR (i := i) t e
theorem Paired.mapR {α β : Type} {R S : α → β → Prop} (f : ∀ a b, R a b → S a b) : ∀ {l : List α} {m : List β}, Paired R l m → Paired S l m
  | _, _, .nil => .nil
  | _, _, .cons h t => .cons (f _ _ h) (Paired.mapR f t)
theorem Paired.setR {α β : Type} {R : α → β → Prop} {a : α} {b : β} (h : R a b) : ∀ {l : List α} {m : List β} (n : Nat), Paired R l m → Paired R (l.set n a) (m.set n b)
  | _, _, _, .nil => .nil
  | _, _, 0, .cons _ t => .cons h t
  | _, _, n + 1, .cons x t => .cons x (Paired.setR h n t)
structure Env (K : Fg) (F H : Hp) (σ : L2.St) (es : List En) : Prop where
  le : Ex F H
  en : Ens K F H σ es
theorem Env.gr {K : Fg} {F H F' H' : Hp} {σ : L2.St} {es : List En} (E : Env K F H σ es) (g : Gr F H F' H') : Env K F' H' σ es :=
  ⟨g.le, Paired.mapR (fun _ _ h => h.gr g) E.en⟩
structure S (K : Fg) (X : Option Addr) (F0 H0 : Hp) (es : List En) (σ : L2.St) (F H : Hp) : Prop where
  gr : GrX X F0 H0 F H
  en : Ens K F H σ es
  ap : ∀ (i j : Nat) (a : Addr) (e e' : En), es[i]? = some e → es[j]? = some e' → e.isOwn = true → e'.isOwn = true → σ[i]? = some (some (.ref a)) → σ[j]? = some (some (.ref a)) → i = j
  nw : ∀ (i : Nat) (a : Addr) (e : En), es[i]? = some e → e.isOwn = true → σ[i]? = some (some (.ref a)) → H0 a = none ∨ X = some a
section
variable {K : Fg} {X : Option Addr} {F0 H0 F H F' H' : Hp} {σ : L2.St} {es : List En}
theorem S.env (s : S K X F0 H0 es σ F H) : Env K F H σ es := ⟨s.gr.le, s.en⟩
theorem S.mono (s : S K X F0 H0 es σ F H) (g : Gr F H F' H') : S K X F0 H0 es σ F' H' :=
  ⟨s.gr.gr g, (s.env.gr g).en, s.ap, s.nw⟩
theorem set_some {α : Type} {l : List α} {i j : Nat} {x y : α} (h : (l.set i x)[j]? = some y) : (j = i ∧ y = x) ∨ (j ≠ i ∧ l[j]? = some y) := by
  by_cases e : j = i
  · subst e
    rw [List.getElem?_set_self'] at h
    cases hl : l[j]? with
    | none =>
      rw [hl] at h
      cases h
    | some z =>
      rw [hl] at h
      exact .inl ⟨rfl, (Option.some.inj h).symm⟩
  · rw [List.getElem?_set_ne (Ne.symm e)] at h
    exact .inr ⟨e, h⟩
/-- a slot is given a value, a new object, nothing -/
theorem S.set (s : S K X F0 H0 es σ F H) {i : Nat} {ov : Option V} {e : En} (h : EnOk K F H ov e) (hn : e.isOwn = true → ∀ a, ov = some (.ref a) → (H0 a = none ∨ X = some a) ∧ ∀ (j : Nat) (e' : En), es[j]? = some e' → e'.isOwn = true → σ[j]? ≠ some (some (.ref a))) :
    S K X F0 H0 (es.set i e) (σ.set i ov) F H := by
  refine ⟨s.gr, Paired.setR h i s.en, fun j k a x y hx hy ox oy hj hk => ?_, fun j a x hx ox hj => ?_⟩
  · rcases set_some hx with ⟨e1, e2⟩ | ⟨n1, hx2⟩
    · rcases set_some hy with ⟨e3, e4⟩ | ⟨n3, hy2⟩
      · rw [e1, e3]
      · subst e1 e2
        rcases set_some hj with ⟨_, ej⟩ | ⟨nj, _⟩
        · rcases set_some hk with ⟨ek, _⟩ | ⟨_, hk2⟩
          · exact absurd ek n3
          · exact absurd hk2 ((hn ox a ej.symm).2 k y hy2 oy)
        · exact absurd rfl nj
    · rcases set_some hy with ⟨e3, e4⟩ | ⟨n3, hy2⟩
      · subst e3 e4
        rcases set_some hk with ⟨_, ek⟩ | ⟨nk, _⟩
        · rcases set_some hj with ⟨ej, _⟩ | ⟨_, hj2⟩
          · exact absurd ej n1
          · exact absurd hj2 ((hn oy a ek.symm).2 j x hx2 ox)
        · exact absurd rfl nk
      · rcases set_some hj with ⟨ej, _⟩ | ⟨_, hj2⟩
        · exact absurd ej n1
        · rcases set_some hk with ⟨ek, _⟩ | ⟨_, hk2⟩
          · exact absurd ek n3
          · exact s.ap j k a x y hx2 hy2 ox oy hj2 hk2
  · rcases set_some hx with ⟨e1, e2⟩ | ⟨n1, hx2⟩
    · subst e1 e2
      rcases set_some hj with ⟨_, ej⟩ | ⟨nj, _⟩
      · exact (hn ox a ej.symm).1
      · exact absurd rfl nj
    · rcases set_some hj with ⟨ej, _⟩ | ⟨_, hj2⟩
      · exact absurd ej n1
      · exact s.nw j a x hx2 ox hj2
theorem S.val (s : S K X F0 H0 es σ F H) {i : Nat} {v : V} {d : PyData} (h : Rp K F v d) : S K X F0 H0 (es.set i (.val d)) (σ.set i (some v)) F H :=
  s.set ⟨v, rfl, h⟩ fun z => by cases z
end
end LR
namespace LR
open PySem L2 PySem.W
open Evl (Ex)
section
variable (K : Fg)
/-- a value; a new list; a list that is read; a test; arguments -/
def EvE (te : TE) (es : List En) (d : PyData) : Prop := ∀ (σ : L2.St) (F H : Hp), Env K F H σ es → ∀ Q : VK, (∀ v F' H', Gr F H F' H' → Rp K F' v d → Q v H') → te σ H Q
def EvN (te : TE) (es : List En) (ds : List PyData) : Prop := ∀ (σ : L2.St) (F H : Hp), Env K F H σ es → ∀ Q : VK, (∀ a xs F' H', Gr F H F' H' → H a = none → H' a = some (.lst xs) → F' a = none → RpAll K F' xs ds → Q (.ref a) H') → te σ H Q
def EvW (te : TE) (es : List En) (ds : List PyData) : Prop := ∀ (σ : L2.St) (F H : Hp), Env K F H σ es → ∀ Q : VK, (∀ a xs F' H', Gr F H F' H' → SqL K H' a xs → RpAll K F' xs ds → Q (.ref a) H') → te σ H Q
def EvT (tt : TT) (es : List En) (b : Bool) : Prop := ∀ (σ : L2.St) (F H : Hp), Env K F H σ es → ∀ Q : Bool → Hp → Prop, (∀ F' H', Gr F H F' H' → Q b H') → tt σ H Q
def EvA (ta : TA) (es : List En) (ds : List PyData) : Prop := ∀ (σ : L2.St) (F H : Hp), Env K F H σ es → ∀ Q : List V → Hp → Prop, (∀ vs F' H', Gr F H F' H' → RpAll K F' vs ds → Q vs H') → ta σ H Q
/-- operations on values: two operands, one, a call's arguments -/
def R2E (r : R2) (x y z : PyData) : Prop := ∀ (F H : Hp) (v u : V), Ex F H → Rp K F v x → Rp K F u y → ∀ Q : VK, (∀ w F' H', Gr F H F' H' → Rp K F' w z → Q w H') → r v u H Q
def R1E (r : V → Hp → VK → Prop) (x z : PyData) : Prop := ∀ (F H : Hp) (v : V), Ex F H → Rp K F v x → ∀ Q : VK, (∀ w F' H', Gr F H F' H' → Rp K F' w z → Q w H') → r v H Q
def RAE (r : List V → Hp → VK → Prop) (xs : List PyData) (z : PyData) : Prop := ∀ (F H : Hp) (vs : List V), Ex F H → RpAll K F vs xs → ∀ Q : VK, (∀ w F' H', Gr F H F' H' → Rp K F' w z → Q w H') → r vs H Q
end
section
variable {K : Fg} {te ta tb tc : TE} {tt tu : TT} {es : List En} {d x y z : PyData} {ds xs : List PyData} {r r' : R2} {b c : Bool}
theorem EvN.e (h : EvN K te es ds) : EvE K te es (.list ds) := fun σ F H E Q q => h σ F H E Q fun a xs F' H' g h0 h1 h2 h3 => by
  have hf : Ex F' (upd F' a (.lst xs)) := Ex.new h2
  refine q (.ref a) (upd F' a (.lst xs)) H' ⟨g.f.trans hf, g.h, fun b o e => ?_, fun b o e => ?_⟩ (.lst upd_same (h3.mo hf))
  · by_cases hb : b = a
    · subst hb
      rw [upd_same] at e
      rw [h1]
      exact e
    · rw [upd_ne hb] at e
      exact g.le b o e
  · rw [upd_ne (ne_of_none e h0)]
    exact g.old b o e
theorem EvE.w (h : EvE K te es (.list ds)) : EvW K te es ds := fun σ F H E Q q => h σ F H E Q fun v F' H' g hr => by
  have ⟨a, xs, e, h1, h2⟩ := hr.lst_inv
  subst e
  exact q a xs F' H' g (SqL.of (g.le _ _ h1)) h2
theorem EvE.ws {ns : List Int} (h : EvE K te es (dScr ns)) : EvW K te es (ns.map .int) := fun σ F H E Q q => h σ F H E Q fun v F' H' g hr => by
  have ⟨a, e, h1⟩ := hr.scr_inv
  subst e
  exact q a _ F' H' g (Evl.ex_l g.le h1) (RpAll.of_ints ns)
theorem EvN.w (h : EvN K te es ds) : EvW K te es ds := h.e.w
theorem EvE.is (h : EvE K te es x) (e : x = y) : EvE K te es y := e ▸ h
theorem EvN.is (h : EvN K te es xs) (e : xs = ds) : EvN K te es ds := e ▸ h
theorem EvT.is (h : EvT K tt es b) (e : b = c) : EvT K tt es c := e ▸ h
/-! names, constants -/
theorem e_var {i : Nat} (h : es[i]? = some (.val d)) : EvE K (tVar i) es d := fun σ F H E Q q => by
  have ⟨ov, h1, v, h2, h3⟩ := Paired.getR E.en h
  subst h2
  exact ⟨v, h1, q v F H (Gr.refl E.le) h3⟩
theorem w_var {i : Nat} (h : es[i]? = some (.own ds)) : EvW K (tVar i) es ds := fun σ F H E Q q => by
  have ⟨ov, h1, a, xs, h2, h3, h4, h5⟩ := Paired.getR E.en h
  subst h2
  exact ⟨_, h1, q a xs F H (Gr.refl E.le) (SqL.of h3) h5⟩
theorem e_int {i : Int} : EvE K (tC (.int i)) es (.int i) := fun σ F H E Q q => q _ F H (Gr.refl E.le) (.int i)
theorem e_bl {b : Bool} : EvE K (tC (.bl b)) es (.bool b) := fun σ F H E Q q => q _ F H (Gr.refl E.le) (.bl b)
theorem e_non : EvE K (tC .non) es .none := fun σ F H E Q q => q _ F H (Gr.refl E.le) .non
/-! operators -/
theorem e_op (h1 : EvE K ta es x) (h2 : EvE K tb es y) (hr : R2E K r x y z) : EvE K (tOp r ta tb) es z := fun σ F H E Q q =>
  h1 σ F H E _ fun v F1 H1 g1 r1 => h2 σ F1 H1 (E.gr g1) _ fun u F2 H2 g2 r2 => hr F2 H2 v u g2.le (r1.mo g2.f) r2 Q fun w F3 H3 g3 r3 => q w F3 H3 ((g1.trans g2).trans g3) r3
theorem e_un {rr : V → Hp → VK → Prop} (h1 : EvE K ta es x) (hr : R1E K rr x z) : EvE K (tUn rr ta) es z := fun σ F H E Q q =>
  h1 σ F H E _ fun v F1 H1 g1 r1 => hr F1 H1 v g1.le r1 Q fun w F3 H3 g3 r3 => q w F3 H3 (g1.trans g3) r3
theorem r_I0 {g : Int → Int → Int} {i j : Int} : R2E K (rI0 fun i j => .int (g i j)) (.int i) (.int j) (.int (g i j)) := fun F H v u e hv hu Q q =>
  ⟨i, j, hv.int_inv, hu.int_inv, q _ F H (Gr.refl e) (.int _)⟩
theorem r_I {C : Int → Int → Prop} {g : Int → Int → Int} {i j : Int} (hc : C i j) : R2E K (rI C fun i j => .int (g i j)) (.int i) (.int j) (.int (g i j)) := fun F H v u e hv hu Q q =>
  ⟨i, j, hv.int_inv, hu.int_inv, hc, q _ F H (Gr.refl e) (.int _)⟩
theorem r_cmp {g : Int → Int → Bool} {i j : Int} : R2E K (rI0 fun i j => .bl (g i j)) (.int i) (.int j) (.bool (g i j)) := fun F H v u e hv hu Q q =>
  ⟨i, j, hv.int_inv, hu.int_inv, q _ F H (Gr.refl e) (.bl _)⟩
theorem r_eqI {i j : Int} : R2E K rEq (.int i) (.int j) (.bool (decide (i = j))) := fun F H v u e hv hu Q q => by
  have e1 := hv.int_inv
  have e2 := hu.int_inv
  subst e1; subst e2
  refine ⟨rfl, ?_⟩
  have z : decide (V.int i = V.int j) = decide (i = j) := by simp
  rw [z]
  exact q _ F H (Gr.refl e) (.bl _)
theorem r_neI {i j : Int} : R2E K rNe (.int i) (.int j) (.bool (!decide (i = j))) := fun F H v u e hv hu Q q => by
  have e1 := hv.int_inv
  have e2 := hu.int_inv
  subst e1; subst e2
  refine ⟨rfl, ?_⟩
  have z : decide (V.int i = V.int j) = decide (i = j) := by simp
  rw [z]
  exact q _ F H (Gr.refl e) (.bl _)
theorem r_eqB {i j : Bool} : R2E K rEq (.bool i) (.bool j) (.bool (decide (i = j))) := fun F H v u e hv hu Q q => by
  have e1 := hv.bl_inv
  have e2 := hu.bl_inv
  subst e1; subst e2
  refine ⟨rfl, ?_⟩
  have z : decide (V.bl i = V.bl j) = decide (i = j) := by simp
  rw [z]
  exact q _ F H (Gr.refl e) (.bl _)
theorem r_eqD (hx : SeqAt.shaped x = true) (hy : SeqAt.shaped y = true) : R2E K (rEqD K) x y (.bool (PyData.eqv x y)) := fun F H v u e hv hu Q q =>
  ⟨x, y, Rp.dp x v (SeqAt.canLay_of_shaped hx) (hv.mo e), Rp.dp y u (SeqAt.canLay_of_shaped hy) (hu.mo e), hx, hy, q _ F H (Gr.refl e) (.bl _)⟩
theorem r_ltD (hx : x.canLay0 = true) (hy : y.canLay0 = true) (ha : alike x y = true) (hn : x ≠ .none) (hz : x.depth ≤ 60) : R2E K (rLtD K) x y (.bool (dataLt x y)) := fun F H v u e hv hu Q q =>
  ⟨x, y, Rp.dp x v hx (hv.mo e), Rp.dp y u hy (hu.mo e), ha, hn, hz, q _ F H (Gr.refl e) (.bl _)⟩
theorem r_neg {i : Int} : R1E K (rU fun i => .int (-i)) (.int i) (.int (-i)) := fun F H v e hv Q q => ⟨i, hv.int_inv, q _ F H (Gr.refl e) (.int _)⟩
/-- != of two lists that are read -/
theorem e_neW (h1 : EvW K ta es xs) (h2 : EvW K tb es ds) (hx : SeqAt.shaped (.list xs) = true) (hy : SeqAt.shaped (.list ds) = true) : EvE K (tOp (rNeD K) ta tb) es (.bool (!PyData.eqv (.list xs) (.list ds))) := fun σ F H E Q q =>
  h1 σ F H E _ fun a us F1 H1 g1 s1 r1 => h2 σ F1 H1 (E.gr g1) _ fun b ws F2 H2 g2 s2 r2 =>
    ⟨.list xs, .list ds, .lst (Evl.ex_l g2.h s1) (RpAll.dp xs us (by simpa [PyData.canLay0] using SeqAt.canLay_of_shaped hx) (r1.mo (g2.f.trans g2.le))), .lst s2 (RpAll.dp ds ws (by simpa [PyData.canLay0] using SeqAt.canLay_of_shaped hy) (r2.mo g2.le)), hx, hy,
      q _ F2 H2 (g1.trans g2) (.bl _)⟩
theorem e_eqW (h1 : EvW K ta es xs) (h2 : EvW K tb es ds) (hx : SeqAt.shaped (.list xs) = true) (hy : SeqAt.shaped (.list ds) = true) : EvE K (tOp (rEqD K) ta tb) es (.bool (PyData.eqv (.list xs) (.list ds))) := fun σ F H E Q q =>
  h1 σ F H E _ fun a us F1 H1 g1 s1 r1 => h2 σ F1 H1 (E.gr g1) _ fun b ws F2 H2 g2 s2 r2 =>
    ⟨.list xs, .list ds, .lst (Evl.ex_l g2.h s1) (RpAll.dp xs us (by simpa [PyData.canLay0] using SeqAt.canLay_of_shaped hx) (r1.mo (g2.f.trans g2.le))), .lst s2 (RpAll.dp ds ws (by simpa [PyData.canLay0] using SeqAt.canLay_of_shaped hy) (r2.mo g2.le)), hx, hy,
      q _ F2 H2 (g1.trans g2) (.bl _)⟩
/-- x in a list -/
theorem e_inW (h1 : EvE K ta es x) (h2 : EvW K tb es ds) (hx : SeqAt.shaped x = true) (hy : SeqAt.shaped (.list ds) = true) : EvE K (tOp (rInD K) ta tb) es (.bool (ds.any fun z => PyData.eqv z x)) := fun σ F H E Q q =>
  h1 σ F H E _ fun v F1 H1 g1 r1 => h2 σ F1 H1 (E.gr g1) _ fun b ws F2 H2 g2 s2 r2 =>
    ⟨x, ds, Rp.dp x v (SeqAt.canLay_of_shaped hx) (r1.mo (g2.f.trans g2.le)), .lst s2 (RpAll.dp ds ws (by simpa [PyData.canLay0] using SeqAt.canLay_of_shaped hy) (r2.mo g2.le)), hx, hy, q _ F2 H2 (g1.trans g2) (.bl _)⟩
/-- is None, is not None -/
theorem nonV {F : Hp} {v : V} (h : Rp K F v x) : decide (v = V.non) = (match x with | .none => true | _ => false) := by
  cases h with
  | non => rfl
  | bl => exact decide_eq_false fun z => nomatch z
  | int => exact decide_eq_false fun z => nomatch z
  | lst => exact decide_eq_false fun z => nomatch z
  | tup => exact decide_eq_false fun z => nomatch z
  | scr => exact decide_eq_false fun z => nomatch z
def isNon : PyData → Bool
  | .none => true
  | _ => false
theorem e_isN (h : EvE K ta es x) : EvE K (tIsN ta) es (.bool (isNon x)) := fun σ F H E Q q => h σ F H E _ fun v F1 H1 g1 r1 => by
  have e : decide (v = V.non) = isNon x := by rw [nonV r1]; cases x <;> rfl
  show Q (.bl (decide (v = V.non))) H1
  rw [e]
  exact q _ F1 H1 g1 (.bl _)
theorem e_notN (h : EvE K ta es x) : EvE K (tNotN ta) es (.bool (!isNon x)) := fun σ F H E Q q => h σ F H E _ fun v F1 H1 g1 r1 => by
  have e : decide (v = V.non) = isNon x := by rw [nonV r1]; cases x <;> rfl
  show Q (.bl (!decide (v = V.non))) H1
  rw [e]
  exact q _ F1 H1 g1 (.bl _)
/-- a < b < c -/
theorem e_chain (h1 : EvE K ta es x) (h2 : EvE K tb es y) (h3 : b = true → EvE K tc es z) (hr : R2E K r x y (.bool b)) (hr' : b = true → R2E K r' y z (.bool c)) (hc : b = false → c = false) : EvE K (tChain r r' ta tb tc) es (.bool c) := fun σ F H E Q q =>
  h1 σ F H E _ fun v F1 H1 g1 r1 => h2 σ F1 H1 (E.gr g1) _ fun u F2 H2 g2 r2 => hr F2 H2 v u g2.le (r1.mo g2.f) r2 _ fun w F3 H3 g3 r3 => by
    have e := r3.bl_inv
    subst e
    refine ⟨b, rfl, ?_⟩
    cases b with
    | false =>
      rw [if_neg Bool.false_ne_true]
      have e := hc rfl
      subst e
      exact q _ F3 H3 ((g1.trans g2).trans g3) (.bl _)
    | true =>
      rw [if_pos rfl]
      exact h3 rfl σ F3 H3 (((E.gr g1).gr g2).gr g3) _ fun t F4 H4 g4 r4 => hr' rfl F4 H4 u t g4.le (r2.mo (g3.f.trans g4.f)) r4 _ fun w F5 H5 g5 r5 => q w F5 H5 ((((g1.trans g2).trans g3).trans g4).trans g5) r5
/-! tests -/
theorem t_test (h : EvE K te es (.bool b)) : EvT K (tTest te) es b := fun σ F H E Q q => h σ F H E _ fun v F1 H1 g1 r1 => ⟨b, r1.bl_inv, q F1 H1 g1⟩
theorem t_B (h : EvE K te es (.bool b)) : EvT K (tB te) es b := fun σ F H E Q q => h σ F H E _ fun v F1 H1 g1 r1 => ⟨b, r1.bl_inv, q F1 H1 g1⟩
theorem t_and (h1 : EvT K tt es b) (h2 : b = true → EvT K tu es c) : EvT K (tAnd tt tu) es (b && c) := fun σ F H E Q q => h1 σ F H E _ fun F1 H1 g1 => by
  cases b with
  | true => exact h2 rfl σ F1 H1 (E.gr g1) Q fun F2 H2 g2 => q F2 H2 (g1.trans g2)
  | false => exact q F1 H1 g1
theorem t_or (h1 : EvT K tt es b) (h2 : b = false → EvT K tu es c) : EvT K (tOr tt tu) es (b || c) := fun σ F H E Q q => h1 σ F H E _ fun F1 H1 g1 => by
  cases b with
  | false => exact h2 rfl σ F1 H1 (E.gr g1) Q fun F2 H2 g2 => q F2 H2 (g1.trans g2)
  | true => exact q F1 H1 g1
theorem t_not (h1 : EvT K tt es b) : EvT K (tNot tt) es (!b) := fun σ F H E Q q => h1 σ F H E _ fun F1 H1 g1 => q F1 H1 g1
theorem e_andV (h1 : EvE K ta es (.bool b)) (h2 : b = true → EvE K tb es (.bool c)) : EvE K (tAndV ta tb) es (.bool (b && c)) := fun σ F H E Q q => h1 σ F H E _ fun v F1 H1 g1 r1 => by
  refine ⟨b, r1.bl_inv, ?_⟩
  cases b with
  | true => exact h2 rfl σ F1 H1 (E.gr g1) Q fun w F2 H2 g2 r2 => q w F2 H2 (g1.trans g2) r2
  | false => exact q _ F1 H1 g1 (.bl _)
theorem e_orV (h1 : EvE K ta es (.bool b)) (h2 : b = false → EvE K tb es (.bool c)) : EvE K (tOrV ta tb) es (.bool (b || c)) := fun σ F H E Q q => h1 σ F H E _ fun v F1 H1 g1 r1 => by
  refine ⟨b, r1.bl_inv, ?_⟩
  cases b with
  | false => exact h2 rfl σ F1 H1 (E.gr g1) Q fun w F2 H2 g2 r2 => q w F2 H2 (g1.trans g2) r2
  | true => exact q _ F1 H1 g1 (.bl _)
theorem e_notV (h1 : EvE K ta es (.bool b)) : EvE K (tNotV ta) es (.bool (!b)) := fun σ F H E Q q => h1 σ F H E _ fun v F1 H1 g1 r1 => ⟨b, r1.bl_inv, q _ F1 H1 g1 (.bl _)⟩
theorem e_if (h : EvT K tt es b) (h1 : b = true → EvE K ta es x) (h2 : b = false → EvE K tb es x) : EvE K (tIf tt ta tb) es x := fun σ F H E Q q => h σ F H E _ fun F1 H1 g1 => by
  cases b with
  | true => exact h1 rfl σ F1 H1 (E.gr g1) Q fun w F2 H2 g2 r2 => q w F2 H2 (g1.trans g2) r2
  | false => exact h2 rfl σ F1 H1 (E.gr g1) Q fun w F2 H2 g2 r2 => q w F2 H2 (g1.trans g2) r2
/-! argument lists, displays -/
variable {tl tr : TA}
theorem a_nil : EvA K tNil es [] := fun σ F H E Q q => q [] F H (Gr.refl E.le) .nil
theorem a_cons (h1 : EvE K ta es x) (h2 : EvA K tr es xs) : EvA K (tCons ta tr) es (x :: xs) := fun σ F H E Q q =>
  h1 σ F H E _ fun v F1 H1 g1 r1 => h2 σ F1 H1 (E.gr g1) _ fun vs F2 H2 g2 r2 => q (v :: vs) F2 H2 (g1.trans g2) (.cons (r1.mo g2.f) r2)
theorem a_star (h1 : EvE K ta es (.tuple ds)) (h2 : EvA K tr es xs) : EvA K (StX.tStar K ta tr) es (ds ++ xs) := fun σ F H E Q q =>
  h1 σ F H E _ fun v F1 H1 g1 r1 => by
    have ⟨a, us, e, hu, hr⟩ := r1.tup_inv
    subst e
    exact ⟨a, us, rfl, .inl (SqT.of (g1.le _ _ hu)), h2 σ F1 H1 (E.gr g1) _ fun vs F2 H2 g2 r2 => q (us ++ vs) F2 H2 (g1.trans g2) ((hr.mo g2.f).append r2)⟩
theorem e_tup (h : EvA K tl es xs) (hz : xs.length ≤ 100000) : EvE K (tTup tl) es (.tuple xs) := fun σ F H E Q q => h σ F H E _ fun vs F1 H1 g1 r1 =>
  ⟨Evl.sz_of (by rw [r1.length]; exact hz), fun p hp => q (.ref p) (upd F1 p (.tup vs)) (upd H1 p (.tup vs)) (g1.trans (Gr.new g1.le hp)) (.tup upd_same (r1.mo (Ex.new (Evl.fresh_back g1.le hp))))⟩
theorem n_lst (h : EvA K tl es xs) (hz : xs.length ≤ 100000) : EvN K (tLst tl) es xs := fun σ F H E Q q => h σ F H E _ fun vs F1 H1 g1 r1 =>
  ⟨Evl.sz_of (by rw [r1.length]; exact hz), fun p hp => q p vs F1 (upd H1 p (.lst vs)) (g1.trans (Gr.own g1.le hp)) (Evl.fresh_back g1.h hp) upd_same (Evl.fresh_back g1.le hp) r1⟩
/-! subscripts, slices, len -/
theorem at_map {H : Hp} {vs : List V} {i : Int} (h : RpAll K H vs ds) (e : atI ds i = some x) : ∃ v, atI vs i = some v ∧ Rp K H v x := by
  unfold atI at e ⊢
  rw [h.length]
  cases hj : ixN ds.length i with
  | none =>
    rw [hj] at e
    cases e
  | some j =>
    rw [hj] at e
    exact h.get e
theorem r_ixT {i : Int} (e : atI ds i = some x) : R2E K (rIxT K) (.tuple ds) (.int i) x := fun F H v u ex hv hu Q q => by
  have ⟨a, us, e1, h1, h2⟩ := hv.tup_inv
  have ⟨w, h3, h4⟩ := at_map h2 e
  exact ⟨a, us, i, w, e1, hu.int_inv, SqT.of (ex _ _ h1), h3, q w F H (Gr.refl ex) h4⟩
theorem e_ixL {i : Int} (h1 : EvW K ta es ds) (h2 : EvE K tb es (.int i)) (e : atI ds i = some x) : EvE K (tOp (rIxL K) ta tb) es x := fun σ F H E Q q =>
  h1 σ F H E _ fun a us F1 H1 g1 s1 r1 => h2 σ F1 H1 (E.gr g1) _ fun u F2 H2 g2 r2 => by
    have ⟨w, h3, h4⟩ := at_map r1 e
    exact ⟨a, us, i, w, rfl, r2.int_inv, Evl.ex_l g2.h s1, h3, q w F2 H2 (g1.trans g2) (h4.mo g2.f)⟩
def EvO (to : TO) (es : List En) (o : Option Int) : Prop := ∀ (σ : L2.St) (F H : Hp), Env K F H σ es → ∀ Q : Option Int → Hp → Prop, (∀ F' H', Gr F H F' H' → Q o H') → to σ H Q
theorem o_none : EvO (K := K) tNoPart es none := fun σ F H E Q q => q F H (Gr.refl E.le)
theorem o_some {i : Int} (h : EvE K ta es (.int i)) : EvO (K := K) (tPart ta) es (some i) := fun σ F H E Q q => h σ F H E _ fun v F1 H1 g1 r1 => ⟨i, r1.int_inv, q F1 H1 g1⟩
def cutD (xs : List PyData) (lo hi : Option Int) : List PyData := (xs.drop (HT.sIx xs.length 0 lo)).take (HT.sIx xs.length xs.length hi - HT.sIx xs.length 0 lo)
theorem cut_map {H : Hp} {vs : List V} {lo hi : Option Int} (h : RpAll K H vs ds) : RpAll K H (cutV vs lo hi) (cutD ds lo hi) := by
  unfold cutV cutD
  rw [h.length]
  exact (h.drop _).take _
theorem n_sl {tlo thi : TO} {lo hi : Option Int} (h : EvW K te es ds) (h1 : EvO (K := K) tlo es lo) (h2 : EvO (K := K) thi es hi) : EvN K (tSl (rSlL K) te tlo thi) es (cutD ds lo hi) := fun σ F H E Q q =>
  h σ F H E _ fun a us F1 H1 g1 s1 r1 => h1 σ F1 H1 (E.gr g1) _ fun F2 H2 g2 => h2 σ F2 H2 ((E.gr g1).gr g2) _ fun F3 H3 g3 =>
    ⟨a, us, rfl, Evl.ex_l (g2.h.trans g3.h) s1, fun p hp => q p _ F3 _ (((g1.trans g2).trans g3).trans (Gr.own g3.le hp)) (Evl.fresh_back ((g1.h.trans g2.h).trans g3.h) hp) upd_same (Evl.fresh_back g3.le hp) (cut_map (r1.mo (g2.f.trans g3.f)))⟩
theorem n_rev (h : EvW K te es ds) : EvN K (tRevL K te) es ds.reverse := fun σ F H E Q q => h σ F H E _ fun a us F1 H1 g1 s1 r1 =>
  ⟨a, us, rfl, s1, fun p hp => q p _ F1 _ (g1.trans (Gr.own g1.le hp)) (Evl.fresh_back g1.h hp) upd_same (Evl.fresh_back g1.le hp) r1.rev⟩
theorem n_cat (h1 : EvN K ta es xs) (h2 : EvN K tb es ds) (hz : xs.length + ds.length ≤ 100000) : EvN K (tOp rCat ta tb) es (xs ++ ds) := fun σ F H E Q q =>
  h1 σ F H E _ fun a us F1 H1 g1 n1 s1 f1 r1 => h2 σ F1 H1 (E.gr g1) _ fun b ws F2 H2 g2 n2 s2 f2 r2 =>
    ⟨a, b, us, ws, rfl, rfl, g2.h _ _ s1, s2, Evl.sz_of (by rw [r1.length, r2.length]; exact hz), fun p hp => q p _ F2 _ ((g1.trans g2).trans (Gr.own g2.le hp)) (Evl.fresh_back (g1.h.trans g2.h) hp) upd_same (Evl.fresh_back g2.le hp) ((r1.mo g2.f).append r2)⟩
theorem n_catE (h1 : EvE K ta es (.list xs)) (h2 : EvE K tb es (.list ds)) (hz : xs.length + ds.length ≤ 100000) : EvN K (tOp rCat ta tb) es (xs ++ ds) := fun σ F H E Q q =>
  h1 σ F H E _ fun v F1 H1 g1 r1 => h2 σ F1 H1 (E.gr g1) _ fun w F2 H2 g2 r2 => by
    have ⟨a, us, e1, s1, t1⟩ := r1.lst_inv
    have ⟨b, ws, e2, s2, t2⟩ := r2.lst_inv
    exact ⟨a, b, us, ws, e1, e2, g2.le _ _ (g2.f _ _ s1), g2.le _ _ s2, Evl.sz_of (by rw [t1.length, t2.length]; exact hz), fun p hp => q p _ F2 _ ((g1.trans g2).trans (Gr.own g2.le hp)) (Evl.fresh_back (g1.h.trans g2.h) hp) upd_same (Evl.fresh_back g2.le hp) ((t1.mo g2.f).append t2)⟩
/-- len(x), by the two forms that the rule reads -/
theorem e_len (h : EvW K te es ds) : EvE K (tCB (Evl.rLenS K) (tCons te tNil)) es (.int (ds.length : Int)) := fun σ F H E Q q => h σ F H E _ fun a us F1 H1 g1 s1 r1 =>
  ⟨a, us, rfl, .inl s1, by rw [r1.length]; exact q _ F1 H1 g1 (.int _)⟩
theorem e_lenT (h : EvE K te es (.tuple ds)) : EvE K (tCB (Evl.rLenS K) (tCons te tNil)) es (.int (ds.length : Int)) := fun σ F H E Q q => h σ F H E _ fun v F1 H1 g1 r1 => by
  have ⟨a, us, e, h1, h2⟩ := r1.tup_inv
  exact ⟨a, us, by rw [e], .inr (SqT.of (g1.le _ _ h1)), by rw [h2.length]; exact q _ F1 H1 g1 (.int _)⟩
/-! calls of built-ins -/
theorem e_cb {rr : List V → Hp → VK → Prop} (h : EvA K tl es xs) (hr : RAE K rr xs z) : EvE K (tCB rr tl) es z := fun σ F H E Q q => h σ F H E _ fun vs F1 H1 g1 r1 => hr F1 H1 vs g1.le r1 Q fun w F2 H2 g2 r2 => q w F2 H2 (g1.trans g2) r2
theorem ra_abs {i : Int} : RAE K (fun xs H Q => ∃ i, xs = [.int i] ∧ Q (.int (if i < 0 then -i else i)) H) [.int i] (.int (if i < 0 then -i else i)) := fun F H vs e h Q q =>
  ⟨i, RpAll.ints (ns := [i]) h, q _ F H (Gr.refl e) (.int _)⟩
theorem ra_max2 {i j : Int} : RAE K (fun xs H Q => ∃ i j, xs = [.int i, .int j] ∧ Q (.int (if j > i then j else i)) H) [.int i, .int j] (.int (if j > i then j else i)) := fun F H vs e h Q q =>
  ⟨i, j, RpAll.ints (ns := [i, j]) h, q _ F H (Gr.refl e) (.int _)⟩
theorem ra_min2 {i j : Int} : RAE K (fun xs H Q => ∃ i j, xs = [.int i, .int j] ∧ Q (.int (if j < i then j else i)) H) [.int i, .int j] (.int (if j < i then j else i)) := fun F H vs e h Q q =>
  ⟨i, j, RpAll.ints (ns := [i, j]) h, q _ F H (Gr.refl e) (.int _)⟩
theorem ra_int {i : Int} : RAE K (fun xs H Q => (∃ i, xs = [.int i] ∧ Q (.int i) H) ∨ ∃ k, xs = [.bl k] ∧ Q (.int (if k then 1 else 0)) H) [.int i] (.int i) := fun F H vs e h Q q =>
  .inl ⟨i, RpAll.ints (ns := [i]) h, q _ F H (Gr.refl e) (.int _)⟩
theorem ints_len {H : Hp} {vs : List V} {ns : List Int} (h : RpAll K H vs (ns.map .int)) : vs.length = ns.length := by rw [h.length, List.length_map]
theorem e_sum {ns : List Int} (h : EvW K te es (ns.map .int)) : EvE K (tCB (rSum K) (tCons te tNil)) es (.int ns.sum) := fun σ F H E Q q => h σ F H E _ fun a us F1 H1 g1 s1 r1 => by
  rw [RpAll.ints r1] at s1
  exact ⟨a, ns, rfl, s1, q _ F1 H1 g1 (.int _)⟩
theorem e_all {bs : List Bool} (h : EvW K te es (bs.map .bool)) : EvE K (tCB (rAll K) (tCons te tNil)) es (.bool (bs.all id)) := fun σ F H E Q q => h σ F H E _ fun a us F1 H1 g1 s1 r1 => by
  rw [RpAll.of_bls r1] at s1
  exact ⟨a, bs, rfl, s1, q _ F1 H1 g1 (.bl _)⟩
/-- the greatest of a list -/
theorem e_max {ns : List Int} {m : Int} (h : EvW K te es (ns.map .int)) (hm : m ∈ ns) (hle : ∀ y ∈ ns, y ≤ m) : EvE K (tCB (rMax K) (tCons te tNil)) es (.int m) := fun σ F H E Q q => h σ F H E _ fun a us F1 H1 g1 s1 r1 => by
  rw [RpAll.ints r1] at s1
  refine ⟨a, ns, rfl, s1, List.length_pos_of_mem hm, fun k hk hkl => ?_⟩
  have e : k = m := Int.le_antisymm (hle k hk) (hkl m hm)
  subst e
  exact q _ F1 H1 g1 (.int _)
theorem ra_maxU {n : Int} {ns : List Int} : RAE K (rMaxU K) [.tuple ((n :: ns).map .int)] (.int (ns.foldl max n)) := fun F H vs e h Q q => by
  cases h with
  | cons h1 h2 =>
    cases h2
    have ⟨a, us, e1, h3, h4⟩ := h1.tup_inv
    rw [RpAll.ints h4] at h3
    exact ⟨a, n, ns, by rw [e1], SqT.of (e _ _ h3), q _ F H (Gr.refl e) (.int _)⟩
theorem ra_minU {n : Int} {ns : List Int} : RAE K (rMinU K) [.tuple ((n :: ns).map .int)] (.int (ns.foldl min n)) := fun F H vs e h Q q => by
  cases h with
  | cons h1 h2 =>
    cases h2
    have ⟨a, us, e1, h3, h4⟩ := h1.tup_inv
    rw [RpAll.ints h4] at h3
    exact ⟨a, n, ns, by rw [e1], SqT.of (e _ _ h3), q _ F H (Gr.refl e) (.int _)⟩
/-- sorted: the one list in order -/
theorem sorted_one {ns ms zs : List Int} (h1 : ms.Perm ns) (h2 : ms.Pairwise (· ≤ ·)) (h3 : zs.Perm ns) (h4 : zs.Pairwise (· ≤ ·)) : ms = zs :=
  List.Perm.eq_of_pairwise (le := (· ≤ ·)) (fun a b _ _ x y => Int.le_antisymm x y) h2 h4 (h1.trans h3.symm)
theorem n_sortT {ns zs : List Int} (h : EvE K te es (.tuple (ns.map .int))) (hz : ns.length < 64) (hp : zs.Perm ns) (hs : zs.Pairwise (· ≤ ·)) : EvN K (tCB (rSortU3 K) (tCons te tNil)) es (zs.map .int) := fun σ F H E Q q => h σ F H E _ fun v F1 H1 g1 r1 => by
  have ⟨a, us, e, h1, h2⟩ := r1.tup_inv
  rw [RpAll.ints h2] at h1
  refine ⟨a, ns, by rw [e], SqT.of (g1.le _ _ h1), hz, fun ms p h3 h4 hp2 => ?_⟩
  rw [sorted_one h3 h4 hp hs]
  exact q p _ F1 _ (g1.trans (Gr.own g1.le hp2)) (Evl.fresh_back g1.h hp2) upd_same (Evl.fresh_back g1.le hp2) (RpAll.of_ints zs)
theorem n_sortL {ns zs : List Int} (h : EvW K te es (ns.map .int)) (hz : ns.length < 64) (hp : zs.Perm ns) (hs : zs.Pairwise (· ≤ ·)) : EvN K (tCB (rSorted K) (tCons te tNil)) es (zs.map .int) := fun σ F H E Q q => h σ F H E _ fun a us F1 H1 g1 s1 r1 => by
  rw [RpAll.ints r1] at s1
  refine ⟨a, ns, rfl, s1, hz, fun ms p h3 h4 hp2 => ?_⟩
  rw [sorted_one h3 h4 hp hs]
  exact q p _ F1 _ (g1.trans (Gr.own g1.le hp2)) (Evl.fresh_back g1.h hp2) upd_same (Evl.fresh_back g1.le hp2) (RpAll.of_ints zs)
/-- list(x), tuple(x) -/
theorem n_list (h : EvE K te es (.tuple ds)) : EvN K (tCB (Evl.rListS K) (tCons te tNil)) es ds := fun σ F H E Q q => h σ F H E _ fun v F1 H1 g1 r1 => by
  have ⟨a, us, e, h1, h2⟩ := r1.tup_inv
  exact ⟨a, us, by rw [e], .inr (SqT.of (g1.le _ _ h1)), fun p hp => q p _ F1 _ (g1.trans (Gr.own g1.le hp)) (Evl.fresh_back g1.h hp) upd_same (Evl.fresh_back g1.le hp) h2⟩
def rTupS (K : Fg) : List V → Hp → VK → Prop := fun xs H Q => ∃ p ys, xs = [.ref p] ∧ ((SqL K H p ys ∧ ∀ l, H l = none → Q (.ref l) (upd H l (.tup ys))) ∨ (SqT K H p ys ∧ Q (.ref p) H))
theorem e_tuple (h : EvW K te es ds) : EvE K (tCB (rTupS K) (tCons te tNil)) es (.tuple ds) := fun σ F H E Q q => h σ F H E _ fun a us F1 H1 g1 s1 r1 =>
  ⟨a, us, rfl, .inl ⟨s1, fun p hp => q _ (upd F1 p (.tup us)) _ (g1.trans (Gr.new g1.le hp)) (.tup upd_same (r1.mo (Ex.new (Evl.fresh_back g1.le hp))))⟩⟩
/-! isinstance -/
def tyN : PyData → String
  | .none => "NoneType"
  | .bool _ => "bool"
  | .int _ => "int"
  | .str _ => "str"
  | .list _ => "list"
  | .tuple _ => "tuple"
  | .dict _ => "dict"
theorem Rp.ty {F : Hp} {v : V} (h : Rp K F v x) (hx : ∀ k, x ≠ .dict k) {H : Hp} (e : Ex F H) : TyX K H v (.type (tyN x)) := by
  cases h with
  | non => exact .base .non
  | bl => exact .base (.bl _)
  | int => exact .base (.int _)
  | lst h1 => exact .base (.lst (e _ _ h1))
  | tup h1 => exact .base (.tup (e _ _ h1))
  | scr => exact absurd rfl (hx _)
theorem e_isi {n : String} (h : EvE K te es x) (hx : ∀ k, x ≠ .dict k) (hk : kitB (tyN x) n = some b) : EvE K (tCB (rIsi K) (tCons te (tCons (tC (.ty n)) tNil))) es (.bool b) := fun σ F H E Q q => h σ F H E _ fun v F1 H1 g1 r1 =>
  ⟨v, .ty n, _, _, b, rfl, .ty n, r1.ty hx g1.le, kit_ty hk, q _ F1 H1 g1 (.bl _)⟩
theorem e_isiT {n m : String} {b1 b2 : Bool} (h : EvE K te es x) (hx : ∀ k, x ≠ .dict k) (hk : kitB (tyN x) n = some b1) (hk2 : kitB (tyN x) m = some b2) : EvE K (tCB (rIsiT K) (tCons te (tCons (tTup (tCons (tC (.ty n)) (tCons (tC (.ty m)) tNil))) tNil))) es (.bool (b1 || b2)) := fun σ F H E Q q => h σ F H E _ fun v F1 H1 g1 r1 =>
  ⟨by show (2 : Nat) ≤ sizeLine; decide, fun p hp => ⟨v, p, [.ty n, .ty m], _, [.type n, .type m], b1 || b2, rfl, upd_same, .cons (.ty n) (.cons (.ty m) .nil), r1.ty hx (g1.le.trans (Ex.new hp)), kitAny_cons (kit_ty hk) (fun e => by
    subst e
    exact kitAny_cons (kit_ty hk2) (fun e => by subst e; exact kitAny_nil) (fun e => by subst e; rfl)) (fun e => by subst e; rfl), q _ F1 _ (g1.trans (Gr.own g1.le hp)) (.bl _)⟩⟩
/-- the walrus of None -/
theorem n_rep {k : Int} (h1 : EvN K ta es xs) (h2 : EvE K tb es (.int k)) (hk : k < 2 ^ 62) (hk2 : -(2 ^ 62) < k) (hz : xs.length * k.toNat ≤ 100000) : EvN K (tOp rRep ta tb) es (List.replicate k.toNat xs).flatten := fun σ F H E Q q =>
  h1 σ F H E _ fun a us F1 H1 g1 n1 s1 f1 r1 => h2 σ F1 H1 (E.gr g1) _ fun u F2 H2 g2 r2 =>
    ⟨a, k, us, rfl, r2.int_inv, g2.h _ _ s1, by omega, by omega, Evl.sz_of (by rw [r1.length]; exact hz), fun p hp => q p _ F2 _ ((g1.trans g2).trans (Gr.own g2.le hp)) (Evl.fresh_back (g1.h.trans g2.h) hp) upd_same (Evl.fresh_back g2.le hp) (by
      have hm := r1.mo g2.f
      generalize k.toNat = n
      induction n with
      | zero => exact .nil
      | succ n ih =>
        rw [List.replicate_succ, List.replicate_succ, List.flatten_cons, List.flatten_cons]
        exact hm.append ih)⟩
/-! calls of defs -/
/-- the promise of a def that changes nothing: P tells which result the arguments' data have -/
def SpP (K : Fg) (P : List PyData → PyData → Prop) : Sp := fun vs H Q _ => ∃ F ds r, Ex F H ∧ RpAll K F vs ds ∧ P ds r ∧ ∀ v F' H', Gr F H F' H' → Rp K F' v r → Q v H'
theorem e_call {P : List PyData → PyData → Prop} {E0 : XK} (h : EvA K tl es xs) (hp : P xs z) : EvE K (tCall (SpP K P) [] E0 tl) es z := fun σ F H E Q q => h σ F H E _ fun vs F1 H1 g1 r1 =>
  ⟨F1, xs, z, g1.le, by rw [List.append_nil]; exact r1, hp, fun v F2 H2 g2 r2 => q v F2 H2 (g1.trans g2) r2⟩
end
end LR
namespace LR
open PySem L2 PySem.W
open Evl (Ex)
/-! ### statements over environments -/
abbrev KvAll (K : Fg) (F : Hp) : List (List Key × V) → List (List Key × PyData) → Prop := Paired fun (p : List Key × V) (q : List Key × PyData) => p.1 = q.1 ∧ Rp K F p.2 q.2
/-- what may be said behind a statement -/
structure Po where
  N : List En → Prop
  R : PyData → List En → Prop := fun _ _ => False
  D : List (List Key × PyData) → List En → Prop := fun _ _ => False
  B : List En → Prop := fun _ => False
  C : List En → Prop := fun _ => False
/-- p: no address may change but new ones -/
def Go (K : Fg) (p : Bool) (t : TS) (es : List En) (P : Po) : Prop := ∀ (X : Option Addr) (F0 H0 : Hp) (D : Ends) (σ : L2.St) (F H : Hp), (p = true → X = none) → S K X F0 H0 es σ F H →
  (∀ es' σ' F' H', P.N es' → S K X F0 H0 es' σ' F' H' → Ex F F' → D.nx σ' H') →
  (∀ d es' v σ' F' H', P.R d es' → S K X F0 H0 es' σ' F' H' → Ex F F' → Rp K F' v d → D.rt v H') →
  (∀ kvs es' a ks σ' F' H', P.D kvs es' → S K X F0 H0 es' σ' F' H' → Ex F F' → H' a = some (.dT ks) → KvAll K F' ks kvs → D.rt (.ref a) H') →
  (∀ es' σ' F' H', P.B es' → S K X F0 H0 es' σ' F' H' → Ex F F' → D.bk σ' H') →
  (∀ es' σ' F' H', P.C es' → S K X F0 H0 es' σ' F' H' → Ex F F' → D.ct σ' H') → t D σ H
section
variable {K : Fg} {X : Option Addr} {F0 H0 F H F' H' : Hp} {σ : L2.St} {es es1 : List En} {p : Bool} {P : Po} {t u w : TS} {te ta tb : TE} {tt : TT} {d x y : PyData} {ds xs : List PyData} {b : Bool}
/-- an item that goes into a slot -/
def EvI (K : Fg) (te : TE) (es : List En) (en : En) : Prop := ∀ (σ : L2.St) (F H : Hp), Env K F H σ es → ∀ Q : VK, (∀ v F' H', Gr F H F' H' → EnOk K F' H' (some v) en → (en.isOwn = true → ∀ a, v = .ref a → H a = none ∧ ∃ o, H' a = some o) → Q v H') → te σ H Q
theorem EvE.i (h : EvE K te es d) : EvI K te es (.val d) := fun σ F H E Q q => h σ F H E Q fun v F' H' g r => q v F' H' g ⟨v, rfl, r⟩ fun z => by cases z
theorem EvN.i (h : EvN K te es ds) : EvI K te es (.own ds) := fun σ F H E Q q => h σ F H E Q fun a xs F' H' g h0 h1 h2 r => q _ F' H' g ⟨a, xs, rfl, h1, h2, r⟩ fun _ b e => by
  cases e
  exact ⟨h0, _, h1⟩
theorem i_newT : EvI K tDNewT es (.dic []) := fun σ F H E Q q => fun p hp => q _ F _ (Gr.own E.le hp) ⟨p, [], rfl, upd_same, Evl.fresh_back E.le hp, .nil⟩ fun _ b e => by
  cases e
  exact ⟨hp, _, upd_same⟩
theorem S.item (s : S K X F0 H0 es σ F H) {v : V} {en : En} {i : Nat} (g : Gr F H F' H') (h : EnOk K F' H' (some v) en) (hf : en.isOwn = true → ∀ a, v = .ref a → H a = none ∧ ∃ o, H' a = some o) :
    S K X F0 H0 (es.set i en) (σ.set i (some v)) F' H' := (s.mono g).set h fun ho a e => by
  have e' : v = .ref a := Option.some.inj e
  have ⟨h0, _⟩ := hf ho a e'
  refine ⟨.inl ?_, fun j e2 hj ho2 hs => ?_⟩
  · cases q : H0 a with
    | none => rfl
    | some o =>
      have ⟨o', z⟩ := s.gr.there a o q
      rw [h0] at z
      cases z
  · have ⟨ov, h1, h2⟩ := Paired.getR s.en hj
    rw [hs] at h1
    have e3 := (Option.some.inj h1).symm
    subst e3
    cases e2 with
    | no => cases ho2
    | val d => cases ho2
    | own ds =>
      have ⟨b, ys, e4, h4, _⟩ := h2
      cases e4
      rw [h0] at h4
      cases h4
    | dic kvs =>
      have ⟨b, ys, e4, h4, _⟩ := h2
      cases e4
      rw [h0] at h4
      cases h4
    | row b zs =>
      have ⟨ys, e4, h4, _⟩ := h2
      cases e4
      rw [h0] at h4
      cases h4
/-- an owned object is given other contents -/
theorem S.chg (s : S K X F0 H0 es σ F H) {i : Nat} {a : Addr} {en en' : En} {o : HO} (hi : es[i]? = some en) (ho : en.isOwn = true) (ha : σ[i]? = some (some (.ref a))) (hF : F a = none) (hH : ∃ o, H a = some o) (h : EnOk K F (upd H a o) (some (.ref a)) en') (ho' : en'.isOwn = true) :
    S K X F0 H0 (es.set i en') σ F (upd H a o) := by
  have hn := s.nw i a en hi ho ha
  have le : Ex F (upd H a o) := fun b u e => by
    rw [upd_ne (ne_of_none e hF)]
    exact s.gr.le b u e
  have gx : GrX X F0 H0 F (upd H a o) := ⟨s.gr.f, fun b u hx hb => by
    have hne : b ≠ a := fun z => by
      subst z
      rcases hn with hn | hn
      · rw [hn] at hb
        cases hb
      · exact hx hn
    rw [upd_ne hne]
    exact s.gr.h b u hx hb, le, s.gr.old, fun b u hb => by
    by_cases e : b = a
    · subst e
      exact ⟨o, upd_same⟩
    · rw [upd_ne e]
      exact s.gr.there b u hb⟩
  have eσ : σ.set i (some (.ref a)) = σ := by
    have ⟨hl, e⟩ := List.getElem?_eq_some_iff.mp ha
    rw [← e]
    exact List.set_getElem_self hl
  have en2 : Ens K F (upd H a o) σ (es.set i en') := by
    have hall : ∀ (l : L2.St) (m : List En) (k : Nat), Paired (EnOk K F H) l m → (∀ j e, m[j]? = some e → es[k + j]? = some e) → (∀ j v, l[j]? = some v → σ[k + j]? = some v) → (∀ j e, m[j]? = some e → k + j ≠ i → ∃ v, l[j]? = some v ∧ EnOk K F (upd H a o) v e) := by
      intro l m k hp h1 h2 j e hj hne
      have ⟨ov, hv, hv2⟩ := Paired.getR hp hj
      refine ⟨ov, hv, ?_⟩
      cases e with
      | no => exact True.intro
      | val d => exact hv2
      | own ds =>
        have ⟨b, ys, e4, h4, h5, h6⟩ := hv2
        have hb : b ≠ a := fun z => by
          subst z
          subst e4
          exact hne (s.ap _ _ b _ _ (h1 j _ hj) hi rfl ho (h2 j _ hv) ha)
        exact ⟨b, ys, e4, by rw [upd_ne hb]; exact h4, h5, h6⟩
      | dic kvs =>
        have ⟨b, ys, e4, h4, h5, h6⟩ := hv2
        have hb : b ≠ a := fun z => by
          subst z
          subst e4
          exact hne (s.ap _ _ b _ _ (h1 j _ hj) hi rfl ho (h2 j _ hv) ha)
        exact ⟨b, ys, e4, by rw [upd_ne hb]; exact h4, h5, h6⟩
      | row b zs =>
        have ⟨ys, e4, h4, h5, h6⟩ := hv2
        have hb : b ≠ a := fun z => by
          subst z
          subst e4
          exact hne (s.ap _ _ b _ _ (h1 j _ hj) hi rfl ho (h2 j _ hv) ha)
        exact ⟨ys, e4, by rw [upd_ne hb]; exact h4, h5, h6⟩
    have hx := hall σ es 0 s.en (fun j e z => by rw [Nat.zero_add]; exact z) (fun j e z => by rw [Nat.zero_add]; exact z)
    have hl : σ.length = es.length := Paired.length s.en
    have mk : ∀ (l : L2.St) (m : List En), l.length = m.length → (∀ (j : Nat) (e : En), m[j]? = some e → ∃ v, l[j]? = some v ∧ EnOk K F (upd H a o) v e) → Paired (EnOk K F (upd H a o)) l m := by
      intro l
      induction l with
      | nil =>
        intro m e _
        cases m with
        | nil => exact .nil
        | cons _ _ => cases e
      | cons v l ih =>
        intro m e f
        cases m with
        | nil => cases e
        | cons e0 m =>
          have ⟨v', h1, h2⟩ := f 0 e0 rfl
          have h1' : v = v' := Option.some.inj h1
          subst h1'
          exact .cons h2 (ih m (Nat.succ.inj e) fun j e' hj => f (j + 1) e' hj)
    refine mk σ (es.set i en') (by rw [List.length_set]; exact hl) fun j e hj => ?_
    rcases set_some hj with ⟨e1, e2⟩ | ⟨n1, hj2⟩
    · subst e1 e2
      exact ⟨_, ha, h⟩
    · exact hx j e hj2 (by rw [Nat.zero_add]; exact n1)
  refine ⟨gx, en2, fun j k c e e' hj hk oj ok hsj hsk => ?_, fun j c e hj oj hsj => ?_⟩
  · rcases set_some hj with ⟨e1, e2⟩ | ⟨n1, hj2⟩
    · rcases set_some hk with ⟨e3, e4⟩ | ⟨n3, hk2⟩
      · rw [e1, e3]
      · subst e1
        exact s.ap j k c en e' hi hk2 ho ok hsj hsk
    · rcases set_some hk with ⟨e3, e4⟩ | ⟨n3, hk2⟩
      · subst e3
        exact s.ap j k c e en hj2 hi oj ho hsj hsk
      · exact s.ap j k c e e' hj2 hk2 oj ok hsj hsk
  · rcases set_some hj with ⟨e1, e2⟩ | ⟨n1, hj2⟩
    · subst e1
      exact s.nw j c en hi ho hsj
    · exact s.nw j c e hj2 oj hsj
theorem S.ownAt (s : S K X F0 H0 es σ F H) {i : Nat} (h : es[i]? = some (.own ds)) : ∃ a us, σ[i]? = some (some (.ref a)) ∧ H a = some (.lst us) ∧ F a = none ∧ RpAll K F us ds := by
  have ⟨ov, h1, a, us, h2, h3, h4, h5⟩ := Paired.getR s.en h
  subst h2
  exact ⟨a, us, h1, h3, h4, h5⟩
theorem S.dicAt {kvs : List (List Key × PyData)} (s : S K X F0 H0 es σ F H) {i : Nat} (h : es[i]? = some (.dic kvs)) : ∃ a ks, σ[i]? = some (some (.ref a)) ∧ H a = some (.dT ks) ∧ F a = none ∧ KvAll K F ks kvs := by
  have ⟨ov, h1, a, us, h2, h3, h4, h5⟩ := Paired.getR s.en h
  subst h2
  exact ⟨a, us, h1, h3, h4, h5⟩

/-! ### rules -/
theorem go_mono {P' : Po} (h : Go K p t es P) (hN : ∀ e, P.N e → P'.N e) (hR : ∀ d e, P.R d e → P'.R d e) (hD : ∀ d e, P.D d e → P'.D d e) (hB : ∀ e, P.B e → P'.B e) (hC : ∀ e, P.C e → P'.C e) : Go K p t es P' :=
  fun X F0 H0 D σ F H hp s k1 k2 k3 k4 k5 => h X F0 H0 D σ F H hp s (fun e σ' F' H' z => k1 e σ' F' H' (hN e z)) (fun d e v σ' F' H' z => k2 d e v σ' F' H' (hR d e z)) (fun d e a ks σ' F' H' z => k3 d e a ks σ' F' H' (hD d e z))
    (fun e σ' F' H' z => k4 e σ' F' H' (hB e z)) (fun e σ' F' H' z => k5 e σ' F' H' (hC e z))
theorem go_seq (M : List En → Prop) (h : Go K p t es ⟨M, P.R, P.D, P.B, P.C⟩) (k : ∀ e, M e → Go K p u e P) : Go K p (tSeq t u) es P := fun X F0 H0 D σ F H hp s k1 k2 k3 k4 k5 =>
  h X F0 H0 { D with nx := u D } σ F H hp s (fun e σ' F' H' z s' f => k e z X F0 H0 D σ' F' H' hp s' (fun e2 σ2 F2 H2 z2 s2 f2 => k1 e2 σ2 F2 H2 z2 s2 (f.trans f2)) (fun d e2 v σ2 F2 H2 z2 s2 f2 => k2 d e2 v σ2 F2 H2 z2 s2 (f.trans f2))
    (fun d e2 a ks σ2 F2 H2 z2 s2 f2 => k3 d e2 a ks σ2 F2 H2 z2 s2 (f.trans f2)) (fun e2 σ2 F2 H2 z2 s2 f2 => k4 e2 σ2 F2 H2 z2 s2 (f.trans f2)) (fun e2 σ2 F2 H2 z2 s2 f2 => k5 e2 σ2 F2 H2 z2 s2 (f.trans f2))) k2 k3 k4 k5
theorem go1 (h : Go K p t es ⟨fun e => e = es1, P.R, P.D, P.B, P.C⟩) (k : Go K p u es1 P) : Go K p (tSeq t u) es P := go_seq _ h fun e z => by
  rw [z]
  exact k
theorem go_next (h : P.N es) : Go K p tNext es P := fun X F0 H0 D σ F H hp s k1 k2 k3 k4 k5 => k1 es σ F H h s (Ex.refl _)
theorem q_next (h : Go K p t es P) : Go K p (tSeq tNext t) es P := fun X F0 H0 D σ F H hp s k1 k2 k3 k4 k5 => h X F0 H0 D σ F H hp s k1 k2 k3 k4 k5
theorem q_assoc (h : Go K p (tSeq t (tSeq u w)) es P) : Go K p (tSeq (tSeq t u) w) es P := fun X F0 H0 D σ F H hp s k1 k2 k3 k4 k5 => h X F0 H0 D σ F H hp s k1 k2 k3 k4 k5
theorem s_item {i : Nat} {en : En} (h : EvI K te es en) (k : P.N (es.set i en)) : Go K p (tAsg te (gName i)) es P := fun X F0 H0 D σ F H hp s k1 k2 k3 k4 k5 =>
  h σ F H s.env _ fun v F' H' g r o => k1 _ _ F' H' k (s.item g r o) g.f
theorem q_val {i : Nat} (h : EvE K te es d) (k : Go K p u (es.set i (.val d)) P) : Go K p (tSeq (tAsg te (gName i)) u) es P := go1 (s_item h.i rfl) k
theorem q_own {i : Nat} (h : EvN K te es ds) (k : Go K p u (es.set i (.own ds)) P) : Go K p (tSeq (tAsg te (gName i)) u) es P := go1 (s_item h.i rfl) k
theorem q_lst {i : Nat} (h : EvN K te es ds) (k : Go K p u (es.set i (.val (.list ds))) P) : Go K p (tSeq (tAsg te (gName i)) u) es P := go1 (s_item h.e.i rfl) k
theorem q_dic {i : Nat} (k : Go K p u (es.set i (.dic [])) P) : Go K p (tSeq (tAsg tDNewT (gName i)) u) es P := go1 (s_item i_newT rfl) k
theorem s_par {i j : Nat} {e1 e2 : En} (h1 : EvI K ta es e1) (h2 : EvI K tb es e2) (k : P.N ((es.set i e1).set j e2)) : Go K p (tPar i j (tCons ta (tCons tb tNil))) es P := fun X F0 H0 D σ F H hp s k1 k2 k3 k4 k5 =>
  h1 σ F H s.env _ fun v F1 H1 g1 r1 o1 => h2 σ F1 H1 (s.env.gr g1) _ fun w F2 H2 g2 r2 o2 => ⟨v, w, rfl, k1 _ _ F2 H2 k (S.item (F := F1) (H := H1) (s.item g1 r1 o1) g2 r2 o2) (g1.f.trans g2.f)⟩
theorem q_par {i j : Nat} {e1 e2 : En} (h1 : EvI K ta es e1) (h2 : EvI K tb es e2) (k : Go K p u ((es.set i e1).set j e2) P) : Go K p (tSeq (tPar i j (tCons ta (tCons tb tNil))) u) es P := go1 (s_par h1 h2 rfl) k
theorem s_par3 {tc : TE} {i j l : Nat} {e1 e2 e3 : En} (h1 : EvI K ta es e1) (h2 : EvI K tb es e2) (h3 : EvI K tc es e3) (k : P.N (((es.set i e1).set j e2).set l e3)) : Go K p (tPar3 i j l (tCons ta (tCons tb (tCons tc tNil)))) es P := fun X F0 H0 D σ F H hp s k1 k2 k3 k4 k5 =>
  h1 σ F H s.env _ fun v F1 H1 g1 r1 o1 => h2 σ F1 H1 (s.env.gr g1) _ fun w F2 H2 g2 r2 o2 => h3 σ F2 H2 ((s.env.gr g1).gr g2) _ fun z F3 H3 g3 r3 o3 =>
    ⟨v, w, z, rfl, k1 _ _ F3 H3 k (S.item (F := F2) (H := H2) (S.item (F := F1) (H := H1) (s.item g1 r1 o1) g2 r2 o2) g3 r3 o3) ((g1.f.trans g2.f).trans g3.f)⟩
theorem q_par3 {tc : TE} {i j l : Nat} {e1 e2 e3 : En} (h1 : EvI K ta es e1) (h2 : EvI K tb es e2) (h3 : EvI K tc es e3) (k : Go K p u (((es.set i e1).set j e2).set l e3) P) : Go K p (tSeq (tPar3 i j l (tCons ta (tCons tb (tCons tc tNil)))) u) es P := go1 (s_par3 h1 h2 h3 rfl) k
theorem go_gr (g : Gr F H F' H') (hh : Go K p t es P) {D : Ends} (hp : p = true → X = none) (s : S K X F0 H0 es σ F H) (k1 : ∀ es' σ' F' H', P.N es' → S K X F0 H0 es' σ' F' H' → Ex F F' → D.nx σ' H')
    (k2 : ∀ d es' v σ' F' H', P.R d es' → S K X F0 H0 es' σ' F' H' → Ex F F' → Rp K F' v d → D.rt v H') (k3 : ∀ kvs es' a ks σ' F' H', P.D kvs es' → S K X F0 H0 es' σ' F' H' → Ex F F' → H' a = some (.dT ks) → KvAll K F' ks kvs → D.rt (.ref a) H')
    (k4 : ∀ es' σ' F' H', P.B es' → S K X F0 H0 es' σ' F' H' → Ex F F' → D.bk σ' H') (k5 : ∀ es' σ' F' H', P.C es' → S K X F0 H0 es' σ' F' H' → Ex F F' → D.ct σ' H') : t D σ H' :=
  hh X F0 H0 D σ F' H' hp (s.mono g) (fun e σ2 F2 H2 z s2 f2 => k1 e σ2 F2 H2 z s2 (g.f.trans f2)) (fun d e v σ2 F2 H2 z s2 f2 => k2 d e v σ2 F2 H2 z s2 (g.f.trans f2)) (fun d e a ks σ2 F2 H2 z s2 f2 => k3 d e a ks σ2 F2 H2 z s2 (g.f.trans f2))
    (fun e σ2 F2 H2 z s2 f2 => k4 e σ2 F2 H2 z s2 (g.f.trans f2)) (fun e σ2 F2 H2 z s2 f2 => k5 e σ2 F2 H2 z s2 (g.f.trans f2))
theorem s_if (h : EvT K tt es b) (h1 : b = true → Go K p t es P) (h2 : b = false → Go K p u es P) : Go K p (tIfS tt t u) es P := by
  intro X F0 H0 D σ F H hp s k1 k2 k3 k4 k5
  refine h σ F H s.env _ fun F' H' g => ?_
  cases b with
  | true => exact go_gr g (h1 rfl) hp s k1 k2 k3 k4 k5
  | false => exact go_gr g (h2 rfl) hp s k1 k2 k3 k4 k5
theorem q_if (h : EvT K tt es b) (h1 : b = true → Go K p (tSeq t w) es P) (h2 : b = false → Go K p (tSeq u w) es P) : Go K p (tSeq (tIfS tt t u) w) es P := fun X F0 H0 D σ F H hp s k1 k2 k3 k4 k5 =>
  s_if (t := tSeq t w) (u := tSeq u w) h h1 h2 X F0 H0 D σ F H hp s k1 k2 k3 k4 k5
/-- an if whose test is known, without else -/
theorem q_skip (h : EvT K tt es false) (k : Go K p w es P) : Go K p (tSeq (tIfS tt t tNext) w) es P := q_if h (fun z => by cases z) fun _ => q_next k
theorem s_ret (h : EvE K te es d) (k : P.R d es) : Go K p (tRet te) es P := fun X F0 H0 D σ F H hp s k1 k2 k3 k4 k5 => h σ F H s.env _ fun v F' H' g r => k2 d es v σ F' H' k (s.mono g) g.f r
theorem q_ret (h : EvE K te es d) (k : P.R d es) : Go K p (tSeq (tRet te) w) es P := fun X F0 H0 D σ F H hp s k1 k2 k3 k4 k5 => h σ F H s.env _ fun v F' H' g r => k2 d es v σ F' H' k (s.mono g) g.f r
theorem s_retOwn {i : Nat} (h : es[i]? = some (.own ds)) (k : P.R (.list ds) (es.set i (.val (.list ds)))) (hp1 : p = true) : Go K p (tRet (tVar i)) es P := fun X F0 H0 D σ F H hp s k1 k2 k3 k4 k5 => by
  have ⟨a, us, h1, h2, h3, h4⟩ := s.ownAt h
  have hX := hp hp1
  subst hX
  have h0 : H0 a = none := by
    rcases s.nw i a _ h rfl h1 with z | z
    · exact z
    · cases z
  have fx : Ex F (upd F a (.lst us)) := Ex.new h3
  have rr : Rp K (upd F a (.lst us)) (.ref a) (.list ds) := .lst upd_same (h4.mo fx)
  have le : Ex (upd F a (.lst us)) H := fun b o e => by
    by_cases hb : b = a
    · subst hb
      rw [upd_same] at e
      rw [h2]
      exact e
    · rw [upd_ne hb] at e
      exact s.gr.le b o e
  have eσ : σ.set i (some (.ref a)) = σ := by
    have ⟨hl, e⟩ := List.getElem?_eq_some_iff.mp h1
    rw [← e]
    exact List.set_getElem_self hl
  have en : Ens K (upd F a (.lst us)) H σ (es.set i (.val (.list ds))) := by
    have hl : σ.length = es.length := Paired.length s.en
    have mk : ∀ (l : L2.St) (m : List En), l.length = m.length → (∀ (j : Nat) (e : En), m[j]? = some e → ∃ v, l[j]? = some v ∧ EnOk K (upd F a (.lst us)) H v e) → Paired (EnOk K (upd F a (.lst us)) H) l m := by
      intro l
      induction l with
      | nil =>
        intro m e _
        cases m with
        | nil => exact .nil
        | cons _ _ => cases e
      | cons v l ih =>
        intro m e f
        cases m with
        | nil => cases e
        | cons e0 m =>
          have ⟨v', z1, z2⟩ := f 0 e0 rfl
          have z1' : v = v' := Option.some.inj z1
          subst z1'
          exact .cons z2 (ih m (Nat.succ.inj e) fun j e' hj => f (j + 1) e' hj)
    refine mk σ _ (by rw [List.length_set]; exact hl) fun j e hj => ?_
    rcases set_some hj with ⟨e1, e2⟩ | ⟨n1, hj2⟩
    · subst e1 e2
      exact ⟨_, h1, _, rfl, rr⟩
    · have ⟨ov, hv, hv2⟩ := Paired.getR s.en hj2
      refine ⟨ov, hv, ?_⟩
      cases e with
      | no => exact True.intro
      | val d =>
        have ⟨v, e4, h6⟩ := hv2
        exact ⟨v, e4, h6.mo fx⟩
      | own zs =>
        have ⟨c, ys, e4, h5, h6, h7⟩ := hv2
        have hc : c ≠ a := fun z => by
          subst z
          subst e4
          exact n1 (s.ap j i c _ _ hj2 h rfl rfl hv h1)
        exact ⟨c, ys, e4, h5, by rw [upd_ne hc]; exact h6, h7.mo fx⟩
      | dic zs =>
        have ⟨c, ys, e4, h5, h6, h7⟩ := hv2
        have hc : c ≠ a := fun z => by
          subst z
          subst e4
          exact n1 (s.ap j i c _ _ hj2 h rfl rfl hv h1)
        exact ⟨c, ys, e4, h5, by rw [upd_ne hc]; exact h6, kvs_mono fx h7⟩
      | row c zs =>
        have ⟨ys, e4, h5, h6, h7⟩ := hv2
        have hc : c ≠ a := fun z => by
          subst z
          subst e4
          exact n1 (s.ap j i c _ _ hj2 h rfl rfl hv h1)
        exact ⟨ys, e4, h5, by rw [upd_ne hc]; exact h6, h7.mo fx⟩
  have gx : GrX none F0 H0 (upd F a (.lst us)) H := ⟨s.gr.f.trans fx, s.gr.h, le, fun b o e => by
    rw [upd_ne (ne_of_none e h0)]
    exact s.gr.old b o e, s.gr.there⟩
  have s2 : S K none F0 H0 (es.set i (.val (.list ds))) σ (upd F a (.lst us)) H := ⟨gx, en, fun j k c e e' hj hk oj ok hsj hsk => by
      rcases set_some hj with ⟨e1, e2⟩ | ⟨n1, hj2⟩
      · subst e2
        cases oj
      · rcases set_some hk with ⟨e3, e4⟩ | ⟨n3, hk2⟩
        · subst e4
          cases ok
        · exact s.ap j k c e e' hj2 hk2 oj ok hsj hsk, fun j c e hj oj hsj => by
      rcases set_some hj with ⟨e1, e2⟩ | ⟨n1, hj2⟩
      · subst e2
        cases oj
      · exact s.nw j c e hj2 oj hsj⟩
  exact ⟨.ref a, h1, k2 _ _ (.ref a) σ _ H k s2 fx rr⟩
theorem s_retDic {i : Nat} {kvs : List (List Key × PyData)} (h : es[i]? = some (.dic kvs)) (k : P.D kvs es) : Go K p (tRet (tVar i)) es P := fun X F0 H0 D σ F H hp s k1 k2 k3 k4 k5 => by
  have ⟨a, ks, h1, h2, h3, h4⟩ := s.dicAt h
  exact ⟨.ref a, h1, k3 kvs es a ks σ F H k s (Ex.refl _) h2 h4⟩
/-! ### targets -/
def setsE : List En → List (Nat × PyData) → List En
  | es, [] => es
  | es, (j, d) :: r => setsE (es.set j (.val d)) r
def setsV : L2.St → List Nat → List V → L2.St
  | σ, j :: js, w :: ws => setsV (σ.set j (some w)) js ws
  | σ, _, _ => σ
def Tg (K : Fg) (g : TG) (d : PyData) (bs : List (Nat × PyData)) : Prop := ∀ (F H : Hp) (v : V), Ex F H → Rp K F v d → ∃ ws : List V, RpAll K F ws (bs.map (·.2)) ∧ ∀ (σ : L2.St) (Q : L2.St → Hp → Prop), Q (setsV σ (bs.map (·.1)) ws) H → g v σ H Q
theorem S.sets : ∀ {bs : List (Nat × PyData)} {es : List En} {σ : L2.St} {ws : List V}, S K X F0 H0 es σ F H → RpAll K F ws (bs.map (·.2)) → S K X F0 H0 (setsE es bs) (setsV σ (bs.map (·.1)) ws) F H
  | [], _, _, _, s, _ => s
  | (j, d) :: bs, _, _, _, s, h => by
    cases h with
    | cons h1 h2 => exact S.sets (bs := bs) (s.val h1) h2
theorem ens_sets : ∀ {bs : List (Nat × PyData)} {es : List En} {σ : L2.St} {ws : List V}, Ens K F H σ es → RpAll K F ws (bs.map (·.2)) → Ens K F H (setsV σ (bs.map (·.1)) ws) (setsE es bs)
  | [], _, _, _, s, _ => s
  | (j, d) :: bs, _, _, _, s, h => by
    cases h with
    | cons h1 h2 => exact ens_sets (bs := bs) (Paired.setR ⟨_, rfl, h1⟩ j s) h2
theorem tg_name {j : Nat} : Tg K (gName j) d [(j, d)] := fun F H v e h => ⟨[v], .cons h .nil, fun σ Q q => q⟩
theorem tg_tup2 {i j : Nat} : Tg K (gTup K 2 (gCons (gName i) (gCons (gName j) gNil))) (.tuple [x, y]) [(i, x), (j, y)] := fun F H v e h => by
  have ⟨a, us, e1, h1, h2⟩ := h.tup_inv
  subst e1
  cases h2 with
  | cons r1 h2 =>
    cases h2 with
    | cons r2 h2 =>
      cases h2
      exact ⟨[_, _], .cons r1 (.cons r2 .nil), fun σ Q q => ⟨a, _, rfl, SqT.of (e _ _ h1), rfl, _, _, rfl, _, _, rfl, rfl, q⟩⟩
theorem tg_lst3 {i j l : Nat} {z : PyData} : Tg K (gLst K 3 (gCons (gName i) (gCons (gName j) (gCons (gName l) gNil)))) (.list [x, y, z]) [(i, x), (j, y), (l, z)] := fun F H v e h => by
  have ⟨a, us, e1, h1, h2⟩ := h.lst_inv
  subst e1
  cases h2 with
  | cons r1 h2 =>
    cases h2 with
    | cons r2 h2 =>
      cases h2 with
      | cons r3 h2 =>
        cases h2
        exact ⟨[_, _, _], .cons r1 (.cons r2 (.cons r3 .nil)), fun σ Q q => ⟨a, _, rfl, SqL.of (e _ _ h1), rfl, _, _, rfl, _, _, rfl, _, _, rfl, rfl, q⟩⟩
theorem s_tgt {g : TG} {bs : List (Nat × PyData)} (h : EvE K te es d) (hg : Tg K g d bs) (k : P.N (setsE es bs)) : Go K p (tAsg te g) es P := fun X F0 H0 D σ F H hp s k1 k2 k3 k4 k5 => h σ F H s.env _ fun v F' H' gr r => by
  have ⟨ws, h1, h2⟩ := hg F' H' v gr.le r
  exact h2 σ D.nx (k1 _ _ F' H' k ((s.mono gr).sets h1) gr.f)
theorem q_tgt {g : TG} {bs : List (Nat × PyData)} (h : EvE K te es d) (hg : Tg K g d bs) (k : Go K p u (setsE es bs) P) : Go K p (tSeq (tAsg te g) u) es P := go1 (s_tgt h hg rfl) k
/-! ### lists and dicts of one's own, changed -/
theorem s_app {i : Nat} (hi : es[i]? = some (.own ds)) (h : EvE K te es d) (hz : ds.length < 100000) (k : P.N (es.set i (.own (ds ++ [d])))) : Go K p (tDrop (tBM K "list" rAppend (tVar i) (tCons te tNil))) es P := fun X F0 H0 D σ F H hp s k1 k2 k3 k4 k5 => by
  have ⟨a, us, h1, h2, h3, h4⟩ := s.ownAt hi
  refine ⟨.ref a, h1, .inl ⟨rfl, us, SqL.of h2⟩, h σ F H s.env _ fun v F' H' g r => ?_⟩
  refine ⟨a, us, v, rfl, rfl, g.h _ _ h2, Evl.sz_lt (by rw [h4.length]; exact hz), k1 _ σ F' _ k ?_ g.f⟩
  exact (s.mono g).chg hi rfl h1 ((g.old a _ h2).trans h3) ⟨_, g.h _ _ h2⟩ ⟨a, us ++ [v], rfl, upd_same, (g.old a _ h2).trans h3, (h4.mo g.f).snoc r⟩ rfl
theorem q_app {i : Nat} (hi : es[i]? = some (.own ds)) (h : EvE K te es d) (hz : ds.length < 100000) (k : Go K p u (es.set i (.own (ds ++ [d]))) P) : Go K p (tSeq (tDrop (tBM K "list" rAppend (tVar i) (tCons te tNil))) u) es P := go1 (s_app hi h hz rfl) k
theorem s_pop {i : Nat} {g : TG} {bs : List (Nat × PyData)} (hi : es[i]? = some (.own (ds ++ [d]))) (hg : Tg K g d bs) (k : P.N (setsE (es.set i (.own ds)) bs)) : Go K p (tAsg (tBM0 K "list" rPop (tVar i)) g) es P := fun X F0 H0 D σ F H hp s k1 k2 k3 k4 k5 => by
  have ⟨a, us, h1, h2, h3, h4⟩ := s.ownAt hi
  have hl := h4.length
  have ⟨v, hv, rv⟩ := h4.get (i := ds.length) (d := d) (by simp)
  have e1 : us.length - 1 = ds.length := by rw [hl]; simp
  refine ⟨.ref a, h1, .inl ⟨rfl, us, SqL.of h2⟩, a, us, v, rfl, rfl, h2, by rw [e1]; exact hv, ?_⟩
  have s2 := s.chg (o := .lst us.dropLast) (en' := .own ds) hi rfl h1 h3 ⟨_, h2⟩ ⟨a, us.dropLast, rfl, upd_same, h3, by
    have := h4.dropLast
    rw [List.dropLast_concat] at this
    exact this⟩ rfl
  have ⟨ws, z1, z2⟩ := hg F _ v s2.gr.le rv
  exact z2 σ D.nx (k1 _ _ F _ k (s2.sets z1) (Ex.refl _))
theorem q_pop {i : Nat} {g : TG} {bs : List (Nat × PyData)} (hi : es[i]? = some (.own (ds ++ [d]))) (hg : Tg K g d bs) (k : Go K p u (setsE (es.set i (.own ds)) bs) P) : Go K p (tSeq (tAsg (tBM0 K "list" rPop (tVar i)) g) u) es P := go1 (s_pop hi hg rfl) k
theorem s_setL {i j : Nat} (hi : es[i]? = some (.own ds)) (h : EvE K te es d) (hj : EvE K tb es (.int (j : Int))) (hz : j < ds.length) (k : P.N (es.set i (.own (ds.set j d)))) : Go K p (tAsg te (gSub (tVar i) tb rSetL)) es P := fun X F0 H0 D σ F H hp s k1 k2 k3 k4 k5 => by
  have ⟨a, us, h1, h2, h3, h4⟩ := s.ownAt hi
  refine h σ F H s.env _ fun v F1 H1 g1 r1 => ⟨.ref a, h1, hj σ F1 H1 (s.env.gr g1) _ fun w F2 H2 g2 r2 => ?_⟩
  have g := g1.trans g2
  refine ⟨a, us, (j : Int), j, rfl, r2.int_inv, g.h _ _ h2, by rw [h4.length]; exact Evl.ixN_nat hz, k1 _ σ F2 _ k ?_ g.f⟩
  exact (s.mono g).chg hi rfl h1 ((g.old a _ h2).trans h3) ⟨_, g.h _ _ h2⟩ ⟨a, us.set j v, rfl, upd_same, (g.old a _ h2).trans h3, RpAll.set (r1.mo g2.f) j (h4.mo g.f)⟩ rfl
theorem q_setL {i j : Nat} (hi : es[i]? = some (.own ds)) (h : EvE K te es d) (hj : EvE K tb es (.int (j : Int))) (hz : j < ds.length) (k : Go K p u (es.set i (.own (ds.set j d))) P) : Go K p (tSeq (tAsg te (gSub (tVar i) tb rSetL)) u) es P := go1 (s_setL hi h hj hz rfl) k
theorem s_augL {i j : Nat} {f : Int → Int → Int} {m n : Int} (hi : es[i]? = some (.own ds)) (hj : EvE K tb es (.int (j : Int))) (hm : ds[j]? = some (.int m)) (h : EvE K te es (.int n)) (k : P.N (es.set i (.own (ds.set j (.int (f m n)))))) : Go K p (tAugS (tVar i) tb te (rGetL K) (ipI f) rSetL) es P := fun X F0 H0 D σ F H hp s k1 k2 k3 k4 k5 => by
  have ⟨a, us, h1, h2, h3, h4⟩ := s.ownAt hi
  have hz := (List.getElem?_eq_some_iff.mp hm).1
  have ⟨v, hv, rv⟩ := h4.get hm
  refine ⟨.ref a, h1, hj σ F H s.env _ fun w F1 H1 g1 r1 => ⟨a, us, j, v, rfl, r1.int_inv, SqL.of (g1.h _ _ h2), hv, h σ F1 H1 (s.env.gr g1) _ fun z F2 H2 g2 r2 => ⟨m, n, rv.int_inv, r2.int_inv, ?_⟩⟩⟩
  have g := g1.trans g2
  refine ⟨a, us, (j : Int), j, rfl, r1.int_inv, g.h _ _ h2, by rw [h4.length]; exact Evl.ixN_nat hz, k1 _ σ F2 _ k ?_ g.f⟩
  exact (s.mono g).chg hi rfl h1 ((g.old a _ h2).trans h3) ⟨_, g.h _ _ h2⟩ ⟨a, us.set j _, rfl, upd_same, (g.old a _ h2).trans h3, RpAll.set (.int _) j (h4.mo g.f)⟩ rfl
/-- keys as data -/
def kD : Key → PyData
  | .inl n => .int n
  | .inr x => .str x
theorem key_vs {F : Hp} : ∀ {k : List Key} {us : List V}, RpAll K F us (k.map kD) → us = k.map kV
  | [], _, h => by cases h; rfl
  | .inl n :: k, _, h => by
    cases h with
    | cons h1 h2 =>
      have e1 : _ = V.int n := Rp.int_inv h1
      rw [e1, key_vs h2]
      rfl
  | .inr x :: k, _, h => by
    cases h with
    | cons h1 h2 => exact absurd h1 (by intro z; cases z)
def valD (kvs : List (List Key × PyData)) (k : List Key) : Option PyData := (kvs.find? fun kv => decide (kv.1 = k)).map (·.2)
def putD (kvs : List (List Key × PyData)) (k : List Key) (d : PyData) : List (List Key × PyData) :=
  if (kvs.any fun kv => decide (kv.1 = k)) = true then kvs.map (fun kv => if kv.1 = k then (kv.1, d) else kv) else kvs ++ [(k, d)]
theorem kv_val {F : Hp} {k : List Key} : ∀ {ks : List (List Key × V)} {kvs : List (List Key × PyData)}, KvAll K F ks kvs → (∃ v d, valV ks k = some v ∧ valD kvs k = some d ∧ Rp K F v d) ∨ (valV ks k = none ∧ valD kvs k = none)
  | _, _, .nil => .inr ⟨rfl, rfl⟩
  | (k1, v) :: ks, (k2, d) :: kvs, .cons h t => by
    have e : k1 = k2 := h.1
    subst e
    by_cases e2 : k1 = k
    · refine .inl ⟨v, d, valV_pos e2, ?_, h.2⟩
      unfold valD
      rw [List.find?_cons, decide_eq_true e2]
      rfl
    · have hd : valD ((k1, d) :: kvs) k = valD kvs k := by
        unfold valD
        rw [List.find?_cons, decide_eq_false e2]
      rw [valV_neg (p := (k1, v)) e2, hd]
      exact kv_val t
theorem kv_any {F : Hp} {k : List Key} : ∀ {ks : List (List Key × V)} {kvs : List (List Key × PyData)}, KvAll K F ks kvs → (ks.any fun kv => decide (kv.1 = k)) = (kvs.any fun kv => decide (kv.1 = k))
  | _, _, .nil => rfl
  | (k1, v) :: ks, (k2, d) :: kvs, .cons h t => by
    have e : k1 = k2 := h.1
    subst e
    rw [List.any_cons, List.any_cons, kv_any t]
theorem kv_repl {F : Hp} {k : List Key} {v : V} {d : PyData} (r : Rp K F v d) : ∀ {ks : List (List Key × V)} {kvs : List (List Key × PyData)}, KvAll K F ks kvs → KvAll K F (ks.map fun kv => if kv.1 = k then (kv.1, v) else kv) (kvs.map fun kv => if kv.1 = k then (kv.1, d) else kv)
  | _, _, .nil => .nil
  | (k1, v1) :: ks, (k2, d1) :: kvs, .cons h t => by
    have e : k1 = k2 := h.1
    subst e
    refine .cons ?_ (kv_repl r t)
    by_cases e2 : k1 = k
    · show (if k1 = k then (k1, v) else (k1, v1)).1 = (if k1 = k then (k1, d) else (k1, d1)).1 ∧ Rp K F (if k1 = k then (k1, v) else (k1, v1)).2 (if k1 = k then (k1, d) else (k1, d1)).2
      rw [if_pos e2, if_pos e2]
      exact ⟨rfl, r⟩
    · show (if k1 = k then (k1, v) else (k1, v1)).1 = (if k1 = k then (k1, d) else (k1, d1)).1 ∧ Rp K F (if k1 = k then (k1, v) else (k1, v1)).2 (if k1 = k then (k1, d) else (k1, d1)).2
      rw [if_neg e2, if_neg e2]
      exact h
theorem kv_snoc {F : Hp} {k : List Key} {v : V} {d : PyData} (r : Rp K F v d) : ∀ {ks : List (List Key × V)} {kvs : List (List Key × PyData)}, KvAll K F ks kvs → KvAll K F (ks ++ [(k, v)]) (kvs ++ [(k, d)])
  | _, _, .nil => .cons ⟨rfl, r⟩ .nil
  | _ :: _, _ :: _, .cons h t => .cons h (kv_snoc r t)
theorem kv_put {F : Hp} {k : List Key} {v : V} {d : PyData} (r : Rp K F v d) {ks : List (List Key × V)} {kvs : List (List Key × PyData)} (h : KvAll K F ks kvs) : KvAll K F (putK ks k v) (putD kvs k d) := by
  unfold putK putD
  rw [kv_any h]
  split
  · exact kv_repl r h
  · exact kv_snoc r h
variable {kvs : List (List Key × PyData)} {k0 : List Key}
theorem s_dput {i : Nat} (hi : es[i]? = some (.dic kvs)) (hv : EvE K te es d) (hk : EvE K tb es (.tuple (k0.map kD))) (hz : kvs.length < 100000) (k : P.N (es.set i (.dic (putD kvs k0 d)))) : Go K p (sDPut (tVar i) tb te) es P := fun X F0 H0 D σ F H hp s k1 k2 k3 k4 k5 => by
  have ⟨a, ks, h1, h2, h3, h4⟩ := s.dicAt hi
  refine hv σ F H s.env _ fun v F1 H1 g1 r1 => ⟨.ref a, h1, hk σ F1 H1 (s.env.gr g1) _ fun w F2 H2 g2 r2 => ?_⟩
  have g := g1.trans g2
  have ⟨q, us, e1, z1, z2⟩ := r2.tup_inv
  subst e1
  rw [key_vs z2] at z1
  refine ⟨a, _, rfl, DPut.t (g.h _ _ h2) (g2.le _ _ z1) (Evl.sz_lt (by rw [Paired.length h4]; exact hz)), k1 _ σ F2 _ k ?_ g.f⟩
  exact (s.mono g).chg hi rfl h1 ((g.old a _ h2).trans h3) ⟨_, g.h _ _ h2⟩ ⟨a, _, rfl, upd_same, (g.old a _ h2).trans h3, kv_put (r1.mo g2.f) (kvs_mono g.f h4)⟩ rfl
theorem q_dput {i : Nat} (hi : es[i]? = some (.dic kvs)) (hv : EvE K te es d) (hk : EvE K tb es (.tuple (k0.map kD))) (hz : kvs.length < 100000) (k : Go K p u (es.set i (.dic (putD kvs k0 d))) P) : Go K p (tSeq (sDPut (tVar i) tb te) u) es P := go1 (s_dput hi hv hk hz rfl) k
/-- a dict that is read -/
def EvD (K : Fg) (te : TE) (es : List En) (kvs : List (List Key × PyData)) : Prop := ∀ (σ : L2.St) (F H : Hp), Env K F H σ es → ∀ Q : VK, (∀ a ks F' H', Gr F H F' H' → H' a = some (.dT ks) → KvAll K F' ks kvs → Q (.ref a) H') → te σ H Q
theorem d_var {i : Nat} (h : es[i]? = some (.dic kvs)) : EvD K (tVar i) es kvs := fun σ F H E Q q => by
  have ⟨ov, h1, a, ks, h2, h3, h4, h5⟩ := Paired.getR E.en h
  subst h2
  exact ⟨_, h1, q a ks F H (Gr.refl E.le) h3 h5⟩
theorem e_dget (hd : EvD K ta es kvs) (hk : EvE K tb es (.tuple (k0.map kD))) (hv : valD kvs k0 = some d) : EvE K (tDGet ta tb) es d := fun σ F H E Q q => hd σ F H E _ fun a ks F1 H1 g1 h1 r1 => hk σ F1 H1 (E.gr g1) _ fun w F2 H2 g2 r2 => by
  have ⟨b, us, e1, z1, z2⟩ := r2.tup_inv
  subst e1
  rw [key_vs z2] at z1
  rcases kv_val (k := k0) r1 with ⟨v, d', y1, y2, y3⟩ | ⟨_, y2⟩
  · rw [hv] at y2
    have e := Option.some.inj y2
    subst e
    refine ⟨a, v, rfl, ?_, q v F2 H2 (g1.trans g2) (y3.mo g2.f)⟩
    rw [← y1]
    exact DGet.t (g2.h _ _ h1) (g2.le _ _ z1)
  · rw [hv] at y2
    cases y2
theorem e_dget2 (hd : EvD K ta es kvs) (hk : EvE K tb es (.tuple (k0.map kD))) (hx : EvE K te es x) : EvE K (tDGet2 ta tb te) es ((valD kvs k0).getD x) := fun σ F H E Q q => hd σ F H E _ fun a ks F1 H1 g1 h1 r1 => by
  refine ⟨a, rfl, .inr ⟨ks, .inl h1⟩, hk σ F1 H1 (E.gr g1) _ fun w F2 H2 g2 r2 => hx σ F2 H2 ((E.gr g1).gr g2) _ fun z F3 H3 g3 r3 => ?_⟩
  have ⟨b, us, e1, z1, z2⟩ := r2.tup_inv
  subst e1
  rw [key_vs z2] at z1
  refine ⟨_, DGet.t (g3.h _ _ (g2.h _ _ h1)) (g3.le _ _ (g3.f _ _ z1)), ?_⟩
  rcases kv_val (k := k0) r1 with ⟨v, d', y1, y2, y3⟩ | ⟨y1, y2⟩
  · rw [y2] at q
    rw [y1]
    exact q v F3 H3 ((g1.trans g2).trans g3) (y3.mo (g2.f.trans g3.f))
  · rw [y2] at q
    rw [y1]
    exact q z F3 H3 ((g1.trans g2).trans g3) r3
theorem e_dnotin (hk : EvE K tb es (.tuple (k0.map kD))) (hd : EvD K ta es kvs) : EvE K (tDNotIn tb ta) es (.bool (!(valD kvs k0).isSome)) := fun σ F H E Q q => hk σ F H E _ fun w F1 H1 g1 r1 => hd σ F1 H1 (E.gr g1) _ fun a ks F2 H2 g2 h2 r2 => by
  have ⟨b, us, e1, z1, z2⟩ := r1.tup_inv
  subst e1
  rw [key_vs z2] at z1
  refine ⟨a, _, rfl, DGet.t h2 (g2.le _ _ (g2.f _ _ z1)), ?_⟩
  rcases kv_val (k := k0) r2 with ⟨v, d', y1, y2, y3⟩ | ⟨y1, y2⟩
  · rw [y2] at q
    rw [y1]
    exact q _ F2 H2 (g1.trans g2) (.bl _)
  · rw [y2] at q
    rw [y1]
    exact q _ F2 H2 (g1.trans g2) (.bl _)
theorem kv_ints {F : Hp} : ∀ {ks : List (List Key × V)} {kvs : List (List Key × PyData)} {ns : List Int}, KvAll K F ks kvs → kvs.map (·.2) = ns.map .int → ks.map (·.2) = ns.map V.int
  | _, _, [], .nil, _ => rfl
  | _, _, _ :: _, .nil, e => by cases e
  | _ :: _, _ :: _, [], .cons _ _, e => by cases e
  | a :: ks, b :: kvs, n :: ns, .cons h t, e => by
    rw [List.map_cons, List.map_cons] at e
    have ⟨e1, e2⟩ := List.cons.inj e
    have h2 := h.2
    rw [e1] at h2
    rw [List.map_cons, List.map_cons, kv_ints t e2, h2.int_inv]
theorem e_maxVals {ns : List Int} {m : Int} (hd : EvD K ta es kvs) (hv : kvs.map (·.2) = ns.map .int) (hm : m ∈ ns) (hle : ∀ y ∈ ns, y ≤ m) : EvE K (tMaxVals ta) es (.int m) := fun σ F H E Q q => hd σ F H E _ fun a ks F1 H1 g1 h1 r1 => by
  refine ⟨a, ks, ns, rfl, h1, kv_ints r1 hv, (fun z => by rw [z] at hm; cases hm), fun k hk hkl => ?_⟩
  have e : k = m := Int.le_antisymm (hle k hk) (hkl m hm)
  subst e
  exact q _ F1 H1 g1 (.int _)
/-- the promise of a def that hands back a new dict -/
def SpD (K : Fg) (P : List PyData → List (List Key × PyData) → Prop) : Sp := fun vs H Q _ => ∃ F ds r, Ex F H ∧ RpAll K F vs ds ∧ P ds r ∧ ∀ a ks F' H', Gr F H F' H' → H' a = some (.dT ks) → KvAll K F' ks r → Q (.ref a) H'
theorem d_call {Pr : List PyData → List (List Key × PyData) → Prop} {E0 : XK} {tl : TA} (h : EvA K tl es xs) (hp : Pr xs kvs) : EvD K (tCall (SpD K Pr) [] E0 tl) es kvs := fun σ F H E Q q => h σ F H E _ fun vs F1 H1 g1 r1 =>
  ⟨F1, xs, kvs, g1.le, by rw [List.append_nil]; exact r1, hp, fun a ks F2 H2 g2 h2 r2 => q a ks F2 H2 (g1.trans g2) h2 r2⟩
end
end LR
namespace LR
open PySem L2 PySem.W
open Evl (Ex)
/-! ### what is walked -/
structure ItD (K : Fg) (J : It) (F : Hp) (ds : List PyData) : Prop where
  go : ∀ i d F' H', Ex F F' → Ex F' H' → ds[i]? = some d → J.go i H'
  stop : ∀ F' H', Ex F F' → Ex F' H' → J.stop ds.length H'
  yld : ∀ i d x F' H' H2, Ex F F' → Ex F' H' → ds[i]? = some d → J.yld i H' x H2 → ∃ F2, Gr F' H' F2 H2 ∧ Rp K F2 x d
def ItE (K : Fg) (wi : TI) (es : List En) (ds : List PyData) : Prop := ∀ (σ : L2.St) (F H : Hp), Env K F H σ es → ∀ R : It → Hp → Prop, (∀ J F' H', Gr F H F' H' → ItD K J F' ds → R J H') → wi σ H R
section
variable {K : Fg} {X : Option Addr} {F0 H0 F H F' H' : Hp} {σ : L2.St} {es es1 : List En} {p : Bool} {P : Po} {t u w : TS} {te ta tb tl : TE} {tt : TT} {d x y : PyData} {ds xs : List PyData} {b : Bool}
theorem i_list (h : EvE K tl es (.list ds)) : ItE K (iList K tl) es ds := fun σ F H E R r => h σ F H E _ fun v F1 H1 g1 r1 => by
  have ⟨a, us, e, h1, h2⟩ := r1.lst_inv
  subst e
  refine ⟨a, rfl, ⟨us, SqL.of (g1.le _ _ h1)⟩, r _ F1 H1 g1 ⟨fun i d F' H' f l hi => ?_, fun F' H' f l => ?_, fun i d x F' H' H2 f l hi hy => ?_⟩⟩
  · have ⟨v, hv, _⟩ := h2.get hi
    exact ⟨us, v, SqL.of (l _ _ (f _ _ h1)), hv⟩
  · exact ⟨us, SqL.of (l _ _ (f _ _ h1)), by rw [h2.length]; exact Nat.le_refl _⟩
  · have ⟨v, hv, rv⟩ := h2.get hi
    have ⟨e1, e2⟩ := hy
    subst e1
    have e3 := e2 us (SqL.of (l _ _ (f _ _ h1)))
    rw [hv] at e3
    have e4 := Option.some.inj e3
    subst e4
    exact ⟨F', Gr.refl l, rv.mo f⟩
theorem i_tup (h : EvE K tl es (.tuple ds)) : ItE K (iTup K tl) es ds := fun σ F H E R r => h σ F H E _ fun v F1 H1 g1 r1 => by
  have ⟨a, us, e, h1, h2⟩ := r1.tup_inv
  subst e
  refine ⟨a, rfl, ⟨us, SqT.of (g1.le _ _ h1)⟩, r _ F1 H1 g1 ⟨fun i d F' H' f l hi => ?_, fun F' H' f l => ?_, fun i d x F' H' H2 f l hi hy => ?_⟩⟩
  · have ⟨v, hv, _⟩ := h2.get hi
    exact ⟨us, v, SqT.of (l _ _ (f _ _ h1)), hv⟩
  · exact ⟨us, SqT.of (l _ _ (f _ _ h1)), by rw [h2.length]; exact Nat.le_refl _⟩
  · have ⟨v, hv, rv⟩ := h2.get hi
    have ⟨e1, e2⟩ := hy
    subst e1
    have e3 := e2 us (SqT.of (l _ _ (f _ _ h1)))
    rw [hv] at e3
    have e4 := Option.some.inj e3
    subst e4
    exact ⟨F', Gr.refl l, rv.mo f⟩
def rng (lo c : Int) (n : Nat) : List PyData := (List.range n).map fun (i : Nat) => .int (lo + (i : Int) * c)
theorem rng_get {lo c : Int} {n i : Nat} (h : (rng lo c n)[i]? = some d) : i < n ∧ d = .int (lo + (i : Int) * c) := by
  unfold rng at h
  rw [List.getElem?_map] at h
  have ⟨j, hj, e⟩ := Option.map_eq_some_iff.mp h
  have ⟨hl, e2⟩ := List.getElem?_eq_some_iff.mp hj
  rw [List.getElem_range] at e2
  rw [List.length_range] at hl
  subst e2
  exact ⟨hl, e.symm⟩
theorem rng_len {lo c : Int} {n : Nat} : (rng lo c n).length = n := by
  unfold rng
  rw [List.length_map, List.length_range]
theorem itr_d {lo : Int} {n : Nat} : ItD K (Itr lo n) F (rng lo 1 n) :=
  ⟨fun i d F' H' f l hi => (rng_get hi).1, fun F' H' f l => by rw [rng_len]; exact Nat.le_refl _, fun i d x F' H' H2 f l hi hy => by
    have ⟨e1, e2⟩ := hy
    have ⟨_, e3⟩ := rng_get hi
    subst e1 e2 e3
    rw [Int.mul_one]
    exact ⟨F', Gr.refl l, .int _⟩⟩
theorem i_rng1 {n : Int} (h : EvE K ta es (.int n)) (h1 : -(2 ^ 62) ≤ n) (h2 : n < 2 ^ 62) : ItE K (iRng1 (tCons ta tNil)) es (rng 0 1 n.toNat) := fun σ F H E R r => h σ F H E _ fun v F1 H1 g1 r1 =>
  ⟨n, by rw [r1.int_inv], h1, h2, r _ F1 H1 g1 itr_d⟩
theorem i_rng2 {m n : Int} (h : EvE K ta es (.int m)) (h' : EvE K tb es (.int n)) (hb : -(2 ^ 62) ≤ m ∧ m < 2 ^ 62 ∧ -(2 ^ 62) ≤ n ∧ n < 2 ^ 62) : ItE K (iRng2 (tCons ta (tCons tb tNil))) es (rng m 1 (n - m).toNat) := fun σ F H E R r => h σ F H E _ fun v F1 H1 g1 r1 =>
  h' σ F1 H1 (E.gr g1) _ fun v2 F2 H2 g2 r2 => ⟨m, n, by rw [r1.int_inv, r2.int_inv], hb, r _ F2 H2 (g1.trans g2) itr_d⟩
theorem i_rng3 {tc : TE} {l m c : Int} {n : Nat} (h : EvE K ta es (.int l)) (h' : EvE K tb es (.int m)) (h3 : EvE K tc es (.int c)) (hn : RgC l m c n) : ItE K (iRng3 (tCons ta (tCons tb (tCons tc tNil)))) es (rng l c n) := fun σ F H E R r => h σ F H E _ fun v F1 H1 g1 r1 =>
  h' σ F1 H1 (E.gr g1) _ fun v2 F2 H2 g2 r2 => h3 σ F2 H2 ((E.gr g1).gr g2) _ fun v3 F3 H3 g3 r3 => ⟨l, m, c, n, by rw [r1.int_inv, r2.int_inv, r3.int_inv], hn, r _ F3 H3 ((g1.trans g2).trans g3)
    ⟨fun i d F' H' f l hi => (rng_get hi).1, fun F' H' f l => by rw [rng_len]; exact Nat.le_refl _, fun i d x F' H' H2 f l hi hy => by
      have ⟨e1, e2⟩ := hy
      have ⟨_, e3⟩ := rng_get hi
      subst e1 e2 e3
      exact ⟨F', Gr.refl l, .int _⟩⟩⟩
def enumD (ds : List PyData) : List PyData := ds.zipIdx.map fun q => .tuple [.int (q.2 : Int), q.1]
theorem enum_get {i : Nat} (h : (enumD ds)[i]? = some d) : ∃ z, ds[i]? = some z ∧ d = .tuple [.int (i : Int), z] := by
  unfold enumD at h
  rw [List.getElem?_map] at h
  have ⟨q, hq, e⟩ := Option.map_eq_some_iff.mp h
  rw [List.getElem?_zipIdx] at hq
  have ⟨z, hz, e2⟩ := Option.map_eq_some_iff.mp hq
  subst e2
  refine ⟨z, hz, ?_⟩
  rw [← e, Nat.zero_add]
theorem i_enum (h : EvE K tl es (.list ds)) : ItE K (iEnum K (tCons tl tNil)) es (enumD ds) := fun σ F H E R r => h σ F H E _ fun v F1 H1 g1 r1 => by
  have ⟨a, us, e, h1, h2⟩ := r1.lst_inv
  subst e
  refine ⟨a, us, rfl, SqL.of (g1.le _ _ h1), r _ F1 H1 g1 ⟨fun i d F' H' f l hi => ?_, fun F' H' f l => ?_, fun i d x F' H' H2 f l hi hy => ?_⟩⟩
  · have ⟨z, hz, _⟩ := enum_get hi
    have ⟨v, hv, _⟩ := h2.get hz
    exact ⟨us, v, SqL.of (l _ _ (f _ _ h1)), hv⟩
  · refine ⟨us, SqL.of (l _ _ (f _ _ h1)), ?_⟩
    unfold enumD
    rw [h2.length, List.length_map, List.length_zipIdx]
    exact Nat.le_refl _
  · have ⟨z, hz, e0⟩ := enum_get hi
    have ⟨v, hv, rv⟩ := h2.get hz
    have ⟨T, x2, e1, n1, e2, e3⟩ := hy
    have e4 := e3 us (SqL.of (l _ _ (f _ _ h1)))
    rw [hv] at e4
    have e5 := Option.some.inj e4
    subst e1 e2 e5 e0
    refine ⟨upd F' T (.tup [.int (i : Nat), v]), Gr.new l n1, .tup upd_same (.cons (.int _) (.cons (rv.mo (f.trans (Ex.new (Evl.fresh_back l n1)))) .nil))⟩
def zipD (ds xs : List PyData) : List PyData := (ds.zip xs).map fun q => .tuple [q.1, q.2]
theorem zip_get {i : Nat} (h : (zipD ds xs)[i]? = some d) : ∃ y z, ds[i]? = some y ∧ xs[i]? = some z ∧ d = .tuple [y, z] := by
  unfold zipD at h
  rw [List.getElem?_map] at h
  have ⟨q, hq, e⟩ := Option.map_eq_some_iff.mp h
  have ⟨q1, q2⟩ := List.getElem?_zip_eq_some.mp hq
  exact ⟨q.1, q.2, q1, q2, e.symm⟩
theorem i_zip (h : EvE K ta es (.list ds)) (h' : EvE K tb es (.list xs)) : ItE K (iZip K (tCons ta (tCons tb tNil))) es (zipD ds xs) := fun σ F H E R r => h σ F H E _ fun v F1 H1 g1 r1 => h' σ F1 H1 (E.gr g1) _ fun v' F2 H2 g2 r2 => by
  have ⟨a, us, e, h1, h2⟩ := r1.lst_inv
  have ⟨b, ws, e', h3, h4⟩ := r2.lst_inv
  subst e e'
  have h1' := g2.f _ _ h1
  have h2' := h2.mo g2.f
  refine ⟨a, b, us, ws, rfl, SqL.of (g2.le _ _ h1'), SqL.of (g2.le _ _ h3), r _ F2 H2 (g1.trans g2) ⟨fun i d F' H' f l hi => ?_, fun F' H' f l => ?_, fun i d x F' H' H2 f l hi hy => ?_⟩⟩
  · have ⟨y, z, hy, hz, _⟩ := zip_get hi
    have ⟨v, hv, _⟩ := h2'.get hy
    have ⟨u, hu, _⟩ := h4.get hz
    exact ⟨us, ws, v, u, SqL.of (l _ _ (f _ _ h1')), SqL.of (l _ _ (f _ _ h3)), hv, hu⟩
  · refine ⟨us, ws, SqL.of (l _ _ (f _ _ h1')), SqL.of (l _ _ (f _ _ h3)), ?_⟩
    unfold zipD
    rw [h2'.length, h4.length, List.length_map, List.length_zip]
    omega
  · have ⟨y, z, hy2, hz, e0⟩ := zip_get hi
    have ⟨v, hv, rv⟩ := h2'.get hy2
    have ⟨u, hu, ru⟩ := h4.get hz
    have ⟨T, x2, y2, e1, n1, e2, e3, e4⟩ := hy
    have e5 := e3 us (SqL.of (l _ _ (f _ _ h1')))
    have e6 := e4 ws (SqL.of (l _ _ (f _ _ h3)))
    rw [hv] at e5
    rw [hu] at e6
    have e7 := Option.some.inj e5
    have e8 := Option.some.inj e6
    subst e1 e2 e7 e8 e0
    have fx := Ex.new (o := .tup [v, u]) (Evl.fresh_back l n1)
    exact ⟨_, Gr.new l n1, .tup upd_same (.cons (rv.mo (f.trans fx)) (.cons (ru.mo (f.trans fx)) .nil))⟩
/-! ### loops -/
theorem s_while (W : Nat → List En → Prop) (m0 : Nat) (h0 : W m0 es)
    (hs : ∀ m e, W m e → ∃ b, EvT K tt e b ∧ (b = true → Go K p t e ⟨fun e' => ∃ m', m' < m ∧ W m' e', P.R, P.D, P.N, fun e' => ∃ m', m' < m ∧ W m' e'⟩) ∧ (b = false → P.N e)) : Go K p (tWhile tt t) es P := by
  intro X F0 H0 D σ F H hp s k1 k2 k3 k4 k5
  refine ⟨fun m σ' H' => ∃ e F', W m e ∧ S K X F0 H0 e σ' F' H' ∧ Ex F F', ⟨m0, es, F, h0, s, Ex.refl _⟩, fun m σ1 H1 ⟨e, F1, hw, s1, f1⟩ => ?_⟩
  have ⟨b, hb, ht, hf⟩ := hs m e hw
  refine hb σ1 F1 H1 s1.env _ fun F2 H2 g2 => ?_
  cases b with
  | false => exact k1 e σ1 F2 H2 (hf rfl) (s1.mono g2) (f1.trans g2.f)
  | true =>
    refine ⟨fun σ' H' => ∃ e' F', (∃ m', m' < m ∧ W m' e') ∧ S K X F0 H0 e' σ' F' H' ∧ Ex F F', fun σ' H' ⟨e', F', ⟨m', hm, hw'⟩, s', f'⟩ => ⟨m', hm, e', F', hw', s', f'⟩, ?_⟩
    exact go_gr g2 (ht rfl) hp s1 (fun e' σ' F' H' z s' f' => ⟨e', F', z, s', f1.trans f'⟩) (fun d e' v σ' F' H' z s' f' => k2 d e' v σ' F' H' z s' (f1.trans f')) (fun d e' a ks σ' F' H' z s' f' => k3 d e' a ks σ' F' H' z s' (f1.trans f'))
      (fun e' σ' F' H' z s' f' => k1 e' σ' F' H' z s' (f1.trans f')) (fun e' σ' F' H' z s' f' => ⟨e', F', z, s', f1.trans f'⟩)
theorem q_while (W : Nat → List En → Prop) (m0 : Nat) (h0 : W m0 es)
    (hs : ∀ m e, W m e → ∃ b, EvT K tt e b ∧ (b = true → Go K p t e ⟨fun e' => ∃ m', m' < m ∧ W m' e', P.R, P.D, fun e' => Go K p u e' P, fun e' => ∃ m', m' < m ∧ W m' e'⟩) ∧ (b = false → Go K p u e P)) : Go K p (tSeq (tWhile tt t) u) es P :=
  go_seq (fun e => Go K p u e P) (s_while W m0 h0 hs) fun _ h => h
theorem s_for {wi : TI} {g : TG} (hi : ItE K wi es ds) (Pv : Nat → List En → Prop) (h0 : Pv 0 es)
    (hs : ∀ i d e, ds[i]? = some d → Pv i e → ∃ bs, Tg K g d bs ∧ Go K p t (setsE e bs) ⟨Pv (i + 1), P.R, P.D, P.N, Pv (i + 1)⟩) (hd : ∀ e, Pv ds.length e → P.N e) : Go K p (tFor wi g t) es P := by
  intro X F0 H0 D σ F H hp s k1 k2 k3 k4 k5
  refine hi σ F H s.env _ fun J F1 H1 g1 I => ⟨fun i m σ' H' => m = ds.length - i ∧ i ≤ ds.length ∧ ∃ e F', Pv i e ∧ S K X F0 H0 e σ' F' H' ∧ Ex F1 F', ⟨ds.length, by simp, Nat.zero_le _, es, F1, h0, s.mono g1, Ex.refl _⟩, fun i m σ2 H2 ⟨em, hl, e, F2, hp2, s2, f2⟩ => ?_⟩
  by_cases hlt : i < ds.length
  · refine .inr ⟨I.go i ds[i] F2 H2 f2 s2.gr.le (List.getElem?_eq_getElem hlt), fun σ' H' => ∃ e' F', Pv (i + 1) e' ∧ S K X F0 H0 e' σ' F' H' ∧ Ex F1 F', fun σ' H' ⟨e', F', z⟩ => ⟨ds.length - (i + 1), by omega, rfl, by omega, e', F', z⟩, fun x H3 hy => ?_⟩
    have ⟨F3, g3, rx⟩ := I.yld i ds[i] x F2 H2 H3 f2 s2.gr.le (List.getElem?_eq_getElem hlt) hy
    have ⟨bs, hg, hbody⟩ := hs i ds[i] e (List.getElem?_eq_getElem hlt) hp2
    have ⟨ws, w1, w2⟩ := hg F3 H3 x g3.le rx
    have f3 := f2.trans g3.f
    exact w2 σ2 _ (hbody X F0 H0 _ _ F3 H3 hp ((s2.mono g3).sets w1) (fun e' σ' F' H' z s' f' => ⟨e', F', z, s', f3.trans f'⟩) (fun d e' v σ' F' H' z s' f' => k2 d e' v σ' F' H' z s' (g1.f.trans (f3.trans f'))) (fun d e' a ks σ' F' H' z s' f' => k3 d e' a ks σ' F' H' z s' (g1.f.trans (f3.trans f')))
      (fun e' σ' F' H' z s' f' => k1 e' σ' F' H' z s' (g1.f.trans (f3.trans f'))) (fun e' σ' F' H' z s' f' => ⟨e', F', z, s', f3.trans f'⟩))
  · have e1 : i = ds.length := by omega
    subst e1
    exact .inl ⟨I.stop F2 H2 f2 s2.gr.le, k1 e σ2 F2 H2 (hd e hp2) s2 (g1.f.trans f2)⟩
theorem q_for {wi : TI} {g : TG} (hi : ItE K wi es ds) (Pv : Nat → List En → Prop) (h0 : Pv 0 es)
    (hs : ∀ i d e, ds[i]? = some d → Pv i e → ∃ bs, Tg K g d bs ∧ Go K p t (setsE e bs) ⟨Pv (i + 1), P.R, P.D, fun e' => Go K p u e' P, Pv (i + 1)⟩) (hd : ∀ e, Pv ds.length e → Go K p u e P) : Go K p (tSeq (tFor wi g t) u) es P :=
  go_seq (fun e => Go K p u e P) (s_for hi Pv h0 hs hd) fun _ h => h
/-! ### comprehensions -/
def wipeE (es : List En) : List Nat → List En
  | [] => es
  | v :: vs => (wipeE es vs).set v .no
theorem ens_wipe (h : Ens K F H σ es) : ∀ vs : List Nat, Ens K F H (wipe σ vs) (wipeE es vs)
  | [] => h
  | v :: vs => by
    have k := Paired.setR (R := EnOk K F H) (a := (none : Option V)) (b := En.no) True.intro v (ens_wipe h vs)
    exact k
theorem wipe_get (σ : L2.St) : ∀ (vs : List Nat) (i : Nat), i < σ.length → (wipe σ vs)[i]? = if i ∈ vs then some none else σ[i]?
  | [], i, _ => by
    rw [if_neg (by simp)]
    rfl
  | v :: vs, i, hi => by
    show ((wipe σ vs).set v none)[i]? = _
    by_cases e : i = v
    · subst e
      rw [List.getElem?_set_self (by rw [wipe_length]; exact hi), if_pos (by simp)]
    · rw [List.getElem?_set_ne (Ne.symm e), wipe_get σ vs i hi]
      simp [e]
theorem setsV_len : ∀ (js : List Nat) (ws : List V) (σ : L2.St), (setsV σ js ws).length = σ.length
  | [], _, _ => by simp [setsV]
  | j :: js, [], _ => rfl
  | j :: js, w :: ws, σ => by
    show (setsV (σ.set j (some w)) js ws).length = _
    rw [setsV_len js ws, List.length_set]
theorem setsV_get : ∀ (js : List Nat) (ws : List V) (σ : L2.St) (i : Nat), i ∉ js → (setsV σ js ws)[i]? = σ[i]?
  | [], _, _, _, _ => by simp [setsV]
  | j :: js, [], _, _, _ => rfl
  | j :: js, w :: ws, σ, i, h => by
    have h1 : i ≠ j := fun e => h (by simp [e])
    have h2 : i ∉ js := fun e => h (by simp [e])
    show (setsV (σ.set j (some w)) js ws)[i]? = _
    rw [setsV_get js ws _ i h2, List.getElem?_set_ne (Ne.symm h1)]
theorem wipe_sets {js vs : List Nat} {ws : List V} (h : ∀ j ∈ js, j ∈ vs) : wipe (setsV (wipe σ vs) js ws) vs = wipe σ vs := by
  apply List.ext_getElem?
  intro i
  by_cases hi : i < σ.length
  · rw [wipe_get _ _ _ (by rw [setsV_len, wipe_length]; exact hi), wipe_get σ vs i hi]
    by_cases hv : i ∈ vs
    · rw [if_pos hv, if_pos hv]
    · rw [if_neg hv, if_neg hv, setsV_get _ _ _ _ (fun z => hv (h i z)), wipe_get σ vs i hi, if_neg hv]
  · rw [List.getElem?_eq_none (by rw [wipe_length, setsV_len, wipe_length]; omega), List.getElem?_eq_none (by rw [wipe_length]; omega)]
theorem Gr.chg {D : Addr} {o : HO} (g : Gr F H F' H') (h0 : H D = none) (h1 : F' D = none) : Gr F H F' (upd H' D o) :=
  ⟨g.f, fun a u e => by rw [upd_ne (ne_of_none e h0)]; exact g.h a u e, fun a u e => by rw [upd_ne (ne_of_none e h1)]; exact g.le a u e, g.old⟩
theorem t_yes : EvT K tYes es true := fun σ F H E Q q => q F H (Gr.refl E.le)
theorem n_lc {α : Type} {xs : List α} {enc : α → PyData} (f : α → Bool) (h : α → PyData) {wi : TI} {g : TG} {vs : List Nat} (hi : ItE K wi es (xs.map enc)) (hz : xs.length ≤ 50000)
    (hg : ∀ x ∈ xs, ∃ bs, Tg K g (enc x) bs ∧ (∀ j ∈ bs.map (·.1), j ∈ vs) ∧ EvT K tt (setsE (wipeE es vs) bs) (f x) ∧ (f x = true → EvE K te (setsE (wipeE es vs) bs) (h x))) : EvN K (tLc wi g tt te vs) es ((xs.filter f).map h) := by
  intro σ F H E Q q
  refine hi σ F H E _ fun J F1 H1 g1 I D hD => ?_
  have hlen : (xs.map enc).length = xs.length := List.length_map _
  refine ⟨fun i m H' => m = xs.length - i ∧ i ≤ xs.length ∧ ∃ F' acc, Gr F1 H1 F' H' ∧ H' D = some (.lst acc) ∧ F' D = none ∧ RpAll K F' acc (((xs.take i).filter f).map h), ⟨xs.length, by simp, Nat.zero_le _, F1, [], Gr.own g1.le hD, upd_same, Evl.fresh_back g1.le hD, .nil⟩, fun i m H2 ⟨em, hl, F2, acc, g2, a1, a2, a3⟩ => ?_⟩
  by_cases hlt : i < xs.length
  · have hx : (xs.map enc)[i]? = some (enc xs[i]) := by rw [List.getElem?_map, List.getElem?_eq_getElem hlt]; rfl
    refine .inr ⟨I.go i _ F2 H2 g2.f g2.le hx, fun H' => ∃ F' acc, Gr F1 H1 F' H' ∧ H' D = some (.lst acc) ∧ F' D = none ∧ RpAll K F' acc (((xs.take (i + 1)).filter f).map h), fun H' z => ⟨xs.length - (i + 1), by omega, rfl, by omega, z⟩, fun x H3 hy => ?_⟩
    have ⟨F3, g3, rx⟩ := I.yld i _ x F2 H2 H3 g2.f g2.le hx hy
    have ⟨bs, ht, hv, h1, h2⟩ := hg xs[i] (List.getElem_mem hlt)
    have ⟨ws, w1, w2⟩ := ht F3 H3 x g3.le rx
    refine w2 _ _ ⟨wipe_sets hv, ?_⟩
    have E3 : Env K F3 H3 (setsV (wipe σ vs) (bs.map (·.1)) ws) (setsE (wipeE es vs) bs) := ⟨g3.le, ens_sets (ens_wipe ((E.gr g1).gr (g2.trans g3)).en vs) w1⟩
    refine h1 _ F3 H3 E3 _ fun F4 H4 g4 => ?_
    have et : (xs.take (i + 1)).filter f = (xs.take i).filter f ++ (if f xs[i] then [xs[i]] else []) := by
      rw [List.take_add_one, List.getElem?_eq_getElem hlt, List.filter_append]
      show _ ++ [xs[i]].filter f = _
      cases hf : f xs[i] <;> simp [hf]
    have g24 := (g2.trans g3).trans g4
    have a1' : H4 D = some (.lst acc) := g4.h _ _ (g3.h _ _ a1)
    have a2' : F4 D = none := (g4.old D _ (g3.h _ _ a1)).trans ((g3.old D _ a1).trans a2)
    cases hf : f xs[i] with
    | false =>
      show ∃ F' acc, _
      refine ⟨F4, acc, g24, a1', a2', ?_⟩
      rw [et, hf]
      simp only [Bool.false_eq_true, if_false, List.append_nil]
      exact a3.mo (g3.f.trans g4.f)
    | true =>
      show te _ H4 _
      refine h2 hf _ F4 H4 (E3.gr g4) _ fun v F5 H5 g5 r5 => ⟨acc, g5.h _ _ a1', ?_, F5, acc ++ [v], (g24.trans g5).chg hD ((g5.old D _ a1').trans a2'), upd_same, (g5.old D _ a1').trans a2', ?_⟩
      · have e1 := a3.length
        rw [List.length_map] at e1
        have e2 := List.length_filter_le f (xs.take i)
        rw [List.length_take] at e2
        exact Evl.sz_lt (by omega)
      · rw [et, hf]
        simp only [if_true, List.map_append, List.map_cons, List.map_nil]
        exact (a3.mo ((g3.f.trans g4.f).trans g5.f)).snoc r5
  · have e1 : i = xs.length := by omega
    subst e1
    rw [List.take_length] at a3
    refine .inl ⟨?_, q D acc F2 H2 (g1.trans g2) (Evl.fresh_back g1.h hD) a1 a2 a3⟩
    have := I.stop F2 H2 g2.f g2.le
    rw [hlen] at this
    exact this
/-- no tests -/
theorem n_lc1 {α : Type} {xs : List α} {enc : α → PyData} (h : α → PyData) {wi : TI} {g : TG} {vs : List Nat} (hi : ItE K wi es (xs.map enc)) (hz : xs.length ≤ 50000)
    (hg : ∀ x ∈ xs, ∃ bs, Tg K g (enc x) bs ∧ (∀ j ∈ bs.map (·.1), j ∈ vs) ∧ EvE K te (setsE (wipeE es vs) bs) (h x)) : EvN K (tLc wi g tYes te vs) es (xs.map h) := by
  have r := n_lc (fun _ => true) h hi hz (te := te) (tt := tYes) (g := g) (vs := vs) fun x hx => by
    have ⟨bs, h1, h2, h3⟩ := hg x hx
    exact ⟨bs, h1, h2, t_yes, fun _ => h3⟩
  have e : xs.filter (fun _ => true) = xs := List.filter_eq_self.mpr fun _ _ => rfl
  rw [e] at r
  exact r
/-- len({x: True for x in a tuple of different ints}) -/
def rLenK : List V → Hp → VK → Prop := fun xs H Q => ∃ a kvs, xs = [V.ref a] ∧ H a = some (.dK kvs) ∧ Q (.int kvs.length) H
theorem e_lenDc {ns : List Int} {j : Nat} (h : EvE K tl es (.tuple (ns.map .int))) (hn : ns.Nodup) (hz : ns.length ≤ 1000) (hj : j < es.length) : EvE K (tCB rLenK (tCons (tDc (iTup K tl) (gName j) tYes (tVar j) (tC (.bl true)) [j]) tNil)) es (.int ns.length) := by
  intro σ F H E Q q
  have key := i_tup h σ F H E
  show tDc (iTup K tl) (gName j) tYes (tVar j) (tC (.bl true)) [j] σ H (fun x H1 => rLenK [x] H1 Q)
  unfold tDc
  refine key _ fun J F1 H1 g1 I => ?_
  intro D hD
  have hlen : (ns.map PyData.int).length = ns.length := List.length_map _
  refine ⟨fun i m H' => m = ns.length - i ∧ i ≤ ns.length ∧ ∃ F' kvs, Gr F1 H1 F' H' ∧ H' D = some (.dK kvs) ∧ F' D = none ∧ kvs.map (·.1) = (ns.take i).map Sum.inl, ⟨ns.length, by simp, Nat.zero_le _, F1, [], Gr.own g1.le hD, upd_same, Evl.fresh_back g1.le hD, rfl⟩, fun i m H2 ⟨em, hl, F2, kvs, g2, a1, a2, a3⟩ => ?_⟩
  by_cases hlt : i < ns.length
  · have hx : (ns.map PyData.int)[i]? = some (.int ns[i]) := by rw [List.getElem?_map, List.getElem?_eq_getElem hlt]; rfl
    refine .inr ⟨I.go i _ F2 H2 g2.f g2.le hx, fun H' => ∃ F' kvs, Gr F1 H1 F' H' ∧ H' D = some (.dK kvs) ∧ F' D = none ∧ kvs.map (·.1) = (ns.take (i + 1)).map Sum.inl, fun H' z => ⟨ns.length - (i + 1), by omega, rfl, by omega, z⟩, fun x H3 hy => ?_⟩
    have ⟨F3, g3, rx⟩ := I.yld i _ x F2 H2 H3 g2.f g2.le hx hy
    have ex := rx.int_inv
    subst ex
    have hs : j < (wipe σ [j]).length := by rw [wipe_length, Paired.length E.en]; exact hj
    refine ⟨?_, ?_⟩
    · have := wipe_sets (σ := σ) (js := [j]) (vs := [j]) (ws := [V.int ns[i]]) fun _ z => z
      exact this
    · have a1' : H3 D = some (.dK kvs) := g3.h _ _ a1
      have a2' : F3 D = none := (g3.old D _ a1).trans a2
      refine ⟨V.int ns[i], List.getElem?_set_self hs, kvs, Sum.inl ns[i], rfl, a1', ?_, F3, _, (g2.trans g3).chg hD a2', upd_same, a2', ?_⟩
      · have e1 := congrArg List.length a3
        rw [List.length_map, List.length_map, List.length_take] at e1
        exact Evl.sz_lt (by omega)
      · have hno : valV kvs (Sum.inl ns[i] : Key) = none := by
          cases hv : valV kvs (Sum.inl ns[i] : Key) with
          | none => rfl
          | some v =>
            unfold valV at hv
            have ⟨kv, h1, _⟩ := Option.map_eq_some_iff.mp hv
            have h2 := List.mem_of_find?_eq_some h1
            have h3 := of_decide_eq_true (List.find?_some (p := fun kv : Key × V => decide (kv.1 = Sum.inl ns[i])) h1)
            have h4 : (Sum.inl ns[i] : Key) ∈ kvs.map (·.1) := List.mem_map.mpr ⟨kv, h2, h3⟩
            rw [a3] at h4
            have ⟨z, h5, h6⟩ := List.mem_map.mp h4
            have h7 : z = ns[i] := Sum.inl.inj h6
            subst h7
            have ⟨k, hk, h8⟩ := List.mem_iff_getElem.mp h5
            rw [List.getElem_take] at h8
            rw [List.length_take] at hk
            have h9 := (List.getElem_inj hn).mp h8
            omega
        rw [putK_new _ hno, List.map_append, a3, List.take_add_one, List.getElem?_eq_getElem hlt, List.map_append]
        rfl
  · have e1 : i = ns.length := by omega
    subst e1
    rw [List.take_length] at a3
    refine .inl ⟨?_, ?_⟩
    · have := I.stop F2 H2 g2.f g2.le
      rw [hlen] at this
      exact this
    · have e2 := congrArg List.length a3
      rw [List.length_map, List.length_map] at e2
      refine ⟨D, kvs, rfl, a1, ?_⟩
      rw [e2]
      exact q _ F2 H2 (g1.trans g2) (.int _)
/-! ### sorted pairs -/
def dP (q : Int × Int) : PyData := .tuple [.int q.1, .int q.2]
def keyAt (H : Hp) : V → Int × Int
  | .ref t => match H t with
    | some (.tup [.int i, .int j]) => (i, j)
    | _ => (0, 0)
  | _ => (0, 0)
theorem pairs_at : ∀ {us : List V} {ps : List (Int × Int)}, RpAll K F us (ps.map dP) → ∀ x ∈ us, ∃ t, x = V.ref t ∧ F t = some (.tup [.int (keyAt F x).1, .int (keyAt F x).2])
  | _, [], h, x, hx => by cases h; cases hx
  | _, q :: ps, h, x, hx => by
    cases h with
    | cons h1 h2 =>
      rcases List.mem_cons.mp hx with e | hx
      · subst e
        have ⟨a, us, e1, h3, h4⟩ := h1.tup_inv
        have e2 := RpAll.ints (ns := [q.1, q.2]) h4
        subst e1 e2
        refine ⟨a, rfl, ?_⟩
        have e3 : keyAt F (.ref a) = (q.1, q.2) := by
          unfold keyAt
          simp only
          rw [h3]
          rfl
        rw [e3]
        exact h3
      · exact pairs_at h2 x hx
theorem pairs_key : ∀ {us : List V} {ps : List (Int × Int)}, RpAll K F us (ps.map dP) → us.map (keyAt F) = ps
  | _, [], h => by cases h; rfl
  | _, q :: ps, h => by
    cases h with
    | cons h1 h2 =>
      have ⟨a, us, e1, h3, h4⟩ := h1.tup_inv
      have e2 := RpAll.ints (ns := [q.1, q.2]) h4
      subst e1 e2
      have e3 : keyAt F (.ref a) = q := by
        unfold keyAt
        simp only
        rw [h3]
        rfl
      rw [List.map_cons, e3, pairs_key h2]
theorem pairs_back : ∀ {us : List V}, (∀ x ∈ us, ∃ t, x = V.ref t ∧ F t = some (.tup [.int (keyAt F x).1, .int (keyAt F x).2])) → RpAll K F us ((us.map (keyAt F)).map dP)
  | [], _ => .nil
  | x :: us, h => by
    have ⟨t, e, ht⟩ := h x (by simp)
    refine .cons ?_ (pairs_back fun y hy => h y (by simp [hy]))
    rw [e] at ht ⊢
    exact .tup ht (.cons (.int _) (.cons (.int _) .nil))
theorem n_sortP {ps zs : List (Int × Int)} (h : EvN K te es (ps.map dP)) (hp : zs.Perm ps) (hs : zs.Pairwise fun q r => SrtO.lexB r q = false) : EvN K (tCB (rSortedPO K) (tCons te tNil)) es (zs.map dP) := fun σ F H E Q q => h σ F H E _ fun a us F1 H1 g1 n1 s1 f1 r1 => by
  have hk : ∀ x ∈ us, ∃ t, x = V.ref t ∧ H1 t = some (.tup [.int (keyAt F1 x).1, .int (keyAt F1 x).2]) := fun x hx => by
    have ⟨t, e, ht⟩ := pairs_at r1 x hx
    exact ⟨t, e, g1.le _ _ ht⟩
  refine ⟨a, us, keyAt F1, rfl, SqL.of s1, hk, fun ys p h1 h2 hp2 => ?_⟩
  have e1 : (ys.map (keyAt F1)).Perm zs := by
    have h3 := h2.perm.map (keyAt F1)
    rw [pairs_key r1] at h3
    exact h3.trans hp.symm
  have e2 : (ys.map (keyAt F1)).Pairwise fun q r => SrtO.lexB r q = false := List.pairwise_map.mpr h1
  have e3 : ys.map (keyAt F1) = zs := List.Perm.eq_of_pairwise (le := fun q r => SrtO.lexB r q = false) (fun a b _ _ x y => by
    have u1 := SrtO.lexB_no.mp x
    have u2 := SrtO.lexB_no.mp y
    exact Prod.ext (by omega) (by omega)) e2 hs e1
  have e4 : RpAll K F1 ys (zs.map dP) := by
    rw [← e3]
    exact pairs_back fun x hx => pairs_at r1 x (h2.perm.mem_iff.mp hx)
  exact q p ys F1 _ (g1.trans (Gr.own g1.le hp2)) (Evl.fresh_back g1.h hp2) upd_same (Evl.fresh_back g1.le hp2) e4
end
end LR
namespace LR
open PySem L2 PySem.W
open Evl (Ex)
/-- a def of the text at its name -/
structure Fnc (P : Program) (w : World) (K : Fg) (mg : Str → Option Value) (base : Heap) (x : Str) (k : Nat) (ps : List Str) (sp : Sp) : Prop where
  ex : ∃ f fd, FnOk P w K mg base CX0 k f fd ps sp ∧ mg x = some (.ref f) ∧ PySem.W.keepIn K (.ref f) = true ∧ Binds K fd ps []
theorem pe_fnc {X : Cx} {x : Str} {k : Nat} {ps : List Str} {sp : Sp} {e : Expr} {es : List Expr} {t : TA} {p pos : Pos} (C : Fnc X.prog X.w X.K X.mg X.base x k ps sp) (hr : Room k X.A) (hg : Gl X x) (ha : PA X (e :: es) t)
    (hdb : (x == ("__debug__" : Str)) = false := by decide) (he : starEach (e :: es) X.env = (false, eval e X.env) :: starEach es X.env := by rfl) (hpl : (backTo pos (starEach es X.env)).any (·.1) = false := by rfl) :
    PE X (.Call (.Name x p) (e :: es) [] pos) (tCall sp [] E0 t) := by
  have ⟨f, fd, F, m, kp, b⟩ := C.ex
  exact pe_call F hr hg m kp b .nil pass0 ha hdb he hpl
abbrev cxN (P : Program) (w : World) (K : Fg) (mg : Str → Option Value) (base : Heap) (N : List Str) (q : Str) (st : Stmt) (f : Addr) (cdv : Value) (A : Around) (outer : List PySem.Env) (s : Shared) (H : Hp) (E : XK) : Cx :=
  (cxOf CX0 P w K mg base N q (defScope st) f cdv A outer s H E).nox
def startE (n : Nat) (es : List En) : List En := es ++ List.replicate (n - es.length) .no
section
variable {P : Program} {w : World} {K : Fg} {mg : Str → Option Value} {base : Heap}
theorem ens_start {F H : Hp} {N : List Str} {vs : List V} {es : List En} (h : Paired (EnOk K F H) (vs.map some) es) : Ens K F H (L2.start N vs) (startE N.length es) := by
  unfold L2.start startE
  have hl : vs.length = es.length := by
    have := Paired.length h
    rwa [List.length_map] at this
  rw [hl]
  have app : ∀ {l m : List (Option V)} {x y : List En}, Paired (EnOk K F H) l x → Paired (EnOk K F H) m y → Paired (EnOk K F H) (l ++ m) (x ++ y) := by
    intro l m x y h1 h2
    induction h1 with
    | nil => exact h2
    | cons r _ ih => exact .cons r ih
  refine app h ?_
  generalize N.length - es.length = n
  induction n with
  | zero => exact .nil
  | succ n ih => exact .cons True.intro ih
theorem vals_start {F H : Hp} : ∀ {vs : List V} {ds : List PyData}, RpAll K F vs ds → Paired (EnOk K F H) (vs.map some) (ds.map En.val)
  | _, _, .nil => .nil
  | _, _, .cons h t => .cons ⟨_, rfl, h⟩ (vals_start t)
theorem owns_none {n : Nat} {ds : List PyData} {i : Nat} {e : En} (h : (startE n (ds.map .val))[i]? = some e) : e.isOwn = false := by
  have hm := List.mem_of_getElem? h
  unfold startE at hm
  rcases List.mem_append.mp hm with z | z
  · have ⟨d, _, e2⟩ := List.mem_map.mp z
    rw [← e2]
    rfl
  · rw [(List.mem_replicate.mp z).2]
    rfl
theorem s_start {F H : Hp} {N : List Str} {vs : List V} {ds : List PyData} (le : Ex F H) (h : RpAll K F vs ds) : S K none F H (startE N.length (ds.map .val)) (L2.start N vs) F H :=
  ⟨GrX.refl le, ens_start (vals_start h), (fun i j a e e' hi _ oi => by
    rw [owns_none hi] at oi
    cases oi), fun i a e hi oi => by
    rw [owns_none hi] at oi
    cases oi⟩
/-- a def that changes nothing -/
theorem ok_pure {x : Str} {st : Stmt} {f : Addr} {fd : FuncData} {N ps : List Str} {k : Nat} {Pr : List PyData → PyData → Prop} {t : TS} (F : Fun K x x st f fd) (hm : mg x = some (.ref f)) (sc : FnScope N ps (defScope st))
    (hb : ∀ (kV doc pm : Value) (an : Option Addr) (cdv ct : Value) (us : List Value), us.length = ps.length → bindArgs (PySem.W.fnOf x x (defArgs st) (defBody st) (defScope st) .none kV doc pm an cdv ct) ⟨us, []⟩ = pure (ps.zip us))
    (hp : ∀ (cdv : Value) (A : Around) (outer : List PySem.Env) (s : Shared) (H : Hp) (E : XK), Room k (A.deeper (PyProof.Rows.envOfC x (defScope st) s.heap.objs.size f cdv)) → PSs (cxN P w K mg base N x st f cdv A outer s H E) (defBody st) t)
    (hg : ∀ ds r, Pr ds r → ds.length = ps.length ∧ Go K true t (startE N.length (ds.map .val)) { N := fun _ => r = .none, R := fun d _ => d = r }) : Fnc P w K mg base x (k + 1) ps (SpP K Pr) := by
  refine ⟨f, fd, F.ok sc (fun vs H Q E ⟨G, ds, r, _, h1, h2, _⟩ => by rw [h1.length]; exact (hg ds r h2).1) (fun cdv A outer s H vs Q E hr ⟨G, ds, r, h0, h1, h2, h3⟩ => ⟨t, hp cdv A outer s H E hr, ?_⟩), hm, F.kp, F.binds hb⟩
  refine (hg ds r h2).2 none G H _ (L2.start N vs) G H (fun _ => rfl) (s_start h0 h1) (fun es' σ' F' H' hn s' _ => ?_) (fun d es' v σ' F' H' hd s' _ hr2 => ?_) (fun _ _ _ _ _ _ _ z => z.elim) (fun _ _ _ _ z => z.elim) (fun _ _ _ _ z => z.elim)
  · exact h3 .non F' H' s'.gr.toGr (by rw [hn]; exact .non)
  · subst hd
    exact h3 v F' H' s'.gr.toGr hr2
theorem ok_dict {x : Str} {st : Stmt} {f : Addr} {fd : FuncData} {N ps : List Str} {k : Nat} {Pr : List PyData → List (List Key × PyData) → Prop} {t : TS} (F : Fun K x x st f fd) (hm : mg x = some (.ref f)) (sc : FnScope N ps (defScope st))
    (hb : ∀ (kV doc pm : Value) (an : Option Addr) (cdv ct : Value) (us : List Value), us.length = ps.length → bindArgs (PySem.W.fnOf x x (defArgs st) (defBody st) (defScope st) .none kV doc pm an cdv ct) ⟨us, []⟩ = pure (ps.zip us))
    (hp : ∀ (cdv : Value) (A : Around) (outer : List PySem.Env) (s : Shared) (H : Hp) (E : XK), Room k (A.deeper (PyProof.Rows.envOfC x (defScope st) s.heap.objs.size f cdv)) → PSs (cxN P w K mg base N x st f cdv A outer s H E) (defBody st) t)
    (hg : ∀ ds r, Pr ds r → ds.length = ps.length ∧ Go K true t (startE N.length (ds.map .val)) { N := fun _ => False, D := fun d _ => d = r }) : Fnc P w K mg base x (k + 1) ps (SpD K Pr) := by
  refine ⟨f, fd, F.ok sc (fun vs H Q E ⟨G, ds, r, _, h1, h2, _⟩ => by rw [h1.length]; exact (hg ds r h2).1) (fun cdv A outer s H vs Q E hr ⟨G, ds, r, h0, h1, h2, h3⟩ => ⟨t, hp cdv A outer s H E hr, ?_⟩), hm, F.kp, F.binds hb⟩
  refine (hg ds r h2).2 none G H _ (L2.start N vs) G H (fun _ => rfl) (s_start h0 h1) (fun _ _ _ _ z => z.elim) (fun _ _ _ _ _ _ z => z.elim) (fun d es' a ks σ' F' H' hd s' _ ha hr2 => ?_) (fun _ _ _ _ z => z.elim) (fun _ _ _ _ z => z.elim)
  subst hd
  exact h3 a ks F' H' s'.gr.toGr ha hr2
end
end LR
namespace LR
open PySem L2 PySem.W
open Evl (Ex)
def topS (i : Nat) : Stmt := PySem.Challenge.pw_leaprows_k40_whole_fields.main.body.getD i (.Pass ⟨0, 0, 0, 0⟩)
structure Bl (mg : Str → Option Value) : Prop where
  isinstance : mg "isinstance" = none
  len : mg "len" = none
  all : mg "all" = none
  abs : mg "abs" = none
  min : mg "min" = none
  max : mg "max" = none
  sorted : mg "sorted" = none
  sum : mg "sum" = none
  t_int : mg "int" = none
  t_bool : mg "bool" = none
  t_tuple : mg "tuple" = none
  t_list : mg "list" = none
  t_str : mg "str" = none
  range : mg "range" = none
  zip : mg "zip" = none
  enumerate : mg "enumerate" = none
  MOST_PLACE : ∃ t, mg "MOST_PLACE" = some (.int 1000000000000000000 t)
  STONES : ∃ t, mg "STONES" = some (.int 3 t)
  MOST_SIDE : ∃ t, mg "MOST_SIDE" = some (.int 100000 t)
  MOST_FIELD : ∃ t, mg "MOST_FIELD" = some (.int 20000 t)
section
variable {X : Cx}
theorem pe_cst {x : Str} {n : Int} {pos : Pos} (h : ∃ t, X.mg x = some (.int n t)) (hg : Gl X x) (hd : (x == ("__debug__" : Str)) = false := by decide) : PE X (.Name x pos) (tC (.int n)) := by
  have ⟨t, e⟩ := h
  exact pe_glob hg e ⟨t, rfl⟩ hd
theorem pe_ty {x : Str} {n : String} {pos : Pos} (h : X.mg x = none) (hg : Gl X x) (hv : bootBuiltins x = some (.type n)) (hn : x ≠ "__name__" := by decide) (hd : (x == ("__debug__" : Str)) = false := by decide) : PE X (.Name x pos) (tC (.ty n)) :=
  pe_bltn hg h hv rfl hn hd
theorem hu65 {k : Nat} {A : Around} (hr : Room k A) : A.units + 65 < cLine := by have := hr.un; omega
end
/-- a def that changes its first argument, a list -/
structure RowP where
  A : Type
  pre : A → List PyData → List PyData → Prop
  post : A → List PyData → PyData → List PyData → Prop
def SpR (K : Fg) (P : RowP) : Sp := fun vs H Q _ => ∃ F a us vs' row ds x, vs = .ref a :: vs' ∧ Ex F H ∧ H a = some (.lst us) ∧ F a = none ∧ RpAll K F us row ∧ RpAll K F vs' ds ∧ P.pre x row ds ∧
  ∀ v F' H' us' r row', P.post x ds r row' → GrX (some a) F H F' H' → H' a = some (.lst us') → RpAll K F' us' row' → Rp K F' v r → Q v H'
end LR
/-! plain functions of pairs; what the defs hand back -/
namespace LR
open PySem L2 PySem.W
/-! ### orders of the stones, places -/
inductive O6 where
  | o012 | o021 | o102 | o120 | o201 | o210
def O6.l : O6 → Nat
  | .o012 => 0
  | .o021 => 0
  | .o102 => 1
  | .o120 => 1
  | .o201 => 2
  | .o210 => 2
def O6.m : O6 → Nat
  | .o012 => 1
  | .o021 => 2
  | .o102 => 0
  | .o120 => 2
  | .o201 => 0
  | .o210 => 1
def O6.r : O6 → Nat
  | .o012 => 2
  | .o021 => 1
  | .o102 => 2
  | .o120 => 0
  | .o201 => 1
  | .o210 => 0
/-- the middle stone over the left one, over the right one -/
def O6.swL : O6 → O6
  | .o012 => .o102
  | .o021 => .o201
  | .o102 => .o012
  | .o120 => .o210
  | .o201 => .o021
  | .o210 => .o120
def O6.swR : O6 → O6
  | .o012 => .o021
  | .o021 => .o012
  | .o102 => .o120
  | .o120 => .o102
  | .o201 => .o210
  | .o210 => .o201
theorem O6.swLL (o : O6) : o.swL.swL = o := by cases o <;> rfl
theorem O6.swRR (o : O6) : o.swR.swR = o := by cases o <;> rfl
/-- the places of the stones 0, 1, 2 -/
def plc : O6 → Int → Int → Int → List Int
  | .o012, x, y, z => [x, y, z]
  | .o021, x, y, z => [x, z, y]
  | .o102, x, y, z => [y, x, z]
  | .o120, x, y, z => [z, x, y]
  | .o201, x, y, z => [y, z, x]
  | .o210, x, y, z => [z, y, x]
abbrev dSt (o : O6) (x y z : Int) : PyData := .tuple ((plc o x y z).map .int)
abbrev Pr := Nat × Nat
def eqP (p q : Pr) : Bool := Nat.beq p.1 q.1 && Nat.beq p.2 q.2
theorem eqP_iff {p q : Pr} : eqP p q = true ↔ p = q := by
  unfold eqP
  rw [Bool.and_eq_true, Nat.beq_eq, Nat.beq_eq]
  exact ⟨fun h => Prod.ext h.1 h.2, fun h => by rw [h]; exact ⟨rfl, rfl⟩⟩
theorem eqP_dec (p q : Pr) : eqP p q = decide (p = q) := by
  by_cases h : p = q
  · rw [decide_eq_true h]
    exact eqP_iff.mpr h
  · rw [decide_eq_false h]
    cases e : eqP p q with
    | false => rfl
    | true => exact absurd (eqP_iff.mp e) h
def parentP (p : Pr) : Option Pr := if Nat.beq p.1 p.2 = true then none else if Nat.ble p.1 p.2 = true then some (p.1, p.2 - p.1) else some (p.1 - p.2, p.2)
theorem parent_eq {p : Pr} (h : p.1 = p.2) : parentP p = none := by
  unfold parentP
  rw [if_pos (Nat.beq_eq.mpr h)]
theorem parent_lt {p : Pr} (h : p.1 < p.2) : parentP p = some (p.1, p.2 - p.1) := by
  unfold parentP
  rw [if_neg (fun z => Nat.ne_of_lt h (Nat.beq_eq.mp z)), if_pos (Nat.ble_eq.mpr (Nat.le_of_lt h))]
theorem parent_gt {p : Pr} (h : p.2 < p.1) : parentP p = some (p.1 - p.2, p.2) := by
  unfold parentP
  rw [if_neg (fun z => Nat.ne_of_gt h (Nat.beq_eq.mp z)), if_neg (fun z => by have := Nat.ble_eq.mp z; omega)]
/-- the order at a pair, told from the begin's -/
def oAt (o : O6) : Nat → Pr → O6
  | 0, _ => o
  | n + 1, p => if Nat.beq p.1 p.2 = true then o else if Nat.ble p.1 p.2 = true then (oAt o n (p.1, p.2 - p.1)).swL else (oAt o n (p.1 - p.2, p.2)).swR
theorem oAt_succ (o : O6) : ∀ (n : Nat) (p : Pr), 1 ≤ p.1 → 1 ≤ p.2 → p.1 + p.2 ≤ n + 1 → oAt o (n + 1) p = oAt o n p
  | 0, p, h1, h2, h => by omega
  | n + 1, p, h1, h2, h => by
    show (if _ then _ else _) = (if _ then _ else _)
    by_cases e : p.1 = p.2
    · rw [if_pos (Nat.beq_eq.mpr e), if_pos (Nat.beq_eq.mpr e)]
    · have e' : ¬ Nat.beq p.1 p.2 = true := fun z => e (Nat.beq_eq.mp z)
      rw [if_neg e', if_neg e']
      by_cases l : p.1 ≤ p.2
      · rw [if_pos (Nat.ble_eq.mpr l), if_pos (Nat.ble_eq.mpr l), oAt_succ o n (p.1, p.2 - p.1) h1 (by show 1 ≤ p.2 - p.1; omega) (by show p.1 + (p.2 - p.1) ≤ n + 1; omega)]
      · have l' : ¬ Nat.ble p.1 p.2 = true := fun z => l (Nat.ble_eq.mp z)
        rw [if_neg l', if_neg l', oAt_succ o n (p.1 - p.2, p.2) (by show 1 ≤ p.1 - p.2; omega) h2 (by show p.1 - p.2 + p.2 ≤ n + 1; omega)]
abbrev oP (o : O6) (p : Pr) : O6 := oAt o 64 p
theorem oP_L (o : O6) {p : Pr} (h1 : 1 ≤ p.1) (h2 : 1 ≤ p.2) (h : p.1 + (p.1 + p.2) ≤ 63) : oP o (p.1, p.1 + p.2) = (oP o p).swL := by
  show (if _ then _ else _) = _
  rw [if_neg (fun z => by have : p.1 = p.1 + p.2 := Nat.beq_eq.mp z; omega), if_pos (Nat.ble_eq.mpr (by show p.1 ≤ p.1 + p.2; omega))]
  have e : ((p.1, p.1 + p.2).1, (p.1, p.1 + p.2).2 - (p.1, p.1 + p.2).1) = p := by
    show (p.1, p.1 + p.2 - p.1) = p
    rw [Nat.add_sub_cancel_left]
  rw [e]
  exact congrArg O6.swL (oAt_succ o 63 p h1 h2 (by omega)).symm
theorem oP_R (o : O6) {p : Pr} (h1 : 1 ≤ p.1) (h2 : 1 ≤ p.2) (h : p.1 + p.2 + p.2 ≤ 63) : oP o (p.1 + p.2, p.2) = (oP o p).swR := by
  show (if _ then _ else _) = _
  rw [if_neg (fun z => by have : p.1 + p.2 = p.2 := Nat.beq_eq.mp z; omega), if_neg (fun z => by have : p.1 + p.2 ≤ p.2 := Nat.ble_eq.mp z; omega)]
  have e : ((p.1 + p.2, p.2).1 - (p.1 + p.2, p.2).2, (p.1 + p.2, p.2).2) = p := by
    show (p.1 + p.2 - p.2, p.2) = p
    rw [Nat.add_sub_cancel]
  rw [e]
  exact congrArg O6.swR (oAt_succ o 63 p h1 h2 (by omega)).symm
/-- a position: the heart, the grain, the begin's order, the pair -/
def stD (m g : Int) (o : O6) (p : Pr) : PyData := dSt (oP o p) (m - g * p.2) (m + g * (p.1 - p.2)) (m + g * p.1)
def dN (p : Pr) : PyData := .tuple [.int p.1, .int p.2]
def dPar (o : Option Pr) (f : Pr → PyData) : PyData := match o with
  | none => .none
  | some q => f q
/-! ### lists by pairs -/
def pwF : Nat → Nat → Nat → List Pr → List Pr → Option (List Pr)
  | 0, _, _, _, _ => none
  | _ + 1, _, _, found, [] => some found.reverse
  | n + 1, w, h, found, p :: rim =>
    pwF n w h (p :: found) (if Nat.ble (p.1 + p.2) w = true then (p.1 + p.2, p.2) :: (if Nat.ble (p.1 + p.2) h = true then (p.1, p.1 + p.2) :: rim else rim) else (if Nat.ble (p.1 + p.2) h = true then (p.1, p.1 + p.2) :: rim else rim))
def pairsM (w h : Nat) : Option (List Pr) := pwF 400 w h [] [(1, 1)]
def getA {β : Type} : List (Pr × β) → Pr → Option β
  | [], _ => none
  | (k, v) :: L, q => if eqP k q = true then some v else getA L q
def hasA {β : Type} : List (Pr × β) → Pr → Bool
  | [], _ => false
  | (k, _) :: L, q => eqP k q || hasA L q
def replA {β : Type} : List (Pr × β) → Pr → β → List (Pr × β)
  | [], _, _ => []
  | (k, v) :: L, q, x => (if eqP k q = true then (k, x) else (k, v)) :: replA L q x
def putA {β : Type} (L : List (Pr × β)) (q : Pr) (x : β) : List (Pr × β) := if hasA L q = true then replA L q x else L ++ [(q, x)]
def lexP (p q : Pr) : Bool := if Nat.beq p.1 q.1 = true then Nat.blt p.2 q.2 else Nat.blt p.1 q.1
def maxLow (x y : Nat × Pr) : Nat × Pr := if (if Nat.beq x.1 y.1 = true then lexP x.2 y.2 else Nat.blt y.1 x.1) = true then x else y
def htStep (L : List (Pr × (Nat × Pr))) (p : Pr) : List (Pr × (Nat × Pr)) :=
  match parentP p with
  | none => putA L p (maxLow ((getA L p).getD (0, p)) (0, p))
  | some q => putA (putA L p (maxLow ((getA L p).getD (0, p)) (0, p))) q (maxLow ((getA (putA L p (maxLow ((getA L p).getD (0, p)) (0, p))) q).getD (0, q)) ((maxLow ((getA L p).getD (0, p)) (0, p)).1 + 1, (maxLow ((getA L p).getD (0, p)) (0, p)).2))
def heightsM (ps : List Pr) : List (Pr × (Nat × Pr)) := ps.reverse.foldl htStep []
def min3 (x y z : Nat) : Nat := Nat.min (Nat.min x y) z
def max3 (x y z : Nat) : Nat := Nat.max (Nat.max x y) z
def mid3 (x y z : Nat) : Nat := x + y + z - max3 x y z - min3 x y z
def wdStep (s : List (Pr × (Nat × Nat)) × Nat) (p : Pr) : List (Pr × (Nat × Nat)) × Nat :=
  let v := (getA s.1 p).getD (0, 0)
  let b := Nat.max s.2 (v.1 + v.2)
  match parentP p with
  | none => (s.1, b)
  | some q =>
    let u := (getA s.1 q).getD (0, 0)
    (putA s.1 q (max3 u.1 u.2 (v.1 + 1), mid3 u.1 u.2 (v.1 + 1)), b)
def widthM (ps : List Pr) : Nat := (ps.reverse.foldl wdStep ([], 0)).2
def upF : Nat → Pr → List Pr
  | 0, p => [p]
  | n + 1, p => match parentP p with
    | none => [p]
    | some q => p :: upF n q
def lineM (p : Pr) : List Pr := (upF 100 p).reverse
def sameM : List Pr → List Pr → Nat
  | a :: l, b :: m => (if eqP a b = true then 1 else 0) + sameM l m
  | _, _ => 0
def farL (l m : List Pr) : Nat := l.length + m.length - 2 * sameM l m
def farM (p q : Pr) : Nat := farL (lineM p) (lineM q)
def kidsM (w h : Nat) (p : Pr) : List Pr := (if Nat.ble (p.1 + p.2) h = true then [(p.1, p.1 + p.2)] else []) ++ (if Nat.ble (p.1 + p.2) w = true then [(p.1 + p.2, p.2)] else [])
def fieldF : Nat → Nat → Nat → List Pr → List Pr → Option (List Pr)
  | 0, _, _, _, _ => none
  | _ + 1, _, _, done, [] => some done.reverse
  | n + 1, w, h, done, p :: todo => fieldF n w h (p :: done) (todo ++ kidsM w h p)
def fieldM (w h : Nat) : Option (List Pr) := fieldF 400 w h [] [(1, 1)]
def maxL (l : List Nat) : Nat := l.foldl Nat.max 0
def bestF : List (List Pr) → List (List Pr) → List Pr → Nat → Nat
  | [], _, _, b => b
  | l :: ls, seen, root, b => bestF ls (seen ++ [l]) root (maxL (b :: (seen ++ [root]).map (farL l)))
/-- distances: the dict behind the pairs' loop, none where a pair's parent is not there -/
def dsF : List Pr → List (Pr × Nat) → Option (List (Pr × Nat))
  | [], L => some L
  | p :: ps, L => if hasA L p = true then dsF ps L else match parentP p with
    | none => none
    | some q => match getA L q with
      | none => none
      | some n => dsF ps (putA L p (n + 1))
def chF : Nat → Pr → Nat → List (Pr × Nat) → List (Pr × Nat)
  | 0, _, _, L => L
  | n + 1, p, k, L => match parentP p with
    | none => putA L p k
    | some q => chF n q (k + 1) (putA L p k)
def distM (ps : List Pr) (s : Pr) : Option (List (Pr × Nat)) := dsF ps (chF 100 s 0 [])
/-- the numbers of Moebius as the loop reckons them -/
def mobIn (k : Nat) : Nat → Nat → List Int → List Int
  | 0, _, l => l
  | n + 1, j, l => mobIn k n (j + k) (l.set j (l.getD j 0 - l.getD k 0))
def mobF (most : Nat) : Nat → Nat → List Int → List Int
  | 0, _, l => l
  | n + 1, k, l => mobF most n (k + 1) (if l.getD k 0 = 0 then l else mobIn k (most / k - 1) (2 * k) l)
def mobM (most : Nat) : List Int := mobF most most 1 ([0, 1] ++ List.replicate (most - 1) 0)
def chosenM (w h : Nat) : Int := (((mobM (Nat.min w h)).zipIdx.filter fun q => !decide (q.1 = 0)).map fun q => q.1 * ((w : Int) / (q.2 : Int)) * ((h : Int) / (q.2 : Int))).sum
/-! ### what the defs hand back -/
/-- a position with walls, and their box -/
structure Dm (m g : Int) (p : Pr) (lo hi : Int) (w h : Nat) : Prop where
  m1 : -100 ≤ m
  m2 : m ≤ 100
  g1 : 1 ≤ g
  g2 : g ≤ 10
  a1 : 1 ≤ p.1
  a2 : p.1 ≤ 15
  b1 : 1 ≤ p.2
  b2 : p.2 ≤ 15
  co : Nat.gcd p.1 p.2 = 1
  lo1 : -10000 ≤ lo
  lo2 : lo ≤ m - g * p.2
  hi1 : m + g * p.1 ≤ hi
  hi2 : hi ≤ 10000
  we : (hi - m) / g = w
  he : (m - lo) / g = h
  w1 : 1 ≤ w
  w2 : w ≤ 15
  h1 : 1 ≤ h
  h2 : h ≤ 15
abbrev dW (lo hi : Int) : PyData := .tuple [.int lo, .int hi]
def dHt (x : Nat × Pr) : PyData := .tuple [.int x.1, dN x.2]
def kN (p : Pr) : List Key := [Sum.inl (p.1 : Int), Sum.inl (p.2 : Int)]
def encA {β : Type} (f : β → PyData) (L : List (Pr × β)) : List (List Key × PyData) := L.map fun q => (kN q.1, f q.2)
def dI (n : Nat) : PyData := .int n
def dII (q : Nat × Nat) : PyData := .tuple [.int q.1, .int q.2]
abbrev Pf := List PyData → PyData → Prop
def P_is_int : Pf := fun ds r => ∃ i, ds = [.int i] ∧ r = .bool true
def P_is_in : Pf := fun ds r => ∃ v lo hi, ds = [.int v, .int lo, .int hi] ∧ r = .bool (decide (lo ≤ v) && decide (v ≤ hi))
def big : Int := 1000000000000000000
def P_is_state : Pf := fun ds r => ∃ o x y z, x < y ∧ y < z ∧ -big ≤ x ∧ z ≤ big ∧ ds = [dSt o x y z] ∧ r = .bool true
def P_need_state : Pf := fun ds r => ∃ o x y z, x < y ∧ y < z ∧ -big ≤ x ∧ z ≤ big ∧ ds = [dSt o x y z] ∧ r = .none
def P_common : Pf := fun ds r => ∃ a b : Nat, ds = [.int a, .int b] ∧ r = .int (Nat.gcd a b)
def P_gaps_of : Pf := fun ds r => ∃ o x y z, x < y ∧ y < z ∧ ds = [dSt o x y z] ∧ r = .tuple [.int (y - x), .int (z - y)]
def P_middle_of : Pf := fun ds r => ∃ o x y z, x < y ∧ y < z ∧ ds = [dSt o x y z] ∧ r = .int (x + z - y)
def P_grain_of : Pf := fun ds r => ∃ o x y z, x < y ∧ y < z ∧ ds = [dSt o x y z] ∧ r = .int (Nat.gcd (y - x).toNat (z - y).toNat)
def P_pair_of : Pf := fun ds r => ∃ m g o p, 1 ≤ g ∧ g ≤ 1000 ∧ 1 ≤ p.1 ∧ 1 ≤ p.2 ∧ Nat.gcd p.1 p.2 = 1 ∧ ds = [stD m g o p] ∧ r = dN p
def P_are_walls : Pf := fun ds r => ∃ lo hi, -10000 ≤ lo ∧ lo ≤ 10000 ∧ -10000 ≤ hi ∧ hi ≤ 10000 ∧ ds = [dW lo hi] ∧ r = .bool true
def P_need_walls : Pf := fun ds r => ∃ m g o p lo hi w h, Dm m g p lo hi w h ∧ ds = [stD m g o p, dW lo hi] ∧ r = .none
def P_box_of : Pf := fun ds r => ∃ m g o p lo hi w h, Dm m g p lo hi w h ∧ ds = [stD m g o p, dW lo hi] ∧ r = .tuple [.int w, .int h]
def P_mobius : Pf := fun ds r => ∃ n : Nat, 1 ≤ n ∧ n ≤ 15 ∧ ds = [.int n] ∧ r = .list ((mobM n).map .int)
def P_chosen_pairs : Pf := fun ds r => ∃ w h : Nat, 1 ≤ w ∧ w ≤ 15 ∧ 1 ≤ h ∧ h ≤ 15 ∧ ds = [.int w, .int h] ∧ r = .int (chosenM w h)
def P_need_box : Pf := fun ds r => ∃ m g o p lo hi w h, ∃ n : Int, Dm m g p lo hi w h ∧ 15 ≤ n ∧ ds = [stD m g o p, dW lo hi, .int n] ∧ r = .tuple [.int w, .int h]
def P_pairs_within : Pf := fun ds r => ∃ w h ps, pairsM w h = some ps ∧ ds = [.int w, .int h] ∧ r = .list (ps.map dN)
def P_need_field : Pf := fun ds r => ∃ m g o p lo hi w h ps, Dm m g p lo hi w h ∧ pairsM w h = some ps ∧ chosenM w h ≤ 20000 ∧ ds = [stD m g o p, dW lo hi, .int 20000] ∧ r = .list (ps.map dN)
def P_parent_of : Pf := fun ds r => ∃ p, ds = [dN p] ∧ r = dPar (parentP p) dN
def P_max_low : Pf := fun ds r => ∃ x y, ds = [dHt x, dHt y] ∧ r = dHt (maxLow x y)
def P_heights_of : List PyData → List (List Key × PyData) → Prop := fun ds r => ∃ ps : List Pr, ps.length ≤ 1000 ∧ ds = [.list (ps.map dN)] ∧ r = encA dHt (heightsM ps)
def P_greatest_depth : Pf := fun ds r => ∃ m g o p lo hi w h ps x, Dm m g p lo hi w h ∧ pairsM w h = some ps ∧ chosenM w h ≤ 20000 ∧ ps.length ≤ 1000 ∧ getA (heightsM ps) (1, 1) = some x ∧ ds = [stD m g o p, dW lo hi] ∧ r = .int x.1
def P_width_within : Pf := fun ds r => ∃ m g o p lo hi w h ps, Dm m g p lo hi w h ∧ pairsM w h = some ps ∧ chosenM w h ≤ 20000 ∧ ps.length ≤ 1000 ∧ ds = [stD m g o p, dW lo hi] ∧ r = .int (widthM ps)
def P_distances_in : List PyData → List (List Key × PyData) → Prop := fun ds r => ∃ (ps : List Pr) (s : Pr) (L : List (Pr × Nat)), ps.length ≤ 1000 ∧ 1 ≤ s.1 ∧ 1 ≤ s.2 ∧ s.1 + s.2 ≤ 60 ∧ distM ps s = some L ∧ ds = [.list (ps.map dN), dN s] ∧ r = encA dI L
def P_farthest_within : Pf := fun ds r => ∃ m g o p lo hi w h ps L, ∃ n : Nat, Dm m g p lo hi w h ∧ pairsM w h = some ps ∧ chosenM w h ≤ 20000 ∧ ps.length ≤ 1000 ∧ distM ps p = some L ∧ n ∈ L.map (·.2) ∧ (∀ k ∈ L.map (·.2), k ≤ n) ∧ ds = [stD m g o p, dW lo hi] ∧ r = .int n
/-! the law's own defs -/
def RowOk (row : List PyData) : Prop := ∃ ns i s k, ns.length ≤ 63 ∧ 0 ≤ i ∧ row = [dScr ns, .int i, .int s, .int k]
def P_l_taken : RowP := ⟨Int, fun n row ds => RowOk row ∧ 0 < n ∧ n < 1000 ∧ ds = [.int n], fun n _ r row' => RowOk row' ∧ ∃ t : Int, 0 ≤ t ∧ t < n ∧ r = .int t⟩
def P_l_pick : RowP := ⟨List PyData, fun xs row ds => RowOk row ∧ 0 < xs.length ∧ xs.length < 1000 ∧ ds = [.list xs], fun xs _ r row' => RowOk row' ∧ r ∈ xs⟩
/-- n leaps at most behind the begin -/
structure Nd (n : Nat) (p : Pr) : Prop where
  a : 1 ≤ p.1
  b : 1 ≤ p.2
  co : Nat.gcd p.1 p.2 = 1
  a8 : p.1 ≤ [1, 2, 3, 5, 8].getD n 8
  b8 : p.2 ≤ [1, 2, 3, 5, 8].getD n 8
  s : p.1 + p.2 ≤ [2, 3, 5, 8, 13].getD n 13
def P_l_walk : RowP := ⟨Int × Int × O6, fun q row ds => RowOk row ∧ 1 ≤ q.2.1 ∧ ds = [stD q.1 q.2.1 q.2.2 (1, 1), .int 4], fun q _ r row' => RowOk row' ∧ ∃ p, Nd 4 p ∧ r = stD q.1 q.2.1 q.2.2 p⟩
def P_l_state : RowP := ⟨Unit, fun _ row ds => RowOk row ∧ ds = [.int 4], fun _ _ r row' => RowOk row' ∧ ∃ m g o p, -20 ≤ m ∧ m ≤ 20 ∧ 1 ≤ g ∧ g ≤ 10 ∧ Nd 4 p ∧ r = stD m g o p⟩
def P_l_shuts : RowP := ⟨Int × Int × O6 × Pr, fun q row ds => RowOk row ∧ 1 ≤ q.2.1 ∧ q.2.1 ≤ 10 ∧ 1 ≤ q.2.2.2.1 ∧ 1 ≤ q.2.2.2.2 ∧ ds = [stD q.1 q.2.1 q.2.2.1 q.2.2.2, .int (7 * q.2.1)],
  fun q _ r row' => RowOk row' ∧ ∃ t u, 0 ≤ t ∧ t ≤ 7 * q.2.1 ∧ 0 ≤ u ∧ u ≤ 7 * q.2.1 ∧ r = dW (q.1 - q.2.1 * q.2.2.2.2 - t) (q.1 + q.2.1 * q.2.2.2.1 + u)⟩
def P_l_alike : Pf := fun ds r => ∃ i j : Int, ds = [.int i, .int j] ∧ r = .bool (decide (i = j))
def P_l_order : Pf := fun ds r => ∃ o x y z, x < y ∧ y < z ∧ ds = [dSt o x y z] ∧ r = .list [.int o.l, .int o.m, .int o.r]
def leapL (ss : List Int) (i j : Nat) : List Int := ss.set i (2 * ss.getD j 0 - ss.getD i 0)
def P_l_leapt : Pf := fun ds r => ∃ (ss : List Int) (i j : Nat), ss.length = 3 ∧ i < 3 ∧ j < 3 ∧ ds = [.tuple (ss.map .int), .int i, .int j] ∧ r = .tuple ((leapL ss i j).map .int)
def Pos (p : Pr) : Prop := 1 ≤ p.1 ∧ 1 ≤ p.2 ∧ p.1 + p.2 ≤ 60
def P_l_inward : Pf := fun ds r => ∃ m g o p, 1 ≤ g ∧ Pos p ∧ ds = [stD m g o p] ∧ r = dPar (parentP p) (stD m g o)
def P_l_line : Pf := fun ds r => ∃ m g o p, 1 ≤ g ∧ Pos p ∧ ds = [stD m g o p] ∧ r = .list ((lineM p).map (stD m g o))
def wayM (p q : Pr) : List Pr := ((lineM p).drop (sameM (lineM p) (lineM q) - 1)).reverse ++ (lineM q).drop (sameM (lineM p) (lineM q))
def P_l_way : Pf := fun ds r => ∃ m g o p q, 1 ≤ g ∧ Pos p ∧ Pos q ∧ 1 ≤ sameM (lineM p) (lineM q) ∧ ds = [stD m g o p, stD m g o q] ∧ r = .list ((wayM p q).map (stD m g o))
def P_l_far : Pf := fun ds r => ∃ m g o p q, 1 ≤ g ∧ Pos p ∧ Pos q ∧ 1 ≤ sameM (lineM p) (lineM q) ∧ ds = [stD m g o p, stD m g o q] ∧ r = .int (farM p q)
def P_l_behind : Pf := fun ds r => ∃ m g o p, 1 ≤ g ∧ 1 ≤ p.1 ∧ 1 ≤ p.2 ∧ p.1 + p.2 ≤ 30 ∧ ds = [stD m g o p, .int 1] ∧ r = .list [stD m g o (p.1, p.1 + p.2), stD m g o (p.1 + p.2, p.2)]
def P_l_field : Pf := fun ds r => ∃ m g o p lo hi w h fs, Dm m g p lo hi w h ∧ fieldM w h = some fs ∧ ds = [stD m g o p, dW lo hi] ∧ r = .list (fs.map (stD m g o))
def P_l_common : Pf := fun ds r => ∃ a b : Nat, ds = [.int a, .int b] ∧ r = .int (Nat.gcd a b)
def P_l_pair : Pf := fun ds r => ∃ m g o p, 1 ≤ g ∧ g ≤ 1000 ∧ 1 ≤ p.1 ∧ 1 ≤ p.2 ∧ Nat.gcd p.1 p.2 = 1 ∧ ds = [stD m g o p] ∧ r = .tuple [.int m, .int g, dN p]
end LR
namespace LR
open PySem L2 PySem.W
open Evl (Ex)
theorem le_ble {a b : Nat} (h : Nat.ble a b = true) : a ≤ b := Nat.le_of_ble_eq_true h
theorem plc_perm (o : O6) (x y z : Int) : [x, y, z].Perm (plc o x y z) := by
  cases o
  · exact .refl _
  · exact .cons x (.swap z y [])
  · exact .swap y x [z]
  · exact List.perm_append_comm (l₁ := [x, y]) (l₂ := [z])
  · exact List.perm_append_comm (l₁ := [x]) (l₂ := [y, z])
  · exact (List.reverse_perm [x, y, z]).symm
theorem up3 {x y z : Int} (h1 : x < y) (h2 : y < z) : [x, y, z].Pairwise (· ≤ ·) := by
  simp
  omega
theorem plc_len (o : O6) (x y z : Int) : (plc o x y z).length = 3 := by cases o <;> rfl
theorem plc_nodup {o : O6} {x y z : Int} (h1 : x < y) (h2 : y < z) : (plc o x y z).Nodup := by
  refine (plc_perm o x y z).nodup_iff.mp ?_
  simp
  omega
theorem plc_mem {o : O6} {x y z v : Int} (h : v ∈ plc o x y z) : v = x ∨ v = y ∨ v = z := by
  have := (plc_perm o x y z).mem_iff.mpr h
  simpa using this
section
variable {K : Fg} {te : TE} {es : List En} {o : O6} {x y z : Int}
theorem e_sortSt (h : EvE K te es (dSt o x y z)) (h1 : x < y) (h2 : y < z) : EvE K (tCB (rSortU3 K) (tCons te tNil)) es (.list [.int x, .int y, .int z]) :=
  (n_sortT (ns := plc o x y z) (zs := [x, y, z]) h (by rw [plc_len]; decide) (plc_perm o x y z) (up3 h1 h2)).e
theorem e_minSt (h : EvE K te es (dSt o x y z)) (h1 : x < y) (h2 : y < z) : EvE K (tCB (rMinU K) (tCons te tNil)) es (.int x) := by
  refine e_cb (a_cons h a_nil) ?_
  have e : ∀ a b c : Int, (dSt o x y z) = .tuple ((a :: [b, c]).map .int) → [b, c].foldl min a = x → RAE K (rMinU K) [dSt o x y z] (.int x) := fun a b c e1 e2 => by
    rw [e1, ← e2]
    exact ra_minU
  cases o
  · exact e x y z rfl (by simp only [List.foldl]; omega)
  · exact e x z y rfl (by simp only [List.foldl]; omega)
  · exact e y x z rfl (by simp only [List.foldl]; omega)
  · exact e z x y rfl (by simp only [List.foldl]; omega)
  · exact e y z x rfl (by simp only [List.foldl]; omega)
  · exact e z y x rfl (by simp only [List.foldl]; omega)
theorem e_maxSt (h : EvE K te es (dSt o x y z)) (h1 : x < y) (h2 : y < z) : EvE K (tCB (rMaxU K) (tCons te tNil)) es (.int z) := by
  refine e_cb (a_cons h a_nil) ?_
  have e : ∀ a b c : Int, (dSt o x y z) = .tuple ((a :: [b, c]).map .int) → [b, c].foldl max a = z → RAE K (rMaxU K) [dSt o x y z] (.int z) := fun a b c e1 e2 => by
    rw [e1, ← e2]
    exact ra_maxU
  cases o
  · exact e x y z rfl (by simp only [List.foldl]; omega)
  · exact e x z y rfl (by simp only [List.foldl]; omega)
  · exact e y x z rfl (by simp only [List.foldl]; omega)
  · exact e z x y rfl (by simp only [List.foldl]; omega)
  · exact e y z x rfl (by simp only [List.foldl]; omega)
  · exact e z y x rfl (by simp only [List.foldl]; omega)
end
theorem ki_ii : kitB "int" "int" = some true := by decide +kernel
theorem ki_ib : kitB "int" "bool" = some false := by decide +kernel
theorem ki_it : kitB "int" "tuple" = some false := by decide +kernel
theorem ki_il : kitB "int" "list" = some false := by decide +kernel
theorem ki_is : kitB "int" "str" = some false := by decide +kernel
theorem ki_tt : kitB "tuple" "tuple" = some true := by decide +kernel

abbrev s_is_int : Stmt := topS 8
theorem sc_is_int : FnScope ["value"] ["value"] (defScope s_is_int) :=
  ⟨rfl, rfl, rfl, by decide +kernel, rfl, by decide +kernel, by decide +kernel⟩
def t_is_int (K : Fg) : TS := (tRet (tAndV (tCB (rIsi K) (tCons (tVar 0) (tCons (tC (.ty "int")) tNil))) (tNotV (tCB (rIsi K) (tCons (tVar 0) (tCons (tC (.ty "bool")) tNil))))))
theorem p_is_int {P : Program} {w : World} {K : Fg} {mg : Str → Option Value} {base : Heap} {f : Addr} (T : Bl mg) (cdv : Value) (A : Around) (outer : List PySem.Env) (s : Shared) (H : Hp) (E : XK)
    (hr : Room 0 (A.deeper (PyProof.Rows.envOfC "is_int" (defScope s_is_int) s.heap.objs.size f cdv))) : PSs (cxN P w K mg base ["value"] "is_int" s_is_int f cdv A outer s H E) (defBody s_is_int) (t_is_int K) :=
  (pss_one (ps_ret (pe_and (pe_callB call_isi (by rfl) T.isinstance (by decide +kernel) (pa_cons (pv 0) (pa_cons (pe_ty T.t_int (by rfl) (by decide +kernel)) pa_nil))) (pe_one (pe_not (pe_callB call_isi (by rfl) T.isinstance (by decide +kernel) (pa_cons (pv 0) (pa_cons (pe_ty T.t_bool (by rfl) (by decide +kernel)) pa_nil))))))))
theorem go_is_int {K : Fg} : ∀ ds r, P_is_int ds r → ds.length = 1 ∧ Go K true (t_is_int K) (startE 1 (ds.map .val)) { N := fun _ => r = .none, R := fun d _ => d = r } := by
  rintro _ _ ⟨i, rfl, rfl⟩
  refine ⟨rfl, ?_⟩
  unfold t_is_int
  exact s_ret (e_andV (b := true) (c := true) (e_isi (e_var rfl) (fun _ z => nomatch z) ki_ii) fun _ => e_notV (e_isi (x := .int i) (b := false) (e_var rfl) (fun _ z => nomatch z) ki_ib)) rfl
theorem ok_is_int {P : Program} {w : World} {K : Fg} {mg : Str → Option Value} {base : Heap} {f : Addr} {fd : FuncData} (T : Bl mg) (F : Fun K "is_int" "is_int" s_is_int f fd) (hm : mg "is_int" = some (.ref f)) : Fnc P w K mg base "is_int" 1 ["value"] (SpP K P_is_int) :=
  ok_pure (ps := ["value"]) F hm sc_is_int (fun _ _ _ _ _ _ us hl => match us, hl with | [_], _ => rfl) (fun cdv A outer s H E hr => p_is_int T cdv A outer s H E hr) go_is_int
abbrev s_is_in : Stmt := topS 9
theorem sc_is_in : FnScope ["value", "least", "most"] ["value", "least", "most"] (defScope s_is_in) :=
  ⟨rfl, rfl, rfl, by decide +kernel, rfl, by decide +kernel, by decide +kernel⟩
def t_is_in (K : Fg) : TS := (tRet (tAndV (tCall (SpP K P_is_int) [] E0 (tCons (tVar 0) tNil)) (tChain (rI0 fun i j => .bl (decide (i ≤ j))) (rI0 fun i j => .bl (decide (i ≤ j))) (tVar 1) (tVar 0) (tVar 2))))
theorem p_is_in {P : Program} {w : World} {K : Fg} {mg : Str → Option Value} {base : Heap} {f : Addr} (T : Bl mg) (C_is_int : Fnc P w K mg base "is_int" 1 ["value"] (SpP K P_is_int)) (cdv : Value) (A : Around) (outer : List PySem.Env) (s : Shared) (H : Hp) (E : XK)
    (hr : Room 1 (A.deeper (PyProof.Rows.envOfC "is_in" (defScope s_is_in) s.heap.objs.size f cdv))) : PSs (cxN P w K mg base ["value", "least", "most"] "is_in" s_is_in f cdv A outer s H E) (defBody s_is_in) (t_is_in K) :=
  (pss_one (ps_ret (pe_and (pe_fnc C_is_int (hr.mono (by decide)) (by rfl) (pa_cons (pv 0) pa_nil)) (pe_one (pe_chain op_le op_le (pv 1) (pv 0) (pv 2))))))
theorem go_is_in {K : Fg} : ∀ ds r, P_is_in ds r → ds.length = 3 ∧ Go K true (t_is_in K) (startE 3 (ds.map .val)) { N := fun _ => r = .none, R := fun d _ => d = r } := by
  rintro _ _ ⟨v, lo, hi, rfl, rfl⟩
  refine ⟨rfl, ?_⟩
  unfold t_is_in
  refine s_ret (e_andV (b := true) (c := decide (lo ≤ v) && decide (v ≤ hi)) (e_call (a_cons (e_var rfl) a_nil) ⟨v, rfl, rfl⟩) fun _ => ?_) rfl
  refine e_chain (b := decide (lo ≤ v)) (e_var rfl) (e_var rfl) (fun _ => e_var rfl) r_cmp (fun h => ?_) (fun h => ?_)
  · rw [h, Bool.true_and]
    exact r_cmp
  · rw [h]
    rfl
theorem ok_is_in {P : Program} {w : World} {K : Fg} {mg : Str → Option Value} {base : Heap} {f : Addr} {fd : FuncData} (T : Bl mg) (C_is_int : Fnc P w K mg base "is_int" 1 ["value"] (SpP K P_is_int)) (F : Fun K "is_in" "is_in" s_is_in f fd) (hm : mg "is_in" = some (.ref f)) : Fnc P w K mg base "is_in" 2 ["value", "least", "most"] (SpP K P_is_in) :=
  ok_pure (ps := ["value", "least", "most"]) F hm sc_is_in (fun _ _ _ _ _ _ us hl => match us, hl with | [_, _, _], _ => rfl) (fun cdv A outer s H E hr => p_is_in T C_is_int cdv A outer s H E hr) go_is_in
abbrev s_is_state : Stmt := topS 10
theorem sc_is_state : FnScope ["value", "place"] ["value"] (defScope s_is_state) :=
  ⟨rfl, rfl, rfl, by decide +kernel, rfl, by decide +kernel, by decide +kernel⟩
def t_is_state (K : Fg) : TS := (tSeq (tIfS (tOr (tNot (tB (tCB (rIsi K) (tCons (tVar 0) (tCons (tC (.ty "tuple")) tNil))))) (tTest (tOp rNe (tCB (Evl.rLenS K) (tCons (tVar 0) tNil)) (tC (.int 3))))) (tRet (tC (.bl false))) tNext)
  (tSeq (tIfS (tNot (tB (tCB (rAll K) (tCons (tLc (iTup K (tVar 0)) (gName 1) tYes (tCall (SpP K P_is_in) [] E0 (tCons (tVar 1) (tCons (tUn (rU fun i => .int (-i)) (tC (.int 1000000000000000000))) (tCons (tC (.int 1000000000000000000)) tNil)))) [1]) tNil)))) (tRet (tC (.bl false))) tNext)
  (tRet (tOp rEq (tCB rLenK (tCons (tDc (iTup K (tVar 0)) (gName 1) tYes (tVar 1) (tC (.bl true)) [1]) tNil)) (tC (.int 3))))))
theorem p_is_state {P : Program} {w : World} {K : Fg} {mg : Str → Option Value} {base : Heap} {f : Addr} (T : Bl mg) (C_is_in : Fnc P w K mg base "is_in" 2 ["value", "least", "most"] (SpP K P_is_in)) (cdv : Value) (A : Around) (outer : List PySem.Env) (s : Shared) (H : Hp) (E : XK)
    (hr : Room 2 (A.deeper (PyProof.Rows.envOfC "is_state" (defScope s_is_state) s.heap.objs.size f cdv))) : PSs (cxN P w K mg base ["value", "place"] "is_state" s_is_state f cdv A outer s H E) (defBody s_is_state) (t_is_state K) :=
  (pss_cons (ps_if (PW.pt (pw_or (pt_not (pt_val (pe_callB call_isi (by rfl) T.isinstance (by decide +kernel) (pa_cons (pv 0) (pa_cons (pe_ty T.t_tuple (by rfl) (by decide +kernel)) pa_nil))))) (pw_or1 (pt_cmpR op_ne (pe_callB call_len_seq (by rfl) T.len (by decide +kernel) (pa_cons (pv 0) pa_nil)) (pe_cst T.STONES (by rfl)) (nomark _))))) (pss_one (ps_ret pe_bl)) pss_nil)
    (pss_cons (ps_if (pt_not (pt_val (pe_callB (cr_all rfl) (by rfl) T.all (by decide +kernel) (pa_cons (pe_lc (own := [("place", 1)]) rfl sc_is_state.nd (pi_tup (pv 0)) (blkOk_by (own := [("place", 1)]) (N := ["value", "place"]) (sc := defScope s_is_state) (by decide +kernel)) (fun _ _ _ _ _ => (pg_name (i := 1) sc_is_state.nd rfl (.inl rfl))) (fun _ _ _ _ _ => pts_nil) (fun _ _ _ _ _ => (pe_fnc C_is_in (hr.mono (by decide)) (by rfl) (pa_cons (pv 1) (pa_cons (pe_un un_neg (pe_cst T.MOST_PLACE (by rfl))) (pa_cons (pe_cst T.MOST_PLACE (by rfl)) pa_nil)))))) pa_nil)))) (pss_one (ps_ret pe_bl)) pss_nil)
    (pss_one (ps_ret (pe_cmpR op_eq (pe_callB call_lenD (by rfl) T.len PySem.boot_len (pa_cons (pe_dc (own := [("place", 1)]) rfl sc_is_state.nd (pi_tup (pv 0)) (blkOk_by (own := [("place", 1)]) (N := ["value", "place"]) (sc := defScope s_is_state) (by decide +kernel)) (fun _ _ _ _ _ => (pg_name (i := 1) sc_is_state.nd rfl (.inl rfl))) (fun _ _ _ _ _ => pts_nil) (fun _ _ _ _ _ => (pv 1)) (fun _ _ _ _ _ => pe_bl)) pa_nil)) (pe_cst T.STONES (by rfl)) (nomark _))))))
theorem go_is_state {K : Fg} : ∀ ds r, P_is_state ds r → ds.length = 1 ∧ Go K true (t_is_state K) (startE 2 (ds.map .val)) { N := fun _ => r = .none, R := fun d _ => d = r } := by
  rintro _ _ ⟨o, x, y, z, h1, h2, h3, h4, rfl, rfl⟩
  refine ⟨rfl, ?_⟩
  unfold t_is_state
  have hl : ((plc o x y z).map PyData.int).length = 3 := by rw [List.length_map, plc_len]
  refine q_skip ?_ ?_
  · refine (t_or (b := false) (c := false) (t_not (b := true) (t_B (e_isi (e_var rfl) (fun _ z => nomatch z) ki_tt))) fun _ => ?_)
    refine t_test ((e_op (e_lenT (e_var rfl)) e_int r_neI).is ?_)
    rw [hl]
    rfl
  refine q_skip ?_ ?_
  · refine t_not (b := true) (t_B ((e_all (bs := (plc o x y z).map fun _ => true) ?_).is ?_))
    · have hc := n_lc1 (K := K) (xs := plc o x y z) (enc := PyData.int) (fun _ => .bool true) (g := gName 1) (vs := [1]) (te := (tCall (SpP K P_is_in) [] E0 (tCons (tVar 1) (tCons (tUn (rU fun i => .int (-i)) (tC (.int 1000000000000000000))) (tCons (tC (.int 1000000000000000000)) tNil)))))
        (i_tup (es := startE 2 [.val (dSt o x y z)]) (e_var (i := 0) rfl)) (by rw [plc_len]; decide) fun v hv => ⟨[(1, .int v)], tg_name, by simp, ?_⟩
      · exact (hc.is (by rw [List.map_map]; rfl)).w
      · refine e_call (a_cons (e_var rfl) (a_cons (e_un e_int r_neg) (a_cons e_int a_nil))) ⟨v, _, _, rfl, ?_⟩
        have : -big ≤ v ∧ v ≤ big := by rcases plc_mem hv with e | e | e <;> omega
        have e1 : decide (-(1000000000000000000 : Int) ≤ v) = true := decide_eq_true this.1
        have e2 : decide (v ≤ (1000000000000000000 : Int)) = true := decide_eq_true this.2
        rw [e1, e2]
        rfl
    · simp
  refine s_ret ((e_op (e_lenDc (e_var rfl) (plc_nodup h1 h2) (by rw [plc_len]; decide) (le_ble (a := 2) rfl)) e_int r_eqI).is ?_) rfl
  rw [plc_len]
  rfl
theorem ok_is_state {P : Program} {w : World} {K : Fg} {mg : Str → Option Value} {base : Heap} {f : Addr} {fd : FuncData} (T : Bl mg) (C_is_in : Fnc P w K mg base "is_in" 2 ["value", "least", "most"] (SpP K P_is_in)) (F : Fun K "is_state" "is_state" s_is_state f fd) (hm : mg "is_state" = some (.ref f)) : Fnc P w K mg base "is_state" 3 ["value"] (SpP K P_is_state) :=
  ok_pure (ps := ["value"]) F hm sc_is_state (fun _ _ _ _ _ _ us hl => match us, hl with | [_], _ => rfl) (fun cdv A outer s H E hr => p_is_state T C_is_in cdv A outer s H E hr) go_is_state
abbrev s_need_state : Stmt := topS 11
theorem sc_need_state : FnScope ["value"] ["value"] (defScope s_need_state) :=
  ⟨rfl, rfl, rfl, by decide +kernel, rfl, by decide +kernel, by decide +kernel⟩
def t_need_state (K : Fg) : TS := (tIfS (tNot (tB (tCall (SpP K P_is_state) [] E0 (tCons (tVar 0) tNil)))) tNever tNext)
theorem p_need_state {P : Program} {w : World} {K : Fg} {mg : Str → Option Value} {base : Heap} {f : Addr} (T : Bl mg) (C_is_state : Fnc P w K mg base "is_state" 3 ["value"] (SpP K P_is_state)) (cdv : Value) (A : Around) (outer : List PySem.Env) (s : Shared) (H : Hp) (E : XK)
    (hr : Room 3 (A.deeper (PyProof.Rows.envOfC "need_state" (defScope s_need_state) s.heap.objs.size f cdv))) : PSs (cxN P w K mg base ["value"] "need_state" s_need_state f cdv A outer s H E) (defBody s_need_state) (t_need_state K) :=
  (pss_one (ps_if (pt_not (pt_val (pe_fnc C_is_state (hr.mono (by decide)) (by rfl) (pa_cons (pv 0) pa_nil)))) (pss_one ps_never) pss_nil))
theorem go_need_state {K : Fg} : ∀ ds r, P_need_state ds r → ds.length = 1 ∧ Go K true (t_need_state K) (startE 1 (ds.map .val)) { N := fun _ => r = .none, R := fun d _ => d = r } := by
  rintro _ _ ⟨o, x, y, z, h1, h2, h3, h4, rfl, rfl⟩
  refine ⟨rfl, ?_⟩
  unfold t_need_state
  refine s_if (b := false) (t_not (b := true) (t_B (e_call (a_cons (e_var rfl) a_nil) ⟨o, x, y, z, h1, h2, h3, h4, rfl, rfl⟩))) (fun z => by cases z) fun _ => go_next rfl
theorem ok_need_state {P : Program} {w : World} {K : Fg} {mg : Str → Option Value} {base : Heap} {f : Addr} {fd : FuncData} (T : Bl mg) (C_is_state : Fnc P w K mg base "is_state" 3 ["value"] (SpP K P_is_state)) (F : Fun K "need_state" "need_state" s_need_state f fd) (hm : mg "need_state" = some (.ref f)) : Fnc P w K mg base "need_state" 4 ["value"] (SpP K P_need_state) :=
  ok_pure (ps := ["value"]) F hm sc_need_state (fun _ _ _ _ _ _ us hl => match us, hl with | [_], _ => rfl) (fun cdv A outer s H E hr => p_need_state T C_is_state cdv A outer s H E hr) go_need_state
abbrev s_common : Stmt := topS 12
theorem sc_common : FnScope ["one", "other"] ["one", "other"] (defScope s_common) :=
  ⟨rfl, rfl, rfl, by decide +kernel, rfl, by decide +kernel, by decide +kernel⟩
def t_common (K : Fg) : TS := (tSeq (tWhile (tTest (tOp rNe (tVar 1) (tC (.int 0)))) (tPar 0 1 (tCons (tVar 1) (tCons (tOp (rI (fun _ j => 0 < j) fun i j => .int (i % j)) (tVar 0) (tVar 1)) tNil))))
  (tRet (tCB (fun xs H Q => ∃ i, xs = [.int i] ∧ Q (.int (if i < 0 then -i else i)) H) (tCons (tVar 0) tNil))))
theorem p_common {P : Program} {w : World} {K : Fg} {mg : Str → Option Value} {base : Heap} {f : Addr} (T : Bl mg) (cdv : Value) (A : Around) (outer : List PySem.Env) (s : Shared) (H : Hp) (E : XK)
    (hr : Room 0 (A.deeper (PyProof.Rows.envOfC "common" (defScope s_common) s.heap.objs.size f cdv))) : PSs (cxN P w K mg base ["one", "other"] "common" s_common f cdv A outer s H E) (defBody s_common) (t_common K) :=
  (pss_cons (ps_while PassesOwn.never (pt_cmpR op_ne (pv 1) pe_int (nomark _)) (pss_one (ps_par (i := 0) (j := 1) rfl sc_common.nd rfl rfl (by decide) rfl rfl (pa_cons (pv 1) (pa_cons (pe_op op_mod (pv 0) (pv 1)) pa_nil)) (by rfl))))
    (pss_one (ps_ret (pe_callB call_abs (by rfl) T.abs (by decide +kernel) (pa_cons (pv 0) pa_nil)))))
theorem go_gcd {K : Fg} {P : Po} {a b : Nat} {rest : TS} (hr : Go K true rest [.val (.int (Nat.gcd a b : Nat)), .val (.int 0)] P) :
    Go K true (tSeq (tWhile (tTest (tOp rNe (tVar 1) (tC (.int 0)))) (tPar 0 1 (tCons (tVar 1) (tCons (tOp (rI (fun _ j => 0 < j) fun i j => .int (i % j)) (tVar 0) (tVar 1)) tNil)))) rest) [.val (.int a), .val (.int b)] P := by
  refine q_while (fun m e => ∃ c : Nat, e = [.val (.int c), .val (.int m)] ∧ Nat.gcd c m = Nat.gcd a b) b ⟨a, rfl, rfl⟩ ?_
  rintro m _ ⟨c, rfl, hg⟩
  refine ⟨!decide ((m : Int) = 0), t_test (e_op (e_var rfl) e_int r_neI), fun h => ?_, fun h => ?_⟩
  · have hm : 0 < m := by
      rcases Nat.eq_zero_or_pos m with e | e
      · subst e
        cases h
      · exact e
    refine s_par (i := 0) (j := 1) (e_var rfl).i (e_op (e_var rfl) (e_var rfl) (r_I (by omega))).i ⟨c % m, Nat.mod_lt _ hm, m, ?_, ?_⟩
    · rw [← Int.natCast_emod]
      rfl
    · rw [← hg, Nat.gcd_comm c m, Nat.gcd_rec m c, Nat.gcd_comm]
  · have hm : m = 0 := by
      have : decide ((m : Int) = 0) = true := by
        cases h2 : decide ((m : Int) = 0) with
        | true => rfl
        | false => rw [h2] at h; cases h
      have := of_decide_eq_true this
      omega
    subst hm
    rw [Nat.gcd_zero_right] at hg
    rw [hg]
    exact hr
theorem go_common {K : Fg} : ∀ ds r, P_common ds r → ds.length = 2 ∧ Go K true (t_common K) (startE 2 (ds.map .val)) { N := fun _ => r = .none, R := fun d _ => d = r } := by
  rintro _ _ ⟨a, b, rfl, rfl⟩
  refine ⟨rfl, ?_⟩
  unfold t_common
  refine go_gcd (s_ret (e_cb (a_cons (e_var rfl) a_nil) ra_abs) ?_)
  rw [if_neg (by omega)]
theorem ok_common {P : Program} {w : World} {K : Fg} {mg : Str → Option Value} {base : Heap} {f : Addr} {fd : FuncData} (T : Bl mg) (F : Fun K "common" "common" s_common f fd) (hm : mg "common" = some (.ref f)) : Fnc P w K mg base "common" 1 ["one", "other"] (SpP K P_common) :=
  ok_pure (ps := ["one", "other"]) F hm sc_common (fun _ _ _ _ _ _ us hl => match us, hl with | [_, _], _ => rfl) (fun cdv A outer s H E hr => p_common T cdv A outer s H E hr) go_common
abbrev s_gaps_of : Stmt := topS 13
theorem sc_gaps_of : FnScope ["state", "x", "y", "z"] ["state"] (defScope s_gaps_of) :=
  ⟨rfl, rfl, rfl, by decide +kernel, rfl, by decide +kernel, by decide +kernel⟩
def t_gaps_of (K : Fg) : TS := (tSeq (tAsg (tCB (rSortU3 K) (tCons (tVar 0) tNil)) (gLst K 3 (gCons (gName 1) (gCons (gName 2) (gCons (gName 3) gNil)))))
  (tRet (tTup (tCons (tOp (rI0 fun i j => .int (i - j)) (tVar 2) (tVar 1)) (tCons (tOp (rI0 fun i j => .int (i - j)) (tVar 3) (tVar 2)) tNil)))))
theorem p_gaps_of {P : Program} {w : World} {K : Fg} {mg : Str → Option Value} {base : Heap} {f : Addr} (T : Bl mg) (cdv : Value) (A : Around) (outer : List PySem.Env) (s : Shared) (H : Hp) (E : XK)
    (hr : Room 0 (A.deeper (PyProof.Rows.envOfC "gaps_of" (defScope s_gaps_of) s.heap.objs.size f cdv))) : PSs (cxN P w K mg base ["state", "x", "y", "z"] "gaps_of" s_gaps_of f cdv A outer s H E) (defBody s_gaps_of) (t_gaps_of K) :=
  (pss_cons (ps_asg (pe_callB cr_sortU3 (by rfl) T.sorted (by decide +kernel) (pa_cons (pv 0) pa_nil)) (pg_lst rfl (pgs_cons (pg_name (i := 1) sc_gaps_of.nd rfl (.inl rfl)) (pgs_cons (pg_name (i := 2) sc_gaps_of.nd rfl (.inl rfl)) (pgs_cons (pg_name (i := 3) sc_gaps_of.nd rfl (.inl rfl)) pgs_nil)))))
    (pss_one (ps_ret (pe_tup (pa_cons (pe_op op_sub (pv 2) (pv 1)) (pa_cons (pe_op op_sub (pv 3) (pv 2)) pa_nil))))))
theorem go_gaps_of {K : Fg} : ∀ ds r, P_gaps_of ds r → ds.length = 1 ∧ Go K true (t_gaps_of K) (startE 4 (ds.map .val)) { N := fun _ => r = .none, R := fun d _ => d = r } := by
  rintro _ _ ⟨o, x, y, z, h1, h2, rfl, rfl⟩
  refine ⟨rfl, ?_⟩
  unfold t_gaps_of
  refine q_tgt (e_sortSt (e_var rfl) h1 h2) tg_lst3 ?_
  exact s_ret (e_tup (a_cons (e_op (e_var rfl) (e_var rfl) r_I0) (a_cons (e_op (e_var rfl) (e_var rfl) r_I0) a_nil)) (le_ble rfl)) rfl
theorem ok_gaps_of {P : Program} {w : World} {K : Fg} {mg : Str → Option Value} {base : Heap} {f : Addr} {fd : FuncData} (T : Bl mg) (F : Fun K "gaps_of" "gaps_of" s_gaps_of f fd) (hm : mg "gaps_of" = some (.ref f)) : Fnc P w K mg base "gaps_of" 1 ["state"] (SpP K P_gaps_of) :=
  ok_pure (ps := ["state"]) F hm sc_gaps_of (fun _ _ _ _ _ _ us hl => match us, hl with | [_], _ => rfl) (fun cdv A outer s H E hr => p_gaps_of T cdv A outer s H E hr) go_gaps_of
abbrev s_middle_of : Stmt := topS 14
theorem sc_middle_of : FnScope ["state", "x", "y", "z"] ["state"] (defScope s_middle_of) :=
  ⟨rfl, rfl, rfl, by decide +kernel, rfl, by decide +kernel, by decide +kernel⟩
def t_middle_of (K : Fg) : TS := (tSeq (tAsg (tCB (rSortU3 K) (tCons (tVar 0) tNil)) (gLst K 3 (gCons (gName 1) (gCons (gName 2) (gCons (gName 3) gNil)))))
  (tRet (tOp (rI0 fun i j => .int (i - j)) (tOp (rI0 fun i j => .int (i + j)) (tVar 1) (tVar 3)) (tVar 2))))
theorem p_middle_of {P : Program} {w : World} {K : Fg} {mg : Str → Option Value} {base : Heap} {f : Addr} (T : Bl mg) (cdv : Value) (A : Around) (outer : List PySem.Env) (s : Shared) (H : Hp) (E : XK)
    (hr : Room 0 (A.deeper (PyProof.Rows.envOfC "middle_of" (defScope s_middle_of) s.heap.objs.size f cdv))) : PSs (cxN P w K mg base ["state", "x", "y", "z"] "middle_of" s_middle_of f cdv A outer s H E) (defBody s_middle_of) (t_middle_of K) :=
  (pss_cons (ps_asg (pe_callB cr_sortU3 (by rfl) T.sorted (by decide +kernel) (pa_cons (pv 0) pa_nil)) (pg_lst rfl (pgs_cons (pg_name (i := 1) sc_middle_of.nd rfl (.inl rfl)) (pgs_cons (pg_name (i := 2) sc_middle_of.nd rfl (.inl rfl)) (pgs_cons (pg_name (i := 3) sc_middle_of.nd rfl (.inl rfl)) pgs_nil)))))
    (pss_one (ps_ret (pe_op op_sub (pe_op op_add (pv 1) (pv 3)) (pv 2)))))
theorem go_middle_of {K : Fg} : ∀ ds r, P_middle_of ds r → ds.length = 1 ∧ Go K true (t_middle_of K) (startE 4 (ds.map .val)) { N := fun _ => r = .none, R := fun d _ => d = r } := by
  rintro _ _ ⟨o, x, y, z, h1, h2, rfl, rfl⟩
  refine ⟨rfl, ?_⟩
  unfold t_middle_of
  refine q_tgt (e_sortSt (e_var rfl) h1 h2) tg_lst3 ?_
  exact s_ret (e_op (e_op (e_var rfl) (e_var rfl) r_I0) (e_var rfl) r_I0) rfl
theorem ok_middle_of {P : Program} {w : World} {K : Fg} {mg : Str → Option Value} {base : Heap} {f : Addr} {fd : FuncData} (T : Bl mg) (F : Fun K "middle_of" "middle_of" s_middle_of f fd) (hm : mg "middle_of" = some (.ref f)) : Fnc P w K mg base "middle_of" 1 ["state"] (SpP K P_middle_of) :=
  ok_pure (ps := ["state"]) F hm sc_middle_of (fun _ _ _ _ _ _ us hl => match us, hl with | [_], _ => rfl) (fun cdv A outer s H E hr => p_middle_of T cdv A outer s H E hr) go_middle_of
abbrev s_grain_of : Stmt := topS 15
theorem sc_grain_of : FnScope ["state", "one", "other"] ["state"] (defScope s_grain_of) :=
  ⟨rfl, rfl, rfl, by decide +kernel, rfl, by decide +kernel, by decide +kernel⟩
def t_grain_of (K : Fg) : TS := (tSeq (tAsg (tCall (SpP K P_gaps_of) [] E0 (tCons (tVar 0) tNil)) (gTup K 2 (gCons (gName 1) (gCons (gName 2) gNil))))
  (tRet (tCall (SpP K P_common) [] E0 (tCons (tVar 1) (tCons (tVar 2) tNil)))))
theorem p_grain_of {P : Program} {w : World} {K : Fg} {mg : Str → Option Value} {base : Heap} {f : Addr} (T : Bl mg) (C_gaps_of : Fnc P w K mg base "gaps_of" 1 ["state"] (SpP K P_gaps_of)) (C_common : Fnc P w K mg base "common" 1 ["one", "other"] (SpP K P_common)) (cdv : Value) (A : Around) (outer : List PySem.Env) (s : Shared) (H : Hp) (E : XK)
    (hr : Room 1 (A.deeper (PyProof.Rows.envOfC "grain_of" (defScope s_grain_of) s.heap.objs.size f cdv))) : PSs (cxN P w K mg base ["state", "one", "other"] "grain_of" s_grain_of f cdv A outer s H E) (defBody s_grain_of) (t_grain_of K) :=
  (pss_cons (ps_asg (pe_fnc C_gaps_of (hr.mono (by decide)) (by rfl) (pa_cons (pv 0) pa_nil)) (pg_tup rfl (pgs_cons (pg_name (i := 1) sc_grain_of.nd rfl (.inl rfl)) (pgs_cons (pg_name (i := 2) sc_grain_of.nd rfl (.inl rfl)) pgs_nil))))
    (pss_one (ps_ret (pe_fnc C_common (hr.mono (by decide)) (by rfl) (pa_cons (pv 1) (pa_cons (pv 2) pa_nil))))))
theorem go_grain_of {K : Fg} : ∀ ds r, P_grain_of ds r → ds.length = 1 ∧ Go K true (t_grain_of K) (startE 3 (ds.map .val)) { N := fun _ => r = .none, R := fun d _ => d = r } := by
  rintro _ _ ⟨o, x, y, z, h1, h2, rfl, rfl⟩
  refine ⟨rfl, ?_⟩
  unfold t_grain_of
  refine q_tgt (e_call (a_cons (e_var rfl) a_nil) ⟨o, x, y, z, h1, h2, rfl, rfl⟩) tg_tup2 ?_
  refine s_ret (e_call (a_cons (e_var rfl) (a_cons (e_var rfl) a_nil)) ⟨(y - x).toNat, (z - y).toNat, ?_, rfl⟩) rfl
  rw [Int.toNat_of_nonneg (by omega), Int.toNat_of_nonneg (by omega)]
theorem ok_grain_of {P : Program} {w : World} {K : Fg} {mg : Str → Option Value} {base : Heap} {f : Addr} {fd : FuncData} (T : Bl mg) (C_gaps_of : Fnc P w K mg base "gaps_of" 1 ["state"] (SpP K P_gaps_of)) (C_common : Fnc P w K mg base "common" 1 ["one", "other"] (SpP K P_common)) (F : Fun K "grain_of" "grain_of" s_grain_of f fd) (hm : mg "grain_of" = some (.ref f)) : Fnc P w K mg base "grain_of" 2 ["state"] (SpP K P_grain_of) :=
  ok_pure (ps := ["state"]) F hm sc_grain_of (fun _ _ _ _ _ _ us hl => match us, hl with | [_], _ => rfl) (fun cdv A outer s H E hr => p_grain_of T C_gaps_of C_common cdv A outer s H E hr) go_grain_of
end LR
namespace LR
open PySem L2 PySem.W
open Evl (Ex)
section
variable {K : Fg} {es : List En} {p : Bool} {P : Po} {t u w : TS} {te ta tb : TE} {d : PyData}
theorem s_drop (h : EvE K te es d) (k : P.N es) : Go K p (tDrop te) es P := fun X F0 H0 D σ F H hp s k1 k2 k3 k4 k5 => h σ F H s.env _ fun v F' H' g r => k1 es σ F' H' k (s.mono g) g.f
theorem q_drop (h : EvE K te es d) (k : Go K p u es P) : Go K p (tSeq (tDrop te) u) es P := go1 (s_drop h rfl) k
end
theorem st_gap1 (m : Int) (k : Nat) (p : Pr) : m + (k : Int) * ((p.1 : Int) - p.2) - (m - (k : Int) * p.2) = ((k * p.1 : Nat) : Int) := by
  rw [Int.mul_sub, Int.natCast_mul]
  omega
theorem st_gap2 (m : Int) (k : Nat) (p : Pr) : m + (k : Int) * p.1 - (m + (k : Int) * ((p.1 : Int) - p.2)) = ((k * p.2 : Nat) : Int) := by
  rw [Int.mul_sub, Int.natCast_mul]
  omega
theorem st_lt {m g : Int} {p : Pr} (hg : 1 ≤ g) (h1 : 1 ≤ p.1) (h2 : 1 ≤ p.2) : m - g * p.2 < m + g * ((p.1 : Int) - p.2) ∧ m + g * ((p.1 : Int) - p.2) < m + g * p.1 := by
  have a : 0 < g * (p.1 : Int) := Int.mul_pos (by omega) (by omega)
  have b : 0 < g * (p.2 : Int) := Int.mul_pos (by omega) (by omega)
  rw [Int.mul_sub]
  omega
theorem gcd_grain {k : Nat} {p : Pr} (h : Nat.gcd p.1 p.2 = 1) : Nat.gcd (k * p.1) (k * p.2) = k := by rw [Nat.gcd_mul_left, h, Nat.mul_one]
theorem mul_le15 {g : Int} {n : Nat} (h1 : 1 ≤ g) (h2 : g ≤ 10) (h3 : n ≤ 30) : 0 ≤ g * (n : Int) ∧ g * (n : Int) ≤ 300 := by
  refine ⟨Int.mul_nonneg (by omega) (by omega), ?_⟩
  have := Int.mul_le_mul h2 (show (n : Int) ≤ 30 by omega) (by omega) (by omega)
  omega

abbrev s_pair_of : Stmt := topS 16
theorem sc_pair_of : FnScope ["state", "one", "other", "grain"] ["state"] (defScope s_pair_of) :=
  ⟨rfl, rfl, rfl, by decide +kernel, rfl, by decide +kernel, by decide +kernel⟩
def t_pair_of (K : Fg) : TS := (tSeq (tAsg (tCall (SpP K P_gaps_of) [] E0 (tCons (tVar 0) tNil)) (gTup K 2 (gCons (gName 1) (gCons (gName 2) gNil))))
  (tSeq (tAsg (tCall (SpP K P_common) [] E0 (tCons (tVar 1) (tCons (tVar 2) tNil))) (gName 3))
  (tRet (tTup (tCons (tOp (rI CDiv fun i j => .int (i / j)) (tVar 1) (tVar 3)) (tCons (tOp (rI CDiv fun i j => .int (i / j)) (tVar 2) (tVar 3)) tNil))))))
theorem p_pair_of {P : Program} {w : World} {K : Fg} {mg : Str → Option Value} {base : Heap} {f : Addr} (T : Bl mg) (C_gaps_of : Fnc P w K mg base "gaps_of" 1 ["state"] (SpP K P_gaps_of)) (C_common : Fnc P w K mg base "common" 1 ["one", "other"] (SpP K P_common)) (cdv : Value) (A : Around) (outer : List PySem.Env) (s : Shared) (H : Hp) (E : XK)
    (hr : Room 1 (A.deeper (PyProof.Rows.envOfC "pair_of" (defScope s_pair_of) s.heap.objs.size f cdv))) : PSs (cxN P w K mg base ["state", "one", "other", "grain"] "pair_of" s_pair_of f cdv A outer s H E) (defBody s_pair_of) (t_pair_of K) :=
  (pss_cons (ps_asg (pe_fnc C_gaps_of (hr.mono (by decide)) (by rfl) (pa_cons (pv 0) pa_nil)) (pg_tup rfl (pgs_cons (pg_name (i := 1) sc_pair_of.nd rfl (.inl rfl)) (pgs_cons (pg_name (i := 2) sc_pair_of.nd rfl (.inl rfl)) pgs_nil))))
    (pss_cons (ps_set (i := 3) sc_pair_of.nd rfl (.inl rfl) (pe_fnc C_common (hr.mono (by decide)) (by rfl) (pa_cons (pv 1) (pa_cons (pv 2) pa_nil))))
    (pss_one (ps_ret (pe_tup (pa_cons (pe_op op_fdiv (pv 1) (pv 3)) (pa_cons (pe_op op_fdiv (pv 2) (pv 3)) pa_nil)))))))
theorem go_pair_of {K : Fg} : ∀ ds r, P_pair_of ds r → ds.length = 1 ∧ Go K true (t_pair_of K) (startE 4 (ds.map .val)) { N := fun _ => r = .none, R := fun d _ => d = r } := by
  rintro _ _ ⟨m, g, o, q, hg, hg2, h1, h2, hc, rfl, rfl⟩
  refine ⟨rfl, ?_⟩
  unfold t_pair_of
  have ⟨l1, l2⟩ := st_lt (m := m) hg h1 h2
  obtain ⟨k, rfl⟩ := Int.eq_ofNat_of_zero_le (show 0 ≤ g by omega)
  refine q_tgt (d := .tuple [.int ((k * q.1 : Nat) : Int), .int ((k * q.2 : Nat) : Int)]) ((e_call (a_cons (e_var rfl) a_nil) ⟨_, _, _, _, l1, l2, rfl, rfl⟩).is ?_) tg_tup2 ?_
  · rw [st_gap1, st_gap2]
  refine q_val (d := .int (k : Int)) (e_call (a_cons (e_var rfl) (a_cons (e_var rfl) a_nil)) ⟨k * q.1, k * q.2, rfl, ?_⟩) ?_
  · rw [gcd_grain hc]
  refine s_ret (e_tup (a_cons (e_op (e_var rfl) (e_var rfl) (r_I ⟨by omega, by omega⟩)) (a_cons (e_op (e_var rfl) (e_var rfl) (r_I ⟨by omega, by omega⟩)) a_nil)) (le_ble rfl)) ?_
  have hk : 0 < k := by omega
  rw [← Int.natCast_ediv, ← Int.natCast_ediv, Nat.mul_div_cancel_left _ hk, Nat.mul_div_cancel_left _ hk]
  rfl
theorem ok_pair_of {P : Program} {w : World} {K : Fg} {mg : Str → Option Value} {base : Heap} {f : Addr} {fd : FuncData} (T : Bl mg) (C_gaps_of : Fnc P w K mg base "gaps_of" 1 ["state"] (SpP K P_gaps_of)) (C_common : Fnc P w K mg base "common" 1 ["one", "other"] (SpP K P_common)) (F : Fun K "pair_of" "pair_of" s_pair_of f fd) (hm : mg "pair_of" = some (.ref f)) : Fnc P w K mg base "pair_of" 2 ["state"] (SpP K P_pair_of) :=
  ok_pure (ps := ["state"]) F hm sc_pair_of (fun _ _ _ _ _ _ us hl => match us, hl with | [_], _ => rfl) (fun cdv A outer s H E hr => p_pair_of T C_gaps_of C_common cdv A outer s H E hr) go_pair_of
abbrev s_are_walls : Stmt := topS 20
theorem sc_are_walls : FnScope ["value", "place"] ["value"] (defScope s_are_walls) :=
  ⟨rfl, rfl, rfl, by decide +kernel, rfl, by decide +kernel, by decide +kernel⟩
def t_are_walls (K : Fg) : TS := (tSeq (tIfS (tOr (tNot (tB (tCB (rIsi K) (tCons (tVar 0) (tCons (tC (.ty "tuple")) tNil))))) (tTest (tOp rNe (tCB (Evl.rLenS K) (tCons (tVar 0) tNil)) (tC (.int 2))))) (tRet (tC (.bl false))) tNext)
  (tRet (tCB (rAll K) (tCons (tLc (iTup K (tVar 0)) (gName 1) tYes (tCall (SpP K P_is_in) [] E0 (tCons (tVar 1) (tCons (tOp (rI CMul fun i j => .int (i * j)) (tUn (rU fun i => .int (-i)) (tC (.int 4))) (tC (.int 1000000000000000000))) (tCons (tOp (rI CMul fun i j => .int (i * j)) (tC (.int 4)) (tC (.int 1000000000000000000))) tNil)))) [1]) tNil))))
theorem p_are_walls {P : Program} {w : World} {K : Fg} {mg : Str → Option Value} {base : Heap} {f : Addr} (T : Bl mg) (C_is_in : Fnc P w K mg base "is_in" 2 ["value", "least", "most"] (SpP K P_is_in)) (cdv : Value) (A : Around) (outer : List PySem.Env) (s : Shared) (H : Hp) (E : XK)
    (hr : Room 2 (A.deeper (PyProof.Rows.envOfC "are_walls" (defScope s_are_walls) s.heap.objs.size f cdv))) : PSs (cxN P w K mg base ["value", "place"] "are_walls" s_are_walls f cdv A outer s H E) (defBody s_are_walls) (t_are_walls K) :=
  (pss_cons (ps_if (PW.pt (pw_or (pt_not (pt_val (pe_callB call_isi (by rfl) T.isinstance (by decide +kernel) (pa_cons (pv 0) (pa_cons (pe_ty T.t_tuple (by rfl) (by decide +kernel)) pa_nil))))) (pw_or1 (pt_cmpR op_ne (pe_callB call_len_seq (by rfl) T.len (by decide +kernel) (pa_cons (pv 0) pa_nil)) pe_int (nomark _))))) (pss_one (ps_ret pe_bl)) pss_nil)
    (pss_one (ps_ret (pe_callB (cr_all rfl) (by rfl) T.all (by decide +kernel) (pa_cons (pe_lc (own := [("place", 1)]) rfl sc_are_walls.nd (pi_tup (pv 0)) (blkOk_by (own := [("place", 1)]) (N := ["value", "place"]) (sc := defScope s_are_walls) (by decide +kernel)) (fun _ _ _ _ _ => (pg_name (i := 1) sc_are_walls.nd rfl (.inl rfl))) (fun _ _ _ _ _ => pts_nil) (fun _ _ _ _ _ => (pe_fnc C_is_in (hr.mono (by decide)) (by rfl) (pa_cons (pv 1) (pa_cons (pe_op op_mul (pe_un un_neg pe_int) (pe_cst T.MOST_PLACE (by rfl))) (pa_cons (pe_op op_mul pe_int (pe_cst T.MOST_PLACE (by rfl))) pa_nil)))))) pa_nil)))))
theorem go_are_walls {K : Fg} : ∀ ds r, P_are_walls ds r → ds.length = 1 ∧ Go K true (t_are_walls K) (startE 2 (ds.map .val)) { N := fun _ => r = .none, R := fun d _ => d = r } := by
  rintro _ _ ⟨lo, hi, h1, h2, h3, h4, rfl, rfl⟩
  refine ⟨rfl, ?_⟩
  unfold t_are_walls
  refine q_skip ?_ ?_
  · refine (t_or (b := false) (c := false) (t_not (b := true) (t_B (e_isi (x := dW lo hi) (e_var rfl) (fun _ z => nomatch z) ki_tt))) fun _ => ?_)
    exact t_test (e_op (e_lenT (ds := [.int lo, .int hi]) (e_var rfl)) e_int r_neI)
  refine s_ret ((e_all (bs := [true, true]) ?_).is rfl) rfl
  have hc := n_lc1 (K := K) (xs := [lo, hi]) (enc := PyData.int) (fun _ => .bool true) (g := gName 1) (vs := [1]) (te := (tCall (SpP K P_is_in) [] E0 (tCons (tVar 1) (tCons (tOp (rI CMul fun i j => .int (i * j)) (tUn (rU fun i => .int (-i)) (tC (.int 4))) (tC (.int 1000000000000000000))) (tCons (tOp (rI CMul fun i j => .int (i * j)) (tC (.int 4)) (tC (.int 1000000000000000000))) tNil)))))
    (i_tup (es := startE 2 [.val (dW lo hi)]) (e_var (i := 0) rfl)) (le_ble rfl) fun v hv => ⟨[(1, .int v)], tg_name, by simp, ?_⟩
  · exact (hc.is rfl).w
  · refine e_call (a_cons (e_var rfl) (a_cons (e_op (e_un e_int r_neg) e_int (r_I (.inl ⟨by decide, by decide⟩))) (a_cons (e_op e_int e_int (r_I (.inl ⟨by decide, by decide⟩))) a_nil))) ⟨v, _, _, rfl, ?_⟩
    have hb : -10000 ≤ v ∧ v ≤ 10000 := by
      rcases List.mem_cons.mp hv with e | hv
      · omega
      · have e : v = hi := by simpa using hv
        omega
    have e1 : decide (-4 * (1000000000000000000 : Int) ≤ v) = true := decide_eq_true (by omega)
    have e2 : decide (v ≤ 4 * (1000000000000000000 : Int)) = true := decide_eq_true (by omega)
    rw [e1, e2]
    rfl
theorem ok_are_walls {P : Program} {w : World} {K : Fg} {mg : Str → Option Value} {base : Heap} {f : Addr} {fd : FuncData} (T : Bl mg) (C_is_in : Fnc P w K mg base "is_in" 2 ["value", "least", "most"] (SpP K P_is_in)) (F : Fun K "are_walls" "are_walls" s_are_walls f fd) (hm : mg "are_walls" = some (.ref f)) : Fnc P w K mg base "are_walls" 3 ["value"] (SpP K P_are_walls) :=
  ok_pure (ps := ["value"]) F hm sc_are_walls (fun _ _ _ _ _ _ us hl => match us, hl with | [_], _ => rfl) (fun cdv A outer s H E hr => p_are_walls T C_is_in cdv A outer s H E hr) go_are_walls
abbrev s_need_walls : Stmt := topS 21
theorem sc_need_walls : FnScope ["state", "value"] ["state", "value"] (defScope s_need_walls) :=
  ⟨rfl, rfl, rfl, by decide +kernel, rfl, by decide +kernel, by decide +kernel⟩
def t_need_walls (K : Fg) : TS := (tSeq (tDrop (tCall (SpP K P_need_state) [] E0 (tCons (tVar 0) tNil)))
  (tIfS (tOr (tNot (tB (tCall (SpP K P_are_walls) [] E0 (tCons (tVar 1) tNil)))) (tOr (tTest (tOp (rI0 fun i j => .bl (decide (j < i))) (tOp (rIxT K) (tVar 1) (tC (.int 0))) (tCB (rMinU K) (tCons (tVar 0) tNil)))) (tTest (tOp (rI0 fun i j => .bl (decide (i < j))) (tOp (rIxT K) (tVar 1) (tC (.int 1))) (tCB (rMaxU K) (tCons (tVar 0) tNil)))))) tNever tNext))
theorem p_need_walls {P : Program} {w : World} {K : Fg} {mg : Str → Option Value} {base : Heap} {f : Addr} (T : Bl mg) (C_need_state : Fnc P w K mg base "need_state" 4 ["value"] (SpP K P_need_state)) (C_are_walls : Fnc P w K mg base "are_walls" 3 ["value"] (SpP K P_are_walls)) (cdv : Value) (A : Around) (outer : List PySem.Env) (s : Shared) (H : Hp) (E : XK)
    (hr : Room 4 (A.deeper (PyProof.Rows.envOfC "need_walls" (defScope s_need_walls) s.heap.objs.size f cdv))) : PSs (cxN P w K mg base ["state", "value"] "need_walls" s_need_walls f cdv A outer s H E) (defBody s_need_walls) (t_need_walls K) :=
  (pss_cons (ps_expr (pe_fnc C_need_state (hr.mono (by decide)) (by rfl) (pa_cons (pv 0) pa_nil)))
    (pss_one (ps_if (PW.pt (pw_or (pt_not (pt_val (pe_fnc C_are_walls (hr.mono (by decide)) (by rfl) (pa_cons (pv 1) pa_nil)))) (pw_or (pt_cmpR op_gt (pe_ix ix_tup (pv 1) pe_int (fun _ _ => rfl)) (pe_callB (cr_minU rfl hr.units) (by rfl) T.min (by decide +kernel) (pa_cons (pv 0) pa_nil)) (nomark _)) (pw_or1 (pt_cmpR op_lt (pe_ix ix_tup (pv 1) pe_int (fun _ _ => rfl)) (pe_callB (cr_maxU rfl hr.units) (by rfl) T.max (by decide +kernel) (pa_cons (pv 0) pa_nil)) (nomark _)))))) (pss_one ps_never) pss_nil)))
theorem go_need_walls {K : Fg} : ∀ ds r, P_need_walls ds r → ds.length = 2 ∧ Go K true (t_need_walls K) (startE 2 (ds.map .val)) { N := fun _ => r = .none, R := fun d _ => d = r } := by
  rintro _ _ ⟨m, g, o, q, lo, hi, w, h, D, rfl, rfl⟩
  refine ⟨rfl, ?_⟩
  unfold t_need_walls
  have ⟨l1, l2⟩ := st_lt (m := m) D.g1 D.a1 D.b1
  have ⟨b1, b2⟩ := mul_le15 D.g1 D.g2 (show q.1 ≤ 30 by have := D.a2; omega)
  have ⟨b3, b4⟩ := mul_le15 D.g1 D.g2 (show q.2 ≤ 30 by have := D.b2; omega)
  have := D.m1
  have := D.m2
  have := D.lo1
  have := D.lo2
  have := D.hi1
  have := D.hi2
  have hbig : big = 1000000000000000000 := rfl
  refine q_drop (e_call (a_cons (e_var rfl) a_nil) ⟨_, _, _, _, l1, l2, by omega, by omega, rfl, rfl⟩) ?_
  refine s_if (b := false) ?_ (fun z => by cases z) fun _ => go_next rfl
  refine t_or (b := false) (c := false) (t_not (b := true) (t_B (e_call (a_cons (e_var rfl) a_nil) ⟨lo, hi, by omega, by omega, by omega, by omega, rfl, rfl⟩))) fun _ => ?_
  refine t_or (b := false) (c := false) (t_test ((e_op (e_op (e_var rfl) e_int (r_ixT (x := .int lo) rfl)) (e_minSt (e_var rfl) l1 l2) r_cmp).is ?_)) fun _ => ?_
  · rw [decide_eq_false (by omega)]
  · refine t_test ((e_op (e_op (e_var rfl) e_int (r_ixT (x := .int hi) rfl)) (e_maxSt (e_var rfl) l1 l2) r_cmp).is ?_)
    rw [decide_eq_false (by omega)]
theorem ok_need_walls {P : Program} {w : World} {K : Fg} {mg : Str → Option Value} {base : Heap} {f : Addr} {fd : FuncData} (T : Bl mg) (C_need_state : Fnc P w K mg base "need_state" 4 ["value"] (SpP K P_need_state)) (C_are_walls : Fnc P w K mg base "are_walls" 3 ["value"] (SpP K P_are_walls)) (F : Fun K "need_walls" "need_walls" s_need_walls f fd) (hm : mg "need_walls" = some (.ref f)) : Fnc P w K mg base "need_walls" 5 ["state", "value"] (SpP K P_need_walls) :=
  ok_pure (ps := ["state", "value"]) F hm sc_need_walls (fun _ _ _ _ _ _ us hl => match us, hl with | [_, _], _ => rfl) (fun cdv A outer s H E hr => p_need_walls T C_need_state C_are_walls cdv A outer s H E hr) go_need_walls
abbrev s_box_of : Stmt := topS 22
theorem sc_box_of : FnScope ["state", "walls", "middle", "grain"] ["state", "walls"] (defScope s_box_of) :=
  ⟨rfl, rfl, rfl, by decide +kernel, rfl, by decide +kernel, by decide +kernel⟩
def t_box_of (K : Fg) : TS := (tSeq (tPar 2 3 (tCons (tCall (SpP K P_middle_of) [] E0 (tCons (tVar 0) tNil)) (tCons (tCall (SpP K P_grain_of) [] E0 (tCons (tVar 0) tNil)) tNil)))
  (tRet (tTup (tCons (tOp (rI CDiv fun i j => .int (i / j)) (tOp (rI0 fun i j => .int (i - j)) (tOp (rIxT K) (tVar 1) (tC (.int 1))) (tVar 2)) (tVar 3)) (tCons (tOp (rI CDiv fun i j => .int (i / j)) (tOp (rI0 fun i j => .int (i - j)) (tVar 2) (tOp (rIxT K) (tVar 1) (tC (.int 0)))) (tVar 3)) tNil)))))
theorem p_box_of {P : Program} {w : World} {K : Fg} {mg : Str → Option Value} {base : Heap} {f : Addr} (T : Bl mg) (C_grain_of : Fnc P w K mg base "grain_of" 2 ["state"] (SpP K P_grain_of)) (C_middle_of : Fnc P w K mg base "middle_of" 1 ["state"] (SpP K P_middle_of)) (cdv : Value) (A : Around) (outer : List PySem.Env) (s : Shared) (H : Hp) (E : XK)
    (hr : Room 2 (A.deeper (PyProof.Rows.envOfC "box_of" (defScope s_box_of) s.heap.objs.size f cdv))) : PSs (cxN P w K mg base ["state", "walls", "middle", "grain"] "box_of" s_box_of f cdv A outer s H E) (defBody s_box_of) (t_box_of K) :=
  (pss_cons (ps_par (i := 2) (j := 3) rfl sc_box_of.nd rfl rfl (by decide) rfl rfl (pa_cons (pe_fnc C_middle_of (hr.mono (by decide)) (by rfl) (pa_cons (pv 0) pa_nil)) (pa_cons (pe_fnc C_grain_of (hr.mono (by decide)) (by rfl) (pa_cons (pv 0) pa_nil)) pa_nil)) (by rfl))
    (pss_one (ps_ret (pe_tup (pa_cons (pe_op op_fdiv (pe_op op_sub (pe_ix ix_tup (pv 1) pe_int (fun _ _ => rfl)) (pv 2)) (pv 3)) (pa_cons (pe_op op_fdiv (pe_op op_sub (pv 2) (pe_ix ix_tup (pv 1) pe_int (fun _ _ => rfl))) (pv 3)) pa_nil))))))
theorem go_box_of {K : Fg} : ∀ ds r, P_box_of ds r → ds.length = 2 ∧ Go K true (t_box_of K) (startE 4 (ds.map .val)) { N := fun _ => r = .none, R := fun d _ => d = r } := by
  rintro _ _ ⟨m, g, o, q, lo, hi, w, h, D, rfl, rfl⟩
  refine ⟨rfl, ?_⟩
  unfold t_box_of
  have ⟨l1, l2⟩ := st_lt (m := m) D.g1 D.a1 D.b1
  have hg := D.g1
  have hg2 := D.g2
  have e1 : m - g * q.2 + (m + g * q.1) - (m + g * ((q.1 : Int) - q.2)) = m := by
    rw [Int.mul_sub]
    omega
  have e2 : ((Nat.gcd (m + g * ((q.1 : Int) - q.2) - (m - g * q.2)).toNat (m + g * q.1 - (m + g * ((q.1 : Int) - q.2))).toNat : Nat) : Int) = g := by
    obtain ⟨k, rfl⟩ := Int.eq_ofNat_of_zero_le (show 0 ≤ g by omega)
    rw [st_gap1, st_gap2, Int.toNat_natCast, Int.toNat_natCast, gcd_grain D.co]
  refine q_par (i := 2) (j := 3) (e1 := .val (.int m)) (e2 := .val (.int g)) ((e_call (a_cons (e_var rfl) a_nil) ⟨_, _, _, _, l1, l2, rfl, rfl⟩).is (by rw [e1])).i ((e_call (a_cons (e_var rfl) a_nil) ⟨_, _, _, _, l1, l2, rfl, rfl⟩).is (by rw [e2])).i ?_
  refine s_ret (e_tup (a_cons (e_op (e_op (e_op (e_var rfl) e_int (r_ixT (x := .int hi) rfl)) (e_var rfl) r_I0) (e_var rfl) (r_I ⟨by omega, by omega⟩)) (a_cons (e_op (e_op (e_var rfl) (e_op (e_var rfl) e_int (r_ixT (x := .int lo) rfl)) r_I0) (e_var rfl) (r_I ⟨by omega, by omega⟩)) a_nil)) (le_ble rfl)) ?_
  rw [D.we, D.he]
theorem ok_box_of {P : Program} {w : World} {K : Fg} {mg : Str → Option Value} {base : Heap} {f : Addr} {fd : FuncData} (T : Bl mg) (C_grain_of : Fnc P w K mg base "grain_of" 2 ["state"] (SpP K P_grain_of)) (C_middle_of : Fnc P w K mg base "middle_of" 1 ["state"] (SpP K P_middle_of)) (F : Fun K "box_of" "box_of" s_box_of f fd) (hm : mg "box_of" = some (.ref f)) : Fnc P w K mg base "box_of" 3 ["state", "walls"] (SpP K P_box_of) :=
  ok_pure (ps := ["state", "walls"]) F hm sc_box_of (fun _ _ _ _ _ _ us hl => match us, hl with | [_, _], _ => rfl) (fun cdv A outer s H E hr => p_box_of T C_grain_of C_middle_of cdv A outer s H E hr) go_box_of
abbrev s_need_box : Stmt := topS 25
theorem sc_need_box : FnScope ["state", "walls", "most", "wide", "high"] ["state", "walls", "most"] (defScope s_need_box) :=
  ⟨rfl, rfl, rfl, by decide +kernel, rfl, by decide +kernel, by decide +kernel⟩
def t_need_box (K : Fg) : TS := (tSeq (tDrop (tCall (SpP K P_need_walls) [] E0 (tCons (tVar 0) (tCons (tVar 1) tNil))))
  (tSeq (tAsg (tCall (SpP K P_box_of) [] E0 (tCons (tVar 0) (tCons (tVar 1) tNil))) (gTup K 2 (gCons (gName 3) (gCons (gName 4) gNil))))
  (tSeq (tIfS (tTest (tOp (rI0 fun i j => .bl (decide (j < i))) (tCB (fun xs H Q => ∃ i j, xs = [.int i, .int j] ∧ Q (.int (if j < i then j else i)) H) (tCons (tVar 3) (tCons (tVar 4) tNil))) (tVar 2))) tNever tNext)
  (tRet (tTup (tCons (tVar 3) (tCons (tVar 4) tNil)))))))
theorem p_need_box {P : Program} {w : World} {K : Fg} {mg : Str → Option Value} {base : Heap} {f : Addr} (T : Bl mg) (C_need_walls : Fnc P w K mg base "need_walls" 5 ["state", "value"] (SpP K P_need_walls)) (C_box_of : Fnc P w K mg base "box_of" 3 ["state", "walls"] (SpP K P_box_of)) (cdv : Value) (A : Around) (outer : List PySem.Env) (s : Shared) (H : Hp) (E : XK)
    (hr : Room 5 (A.deeper (PyProof.Rows.envOfC "need_box" (defScope s_need_box) s.heap.objs.size f cdv))) : PSs (cxN P w K mg base ["state", "walls", "most", "wide", "high"] "need_box" s_need_box f cdv A outer s H E) (defBody s_need_box) (t_need_box K) :=
  (pss_cons (ps_expr (pe_fnc C_need_walls (hr.mono (by decide)) (by rfl) (pa_cons (pv 0) (pa_cons (pv 1) pa_nil))))
    (pss_cons (ps_asg (pe_fnc C_box_of (hr.mono (by decide)) (by rfl) (pa_cons (pv 0) (pa_cons (pv 1) pa_nil))) (pg_tup rfl (pgs_cons (pg_name (i := 3) sc_need_box.nd rfl (.inl rfl)) (pgs_cons (pg_name (i := 4) sc_need_box.nd rfl (.inl rfl)) pgs_nil))))
    (pss_cons (ps_if (pt_cmpR op_gt (pe_callB (call_min2 rfl) (by rfl) T.min (by decide +kernel) (pa_cons (pv 3) (pa_cons (pv 4) pa_nil))) (pv 2) (nomark _)) (pss_one ps_never) pss_nil)
    (pss_one (ps_ret (pe_tup (pa_cons (pv 3) (pa_cons (pv 4) pa_nil))))))))
theorem go_need_box {K : Fg} : ∀ ds r, P_need_box ds r → ds.length = 3 ∧ Go K true (t_need_box K) (startE 5 (ds.map .val)) { N := fun _ => r = .none, R := fun d _ => d = r } := by
  rintro _ _ ⟨m, g, o, q, lo, hi, w, h, n, D, hn, rfl, rfl⟩
  refine ⟨rfl, ?_⟩
  unfold t_need_box
  refine q_drop (e_call (a_cons (e_var rfl) (a_cons (e_var rfl) a_nil)) ⟨m, g, o, q, lo, hi, w, h, D, rfl, rfl⟩) ?_
  refine q_tgt (e_call (a_cons (e_var rfl) (a_cons (e_var rfl) a_nil)) ⟨m, g, o, q, lo, hi, w, h, D, rfl, rfl⟩) tg_tup2 ?_
  have := D.w2
  have := D.h2
  refine q_skip (t_test ((e_op (e_cb (a_cons (e_var rfl) (a_cons (e_var rfl) a_nil)) ra_min2) (e_var rfl) r_cmp).is ?_)) ?_
  · rw [decide_eq_false (by split <;> omega)]
  exact s_ret (e_tup (a_cons (e_var rfl) (a_cons (e_var rfl) a_nil)) (le_ble rfl)) rfl
theorem ok_need_box {P : Program} {w : World} {K : Fg} {mg : Str → Option Value} {base : Heap} {f : Addr} {fd : FuncData} (T : Bl mg) (C_need_walls : Fnc P w K mg base "need_walls" 5 ["state", "value"] (SpP K P_need_walls)) (C_box_of : Fnc P w K mg base "box_of" 3 ["state", "walls"] (SpP K P_box_of)) (F : Fun K "need_box" "need_box" s_need_box f fd) (hm : mg "need_box" = some (.ref f)) : Fnc P w K mg base "need_box" 6 ["state", "walls", "most"] (SpP K P_need_box) :=
  ok_pure (ps := ["state", "walls", "most"]) F hm sc_need_box (fun _ _ _ _ _ _ us hl => match us, hl with | [_, _, _], _ => rfl) (fun cdv A outer s H E hr => p_need_box T C_need_walls C_box_of cdv A outer s H E hr) go_need_box
abbrev s_parent_of : Stmt := topS 28
theorem sc_parent_of : FnScope ["pair", "one", "other"] ["pair"] (defScope s_parent_of) :=
  ⟨rfl, rfl, rfl, by decide +kernel, rfl, by decide +kernel, by decide +kernel⟩
def t_parent_of (K : Fg) : TS := (tSeq (tAsg (tVar 0) (gTup K 2 (gCons (gName 1) (gCons (gName 2) gNil))))
  (tSeq (tIfS (tTest (tOp rEq (tVar 1) (tVar 2))) (tRet (tC .non)) tNext)
  (tRet (tIf (tTest (tOp (rI0 fun i j => .bl (decide (j < i))) (tVar 1) (tVar 2))) (tTup (tCons (tOp (rI0 fun i j => .int (i - j)) (tVar 1) (tVar 2)) (tCons (tVar 2) tNil))) (tTup (tCons (tVar 1) (tCons (tOp (rI0 fun i j => .int (i - j)) (tVar 2) (tVar 1)) tNil)))))))
theorem p_parent_of {P : Program} {w : World} {K : Fg} {mg : Str → Option Value} {base : Heap} {f : Addr} (T : Bl mg) (cdv : Value) (A : Around) (outer : List PySem.Env) (s : Shared) (H : Hp) (E : XK)
    (hr : Room 0 (A.deeper (PyProof.Rows.envOfC "parent_of" (defScope s_parent_of) s.heap.objs.size f cdv))) : PSs (cxN P w K mg base ["pair", "one", "other"] "parent_of" s_parent_of f cdv A outer s H E) (defBody s_parent_of) (t_parent_of K) :=
  (pss_cons (ps_asg (pv 0) (pg_tup rfl (pgs_cons (pg_name (i := 1) sc_parent_of.nd rfl (.inl rfl)) (pgs_cons (pg_name (i := 2) sc_parent_of.nd rfl (.inl rfl)) pgs_nil))))
    (pss_cons (ps_if (pt_cmpR op_eq (pv 1) (pv 2) (nomark _)) (pss_one (ps_ret pe_non)) pss_nil)
    (pss_one (ps_ret (pe_ifExp (pt_cmpR op_gt (pv 1) (pv 2) (nomark _)) (pe_tup (pa_cons (pe_op op_sub (pv 1) (pv 2)) (pa_cons (pv 2) pa_nil))) (pe_tup (pa_cons (pv 1) (pa_cons (pe_op op_sub (pv 2) (pv 1)) pa_nil))))))))
theorem go_parent_of {K : Fg} : ∀ ds r, P_parent_of ds r → ds.length = 1 ∧ Go K true (t_parent_of K) (startE 3 (ds.map .val)) { N := fun _ => r = .none, R := fun d _ => d = r } := by
  rintro _ _ ⟨q, rfl, rfl⟩
  refine ⟨rfl, ?_⟩
  unfold t_parent_of
  refine q_tgt (bs := [(1, .int (q.1 : Int)), (2, .int (q.2 : Int))]) (e_var rfl) tg_tup2 ?_
  by_cases h : q.1 = q.2
  · rw [parent_eq h]
    refine q_if (b := true) (t_test ((e_op (e_var rfl) (e_var rfl) r_eqI).is ?_)) (fun _ => q_ret e_non rfl) fun z => by cases z
    rw [decide_eq_true (by omega)]
  · refine q_skip (t_test ((e_op (e_var rfl) (e_var rfl) r_eqI).is ?_)) ?_
    · rw [decide_eq_false (by omega)]
    by_cases l : q.1 < q.2
    · rw [parent_lt l]
      refine s_ret (e_if (b := false) (t_test ((e_op (e_var rfl) (e_var rfl) r_cmp).is ?_)) (fun z => by cases z) fun _ => ?_) rfl
      · rw [decide_eq_false (by omega)]
      · refine (e_tup (a_cons (e_var rfl) (a_cons (e_op (e_var rfl) (e_var rfl) r_I0) a_nil)) (le_ble rfl)).is ?_
        show PyData.tuple [.int (q.1 : Int), .int ((q.2 : Int) - q.1)] = .tuple [.int (q.1 : Int), .int ((q.2 - q.1 : Nat) : Int)]
        rw [Int.ofNat_sub (by omega)]
    · rw [parent_gt (by omega)]
      refine s_ret (e_if (b := true) (t_test ((e_op (e_var rfl) (e_var rfl) r_cmp).is ?_)) (fun _ => ?_) fun z => by cases z) rfl
      · rw [decide_eq_true (by omega)]
      · refine (e_tup (a_cons (e_op (e_var rfl) (e_var rfl) r_I0) (a_cons (e_var rfl) a_nil)) (le_ble rfl)).is ?_
        show PyData.tuple [.int ((q.1 : Int) - q.2), .int (q.2 : Int)] = .tuple [.int ((q.1 - q.2 : Nat) : Int), .int (q.2 : Int)]
        rw [Int.ofNat_sub (by omega)]
theorem ok_parent_of {P : Program} {w : World} {K : Fg} {mg : Str → Option Value} {base : Heap} {f : Addr} {fd : FuncData} (T : Bl mg) (F : Fun K "parent_of" "parent_of" s_parent_of f fd) (hm : mg "parent_of" = some (.ref f)) : Fnc P w K mg base "parent_of" 1 ["pair"] (SpP K P_parent_of) :=
  ok_pure (ps := ["pair"]) F hm sc_parent_of (fun _ _ _ _ _ _ us hl => match us, hl with | [_], _ => rfl) (fun cdv A outer s H E hr => p_parent_of T cdv A outer s H E hr) go_parent_of
abbrev s_max_low : Stmt := topS 30
theorem sc_max_low : FnScope ["one", "other"] ["one", "other"] (defScope s_max_low) :=
  ⟨rfl, rfl, rfl, by decide +kernel, rfl, by decide +kernel, by decide +kernel⟩
def t_max_low (K : Fg) : TS := (tRet (tIf (tTest (tOp (rLtD K) (tTup (tCons (tUn (rU fun i => .int (-i)) (tOp (rIxT K) (tVar 0) (tC (.int 0)))) (tCons (tOp (rIxT K) (tVar 0) (tC (.int 1))) tNil))) (tTup (tCons (tUn (rU fun i => .int (-i)) (tOp (rIxT K) (tVar 1) (tC (.int 0)))) (tCons (tOp (rIxT K) (tVar 1) (tC (.int 1))) tNil))))) (tVar 0) (tVar 1)))
theorem p_max_low {P : Program} {w : World} {K : Fg} {mg : Str → Option Value} {base : Heap} {f : Addr} (T : Bl mg) (cdv : Value) (A : Around) (outer : List PySem.Env) (s : Shared) (H : Hp) (E : XK)
    (hr : Room 0 (A.deeper (PyProof.Rows.envOfC "max_low" (defScope s_max_low) s.heap.objs.size f cdv))) : PSs (cxN P w K mg base ["one", "other"] "max_low" s_max_low f cdv A outer s H E) (defBody s_max_low) (t_max_low K) :=
  (pss_one (ps_ret (pe_ifExp (pt_cmpR (op_ltD hr.units) (pe_tup (pa_cons (pe_un un_neg (pe_ix ix_tup (pv 0) pe_int (fun _ _ => rfl))) (pa_cons (pe_ix ix_tup (pv 0) pe_int (fun _ _ => rfl)) pa_nil))) (pe_tup (pa_cons (pe_un un_neg (pe_ix ix_tup (pv 1) pe_int (fun _ _ => rfl))) (pa_cons (pe_ix ix_tup (pv 1) pe_int (fun _ _ => rfl)) pa_nil))) (nomark _)) (pv 0) (pv 1))))
theorem lt_pairs (s t : Int) (a b c d : Int) : dataLt (.tuple [.int s, .tuple [.int a, .int b]]) (.tuple [.int t, .tuple [.int c, .int d]]) = if s = t then decide (a < c ∨ (a = c ∧ b < d)) else decide (s < t) := by
  rw [dataLt_pair rfl rfl, dataLt_ii, dataLt_int]
  have e1 : PyData.eqv (.int s) (.int t) = (s == t) := by simp [PyData.eqv]
  have e2 : PyData.eqv (.tuple [.int a, .int b]) (.tuple [.int c, .int d]) = ((a == c) && (b == d)) := by simp [PyData.eqv, PyData.eqvAll]
  rw [e1, e2]
  by_cases h : s = t
  · rw [if_pos (by simpa using h), if_pos h]
    by_cases h2 : a = c ∧ b = d
    · rw [if_pos (by simpa using h2), decide_eq_false (by omega)]
    · rw [if_neg (by simpa using h2)]
  · rw [if_neg (by simpa using h), if_neg h]
theorem go_max_low {K : Fg} : ∀ ds r, P_max_low ds r → ds.length = 2 ∧ Go K true (t_max_low K) (startE 2 (ds.map .val)) { N := fun _ => r = .none, R := fun d _ => d = r } := by
  rintro _ _ ⟨x, y, rfl, rfl⟩
  refine ⟨rfl, ?_⟩
  unfold t_max_low
  have h0 : ∀ z : Nat × Pr, ∀ i, i = 0 ∨ i = 1 → startE 2 [.val (dHt x), .val (dHt y)] = startE 2 [.val (dHt x), .val (dHt y)] := fun _ _ _ => rfl
  have hx : EvE K (tTup (tCons (tUn (rU fun i => .int (-i)) (tOp (rIxT K) (tVar 0) (tC (.int 0)))) (tCons (tOp (rIxT K) (tVar 0) (tC (.int 1))) tNil))) (startE 2 [.val (dHt x), .val (dHt y)]) (.tuple [.int (-(x.1 : Int)), dN x.2]) :=
    e_tup (a_cons (e_un (e_op (e_var rfl) e_int (r_ixT (x := .int (x.1 : Int)) rfl)) r_neg) (a_cons (e_op (e_var rfl) e_int (r_ixT (x := dN x.2) rfl)) a_nil)) (le_ble rfl)
  have hy : EvE K (tTup (tCons (tUn (rU fun i => .int (-i)) (tOp (rIxT K) (tVar 1) (tC (.int 0)))) (tCons (tOp (rIxT K) (tVar 1) (tC (.int 1))) tNil))) (startE 2 [.val (dHt x), .val (dHt y)]) (.tuple [.int (-(y.1 : Int)), dN y.2]) :=
    e_tup (a_cons (e_un (e_op (e_var rfl) e_int (r_ixT (x := .int (y.1 : Int)) rfl)) r_neg) (a_cons (e_op (e_var rfl) e_int (r_ixT (x := dN y.2) rfl)) a_nil)) (le_ble rfl)
  refine s_ret (e_if (b := (if Nat.beq x.1 y.1 = true then lexP x.2 y.2 else Nat.blt y.1 x.1)) (t_test ((e_op hx hy (r_ltD (by simp [dN, PyData.canLay0, PyData.canLayAll0]) (by simp [dN, PyData.canLay0, PyData.canLayAll0]) (by simp [dN, alike, alikeAll]) (fun z => nomatch z) (by simp [dN, PyData.depth, PyData.depthAll]))).is ?_)) (fun h => ?_) fun h => ?_) rfl
  · show PyData.bool (dataLt (.tuple [.int (-(x.1 : Int)), .tuple [.int x.2.1, .int x.2.2]]) (.tuple [.int (-(y.1 : Int)), .tuple [.int y.2.1, .int y.2.2]])) = _
    rw [lt_pairs]
    congr 1
    by_cases h : x.1 = y.1
    · rw [if_pos (by omega), if_pos (Nat.beq_eq.mpr h)]
      unfold lexP
      by_cases h2 : x.2.1 = y.2.1
      · rw [if_pos (Nat.beq_eq.mpr h2), Bool.eq_iff_iff, decide_eq_true_eq, Nat.blt_eq]
        omega
      · rw [if_neg (fun z => h2 (Nat.beq_eq.mp z)), Bool.eq_iff_iff, decide_eq_true_eq, Nat.blt_eq]
        omega
    · rw [if_neg (by omega), if_neg (fun z => h (Nat.beq_eq.mp z)), Bool.eq_iff_iff, decide_eq_true_eq, Nat.blt_eq]
      omega
  · refine (e_var rfl).is ?_
    unfold maxLow
    rw [h]
    rfl
  · refine (e_var rfl).is ?_
    unfold maxLow
    rw [h]
    rfl
theorem ok_max_low {P : Program} {w : World} {K : Fg} {mg : Str → Option Value} {base : Heap} {f : Addr} {fd : FuncData} (T : Bl mg) (F : Fun K "max_low" "max_low" s_max_low f fd) (hm : mg "max_low" = some (.ref f)) : Fnc P w K mg base "max_low" 1 ["one", "other"] (SpP K P_max_low) :=
  ok_pure (ps := ["one", "other"]) F hm sc_max_low (fun _ _ _ _ _ _ us hl => match us, hl with | [_, _], _ => rfl) (fun cdv A outer s H E hr => p_max_low T cdv A outer s H E hr) go_max_low
end LR
namespace LR
open PySem L2 PySem.W
open Evl (Ex)
/-! the numbers of Moebius -/
theorem mobIn_len (k : Nat) : ∀ (n j : Nat) (l : List Int), (mobIn k n j l).length = l.length
  | 0, _, _ => rfl
  | n + 1, j, l => by
    show (mobIn k n (j + k) _).length = _
    rw [mobIn_len k n, List.length_set]
theorem mobIn_snoc (k : Nat) : ∀ (n j : Nat) (l : List Int), mobIn k (n + 1) j l = (mobIn k n j l).set (j + n * k) ((mobIn k n j l).getD (j + n * k) 0 - (mobIn k n j l).getD k 0)
  | 0, j, l => by
    show l.set j (l.getD j 0 - l.getD k 0) = l.set (j + 0 * k) (l.getD (j + 0 * k) 0 - l.getD k 0)
    rw [Nat.zero_mul, Nat.add_zero]
  | n + 1, j, l => by
    show mobIn k (n + 1) (j + k) (l.set j (l.getD j 0 - l.getD k 0)) = _
    rw [mobIn_snoc k n]
    have e : j + k + n * k = j + (n + 1) * k := by rw [Nat.succ_mul]; omega
    rw [e]
    rfl
theorem mobF_snoc (m : Nat) : ∀ (n k : Nat) (l : List Int), mobF m (n + 1) k l = (if (mobF m n k l).getD (k + n) 0 = 0 then mobF m n k l else mobIn (k + n) (m / (k + n) - 1) (2 * (k + n)) (mobF m n k l))
  | 0, k, l => rfl
  | n + 1, k, l => by
    show mobF m (n + 1) (k + 1) _ = _
    rw [mobF_snoc m n]
    have e : k + 1 + n = k + (n + 1) := by omega
    rw [e]
    rfl
theorem mobF_len (m : Nat) : ∀ (n k : Nat) (l : List Int), (mobF m n k l).length = l.length
  | 0, _, _ => rfl
  | n + 1, k, l => by
    rw [mobF_snoc]
    split
    · exact mobF_len m n k l
    · rw [mobIn_len]
      exact mobF_len m n k l
def rgcB (n k : Nat) : Bool := (if k = 0 ∨ n < k then true else (Builtin.Range.small (2 * k : Nat) (n + 1 : Nat) k && Builtin.Range.rangeSize (2 * k : Nat) (n + 1 : Nat) k == ((n / k - 1 : Nat) : Int)))
theorem rgc_all : ((List.range 16).all fun n => (List.range 16).all fun k => rgcB n k) = true := by decide +kernel
theorem rgc_of {n k : Nat} (hn : n ≤ 15) (h1 : 1 ≤ k) (h2 : k ≤ n) : RgC ((2 * k : Nat) : Int) ((n + 1 : Nat) : Int) (k : Int) (n / k - 1) := by
  have a := List.all_eq_true.mp rgc_all n (List.mem_range.mpr (by omega))
  have b := List.all_eq_true.mp a k (List.mem_range.mpr (by omega))
  unfold rgcB at b
  rw [if_neg (by omega), Bool.and_eq_true] at b
  exact ⟨by omega, by omega, b.1, by simpa using b.2⟩
theorem set_map {α β : Type} (f : α → β) (l : List α) (i : Nat) (x : α) : (l.map f).set i (f x) = (l.set i x).map f := by rw [List.map_set]
theorem getD_map {l : List Int} {i : Nat} (h : i < l.length) : (l.map PyData.int)[i]? = some (.int (l.getD i 0)) := by
  rw [List.getElem?_map, List.getElem?_eq_getElem h, List.getD_eq_getElem?_getD, List.getElem?_eq_getElem h]
  rfl
theorem atI_map {l : List Int} {i : Nat} (h : i < l.length) : atI (l.map PyData.int) (i : Int) = some (.int (l.getD i 0)) := atI_nat (getD_map h)
def mobB (n : Nat) : Bool := (mobM n).getD 0 1 == 0 && (mobM n).all fun x => decide (-100 < x ∧ x < 100)
theorem mob_all : ((List.range 15).all fun n => mobB (n + 1)) = true := by decide +kernel
theorem mob_of {n : Nat} (h1 : 1 ≤ n) (h2 : n ≤ 15) : (mobM n).getD 0 1 = 0 ∧ ∀ x ∈ mobM n, -100 < x ∧ x < 100 := by
  have a := List.all_eq_true.mp mob_all (n - 1) (List.mem_range.mpr (by omega))
  rw [Nat.sub_add_cancel h1] at a
  unfold mobB at a
  rw [Bool.and_eq_true] at a
  exact ⟨by simpa using a.1, fun x hx => of_decide_eq_true (List.all_eq_true.mp a.2 x hx)⟩
theorem mob_len {n : Nat} (h : 1 ≤ n) : (mobM n).length = n + 1 := by
  unfold mobM
  rw [mobF_len, List.length_append, List.length_replicate]
  show 2 + (n - 1) = n + 1
  omega
theorem zip_enc (l : List Int) : enumD (l.map .int) = (l.zipIdx).map fun q => PyData.tuple [.int (q.2 : Int), .int q.1] := by
  unfold enumD
  rw [List.zipIdx_map, List.map_map]
  rfl
/-! dicts by pairs -/
theorem kN_inj {p q : Pr} (h : kN p = kN q) : p = q := by
  unfold kN at h
  have h1 := (List.cons.inj h).1
  have h2 := (List.cons.inj (List.cons.inj h).2).1
  have e1 : (p.1 : Int) = q.1 := Sum.inl.inj h1
  have e2 : (p.2 : Int) = q.2 := Sum.inl.inj h2
  exact Prod.ext (by omega) (by omega)
theorem kN_dec (p q : Pr) : decide (kN p = kN q) = eqP p q := by
  rw [eqP_dec]
  by_cases h : p = q
  · rw [decide_eq_true h, decide_eq_true (by rw [h])]
  · rw [decide_eq_false h, decide_eq_false fun z => h (kN_inj z)]
section
variable {β : Type} (f : β → PyData)
theorem valD_enc (q : Pr) : ∀ L : List (Pr × β), valD (encA f L) (kN q) = (getA L q).map f
  | [] => rfl
  | (k, v) :: L => by
    unfold valD encA getA
    rw [List.map_cons, List.find?_cons]
    have e : decide (kN k = kN q) = eqP k q := kN_dec k q
    show (match decide (kN k = kN q) with | true => some (kN k, f v) | false => _).map _ = _
    rw [e]
    cases h : eqP k q with
    | true => rfl
    | false =>
      rw [if_neg Bool.false_ne_true]
      exact valD_enc q L
theorem any_enc (q : Pr) : ∀ L : List (Pr × β), ((encA f L).any fun kv => decide (kv.1 = kN q)) = hasA L q
  | [] => rfl
  | (k, v) :: L => by
    unfold encA hasA
    rw [List.map_cons, List.any_cons]
    show (decide (kN k = kN q) || _) = _
    rw [kN_dec, ← any_enc q L]
    rfl
theorem repl_enc (q : Pr) (x : β) : ∀ L : List (Pr × β), (encA f L).map (fun kv => if kv.1 = kN q then (kv.1, f x) else kv) = encA f (replA L q x)
  | [] => rfl
  | (k, v) :: L => by
    have ih := repl_enc q x L
    unfold encA at ih ⊢
    unfold replA
    rw [List.map_cons, List.map_cons, List.map_cons, ih]
    congr 1
    show (if kN k = kN q then (kN k, f x) else (kN k, f v)) = _
    by_cases h : k = q
    · rw [if_pos (by rw [h]), if_pos (eqP_iff.mpr h)]
    · rw [if_neg (fun z => h (kN_inj z)), if_neg (fun z => h (eqP_iff.mp z))]
theorem putD_enc (q : Pr) (x : β) (L : List (Pr × β)) : putD (encA f L) (kN q) (f x) = encA f (putA L q x) := by
  unfold putD putA
  rw [any_enc]
  split
  · exact repl_enc f q x L
  · unfold encA
    rw [List.map_append]
    rfl
theorem getA_has (q : Pr) : ∀ L : List (Pr × β), (getA L q).isSome = hasA L q
  | [] => rfl
  | (k, v) :: L => by
    unfold getA hasA
    cases h : eqP k q with
    | true => rfl
    | false =>
      rw [if_neg Bool.false_ne_true, Bool.false_or]
      exact getA_has q L
theorem replA_len (q : Pr) (x : β) : ∀ L : List (Pr × β), (replA L q x).length = L.length
  | [] => rfl
  | (k, v) :: L => congrArg (· + 1) (replA_len q x L)
theorem putA_len (q : Pr) (x : β) (L : List (Pr × β)) : (putA L q x).length ≤ L.length + 1 := by
  unfold putA
  split
  · rw [replA_len]
    exact Nat.le_succ _
  · rw [List.length_append]
    exact Nat.le_refl _
theorem getA_repl (q r : Pr) (x : β) : ∀ L : List (Pr × β), getA (replA L q x) r = if eqP q r = true then (if hasA L q = true then some x else none) else getA L r
  | [] => by
    show none = if eqP q r = true then (if hasA [] q = true then some x else none) else none
    split
    · rfl
    · rfl
  | (k, v) :: L => by
    have ih := getA_repl q r x L
    unfold replA
    by_cases hk : k = q
    · subst hk
      have e1 : eqP k k = true := eqP_iff.mpr rfl
      rw [if_pos e1]
      unfold getA hasA
      rw [e1, Bool.true_or]
      by_cases hr : eqP k r = true
      · rw [if_pos hr, if_pos hr, if_pos rfl]
      · rw [if_neg hr, if_neg hr, ih, if_neg hr, if_neg hr]
    · have e1 : ¬ eqP k q = true := fun z => hk (eqP_iff.mp z)
      rw [if_neg e1]
      have e2 : eqP k q = false := by cases h : eqP k q with
        | true => exact absurd h e1
        | false => rfl
      unfold getA hasA
      rw [e2, Bool.false_or, ih]
      by_cases hr : eqP q r = true
      · have hkr : ¬ eqP k r = true := fun z => hk ((eqP_iff.mp z).trans (eqP_iff.mp hr).symm)
        rw [if_pos hr, if_neg hkr, if_pos hr]
      · rw [if_neg hr, if_neg hr]
theorem getA_app (q r : Pr) (x : β) : ∀ L : List (Pr × β), hasA L q = false → getA (L ++ [(q, x)]) r = if eqP q r = true then some x else getA L r
  | [], _ => rfl
  | (k, v) :: L, h => by
    unfold hasA at h
    have ⟨h1, h2⟩ := Bool.or_eq_false_iff.mp h
    have ih := getA_app q r x L h2
    show (if eqP k r = true then some v else getA (L ++ [(q, x)]) r) = if eqP q r = true then some x else (if eqP k r = true then some v else getA L r)
    rw [ih]
    by_cases hk : eqP k r = true
    · have hq : ¬ eqP q r = true := fun z => by
        have e : k = q := (eqP_iff.mp hk).trans (eqP_iff.mp z).symm
        rw [eqP_iff.mpr e] at h1
        cases h1
      rw [if_pos hk, if_neg hq, if_pos hk]
    · rw [if_neg hk, if_neg hk]
theorem getA_put (q r : Pr) (x : β) (L : List (Pr × β)) : getA (putA L q x) r = if eqP q r = true then some x else getA L r := by
  unfold putA
  cases h : hasA L q with
  | true =>
    rw [if_pos rfl, getA_repl, h]
    rfl
  | false =>
    rw [if_neg Bool.false_ne_true]
    exact getA_app q r x L h
end

abbrev s_mobius : Stmt := topS 23
theorem sc_mobius : FnScope ["most", "found", "number", "more"] ["most"] (defScope s_mobius) :=
  ⟨rfl, rfl, rfl, by decide +kernel, rfl, by decide +kernel, by decide +kernel⟩
def t_mobius (K : Fg) : TS := (tSeq (tAsg (tOp rCat (tLst (tCons (tC (.int 0)) (tCons (tC (.int 1)) tNil))) (tOp rRep (tLst (tCons (tC (.int 0)) tNil)) (tOp (rI0 fun i j => .int (i - j)) (tVar 0) (tC (.int 1))))) (gName 1))
  (tSeq (tFor (iRng2 (tCons (tC (.int 1)) (tCons (tOp (rI0 fun i j => .int (i + j)) (tVar 0) (tC (.int 1))) tNil))) (gName 2) (tIfS (tTest (tOp rNe (tOp (rIxL K) (tVar 1) (tVar 2)) (tC (.int 0)))) (tFor (iRng3 (tCons (tOp (rI CMul fun i j => .int (i * j)) (tC (.int 2)) (tVar 2)) (tCons (tOp (rI0 fun i j => .int (i + j)) (tVar 0) (tC (.int 1))) (tCons (tVar 2) tNil)))) (gName 3) (tAugS (tVar 1) (tVar 3) (tOp (rIxL K) (tVar 1) (tVar 2)) (rGetL K) (ipI fun i j => i - j) rSetL)) tNext))
  (tRet (tVar 1))))
theorem p_mobius {P : Program} {w : World} {K : Fg} {mg : Str → Option Value} {base : Heap} {f : Addr} (T : Bl mg) (cdv : Value) (A : Around) (outer : List PySem.Env) (s : Shared) (H : Hp) (E : XK)
    (hr : Room 0 (A.deeper (PyProof.Rows.envOfC "mobius" (defScope s_mobius) s.heap.objs.size f cdv))) : PSs (cxN P w K mg base ["most", "found", "number", "more"] "mobius" s_mobius f cdv A outer s H E) (defBody s_mobius) (t_mobius K) :=
  (pss_cons (ps_set (i := 1) sc_mobius.nd rfl (.inl rfl) (pe_op op_cat (pe_lst (pa_cons pe_int (pa_cons pe_int pa_nil))) (pe_op op_rep (pe_lst (pa_cons pe_int pa_nil)) (pe_op op_sub (pv 0) pe_int))))
    (pss_cons (ps_for PassesOwn.never rfl (pi_range2 (by rfl) T.range (pa_cons pe_int (pa_cons (pe_op op_add (pv 0) pe_int) pa_nil))) (pg_name (i := 2) sc_mobius.nd rfl (.inl rfl)) (pss_one (ps_if (pt_cmpR op_ne (pe_ix ix_list (pv 1) (pv 2) (fun _ _ => rfl)) pe_int (nomark _)) (pss_one (ps_for PassesOwn.never rfl (pi_range3 (by rfl) T.range (pa_cons (pe_op op_mul pe_int (pv 2)) (pa_cons (pe_op op_add (pv 0) pe_int) (pa_cons (pv 2) pa_nil)))) (pg_name (i := 3) sc_mobius.nd rfl (.inl rfl)) (pss_one (ps_augS (pv 1) (pv 3) get_list (pe_ix ix_list (pv 1) (pv 2) (fun _ _ => rfl)) ip_sub set_list)))) pss_nil)))
    (pss_one (ps_ret (pv 1)))))
theorem go_mobius {K : Fg} : ∀ ds r, P_mobius ds r → ds.length = 1 ∧ Go K true (t_mobius K) (startE 4 (ds.map .val)) { N := fun _ => r = .none, R := fun d _ => d = r } := by
  rintro _ _ ⟨n, h1, h2, rfl, rfl⟩
  refine ⟨rfl, ?_⟩
  unfold t_mobius
  refine q_own (ds := ([0, 1] ++ List.replicate (n - 1) (0 : Int)).map .int) ((n_cat (n_lst (a_cons e_int (a_cons e_int a_nil)) (le_ble rfl)) (n_rep (k := (n : Int) - 1) (n_lst (a_cons e_int a_nil) (le_ble rfl)) (e_op (e_var rfl) e_int r_I0) (by omega) (by omega) ?_) ?_).is ?_) ?_
  · show 1 * ((n : Int) - 1).toNat ≤ 100000
    omega
  · have : ∀ k : Nat, (List.replicate k [PyData.int 0]).flatten.length = k := fun k => by
      induction k with
      | zero => rfl
      | succ k ih =>
        rw [List.replicate_succ, List.flatten_cons, List.length_append, ih]
        exact Nat.add_comm 1 k
    rw [this]
    show 2 + ((n : Int) - 1).toNat ≤ 100000
    omega
  · have : ∀ k : Nat, (List.replicate k [PyData.int 0]).flatten = (List.replicate k (0 : Int)).map .int := fun k => by
      induction k with
      | zero => rfl
      | succ k ih =>
        rw [List.replicate_succ, List.flatten_cons, ih, List.replicate_succ]
        rfl
    rw [this, show ((n : Int) - 1).toNat = n - 1 by omega]
    rw [List.map_append]
    rfl
  refine q_for (i_rng2 (m := 1) (n := (n : Int) + 1) e_int (e_op (e_var rfl) e_int r_I0) ⟨by omega, by omega, by omega, by omega⟩)
    (fun i e => ∃ e2 e3, e = [.val (.int n), .own ((mobF n i 1 ([0, 1] ++ List.replicate (n - 1) (0 : Int))).map .int), e2, e3]) ⟨_, _, rfl⟩ ?_ ?_
  · rintro i d _ hi ⟨e2, e3, rfl⟩
    have ⟨hlt, hd⟩ := rng_get hi
    have hin : i < n := by omega
    generalize hl : mobF n i 1 ([0, 1] ++ List.replicate (n - 1) (0 : Int)) = l
    have hlen : l.length = n + 1 := by
      rw [← hl, mobF_len, List.length_append, List.length_replicate]
      show 2 + (n - 1) = n + 1
      omega
    have hnext : mobF n (i + 1) 1 ([0, 1] ++ List.replicate (n - 1) (0 : Int)) = (if l.getD (1 + i) 0 = 0 then l else mobIn (1 + i) (n / (1 + i) - 1) (2 * (1 + i)) l) := by rw [mobF_snoc, hl]
    have hd2 : d = .int ((1 + i : Nat) : Int) := by
      rw [hd]
      congr 1
      omega
    subst hd2
    refine ⟨_, tg_name, ?_⟩
    rw [hnext]
    refine s_if (b := !decide (l.getD (1 + i) 0 = 0)) (t_test (e_op (e_ixL (w_var (i := 1) rfl) (e_var (i := 2) rfl) (atI_map (by omega))) e_int r_neI)) (fun hb => ?_) fun hb => ?_
    · have hne : ¬ l.getD (1 + i) 0 = 0 := by
        intro z
        rw [decide_eq_true z] at hb
        cases hb
      rw [if_neg hne]
      have hle : 1 + i ≤ n := by omega
      refine s_for (i_rng3 (n := n / (1 + i) - 1) (e_op e_int (e_var (i := 2) rfl) (r_I (.inl ⟨by decide, by decide⟩))) (e_op (e_var (i := 0) rfl) e_int r_I0) (e_var (i := 2) rfl) ?_)
        (fun j e => ∃ e3, e = [.val (.int n), .own ((mobIn (1 + i) j (2 * (1 + i)) l).map .int), .val (.int ((1 + i : Nat) : Int)), e3]) ⟨_, rfl⟩ ?_ ?_
      · have := rgc_of h2 (show 1 ≤ 1 + i by omega) hle
        simpa using this
      · rintro j d2 _ hj ⟨e4, rfl⟩
        have ⟨hjl, hd3⟩ := rng_get hj
        have hb2 : (j + 2) * (1 + i) ≤ n := by
          have a : j + 2 ≤ n / (1 + i) := by omega
          have b := Nat.mul_le_mul_right (1 + i) a
          have c := Nat.div_mul_le_self n (1 + i)
          omega
        have hx : 2 * (1 + i) + j * (1 + i) ≤ n := by rw [← Nat.add_mul, Nat.add_comm 2 j]; exact hb2
        have hd4 : d2 = .int ((2 * (1 + i) + j * (1 + i) : Nat) : Int) := by
          rw [hd3]
          congr 1
        subst hd4
        have hl2 : (mobIn (1 + i) j (2 * (1 + i)) l).length = n + 1 := by rw [mobIn_len]; exact hlen
        refine ⟨_, tg_name, ?_⟩
        refine s_augL (i := 1) (j := 2 * (1 + i) + j * (1 + i)) rfl (e_var (i := 3) rfl) (getD_map (by omega)) (e_ixL (w_var (i := 1) rfl) (e_var (i := 2) rfl) (atI_map (by omega))) ⟨.val (.int ((2 * (1 + i) + j * (1 + i) : Nat) : Int)), ?_⟩
        rw [set_map, mobIn_snoc]
        rfl
      · rintro _ ⟨e4, rfl⟩
        rw [rng_len]
        exact ⟨_, _, rfl⟩
    · have he : l.getD (1 + i) 0 = 0 := by
        cases h : decide (l.getD (1 + i) 0 = 0) with
        | true => exact of_decide_eq_true h
        | false => rw [h] at hb; cases hb
      rw [if_pos he]
      exact go_next ⟨_, _, rfl⟩
  · rintro _ ⟨e2, e3, rfl⟩
    rw [rng_len, show ((n : Int) + 1 - 1).toNat = n by omega]
    exact s_retOwn rfl rfl rfl
theorem ok_mobius {P : Program} {w : World} {K : Fg} {mg : Str → Option Value} {base : Heap} {f : Addr} {fd : FuncData} (T : Bl mg) (F : Fun K "mobius" "mobius" s_mobius f fd) (hm : mg "mobius" = some (.ref f)) : Fnc P w K mg base "mobius" 1 ["most"] (SpP K P_mobius) :=
  ok_pure (ps := ["most"]) F hm sc_mobius (fun _ _ _ _ _ _ us hl => match us, hl with | [_], _ => rfl) (fun cdv A outer s H E hr => p_mobius T cdv A outer s H E hr) go_mobius
abbrev s_chosen_pairs : Stmt := topS 24
theorem sc_chosen_pairs : FnScope ["wide", "high", "signs", "at", "sign"] ["wide", "high"] (defScope s_chosen_pairs) :=
  ⟨rfl, rfl, rfl, by decide +kernel, rfl, by decide +kernel, by decide +kernel⟩
def t_chosen_pairs (K : Fg) : TS := (tSeq (tAsg (tCall (SpP K P_mobius) [] E0 (tCons (tCB (fun xs H Q => ∃ i j, xs = [.int i, .int j] ∧ Q (.int (if j < i then j else i)) H) (tCons (tVar 0) (tCons (tVar 1) tNil))) tNil)) (gName 2))
  (tRet (tCB (rSum K) (tCons (tLc (iEnum K (tCons (tVar 2) tNil)) (gTup K 2 (gCons (gName 3) (gCons (gName 4) gNil))) (tTest (tOp rNe (tVar 4) (tC (.int 0)))) (tOp (rI CMul fun i j => .int (i * j)) (tOp (rI CMul fun i j => .int (i * j)) (tVar 4) (tOp (rI CDiv fun i j => .int (i / j)) (tVar 0) (tVar 3))) (tOp (rI CDiv fun i j => .int (i / j)) (tVar 1) (tVar 3))) [3, 4]) tNil))))
theorem p_chosen_pairs {P : Program} {w : World} {K : Fg} {mg : Str → Option Value} {base : Heap} {f : Addr} (T : Bl mg) (C_mobius : Fnc P w K mg base "mobius" 1 ["most"] (SpP K P_mobius)) (cdv : Value) (A : Around) (outer : List PySem.Env) (s : Shared) (H : Hp) (E : XK)
    (hr : Room 1 (A.deeper (PyProof.Rows.envOfC "chosen_pairs" (defScope s_chosen_pairs) s.heap.objs.size f cdv))) : PSs (cxN P w K mg base ["wide", "high", "signs", "at", "sign"] "chosen_pairs" s_chosen_pairs f cdv A outer s H E) (defBody s_chosen_pairs) (t_chosen_pairs K) :=
  (pss_cons (ps_set (i := 2) sc_chosen_pairs.nd rfl (.inl rfl) (pe_fnc C_mobius (hr.mono (by decide)) (by rfl) (pa_cons (pe_callB (call_min2 rfl) (by rfl) T.min (by decide +kernel) (pa_cons (pv 0) (pa_cons (pv 1) pa_nil))) pa_nil)))
    (pss_one (ps_ret (pe_callB (cr_sum rfl) (by rfl) T.sum (by decide +kernel) (pa_cons (pe_lc (own := [("at", 3), ("sign", 4)]) rfl sc_chosen_pairs.nd (pi_enum (by rfl) T.enumerate (pa_cons (pv 2) pa_nil)) (blkOk_by (own := [("at", 3), ("sign", 4)]) (N := ["wide", "high", "signs", "at", "sign"]) (sc := defScope s_chosen_pairs) (by decide +kernel)) (fun _ _ _ _ _ => (pg_tup rfl (pgs_cons (pg_name (i := 3) sc_chosen_pairs.nd rfl (.inl rfl)) (pgs_cons (pg_name (i := 4) sc_chosen_pairs.nd rfl (.inl rfl)) pgs_nil)))) (fun _ _ _ _ _ => (pts_one (pt_cmpR op_ne (pv 4) pe_int (nomark _)))) (fun _ _ _ _ _ => (pe_op op_mul (pe_op op_mul (pv 4) (pe_op op_fdiv (pv 0) (pv 3))) (pe_op op_fdiv (pv 1) (pv 3))))) pa_nil)))))
theorem go_chosen_pairs {K : Fg} : ∀ ds r, P_chosen_pairs ds r → ds.length = 2 ∧ Go K true (t_chosen_pairs K) (startE 5 (ds.map .val)) { N := fun _ => r = .none, R := fun d _ => d = r } := by
  rintro _ _ ⟨w, h, w1, w2, h1, h2, rfl, rfl⟩
  refine ⟨rfl, ?_⟩
  unfold t_chosen_pairs
  have k1 : 1 ≤ Nat.min w h := Nat.le_min.mpr ⟨w1, h1⟩
  have k2 : Nat.min w h ≤ 15 := Nat.le_trans (Nat.min_le_left w h) w2
  have ⟨m0, mb⟩ := mob_of k1 k2
  have em : (if (h : Int) < w then (h : Int) else w) = ((Nat.min w h : Nat) : Int) := by
    show _ = ((min w h : Nat) : Int)
    rw [Nat.min_def]
    split <;> split <;> omega
  refine q_val (d := .list ((mobM (Nat.min w h)).map .int)) (e_call (a_cons (x := .int ((Nat.min w h : Nat) : Int)) ((e_cb (a_cons (e_var rfl) (a_cons (e_var rfl) a_nil)) ra_min2).is (by rw [em])) a_nil) ⟨_, k1, k2, rfl, rfl⟩) ?_
  have ht : ∀ q ∈ (mobM (Nat.min w h)).zipIdx, ¬ q.1 = 0 → 0 < q.2 ∧ -100 < q.1 ∧ q.1 < 100 ∧ q.2 ≤ 15 := fun q hq hne => by
    have a := List.mem_zipIdx hq
    have hlen := mob_len k1
    refine ⟨?_, ?_, ?_, by omega⟩
    · rcases Nat.eq_zero_or_pos q.2 with e | e
      · have h3 := a.2.2
        simp only [e] at h3
        rw [List.getD_eq_getElem?_getD, List.getElem?_eq_getElem (by omega)] at m0
        exact absurd (h3.trans m0) hne
      · exact e
    · exact (mb q.1 (by rw [a.2.2]; exact List.getElem_mem _)).1
    · exact (mb q.1 (by rw [a.2.2]; exact List.getElem_mem _)).2
  refine s_ret ((e_sum (ns := ((mobM (Nat.min w h)).zipIdx.filter fun q => !decide (q.1 = 0)).map fun q => q.1 * ((w : Int) / (q.2 : Int)) * ((h : Int) / (q.2 : Int))) ?_).is rfl) rfl
  rw [List.map_map]
  refine (n_lc (xs := (mobM (Nat.min w h)).zipIdx) (enc := fun q => PyData.tuple [.int (q.2 : Int), .int q.1]) (fun q => !decide (q.1 = 0)) (fun q => .int (q.1 * ((w : Int) / (q.2 : Int)) * ((h : Int) / (q.2 : Int)))) ?_ ?_ fun q hq => ⟨_, tg_tup2, ?_, ?_, fun hf => ?_⟩).w
  · have := i_enum (K := K) (tl := tVar 2) (es := (startE 5 (List.map En.val [.int (w : Int), .int (h : Int)])).set 2 (.val (.list ((mobM (Nat.min w h)).map .int)))) (ds := (mobM (Nat.min w h)).map .int) (e_var rfl)
    rw [zip_enc] at this
    exact this
  · rw [List.length_zipIdx, mob_len k1]
    omega
  · intro j hj
    exact hj
  · exact t_test (e_op (e_var rfl) e_int r_neI)
  · have hne : ¬ q.1 = 0 := fun z => by
      rw [decide_eq_true z] at hf
      cases hf
    have ⟨p1, p2, p3, p4⟩ := ht q hq hne
    refine e_op (e_op (e_var rfl) (e_op (e_var rfl) (e_var rfl) (r_I ⟨by omega, by omega⟩)) (r_I (.inl ⟨by omega, by omega⟩))) (e_op (e_var rfl) (e_var rfl) (r_I ⟨by omega, by omega⟩)) (r_I (.inr ?_))
    have a : 0 ≤ (h : Int) / (q.2 : Int) := Int.ediv_nonneg (by omega) (by omega)
    have b : (h : Int) / (q.2 : Int) ≤ h := Int.ediv_le_self _ (by omega)
    omega
theorem ok_chosen_pairs {P : Program} {w : World} {K : Fg} {mg : Str → Option Value} {base : Heap} {f : Addr} {fd : FuncData} (T : Bl mg) (C_mobius : Fnc P w K mg base "mobius" 1 ["most"] (SpP K P_mobius)) (F : Fun K "chosen_pairs" "chosen_pairs" s_chosen_pairs f fd) (hm : mg "chosen_pairs" = some (.ref f)) : Fnc P w K mg base "chosen_pairs" 2 ["wide", "high"] (SpP K P_chosen_pairs) :=
  ok_pure (ps := ["wide", "high"]) F hm sc_chosen_pairs (fun _ _ _ _ _ _ us hl => match us, hl with | [_, _], _ => rfl) (fun cdv A outer s H E hr => p_chosen_pairs T C_mobius cdv A outer s H E hr) go_chosen_pairs
abbrev s_pairs_within : Stmt := topS 26
theorem sc_pairs_within : FnScope ["wide", "high", "found", "rim", "one", "other"] ["wide", "high"] (defScope s_pairs_within) :=
  ⟨rfl, rfl, rfl, by decide +kernel, rfl, by decide +kernel, by decide +kernel⟩
def t_pairs_within (K : Fg) : TS := (tSeq (tPar 2 3 (tCons (tLst tNil) (tCons (tLst (tCons (tTup (tCons (tC (.int 1)) (tCons (tC (.int 1)) tNil))) tNil)) tNil)))
  (tSeq (tWhile (tTest (tOp (rNeD K) (tVar 3) (tLst tNil))) (tSeq (tAsg (tBM0 K "list" rPop (tVar 3)) (gTup K 2 (gCons (gName 4) (gCons (gName 5) gNil))))
  (tSeq (tDrop (tBM K "list" rAppend (tVar 2) (tCons (tTup (tCons (tVar 4) (tCons (tVar 5) tNil))) tNil)))
  (tSeq (tIfS (tTest (tOp (rI0 fun i j => .bl (decide (i ≤ j))) (tOp (rI0 fun i j => .int (i + j)) (tVar 4) (tVar 5)) (tVar 1))) (tDrop (tBM K "list" rAppend (tVar 3) (tCons (tTup (tCons (tVar 4) (tCons (tOp (rI0 fun i j => .int (i + j)) (tVar 4) (tVar 5)) tNil))) tNil))) tNext)
  (tIfS (tTest (tOp (rI0 fun i j => .bl (decide (i ≤ j))) (tOp (rI0 fun i j => .int (i + j)) (tVar 4) (tVar 5)) (tVar 0))) (tDrop (tBM K "list" rAppend (tVar 3) (tCons (tTup (tCons (tOp (rI0 fun i j => .int (i + j)) (tVar 4) (tVar 5)) (tCons (tVar 5) tNil))) tNil))) tNext)))))
  (tRet (tVar 2))))
theorem p_pairs_within {P : Program} {w : World} {K : Fg} {mg : Str → Option Value} {base : Heap} {f : Addr} (T : Bl mg) (cdv : Value) (A : Around) (outer : List PySem.Env) (s : Shared) (H : Hp) (E : XK)
    (hr : Room 0 (A.deeper (PyProof.Rows.envOfC "pairs_within" (defScope s_pairs_within) s.heap.objs.size f cdv))) : PSs (cxN P w K mg base ["wide", "high", "found", "rim", "one", "other"] "pairs_within" s_pairs_within f cdv A outer s H E) (defBody s_pairs_within) (t_pairs_within K) :=
  (pss_cons (ps_par (i := 2) (j := 3) rfl sc_pairs_within.nd rfl rfl (by decide) rfl rfl (pa_cons (pe_lst pa_nil) (pa_cons (pe_lst (pa_cons (pe_tup (pa_cons pe_int (pa_cons pe_int pa_nil))) pa_nil)) pa_nil)) (by rfl))
    (pss_cons (ps_while PassesOwn.never (pt_cmpR (op_neD hr.units) (pv 3) (pe_lst pa_nil) (nomark _)) (pss_cons (ps_asg (pe_bm0 PySem.F.plainAttrs_list PySem.F.slot_list_pop PySem.F.type_list_pop mt_pop (pv 3)) (pg_tup rfl (pgs_cons (pg_name (i := 4) sc_pairs_within.nd rfl (.inl rfl)) (pgs_cons (pg_name (i := 5) sc_pairs_within.nd rfl (.inl rfl)) pgs_nil))))
    (pss_cons (ps_expr (pe_bm PySem.F.plainAttrs_list PySem.F.slot_list_append PySem.F.type_list_append mt_append (pv 2) (pa_cons (pe_tup (pa_cons (pv 4) (pa_cons (pv 5) pa_nil))) pa_nil)))
    (pss_cons (ps_if (pt_cmpR op_le (pe_op op_add (pv 4) (pv 5)) (pv 1) (nomark _)) (pss_one (ps_expr (pe_bm PySem.F.plainAttrs_list PySem.F.slot_list_append PySem.F.type_list_append mt_append (pv 3) (pa_cons (pe_tup (pa_cons (pv 4) (pa_cons (pe_op op_add (pv 4) (pv 5)) pa_nil))) pa_nil)))) pss_nil)
    (pss_one (ps_if (pt_cmpR op_le (pe_op op_add (pv 4) (pv 5)) (pv 0) (nomark _)) (pss_one (ps_expr (pe_bm PySem.F.plainAttrs_list PySem.F.slot_list_append PySem.F.type_list_append mt_append (pv 3) (pa_cons (pe_tup (pa_cons (pe_op op_add (pv 4) (pv 5)) (pa_cons (pv 5) pa_nil))) pa_nil)))) pss_nil))))))
    (pss_one (ps_ret (pv 2)))))
theorem dN_lay (p : Pr) : (dN p).canLay0 = true := by simp [dN, PyData.canLay0, PyData.canLayAll0]
theorem dN_depth (p : Pr) : (dN p).depth = 1 := by simp [dN, PyData.depth, PyData.depthAll]
theorem dNs_lay : ∀ l : List Pr, PyData.canLayAll0 (l.map dN) = true
  | [] => by simp [PyData.canLayAll0]
  | p :: l => by simp [PyData.canLayAll0, dN_lay p, dNs_lay l]
theorem dNs_depth : ∀ l : List Pr, PyData.depthAll (l.map dN) ≤ 1
  | [] => by simp [PyData.depthAll]
  | p :: l => by
    have := dNs_depth l
    have := dN_depth p
    simp only [List.map_cons, PyData.depthAll]
    omega
theorem dNs_shaped (l : List Pr) : SeqAt.shaped (.list (l.map dN)) = true := by
  have h1 := dNs_depth l
  have h2 : PyData.depth (.list (l.map dN)) ≤ 64 := by
    simp only [PyData.depth]
    omega
  show (PyData.canLay0 (.list (l.map dN)) && decide (PyData.depth (.list (l.map dN)) ≤ 64)) = true
  rw [Bool.and_eq_true]
  exact ⟨by simp only [PyData.canLay0]; exact dNs_lay l, decide_eq_true h2⟩
theorem go_pairs_within {K : Fg} : ∀ ds r, P_pairs_within ds r → ds.length = 2 ∧ Go K true (t_pairs_within K) (startE 6 (ds.map .val)) { N := fun _ => r = .none, R := fun d _ => d = r } := by
  rintro _ _ ⟨w, h, ps, hp, rfl, rfl⟩
  refine ⟨rfl, ?_⟩
  unfold t_pairs_within
  refine q_par (i := 2) (j := 3) (e1 := .own []) (e2 := .own [dN (1, 1)]) (n_lst a_nil (le_ble rfl)).i (n_lst (a_cons (e_tup (a_cons e_int (a_cons e_int a_nil)) (le_ble rfl)) a_nil) (le_ble rfl)).i ?_
  refine q_while (fun m e => ∃ found rim e4 e5, pwF m w h found rim = some ps ∧ found.length + m ≤ 400 ∧ rim.length ≤ found.length + 1 ∧ e = [.val (.int w), .val (.int h), .own (found.reverse.map dN), .own (rim.reverse.map dN), e4, e5]) 400 ⟨[], [(1, 1)], _, _, hp, by decide, by decide, rfl⟩ ?_
  rintro m _ ⟨found, rim, e4, e5, hf, hl, hz, rfl⟩
  refine ⟨!PyData.eqv (.list (rim.reverse.map dN)) (.list []), t_test (e_neW (w_var (i := 3) rfl) (n_lst a_nil (le_ble rfl)).w (dNs_shaped _) (by decide +kernel)), fun hb => ?_, fun hb => ?_⟩
  · cases rim with
    | nil =>
      exfalso
      revert hb
      simp [PyData.eqv, PyData.eqvAll]
    | cons q rim =>
      cases m with
      | zero => cases hf
      | succ m =>
        have hf2 : pwF m w h (q :: found) (if Nat.ble (q.1 + q.2) w = true then (q.1 + q.2, q.2) :: (if Nat.ble (q.1 + q.2) h = true then (q.1, q.1 + q.2) :: rim else rim) else (if Nat.ble (q.1 + q.2) h = true then (q.1, q.1 + q.2) :: rim else rim)) = some ps := hf
        have e1 : (q :: rim).reverse.map dN = rim.reverse.map dN ++ [dN q] := by rw [List.reverse_cons, List.map_append]; rfl
        rw [e1]
        refine q_pop (i := 3) (d := dN q) rfl tg_tup2 ?_
        refine q_app (i := 2) (d := dN q) rfl (e_tup (a_cons (e_var (i := 4) rfl) (a_cons (e_var (i := 5) rfl) a_nil)) (le_ble rfl)) (by rw [List.length_map, List.length_reverse]; omega) ?_
        have hT : ∀ (es : List En) (i : Nat) (n : Nat) (te : TE), EvE K te es (.int ((q.1 + q.2 : Nat) : Int)) → es[i]? = some (.val (.int n)) → EvT K (tTest (tOp (rI0 fun i j => .bl (decide (i ≤ j))) te (tVar i))) es (Nat.ble (q.1 + q.2) n) := fun es i n te h1 h2 => by
          refine t_test ((e_op h1 (e_var h2) r_cmp).is ?_)
          congr 1
          rw [Bool.eq_iff_iff, decide_eq_true_eq, Nat.ble_eq]
          omega
        have hr1l : (if Nat.ble (q.1 + q.2) h = true then (q.1, q.1 + q.2) :: rim else rim).length ≤ found.length + 1 := by
          rw [List.length_cons] at hz
          split
          · rw [List.length_cons]
            omega
          · omega
        generalize hr1 : (if Nat.ble (q.1 + q.2) h = true then (q.1, q.1 + q.2) :: rim else rim) = r1 at hf2 hr1l
        refine go_seq (fun e => e = [.val (.int w), .val (.int h), .own ((q :: found).reverse.map dN), .own (r1.reverse.map dN), .val (.int q.1), .val (.int q.2)]) ?_ ?_
        · refine s_if (hT _ 1 h _ ((e_op (e_var (i := 4) rfl) (e_var (i := 5) rfl) r_I0).is (by rw [Int.natCast_add])) rfl) (fun hb1 => ?_) fun hb1 => ?_
          · rw [hb1, if_pos rfl] at hr1
            subst hr1
            rw [List.length_cons] at hz
            refine s_app (i := 3) (d := dN (q.1, q.1 + q.2)) rfl ((e_tup (a_cons (e_var (i := 4) rfl) (a_cons (e_op (e_var (i := 4) rfl) (e_var (i := 5) rfl) r_I0) a_nil)) (le_ble rfl)).is ?_) ?_ ?_
            · show PyData.tuple [.int (q.1 : Int), .int ((q.1 : Int) + q.2)] = .tuple [.int (q.1 : Int), .int ((q.1 + q.2 : Nat) : Int)]
              rw [Int.natCast_add]
            · rw [List.length_map, List.length_reverse]
              omega
            · rw [List.reverse_cons, List.reverse_cons, List.map_append, List.map_append]
              rfl
          · rw [hb1, if_neg Bool.false_ne_true] at hr1
            subst hr1
            refine go_next ?_
            rw [List.reverse_cons, List.map_append]
            rfl
        · rintro _ rfl
          generalize hr2 : (if Nat.ble (q.1 + q.2) w = true then (q.1 + q.2, q.2) :: r1 else r1) = r2 at hf2
          refine s_if (hT _ 0 w _ ((e_op (e_var (i := 4) rfl) (e_var (i := 5) rfl) r_I0).is (by rw [Int.natCast_add])) rfl) (fun hb1 => ?_) fun hb1 => ?_
          · rw [hb1, if_pos rfl] at hr2
            subst hr2
            refine s_app (i := 3) (d := dN (q.1 + q.2, q.2)) rfl ((e_tup (a_cons (e_op (e_var (i := 4) rfl) (e_var (i := 5) rfl) r_I0) (a_cons (e_var (i := 5) rfl) a_nil)) (le_ble rfl)).is ?_) ?_ ⟨m, Nat.lt_succ_self m, _, _, .val (.int q.1), .val (.int q.2), hf2, ?_, ?_, ?_⟩
            · show PyData.tuple [.int ((q.1 : Int) + q.2), .int (q.2 : Int)] = .tuple [.int ((q.1 + q.2 : Nat) : Int), .int (q.2 : Int)]
              rw [Int.natCast_add]
            · rw [List.length_map, List.length_reverse]
              omega
            · rw [List.length_cons]
              omega
            · rw [List.length_cons, List.length_cons]
              omega
            · rw [List.reverse_cons (a := (q.1 + q.2, q.2)), List.map_append]
              rfl
          · rw [hb1, if_neg Bool.false_ne_true] at hr2
            subst hr2
            refine go_next ⟨m, Nat.lt_succ_self m, _, _, _, _, hf2, ?_, ?_, rfl⟩
            · rw [List.length_cons]
              omega
            · rw [List.length_cons]
              omega
  · cases rim with
    | cons q rim =>
      exfalso
      revert hb
      rw [List.reverse_cons, List.map_append]
      cases rim.reverse.map dN <;> simp [PyData.eqv, PyData.eqvAll]
    | nil =>
      cases m with
      | zero => cases hf
      | succ m =>
        have e : found.reverse = ps := Option.some.inj hf
        rw [e]
        exact s_retOwn rfl rfl rfl
theorem ok_pairs_within {P : Program} {w : World} {K : Fg} {mg : Str → Option Value} {base : Heap} {f : Addr} {fd : FuncData} (T : Bl mg) (F : Fun K "pairs_within" "pairs_within" s_pairs_within f fd) (hm : mg "pairs_within" = some (.ref f)) : Fnc P w K mg base "pairs_within" 1 ["wide", "high"] (SpP K P_pairs_within) :=
  ok_pure (ps := ["wide", "high"]) F hm sc_pairs_within (fun _ _ _ _ _ _ us hl => match us, hl with | [_, _], _ => rfl) (fun cdv A outer s H E hr => p_pairs_within T cdv A outer s H E hr) go_pairs_within
end LR
namespace LR
open PySem L2 PySem.W
open Evl (Ex)
abbrev s_need_field : Stmt := topS 27
theorem sc_need_field : FnScope ["state", "walls", "most", "wide", "high"] ["state", "walls", "most"] (defScope s_need_field) :=
  ⟨rfl, rfl, rfl, by decide +kernel, rfl, by decide +kernel, by decide +kernel⟩
def t_need_field (K : Fg) : TS := (tSeq (tAsg (tCall (SpP K P_need_box) [] E0 (tCons (tVar 0) (tCons (tVar 1) (tCons (tC (.int 100000)) tNil)))) (gTup K 2 (gCons (gName 3) (gCons (gName 4) gNil))))
  (tSeq (tIfS (tOr (tTest (tOp (rI0 fun i j => .bl (decide (j < i))) (tCB (fun xs H Q => ∃ i j, xs = [.int i, .int j] ∧ Q (.int (if j > i then j else i)) H) (tCons (tVar 3) (tCons (tVar 4) tNil))) (tVar 2))) (tTest (tOp (rI0 fun i j => .bl (decide (j < i))) (tCall (SpP K P_chosen_pairs) [] E0 (tCons (tVar 3) (tCons (tVar 4) tNil))) (tVar 2)))) tNever tNext)
  (tRet (tCall (SpP K P_pairs_within) [] E0 (tCons (tVar 3) (tCons (tVar 4) tNil))))))
theorem p_need_field {P : Program} {w : World} {K : Fg} {mg : Str → Option Value} {base : Heap} {f : Addr} (T : Bl mg) (C_need_box : Fnc P w K mg base "need_box" 6 ["state", "walls", "most"] (SpP K P_need_box)) (C_chosen_pairs : Fnc P w K mg base "chosen_pairs" 2 ["wide", "high"] (SpP K P_chosen_pairs)) (C_pairs_within : Fnc P w K mg base "pairs_within" 1 ["wide", "high"] (SpP K P_pairs_within)) (cdv : Value) (A : Around) (outer : List PySem.Env) (s : Shared) (H : Hp) (E : XK)
    (hr : Room 6 (A.deeper (PyProof.Rows.envOfC "need_field" (defScope s_need_field) s.heap.objs.size f cdv))) : PSs (cxN P w K mg base ["state", "walls", "most", "wide", "high"] "need_field" s_need_field f cdv A outer s H E) (defBody s_need_field) (t_need_field K) :=
  (pss_cons (ps_asg (pe_fnc C_need_box (hr.mono (by decide)) (by rfl) (pa_cons (pv 0) (pa_cons (pv 1) (pa_cons (pe_cst T.MOST_SIDE (by rfl)) pa_nil)))) (pg_tup rfl (pgs_cons (pg_name (i := 3) sc_need_field.nd rfl (.inl rfl)) (pgs_cons (pg_name (i := 4) sc_need_field.nd rfl (.inl rfl)) pgs_nil))))
    (pss_cons (ps_if (PW.pt (pw_or (pt_cmpR op_gt (pe_callB (call_max2 rfl) (by rfl) T.max (by decide +kernel) (pa_cons (pv 3) (pa_cons (pv 4) pa_nil))) (pv 2) (nomark _)) (pw_or1 (pt_cmpR op_gt (pe_fnc C_chosen_pairs (hr.mono (by decide)) (by rfl) (pa_cons (pv 3) (pa_cons (pv 4) pa_nil))) (pv 2) (nomark _))))) (pss_one ps_never) pss_nil)
    (pss_one (ps_ret (pe_fnc C_pairs_within (hr.mono (by decide)) (by rfl) (pa_cons (pv 3) (pa_cons (pv 4) pa_nil)))))))
theorem go_need_field {K : Fg} : ∀ ds r, P_need_field ds r → ds.length = 3 ∧ Go K true (t_need_field K) (startE 5 (ds.map .val)) { N := fun _ => r = .none, R := fun d _ => d = r } := by
  rintro _ _ ⟨m, g, o, q, lo, hi, w, h, ps, D, hp, hc, rfl, rfl⟩
  refine ⟨rfl, ?_⟩
  unfold t_need_field
  have := D.w2
  have := D.h2
  refine q_tgt (e_call (a_cons (e_var rfl) (a_cons (e_var rfl) (a_cons e_int a_nil))) ⟨m, g, o, q, lo, hi, w, h, 100000, D, by decide, rfl, rfl⟩) tg_tup2 ?_
  refine q_skip (t_or (b := false) (c := false) (t_test ((e_op (e_cb (a_cons (e_var rfl) (a_cons (e_var rfl) a_nil)) ra_max2) (e_var rfl) r_cmp).is ?_)) fun _ => t_test ((e_op (e_call (a_cons (e_var rfl) (a_cons (e_var rfl) a_nil)) ⟨w, h, D.w1, D.w2, D.h1, D.h2, rfl, rfl⟩) (e_var rfl) r_cmp).is ?_)) ?_
  · rw [decide_eq_false (by split <;> omega)]
  · rw [decide_eq_false (by omega)]
  exact s_ret (e_call (a_cons (e_var rfl) (a_cons (e_var rfl) a_nil)) ⟨w, h, ps, hp, rfl, rfl⟩) rfl
theorem ok_need_field {P : Program} {w : World} {K : Fg} {mg : Str → Option Value} {base : Heap} {f : Addr} {fd : FuncData} (T : Bl mg) (C_need_box : Fnc P w K mg base "need_box" 6 ["state", "walls", "most"] (SpP K P_need_box)) (C_chosen_pairs : Fnc P w K mg base "chosen_pairs" 2 ["wide", "high"] (SpP K P_chosen_pairs)) (C_pairs_within : Fnc P w K mg base "pairs_within" 1 ["wide", "high"] (SpP K P_pairs_within)) (F : Fun K "need_field" "need_field" s_need_field f fd) (hm : mg "need_field" = some (.ref f)) : Fnc P w K mg base "need_field" 7 ["state", "walls", "most"] (SpP K P_need_field) :=
  ok_pure (ps := ["state", "walls", "most"]) F hm sc_need_field (fun _ _ _ _ _ _ us hl => match us, hl with | [_, _, _], _ => rfl) (fun cdv A outer s H E hr => p_need_field T C_need_box C_chosen_pairs C_pairs_within cdv A outer s H E hr) go_need_field
abbrev s_heights_of : Stmt := topS 29
theorem sc_heights_of : FnScope ["pairs", "found", "pair", "parent", "size", "far"] ["pairs"] (defScope s_heights_of) :=
  ⟨rfl, rfl, rfl, by decide +kernel, rfl, by decide +kernel, by decide +kernel⟩
def t_heights_of (K : Fg) : TS := (tSeq (tAsg tDNewT (gName 1))
  (tSeq (tFor (iList K (tRevL K (tVar 0))) (gName 2) (tSeq (sDPut (tVar 1) (tVar 2) (tCall (SpP K P_max_low) [] E0 (tCons (tDGet2 (tVar 1) (tVar 2) (tTup (tCons (tC (.int 0)) (tCons (tVar 2) tNil)))) (tCons (tTup (tCons (tC (.int 0)) (tCons (tVar 2) tNil))) tNil))))
  (tSeq (tAsg (tCall (SpP K P_parent_of) [] E0 (tCons (tVar 2) tNil)) (gName 3))
  (tIfS (tB (tNotN (tVar 3))) (tSeq (tAsg (tDGet (tVar 1) (tVar 2)) (gTup K 2 (gCons (gName 4) (gCons (gName 5) gNil))))
  (sDPut (tVar 1) (tVar 3) (tCall (SpP K P_max_low) [] E0 (tCons (tDGet2 (tVar 1) (tVar 3) (tTup (tCons (tC (.int 0)) (tCons (tVar 3) tNil)))) (tCons (tTup (tCons (tOp (rI0 fun i j => .int (i + j)) (tVar 4) (tC (.int 1))) (tCons (tVar 5) tNil))) tNil))))) tNext))))
  (tRet (tVar 1))))
theorem p_heights_of {P : Program} {w : World} {K : Fg} {mg : Str → Option Value} {base : Heap} {f : Addr} (T : Bl mg) (C_max_low : Fnc P w K mg base "max_low" 1 ["one", "other"] (SpP K P_max_low)) (C_parent_of : Fnc P w K mg base "parent_of" 1 ["pair"] (SpP K P_parent_of)) (cdv : Value) (A : Around) (outer : List PySem.Env) (s : Shared) (H : Hp) (E : XK)
    (hr : Room 1 (A.deeper (PyProof.Rows.envOfC "heights_of" (defScope s_heights_of) s.heap.objs.size f cdv))) : PSs (cxN P w K mg base ["pairs", "found", "pair", "parent", "size", "far"] "heights_of" s_heights_of f cdv A outer s H E) (defBody s_heights_of) (t_heights_of K) :=
  (pss_cons (ps_set (i := 1) sc_heights_of.nd rfl (.inl rfl) pe_dnewT)
    (pss_cons (ps_for PassesOwn.never rfl (pi_list (pe_revL (pv 0))) (pg_name (i := 2) sc_heights_of.nd rfl (.inl rfl)) (pss_cons (ps_dput (hu_of hr) (pv 1) (pv 2) (pe_fnc C_max_low (hr.mono (by decide)) (by rfl) (pa_cons (pe_dget2 (hu_of hr) (pv 1) (pv 2) (pe_tup (pa_cons pe_int (pa_cons (pv 2) pa_nil))) ⟨by rfl, by rfl, by rfl, by rfl⟩) (pa_cons (pe_tup (pa_cons pe_int (pa_cons (pv 2) pa_nil))) pa_nil))) rfl)
    (pss_cons (ps_set (i := 3) sc_heights_of.nd rfl (.inl rfl) (pe_fnc C_parent_of (hr.mono (by decide)) (by rfl) (pa_cons (pv 2) pa_nil)))
    (pss_one (ps_if (pt_cmp (pc_notN (pv 3)) (by rfl)) (pss_cons (ps_asg (pe_dget (hu_of hr) (pv 1) (pv 2) (fun _ _ => rfl)) (pg_tup rfl (pgs_cons (pg_name (i := 4) sc_heights_of.nd rfl (.inl rfl)) (pgs_cons (pg_name (i := 5) sc_heights_of.nd rfl (.inl rfl)) pgs_nil))))
    (pss_one (ps_dput (hu_of hr) (pv 1) (pv 3) (pe_fnc C_max_low (hr.mono (by decide)) (by rfl) (pa_cons (pe_dget2 (hu_of hr) (pv 1) (pv 3) (pe_tup (pa_cons pe_int (pa_cons (pv 3) pa_nil))) ⟨by rfl, by rfl, by rfl, by rfl⟩) (pa_cons (pe_tup (pa_cons (pe_op op_add (pv 4) pe_int) (pa_cons (pv 5) pa_nil))) pa_nil))) rfl))) pss_nil)))))
    (pss_one (ps_ret (pv 1)))))
theorem dPar_non (o : Option Pr) (f : Pr → PyData) (hf : ∀ p, isNon (f p) = false) : isNon (dPar o f) = o.isNone := by
  cases o with
  | none => rfl
  | some q => exact hf q
theorem foldl_snoc {α β : Type} (f : α → β → α) (a : α) (l : List β) (i : Nat) (x : β) (h : l[i]? = some x) : (l.take (i + 1)).foldl f a = f ((l.take i).foldl f a) x := by
  rw [List.take_add_one, h, List.foldl_append]
  rfl
theorem rev_dN (ps : List Pr) : (ps.map dN).reverse = ps.reverse.map dN := List.map_reverse.symm
theorem ht_len (L : List (Pr × (Nat × Pr))) (p : Pr) : (htStep L p).length ≤ L.length + 2 := by
  unfold htStep
  split
  · have := putA_len p (maxLow ((getA L p).getD (0, p)) (0, p)) L
    omega
  · have a := putA_len p (maxLow ((getA L p).getD (0, p)) (0, p)) L
    rename_i q _
    have b := putA_len q (maxLow ((getA (putA L p (maxLow ((getA L p).getD (0, p)) (0, p))) q).getD (0, q)) ((maxLow ((getA L p).getD (0, p)) (0, p)).1 + 1, (maxLow ((getA L p).getD (0, p)) (0, p)).2)) (putA L p (maxLow ((getA L p).getD (0, p)) (0, p)))
    omega
theorem htf_len (l : List Pr) : ∀ L : List (Pr × (Nat × Pr)), (l.foldl htStep L).length ≤ L.length + 2 * l.length := by
  induction l with
  | nil =>
    intro L
    exact Nat.le_refl _
  | cons p l ih =>
    intro L
    rw [List.foldl_cons, List.length_cons]
    have a := ih (htStep L p)
    have b := ht_len L p
    omega
theorem getD_enc {β : Type} (f : β → PyData) (o : Option β) (x : β) : (o.map f).getD (f x) = f (o.getD x) := by cases o <;> rfl
theorem go_heights_of {K : Fg} : ∀ ds r, P_heights_of ds r → ds.length = 1 ∧ Go K true (t_heights_of K) (startE 6 (ds.map .val)) { N := fun _ => False, D := fun d _ => d = r } := by
  rintro _ _ ⟨ps, hz, rfl, rfl⟩
  refine ⟨rfl, ?_⟩
  unfold t_heights_of
  refine q_dic ?_
  refine q_for (i_list ((n_rev (e_var (i := 0) rfl).w).is (rev_dN ps)).e) (fun i e => ∃ e2 e3 e4 e5, e = [.val (.list (ps.map dN)), .dic (encA dHt ((ps.reverse.take i).foldl htStep [])), e2, e3, e4, e5]) ⟨_, _, _, _, rfl⟩ ?_ ?_
  · rintro i d _ hi ⟨e2, e3, e4, e5, rfl⟩
    rw [List.getElem?_map] at hi
    have ⟨q, hq, hd⟩ := Option.map_eq_some_iff.mp hi
    subst hd
    have hstep := foldl_snoc htStep [] ps.reverse i q hq
    have hlen := htf_len (ps.reverse.take i) []
    rw [List.length_take, List.length_reverse] at hlen
    generalize (ps.reverse.take i).foldl htStep [] = L at hstep hlen ⊢
    have hL : L.length ≤ 2000 := by
      have : ([] : List (Pr × (Nat × Pr))).length = 0 := rfl
      omega
    have hLe : (encA dHt L).length ≤ 2000 := by unfold encA; rw [List.length_map]; exact hL
    refine ⟨_, tg_name, ?_⟩
    rw [hstep]
    -- found[pair] = max_low(found.get(pair, (0, pair)), (0, pair))
    generalize hv : maxLow ((getA L q).getD (0, q)) (0, q) = v
    refine q_dput (i := 1) (kvs := encA dHt L) (k0 := kN q) (d := dHt v) rfl (e_call (a_cons ((e_dget2 (kvs := encA dHt L) (k0 := kN q) (d_var (i := 1) rfl) (e_var (i := 2) rfl) (e_tup (a_cons e_int (a_cons (e_var (i := 2) rfl) a_nil)) (le_ble rfl))).is (y := dHt ((getA L q).getD (0, q))) ?_) (a_cons (e_tup (a_cons e_int (a_cons (e_var (i := 2) rfl) a_nil)) (le_ble rfl)) a_nil)) ⟨_, (0, q), rfl, by rw [hv]⟩) (e_var (i := 2) rfl) (by omega) ?_
    · rw [valD_enc]
      exact getD_enc dHt _ (0, q)
    rw [putD_enc]
    refine q_val (i := 3) (d := dPar (parentP q) dN) (e_call (a_cons (e_var (i := 2) rfl) a_nil) ⟨q, rfl, rfl⟩) ?_
    refine s_if (b := !(parentP q).isNone) (t_B ((e_notN (e_var (i := 3) rfl)).is ?_)) (fun hb => ?_) fun hb => ?_
    · rw [dPar_non _ _ fun _ => rfl]
    · cases hp : parentP q with
      | none =>
        rw [hp] at hb
        cases hb
      | some s =>
        have hst : htStep L q = putA (putA L q v) s (maxLow ((getA (putA L q v) s).getD (0, s)) (v.1 + 1, v.2)) := by
          unfold htStep
          rw [hp, hv]
        rw [hst]
        have hg : getA (putA L q v) q = some v := by rw [getA_put, if_pos (eqP_iff.mpr rfl)]
        have hl1 := putA_len q v L
        generalize putA L q v = L1 at hg hl1 ⊢
        refine q_tgt (d := dHt v) (bs := [(4, .int (v.1 : Int)), (5, dN v.2)]) (e_dget (kvs := encA dHt L1) (k0 := kN q) (d_var (i := 1) rfl) (e_var (i := 2) rfl) (by rw [valD_enc, hg]; rfl)) tg_tup2 ?_
        refine s_dput (i := 1) (kvs := encA dHt L1) (k0 := kN s) (d := dHt (maxLow ((getA L1 s).getD (0, s)) (v.1 + 1, v.2))) rfl (e_call (a_cons ((e_dget2 (kvs := encA dHt L1) (k0 := kN s) (d_var (i := 1) rfl) (e_var (i := 3) rfl) (e_tup (a_cons e_int (a_cons (e_var (i := 3) rfl) a_nil)) (le_ble rfl))).is (y := dHt ((getA L1 s).getD (0, s))) ?_) (a_cons (e_tup (a_cons (e_op (e_var (i := 4) rfl) e_int r_I0) (a_cons (e_var (i := 5) rfl) a_nil)) (le_ble rfl)) a_nil)) ⟨_, (v.1 + 1, v.2), rfl, rfl⟩) (e_var (i := 3) rfl) (by unfold encA; rw [List.length_map]; omega) ?_
        · rw [valD_enc]
          exact getD_enc dHt _ (0, s)
        · rw [putD_enc]
          exact ⟨_, _, _, _, rfl⟩
    · cases hp : parentP q with
      | some s =>
        rw [hp] at hb
        cases hb
      | none =>
        have hst : htStep L q = putA L q v := by
          unfold htStep
          rw [hp, hv]
        rw [hst]
        exact go_next ⟨_, _, _, _, rfl⟩
  · rintro _ ⟨e2, e3, e4, e5, rfl⟩
    rw [List.length_map, List.take_length]
    exact s_retDic (i := 1) rfl rfl
theorem ok_heights_of {P : Program} {w : World} {K : Fg} {mg : Str → Option Value} {base : Heap} {f : Addr} {fd : FuncData} (T : Bl mg) (C_max_low : Fnc P w K mg base "max_low" 1 ["one", "other"] (SpP K P_max_low)) (C_parent_of : Fnc P w K mg base "parent_of" 1 ["pair"] (SpP K P_parent_of)) (F : Fun K "heights_of" "heights_of" s_heights_of f fd) (hm : mg "heights_of" = some (.ref f)) : Fnc P w K mg base "heights_of" 2 ["pairs"] (SpD K P_heights_of) :=
  ok_dict (ps := ["pairs"]) F hm sc_heights_of (fun _ _ _ _ _ _ us hl => match us, hl with | [_], _ => rfl) (fun cdv A outer s H E hr => p_heights_of T C_max_low C_parent_of cdv A outer s H E hr) go_heights_of
abbrev s_greatest_depth : Stmt := topS 31
theorem sc_greatest_depth : FnScope ["state", "walls", "pairs"] ["state", "walls"] (defScope s_greatest_depth) :=
  ⟨rfl, rfl, rfl, by decide +kernel, rfl, by decide +kernel, by decide +kernel⟩
def t_greatest_depth (K : Fg) : TS := (tSeq (tAsg (tCall (SpP K P_need_field) [] E0 (tCons (tVar 0) (tCons (tVar 1) (tCons (tC (.int 20000)) tNil)))) (gName 2))
  (tRet (tOp (rIxT K) (tDGet (tCall (SpD K P_heights_of) [] E0 (tCons (tVar 2) tNil)) (tTup (tCons (tC (.int 1)) (tCons (tC (.int 1)) tNil)))) (tC (.int 0)))))
theorem p_greatest_depth {P : Program} {w : World} {K : Fg} {mg : Str → Option Value} {base : Heap} {f : Addr} (T : Bl mg) (C_need_field : Fnc P w K mg base "need_field" 7 ["state", "walls", "most"] (SpP K P_need_field)) (C_heights_of : Fnc P w K mg base "heights_of" 2 ["pairs"] (SpD K P_heights_of)) (cdv : Value) (A : Around) (outer : List PySem.Env) (s : Shared) (H : Hp) (E : XK)
    (hr : Room 7 (A.deeper (PyProof.Rows.envOfC "greatest_depth" (defScope s_greatest_depth) s.heap.objs.size f cdv))) : PSs (cxN P w K mg base ["state", "walls", "pairs"] "greatest_depth" s_greatest_depth f cdv A outer s H E) (defBody s_greatest_depth) (t_greatest_depth K) :=
  (pss_cons (ps_set (i := 2) sc_greatest_depth.nd rfl (.inl rfl) (pe_fnc C_need_field (hr.mono (by decide)) (by rfl) (pa_cons (pv 0) (pa_cons (pv 1) (pa_cons (pe_cst T.MOST_FIELD (by rfl)) pa_nil)))))
    (pss_one (ps_ret (pe_ix ix_tup (pe_dget (hu_of hr) (pe_fnc C_heights_of (hr.mono (by decide)) (by rfl) (pa_cons (pv 2) pa_nil)) (pe_tup (pa_cons pe_int (pa_cons pe_int pa_nil))) (fun _ _ => rfl)) pe_int (fun _ _ => rfl)))))
theorem go_greatest_depth {K : Fg} : ∀ ds r, P_greatest_depth ds r → ds.length = 2 ∧ Go K true (t_greatest_depth K) (startE 3 (ds.map .val)) { N := fun _ => r = .none, R := fun d _ => d = r } := by
  rintro _ _ ⟨m, g, o, q, lo, hi, w, h, ps, x, D, hp, hc, hz, hx, rfl, rfl⟩
  refine ⟨rfl, ?_⟩
  unfold t_greatest_depth
  refine q_val (e_call (a_cons (e_var rfl) (a_cons (e_var rfl) (a_cons e_int a_nil))) ⟨m, g, o, q, lo, hi, w, h, ps, D, hp, hc, rfl, rfl⟩) ?_
  refine s_ret (e_op (x := dHt x) (e_dget (kvs := encA dHt (heightsM ps)) (k0 := kN (1, 1)) (d_call (a_cons (e_var rfl) a_nil) ⟨ps, hz, rfl, rfl⟩) (e_tup (a_cons e_int (a_cons e_int a_nil)) (le_ble rfl)) ?_) e_int (r_ixT (x := .int (x.1 : Int)) rfl)) rfl
  rw [valD_enc, hx]
  rfl
theorem ok_greatest_depth {P : Program} {w : World} {K : Fg} {mg : Str → Option Value} {base : Heap} {f : Addr} {fd : FuncData} (T : Bl mg) (C_need_field : Fnc P w K mg base "need_field" 7 ["state", "walls", "most"] (SpP K P_need_field)) (C_heights_of : Fnc P w K mg base "heights_of" 2 ["pairs"] (SpD K P_heights_of)) (F : Fun K "greatest_depth" "greatest_depth" s_greatest_depth f fd) (hm : mg "greatest_depth" = some (.ref f)) : Fnc P w K mg base "greatest_depth" 8 ["state", "walls"] (SpP K P_greatest_depth) :=
  ok_pure (ps := ["state", "walls"]) F hm sc_greatest_depth (fun _ _ _ _ _ _ us hl => match us, hl with | [_, _], _ => rfl) (fun cdv A outer s H E hr => p_greatest_depth T C_need_field C_heights_of cdv A outer s H E hr) go_greatest_depth
abbrev s_width_within : Stmt := topS 32
theorem sc_width_within : FnScope ["state", "walls", "pairs", "heights", "best", "pair", "first", "second", "parent", "told"] ["state", "walls"] (defScope s_width_within) :=
  ⟨rfl, rfl, rfl, by decide +kernel, rfl, by decide +kernel, by decide +kernel⟩
def t_width_within (K : Fg) : TS := (tSeq (tAsg (tCall (SpP K P_need_field) [] E0 (tCons (tVar 0) (tCons (tVar 1) (tCons (tC (.int 20000)) tNil)))) (gName 2))
  (tSeq (tPar 3 4 (tCons tDNewT (tCons (tC (.int 0)) tNil)))
  (tSeq (tFor (iList K (tRevL K (tVar 2))) (gName 5) (tSeq (tAsg (tDGet2 (tVar 3) (tVar 5) (tTup (tCons (tC (.int 0)) (tCons (tC (.int 0)) tNil)))) (gTup K 2 (gCons (gName 6) (gCons (gName 7) gNil))))
  (tSeq (tAsg (tCB (fun xs H Q => ∃ i j, xs = [.int i, .int j] ∧ Q (.int (if j > i then j else i)) H) (tCons (tVar 4) (tCons (tOp (rI0 fun i j => .int (i + j)) (tVar 6) (tVar 7)) tNil))) (gName 4))
  (tSeq (tAsg (tCall (SpP K P_parent_of) [] E0 (tCons (tVar 5) tNil)) (gName 8))
  (tIfS (tB (tNotN (tVar 8))) (tSeq (tAsg (tCB (rSorted K) (tCons (tLst (StX.tStar K (tDGet2 (tVar 3) (tVar 8) (tTup (tCons (tC (.int 0)) (tCons (tC (.int 0)) tNil)))) (tCons (tOp (rI0 fun i j => .int (i + j)) (tVar 6) (tC (.int 1))) tNil))) tNil)) (gName 9))
  (sDPut (tVar 3) (tVar 8) (tTup (tCons (tOp (rIxL K) (tVar 9) (tC (.int 2))) (tCons (tOp (rIxL K) (tVar 9) (tC (.int 1))) tNil))))) tNext)))))
  (tRet (tVar 4)))))
theorem p_width_within {P : Program} {w : World} {K : Fg} {mg : Str → Option Value} {base : Heap} {f : Addr} (T : Bl mg) (C_need_field : Fnc P w K mg base "need_field" 7 ["state", "walls", "most"] (SpP K P_need_field)) (C_parent_of : Fnc P w K mg base "parent_of" 1 ["pair"] (SpP K P_parent_of)) (cdv : Value) (A : Around) (outer : List PySem.Env) (s : Shared) (H : Hp) (E : XK)
    (hr : Room 7 (A.deeper (PyProof.Rows.envOfC "width_within" (defScope s_width_within) s.heap.objs.size f cdv))) : PSs (cxN P w K mg base ["state", "walls", "pairs", "heights", "best", "pair", "first", "second", "parent", "told"] "width_within" s_width_within f cdv A outer s H E) (defBody s_width_within) (t_width_within K) :=
  (pss_cons (ps_set (i := 2) sc_width_within.nd rfl (.inl rfl) (pe_fnc C_need_field (hr.mono (by decide)) (by rfl) (pa_cons (pv 0) (pa_cons (pv 1) (pa_cons (pe_cst T.MOST_FIELD (by rfl)) pa_nil)))))
    (pss_cons (ps_par (i := 3) (j := 4) rfl sc_width_within.nd rfl rfl (by decide) rfl rfl (pa_cons pe_dnewT (pa_cons pe_int pa_nil)) (by rfl))
    (pss_cons (ps_for PassesOwn.never rfl (pi_list (pe_revL (pv 2))) (pg_name (i := 5) sc_width_within.nd rfl (.inl rfl)) (pss_cons (ps_asg (pe_dget2 (hu_of hr) (pv 3) (pv 5) (pe_tup (pa_cons pe_int (pa_cons pe_int pa_nil))) ⟨by rfl, by rfl, by rfl, by rfl⟩) (pg_tup rfl (pgs_cons (pg_name (i := 6) sc_width_within.nd rfl (.inl rfl)) (pgs_cons (pg_name (i := 7) sc_width_within.nd rfl (.inl rfl)) pgs_nil))))
    (pss_cons (ps_set (i := 4) sc_width_within.nd rfl (.inl rfl) (pe_callB (call_max2 rfl) (by rfl) T.max (by decide +kernel) (pa_cons (pv 4) (pa_cons (pe_op op_add (pv 6) (pv 7)) pa_nil))))
    (pss_cons (ps_set (i := 8) sc_width_within.nd rfl (.inl rfl) (pe_fnc C_parent_of (hr.mono (by decide)) (by rfl) (pa_cons (pv 5) pa_nil)))
    (pss_one (ps_if (pt_cmp (pc_notN (pv 8)) (by rfl)) (pss_cons (ps_set (i := 9) sc_width_within.nd rfl (.inl rfl) (pe_callB cr_sorted (by rfl) T.sorted (by decide +kernel) (pa_cons (pe_lst (StX.pa_star (pe_dget2 (hu_of hr) (pv 3) (pv 8) (pe_tup (pa_cons pe_int (pa_cons pe_int pa_nil))) ⟨by rfl, by rfl, by rfl, by rfl⟩) (pa_cons (pe_op op_add (pv 6) pe_int) pa_nil))) pa_nil)))
    (pss_one (ps_dput (hu_of hr) (pv 3) (pv 8) (pe_tup (pa_cons (pe_ix ix_list (pv 9) pe_int (fun _ _ => rfl)) (pa_cons (pe_ix ix_list (pv 9) pe_int (fun _ _ => rfl)) pa_nil))) rfl))) pss_nil))))))
    (pss_one (ps_ret (pv 4))))))
theorem wd_len (s : List (Pr × (Nat × Nat)) × Nat) (p : Pr) : (wdStep s p).1.length ≤ s.1.length + 1 := by
  unfold wdStep
  cases parentP p with
  | none => exact Nat.le_succ _
  | some q => exact putA_len _ _ _
theorem wdf_len (l : List Pr) : ∀ s : List (Pr × (Nat × Nat)) × Nat, (l.foldl wdStep s).1.length ≤ s.1.length + l.length := by
  induction l with
  | nil =>
    intro L
    exact Nat.le_refl _
  | cons p l ih =>
    intro L
    rw [List.foldl_cons, List.length_cons]
    have a := ih (wdStep L p)
    have b := wd_len L p
    omega
theorem three_sorted (x y z : Nat) : [(min3 x y z : Int), (mid3 x y z : Int), (max3 x y z : Int)].Perm [(x : Int), (y : Int), (z : Int)] ∧ [(min3 x y z : Int), (mid3 x y z : Int), (max3 x y z : Int)].Pairwise (· ≤ ·) := by
  have e1 : min3 x y z = min (min x y) z := rfl
  have e2 : max3 x y z = max (max x y) z := rfl
  have e3 : mid3 x y z = x + y + z - max (max x y) z - min (min x y) z := rfl
  have key : ∀ a b c : Nat, a ≤ b → b ≤ c → min3 x y z = a → mid3 x y z = b → max3 x y z = c → ∀ l : List Int, [(a : Int), b, c].Perm l → [(min3 x y z : Int), (mid3 x y z : Int), (max3 x y z : Int)].Perm l ∧ [(min3 x y z : Int), (mid3 x y z : Int), (max3 x y z : Int)].Pairwise (· ≤ ·) := fun a b c h1 h2 k1 k2 k3 l hl => by
    rw [k1, k2, k3]
    refine ⟨hl, ?_⟩
    simp
    omega
  by_cases h1 : x ≤ y
  · by_cases h2 : y ≤ z
    · exact key x y z h1 h2 (by omega) (by omega) (by omega) _ (plc_perm .o012 _ _ _)
    · by_cases h3 : x ≤ z
      · exact key x z y h3 (by omega) (by omega) (by omega) (by omega) _ (plc_perm .o021 _ _ _)
      · exact key z x y (by omega) h1 (by omega) (by omega) (by omega) _ (plc_perm .o201 _ _ _)
  · by_cases h2 : x ≤ z
    · exact key y x z (by omega) h2 (by omega) (by omega) (by omega) _ (plc_perm .o102 _ _ _)
    · by_cases h3 : y ≤ z
      · exact key y z x h3 (by omega) (by omega) (by omega) (by omega) _ (plc_perm .o120 _ _ _)
      · exact key z y x (by omega) (by omega) (by omega) (by omega) (by omega) _ (plc_perm .o210 _ _ _)
theorem go_width_within {K : Fg} : ∀ ds r, P_width_within ds r → ds.length = 2 ∧ Go K true (t_width_within K) (startE 10 (ds.map .val)) { N := fun _ => r = .none, R := fun d _ => d = r } := by
  rintro _ _ ⟨m, g, o, q, lo, hi, w, h, ps, D, hp, hc, hz, rfl, rfl⟩
  refine ⟨rfl, ?_⟩
  unfold t_width_within
  refine q_val (e_call (a_cons (e_var rfl) (a_cons (e_var rfl) (a_cons e_int a_nil))) ⟨m, g, o, q, lo, hi, w, h, ps, D, hp, hc, rfl, rfl⟩) ?_
  refine q_par (i := 3) (j := 4) (e1 := .dic []) i_newT e_int.i ?_
  refine q_for (i_list ((n_rev (e_var (i := 2) rfl).w).is (rev_dN ps)).e) (fun i e => ∃ e5 e6 e7 e8 e9, e = [.val (stD m g o q), .val (dW lo hi), .val (.list (ps.map dN)), .dic (encA dII ((ps.reverse.take i).foldl wdStep ([], 0)).1), .val (.int (((ps.reverse.take i).foldl wdStep ([], 0)).2 : Nat)), e5, e6, e7, e8, e9]) ⟨_, _, _, _, _, rfl⟩ ?_ ?_
  · rintro i d _ hi2 ⟨e5, e6, e7, e8, e9, rfl⟩
    rw [List.getElem?_map] at hi2
    have ⟨p, hq, hd⟩ := Option.map_eq_some_iff.mp hi2
    subst hd
    have hstep := foldl_snoc wdStep ([], 0) ps.reverse i p hq
    have hlen := wdf_len (ps.reverse.take i) ([], 0)
    rw [List.length_take, List.length_reverse] at hlen
    rw [hstep]
    generalize (ps.reverse.take i).foldl wdStep ([], 0) = s at hlen ⊢
    obtain ⟨L, b⟩ := s
    have hL : L.length ≤ 1000 := by
      have : ([] : List (Pr × (Nat × Nat))).length = 0 := rfl
      simp only at hlen
      omega
    refine ⟨_, tg_name, ?_⟩
    generalize hv : (getA L p).getD (0, 0) = v
    refine q_tgt (d := dII v) (bs := [(6, .int (v.1 : Int)), (7, .int (v.2 : Int))]) ((e_dget2 (kvs := encA dII L) (k0 := kN p) (d_var (i := 3) rfl) (e_var (i := 5) rfl) (e_tup (a_cons e_int (a_cons e_int a_nil)) (le_ble rfl))).is ?_) tg_tup2 ?_
    · rw [valD_enc, ← hv]
      exact getD_enc dII _ (0, 0)
    refine q_val (i := 4) (d := .int ((Nat.max b (v.1 + v.2) : Nat) : Int)) ((e_cb (a_cons (e_var (i := 4) rfl) (a_cons (e_op (e_var (i := 6) rfl) (e_var (i := 7) rfl) r_I0) a_nil)) ra_max2).is ?_) ?_
    · congr 1
      show _ = ((max b (v.1 + v.2) : Nat) : Int)
      rw [Nat.max_def]
      split <;> split <;> omega
    refine q_val (i := 8) (d := dPar (parentP p) dN) (e_call (a_cons (e_var (i := 5) rfl) a_nil) ⟨p, rfl, rfl⟩) ?_
    have hw : wdStep (L, b) p = match parentP p with
        | none => (L, Nat.max b (v.1 + v.2))
        | some t => (putA L t (max3 ((getA L t).getD (0, 0)).1 ((getA L t).getD (0, 0)).2 (v.1 + 1), mid3 ((getA L t).getD (0, 0)).1 ((getA L t).getD (0, 0)).2 (v.1 + 1)), Nat.max b (v.1 + v.2)) := by
      unfold wdStep
      simp only [hv] <;> (cases parentP p <;> rfl)
    rw [hw]
    refine s_if (b := !(parentP p).isNone) (t_B ((e_notN (e_var (i := 8) rfl)).is ?_)) (fun hb => ?_) fun hb => ?_
    · rw [dPar_non _ _ fun _ => rfl]
    · cases hpp : parentP p with
      | none =>
        rw [hpp] at hb
        cases hb
      | some t =>
        generalize hu : (getA L t).getD (0, 0) = u
        have ⟨z1, z2⟩ := three_sorted u.1 u.2 (v.1 + 1)
        have hgu : (valD (encA dII L) (kN t)).getD (.tuple [.int (0 : Nat), .int (0 : Nat)]) = dII u := by
          rw [valD_enc, ← hu]
          exact getD_enc dII _ (0, 0)
        refine q_lst (i := 9) (ds := [(min3 u.1 u.2 (v.1 + 1) : Int), (mid3 u.1 u.2 (v.1 + 1) : Int), (max3 u.1 u.2 (v.1 + 1) : Int)].map .int) (n_sortL (ns := [(u.1 : Int), (u.2 : Int), ((v.1 + 1 : Nat) : Int)]) (EvN.w (n_lst (a_star (ds := [.int (u.1 : Int), .int (u.2 : Int)]) (EvE.is (e_dget2 (kvs := encA dII L) (k0 := kN t) (d_var (i := 3) rfl) (e_var (i := 8) rfl) (e_tup (a_cons e_int (a_cons e_int a_nil)) (le_ble rfl))) hgu) (a_cons (EvE.is (e_op (e_var (i := 6) rfl) e_int r_I0) rfl) a_nil)) (le_ble rfl))) (le_ble (a := 4) rfl) z1 z2) ?_
        refine s_dput (i := 3) (kvs := encA dII L) (k0 := kN t) (d := dII (max3 u.1 u.2 (v.1 + 1), mid3 u.1 u.2 (v.1 + 1))) rfl (e_tup (a_cons (e_ixL (e_var (i := 9) rfl).w e_int (x := .int (max3 u.1 u.2 (v.1 + 1) : Int)) rfl) (a_cons (e_ixL (e_var (i := 9) rfl).w e_int (x := .int (mid3 u.1 u.2 (v.1 + 1) : Int)) rfl) a_nil)) (le_ble rfl)) (e_var (i := 8) rfl) (by unfold encA; rw [List.length_map]; omega) ?_
        rw [putD_enc]
        subst hu
        exact ⟨_, _, _, _, _, rfl⟩
    · cases hpp : parentP p with
      | some t =>
        rw [hpp] at hb
        cases hb
      | none => exact go_next ⟨_, _, _, _, _, rfl⟩
  · rintro _ ⟨e5, e6, e7, e8, e9, rfl⟩
    rw [List.length_map, List.take_length]
    exact s_ret (e_var (i := 4) rfl) rfl
theorem ok_width_within {P : Program} {w : World} {K : Fg} {mg : Str → Option Value} {base : Heap} {f : Addr} {fd : FuncData} (T : Bl mg) (C_need_field : Fnc P w K mg base "need_field" 7 ["state", "walls", "most"] (SpP K P_need_field)) (C_parent_of : Fnc P w K mg base "parent_of" 1 ["pair"] (SpP K P_parent_of)) (F : Fun K "width_within" "width_within" s_width_within f fd) (hm : mg "width_within" = some (.ref f)) : Fnc P w K mg base "width_within" 8 ["state", "walls"] (SpP K P_width_within) :=
  ok_pure (ps := ["state", "walls"]) F hm sc_width_within (fun _ _ _ _ _ _ us hl => match us, hl with | [_, _], _ => rfl) (fun cdv A outer s H E hr => p_width_within T C_need_field C_parent_of cdv A outer s H E hr) go_width_within
abbrev s_distances_in : Stmt := topS 33
theorem sc_distances_in : FnScope ["pairs", "start", "found", "here", "size", "pair"] ["pairs", "start"] (defScope s_distances_in) :=
  ⟨rfl, rfl, rfl, by decide +kernel, rfl, by decide +kernel, by decide +kernel⟩
def t_distances_in (K : Fg) : TS := (tSeq (tPar3 2 3 4 (tCons tDNewT (tCons (tVar 1) (tCons (tC (.int 0)) tNil))))
  (tSeq (tWhile (tB (tNotN (tVar 3))) (tSeq (sDPut (tVar 2) (tVar 3) (tVar 4))
  (tPar 3 4 (tCons (tCall (SpP K P_parent_of) [] E0 (tCons (tVar 3) tNil)) (tCons (tOp (rI0 fun i j => .int (i + j)) (tVar 4) (tC (.int 1))) tNil)))))
  (tSeq (tFor (iList K (tVar 0)) (gName 5) (tIfS (tB (tDNotIn (tVar 5) (tVar 2))) (sDPut (tVar 2) (tVar 5) (tOp (rI0 fun i j => .int (i + j)) (tDGet (tVar 2) (tCall (SpP K P_parent_of) [] E0 (tCons (tVar 5) tNil))) (tC (.int 1)))) tNext))
  (tRet (tVar 2)))))
theorem p_distances_in {P : Program} {w : World} {K : Fg} {mg : Str → Option Value} {base : Heap} {f : Addr} (T : Bl mg) (C_parent_of : Fnc P w K mg base "parent_of" 1 ["pair"] (SpP K P_parent_of)) (cdv : Value) (A : Around) (outer : List PySem.Env) (s : Shared) (H : Hp) (E : XK)
    (hr : Room 1 (A.deeper (PyProof.Rows.envOfC "distances_in" (defScope s_distances_in) s.heap.objs.size f cdv))) : PSs (cxN P w K mg base ["pairs", "start", "found", "here", "size", "pair"] "distances_in" s_distances_in f cdv A outer s H E) (defBody s_distances_in) (t_distances_in K) :=
  (pss_cons (ps_par3 (i := 2) (j := 3) (l := 4) rfl sc_distances_in.nd rfl rfl rfl (by decide) (by decide) (by decide) rfl rfl rfl (pa_cons pe_dnewT (pa_cons (pv 1) (pa_cons pe_int pa_nil))) (by rfl))
    (pss_cons (ps_while PassesOwn.never (pt_cmp (pc_notN (pv 3)) (by rfl)) (pss_cons (ps_dput (hu_of hr) (pv 2) (pv 3) (pv 4) rfl)
    (pss_one (ps_par (i := 3) (j := 4) rfl sc_distances_in.nd rfl rfl (by decide) rfl rfl (pa_cons (pe_fnc C_parent_of (hr.mono (by decide)) (by rfl) (pa_cons (pv 3) pa_nil)) (pa_cons (pe_op op_add (pv 4) pe_int) pa_nil)) (by rfl)))))
    (pss_cons (ps_for PassesOwn.never rfl (pi_list (pv 0)) (pg_name (i := 5) sc_distances_in.nd rfl (.inl rfl)) (pss_one (ps_if (pt_cmp (pc_dnotin (hu_of hr) (pv 5) (pv 2)) (by rfl)) (pss_one (ps_dput (hu_of hr) (pv 2) (pv 5) (pe_op op_add (pe_dget (hu_of hr) (pv 2) (pe_fnc C_parent_of (hr.mono (by decide)) (by rfl) (pa_cons (pv 5) pa_nil)) (fun _ _ => rfl)) pe_int) rfl)) pss_nil)))
    (pss_one (ps_ret (pv 2))))))
theorem up_pos {p q : Pr} (h : parentP p = some q) (h1 : 1 ≤ p.1) (h2 : 1 ≤ p.2) : 1 ≤ q.1 ∧ 1 ≤ q.2 ∧ q.1 + q.2 < p.1 + p.2 := by
  rcases Nat.lt_trichotomy p.1 p.2 with l | l | l
  · rw [parent_lt l] at h
    have e := Option.some.inj h
    subst e
    simp only
    omega
  · rw [parent_eq l] at h
    cases h
  · rw [parent_gt l] at h
    have e := Option.some.inj h
    subst e
    simp only
    omega
theorem chF_len : ∀ (n : Nat) (p : Pr) (k : Nat) (L : List (Pr × Nat)), (chF n p k L).length ≤ L.length + n
  | 0, _, _, _ => Nat.le_refl _
  | n + 1, p, k, L => by
    unfold chF
    cases parentP p with
    | none =>
      have := putA_len p k L
      show (putA L p k).length ≤ _
      omega
    | some q =>
      have a := chF_len n q (k + 1) (putA L p k)
      have b := putA_len p k L
      show (chF n q (k + 1) (putA L p k)).length ≤ _
      omega
theorem go_distances_in {K : Fg} : ∀ ds r, P_distances_in ds r → ds.length = 2 ∧ Go K true (t_distances_in K) (startE 6 (ds.map .val)) { N := fun _ => False, D := fun d _ => d = r } := by
  rintro _ _ ⟨ps, s, L, hz, s1, s2, s3, hL, rfl, rfl⟩
  refine ⟨rfl, ?_⟩
  unfold t_distances_in
  refine q_par3 (e1 := .dic []) i_newT (e_var (i := 1) rfl).i e_int.i ?_
  have hcl := chF_len 100 s 0 []
  refine q_while (fun m e => ∃ (M : List (Pr × Nat)) (o : Option Pr) (k : Nat) (e5 : En), e = [.val (.list (ps.map dN)), .val (dN s), .dic (encA dI M), .val (dPar o dN), .val (.int k), e5] ∧ M.length + m ≤ 100 ∧
    (match o with | none => M = chF 100 s 0 [] | some p => 1 ≤ p.1 ∧ 1 ≤ p.2 ∧ p.1 + p.2 ≤ m ∧ chF m p k M = chF 100 s 0 [])) 100 ⟨[], some s, 0, _, rfl, by decide, s1, s2, by omega, rfl⟩ ?_
  rintro m _ ⟨M, o, k, e5, rfl, hM, ho⟩
  refine ⟨!o.isNone, t_B ((e_notN (e_var (i := 3) rfl)).is (by rw [dPar_non _ _ fun _ => rfl])), fun hb => ?_, fun hb => ?_⟩
  · cases o with
    | none => cases hb
    | some p =>
      have ⟨p1, p2, p3, p4⟩ := ho
      cases m with
      | zero => omega
      | succ m =>
        refine q_dput (i := 2) (kvs := encA dI M) (k0 := kN p) (d := dI k) rfl (e_var (i := 4) rfl) (e_var (i := 3) rfl) (by unfold encA; rw [List.length_map]; omega) ?_
        rw [putD_enc]
        refine s_par (i := 3) (j := 4) (e_call (a_cons (e_var (i := 3) rfl) a_nil) ⟨p, rfl, rfl⟩).i (e_op (e_var (i := 4) rfl) e_int r_I0).i ⟨m, Nat.lt_succ_self m, putA M p k, parentP p, k + 1, e5, rfl, ?_, ?_⟩
        · have := putA_len p k M
          omega
        · have hc : chF (m + 1) p k M = match parentP p with | none => putA M p k | some q => chF m q (k + 1) (putA M p k) := rfl
          rw [hc] at p4
          cases hp : parentP p with
          | none =>
            rw [hp] at p4
            exact p4
          | some q =>
            rw [hp] at p4
            have ⟨u1, u2, u3⟩ := up_pos hp p1 p2
            exact ⟨u1, u2, by omega, p4⟩
  · cases o with
    | some p => cases hb
    | none =>
      have hM2 : M = chF 100 s 0 [] := ho
      refine q_for (i_list (e_var (i := 0) rfl)) (fun i e => ∃ (M' : List (Pr × Nat)) (e5 : En), e = [.val (.list (ps.map dN)), .val (dN s), .dic (encA dI M'), .val .none, .val (.int k), e5] ∧ M'.length ≤ 100 + i ∧ dsF (ps.drop i) M' = some L) ⟨M, e5, rfl, by omega, by rw [hM2]; exact hL⟩ ?_ ?_
      · rintro i d _ hi ⟨M', e6, rfl, hl, hd⟩
        rw [List.getElem?_map] at hi
        have ⟨q, hq, hdq⟩ := Option.map_eq_some_iff.mp hi
        subst hdq
        have ⟨hil, hqe⟩ := List.getElem?_eq_some_iff.mp hq
        rw [List.drop_eq_getElem_cons hil, hqe] at hd
        have hc : dsF (q :: ps.drop (i + 1)) M' = if hasA M' q = true then dsF (ps.drop (i + 1)) M' else match parentP q with
          | none => none
          | some t => match getA M' t with
            | none => none
            | some n => dsF (ps.drop (i + 1)) (putA M' q (n + 1)) := rfl
        rw [hc] at hd
        refine ⟨_, tg_name, ?_⟩
        refine s_if (b := !hasA M' q) (t_B ((e_dnotin (k0 := kN q) (kvs := encA dI M') (e_var (i := 5) rfl) (d_var (i := 2) rfl)).is ?_)) (fun hb2 => ?_) fun hb2 => ?_
        · rw [valD_enc, Option.isSome_map, getA_has]
        · have hn : hasA M' q = false := by
            cases h : hasA M' q with
            | false => rfl
            | true => rw [h] at hb2; cases hb2
          rw [hn, if_neg Bool.false_ne_true] at hd
          cases hp : parentP q with
          | none =>
            rw [hp] at hd
            cases hd
          | some t =>
            rw [hp] at hd
            replace hd : (match getA M' t with
              | none => none
              | some n => dsF (ps.drop (i + 1)) (putA M' q (n + 1))) = some L := hd
            cases hg : getA M' t with
            | none =>
              rw [hg] at hd
              cases hd
            | some n =>
              rw [hg] at hd
              refine s_dput (i := 2) (kvs := encA dI M') (k0 := kN q) (d := dI (n + 1)) rfl (e_op (e_dget (kvs := encA dI M') (k0 := kN t) (d := dI n) (d_var (i := 2) rfl) ((e_call (a_cons (e_var (i := 5) rfl) a_nil) ⟨q, rfl, rfl⟩).is (by rw [hp]; rfl)) (by rw [valD_enc, hg]; rfl)) e_int r_I0) (e_var (i := 5) rfl) (by unfold encA; rw [List.length_map]; have := List.length_map (as := ps) dN; omega) ⟨putA M' q (n + 1), _, by rw [putD_enc]; rfl, ?_, hd⟩
              have := putA_len q (n + 1) M'
              omega
        · have hn : hasA M' q = true := by
            cases h : hasA M' q with
            | true => rfl
            | false => rw [h] at hb2; cases hb2
          rw [hn, if_pos rfl] at hd
          exact go_next ⟨M', _, rfl, by omega, hd⟩
      · rintro _ ⟨M', e6, rfl, hl, hd⟩
        rw [List.length_map, List.drop_length] at hd
        have e : M' = L := Option.some.inj hd
        rw [e]
        exact s_retDic (i := 2) rfl rfl
theorem ok_distances_in {P : Program} {w : World} {K : Fg} {mg : Str → Option Value} {base : Heap} {f : Addr} {fd : FuncData} (T : Bl mg) (C_parent_of : Fnc P w K mg base "parent_of" 1 ["pair"] (SpP K P_parent_of)) (F : Fun K "distances_in" "distances_in" s_distances_in f fd) (hm : mg "distances_in" = some (.ref f)) : Fnc P w K mg base "distances_in" 2 ["pairs", "start"] (SpD K P_distances_in) :=
  ok_dict (ps := ["pairs", "start"]) F hm sc_distances_in (fun _ _ _ _ _ _ us hl => match us, hl with | [_, _], _ => rfl) (fun cdv A outer s H E hr => p_distances_in T C_parent_of cdv A outer s H E hr) go_distances_in
abbrev s_farthest_within : Stmt := topS 34
theorem sc_farthest_within : FnScope ["state", "walls", "pairs"] ["state", "walls"] (defScope s_farthest_within) :=
  ⟨rfl, rfl, rfl, by decide +kernel, rfl, by decide +kernel, by decide +kernel⟩
def t_farthest_within (K : Fg) : TS := (tSeq (tAsg (tCall (SpP K P_need_field) [] E0 (tCons (tVar 0) (tCons (tVar 1) (tCons (tC (.int 20000)) tNil)))) (gName 2))
  (tRet (tMaxVals (tCall (SpD K P_distances_in) [] E0 (tCons (tVar 2) (tCons (tCall (SpP K P_pair_of) [] E0 (tCons (tVar 0) tNil)) tNil))))))
theorem p_farthest_within {P : Program} {w : World} {K : Fg} {mg : Str → Option Value} {base : Heap} {f : Addr} (T : Bl mg) (C_need_field : Fnc P w K mg base "need_field" 7 ["state", "walls", "most"] (SpP K P_need_field)) (C_pair_of : Fnc P w K mg base "pair_of" 2 ["state"] (SpP K P_pair_of)) (C_distances_in : Fnc P w K mg base "distances_in" 2 ["pairs", "start"] (SpD K P_distances_in)) (cdv : Value) (A : Around) (outer : List PySem.Env) (s : Shared) (H : Hp) (E : XK)
    (hr : Room 7 (A.deeper (PyProof.Rows.envOfC "farthest_within" (defScope s_farthest_within) s.heap.objs.size f cdv))) : PSs (cxN P w K mg base ["state", "walls", "pairs"] "farthest_within" s_farthest_within f cdv A outer s H E) (defBody s_farthest_within) (t_farthest_within K) :=
  (pss_cons (ps_set (i := 2) sc_farthest_within.nd rfl (.inl rfl) (pe_fnc C_need_field (hr.mono (by decide)) (by rfl) (pa_cons (pv 0) (pa_cons (pv 1) (pa_cons (pe_cst T.MOST_FIELD (by rfl)) pa_nil)))))
    (pss_one (ps_ret (pe_maxVals rfl (by rfl) T.max (pe_fnc C_distances_in (hr.mono (by decide)) (by rfl) (pa_cons (pv 2) (pa_cons (pe_fnc C_pair_of (hr.mono (by decide)) (by rfl) (pa_cons (pv 0) pa_nil)) pa_nil)))))))
theorem enc_vals (L : List (Pr × Nat)) : (encA dI L).map (·.2) = ((L.map (·.2)).map fun n : Nat => (n : Int)).map PyData.int := by
  unfold encA
  rw [List.map_map, List.map_map, List.map_map]
  rfl
theorem go_farthest_within {K : Fg} : ∀ ds r, P_farthest_within ds r → ds.length = 2 ∧ Go K true (t_farthest_within K) (startE 3 (ds.map .val)) { N := fun _ => r = .none, R := fun d _ => d = r } := by
  rintro _ _ ⟨m, g, o, q, lo, hi, w, h, ps, L, n, D, hp, hc, hz, hL, hn, hle, rfl, rfl⟩
  refine ⟨rfl, ?_⟩
  unfold t_farthest_within
  have := D.a2
  have := D.b2
  have := D.g2
  refine q_val (e_call (a_cons (e_var rfl) (a_cons (e_var rfl) (a_cons e_int a_nil))) ⟨m, g, o, q, lo, hi, w, h, ps, D, hp, hc, rfl, rfl⟩) ?_
  refine s_ret (e_maxVals (kvs := encA dI L) (ns := (L.map (·.2)).map fun n : Nat => (n : Int)) (m := (n : Int)) (d_call (a_cons (e_var rfl) (a_cons (e_call (a_cons (e_var rfl) a_nil) ⟨m, g, o, q, D.g1, by omega, D.a1, D.b1, D.co, rfl, rfl⟩) a_nil)) ⟨ps, q, L, hz, D.a1, D.b1, by omega, hL, rfl, rfl⟩) (enc_vals L) (List.mem_map.mpr ⟨n, hn, rfl⟩) fun y hy => ?_) rfl
  have ⟨k, hk, e⟩ := List.mem_map.mp hy
  have := hle k hk
  omega
theorem ok_farthest_within {P : Program} {w : World} {K : Fg} {mg : Str → Option Value} {base : Heap} {f : Addr} {fd : FuncData} (T : Bl mg) (C_need_field : Fnc P w K mg base "need_field" 7 ["state", "walls", "most"] (SpP K P_need_field)) (C_pair_of : Fnc P w K mg base "pair_of" 2 ["state"] (SpP K P_pair_of)) (C_distances_in : Fnc P w K mg base "distances_in" 2 ["pairs", "start"] (SpD K P_distances_in)) (F : Fun K "farthest_within" "farthest_within" s_farthest_within f fd) (hm : mg "farthest_within" = some (.ref f)) : Fnc P w K mg base "farthest_within" 8 ["state", "walls"] (SpP K P_farthest_within) :=
  ok_pure (ps := ["state", "walls"]) F hm sc_farthest_within (fun _ _ _ _ _ _ us hl => match us, hl with | [_, _], _ => rfl) (fun cdv A outer s H E hr => p_farthest_within T C_need_field C_pair_of C_distances_in cdv A outer s H E hr) go_farthest_within
end LR
/-! a list that calls change -/
namespace LR
open PySem L2 PySem.W
open Evl (Ex)
section
variable {K : Fg} {X : Option Addr} {F0 H0 F H F' H' : Hp} {σ : L2.St} {es es1 : List En} {p : Bool} {P : Po} {t u w : TS} {te ta tb tc : TE} {tl tr : TA} {tt : TT} {d x y z : PyData} {ds xs row : List PyData} {b : Bool} {a : Addr}
theorem S.rowAt (s : S K X F0 H0 es σ F H) {i : Nat} (h : es[i]? = some (.row a ds)) : ∃ us, σ[i]? = some (some (.ref a)) ∧ H a = some (.lst us) ∧ F a = none ∧ RpAll K F us ds := by
  have ⟨ov, h1, us, h2, h3, h4, h5⟩ := Paired.getR s.en h
  subst h2
  exact ⟨us, h1, h3, h4, h5⟩
theorem w_row {i : Nat} (h : es[i]? = some (.row a ds)) : EvW K (tVar i) es ds := fun σ F H E Q q => by
  have ⟨ov, h1, xs, h2, h3, h4, h5⟩ := Paired.getR E.en h
  subst h2
  exact ⟨_, h1, q a xs F H (Gr.refl E.le) (SqL.of h3) h5⟩
theorem s_setR {i j : Nat} (hi : es[i]? = some (.row a ds)) (h : EvE K te es d) (hj : EvE K tb es (.int (j : Int))) (hz : j < ds.length) (k : P.N (es.set i (.row a (ds.set j d)))) : Go K p (tAsg te (gSub (tVar i) tb rSetL)) es P := fun X F0 H0 D σ F H hp s k1 k2 k3 k4 k5 => by
  have ⟨us, h1, h2, h3, h4⟩ := s.rowAt hi
  refine h σ F H s.env _ fun v F1 H1 g1 r1 => ⟨.ref a, h1, hj σ F1 H1 (s.env.gr g1) _ fun w F2 H2 g2 r2 => ?_⟩
  have g := g1.trans g2
  refine ⟨a, us, (j : Int), j, rfl, r2.int_inv, g.h _ _ h2, by rw [h4.length]; exact Evl.ixN_nat hz, k1 _ σ F2 _ k ?_ g.f⟩
  exact (s.mono g).chg hi rfl h1 ((g.old a _ h2).trans h3) ⟨_, g.h _ _ h2⟩ ⟨us.set j v, rfl, upd_same, (g.old a _ h2).trans h3, RpAll.set (r1.mo g2.f) j (h4.mo g.f)⟩ rfl
theorem q_setR {i j : Nat} (hi : es[i]? = some (.row a ds)) (h : EvE K te es d) (hj : EvE K tb es (.int (j : Int))) (hz : j < ds.length) (k : Go K p u (es.set i (.row a (ds.set j d))) P) : Go K p (tSeq (tAsg te (gSub (tVar i) tb rSetL)) u) es P := go1 (s_setR hi h hj hz rfl) k
theorem S.swap (s : S K X F0 H0 es σ F H) {i : Nat} {en en' : En} (hi : es[i]? = some en) (ho : en.isOwn = true) (ha : σ[i]? = some (some (.ref a))) (gx : GrX X F0 H0 F' H') (hall : ∀ j e v, j ≠ i → es[j]? = some e → σ[j]? = some v → EnOk K F H v e → EnOk K F' H' v e)
    (h : EnOk K F' H' (some (.ref a)) en') : S K X F0 H0 (es.set i en') σ F' H' := by
  have hl : σ.length = es.length := Paired.length s.en
  have mk : ∀ (l : L2.St) (m : List En), l.length = m.length → (∀ (j : Nat) (e : En), m[j]? = some e → ∃ v, l[j]? = some v ∧ EnOk K F' H' v e) → Paired (EnOk K F' H') l m := by
    intro l
    induction l with
    | nil =>
      intro m e _
      cases m with
      | nil => exact .nil
      | cons _ _ => cases e
    | cons v l ih =>
      intro m e f
      cases m with
      | nil => cases e
      | cons e0 m =>
        have ⟨v', h1, h2⟩ := f 0 e0 rfl
        have h1' : v = v' := Option.some.inj h1
        subst h1'
        exact .cons h2 (ih m (Nat.succ.inj e) fun j e' hj => f (j + 1) e' hj)
  refine ⟨gx, mk σ (es.set i en') (by rw [List.length_set]; exact hl) fun j e hj => ?_, fun j k c e e' hj hk oj ok hsj hsk => ?_, fun j c e hj oj hsj => ?_⟩
  · rcases set_some hj with ⟨e1, e2⟩ | ⟨n1, hj2⟩
    · subst e1 e2
      exact ⟨_, ha, h⟩
    · have ⟨v, hv, hv2⟩ := Paired.getR s.en hj2
      exact ⟨v, hv, hall j e v n1 hj2 hv hv2⟩
  · rcases set_some hj with ⟨e1, e2⟩ | ⟨n1, hj2⟩
    · rcases set_some hk with ⟨e3, e4⟩ | ⟨n3, hk2⟩
      · rw [e1, e3]
      · subst e1
        exact s.ap j k c en e' hi hk2 ho ok hsj hsk
    · rcases set_some hk with ⟨e3, e4⟩ | ⟨n3, hk2⟩
      · subst e3
        exact s.ap j k c e en hj2 hi oj ho hsj hsk
      · exact s.ap j k c e e' hj2 hk2 oj ok hsj hsk
  · rcases set_some hj with ⟨e1, e2⟩ | ⟨n1, hj2⟩
    · subst e1
      exact s.nw j c en hi ho hsj
    · exact s.nw j c e hj2 oj hsj
/-- a list of one's own at its address -/
theorem q_pin {i : Nat} (hi : es[i]? = some (.own ds)) (k : ∀ a, Go K p u (es.set i (.row a ds)) P) : Go K p u es P := fun X F0 H0 D σ F H hp s k1 k2 k3 k4 k5 => by
  have ⟨a, us, h1, h2, h3, h4⟩ := s.ownAt hi
  exact k a X F0 H0 D σ F H hp (s.swap hi rfl h1 s.gr (fun _ _ _ _ _ _ h => h) ⟨us, rfl, h2, h3, h4⟩) k1 k2 k3 k4 k5
theorem s_after (s : S K X F0 H0 es σ F H) {i : Nat} {row' : List PyData} {us' : List V} (hi : es[i]? = some (.row a row)) (g : GrX (some a) F H F' H') (z5 : H' a = some (.lst us')) (z6 : RpAll K F' us' row') : S K X F0 H0 (es.set i (.row a row')) σ F' H' := by
  have ⟨us, h1, h2, h3, h4⟩ := s.rowAt hi
  have hn := s.nw i a _ hi rfl h1
  have ne : ∀ b, b ≠ a → (some a : Option Addr) ≠ some b := fun b hb e => hb (Option.some.inj e).symm
  have oth : ∀ j e c o, j ≠ i → es[j]? = some e → e.isOwn = true → σ[j]? = some (some (.ref c)) → H c = some o → H' c = some o ∧ F' c = F c := fun j e c o hj he ho hs hc => by
    have hca : c ≠ a := fun z => by
      subst z
      exact hj (s.ap j i c e _ he hi ho rfl hs h1)
    exact ⟨g.h c o (ne c hca) hc, g.old c o hc⟩
  refine s.swap hi rfl h1 ⟨s.gr.f.trans g.f, fun b o hx hb => ?_, g.le, fun b o hb => ?_, fun b o hb => ?_⟩ (fun j e v hj he hs h => ?_) ⟨us', rfl, z5, (g.old a _ h2).trans h3, z6⟩
  · have hba : b ≠ a := fun z => by
      subst z
      rcases hn with hn | hn
      · rw [hn] at hb
        cases hb
      · exact hx hn
    exact g.h b o (ne b hba) (s.gr.h b o hx hb)
  · have ⟨o', h'⟩ := s.gr.there b o hb
    exact (g.old b o' h').trans (s.gr.old b o hb)
  · have ⟨o', h'⟩ := s.gr.there b o hb
    exact g.there b o' h'
  · cases e with
    | no => exact True.intro
    | val d =>
      have ⟨v', a1, b1⟩ := h
      exact ⟨v', a1, b1.mo g.f⟩
    | own ds =>
      have ⟨c, xs, e1, e2, e3, e4⟩ := h
      subst e1
      have ⟨u1, u2⟩ := oth j _ c _ hj he rfl hs e2
      exact ⟨c, xs, rfl, u1, u2.trans e3, e4.mo g.f⟩
    | dic kvs =>
      have ⟨c, xs, e1, e2, e3, e4⟩ := h
      subst e1
      have ⟨u1, u2⟩ := oth j _ c _ hj he rfl hs e2
      exact ⟨c, xs, rfl, u1, u2.trans e3, kvs_mono g.f e4⟩
    | row c ds =>
      have ⟨xs, e1, e2, e3, e4⟩ := h
      subst e1
      have ⟨u1, u2⟩ := oth j _ c _ hj he rfl hs e2
      exact ⟨xs, rfl, u1, u2.trans e3, e4.mo g.f⟩
/-! expressions that may change such a list -/
def EvM (K : Fg) (te : TE) (es : List En) (M : PyData → List En → Prop) : Prop := ∀ (X : Option Addr) (F0 H0 : Hp) (σ : L2.St) (F H : Hp), S K X F0 H0 es σ F H → ∀ Q : VK, (∀ v d es' F' H', M d es' → S K X F0 H0 es' σ F' H' → Ex F F' → Rp K F' v d → Q v H') → te σ H Q
def EvMA (K : Fg) (tl : TA) (es : List En) (M : List PyData → List En → Prop) : Prop := ∀ (X : Option Addr) (F0 H0 : Hp) (σ : L2.St) (F H : Hp), S K X F0 H0 es σ F H → ∀ Q : List V → Hp → Prop, (∀ vs ds es' F' H', M ds es' → S K X F0 H0 es' σ F' H' → Ex F F' → RpAll K F' vs ds → Q vs H') → tl σ H Q
variable {M M1 M2 : PyData → List En → Prop} {MA MB : List PyData → List En → Prop}
theorem EvE.m (h : EvE K te es d) (k : M d es) : EvM K te es M := fun X F0 H0 σ F H s Q q => h σ F H s.env Q fun v F' H' g r => q v d es F' H' k (s.mono g) g.f r
theorem ma_nil (k : MA [] es) : EvMA K tNil es MA := fun X F0 H0 σ F H s Q q => q [] [] es F H k s (Ex.refl _) .nil
theorem ma_cons (h : EvM K ta es M1) (h2 : ∀ d e, M1 d e → EvMA K tr e fun xs e' => MA (d :: xs) e') : EvMA K (tCons ta tr) es MA := fun X F0 H0 σ F H s Q q =>
  h X F0 H0 σ F H s _ fun v d e F1 H1 m1 s1 f1 r1 => h2 d e m1 X F0 H0 σ F1 H1 s1 _ fun vs xs e2 F2 H2 m2 s2 f2 r2 => q (v :: vs) (d :: xs) e2 F2 H2 m2 s2 (f1.trans f2) (.cons (r1.mo f2) r2)
theorem ma_pure (h : EvE K ta es d) (h2 : EvMA K tr es fun xs e' => MA (d :: xs) e') : EvMA K (tCons ta tr) es MA := ma_cons (M1 := fun d' e => d' = d ∧ e = es) (h.m ⟨rfl, rfl⟩) fun d' e m => by
  rw [m.1, m.2]
  exact h2
theorem m_op {r : R2} (h : EvM K ta es M1) (h2 : ∀ d e, M1 d e → EvM K tb e fun y e' => ∃ z, R2E K r d y z ∧ M z e') : EvM K (tOp r ta tb) es M := fun X F0 H0 σ F H s Q q =>
  h X F0 H0 σ F H s _ fun v d e F1 H1 m1 s1 f1 r1 => h2 d e m1 X F0 H0 σ F1 H1 s1 _ fun u y e2 F2 H2 ⟨z, hr, m2⟩ s2 f2 r2 =>
    hr F2 H2 v u s2.gr.le (r1.mo f2) r2 Q fun w F3 H3 g3 r3 => q w z e2 F3 H3 m2 (s2.mono g3) ((f1.trans f2).trans g3.f) r3
theorem m_tup (h : EvMA K tl es fun xs e => xs.length ≤ 100000 ∧ M (.tuple xs) e) : EvM K (tTup tl) es M := fun X F0 H0 σ F H s Q q => h X F0 H0 σ F H s _ fun vs ds e F1 H1 ⟨hz, m1⟩ s1 f1 r1 =>
  ⟨Evl.sz_of (by rw [r1.length]; exact hz), fun p hp => by
    have g := Gr.new (o := .tup vs) s1.gr.le hp
    exact q (.ref p) (.tuple ds) e _ _ m1 (s1.mono g) (f1.trans g.f) (.tup upd_same (r1.mo g.f))⟩
theorem m_callP {Pf : List PyData → PyData → Prop} {E0 : XK} (h : EvMA K tl es fun xs e => ∃ z, Pf xs z ∧ M z e) : EvM K (tCall (SpP K Pf) [] E0 tl) es M := fun X F0 H0 σ F H s Q q => h X F0 H0 σ F H s _ fun vs xs e F1 H1 ⟨z, hp, m1⟩ s1 f1 r1 =>
  ⟨F1, xs, z, s1.gr.le, by rw [List.append_nil]; exact r1, hp, fun v F2 H2 g2 r2 => q v z e F2 H2 m1 (s1.mono g2) (f1.trans g2.f) r2⟩
/-- the call -/
theorem m_call {R : RowP} {E0 : XK} {i : Nat} {x : R.A} (hi : es[i]? = some (.row a row)) (h : EvMA K tl es fun ds e => ∃ row, e[i]? = some (.row a row) ∧ R.pre x row ds ∧ ∀ r row', R.post x ds r row' → M r (e.set i (.row a row'))) : EvM K (tCall (SpR K R) [] E0 (tCons (tVar i) tl)) es M := fun X F0 H0 σ F H s Q q => by
  have ⟨us0, h1, _, _, _⟩ := s.rowAt hi
  refine ⟨.ref a, h1, h X F0 H0 σ F H s _ fun vs ds e F1 H1 ⟨row, hi2, hp, m1⟩ s1 f1 r1 => ?_⟩
  have ⟨us, z1, z2, z3, z4⟩ := s1.rowAt hi2
  refine ⟨F1, a, us, vs, row, ds, x, by rw [List.append_nil], s1.gr.le, z2, z3, z4, r1, hp, fun v F2 H2 us' r row' hq g2 z5 z6 r2 => ?_⟩
  have s2 : S K X F0 H0 (e.set i (.row a row')) σ F2 H2 := s_after s1 hi2 g2 z5 z6
  exact q v r _ F2 H2 (m1 r row' hq) s2 (f1.trans g2.f) r2
/-! statements -/
theorem s_retM (h : EvM K te es P.R) : Go K p (tRet te) es P := fun X F0 H0 D σ F H hp s k1 k2 k3 k4 k5 => h X F0 H0 σ F H s _ fun v d e F' H' m s' f r => k2 d e v σ F' H' m s' f r
theorem q_valM {i : Nat} (h : EvM K te es M) (k : ∀ d e, M d e → Go K p u (e.set i (.val d)) P) : Go K p (tSeq (tAsg te (gName i)) u) es P := go_seq (fun e' => ∃ d e, M d e ∧ e' = e.set i (.val d)) (fun X F0 H0 D σ F H hp s k1 k2 k3 k4 k5 => h X F0 H0 σ F H s _ fun v d e F' H' m s' f r => k1 _ _ F' H' ⟨d, e, m, rfl⟩ (s'.val r) f) fun e' ⟨d, e, m, h2⟩ => by
  rw [h2]
  exact k d e m
theorem s_valM {i : Nat} (h : EvM K te es fun d e => P.N (e.set i (.val d))) : Go K p (tAsg te (gName i)) es P := fun X F0 H0 D σ F H hp s k1 k2 k3 k4 k5 => h X F0 H0 σ F H s _ fun v d e F' H' m s' f r => k1 _ _ F' H' m (s'.val r) f
theorem q_parM {i j : Nat} (h1 : EvM K ta es M1) (h2 : ∀ d e, M1 d e → EvM K tb e fun y e' => Go K p u ((e'.set i (.val d)).set j (.val y)) P) : Go K p (tSeq (tPar i j (tCons ta (tCons tb tNil))) u) es P :=
  go_seq (fun e' => Go K p u e' P) (fun X F0 H0 D σ F H hp s k1 k2 k3 k4 k5 => h1 X F0 H0 σ F H s _ fun v d e F1 H1 m1 s1 f1 r1 => h2 d e m1 X F0 H0 σ F1 H1 s1 _ fun w y e2 F2 H2 m2 s2 f2 r2 => ⟨v, w, rfl, k1 _ _ F2 H2 m2 ((s2.val (r1.mo f2)).val r2) (f1.trans f2)⟩) fun _ h => h
theorem q_rngM {g : TG} {n : Int} (h : EvM K ta es fun d e => ∃ n : Int, d = .int n ∧ Go K p (tSeq (tFor (iRng1 (tCons (tC (.int n)) tNil)) g t) u) e P) : Go K p (tSeq (tFor (iRng1 (tCons ta tNil)) g t) u) es P := fun X F0 H0 D σ F H hp s k1 k2 k3 k4 k5 =>
  h X F0 H0 σ F H s _ fun v d e F1 H1 ⟨n, hd, hg⟩ s1 f1 r1 => by
    subst hd
    have ev := r1.int_inv
    subst ev
    exact hg X F0 H0 D σ F1 H1 hp s1 (fun e σ2 F2 H2 z s2 f2 => k1 e σ2 F2 H2 z s2 (f1.trans f2)) (fun d e v σ2 F2 H2 z s2 f2 => k2 d e v σ2 F2 H2 z s2 (f1.trans f2)) (fun d e a ks σ2 F2 H2 z s2 f2 => k3 d e a ks σ2 F2 H2 z s2 (f1.trans f2))
      (fun e σ2 F2 H2 z s2 f2 => k4 e σ2 F2 H2 z s2 (f1.trans f2)) (fun e σ2 F2 H2 z s2 f2 => k5 e σ2 F2 H2 z s2 (f1.trans f2))
theorem r_ixV {i : Int} (e : atI ds i = some x) : R2E K (rIxL K) (.list ds) (.int i) x := fun F H v u ex hv hu Q q => by
  have ⟨a, us, e1, h1, h2⟩ := hv.lst_inv
  have ⟨w, h3, h4⟩ := at_map h2 e
  exact ⟨a, us, i, w, e1, hu.int_inv, SqL.of (ex _ _ h1), h3, q w F H (Gr.refl ex) h4⟩
end
section
variable {P : Program} {w : World} {K : Fg} {mg : Str → Option Value} {base : Heap}
/-- a def that changes its first argument -/
theorem ok_row {x x0 : Str} {st : Stmt} {f : Addr} {fd : FuncData} {N ps : List Str} {k : Nat} {R : RowP} {t : TS} (F : Fun K x x st f fd) (hm : mg x = some (.ref f)) (sc : FnScope N (x0 :: ps) (defScope st))
    (hb : ∀ (kV doc pm : Value) (an : Option Addr) (cdv ct : Value) (us : List Value), us.length = (x0 :: ps).length → bindArgs (PySem.W.fnOf x x (defArgs st) (defBody st) (defScope st) .none kV doc pm an cdv ct) ⟨us, []⟩ = pure ((x0 :: ps).zip us))
    (hp : ∀ (cdv : Value) (A : Around) (outer : List PySem.Env) (s : Shared) (H : Hp) (E : XK), Room k (A.deeper (PyProof.Rows.envOfC x (defScope st) s.heap.objs.size f cdv)) → PSs (cxN P w K mg base N x st f cdv A outer s H E) (defBody st) t)
    (hg : ∀ x row ds, R.pre x row ds → ds.length = ps.length ∧ ∀ a, Go K false t (startE N.length (.row a row :: ds.map .val)) { N := fun _ => False, R := fun d e => ∃ row', e[0]? = some (.row a row') ∧ R.post x ds d row' }) : Fnc P w K mg base x (k + 1) (x0 :: ps) (SpR K R) := by
  refine ⟨f, fd, F.ok sc (fun vs H Q E ⟨G, a, us, vs', row, ds, x, e, _, _, _, _, h1, h2, _⟩ => by
    rw [e, List.length_cons, h1.length, (hg x row ds h2).1, List.length_cons]) (fun cdv A outer s H vs Q E hr ⟨G, a, us, vs', row, ds, x, e, h0, ha, hf, hu, h1, h2, h3⟩ => ⟨t, hp cdv A outer s H E hr, ?_⟩), hm, F.kp, F.binds hb⟩
  subst e
  have hS : S K (some a) G H (startE N.length (.row a row :: ds.map .val)) (L2.start N (.ref a :: vs')) G H := by
    have own1 : ∀ i e, (startE N.length (.row a row :: ds.map .val))[i]? = some e → e.isOwn = true → i = 0 ∧ e = .row a row := fun i e hi ho => by
      cases i with
      | zero => exact ⟨rfl, (Option.some.inj hi).symm⟩
      | succ i =>
        have hm := List.mem_of_getElem? (show (ds.map En.val ++ List.replicate (N.length - (ds.map En.val).length.succ) .no)[i]? = some e from hi)
        rcases List.mem_append.mp hm with z | z
        · have ⟨d, _, e2⟩ := List.mem_map.mp z
          rw [← e2] at ho
          cases ho
        · rw [(List.mem_replicate.mp z).2] at ho
          cases ho
    refine ⟨GrX.refl h0, ens_start (vs := .ref a :: vs') (.cons ⟨us, rfl, ha, hf, hu⟩ (vals_start h1)), fun i j b e e' hi hj oi oj _ _ => ?_, fun i b e hi oi hs => ?_⟩
    · rw [(own1 i e hi oi).1, (own1 j e' hj oj).1]
    · have ⟨e1, _⟩ := own1 i e hi oi
      subst e1
      have e2 : (L2.start N (.ref a :: vs'))[0]? = some (some (.ref a)) := rfl
      rw [e2] at hs
      have e3 := Option.some.inj (Option.some.inj hs)
      cases e3
      exact .inr rfl
  refine (hg x row ds h2).2 a (some a) G H _ _ G H (fun z => by cases z) hS (fun _ _ _ _ z => z.elim) (fun d es' v σ' F' H' ⟨row', hr0, hq⟩ s' _ hr2 => ?_) (fun _ _ _ _ _ _ _ z => z.elim) (fun _ _ _ _ z => z.elim) (fun _ _ _ _ z => z.elim)
  have ⟨us', z1, z2, z3, z4⟩ := s'.rowAt hr0
  exact h3 v F' H' us' d row' hq s'.gr z2 z4 hr2
end
end LR
namespace LR
open PySem L2 PySem.W
open Evl (Ex)
abbrev s_l_taken : Stmt := topS 36
theorem sc_l_taken : FnScope ["_law_row", "_law_many", "_law_found", "_law_cell"] ["_law_row", "_law_many"] (defScope s_l_taken) :=
  ⟨rfl, rfl, rfl, by decide +kernel, rfl, by decide +kernel, by decide +kernel⟩
def t_l_taken (K : Fg) : TS := (tSeq (tIfS (tTest (tOp (rI0 fun i j => .bl (decide (j < i))) (tOp (rIxL K) (tVar 0) (tC (.int 3))) (tC (.int 0)))) (tSeq (tAsg (tOp (rI (fun _ j => 0 < j) fun i j => .int (i % j)) (tCB (fun xs H Q => (∃ i, xs = [.int i] ∧ Q (.int i) H) ∨ ∃ k, xs = [.bl k] ∧ Q (.int (if k then 1 else 0)) H) (tCons (tOp (rIxL K) (tVar 0) (tC (.int 3))) tNil)) (tVar 1)) (gName 2))
  (tSeq (tAsg (tOp (rI CDiv fun i j => .int (i / j)) (tOp (rIxL K) (tVar 0) (tC (.int 3))) (tVar 1)) (gSub (tVar 0) (tC (.int 3)) rSetL))
  (tRet (tVar 2)))) tNext)
  (tSeq (tAsg (tOp (rI0 fun i j => .int (i + j)) (tOp (rIxL K) (tVar 0) (tC (.int 1))) (tC (.int 1))) (gSub (tVar 0) (tC (.int 1)) rSetL))
  (tSeq (tIfS (tTest (tOp (rI0 fun i j => .bl (decide (j < i))) (tOp (rIxL K) (tVar 0) (tC (.int 1))) (tCB (Evl.rLenS K) (tCons (tOp (rIxL K) (tVar 0) (tC (.int 0))) tNil)))) (tSeq (tAsg (tOp (rI (fun _ j => 0 < j) fun i j => .int (i % j)) (tCB (fun xs H Q => (∃ i, xs = [.int i] ∧ Q (.int i) H) ∨ ∃ k, xs = [.bl k] ∧ Q (.int (if k then 1 else 0)) H) (tCons (tOp (rI0 fun i j => .int (i + j)) (tOp (rI CMul fun i j => .int (i * j)) (tOp (rIxL K) (tVar 0) (tC (.int 2))) (tC (.int 48271))) (tC (.int 11))) tNil)) (tC (.int 2147483647))) (gSub (tVar 0) (tC (.int 2)) rSetL))
  (tRet (tOp (rI (fun _ j => 0 < j) fun i j => .int (i % j)) (tCB (fun xs H Q => (∃ i, xs = [.int i] ∧ Q (.int i) H) ∨ ∃ k, xs = [.bl k] ∧ Q (.int (if k then 1 else 0)) H) (tCons (tOp (rI CDiv fun i j => .int (i / j)) (tOp (rIxL K) (tVar 0) (tC (.int 2))) (tC (.int 7))) tNil)) (tVar 1)))) tNext)
  (tSeq (tAsg (tOp (rIxL K) (tOp (rIxL K) (tVar 0) (tC (.int 0))) (tOp (rI0 fun i j => .int (i - j)) (tOp (rIxL K) (tVar 0) (tC (.int 1))) (tC (.int 1)))) (gName 3))
  (tSeq (tAsg (tOp (rI (fun _ j => 0 < j) fun i j => .int (i % j)) (tCB (fun xs H Q => (∃ i, xs = [.int i] ∧ Q (.int i) H) ∨ ∃ k, xs = [.bl k] ∧ Q (.int (if k then 1 else 0)) H) (tCons (tOp (rI0 fun i j => .int (i + j)) (tOp (rI0 fun i j => .int (i + j)) (tOp (rI CMul fun i j => .int (i * j)) (tOp (rIxL K) (tVar 0) (tC (.int 2))) (tC (.int 48271))) (tVar 3)) (tC (.int 11))) tNil)) (tC (.int 2147483647))) (gSub (tVar 0) (tC (.int 2)) rSetL))
  (tSeq (tIfS (tTest (tOp (rI0 fun i j => .bl (decide (j ≤ i))) (tVar 3) (tOp (rI CPow fun i j => .int (i ^ j.toNat)) (tC (.int 10)) (tC (.int 18))))) (tAsg (tOp (rI CDiv fun i j => .int (i / j)) (tVar 3) (tVar 1)) (gSub (tVar 0) (tC (.int 3)) rSetL)) tNext)
  (tRet (tOp (rI (fun _ j => 0 < j) fun i j => .int (i % j)) (tCB (fun xs H Q => (∃ i, xs = [.int i] ∧ Q (.int i) H) ∨ ∃ k, xs = [.bl k] ∧ Q (.int (if k then 1 else 0)) H) (tCons (tVar 3) tNil)) (tVar 1)))))))))
theorem p_l_taken {P : Program} {w : World} {K : Fg} {mg : Str → Option Value} {base : Heap} {f : Addr} (T : Bl mg) (cdv : Value) (A : Around) (outer : List PySem.Env) (s : Shared) (H : Hp) (E : XK)
    (hr : Room 0 (A.deeper (PyProof.Rows.envOfC "_law_taken" (defScope s_l_taken) s.heap.objs.size f cdv))) : PSs (cxN P w K mg base ["_law_row", "_law_many", "_law_found", "_law_cell"] "_law_taken" s_l_taken f cdv A outer s H E) (defBody s_l_taken) (t_l_taken K) :=
  (pss_cons (ps_if (pt_cmpR op_gt (pe_ix ix_list (pv 0) pe_int (fun _ _ => rfl)) pe_int (nomark _)) (pss_cons (ps_set (i := 2) sc_l_taken.nd rfl (.inl rfl) (pe_op op_mod (pe_callTy call_int1 (by rfl) T.t_int (by decide +kernel) (pa_cons (pe_ix ix_list (pv 0) pe_int (fun _ _ => rfl)) pa_nil)) (pv 1)))
    (pss_cons (ps_asg (pe_op op_fdiv (pe_ix ix_list (pv 0) pe_int (fun _ _ => rfl)) (pv 1)) (pg_sub (pv 0) pe_int set_list (by intros; rfl)))
    (pss_one (ps_ret (pv 2))))) pss_nil)
    (pss_cons (ps_asg (pe_op op_add (pe_ix ix_list (pv 0) pe_int (fun _ _ => rfl)) pe_int) (pg_sub (pv 0) pe_int set_list (by intros; rfl)))
    (pss_cons (ps_if (pt_cmpR op_gt (pe_ix ix_list (pv 0) pe_int (fun _ _ => rfl)) (pe_callB call_len_seq (by rfl) T.len (by decide +kernel) (pa_cons (pe_ix ix_list (pv 0) pe_int (fun _ _ => rfl)) pa_nil)) (nomark _)) (pss_cons (ps_asg (pe_op op_mod (pe_callTy call_int1 (by rfl) T.t_int (by decide +kernel) (pa_cons (pe_op op_add (pe_op op_mul (pe_ix ix_list (pv 0) pe_int (fun _ _ => rfl)) pe_int) pe_int) pa_nil)) pe_int) (pg_sub (pv 0) pe_int set_list (by intros; rfl)))
    (pss_one (ps_ret (pe_op op_mod (pe_callTy call_int1 (by rfl) T.t_int (by decide +kernel) (pa_cons (pe_op op_fdiv (pe_ix ix_list (pv 0) pe_int (fun _ _ => rfl)) pe_int) pa_nil)) (pv 1))))) pss_nil)
    (pss_cons (ps_set (i := 3) sc_l_taken.nd rfl (.inl rfl) (pe_ix ix_list (pe_ix ix_list (pv 0) pe_int (fun _ _ => rfl)) (pe_op op_sub (pe_ix ix_list (pv 0) pe_int (fun _ _ => rfl)) pe_int) (fun _ _ => rfl)))
    (pss_cons (ps_asg (pe_op op_mod (pe_callTy call_int1 (by rfl) T.t_int (by decide +kernel) (pa_cons (pe_op op_add (pe_op op_add (pe_op op_mul (pe_ix ix_list (pv 0) pe_int (fun _ _ => rfl)) pe_int) (pv 3)) pe_int) pa_nil)) pe_int) (pg_sub (pv 0) pe_int set_list (by intros; rfl)))
    (pss_cons (ps_if (pt_cmpR op_ge (pv 3) (pe_op op_pow pe_int pe_int) (nomark _)) (pss_one (ps_asg (pe_op op_fdiv (pv 3) (pv 1)) (pg_sub (pv 0) pe_int set_list (by intros; rfl)))) pss_nil)
    (pss_one (ps_ret (pe_op op_mod (pe_callTy call_int1 (by rfl) T.t_int (by decide +kernel) (pa_cons (pv 3) pa_nil)) (pv 1))))))))))
theorem go_l_taken {K : Fg} : ∀ (n : Int) (row ds : List PyData), P_l_taken.pre n row ds → ds.length = 1 ∧ ∀ a, Go K false (t_l_taken K) (startE 4 (.row a row :: ds.map .val)) { N := fun _ => False, R := fun d e => ∃ row', e[0]? = some (.row a row') ∧ P_l_taken.post n ds d row' } := by
  rintro n _ _ ⟨⟨ns, i, s, k, hl, hi, rfl⟩, hn, hn2, rfl⟩
  refine ⟨rfl, fun a => ?_⟩
  unfold t_l_taken
  have hpost : ∀ (i s k c : Int), 0 ≤ i → P_l_taken.post n [.int n] (.int (c % n)) [dScr ns, .int i, .int s, .int k] := fun i s k c hi => ⟨⟨ns, i, s, k, hl, hi, rfl⟩, _, Int.emod_nonneg _ (by omega), Int.emod_lt_of_pos _ hn, rfl⟩
  refine q_if (b := decide (0 < k)) (t_test (e_op (e_ixL (w_row rfl) e_int (x := .int k) rfl) e_int r_cmp)) (fun _ => ?_) fun _ => q_next ?_
  · refine q_assoc (q_val (e_op (e_cb (a_cons (e_ixL (w_row rfl) e_int (x := .int k) rfl) a_nil) ra_int) (e_var rfl) (r_I hn)) (q_assoc (q_setR (j := 3) rfl (e_op (e_ixL (w_row rfl) e_int (x := .int k) rfl) (e_var rfl) (r_I ⟨hn, by omega⟩)) e_int (le_ble (a := 4) rfl) ?_)))
    exact q_ret (e_var rfl) ⟨_, rfl, hpost _ _ _ _ hi⟩
  · refine q_setR (j := 1) rfl (e_op (e_ixL (w_row rfl) e_int (x := .int i) rfl) e_int r_I0) e_int (le_ble (a := 2) rfl) ?_
    refine q_if (b := decide ((((ns.map PyData.int).length : Nat) : Int) < i + 1)) (t_test (e_op (e_ixL (w_row rfl) e_int (x := .int (i + 1)) rfl) (e_len (EvE.ws (e_ixL (w_row rfl) e_int (x := dScr ns) rfl))) r_cmp)) (fun _ => ?_) fun hb => q_next ?_
    · refine q_assoc (q_setR (j := 2) rfl (e_op (e_cb (a_cons (e_op (e_op (e_ixL (w_row rfl) e_int (x := .int s) rfl) e_int (r_I (.inr ⟨by decide, by decide⟩))) e_int r_I0) a_nil) ra_int) e_int (r_I (by decide))) e_int (le_ble (a := 3) rfl) ?_)
      exact q_ret (e_op (e_cb (a_cons (e_op (e_ixL (w_row rfl) e_int (x := .int ((s * 48271 + 11) % 2147483647)) rfl) e_int (r_I ⟨by decide, by decide⟩)) a_nil) ra_int) (e_var rfl) (r_I hn)) ⟨_, rfl, hpost _ _ _ _ (by omega)⟩
    · have hb2 := of_decide_eq_false hb
      rw [List.length_map] at hb2
      have hlt : i.toNat < ns.length := by omega
      have hat : atI (ns.map PyData.int) (i + 1 - 1) = some (.int ns[i.toNat]) := by
        unfold atI ixN
        rw [if_pos (by omega), if_pos (by rw [List.length_map]; omega)]
        show (ns.map PyData.int)[(i + 1 - 1).toNat]? = _
        rw [List.getElem?_map, show i + 1 - 1 = i by omega, List.getElem?_eq_getElem hlt]
        rfl
      generalize ns[i.toNat] = c at hat
      refine q_val (d := .int c) (e_ixL (EvE.ws (e_ixL (w_row rfl) e_int (x := dScr ns) rfl)) (e_op (e_ixL (w_row rfl) e_int (x := .int (i + 1)) rfl) e_int r_I0) hat) ?_
      refine q_setR (j := 2) rfl (e_op (e_cb (a_cons (e_op (e_op (e_op (e_ixL (w_row rfl) e_int (x := .int s) rfl) e_int (r_I (.inr ⟨by decide, by decide⟩))) (e_var rfl) r_I0) e_int r_I0) a_nil) ra_int) e_int (r_I (by decide))) e_int (le_ble (a := 3) rfl) ?_
      refine q_if (b := decide ((10 : Int) ^ ((18 : Int).toNat) ≤ c)) (t_test (e_op (e_var rfl) (e_op e_int e_int (r_I ⟨by decide, by decide, by decide⟩)) r_cmp)) (fun _ => ?_) fun _ => q_next ?_
      · refine q_setR (j := 3) rfl (e_op (e_var rfl) (e_var rfl) (r_I ⟨hn, by omega⟩)) e_int (le_ble (a := 4) rfl) ?_
        exact s_ret (e_op (e_cb (a_cons (e_var rfl) a_nil) ra_int) (e_var rfl) (r_I hn)) ⟨_, rfl, hpost _ _ _ _ (by omega)⟩
      · exact s_ret (e_op (e_cb (a_cons (e_var rfl) a_nil) ra_int) (e_var rfl) (r_I hn)) ⟨_, rfl, hpost _ _ _ _ (by omega)⟩
theorem ok_l_taken {P : Program} {w : World} {K : Fg} {mg : Str → Option Value} {base : Heap} {f : Addr} {fd : FuncData} (T : Bl mg) (F : Fun K "_law_taken" "_law_taken" s_l_taken f fd) (hm : mg "_law_taken" = some (.ref f)) : Fnc P w K mg base "_law_taken" 1 ["_law_row", "_law_many"] (SpR K P_l_taken) :=
  ok_row (x0 := "_law_row") (ps := ["_law_many"]) F hm sc_l_taken (fun _ _ _ _ _ _ us hl => match us, hl with | [_, _], _ => rfl) (fun cdv A outer s H E hr => p_l_taken T cdv A outer s H E hr) go_l_taken
abbrev s_l_pick : Stmt := topS 37
theorem sc_l_pick : FnScope ["_law_row", "_law_things"] ["_law_row", "_law_things"] (defScope s_l_pick) :=
  ⟨rfl, rfl, rfl, by decide +kernel, rfl, by decide +kernel, by decide +kernel⟩
def t_l_pick (K : Fg) : TS := (tRet (tOp (rIxL K) (tVar 1) (tCall (SpR K P_l_taken) [] E0 (tCons (tVar 0) (tCons (tCB (Evl.rLenS K) (tCons (tVar 1) tNil)) tNil)))))
theorem p_l_pick {P : Program} {w : World} {K : Fg} {mg : Str → Option Value} {base : Heap} {f : Addr} (T : Bl mg) (C_l_taken : Fnc P w K mg base "_law_taken" 1 ["_law_row", "_law_many"] (SpR K P_l_taken)) (cdv : Value) (A : Around) (outer : List PySem.Env) (s : Shared) (H : Hp) (E : XK)
    (hr : Room 1 (A.deeper (PyProof.Rows.envOfC "_law_pick" (defScope s_l_pick) s.heap.objs.size f cdv))) : PSs (cxN P w K mg base ["_law_row", "_law_things"] "_law_pick" s_l_pick f cdv A outer s H E) (defBody s_l_pick) (t_l_pick K) :=
  (pss_one (ps_ret (pe_ix ix_list (pv 1) (pe_fnc C_l_taken (hr.mono (by decide)) (by rfl) (pa_cons (pv 0) (pa_cons (pe_callB call_len_seq (by rfl) T.len (by decide +kernel) (pa_cons (pv 1) pa_nil)) pa_nil))) (fun _ _ => rfl))))
theorem go_l_pick {K : Fg} : ∀ (x row ds : List PyData), P_l_pick.pre x row ds → ds.length = 1 ∧ ∀ a, Go K false (t_l_pick K) (startE 2 (.row a row :: ds.map .val)) { N := fun _ => False, R := fun d e => ∃ row', e[0]? = some (.row a row') ∧ P_l_pick.post x ds d row' } := by
  rintro xs row _ ⟨hrow, h0, h1, rfl⟩
  refine ⟨rfl, fun a => ?_⟩
  unfold t_l_pick
  refine s_retM (m_op (M1 := fun d e => d = .list xs ∧ e = [.row a row, .val (.list xs)]) ((e_var rfl).m ⟨rfl, rfl⟩) ?_)
  rintro _ _ ⟨rfl, rfl⟩
  refine m_call (R := P_l_taken) (x := (xs.length : Int)) rfl (ma_pure (e_len (e_var rfl).w) (ma_nil ⟨row, rfl, ⟨hrow, by omega, by omega, rfl⟩, ?_⟩))
  rintro _ row' ⟨hrow', t, ht0, ht1, rfl⟩
  have hlt : t.toNat < xs.length := by omega
  refine ⟨xs[t.toNat], r_ixV ?_, row', rfl, hrow', List.getElem_mem hlt⟩
  unfold atI ixN
  rw [if_pos ht0, if_pos ht1]
  exact List.getElem?_eq_getElem hlt
theorem ok_l_pick {P : Program} {w : World} {K : Fg} {mg : Str → Option Value} {base : Heap} {f : Addr} {fd : FuncData} (T : Bl mg) (C_l_taken : Fnc P w K mg base "_law_taken" 1 ["_law_row", "_law_many"] (SpR K P_l_taken)) (F : Fun K "_law_pick" "_law_pick" s_l_pick f fd) (hm : mg "_law_pick" = some (.ref f)) : Fnc P w K mg base "_law_pick" 2 ["_law_row", "_law_things"] (SpR K P_l_pick) :=
  ok_row (x0 := "_law_row") (ps := ["_law_things"]) F hm sc_l_pick (fun _ _ _ _ _ _ us hl => match us, hl with | [_, _], _ => rfl) (fun cdv A outer s H E hr => p_l_pick T C_l_taken cdv A outer s H E hr) go_l_pick
abbrev s_l_shuts : Stmt := topS 49
theorem sc_l_shuts : FnScope ["_law_row", "_law_state_here", "_law_most"] ["_law_row", "_law_state_here", "_law_most"] (defScope s_l_shuts) :=
  ⟨rfl, rfl, rfl, by decide +kernel, rfl, by decide +kernel, by decide +kernel⟩
def t_l_shuts (K : Fg) : TS := (tRet (tTup (tCons (tOp (rI0 fun i j => .int (i - j)) (tCB (rMinU K) (tCons (tVar 1) tNil)) (tCall (SpR K P_l_taken) [] E0 (tCons (tVar 0) (tCons (tOp (rI0 fun i j => .int (i + j)) (tVar 2) (tC (.int 1))) tNil)))) (tCons (tOp (rI0 fun i j => .int (i + j)) (tCB (rMaxU K) (tCons (tVar 1) tNil)) (tCall (SpR K P_l_taken) [] E0 (tCons (tVar 0) (tCons (tOp (rI0 fun i j => .int (i + j)) (tVar 2) (tC (.int 1))) tNil)))) tNil))))
theorem p_l_shuts {P : Program} {w : World} {K : Fg} {mg : Str → Option Value} {base : Heap} {f : Addr} (T : Bl mg) (C_l_taken : Fnc P w K mg base "_law_taken" 1 ["_law_row", "_law_many"] (SpR K P_l_taken)) (cdv : Value) (A : Around) (outer : List PySem.Env) (s : Shared) (H : Hp) (E : XK)
    (hr : Room 1 (A.deeper (PyProof.Rows.envOfC "_law_shuts" (defScope s_l_shuts) s.heap.objs.size f cdv))) : PSs (cxN P w K mg base ["_law_row", "_law_state_here", "_law_most"] "_law_shuts" s_l_shuts f cdv A outer s H E) (defBody s_l_shuts) (t_l_shuts K) :=
  (pss_one (ps_ret (pe_tup (pa_cons (pe_op op_sub (pe_callB (cr_minU rfl hr.units) (by rfl) T.min (by decide +kernel) (pa_cons (pv 1) pa_nil)) (pe_fnc C_l_taken (hr.mono (by decide)) (by rfl) (pa_cons (pv 0) (pa_cons (pe_op op_add (pv 2) pe_int) pa_nil)))) (pa_cons (pe_op op_add (pe_callB (cr_maxU rfl hr.units) (by rfl) T.max (by decide +kernel) (pa_cons (pv 1) pa_nil)) (pe_fnc C_l_taken (hr.mono (by decide)) (by rfl) (pa_cons (pv 0) (pa_cons (pe_op op_add (pv 2) pe_int) pa_nil)))) pa_nil)))))
theorem foldmin3 (o : O6) {x y z : Int} (h1 : x < y) (h2 : y < z) : ∃ n ns, plc o x y z = n :: ns ∧ ns.foldl min n = x ∧ ns.foldl max n = z := by
  cases o <;> exact ⟨_, _, rfl, by simp only [List.foldl_cons, List.foldl_nil]; omega, by simp only [List.foldl_cons, List.foldl_nil]; omega⟩
theorem stD_lt {m g : Int} {p : Pr} (hg : 1 ≤ g) (h1 : 1 ≤ p.1) (h2 : 1 ≤ p.2) : m - g * p.2 < m + g * (p.1 - p.2) ∧ m + g * (p.1 - p.2) < m + g * p.1 := by
  have e : g * ((p.1 : Int) - p.2) = g * p.1 - g * p.2 := Int.mul_sub _ _ _
  have a1 : 0 < g * (p.1 : Int) := Int.mul_pos (by omega) (by omega)
  have a2 : 0 < g * (p.2 : Int) := Int.mul_pos (by omega) (by omega)
  omega
theorem go_l_shuts {K : Fg} : ∀ (x : Int × Int × O6 × Pr) (row ds : List PyData), P_l_shuts.pre x row ds → ds.length = 2 ∧ ∀ a, Go K false (t_l_shuts K) (startE 3 (.row a row :: ds.map .val)) { N := fun _ => False, R := fun d e => ∃ row', e[0]? = some (.row a row') ∧ P_l_shuts.post x ds d row' } := by
  rintro ⟨m, g, o, p⟩ row _ ⟨hrow, hg, hg2, h1, h2, rfl⟩
  refine ⟨rfl, fun a => ?_⟩
  unfold t_l_shuts
  replace hg : 1 ≤ g := hg
  replace hg2 : g ≤ 10 := hg2
  replace h1 : 1 ≤ p.1 := h1
  replace h2 : 1 ≤ p.2 := h2
  have ⟨l1, l2⟩ := stD_lt (m := m) hg h1 h2
  have ⟨n, ns, e1, e2, e3⟩ := foldmin3 (oP o p) l1 l2
  have hs : stD m g o p = .tuple ((n :: ns).map .int) := by
    rw [← e1]
    rfl
  refine s_retM (m_tup (ma_cons (M1 := fun d e => ∃ t row1, 0 ≤ t ∧ t ≤ 7 * g ∧ RowOk row1 ∧ d = .int (m - g * p.2 - t) ∧ e = [.row a row1, .val (stD m g o p), .val (.int (7 * g))]) (m_op (M1 := fun d e => d = .int (m - g * p.2) ∧ e = [.row a row, .val (stD m g o p), .val (.int (7 * g))]) (EvE.m (EvE.is (e_cb (a_cons (EvE.is (e_var rfl) hs) a_nil) ra_minU) (congrArg PyData.int e2)) ⟨rfl, rfl⟩) ?_) ?_))
  · rintro _ _ ⟨rfl, rfl⟩
    refine m_call (R := P_l_taken) (x := 7 * g + 1) rfl (ma_pure (e_op (e_var rfl) e_int r_I0) (ma_nil ⟨row, rfl, ⟨hrow, by omega, by omega, rfl⟩, ?_⟩))
    rintro _ row' ⟨hrow', t, ht0, ht1, rfl⟩
    exact ⟨_, r_I0, t, row', ht0, by omega, hrow', rfl, rfl⟩
  · rintro _ _ ⟨t, row1, t0, t1, hr1, rfl, rfl⟩
    refine ma_cons (M1 := fun d e => ∃ u row2, 0 ≤ u ∧ u ≤ 7 * g ∧ RowOk row2 ∧ d = .int (m + g * p.1 + u) ∧ e = [.row a row2, .val (stD m g o p), .val (.int (7 * g))]) (m_op (M1 := fun d e => d = .int (m + g * p.1) ∧ e = [.row a row1, .val (stD m g o p), .val (.int (7 * g))]) (EvE.m (EvE.is (e_cb (a_cons (EvE.is (e_var rfl) hs) a_nil) ra_maxU) (congrArg PyData.int e3)) ⟨rfl, rfl⟩) ?_) ?_
    · rintro _ _ ⟨rfl, rfl⟩
      refine m_call (R := P_l_taken) (x := 7 * g + 1) rfl (ma_pure (e_op (e_var rfl) e_int r_I0) (ma_nil ⟨row1, rfl, ⟨hr1, by omega, by omega, rfl⟩, ?_⟩))
      rintro _ row' ⟨hrow', u, ht0, ht1, rfl⟩
      exact ⟨_, r_I0, u, row', ht0, by omega, hrow', rfl, rfl⟩
    · rintro _ _ ⟨u, row2, u0, u1, hr2, rfl, rfl⟩
      exact ma_nil ⟨le_ble (a := 2) rfl, row2, rfl, hr2, t, u, t0, t1, u0, u1, rfl⟩
theorem ok_l_shuts {P : Program} {w : World} {K : Fg} {mg : Str → Option Value} {base : Heap} {f : Addr} {fd : FuncData} (T : Bl mg) (C_l_taken : Fnc P w K mg base "_law_taken" 1 ["_law_row", "_law_many"] (SpR K P_l_taken)) (F : Fun K "_law_shuts" "_law_shuts" s_l_shuts f fd) (hm : mg "_law_shuts" = some (.ref f)) : Fnc P w K mg base "_law_shuts" 2 ["_law_row", "_law_state_here", "_law_most"] (SpR K P_l_shuts) :=
  ok_row (x0 := "_law_row") (ps := ["_law_state_here", "_law_most"]) F hm sc_l_shuts (fun _ _ _ _ _ _ us hl => match us, hl with | [_, _, _], _ => rfl) (fun cdv A outer s H E hr => p_l_shuts T C_l_taken cdv A outer s H E hr) go_l_shuts
end LR
namespace LR
open PySem L2 PySem.W
open Evl (Ex)
/-! ### positions: leaps, lines -/
theorem plc_permA {α : Type} (o : O6) (f : Int → α) (x y z : Int) : [f x, f y, f z].Perm ((plc o x y z).map f) := (plc_perm o x y z).map f
theorem st_i {o : O6} {x y z : Int} : atI ((plc o x y z).map PyData.int) (o.l : Int) = some (.int x) ∧ atI ((plc o x y z).map PyData.int) (o.m : Int) = some (.int y) ∧ atI ((plc o x y z).map PyData.int) (o.r : Int) = some (.int z) := by
  cases o <;> exact ⟨rfl, rfl, rfl⟩
theorem leap_in1 {o : O6} {x y z : Int} : leapL (plc o x y z) o.l o.m = plc o.swL y (2 * y - x) z := by cases o <;> rfl
theorem leap_in2 {o : O6} {x y z : Int} : leapL (plc o x y z) o.r o.m = plc o.swR x (2 * y - z) y := by cases o <;> rfl
theorem leap_out1 {o : O6} {x y z : Int} : leapL (plc o x y z) o.m o.l = plc o.swL (2 * x - y) x z := by cases o <;> rfl
theorem leap_out2 {o : O6} {x y z : Int} : leapL (plc o x y z) o.m o.r = plc o.swR x z (2 * z - y) := by cases o <;> rfl
theorem O6.lt3 (o : O6) : o.l < 3 ∧ o.m < 3 ∧ o.r < 3 := by cases o <;> exact ⟨by decide, by decide, by decide⟩
theorem plc3 {o : O6} {x y z x' y' z' : Int} (h1 : x = x') (h2 : y = y') (h3 : z = z') : plc o x y z = plc o x' y' z' := by rw [h1, h2, h3]
section
variable {m g : Int} {o : O6} {p : Pr}
theorem st_outL (h1 : 1 ≤ p.1) (h2 : 1 ≤ p.2) (h : p.1 + (p.1 + p.2) ≤ 63) : PyData.tuple ((leapL (plc (oP o p) (m - g * p.2) (m + g * (p.1 - p.2)) (m + g * p.1)) (oP o p).m (oP o p).l).map .int) = stD m g o (p.1, p.1 + p.2) := by
  rw [leap_out1]
  unfold stD
  rw [oP_L o h1 h2 h]
  refine congrArg (fun l => PyData.tuple (List.map PyData.int l)) (plc3 ?_ ?_ rfl)
  · show 2 * (m - g * p.2) - (m + g * (p.1 - p.2)) = m - g * ((p.1 + p.2 : Nat) : Int)
    simp only [Int.mul_sub, Int.natCast_add, Int.mul_add]
    omega
  · show m - g * p.2 = m + g * ((p.1 : Int) - ((p.1 + p.2 : Nat) : Int))
    simp only [Int.mul_sub, Int.natCast_add, Int.mul_add]
    omega
theorem st_outR (h1 : 1 ≤ p.1) (h2 : 1 ≤ p.2) (h : p.1 + p.2 + p.2 ≤ 63) : PyData.tuple ((leapL (plc (oP o p) (m - g * p.2) (m + g * (p.1 - p.2)) (m + g * p.1)) (oP o p).m (oP o p).r).map .int) = stD m g o (p.1 + p.2, p.2) := by
  rw [leap_out2]
  unfold stD
  rw [oP_R o h1 h2 h]
  refine congrArg (fun l => PyData.tuple (List.map PyData.int l)) (plc3 rfl ?_ ?_)
  · show m + g * p.1 = m + g * (((p.1 + p.2 : Nat) : Int) - p.2)
    rw [Int.natCast_add, Int.add_sub_cancel]
  · show 2 * (m + g * p.1) - (m + g * (p.1 - p.2)) = m + g * ((p.1 + p.2 : Nat) : Int)
    simp only [Int.mul_sub, Int.natCast_add, Int.mul_add]
    omega
theorem st_inL (h1 : 1 ≤ p.1) (hl : p.1 < p.2) (h : p.1 + p.2 ≤ 60) : PyData.tuple ((leapL (plc (oP o p) (m - g * p.2) (m + g * (p.1 - p.2)) (m + g * p.1)) (oP o p).l (oP o p).m).map .int) = stD m g o (p.1, p.2 - p.1) := by
  rw [leap_in1]
  have e := oP_L o (p := (p.1, p.2 - p.1)) h1 (by show 1 ≤ p.2 - p.1; omega) (by show p.1 + (p.1 + (p.2 - p.1)) ≤ 63; omega)
  have e2 : ((p.1, p.2 - p.1).1, (p.1, p.2 - p.1).1 + (p.1, p.2 - p.1).2) = p := by
    show (p.1, p.1 + (p.2 - p.1)) = p
    rw [Nat.add_sub_cancel' (Nat.le_of_lt hl)]
  rw [e2] at e
  rw [e, O6.swLL]
  refine congrArg (fun l => PyData.tuple (List.map PyData.int l)) (plc3 ?_ ?_ rfl)
  · show m + g * ((p.1 : Int) - p.2) = m - g * ((p.2 - p.1 : Nat) : Int)
    simp only [Int.ofNat_sub (Nat.le_of_lt hl), Int.mul_sub, Int.natCast_add, Int.mul_add]
    omega
  · show 2 * (m + g * ((p.1 : Int) - p.2)) - (m - g * p.2) = m + g * ((p.1 : Int) - ((p.2 - p.1 : Nat) : Int))
    simp only [Int.ofNat_sub (Nat.le_of_lt hl), Int.mul_sub, Int.natCast_add, Int.mul_add]
    omega
theorem st_inR (h2 : 1 ≤ p.2) (hl : p.2 < p.1) (h : p.1 + p.2 ≤ 60) : PyData.tuple ((leapL (plc (oP o p) (m - g * p.2) (m + g * (p.1 - p.2)) (m + g * p.1)) (oP o p).r (oP o p).m).map .int) = stD m g o (p.1 - p.2, p.2) := by
  rw [leap_in2]
  have e := oP_R o (p := (p.1 - p.2, p.2)) (by show 1 ≤ p.1 - p.2; omega) h2 (by show p.1 - p.2 + p.2 + p.2 ≤ 63; omega)
  have e2 : ((p.1 - p.2, p.2).1 + (p.1 - p.2, p.2).2, (p.1 - p.2, p.2).2) = p := by
    show (p.1 - p.2 + p.2, p.2) = p
    rw [Nat.sub_add_cancel (Nat.le_of_lt hl)]
  rw [e2] at e
  rw [e, O6.swRR]
  refine congrArg (fun l => PyData.tuple (List.map PyData.int l)) (plc3 rfl ?_ ?_)
  · show 2 * (m + g * ((p.1 : Int) - p.2)) - (m + g * p.1) = m + g * (((p.1 - p.2 : Nat) : Int) - p.2)
    simp only [Int.ofNat_sub (Nat.le_of_lt hl), Int.mul_sub, Int.natCast_add, Int.mul_add]
    omega
  · show m + g * ((p.1 : Int) - p.2) = m + g * ((p.1 - p.2 : Nat) : Int)
    rw [Int.ofNat_sub (Nat.le_of_lt hl)]
end
/-! two positions are the same where their pairs are -/
theorem eqv_ints : ∀ l l' : List Int, PyData.eqvAll (l.map .int) (l'.map .int) = decide (l = l')
  | [], [] => by simp [PyData.eqvAll]
  | [], _ :: _ => by simp [PyData.eqvAll]
  | _ :: _, [] => by simp [PyData.eqvAll]
  | x :: l, y :: l' => by
    have ih := eqv_ints l l'
    simp only [List.map_cons, PyData.eqvAll, ih, PyData.eqv, List.cons.injEq]
    by_cases h1 : x = y <;> by_cases h2 : l = l' <;> simp [h1, h2]
theorem stD_inj {m g : Int} {o : O6} {p q : Pr} (hg : 1 ≤ g) (p1 : 1 ≤ p.1) (p2 : 1 ≤ p.2) (q1 : 1 ≤ q.1) (q2 : 1 ≤ q.2) : PyData.eqv (stD m g o p) (stD m g o q) = eqP p q := by
  unfold stD
  show PyData.eqv (.tuple _) (.tuple _) = _
  have e1 : ∀ l l' : List Int, PyData.eqv (.tuple (l.map .int)) (.tuple (l'.map .int)) = decide (l = l') := fun l l' => by
    rw [← eqv_ints]
    simp [PyData.eqv]
  rw [e1, eqP_dec]
  by_cases h : p = q
  · rw [h, decide_eq_true rfl, decide_eq_true rfl]
  · rw [decide_eq_false h, decide_eq_false]
    intro z
    have ⟨a1, a2⟩ := st_lt (m := m) hg p1 p2
    have ⟨b1, b2⟩ := st_lt (m := m) hg q1 q2
    have u1 := (plc_perm (oP o p) (m - g * p.2) (m + g * (p.1 - p.2)) (m + g * p.1))
    have u2 := (plc_perm (oP o q) (m - g * q.2) (m + g * (q.1 - q.2)) (m + g * q.1))
    rw [z] at u1
    have e := sorted_one u1 (up3 a1 a2) u2 (up3 b1 b2)
    have e2 : m - g * p.2 = m - g * q.2 := (List.cons.inj e).1
    have e3 : m + g * p.1 = m + g * q.1 := (List.cons.inj (List.cons.inj (List.cons.inj e).2).2).1
    have hg0 : g ≠ 0 := by omega
    have e4 : (p.2 : Int) = q.2 := Int.eq_of_mul_eq_mul_left hg0 (by omega)
    have e5 : (p.1 : Int) = q.1 := Int.eq_of_mul_eq_mul_left hg0 (by omega)
    exact h (Prod.ext (by omega) (by omega))
theorem stD_shaped (m g : Int) (o : O6) (p : Pr) : SeqAt.shaped (stD m g o p) = true := by
  unfold stD
  cases oP o p <;> (show (PyData.canLay0 _ && decide (PyData.depth _ ≤ 64)) = true; simp [plc, PyData.canLay0, PyData.canLayAll0, PyData.depth, PyData.depthAll])
/-! lines -/
theorem up_pos' {p q : Pr} (h : parentP p = some q) (hp : Pos p) : Pos q ∧ q.1 + q.2 < p.1 + p.2 := by
  have ⟨a, b, c⟩ := up_pos h hp.1 hp.2.1
  have := hp.2.2
  exact ⟨⟨a, b, by omega⟩, c⟩
theorem upF_pos : ∀ (n : Nat) (p : Pr), Pos p → ∀ q ∈ upF n p, Pos q
  | 0, p, h, q, hq => by
    have e : q = p := by simpa [upF] using hq
    rw [e]
    exact h
  | n + 1, p, h, q, hq => by
    unfold upF at hq
    cases hp : parentP p with
    | none =>
      rw [hp] at hq
      have e : q = p := by simpa using hq
      rw [e]
      exact h
    | some t =>
      rw [hp] at hq
      rcases List.mem_cons.mp hq with e | hq
      · rw [e]
        exact h
      · exact upF_pos n t (up_pos' hp h).1 q hq
theorem upF_len : ∀ (n : Nat) (p : Pr), (upF n p).length ≤ n + 1 ∧ 1 ≤ (upF n p).length
  | 0, p => ⟨Nat.le_refl _, Nat.le_refl _⟩
  | n + 1, p => by
    unfold upF
    cases parentP p with
    | none => exact ⟨by show 1 ≤ n + 1 + 1; omega, Nat.le_refl _⟩
    | some t =>
      have ⟨a, b⟩ := upF_len n t
      show (p :: upF n t).length ≤ _ ∧ 1 ≤ (p :: upF n t).length
      rw [List.length_cons]
      omega
theorem upF_last : ∀ (n : Nat) (p : Pr), 1 ≤ p.1 → 1 ≤ p.2 → p.1 + p.2 ≤ n + 1 → Nat.gcd p.1 p.2 = 1 → (upF n p).getLast? = some (1, 1)
  | 0, p, h1, h2, h, _ => by omega
  | n + 1, p, h1, h2, h, hc => by
    unfold upF
    rcases Nat.lt_trichotomy p.1 p.2 with l | l | l
    · rw [parent_lt l]
      have ih := upF_last n (p.1, p.2 - p.1) h1 (by show 1 ≤ p.2 - p.1; omega) (by show p.1 + (p.2 - p.1) ≤ n + 1; omega) (by
        show Nat.gcd p.1 (p.2 - p.1) = 1
        rw [Nat.gcd_sub_self_right (Nat.le_of_lt l)]
        exact hc)
      show (p :: upF n (p.1, p.2 - p.1)).getLast? = _
      rw [List.getLast?_cons, ih]
      rfl
    · rw [parent_eq l]
      rw [l, Nat.gcd_self] at hc
      show some p = some (1, 1)
      rw [Prod.ext (show p.1 = (1, 1).1 from l.trans hc) (show p.2 = (1, 1).2 from hc)]
    · rw [parent_gt l]
      have ih := upF_last n (p.1 - p.2, p.2) (by show 1 ≤ p.1 - p.2; omega) h2 (by show p.1 - p.2 + p.2 ≤ n + 1; omega) (by
        show Nat.gcd (p.1 - p.2) p.2 = 1
        rw [Nat.gcd_sub_self_left (Nat.le_of_lt l)]
        exact hc)
      show (p :: upF n (p.1 - p.2, p.2)).getLast? = _
      rw [List.getLast?_cons, ih]
      rfl
theorem sameM_le : ∀ l k : List Pr, sameM l k ≤ l.length ∧ sameM l k ≤ k.length
  | [], k => by cases k <;> exact ⟨Nat.zero_le _, Nat.zero_le _⟩
  | a :: l, [] => ⟨Nat.zero_le _, Nat.zero_le _⟩
  | a :: l, b :: k => by
    have ⟨u, v⟩ := sameM_le l k
    show (if eqP a b = true then 1 else 0) + sameM l k ≤ l.length + 1 ∧ (if eqP a b = true then 1 else 0) + sameM l k ≤ k.length + 1
    split <;> omega
theorem sameM_zip : ∀ l k : List Pr, ((l.zip k).filter fun q => eqP q.1 q.2).length = sameM l k
  | [], k => by cases k <;> rfl
  | a :: l, [] => rfl
  | a :: l, b :: k => by
    have ih := sameM_zip l k
    show ((a, b) :: l.zip k |>.filter fun q => eqP q.1 q.2).length = (if eqP a b = true then 1 else 0) + sameM l k
    cases h : eqP a b with
    | true =>
      rw [List.filter_cons_of_pos (by exact h), List.length_cons, ih, if_pos rfl]
      omega
    | false =>
      rw [List.filter_cons_of_neg (by show ¬ eqP a b = true; rw [h]; exact Bool.false_ne_true), ih, if_neg Bool.false_ne_true]
      omega
theorem cut_from (xs : List PyData) (k : Nat) : cutD xs (some (k : Int)) none = xs.drop k := by
  unfold cutD
  rw [HT.sIx_nat, HT.sIx_none]
  by_cases h : k ≤ xs.length
  · rw [Nat.min_eq_left h, List.take_of_length_le (by rw [List.length_drop]; exact Nat.le_refl _)]
  · rw [Nat.min_eq_right (by omega), List.drop_eq_nil_of_le (Nat.le_refl _), List.drop_eq_nil_of_le (by omega), List.take_nil]
theorem zip_st (f : Pr → PyData) (l k : List Pr) : zipD (l.map f) (k.map f) = (l.zip k).map fun q => PyData.tuple [f q.1, f q.2] := by
  unfold zipD
  rw [List.zip_map, List.map_map]
  rfl

abbrev s_l_alike : Stmt := topS 38
theorem sc_l_alike : FnScope ["_law_found", "_law_due", "_law_k"] ["_law_found", "_law_due"] (defScope s_l_alike) :=
  ⟨rfl, rfl, rfl, by decide +kernel, rfl, by decide +kernel, by decide +kernel⟩
def t_l_alike (K : Fg) : TS := (tSeq (tIfS (tB (tCB (rIsiT K) (tCons (tVar 1) (tCons (tTup (tCons (tC (.ty "tuple")) (tCons (tC (.ty "list")) tNil))) tNil)))) tNever tNext)
  (tSeq (tIfS (tOr (tB (tIsN (tVar 1))) (tB (tCB (rIsi K) (tCons (tVar 1) (tCons (tC (.ty "str")) tNil))))) (tRet (tAndV (tOp rEq (tVar 0) (tVar 1)) (tOp rEq (tCB (rIsi K) (tCons (tVar 0) (tCons (tC (.ty "str")) tNil))) (tCB (rIsi K) (tCons (tVar 1) (tCons (tC (.ty "str")) tNil)))))) tNext)
  (tRet (tAndV (tCB (rIsi K) (tCons (tVar 0) (tCons (tC (.ty "int")) tNil))) (tAndV (tOp rEq (tCB (rIsi K) (tCons (tVar 0) (tCons (tC (.ty "bool")) tNil))) (tCB (rIsi K) (tCons (tVar 1) (tCons (tC (.ty "bool")) tNil)))) (tOp rEq (tVar 0) (tVar 1)))))))
theorem p_l_alike {P : Program} {w : World} {K : Fg} {mg : Str → Option Value} {base : Heap} {f : Addr} (T : Bl mg) (cdv : Value) (A : Around) (outer : List PySem.Env) (s : Shared) (H : Hp) (E : XK)
    (hr : Room 0 (A.deeper (PyProof.Rows.envOfC "_law_alike" (defScope s_l_alike) s.heap.objs.size f cdv))) : PSs (cxN P w K mg base ["_law_found", "_law_due", "_law_k"] "_law_alike" s_l_alike f cdv A outer s H E) (defBody s_l_alike) (t_l_alike K) :=
  (pss_cons (ps_if (pt_val (pe_callB call_isiT (by rfl) T.isinstance (by decide +kernel) (pa_cons (pv 1) (pa_cons (pe_tup (pa_cons (pe_ty T.t_tuple (by rfl) (by decide +kernel)) (pa_cons (pe_ty T.t_list (by rfl) (by decide +kernel)) pa_nil))) pa_nil)))) pss_never pss_nil)
    (pss_cons (ps_if (PW.pt (pw_or (pt_cmp (pc_isN (pv 1)) (by rfl)) (pw_or1 (pt_val (pe_callB call_isi (by rfl) T.isinstance (by decide +kernel) (pa_cons (pv 1) (pa_cons (pe_ty T.t_str (by rfl) (by decide +kernel)) pa_nil))))))) (pss_one (ps_ret (pe_and (pe_cmpR op_eq (pv 0) (pv 1) (nomark _)) (pe_one (pe_cmpR op_eq (pe_callB call_isi (by rfl) T.isinstance (by decide +kernel) (pa_cons (pv 0) (pa_cons (pe_ty T.t_str (by rfl) (by decide +kernel)) pa_nil))) (pe_callB call_isi (by rfl) T.isinstance (by decide +kernel) (pa_cons (pv 1) (pa_cons (pe_ty T.t_str (by rfl) (by decide +kernel)) pa_nil))) (nomark _)))))) pss_nil)
    (pss_one (ps_ret (pe_and (pe_callB call_isi (by rfl) T.isinstance (by decide +kernel) (pa_cons (pv 0) (pa_cons (pe_ty T.t_int (by rfl) (by decide +kernel)) pa_nil))) (pe_and (pe_cmpR op_eq (pe_callB call_isi (by rfl) T.isinstance (by decide +kernel) (pa_cons (pv 0) (pa_cons (pe_ty T.t_bool (by rfl) (by decide +kernel)) pa_nil))) (pe_callB call_isi (by rfl) T.isinstance (by decide +kernel) (pa_cons (pv 1) (pa_cons (pe_ty T.t_bool (by rfl) (by decide +kernel)) pa_nil))) (nomark _)) (pe_one (pe_cmpR op_eq (pv 0) (pv 1) (nomark _)))))))))
theorem go_l_alike {K : Fg} : ∀ ds r, P_l_alike ds r → ds.length = 2 ∧ Go K true (t_l_alike K) (startE 3 (ds.map .val)) { N := fun _ => r = .none, R := fun d _ => d = r } := by
  rintro _ _ ⟨i, j, rfl, rfl⟩
  refine ⟨rfl, ?_⟩
  unfold t_l_alike
  refine q_skip (EvT.is (t_B (e_isiT (e_var rfl) (fun _ z => nomatch z) ki_it ki_il)) rfl) ?_
  refine q_skip (EvT.is (t_or (t_B (e_isN (e_var rfl))) fun _ => t_B (e_isi (e_var rfl) (fun _ z => nomatch z) ki_is)) rfl) ?_
  exact s_ret (e_andV (e_isi (e_var rfl) (fun _ z => nomatch z) ki_ii) fun _ => e_andV (e_op (e_isi (e_var rfl) (fun _ z => nomatch z) ki_ib) (e_isi (e_var rfl) (fun _ z => nomatch z) ki_ib) r_eqB) fun _ => e_op (e_var rfl) (e_var rfl) r_eqI) rfl
theorem ok_l_alike {P : Program} {w : World} {K : Fg} {mg : Str → Option Value} {base : Heap} {f : Addr} {fd : FuncData} (T : Bl mg) (F : Fun K "_law_alike" "_law_alike" s_l_alike f fd) (hm : mg "_law_alike" = some (.ref f)) : Fnc P w K mg base "_law_alike" 1 ["_law_found", "_law_due"] (SpP K P_l_alike) :=
  ok_pure (ps := ["_law_found", "_law_due"]) F hm sc_l_alike (fun _ _ _ _ _ _ us hl => match us, hl with | [_, _], _ => rfl) (fun cdv A outer s H E hr => p_l_alike T cdv A outer s H E hr) go_l_alike
abbrev s_l_order : Stmt := topS 41
theorem sc_l_order : FnScope ["_law_state_here", "_law_place", "_law_stone"] ["_law_state_here"] (defScope s_l_order) :=
  ⟨rfl, rfl, rfl, by decide +kernel, rfl, by decide +kernel, by decide +kernel⟩
def t_l_order (K : Fg) : TS := (tRet (tLc (iList K (tCB (rSortedPO K) (tCons (tLc (iList K (tLst (tCons (tC (.int 0)) (tCons (tC (.int 1)) (tCons (tC (.int 2)) tNil))))) (gName 2) tYes (tTup (tCons (tOp (rIxT K) (tVar 0) (tVar 2)) (tCons (tVar 2) tNil))) [2]) tNil))) (gTup K 2 (gCons (gName 1) (gCons (gName 2) gNil))) tYes (tVar 2) [1, 2]))
theorem p_l_order {P : Program} {w : World} {K : Fg} {mg : Str → Option Value} {base : Heap} {f : Addr} (T : Bl mg) (cdv : Value) (A : Around) (outer : List PySem.Env) (s : Shared) (H : Hp) (E : XK)
    (hr : Room 0 (A.deeper (PyProof.Rows.envOfC "_law_order" (defScope s_l_order) s.heap.objs.size f cdv))) : PSs (cxN P w K mg base ["_law_state_here", "_law_place", "_law_stone"] "_law_order" s_l_order f cdv A outer s H E) (defBody s_l_order) (t_l_order K) :=
  (pss_one (ps_ret (pe_lc (own := [("_law_place", 1), ("_law_stone", 2)]) rfl sc_l_order.nd (pi_list (pe_callB cr_sortedPO (by rfl) T.sorted (by decide +kernel) (pa_cons (pe_lc (own := [("_law_stone", 2)]) rfl sc_l_order.nd (pi_list (pe_lst (pa_cons pe_int (pa_cons pe_int (pa_cons pe_int pa_nil))))) (blkOk_by (own := [("_law_stone", 2)]) (N := ["_law_state_here", "_law_place", "_law_stone"]) (sc := defScope s_l_order) (by decide +kernel)) (fun _ _ _ _ _ => (pg_name (i := 2) sc_l_order.nd rfl (.inl rfl))) (fun _ _ _ _ _ => pts_nil) (fun _ _ _ _ _ => (pe_tup (pa_cons (pe_ix ix_tup (pv 0) (pv 2) (fun _ _ => rfl)) (pa_cons (pv 2) pa_nil))))) pa_nil))) (blkOk_by (own := [("_law_place", 1), ("_law_stone", 2)]) (N := ["_law_state_here", "_law_place", "_law_stone"]) (sc := defScope s_l_order) (by decide +kernel)) (fun _ _ _ _ _ => (pg_tup rfl (pgs_cons (pg_name (i := 1) sc_l_order.nd rfl (.inl rfl)) (pgs_cons (pg_name (i := 2) sc_l_order.nd rfl (.inl rfl)) pgs_nil)))) (fun _ _ _ _ _ => pts_nil) (fun _ _ _ _ _ => (pv 2)))))
theorem go_l_order {K : Fg} : ∀ ds r, P_l_order ds r → ds.length = 1 ∧ Go K true (t_l_order K) (startE 3 (ds.map .val)) { N := fun _ => r = .none, R := fun d _ => d = r } := by
  rintro _ _ ⟨o, x, y, z, h1, h2, rfl, rfl⟩
  refine ⟨rfl, ?_⟩
  unfold t_l_order
  have hin := n_lc1 (K := K) (es := startE 3 [.val (dSt o x y z)]) (xs := [0, 1, 2]) (enc := fun i : Nat => PyData.int (i : Int)) (fun i => dP ((plc o x y z).getD i 0, (i : Int))) (g := gName 2) (vs := [2]) (te := (tTup (tCons (tOp (rIxT K) (tVar 0) (tVar 2)) (tCons (tVar 2) tNil))))
    (wi := iList K (tLst (tCons (tC (.int 0)) (tCons (tC (.int 1)) (tCons (tC (.int 2)) tNil))))) (i_list (n_lst (a_cons e_int (a_cons e_int (a_cons e_int a_nil))) (le_ble rfl)).e) (le_ble rfl) fun i hi => ⟨[(2, .int (i : Int))], tg_name, by simp, ?_⟩
  · have hs := n_sortP (K := K) (ps := [0, 1, 2].map fun i : Nat => ((plc o x y z).getD i 0, (i : Int))) (zs := [(x, (o.l : Int)), (y, (o.m : Int)), (z, (o.r : Int))]) (hin.is (by rw [List.map_map]; rfl)) ?_ ?_
    · refine s_ret ((n_lc1 (xs := [(x, (o.l : Int)), (y, (o.m : Int)), (z, (o.r : Int))]) (enc := dP) (fun q => .int q.2) (i_list hs.e) (le_ble rfl) fun q hq => ⟨[(1, .int q.1), (2, .int q.2)], tg_tup2, by simp, e_var rfl⟩).e) rfl
    · cases o
      · exact .refl _
      · exact .cons _ (.swap _ _ [])
      · exact .swap _ _ [_]
      · exact List.perm_append_comm (l₁ := [_, _]) (l₂ := [_])
      · exact List.perm_append_comm (l₁ := [_]) (l₂ := [_, _])
      · exact (List.reverse_perm [_, _, _]).symm
    · simp [SrtO.lexB_no]
      omega
  · refine e_tup (a_cons (e_op (e_var rfl) (e_var rfl) (r_ixT (atI_map ?_))) (a_cons (e_var rfl) a_nil)) (le_ble rfl)
    rw [plc_len]
    simp at hi
    omega
theorem ok_l_order {P : Program} {w : World} {K : Fg} {mg : Str → Option Value} {base : Heap} {f : Addr} {fd : FuncData} (T : Bl mg) (F : Fun K "_law_order" "_law_order" s_l_order f fd) (hm : mg "_law_order" = some (.ref f)) : Fnc P w K mg base "_law_order" 1 ["_law_state_here"] (SpP K P_l_order) :=
  ok_pure (ps := ["_law_state_here"]) F hm sc_l_order (fun _ _ _ _ _ _ us hl => match us, hl with | [_], _ => rfl) (fun cdv A outer s H E hr => p_l_order T cdv A outer s H E hr) go_l_order
abbrev s_l_leapt : Stmt := topS 42
theorem sc_l_leapt : FnScope ["_law_state_here", "_law_stone", "_law_over", "_law_found"] ["_law_state_here", "_law_stone", "_law_over"] (defScope s_l_leapt) :=
  ⟨rfl, rfl, rfl, by decide +kernel, rfl, by decide +kernel, by decide +kernel⟩
def t_l_leapt (K : Fg) : TS := (tSeq (tAsg (tCB (Evl.rListS K) (tCons (tVar 0) tNil)) (gName 3))
  (tSeq (tAsg (tOp (rI0 fun i j => .int (i - j)) (tOp (rI CMul fun i j => .int (i * j)) (tC (.int 2)) (tOp (rIxT K) (tVar 0) (tVar 2))) (tOp (rIxT K) (tVar 0) (tVar 1))) (gSub (tVar 3) (tVar 1) rSetL))
  (tRet (tCB (rTupS K) (tCons (tVar 3) tNil)))))
theorem p_l_leapt {P : Program} {w : World} {K : Fg} {mg : Str → Option Value} {base : Heap} {f : Addr} (T : Bl mg) (cdv : Value) (A : Around) (outer : List PySem.Env) (s : Shared) (H : Hp) (E : XK)
    (hr : Room 0 (A.deeper (PyProof.Rows.envOfC "_law_leapt" (defScope s_l_leapt) s.heap.objs.size f cdv))) : PSs (cxN P w K mg base ["_law_state_here", "_law_stone", "_law_over", "_law_found"] "_law_leapt" s_l_leapt f cdv A outer s H E) (defBody s_l_leapt) (t_l_leapt K) :=
  (pss_cons (ps_set (i := 3) sc_l_leapt.nd rfl (.inl rfl) (pe_callTy call_list_of (by rfl) T.t_list (by decide +kernel) (pa_cons (pv 0) pa_nil)))
    (pss_cons (ps_asg (pe_op op_sub (pe_op op_mul pe_int (pe_ix ix_tup (pv 0) (pv 2) (fun _ _ => rfl))) (pe_ix ix_tup (pv 0) (pv 1) (fun _ _ => rfl))) (pg_sub (pv 3) (pv 1) set_list (by intros; rfl)))
    (pss_one (ps_ret (pe_callTy call_tuple_of (by rfl) T.t_tuple (by decide +kernel) (pa_cons (pv 3) pa_nil))))))
theorem go_l_leapt {K : Fg} : ∀ ds r, P_l_leapt ds r → ds.length = 3 ∧ Go K true (t_l_leapt K) (startE 4 (ds.map .val)) { N := fun _ => r = .none, R := fun d _ => d = r } := by
  rintro _ _ ⟨ss, i, j, hs, hi, hj, rfl, rfl⟩
  refine ⟨rfl, ?_⟩
  unfold t_l_leapt
  refine q_own (n_list (e_var rfl)) ?_
  refine q_setL (i := 3) (j := i) rfl (e_op (e_op e_int (e_op (e_var rfl) (e_var rfl) (r_ixT (atI_map (by omega)))) (r_I (.inl ⟨by decide, by decide⟩))) (e_op (e_var rfl) (e_var rfl) (r_ixT (atI_map (by omega)))) r_I0) (e_var rfl) (by rw [List.length_map, hs]; exact hi) ?_
  refine s_ret (e_tuple (w_var rfl)) ?_
  rw [set_map]
  rfl
theorem ok_l_leapt {P : Program} {w : World} {K : Fg} {mg : Str → Option Value} {base : Heap} {f : Addr} {fd : FuncData} (T : Bl mg) (F : Fun K "_law_leapt" "_law_leapt" s_l_leapt f fd) (hm : mg "_law_leapt" = some (.ref f)) : Fnc P w K mg base "_law_leapt" 1 ["_law_state_here", "_law_stone", "_law_over"] (SpP K P_l_leapt) :=
  ok_pure (ps := ["_law_state_here", "_law_stone", "_law_over"]) F hm sc_l_leapt (fun _ _ _ _ _ _ us hl => match us, hl with | [_, _, _], _ => rfl) (fun cdv A outer s H E hr => p_l_leapt T cdv A outer s H E hr) go_l_leapt
abbrev s_l_inward : Stmt := topS 43
theorem sc_l_inward : FnScope ["_law_state_here", "_law_left", "_law_middle", "_law_right", "_law_one", "_law_other"] ["_law_state_here"] (defScope s_l_inward) :=
  ⟨rfl, rfl, rfl, by decide +kernel, rfl, by decide +kernel, by decide +kernel⟩
def t_l_inward (K : Fg) : TS := (tSeq (tAsg (tCall (SpP K P_l_order) [] E0 (tCons (tVar 0) tNil)) (gLst K 3 (gCons (gName 1) (gCons (gName 2) (gCons (gName 3) gNil)))))
  (tSeq (tPar 4 5 (tCons (tOp (rI0 fun i j => .int (i - j)) (tOp (rIxT K) (tVar 0) (tVar 2)) (tOp (rIxT K) (tVar 0) (tVar 1))) (tCons (tOp (rI0 fun i j => .int (i - j)) (tOp (rIxT K) (tVar 0) (tVar 3)) (tOp (rIxT K) (tVar 0) (tVar 2))) tNil)))
  (tSeq (tIfS (tTest (tOp rEq (tVar 4) (tVar 5))) (tRet (tC .non)) tNext)
  (tRet (tIf (tTest (tOp (rI0 fun i j => .bl (decide (i < j))) (tVar 4) (tVar 5))) (tCall (SpP K P_l_leapt) [] E0 (tCons (tVar 0) (tCons (tVar 1) (tCons (tVar 2) tNil)))) (tCall (SpP K P_l_leapt) [] E0 (tCons (tVar 0) (tCons (tVar 3) (tCons (tVar 2) tNil)))))))))
theorem p_l_inward {P : Program} {w : World} {K : Fg} {mg : Str → Option Value} {base : Heap} {f : Addr} (T : Bl mg) (C_l_order : Fnc P w K mg base "_law_order" 1 ["_law_state_here"] (SpP K P_l_order)) (C_l_leapt : Fnc P w K mg base "_law_leapt" 1 ["_law_state_here", "_law_stone", "_law_over"] (SpP K P_l_leapt)) (cdv : Value) (A : Around) (outer : List PySem.Env) (s : Shared) (H : Hp) (E : XK)
    (hr : Room 1 (A.deeper (PyProof.Rows.envOfC "_law_inward" (defScope s_l_inward) s.heap.objs.size f cdv))) : PSs (cxN P w K mg base ["_law_state_here", "_law_left", "_law_middle", "_law_right", "_law_one", "_law_other"] "_law_inward" s_l_inward f cdv A outer s H E) (defBody s_l_inward) (t_l_inward K) :=
  (pss_cons (ps_asg (pe_fnc C_l_order (hr.mono (by decide)) (by rfl) (pa_cons (pv 0) pa_nil)) (pg_lst rfl (pgs_cons (pg_name (i := 1) sc_l_inward.nd rfl (.inl rfl)) (pgs_cons (pg_name (i := 2) sc_l_inward.nd rfl (.inl rfl)) (pgs_cons (pg_name (i := 3) sc_l_inward.nd rfl (.inl rfl)) pgs_nil)))))
    (pss_cons (ps_par (i := 4) (j := 5) rfl sc_l_inward.nd rfl rfl (by decide) rfl rfl (pa_cons (pe_op op_sub (pe_ix ix_tup (pv 0) (pv 2) (fun _ _ => rfl)) (pe_ix ix_tup (pv 0) (pv 1) (fun _ _ => rfl))) (pa_cons (pe_op op_sub (pe_ix ix_tup (pv 0) (pv 3) (fun _ _ => rfl)) (pe_ix ix_tup (pv 0) (pv 2) (fun _ _ => rfl))) pa_nil)) (by rfl))
    (pss_cons (ps_if (pt_cmpR op_eq (pv 4) (pv 5) (nomark _)) (pss_one (ps_ret pe_non)) pss_nil)
    (pss_one (ps_ret (pe_ifExp (pt_cmpR op_lt (pv 4) (pv 5) (nomark _)) (pe_fnc C_l_leapt (hr.mono (by decide)) (by rfl) (pa_cons (pv 0) (pa_cons (pv 1) (pa_cons (pv 2) pa_nil)))) (pe_fnc C_l_leapt (hr.mono (by decide)) (by rfl) (pa_cons (pv 0) (pa_cons (pv 3) (pa_cons (pv 2) pa_nil))))))))))
theorem P_ord {m g : Int} {o : O6} {p : Pr} (hg : 1 ≤ g) (h1 : 1 ≤ p.1) (h2 : 1 ≤ p.2) : P_l_order [stD m g o p] (.list [.int (oP o p).l, .int (oP o p).m, .int (oP o p).r]) := by
  have ⟨a, b⟩ := st_lt (m := m) hg h1 h2
  exact ⟨_, _, _, _, a, b, rfl, rfl⟩
theorem go_l_inward {K : Fg} : ∀ ds r, P_l_inward ds r → ds.length = 1 ∧ Go K true (t_l_inward K) (startE 6 (ds.map .val)) { N := fun _ => r = .none, R := fun d _ => d = r } := by
  rintro _ _ ⟨m, g, o, p, hg, ⟨h1, h2, h3⟩, rfl, rfl⟩
  refine ⟨rfl, ?_⟩
  unfold t_l_inward
  have ⟨l1, l2⟩ := st_lt (m := m) hg h1 h2
  have ⟨i1, i2, i3⟩ := st_i (o := oP o p) (x := m - g * p.2) (y := m + g * (p.1 - p.2)) (z := m + g * p.1)
  refine q_tgt (e_call (a_cons (e_var rfl) a_nil) (P_ord hg h1 h2)) tg_lst3 ?_
  refine q_par (e1 := .val (.int (g * p.1))) (e2 := .val (.int (g * p.2))) (EvE.i (EvE.is (e_op (e_op (e_var rfl) (e_var rfl) (r_ixT i2)) (e_op (e_var rfl) (e_var rfl) (r_ixT i1)) r_I0) ?_)) (EvE.i (EvE.is (e_op (e_op (e_var rfl) (e_var rfl) (r_ixT i3)) (e_op (e_var rfl) (e_var rfl) (r_ixT i2)) r_I0) ?_)) ?_
  · congr 1
    rw [Int.mul_sub]
    omega
  · congr 1
    rw [Int.mul_sub]
    omega
  have hlt : ∀ a b : Nat, a < b → g * (a : Int) < g * (b : Int) := fun a b h => Int.mul_lt_mul_of_pos_left (by omega) (by omega)
  rcases Nat.lt_trichotomy p.1 p.2 with l | l | l
  · rw [parent_lt l]
    have hl := hlt _ _ l
    refine q_skip (EvT.is (t_test (e_op (e_var rfl) (e_var rfl) r_eqI)) (decide_eq_false (by omega))) ?_
    refine s_ret (e_if (b := true) (EvT.is (t_test (e_op (e_var rfl) (e_var rfl) r_cmp)) (decide_eq_true hl)) (fun _ => ?_) fun z => by cases z) rfl
    exact e_call (a_cons (e_var rfl) (a_cons (e_var rfl) (a_cons (e_var rfl) a_nil))) ⟨_, _, _, plc_len _ _ _ _, (oP o p).lt3.1, (oP o p).lt3.2.1, rfl, (st_inL h1 l h3).symm⟩
  · rw [parent_eq l]
    refine q_if (b := true) (EvT.is (t_test (e_op (e_var rfl) (e_var rfl) r_eqI)) (decide_eq_true (by rw [l]))) (fun _ => q_ret e_non rfl) fun z => by cases z
  · rw [parent_gt l]
    have hl := hlt _ _ l
    refine q_skip (EvT.is (t_test (e_op (e_var rfl) (e_var rfl) r_eqI)) (decide_eq_false (by omega))) ?_
    refine s_ret (e_if (b := false) (EvT.is (t_test (e_op (e_var rfl) (e_var rfl) r_cmp)) (decide_eq_false (by omega))) (fun z => by cases z) fun _ => ?_) rfl
    exact e_call (a_cons (e_var rfl) (a_cons (e_var rfl) (a_cons (e_var rfl) a_nil))) ⟨_, _, _, plc_len _ _ _ _, (oP o p).lt3.2.2, (oP o p).lt3.2.1, rfl, (st_inR h2 l h3).symm⟩
theorem ok_l_inward {P : Program} {w : World} {K : Fg} {mg : Str → Option Value} {base : Heap} {f : Addr} {fd : FuncData} (T : Bl mg) (C_l_order : Fnc P w K mg base "_law_order" 1 ["_law_state_here"] (SpP K P_l_order)) (C_l_leapt : Fnc P w K mg base "_law_leapt" 1 ["_law_state_here", "_law_stone", "_law_over"] (SpP K P_l_leapt)) (F : Fun K "_law_inward" "_law_inward" s_l_inward f fd) (hm : mg "_law_inward" = some (.ref f)) : Fnc P w K mg base "_law_inward" 2 ["_law_state_here"] (SpP K P_l_inward) :=
  ok_pure (ps := ["_law_state_here"]) F hm sc_l_inward (fun _ _ _ _ _ _ us hl => match us, hl with | [_], _ => rfl) (fun cdv A outer s H E hr => p_l_inward T C_l_order C_l_leapt cdv A outer s H E hr) go_l_inward
abbrev s_l_line : Stmt := topS 44
theorem sc_l_line : FnScope ["_law_state_here", "_law_found"] ["_law_state_here"] (defScope s_l_line) :=
  ⟨rfl, rfl, rfl, by decide +kernel, rfl, by decide +kernel, by decide +kernel⟩
def t_l_line (K : Fg) : TS := (tSeq (tAsg (tLst (tCons (tVar 0) tNil)) (gName 1))
  (tSeq (tWhile (tB (tNotN (tCall (SpP K P_l_inward) [] E0 (tCons (tOp (rIxL K) (tVar 1) (tUn (rU fun i => .int (-i)) (tC (.int 1)))) tNil)))) (tDrop (tBM K "list" rAppend (tVar 1) (tCons (tCall (SpP K P_l_inward) [] E0 (tCons (tOp (rIxL K) (tVar 1) (tUn (rU fun i => .int (-i)) (tC (.int 1)))) tNil)) tNil))))
  (tRet (tRevL K (tVar 1)))))
theorem p_l_line {P : Program} {w : World} {K : Fg} {mg : Str → Option Value} {base : Heap} {f : Addr} (T : Bl mg) (C_l_inward : Fnc P w K mg base "_law_inward" 2 ["_law_state_here"] (SpP K P_l_inward)) (cdv : Value) (A : Around) (outer : List PySem.Env) (s : Shared) (H : Hp) (E : XK)
    (hr : Room 2 (A.deeper (PyProof.Rows.envOfC "_law_line" (defScope s_l_line) s.heap.objs.size f cdv))) : PSs (cxN P w K mg base ["_law_state_here", "_law_found"] "_law_line" s_l_line f cdv A outer s H E) (defBody s_l_line) (t_l_line K) :=
  (pss_cons (ps_set (i := 1) sc_l_line.nd rfl (.inl rfl) (pe_lst (pa_cons (pv 0) pa_nil)))
    (pss_cons (ps_while PassesOwn.never (pt_cmp (pc_notN (pe_fnc C_l_inward (hr.mono (by decide)) (by rfl) (pa_cons (pe_ix ix_list (pv 1) (pe_un un_neg pe_int) (fun _ _ => rfl)) pa_nil))) (by rfl)) (pss_one (ps_expr (pe_bm PySem.F.plainAttrs_list PySem.F.slot_list_append PySem.F.type_list_append mt_append (pv 1) (pa_cons (pe_fnc C_l_inward (hr.mono (by decide)) (by rfl) (pa_cons (pe_ix ix_list (pv 1) (pe_un un_neg pe_int) (fun _ _ => rfl)) pa_nil)) pa_nil)))))
    (pss_one (ps_ret (pe_revL (pv 1))))))
theorem go_l_line {K : Fg} : ∀ ds r, P_l_line ds r → ds.length = 1 ∧ Go K true (t_l_line K) (startE 2 (ds.map .val)) { N := fun _ => r = .none, R := fun d _ => d = r } := by
  rintro _ _ ⟨m, g, o, p, hg, hp, rfl, rfl⟩
  refine ⟨rfl, ?_⟩
  unfold t_l_line
  refine q_own (n_lst (a_cons (e_var rfl) a_nil) (le_ble rfl)) ?_
  refine q_while (fun k e => ∃ (l : List Pr) (q : Pr), Pos q ∧ q.1 + q.2 ≤ k ∧ l ++ upF k q = upF 100 p ∧ l.length + k ≤ 100 ∧ e = [.val (stD m g o p), .own ((l ++ [q]).map (stD m g o))]) 100 ⟨[], p, hp, by have := hp.2.2; omega, rfl, by decide, rfl⟩ ?_
  rintro k _ ⟨l, q, hq, hk, hu, hl, rfl⟩
  have elast : atI ((l ++ [q]).map (stD m g o)) (-1) = some (stD m g o q) := by
    rw [List.map_append]
    exact atI_last _ _
  have hcall : ∀ es, es[1]? = some (.own ((l ++ [q]).map (stD m g o))) → EvE K (tCall (SpP K P_l_inward) [] E0 (tCons (tOp (rIxL K) (tVar 1) (tUn (rU fun i => .int (-i)) (tC (.int 1)))) tNil)) es (dPar (parentP q) (stD m g o)) := fun es he =>
    e_call (a_cons (e_ixL (w_var he) (e_un e_int r_neg) elast) a_nil) ⟨m, g, o, q, hg, hq, rfl, rfl⟩
  refine ⟨!(parentP q).isNone, t_B ((e_notN (hcall _ rfl)).is (by rw [dPar_non _ _ fun _ => rfl])), fun hb => ?_, fun hb => ?_⟩
  · cases hp2 : parentP q with
    | none =>
      rw [hp2] at hb
      cases hb
    | some t =>
      rw [hp2] at hcall
      have ⟨ht, hlt⟩ := up_pos' hp2 hq
      cases k with
      | zero =>
        have := hq.1
        omega
      | succ k =>
        refine s_app (i := 1) rfl (hcall _ rfl) (by rw [List.length_map, List.length_append]; show l.length + 1 < _; omega) ⟨k, Nat.lt_succ_self k, l ++ [q], t, ht, by omega, ?_, ?_, ?_⟩
        · have e : upF (k + 1) q = q :: upF k t := by
            show (match parentP q with | none => [q] | some t => q :: upF k t) = _
            rw [hp2]
          rw [e] at hu
          rw [List.append_assoc]
          exact hu
        · rw [List.length_append]
          show l.length + 1 + k ≤ 100
          omega
        · rw [List.map_append (l₂ := [t])]
          rfl
  · cases hp2 : parentP q with
    | some t =>
      rw [hp2] at hb
      cases hb
    | none =>
      refine s_ret ((n_rev (w_var (i := 1) rfl)).e) ?_
      have e : upF k q = [q] := by
        cases k with
        | zero => rfl
        | succ k =>
          show (match parentP q with | none => [q] | some t => q :: upF k t) = _
          rw [hp2]
      rw [e] at hu
      unfold lineM
      rw [← hu, List.map_reverse]
theorem ok_l_line {P : Program} {w : World} {K : Fg} {mg : Str → Option Value} {base : Heap} {f : Addr} {fd : FuncData} (T : Bl mg) (C_l_inward : Fnc P w K mg base "_law_inward" 2 ["_law_state_here"] (SpP K P_l_inward)) (F : Fun K "_law_line" "_law_line" s_l_line f fd) (hm : mg "_law_line" = some (.ref f)) : Fnc P w K mg base "_law_line" 3 ["_law_state_here"] (SpP K P_l_line) :=
  ok_pure (ps := ["_law_state_here"]) F hm sc_l_line (fun _ _ _ _ _ _ us hl => match us, hl with | [_], _ => rfl) (fun cdv A outer s H E hr => p_l_line T C_l_inward cdv A outer s H E hr) go_l_line
abbrev s_l_way : Stmt := topS 45
theorem sc_l_way : FnScope ["_law_one", "_law_other", "_law_first", "_law_second", "_law_same", "_law_a", "_law_b"] ["_law_one", "_law_other"] (defScope s_l_way) :=
  ⟨rfl, rfl, rfl, by decide +kernel, rfl, by decide +kernel, by decide +kernel⟩
def t_l_way (K : Fg) : TS := (tSeq (tPar 2 3 (tCons (tCall (SpP K P_l_line) [] E0 (tCons (tVar 0) tNil)) (tCons (tCall (SpP K P_l_line) [] E0 (tCons (tVar 1) tNil)) tNil)))
  (tSeq (tAsg (tCB (Evl.rLenS K) (tCons (tLc (iZip K (tCons (tVar 2) (tCons (tVar 3) tNil))) (gTup K 2 (gCons (gName 5) (gCons (gName 6) gNil))) (tTest (tOp (rEqD K) (tVar 5) (tVar 6))) (tC (.int 1)) [5, 6]) tNil)) (gName 4))
  (tRet (tOp rCat (tRevL K (tSl (rSlL K) (tVar 2) (tPart (tOp (rI0 fun i j => .int (i - j)) (tVar 4) (tC (.int 1)))) tNoPart)) (tSl (rSlL K) (tVar 3) (tPart (tVar 4)) tNoPart)))))
theorem p_l_way {P : Program} {w : World} {K : Fg} {mg : Str → Option Value} {base : Heap} {f : Addr} (T : Bl mg) (C_l_line : Fnc P w K mg base "_law_line" 3 ["_law_state_here"] (SpP K P_l_line)) (cdv : Value) (A : Around) (outer : List PySem.Env) (s : Shared) (H : Hp) (E : XK)
    (hr : Room 3 (A.deeper (PyProof.Rows.envOfC "_law_way" (defScope s_l_way) s.heap.objs.size f cdv))) : PSs (cxN P w K mg base ["_law_one", "_law_other", "_law_first", "_law_second", "_law_same", "_law_a", "_law_b"] "_law_way" s_l_way f cdv A outer s H E) (defBody s_l_way) (t_l_way K) :=
  (pss_cons (ps_par (i := 2) (j := 3) rfl sc_l_way.nd rfl rfl (by decide) rfl rfl (pa_cons (pe_fnc C_l_line (hr.mono (by decide)) (by rfl) (pa_cons (pv 0) pa_nil)) (pa_cons (pe_fnc C_l_line (hr.mono (by decide)) (by rfl) (pa_cons (pv 1) pa_nil)) pa_nil)) (by rfl))
    (pss_cons (ps_set (i := 4) sc_l_way.nd rfl (.inl rfl) (pe_callB call_len_seq (by rfl) T.len (by decide +kernel) (pa_cons (pe_lc (own := [("_law_a", 5), ("_law_b", 6)]) rfl sc_l_way.nd (pi_zip (by rfl) T.zip (pa_cons (pv 2) (pa_cons (pv 3) pa_nil))) (blkOk_by (own := [("_law_a", 5), ("_law_b", 6)]) (N := ["_law_one", "_law_other", "_law_first", "_law_second", "_law_same", "_law_a", "_law_b"]) (sc := defScope s_l_way) (by decide +kernel)) (fun _ _ _ _ _ => (pg_tup rfl (pgs_cons (pg_name (i := 5) sc_l_way.nd rfl (.inl rfl)) (pgs_cons (pg_name (i := 6) sc_l_way.nd rfl (.inl rfl)) pgs_nil)))) (fun _ _ _ _ _ => (pts_one (pt_cmpR (op_eqD hr.units) (pv 5) (pv 6) (nomark _)))) (fun _ _ _ _ _ => pe_int)) pa_nil)))
    (pss_one (ps_ret (pe_op op_cat (pe_revL (pe_slice sl_list (pv 2) (po_some (pe_op op_sub (pv 4) pe_int)) po_none)) (pe_slice sl_list (pv 3) (po_some (pv 4)) po_none))))))
theorem go_l_way {K : Fg} : ∀ ds r, P_l_way ds r → ds.length = 2 ∧ Go K true (t_l_way K) (startE 7 (ds.map .val)) { N := fun _ => r = .none, R := fun d _ => d = r } := by
  rintro _ _ ⟨m, g, o, p, q, hg, hp, hq, hs, rfl, rfl⟩
  refine ⟨rfl, ?_⟩
  unfold t_l_way
  refine q_par (EvE.i (e_call (a_cons (e_var rfl) a_nil) ⟨m, g, o, p, hg, hp, rfl, rfl⟩)) (EvE.i (e_call (a_cons (e_var rfl) a_nil) ⟨m, g, o, q, hg, hq, rfl, rfl⟩)) ?_
  have pl : ∀ a ∈ lineM p, Pos a := fun a ha => upF_pos 100 p hp a (List.mem_reverse.mp ha)
  have ql : ∀ a ∈ lineM q, Pos a := fun a ha => upF_pos 100 q hq a (List.mem_reverse.mp ha)
  have n1 : (lineM p).length ≤ 101 := by
    unfold lineM
    rw [List.length_reverse]
    exact (upF_len 100 p).1
  have n2 : (lineM q).length ≤ 101 := by
    unfold lineM
    rw [List.length_reverse]
    exact (upF_len 100 q).1
  unfold wayM
  have sz := sameM_zip (lineM p) (lineM q)
  have sle := sameM_le (lineM p) (lineM q)
  generalize lineM p = l1 at pl n1 hs sz sle ⊢
  generalize lineM q = l2 at ql n2 hs sz sle ⊢
  refine q_val (i := 4) (d := .int ((sameM l1 l2 : Nat) : Int)) (EvE.is (e_len (EvN.w (n_lc (xs := l1.zip l2) (enc := fun q => PyData.tuple [stD m g o q.1, stD m g o q.2]) (fun q => eqP q.1 q.2) (fun _ => .int 1) (by rw [← zip_st]; exact i_zip (e_var rfl) (e_var rfl)) ?_ fun a ha => ⟨[(5, stD m g o a.1), (6, stD m g o a.2)], tg_tup2, by simp, ?_, fun _ => e_int⟩))) ?_) ?_
  · rw [List.length_zip]
    omega
  · have ⟨b1, b2, _⟩ := pl _ (List.of_mem_zip ha).1
    have ⟨c1, c2, _⟩ := ql _ (List.of_mem_zip ha).2
    exact EvT.is (t_test (e_op (e_var rfl) (e_var rfl) (r_eqD (stD_shaped _ _ _ _) (stD_shaped _ _ _ _)))) (stD_inj hg b1 b2 c1 c2)
  · rw [List.length_map, sz]
  refine s_ret (EvN.e (EvN.is (n_cat (EvN.is (n_rev (EvN.w (n_sl (EvE.w (e_var rfl)) (o_some (i := ((sameM l1 l2 - 1 : Nat) : Int)) (EvE.is (e_op (e_var rfl) e_int r_I0) ?_)) o_none))) (by rw [cut_from])) (EvN.is (n_sl (EvE.w (e_var rfl)) (o_some (i := ((sameM l1 l2 : Nat) : Int)) (e_var rfl)) o_none) (by rw [cut_from])) ?_) rfl)) ?_
  · congr 1
    omega
  · rw [List.length_reverse, List.length_drop, List.length_drop, List.length_map, List.length_map]
    omega
  · rw [List.map_append, List.map_reverse, List.map_drop, List.map_drop]
theorem ok_l_way {P : Program} {w : World} {K : Fg} {mg : Str → Option Value} {base : Heap} {f : Addr} {fd : FuncData} (T : Bl mg) (C_l_line : Fnc P w K mg base "_law_line" 3 ["_law_state_here"] (SpP K P_l_line)) (F : Fun K "_law_way" "_law_way" s_l_way f fd) (hm : mg "_law_way" = some (.ref f)) : Fnc P w K mg base "_law_way" 4 ["_law_one", "_law_other"] (SpP K P_l_way) :=
  ok_pure (ps := ["_law_one", "_law_other"]) F hm sc_l_way (fun _ _ _ _ _ _ us hl => match us, hl with | [_, _], _ => rfl) (fun cdv A outer s H E hr => p_l_way T C_l_line cdv A outer s H E hr) go_l_way
abbrev s_l_far : Stmt := topS 46
theorem sc_l_far : FnScope ["_law_one", "_law_other"] ["_law_one", "_law_other"] (defScope s_l_far) :=
  ⟨rfl, rfl, rfl, by decide +kernel, rfl, by decide +kernel, by decide +kernel⟩
def t_l_far (K : Fg) : TS := (tRet (tOp (rI0 fun i j => .int (i - j)) (tCB (Evl.rLenS K) (tCons (tCall (SpP K P_l_way) [] E0 (tCons (tVar 0) (tCons (tVar 1) tNil))) tNil)) (tC (.int 1))))
theorem p_l_far {P : Program} {w : World} {K : Fg} {mg : Str → Option Value} {base : Heap} {f : Addr} (T : Bl mg) (C_l_way : Fnc P w K mg base "_law_way" 4 ["_law_one", "_law_other"] (SpP K P_l_way)) (cdv : Value) (A : Around) (outer : List PySem.Env) (s : Shared) (H : Hp) (E : XK)
    (hr : Room 4 (A.deeper (PyProof.Rows.envOfC "_law_far" (defScope s_l_far) s.heap.objs.size f cdv))) : PSs (cxN P w K mg base ["_law_one", "_law_other"] "_law_far" s_l_far f cdv A outer s H E) (defBody s_l_far) (t_l_far K) :=
  (pss_one (ps_ret (pe_op op_sub (pe_callB call_len_seq (by rfl) T.len (by decide +kernel) (pa_cons (pe_fnc C_l_way (hr.mono (by decide)) (by rfl) (pa_cons (pv 0) (pa_cons (pv 1) pa_nil))) pa_nil)) pe_int)))
theorem go_l_far {K : Fg} : ∀ ds r, P_l_far ds r → ds.length = 2 ∧ Go K true (t_l_far K) (startE 2 (ds.map .val)) { N := fun _ => r = .none, R := fun d _ => d = r } := by
  rintro _ _ ⟨m, g, o, p, q, hg, hp, hq, hs, rfl, rfl⟩
  refine ⟨rfl, ?_⟩
  unfold t_l_far
  refine s_ret (EvE.is (e_op (e_len (EvE.w (e_call (a_cons (e_var rfl) (a_cons (e_var rfl) a_nil)) ⟨m, g, o, p, q, hg, hp, hq, hs, rfl, rfl⟩))) e_int r_I0) ?_) rfl
  congr 1
  have ⟨s1, s2⟩ := sameM_le (lineM p) (lineM q)
  unfold farM farL wayM
  rw [List.length_map, List.length_append, List.length_reverse, List.length_drop, List.length_drop]
  omega
theorem ok_l_far {P : Program} {w : World} {K : Fg} {mg : Str → Option Value} {base : Heap} {f : Addr} {fd : FuncData} (T : Bl mg) (C_l_way : Fnc P w K mg base "_law_way" 4 ["_law_one", "_law_other"] (SpP K P_l_way)) (F : Fun K "_law_far" "_law_far" s_l_far f fd) (hm : mg "_law_far" = some (.ref f)) : Fnc P w K mg base "_law_far" 5 ["_law_one", "_law_other"] (SpP K P_l_far) :=
  ok_pure (ps := ["_law_one", "_law_other"]) F hm sc_l_far (fun _ _ _ _ _ _ us hl => match us, hl with | [_, _], _ => rfl) (fun cdv A outer s H E hr => p_l_far T C_l_way cdv A outer s H E hr) go_l_far
abbrev s_l_behind : Stmt := topS 47
theorem sc_l_behind : FnScope ["_law_state_here", "_law_leaps", "_law_found", "_law_turn", "_law_later", "_law_here", "_law_left", "_law_middle", "_law_right"] ["_law_state_here", "_law_leaps"] (defScope s_l_behind) :=
  ⟨rfl, rfl, rfl, by decide +kernel, rfl, by decide +kernel, by decide +kernel⟩
def t_l_behind (K : Fg) : TS := (tSeq (tAsg (tLst (tCons (tVar 0) tNil)) (gName 2))
  (tSeq (tFor (iRng1 (tCons (tVar 1) tNil)) (gName 3) (tSeq (tAsg (tLst tNil) (gName 4))
  (tSeq (tFor (iList K (tVar 2)) (gName 5) (tSeq (tAsg (tCall (SpP K P_l_order) [] E0 (tCons (tVar 5) tNil)) (gLst K 3 (gCons (gName 6) (gCons (gName 7) (gCons (gName 8) gNil)))))
  (tAsg (tOp rCat (tVar 4) (tLst (tCons (tCall (SpP K P_l_leapt) [] E0 (tCons (tVar 5) (tCons (tVar 7) (tCons (tVar 6) tNil)))) (tCons (tCall (SpP K P_l_leapt) [] E0 (tCons (tVar 5) (tCons (tVar 7) (tCons (tVar 8) tNil)))) tNil)))) (gName 4))))
  (tAsg (tVar 4) (gName 2)))))
  (tRet (tVar 2))))
theorem p_l_behind {P : Program} {w : World} {K : Fg} {mg : Str → Option Value} {base : Heap} {f : Addr} (T : Bl mg) (C_l_order : Fnc P w K mg base "_law_order" 1 ["_law_state_here"] (SpP K P_l_order)) (C_l_leapt : Fnc P w K mg base "_law_leapt" 1 ["_law_state_here", "_law_stone", "_law_over"] (SpP K P_l_leapt)) (cdv : Value) (A : Around) (outer : List PySem.Env) (s : Shared) (H : Hp) (E : XK)
    (hr : Room 1 (A.deeper (PyProof.Rows.envOfC "_law_behind" (defScope s_l_behind) s.heap.objs.size f cdv))) : PSs (cxN P w K mg base ["_law_state_here", "_law_leaps", "_law_found", "_law_turn", "_law_later", "_law_here", "_law_left", "_law_middle", "_law_right"] "_law_behind" s_l_behind f cdv A outer s H E) (defBody s_l_behind) (t_l_behind K) :=
  (pss_cons (ps_set (i := 2) sc_l_behind.nd rfl (.inl rfl) (pe_lst (pa_cons (pv 0) pa_nil)))
    (pss_cons (ps_for PassesOwn.never rfl (pi_range1 (by rfl) T.range (pa_cons (pv 1) pa_nil)) (pg_name (i := 3) sc_l_behind.nd rfl (.inl rfl)) (pss_cons (ps_set (i := 4) sc_l_behind.nd rfl (.inl rfl) (pe_lst pa_nil))
    (pss_cons (ps_for PassesOwn.never rfl (pi_list (pv 2)) (pg_name (i := 5) sc_l_behind.nd rfl (.inl rfl)) (pss_cons (ps_asg (pe_fnc C_l_order (hr.mono (by decide)) (by rfl) (pa_cons (pv 5) pa_nil)) (pg_lst rfl (pgs_cons (pg_name (i := 6) sc_l_behind.nd rfl (.inl rfl)) (pgs_cons (pg_name (i := 7) sc_l_behind.nd rfl (.inl rfl)) (pgs_cons (pg_name (i := 8) sc_l_behind.nd rfl (.inl rfl)) pgs_nil)))))
    (pss_one (ps_set (i := 4) sc_l_behind.nd rfl (.inl rfl) (pe_op op_cat (pv 4) (pe_lst (pa_cons (pe_fnc C_l_leapt (hr.mono (by decide)) (by rfl) (pa_cons (pv 5) (pa_cons (pv 7) (pa_cons (pv 6) pa_nil)))) (pa_cons (pe_fnc C_l_leapt (hr.mono (by decide)) (by rfl) (pa_cons (pv 5) (pa_cons (pv 7) (pa_cons (pv 8) pa_nil)))) pa_nil))))))))
    (pss_one (ps_set (i := 2) sc_l_behind.nd rfl (.inl rfl) (pv 4))))))
    (pss_one (ps_ret (pv 2)))))
theorem go_l_behind {K : Fg} : ∀ ds r, P_l_behind ds r → ds.length = 2 ∧ Go K true (t_l_behind K) (startE 9 (ds.map .val)) { N := fun _ => r = .none, R := fun d _ => d = r } := by
  rintro _ _ ⟨m, g, o, p, hg, h1, h2, h3, rfl, rfl⟩
  refine ⟨rfl, ?_⟩
  unfold t_l_behind
  refine q_lst (n_lst (a_cons (e_var rfl) a_nil) (le_ble rfl)) ?_
  refine q_for (i_rng1 (n := 1) (e_var rfl) (by decide) (by decide)) (fun i e => ∃ e3 e4 e5 e6 e7 e8, e = [.val (stD m g o p), .val (.int 1), .val (.list (if i = 0 then [stD m g o p] else [stD m g o (p.1, p.1 + p.2), stD m g o (p.1 + p.2, p.2)])), e3, e4, e5, e6, e7, e8]) ⟨_, _, _, _, _, _, rfl⟩ ?_ ?_
  · rintro i d _ hi ⟨e3, e4, e5, e6, e7, e8, rfl⟩
    have ⟨hi1, hd⟩ := rng_get hi
    subst hd
    have hi0 : i = 0 := by
      have : i < 1 := hi1
      omega
    subst hi0
    refine ⟨_, tg_name, ?_⟩
    refine q_lst (n_lst a_nil (le_ble rfl)) ?_
    refine q_for (i_list (ds := [stD m g o p]) (e_var rfl)) (fun i e => ∃ e3 e5 e6 e7 e8, e = [.val (stD m g o p), .val (.int 1), .val (.list [stD m g o p]), e3, .val (.list (if i = 0 then [] else [stD m g o (p.1, p.1 + p.2), stD m g o (p.1 + p.2, p.2)])), e5, e6, e7, e8]) ⟨_, _, _, _, _, rfl⟩ ?_ ?_
    · rintro i d _ hi ⟨e3, e5, e6, e7, e8, rfl⟩
      have hi0 : i = 0 ∧ d = stD m g o p := by
        cases i with
        | zero => exact ⟨rfl, (Option.some.inj hi).symm⟩
        | succ i => simp at hi
      obtain ⟨rfl, rfl⟩ := hi0
      refine ⟨_, tg_name, ?_⟩
      refine q_tgt (e_call (a_cons (e_var rfl) a_nil) (P_ord hg h1 h2)) tg_lst3 ?_
      refine s_item (en := .val (.list [stD m g o (p.1, p.1 + p.2), stD m g o (p.1 + p.2, p.2)])) (EvE.i (EvN.e (n_catE (xs := []) (e_var rfl) (EvN.e (n_lst (a_cons (e_call (a_cons (e_var rfl) (a_cons (e_var rfl) (a_cons (e_var rfl) a_nil))) ⟨_, _, _, plc_len _ _ _ _, (oP o p).lt3.2.1, (oP o p).lt3.1, rfl, (st_outL h1 h2 (by omega)).symm⟩) (a_cons (e_call (a_cons (e_var rfl) (a_cons (e_var rfl) (a_cons (e_var rfl) a_nil))) ⟨_, _, _, plc_len _ _ _ _, (oP o p).lt3.2.1, (oP o p).lt3.2.2, rfl, (st_outR h1 h2 (by omega)).symm⟩) a_nil)) (le_ble rfl))) (le_ble rfl)))) ⟨_, _, _, _, _, rfl⟩
    · rintro _ ⟨e3, e5, e6, e7, e8, rfl⟩
      exact s_item (EvE.i (e_var rfl)) ⟨_, _, _, _, _, _, rfl⟩
  · rintro _ ⟨e3, e4, e5, e6, e7, e8, rfl⟩
    exact s_ret (e_var rfl) rfl
theorem ok_l_behind {P : Program} {w : World} {K : Fg} {mg : Str → Option Value} {base : Heap} {f : Addr} {fd : FuncData} (T : Bl mg) (C_l_order : Fnc P w K mg base "_law_order" 1 ["_law_state_here"] (SpP K P_l_order)) (C_l_leapt : Fnc P w K mg base "_law_leapt" 1 ["_law_state_here", "_law_stone", "_law_over"] (SpP K P_l_leapt)) (F : Fun K "_law_behind" "_law_behind" s_l_behind f fd) (hm : mg "_law_behind" = some (.ref f)) : Fnc P w K mg base "_law_behind" 2 ["_law_state_here", "_law_leaps"] (SpP K P_l_behind) :=
  ok_pure (ps := ["_law_state_here", "_law_leaps"]) F hm sc_l_behind (fun _ _ _ _ _ _ us hl => match us, hl with | [_, _], _ => rfl) (fun cdv A outer s H E hr => p_l_behind T C_l_order C_l_leapt cdv A outer s H E hr) go_l_behind
abbrev s_l_common : Stmt := topS 50
theorem sc_l_common : FnScope ["_law_one", "_law_other"] ["_law_one", "_law_other"] (defScope s_l_common) :=
  ⟨rfl, rfl, rfl, by decide +kernel, rfl, by decide +kernel, by decide +kernel⟩
def t_l_common (K : Fg) : TS := (tSeq (tPar 0 1 (tCons (tCB (fun xs H Q => ∃ i, xs = [.int i] ∧ Q (.int (if i < 0 then -i else i)) H) (tCons (tVar 0) tNil)) (tCons (tCB (fun xs H Q => ∃ i, xs = [.int i] ∧ Q (.int (if i < 0 then -i else i)) H) (tCons (tVar 1) tNil)) tNil)))
  (tSeq (tWhile (tTest (tOp rNe (tVar 1) (tC (.int 0)))) (tPar 0 1 (tCons (tVar 1) (tCons (tOp (rI (fun _ j => 0 < j) fun i j => .int (i % j)) (tVar 0) (tVar 1)) tNil))))
  (tRet (tVar 0))))
theorem p_l_common {P : Program} {w : World} {K : Fg} {mg : Str → Option Value} {base : Heap} {f : Addr} (T : Bl mg) (cdv : Value) (A : Around) (outer : List PySem.Env) (s : Shared) (H : Hp) (E : XK)
    (hr : Room 0 (A.deeper (PyProof.Rows.envOfC "_law_common" (defScope s_l_common) s.heap.objs.size f cdv))) : PSs (cxN P w K mg base ["_law_one", "_law_other"] "_law_common" s_l_common f cdv A outer s H E) (defBody s_l_common) (t_l_common K) :=
  (pss_cons (ps_par (i := 0) (j := 1) rfl sc_l_common.nd rfl rfl (by decide) rfl rfl (pa_cons (pe_callB call_abs (by rfl) T.abs (by decide +kernel) (pa_cons (pv 0) pa_nil)) (pa_cons (pe_callB call_abs (by rfl) T.abs (by decide +kernel) (pa_cons (pv 1) pa_nil)) pa_nil)) (by rfl))
    (pss_cons (ps_while PassesOwn.never (pt_cmpR op_ne (pv 1) pe_int (nomark _)) (pss_one (ps_par (i := 0) (j := 1) rfl sc_l_common.nd rfl rfl (by decide) rfl rfl (pa_cons (pv 1) (pa_cons (pe_op op_mod (pv 0) (pv 1)) pa_nil)) (by rfl))))
    (pss_one (ps_ret (pv 0)))))
theorem go_l_common {K : Fg} : ∀ ds r, P_l_common ds r → ds.length = 2 ∧ Go K true (t_l_common K) (startE 2 (ds.map .val)) { N := fun _ => r = .none, R := fun d _ => d = r } := by
  rintro _ _ ⟨a, b, rfl, rfl⟩
  refine ⟨rfl, ?_⟩
  unfold t_l_common
  refine q_par (e1 := .val (.int (a : Int))) (e2 := .val (.int (b : Int))) (EvE.i (EvE.is (e_cb (a_cons (e_var rfl) a_nil) ra_abs) ?_)) (EvE.i (EvE.is (e_cb (a_cons (e_var rfl) a_nil) ra_abs) ?_)) (go_gcd (s_ret (e_var rfl) rfl))
  · rw [if_neg (by omega)]
  · rw [if_neg (by omega)]
theorem ok_l_common {P : Program} {w : World} {K : Fg} {mg : Str → Option Value} {base : Heap} {f : Addr} {fd : FuncData} (T : Bl mg) (F : Fun K "_law_common" "_law_common" s_l_common f fd) (hm : mg "_law_common" = some (.ref f)) : Fnc P w K mg base "_law_common" 1 ["_law_one", "_law_other"] (SpP K P_l_common) :=
  ok_pure (ps := ["_law_one", "_law_other"]) F hm sc_l_common (fun _ _ _ _ _ _ us hl => match us, hl with | [_, _], _ => rfl) (fun cdv A outer s H E hr => p_l_common T cdv A outer s H E hr) go_l_common
abbrev s_l_pair : Stmt := topS 51
theorem sc_l_pair : FnScope ["_law_state_here", "_law_left", "_law_middle", "_law_right", "_law_unit", "_law_still"] ["_law_state_here"] (defScope s_l_pair) :=
  ⟨rfl, rfl, rfl, by decide +kernel, rfl, by decide +kernel, by decide +kernel⟩
def t_l_pair (K : Fg) : TS := (tSeq (tAsg (tCB (rSortU3 K) (tCons (tVar 0) tNil)) (gLst K 3 (gCons (gName 1) (gCons (gName 2) (gCons (gName 3) gNil)))))
  (tSeq (tPar 4 5 (tCons (tCall (SpP K P_l_common) [] E0 (tCons (tOp (rI0 fun i j => .int (i - j)) (tVar 2) (tVar 1)) (tCons (tOp (rI0 fun i j => .int (i - j)) (tVar 3) (tVar 2)) tNil))) (tCons (tOp (rI0 fun i j => .int (i - j)) (tOp (rI0 fun i j => .int (i + j)) (tVar 1) (tVar 3)) (tVar 2)) tNil)))
  (tRet (tTup (tCons (tVar 5) (tCons (tVar 4) (tCons (tTup (tCons (tOp (rI CDiv fun i j => .int (i / j)) (tOp (rI0 fun i j => .int (i - j)) (tVar 3) (tVar 5)) (tVar 4)) (tCons (tOp (rI CDiv fun i j => .int (i / j)) (tOp (rI0 fun i j => .int (i - j)) (tVar 5) (tVar 1)) (tVar 4)) tNil))) tNil)))))))
theorem p_l_pair {P : Program} {w : World} {K : Fg} {mg : Str → Option Value} {base : Heap} {f : Addr} (T : Bl mg) (C_l_common : Fnc P w K mg base "_law_common" 1 ["_law_one", "_law_other"] (SpP K P_l_common)) (cdv : Value) (A : Around) (outer : List PySem.Env) (s : Shared) (H : Hp) (E : XK)
    (hr : Room 1 (A.deeper (PyProof.Rows.envOfC "_law_pair" (defScope s_l_pair) s.heap.objs.size f cdv))) : PSs (cxN P w K mg base ["_law_state_here", "_law_left", "_law_middle", "_law_right", "_law_unit", "_law_still"] "_law_pair" s_l_pair f cdv A outer s H E) (defBody s_l_pair) (t_l_pair K) :=
  (pss_cons (ps_asg (pe_callB cr_sortU3 (by rfl) T.sorted (by decide +kernel) (pa_cons (pv 0) pa_nil)) (pg_lst rfl (pgs_cons (pg_name (i := 1) sc_l_pair.nd rfl (.inl rfl)) (pgs_cons (pg_name (i := 2) sc_l_pair.nd rfl (.inl rfl)) (pgs_cons (pg_name (i := 3) sc_l_pair.nd rfl (.inl rfl)) pgs_nil)))))
    (pss_cons (ps_par (i := 4) (j := 5) rfl sc_l_pair.nd rfl rfl (by decide) rfl rfl (pa_cons (pe_fnc C_l_common (hr.mono (by decide)) (by rfl) (pa_cons (pe_op op_sub (pv 2) (pv 1)) (pa_cons (pe_op op_sub (pv 3) (pv 2)) pa_nil))) (pa_cons (pe_op op_sub (pe_op op_add (pv 1) (pv 3)) (pv 2)) pa_nil)) (by rfl))
    (pss_one (ps_ret (pe_tup (pa_cons (pv 5) (pa_cons (pv 4) (pa_cons (pe_tup (pa_cons (pe_op op_fdiv (pe_op op_sub (pv 3) (pv 5)) (pv 4)) (pa_cons (pe_op op_fdiv (pe_op op_sub (pv 5) (pv 1)) (pv 4)) pa_nil))) pa_nil))))))))
theorem go_l_pair {K : Fg} : ∀ ds r, P_l_pair ds r → ds.length = 1 ∧ Go K true (t_l_pair K) (startE 6 (ds.map .val)) { N := fun _ => r = .none, R := fun d _ => d = r } := by
  rintro _ _ ⟨m, g, o, q, hg, hg2, h1, h2, hc, rfl, rfl⟩
  refine ⟨rfl, ?_⟩
  unfold t_l_pair
  have ⟨l1, l2⟩ := st_lt (m := m) hg h1 h2
  obtain ⟨k, rfl⟩ := Int.eq_ofNat_of_zero_le (show 0 ≤ g by omega)
  have hk : (k : Int) ≠ 0 := by omega
  refine q_tgt (e_sortSt (e_var rfl) l1 l2) tg_lst3 ?_
  refine q_par (e1 := .val (.int (k : Int))) (e2 := .val (.int m)) (EvE.i (EvE.is (e_call (a_cons (e_op (e_var rfl) (e_var rfl) r_I0) (a_cons (e_op (e_var rfl) (e_var rfl) r_I0) a_nil)) ⟨k * q.1, k * q.2, by rw [← st_gap1 m k q, ← st_gap2 m k q], rfl⟩) ?_)) (EvE.i (EvE.is (e_op (e_op (e_var rfl) (e_var rfl) r_I0) (e_var rfl) r_I0) ?_)) ?_
  · rw [gcd_grain hc]
  · congr 1
    rw [Int.mul_sub]
    omega
  refine s_ret (EvE.is (e_tup (a_cons (e_var rfl) (a_cons (e_var rfl) (a_cons (e_tup (a_cons (e_op (e_op (e_var rfl) (e_var rfl) r_I0) (e_var rfl) (r_I ⟨by omega, by omega⟩)) (a_cons (e_op (e_op (e_var rfl) (e_var rfl) r_I0) (e_var rfl) (r_I ⟨by omega, by omega⟩)) a_nil)) (le_ble rfl)) a_nil))) (le_ble rfl)) ?_) rfl
  have e1 : (m + (k : Int) * q.1 - m) / (k : Int) = q.1 := by rw [show m + (k : Int) * q.1 - m = k * q.1 by omega, Int.mul_ediv_cancel_left _ hk]
  have e2 : (m - (m - (k : Int) * q.2)) / (k : Int) = q.2 := by rw [show m - (m - (k : Int) * q.2) = k * q.2 by omega, Int.mul_ediv_cancel_left _ hk]
  rw [e1, e2]
  rfl
theorem ok_l_pair {P : Program} {w : World} {K : Fg} {mg : Str → Option Value} {base : Heap} {f : Addr} {fd : FuncData} (T : Bl mg) (C_l_common : Fnc P w K mg base "_law_common" 1 ["_law_one", "_law_other"] (SpP K P_l_common)) (F : Fun K "_law_pair" "_law_pair" s_l_pair f fd) (hm : mg "_law_pair" = some (.ref f)) : Fnc P w K mg base "_law_pair" 2 ["_law_state_here"] (SpP K P_l_pair) :=
  ok_pure (ps := ["_law_state_here"]) F hm sc_l_pair (fun _ _ _ _ _ _ us hl => match us, hl with | [_], _ => rfl) (fun cdv A outer s H E hr => p_l_pair T C_l_common cdv A outer s H E hr) go_l_pair
end LR
namespace LR
open PySem L2 PySem.W
open Evl (Ex)
abbrev s_l_walk : Stmt := topS 40
theorem sc_l_walk : FnScope ["_law_row", "_law_state_here", "_law_most", "_law_turn", "_law_left", "_law_middle", "_law_right"] ["_law_row", "_law_state_here", "_law_most"] (defScope s_l_walk) :=
  ⟨rfl, rfl, rfl, by decide +kernel, rfl, by decide +kernel, by decide +kernel⟩
def t_l_walk (K : Fg) : TS := (tSeq (tFor (iRng1 (tCons (tCall (SpR K P_l_taken) [] E0 (tCons (tVar 0) (tCons (tOp (rI0 fun i j => .int (i + j)) (tVar 2) (tC (.int 1))) tNil))) tNil)) (gName 3) (tSeq (tAsg (tCall (SpP K P_l_order) [] E0 (tCons (tVar 1) tNil)) (gLst K 3 (gCons (gName 4) (gCons (gName 5) (gCons (gName 6) gNil)))))
  (tAsg (tCall (SpP K P_l_leapt) [] E0 (tCons (tVar 1) (tCons (tVar 5) (tCons (tCall (SpR K P_l_pick) [] E0 (tCons (tVar 0) (tCons (tLst (tCons (tVar 4) (tCons (tVar 6) tNil))) tNil))) tNil)))) (gName 1))))
  (tRet (tVar 1)))
theorem p_l_walk {P : Program} {w : World} {K : Fg} {mg : Str → Option Value} {base : Heap} {f : Addr} (T : Bl mg) (C_l_taken : Fnc P w K mg base "_law_taken" 1 ["_law_row", "_law_many"] (SpR K P_l_taken)) (C_l_order : Fnc P w K mg base "_law_order" 1 ["_law_state_here"] (SpP K P_l_order)) (C_l_pick : Fnc P w K mg base "_law_pick" 2 ["_law_row", "_law_things"] (SpR K P_l_pick)) (C_l_leapt : Fnc P w K mg base "_law_leapt" 1 ["_law_state_here", "_law_stone", "_law_over"] (SpP K P_l_leapt)) (cdv : Value) (A : Around) (outer : List PySem.Env) (s : Shared) (H : Hp) (E : XK)
    (hr : Room 2 (A.deeper (PyProof.Rows.envOfC "_law_walk" (defScope s_l_walk) s.heap.objs.size f cdv))) : PSs (cxN P w K mg base ["_law_row", "_law_state_here", "_law_most", "_law_turn", "_law_left", "_law_middle", "_law_right"] "_law_walk" s_l_walk f cdv A outer s H E) (defBody s_l_walk) (t_l_walk K) :=
  (pss_cons (ps_for PassesOwn.never rfl (pi_range1 (by rfl) T.range (pa_cons (pe_fnc C_l_taken (hr.mono (by decide)) (by rfl) (pa_cons (pv 0) (pa_cons (pe_op op_add (pv 2) pe_int) pa_nil))) pa_nil)) (pg_name (i := 3) sc_l_walk.nd rfl (.inl rfl)) (pss_cons (ps_asg (pe_fnc C_l_order (hr.mono (by decide)) (by rfl) (pa_cons (pv 1) pa_nil)) (pg_lst rfl (pgs_cons (pg_name (i := 4) sc_l_walk.nd rfl (.inl rfl)) (pgs_cons (pg_name (i := 5) sc_l_walk.nd rfl (.inl rfl)) (pgs_cons (pg_name (i := 6) sc_l_walk.nd rfl (.inl rfl)) pgs_nil)))))
    (pss_one (ps_set (i := 1) sc_l_walk.nd rfl (.inl rfl) (pe_fnc C_l_leapt (hr.mono (by decide)) (by rfl) (pa_cons (pv 1) (pa_cons (pv 5) (pa_cons (pe_fnc C_l_pick (hr.mono (by decide)) (by rfl) (pa_cons (pv 0) (pa_cons (pe_lst (pa_cons (pv 4) (pa_cons (pv 6) pa_nil))) pa_nil))) pa_nil))))))))
    (pss_one (ps_ret (pv 1))))
theorem nd0 : Nd 0 (1, 1) := ⟨by decide, by decide, by decide, by decide, by decide, by decide⟩
theorem nd_l {n : Nat} {p : Pr} (h : Nd n p) (hn : n < 4) : Nd (n + 1) (p.1, p.1 + p.2) := by
  have ⟨a, b, co, a8, b8, s⟩ := h
  have hc : Nat.gcd p.1 (p.1 + p.2) = 1 := by
    rw [Nat.gcd_self_add_right]
    exact co
  match n, hn with
  | 0, _ | 1, _ | 2, _ | 3, _ =>
    simp only [List.getD_cons_zero, List.getD_cons_succ] at a8 b8 s
    refine ⟨a, by show 1 ≤ p.1 + p.2; omega, hc, ?_, ?_, ?_⟩ <;> (simp only [List.getD_cons_zero, List.getD_cons_succ]; omega)
theorem nd_r {n : Nat} {p : Pr} (h : Nd n p) (hn : n < 4) : Nd (n + 1) (p.1 + p.2, p.2) := by
  have ⟨a, b, co, a8, b8, s⟩ := h
  have hc : Nat.gcd (p.1 + p.2) p.2 = 1 := by
    rw [Nat.gcd_add_self_left]
    exact co
  match n, hn with
  | 0, _ | 1, _ | 2, _ | 3, _ =>
    simp only [List.getD_cons_zero, List.getD_cons_succ] at a8 b8 s
    refine ⟨by show 1 ≤ p.1 + p.2; omega, b, hc, ?_, ?_, ?_⟩ <;> (simp only [List.getD_cons_zero, List.getD_cons_succ]; omega)
theorem nd_4 {n : Nat} {p : Pr} (h : Nd n p) (hn : n ≤ 4) : Nd 4 p := by
  have ⟨a, b, co, a8, b8, s⟩ := h
  match n, hn with
  | 0, _ | 1, _ | 2, _ | 3, _ | 4, _ =>
    simp only [List.getD_cons_zero, List.getD_cons_succ] at a8 b8 s
    refine ⟨a, b, co, ?_, ?_, ?_⟩ <;> (simp only [List.getD_cons_zero, List.getD_cons_succ]; omega)
theorem go_l_walk {K : Fg} : ∀ (x : Int × Int × O6) (row ds : List PyData), P_l_walk.pre x row ds → ds.length = 2 ∧ ∀ a, Go K false (t_l_walk K) (startE 7 (.row a row :: ds.map .val)) { N := fun _ => False, R := fun d e => ∃ row', e[0]? = some (.row a row') ∧ P_l_walk.post x ds d row' } := by
  rintro ⟨m, g, o⟩ row _ ⟨hrow, hg, rfl⟩
  refine ⟨rfl, fun a => ?_⟩
  replace hg : 1 ≤ g := hg
  unfold t_l_walk
  refine q_rngM (n := 0) (m_call (R := P_l_taken) (x := (5 : Int)) rfl (ma_pure (e_op (e_var rfl) e_int r_I0) (ma_nil ⟨row, rfl, ⟨hrow, by decide, by decide, rfl⟩, ?_⟩)))
  rintro _ row1 ⟨hrow1, t, t0, t1, rfl⟩
  refine ⟨t, rfl, ?_⟩
  refine q_for (i_rng1 e_int (by omega) (by omega)) (fun i e => ∃ row p e3 e4 e5 e6, RowOk row ∧ Nd i p ∧ e = [.row a row, .val (stD m g o p), .val (.int 4), e3, e4, e5, e6]) ⟨row1, (1, 1), _, _, _, _, hrow1, nd0, rfl⟩ ?_ ?_
  · rintro i d _ hi ⟨row2, p, e3, e4, e5, e6, hr2, hn, rfl⟩
    have ⟨hlt, hd⟩ := rng_get hi
    subst hd
    have hi4 : i < 4 := by omega
    have hs13 := (nd_4 hn (by omega)).s
    simp only [List.getD_cons_zero, List.getD_cons_succ] at hs13
    refine ⟨_, tg_name, ?_⟩
    refine q_tgt (e_call (a_cons (e_var rfl) a_nil) (P_ord hg hn.a hn.b)) tg_lst3 ?_
    refine s_valM (m_callP (ma_pure (e_var rfl) (ma_pure (e_var rfl) (ma_cons (M1 := fun d e => ∃ row' e3 e4 e5 e6, RowOk row' ∧ (d = .int ((oP o p).l : Int) ∨ d = .int ((oP o p).r : Int)) ∧ e = [.row a row', .val (stD m g o p), .val (.int 4), e3, e4, e5, e6]) (m_call (R := P_l_pick) (x := [.int ((oP o p).l : Int), .int ((oP o p).r : Int)]) rfl (ma_pure (EvN.e (n_lst (a_cons (e_var rfl) (a_cons (e_var rfl) a_nil)) (le_ble rfl))) (ma_nil ⟨row2, rfl, ⟨hr2, le_ble (a := 1) rfl, le_ble (a := 3) rfl, rfl⟩, ?_⟩))) ?_))))
    · rintro r row' ⟨hr', hm⟩
      exact ⟨row', _, _, _, _, hr', by simpa using hm, rfl⟩
    · rintro _ _ ⟨row', f3, f4, f5, f6, hr', hd | hd, rfl⟩
      · subst hd
        exact ma_nil ⟨_, ⟨_, _, _, plc_len _ _ _ _, (oP o p).lt3.2.1, (oP o p).lt3.1, rfl, (st_outL hn.a hn.b (by omega)).symm⟩, row', _, _, _, _, _, hr', nd_l hn hi4, rfl⟩
      · subst hd
        exact ma_nil ⟨_, ⟨_, _, _, plc_len _ _ _ _, (oP o p).lt3.2.1, (oP o p).lt3.2.2, rfl, (st_outR hn.a hn.b (by omega)).symm⟩, row', _, _, _, _, _, hr', nd_r hn hi4, rfl⟩
  · rintro _ ⟨row2, p, e3, e4, e5, e6, hr2, hn, rfl⟩
    rw [rng_len] at hn
    exact s_ret (e_var rfl) ⟨row2, rfl, hr2, p, nd_4 hn (by omega), rfl⟩
theorem ok_l_walk {P : Program} {w : World} {K : Fg} {mg : Str → Option Value} {base : Heap} {f : Addr} {fd : FuncData} (T : Bl mg) (C_l_taken : Fnc P w K mg base "_law_taken" 1 ["_law_row", "_law_many"] (SpR K P_l_taken)) (C_l_order : Fnc P w K mg base "_law_order" 1 ["_law_state_here"] (SpP K P_l_order)) (C_l_pick : Fnc P w K mg base "_law_pick" 2 ["_law_row", "_law_things"] (SpR K P_l_pick)) (C_l_leapt : Fnc P w K mg base "_law_leapt" 1 ["_law_state_here", "_law_stone", "_law_over"] (SpP K P_l_leapt)) (F : Fun K "_law_walk" "_law_walk" s_l_walk f fd) (hm : mg "_law_walk" = some (.ref f)) : Fnc P w K mg base "_law_walk" 3 ["_law_row", "_law_state_here", "_law_most"] (SpR K P_l_walk) :=
  ok_row (x0 := "_law_row") (ps := ["_law_state_here", "_law_most"]) F hm sc_l_walk (fun _ _ _ _ _ _ us hl => match us, hl with | [_, _, _], _ => rfl) (fun cdv A outer s H E hr => p_l_walk T C_l_taken C_l_order C_l_pick C_l_leapt cdv A outer s H E hr) go_l_walk
abbrev s_l_state : Stmt := topS 39
theorem sc_l_state : FnScope ["_law_row", "_law_most", "_law_still", "_law_unit", "_law_stones", "_law_state_here", "_law_at"] ["_law_row", "_law_most"] (defScope s_l_state) :=
  ⟨rfl, rfl, rfl, by decide +kernel, rfl, by decide +kernel, by decide +kernel⟩
def t_l_state (K : Fg) : TS := (tSeq (tPar 2 3 (tCons (tOp (rI0 fun i j => .int (i - j)) (tCall (SpR K P_l_taken) [] E0 (tCons (tVar 0) (tCons (tC (.int 41)) tNil))) (tC (.int 20))) (tCons (tCall (SpR K P_l_pick) [] E0 (tCons (tVar 0) (tCons (tLst (tCons (tC (.int 1)) (tCons (tC (.int 1)) (tCons (tC (.int 2)) (tCons (tC (.int 3)) (tCons (tC (.int 10)) tNil)))))) tNil))) tNil)))
  (tSeq (tAsg (tCall (SpR K P_l_pick) [] E0 (tCons (tVar 0) (tCons (tLst (tCons (tTup (tCons (tC (.int 0)) (tCons (tC (.int 1)) (tCons (tC (.int 2)) tNil)))) (tCons (tTup (tCons (tC (.int 0)) (tCons (tC (.int 2)) (tCons (tC (.int 1)) tNil)))) (tCons (tTup (tCons (tC (.int 1)) (tCons (tC (.int 0)) (tCons (tC (.int 2)) tNil)))) (tCons (tTup (tCons (tC (.int 1)) (tCons (tC (.int 2)) (tCons (tC (.int 0)) tNil)))) (tCons (tTup (tCons (tC (.int 2)) (tCons (tC (.int 0)) (tCons (tC (.int 1)) tNil)))) (tCons (tTup (tCons (tC (.int 2)) (tCons (tC (.int 1)) (tCons (tC (.int 0)) tNil)))) tNil))))))) tNil))) (gName 4))
  (tSeq (tAsg (tLst (tCons (tC (.int 0)) (tCons (tC (.int 0)) (tCons (tC (.int 0)) tNil)))) (gName 5))
  (tSeq (tFor (iRng1 (tCons (tC (.int 3)) tNil)) (gName 6) (tAsg (tOp (rI0 fun i j => .int (i + j)) (tVar 2) (tOp (rI CMul fun i j => .int (i * j)) (tOp (rI0 fun i j => .int (i - j)) (tVar 6) (tC (.int 1))) (tVar 3))) (gSub (tVar 5) (tOp (rIxT K) (tVar 4) (tVar 6)) rSetL)))
  (tRet (tCall (SpR K P_l_walk) [] E0 (tCons (tVar 0) (tCons (tCB (rTupS K) (tCons (tVar 5) tNil)) (tCons (tVar 1) tNil)))))))))
theorem p_l_state {P : Program} {w : World} {K : Fg} {mg : Str → Option Value} {base : Heap} {f : Addr} (T : Bl mg) (C_l_pick : Fnc P w K mg base "_law_pick" 2 ["_law_row", "_law_things"] (SpR K P_l_pick)) (C_l_taken : Fnc P w K mg base "_law_taken" 1 ["_law_row", "_law_many"] (SpR K P_l_taken)) (C_l_walk : Fnc P w K mg base "_law_walk" 3 ["_law_row", "_law_state_here", "_law_most"] (SpR K P_l_walk)) (cdv : Value) (A : Around) (outer : List PySem.Env) (s : Shared) (H : Hp) (E : XK)
    (hr : Room 3 (A.deeper (PyProof.Rows.envOfC "_law_state" (defScope s_l_state) s.heap.objs.size f cdv))) : PSs (cxN P w K mg base ["_law_row", "_law_most", "_law_still", "_law_unit", "_law_stones", "_law_state_here", "_law_at"] "_law_state" s_l_state f cdv A outer s H E) (defBody s_l_state) (t_l_state K) :=
  (pss_cons (ps_par (i := 2) (j := 3) rfl sc_l_state.nd rfl rfl (by decide) rfl rfl (pa_cons (pe_op op_sub (pe_fnc C_l_taken (hr.mono (by decide)) (by rfl) (pa_cons (pv 0) (pa_cons pe_int pa_nil))) pe_int) (pa_cons (pe_fnc C_l_pick (hr.mono (by decide)) (by rfl) (pa_cons (pv 0) (pa_cons (pe_lst (pa_cons pe_int (pa_cons pe_int (pa_cons pe_int (pa_cons pe_int (pa_cons pe_int pa_nil)))))) pa_nil))) pa_nil)) (by rfl))
    (pss_cons (ps_set (i := 4) sc_l_state.nd rfl (.inl rfl) (pe_fnc C_l_pick (hr.mono (by decide)) (by rfl) (pa_cons (pv 0) (pa_cons (pe_lst (pa_cons (pe_tup (pa_cons pe_int (pa_cons pe_int (pa_cons pe_int pa_nil)))) (pa_cons (pe_tup (pa_cons pe_int (pa_cons pe_int (pa_cons pe_int pa_nil)))) (pa_cons (pe_tup (pa_cons pe_int (pa_cons pe_int (pa_cons pe_int pa_nil)))) (pa_cons (pe_tup (pa_cons pe_int (pa_cons pe_int (pa_cons pe_int pa_nil)))) (pa_cons (pe_tup (pa_cons pe_int (pa_cons pe_int (pa_cons pe_int pa_nil)))) (pa_cons (pe_tup (pa_cons pe_int (pa_cons pe_int (pa_cons pe_int pa_nil)))) pa_nil))))))) pa_nil))))
    (pss_cons (ps_set (i := 5) sc_l_state.nd rfl (.inl rfl) (pe_lst (pa_cons pe_int (pa_cons pe_int (pa_cons pe_int pa_nil)))))
    (pss_cons (ps_for PassesOwn.never rfl (pi_range1 (by rfl) T.range (pa_cons pe_int pa_nil)) (pg_name (i := 6) sc_l_state.nd rfl (.inl rfl)) (pss_one (ps_asg (pe_op op_add (pv 2) (pe_op op_mul (pe_op op_sub (pv 6) pe_int) (pv 3))) (pg_sub (pv 5) (pe_ix ix_tup (pv 4) (pv 6) (fun _ _ => rfl)) set_list (by intros; rfl)))))
    (pss_one (ps_ret (pe_fnc C_l_walk (hr.mono (by decide)) (by rfl) (pa_cons (pv 0) (pa_cons (pe_callTy call_tuple_of (by rfl) T.t_tuple (by decide +kernel) (pa_cons (pv 5) pa_nil)) (pa_cons (pv 1) pa_nil))))))))))
def stDs (m g : Int) (o : O6) : Nat → List PyData
  | 0 => [.int 0, .int 0, .int 0]
  | 1 => ([.int 0, .int 0, .int 0] : List PyData).set o.l (.int (m + (0 + ((0 : Nat) : Int) * 1 - 1) * g))
  | 2 => (([.int 0, .int 0, .int 0] : List PyData).set o.l (.int (m + (0 + ((0 : Nat) : Int) * 1 - 1) * g))).set o.m (.int (m + (0 + ((1 : Nat) : Int) * 1 - 1) * g))
  | _ => ((([.int 0, .int 0, .int 0] : List PyData).set o.l (.int (m + (0 + ((0 : Nat) : Int) * 1 - 1) * g))).set o.m (.int (m + (0 + ((1 : Nat) : Int) * 1 - 1) * g))).set o.r (.int (m + (0 + ((2 : Nat) : Int) * 1 - 1) * g))
theorem stDs_len (m g : Int) (o : O6) (n : Nat) : (stDs m g o n).length = 3 := by
  match n with
  | 0 => rfl
  | 1 => exact List.length_set
  | 2 => exact (List.length_set).trans List.length_set
  | n + 3 => exact ((List.length_set).trans List.length_set).trans List.length_set
theorem stDs_end (m g : Int) (o : O6) : PyData.tuple (stDs m g o 3) = stD m g o (1, 1) := by
  have e0 : oP o (1, 1) = o := rfl
  unfold stD
  rw [e0]
  have e : PyData.tuple (stDs m g o 3) = dSt o (m + (0 + ((0 : Nat) : Int) * 1 - 1) * g) (m + (0 + ((1 : Nat) : Int) * 1 - 1) * g) (m + (0 + ((2 : Nat) : Int) * 1 - 1) * g) := by cases o <;> rfl
  rw [e]
  refine congrArg (fun l => PyData.tuple (List.map PyData.int l)) (plc3 ?_ ?_ ?_)
  · show m + (0 + (0 : Int) * 1 - 1) * g = m - g * 1
    omega
  · show m + (0 + (1 : Int) * 1 - 1) * g = m + g * (1 - 1)
    omega
  · show m + (0 + (2 : Int) * 1 - 1) * g = m + g * 1
    omega
def ordT (o : O6) : PyData := .tuple [.int (o.l : Int), .int (o.m : Int), .int (o.r : Int)]
theorem go_l_state {K : Fg} : ∀ (x : Unit) (row ds : List PyData), P_l_state.pre x row ds → ds.length = 1 ∧ ∀ a, Go K false (t_l_state K) (startE 7 (.row a row :: ds.map .val)) { N := fun _ => False, R := fun d e => ∃ row', e[0]? = some (.row a row') ∧ P_l_state.post x ds d row' } := by
  rintro _ row _ ⟨hrow, rfl⟩
  refine ⟨rfl, fun a => ?_⟩
  unfold t_l_state
  refine q_parM (M1 := fun d e => ∃ (row' : List PyData) (m : Int), RowOk row' ∧ -20 ≤ m ∧ m ≤ 20 ∧ d = .int m ∧ e = [.row a row', .val (.int 4), .no, .no, .no, .no, .no]) (m_op (M1 := fun d e => ∃ (row' : List PyData) (m : Int), RowOk row' ∧ 0 ≤ m ∧ m ≤ 40 ∧ d = .int m ∧ e = [.row a row', .val (.int 4), .no, .no, .no, .no, .no]) (m_call (R := P_l_taken) (x := (41 : Int)) rfl (ma_pure e_int (ma_nil ⟨row, rfl, ⟨hrow, by decide, by decide, rfl⟩, ?_⟩))) ?_) ?_
  · rintro _ row' ⟨hr', t, t0, t1, rfl⟩
    exact ⟨row', t, hr', t0, by omega, rfl, rfl⟩
  · rintro _ _ ⟨row', t, hr', t0, t1, rfl, rfl⟩
    exact EvE.m e_int ⟨_, r_I0, row', t - 20, hr', by omega, by omega, rfl, rfl⟩
  rintro _ _ ⟨row1, m, hr1, m1, m2, rfl, rfl⟩
  refine m_call (R := P_l_pick) (x := [.int 1, .int 1, .int 2, .int 3, .int 10]) rfl (ma_pure (EvN.e (n_lst (a_cons e_int (a_cons e_int (a_cons e_int (a_cons e_int (a_cons e_int a_nil))))) (le_ble rfl))) (ma_nil ⟨row1, rfl, ⟨hr1, by decide, by decide, rfl⟩, ?_⟩))
  rintro u row2 ⟨hr2, hu⟩
  have hg : ∃ g : Int, 1 ≤ g ∧ g ≤ 10 ∧ u = .int g := by
    rcases List.mem_cons.mp hu with e | hu
    · exact ⟨1, by decide, by decide, e⟩
    rcases List.mem_cons.mp hu with e | hu
    · exact ⟨1, by decide, by decide, e⟩
    rcases List.mem_cons.mp hu with e | hu
    · exact ⟨2, by decide, by decide, e⟩
    rcases List.mem_cons.mp hu with e | hu
    · exact ⟨3, by decide, by decide, e⟩
    rcases List.mem_cons.mp hu with e | hu
    · exact ⟨10, by decide, by decide, e⟩
    · cases hu
  obtain ⟨g, g1, g2, rfl⟩ := hg
  have et : ∀ (es : List En) (x y z : Int), EvE K (tTup (tCons (tC (.int x)) (tCons (tC (.int y)) (tCons (tC (.int z)) tNil)))) es (.tuple [.int x, .int y, .int z]) := fun es x y z => e_tup (a_cons e_int (a_cons e_int (a_cons e_int a_nil))) (le_ble rfl)
  refine q_valM (M := fun d e => ∃ row' o, RowOk row' ∧ d = ordT o ∧ e = [.row a row', .val (.int 4), .val (.int m), .val (.int g), .no, .no, .no]) (m_call (R := P_l_pick) (x := [ordT .o012, ordT .o021, ordT .o102, ordT .o120, ordT .o201, ordT .o210]) rfl (ma_pure (EvN.e (n_lst (a_cons (et _ _ _ _) (a_cons (et _ _ _ _) (a_cons (et _ _ _ _) (a_cons (et _ _ _ _) (a_cons (et _ _ _ _) (a_cons (et _ _ _ _) a_nil)))))) (le_ble rfl))) (ma_nil ⟨row2, rfl, ⟨hr2, by decide, by decide, rfl⟩, ?_⟩))) ?_
  · rintro r row' ⟨hr', hm⟩
    refine ⟨row', ?_⟩
    rcases List.mem_cons.mp hm with e | hm
    · exact ⟨.o012, hr', e, rfl⟩
    rcases List.mem_cons.mp hm with e | hm
    · exact ⟨.o021, hr', e, rfl⟩
    rcases List.mem_cons.mp hm with e | hm
    · exact ⟨.o102, hr', e, rfl⟩
    rcases List.mem_cons.mp hm with e | hm
    · exact ⟨.o120, hr', e, rfl⟩
    rcases List.mem_cons.mp hm with e | hm
    · exact ⟨.o201, hr', e, rfl⟩
    rcases List.mem_cons.mp hm with e | hm
    · exact ⟨.o210, hr', e, rfl⟩
    · cases hm
  rintro _ _ ⟨row3, o, hr3, rfl, rfl⟩
  refine q_own (n_lst (a_cons e_int (a_cons e_int (a_cons e_int a_nil))) (le_ble rfl)) ?_
  refine q_for (i_rng1 e_int (by decide) (by decide)) (fun i e => ∃ e6, e = [.row a row3, .val (.int 4), .val (.int m), .val (.int g), .val (ordT o), .own (stDs m g o i), e6]) ⟨_, rfl⟩ ?_ ?_
  · rintro i d _ hi ⟨e6, rfl⟩
    have ⟨hlt, hd⟩ := rng_get hi
    subst hd
    refine ⟨_, tg_name, ?_⟩
    have ⟨o1, o2, o3⟩ := o.lt3
    match i, hlt with
    | 0, _ => exact s_setL (i := 5) (j := o.l) rfl (e_op (e_var rfl) (e_op (e_op (e_var rfl) e_int r_I0) (e_var rfl) (r_I (.inl ⟨by decide, by decide⟩))) r_I0) (e_op (e_var rfl) (e_var rfl) (r_ixT rfl)) (by rw [stDs_len]; exact o1) ⟨_, rfl⟩
    | 1, _ => exact s_setL (i := 5) (j := o.m) rfl (e_op (e_var rfl) (e_op (e_op (e_var rfl) e_int r_I0) (e_var rfl) (r_I (.inl ⟨by decide, by decide⟩))) r_I0) (e_op (e_var rfl) (e_var rfl) (r_ixT rfl)) (by rw [stDs_len]; exact o2) ⟨_, rfl⟩
    | 2, _ => exact s_setL (i := 5) (j := o.r) rfl (e_op (e_var rfl) (e_op (e_op (e_var rfl) e_int r_I0) (e_var rfl) (r_I (.inl ⟨by decide, by decide⟩))) r_I0) (e_op (e_var rfl) (e_var rfl) (r_ixT rfl)) (by rw [stDs_len]; exact o3) ⟨_, rfl⟩
    | n + 3, h => exact absurd h (by show ¬ n + 3 < 3; omega)
  · rintro _ ⟨e6, rfl⟩
    rw [rng_len]
    refine s_retM (m_call (R := P_l_walk) (x := (m, g, o)) rfl (ma_pure (EvE.is (e_tuple (w_var rfl)) (stDs_end m g o)) (ma_pure (e_var rfl) (ma_nil ⟨row3, rfl, ⟨hr3, g1, rfl⟩, ?_⟩))))
    rintro _ row' ⟨hr', p, hn, rfl⟩
    exact ⟨row', rfl, hr', m, g, o, p, m1, m2, g1, g2, hn, rfl⟩
theorem ok_l_state {P : Program} {w : World} {K : Fg} {mg : Str → Option Value} {base : Heap} {f : Addr} {fd : FuncData} (T : Bl mg) (C_l_pick : Fnc P w K mg base "_law_pick" 2 ["_law_row", "_law_things"] (SpR K P_l_pick)) (C_l_taken : Fnc P w K mg base "_law_taken" 1 ["_law_row", "_law_many"] (SpR K P_l_taken)) (C_l_walk : Fnc P w K mg base "_law_walk" 3 ["_law_row", "_law_state_here", "_law_most"] (SpR K P_l_walk)) (F : Fun K "_law_state" "_law_state" s_l_state f fd) (hm : mg "_law_state" = some (.ref f)) : Fnc P w K mg base "_law_state" 4 ["_law_row", "_law_most"] (SpR K P_l_state) :=
  ok_row (x0 := "_law_row") (ps := ["_law_most"]) F hm sc_l_state (fun _ _ _ _ _ _ us hl => match us, hl with | [_, _], _ => rfl) (fun cdv A outer s H E hr => p_l_state T C_l_pick C_l_taken C_l_walk cdv A outer s H E hr) go_l_state
abbrev s_l_field : Stmt := topS 48
theorem sc_l_field : FnScope ["_law_state_here", "_law_shuts_here", "_law_found", "_law_at", "_law_there"] ["_law_state_here", "_law_shuts_here"] (defScope s_l_field) :=
  ⟨rfl, rfl, rfl, by decide +kernel, rfl, by decide +kernel, by decide +kernel⟩
def t_l_field (K : Fg) : TS := (tSeq (tPar 2 3 (tCons (tLst (tCons (tOp (rIxL K) (tCall (SpP K P_l_line) [] E0 (tCons (tVar 0) tNil)) (tC (.int 0))) tNil)) (tCons (tC (.int 0)) tNil)))
  (tSeq (tWhile (tTest (tOp (rI0 fun i j => .bl (decide (i < j))) (tVar 3) (tCB (Evl.rLenS K) (tCons (tVar 2) tNil)))) (tSeq (tFor (iList K (tCall (SpP K P_l_behind) [] E0 (tCons (tOp (rIxL K) (tVar 2) (tVar 3)) (tCons (tC (.int 1)) tNil)))) (gName 4) (tIfS (tAnd (tTest (tOp (rI0 fun i j => .bl (decide (i ≤ j))) (tOp (rIxT K) (tVar 1) (tC (.int 0))) (tCB (rMinU K) (tCons (tVar 4) tNil)))) (tTest (tOp (rI0 fun i j => .bl (decide (i ≤ j))) (tCB (rMaxU K) (tCons (tVar 4) tNil)) (tOp (rIxT K) (tVar 1) (tC (.int 1)))))) (tDrop (tBM K "list" rAppend (tVar 2) (tCons (tVar 4) tNil))) tNext))
  (tAsg (tOp (rI0 fun i j => .int (i + j)) (tVar 3) (tC (.int 1))) (gName 3))))
  (tRet (tVar 2))))
theorem p_l_field {P : Program} {w : World} {K : Fg} {mg : Str → Option Value} {base : Heap} {f : Addr} (T : Bl mg) (C_l_line : Fnc P w K mg base "_law_line" 3 ["_law_state_here"] (SpP K P_l_line)) (C_l_behind : Fnc P w K mg base "_law_behind" 2 ["_law_state_here", "_law_leaps"] (SpP K P_l_behind)) (cdv : Value) (A : Around) (outer : List PySem.Env) (s : Shared) (H : Hp) (E : XK)
    (hr : Room 3 (A.deeper (PyProof.Rows.envOfC "_law_field" (defScope s_l_field) s.heap.objs.size f cdv))) : PSs (cxN P w K mg base ["_law_state_here", "_law_shuts_here", "_law_found", "_law_at", "_law_there"] "_law_field" s_l_field f cdv A outer s H E) (defBody s_l_field) (t_l_field K) :=
  (pss_cons (ps_par (i := 2) (j := 3) rfl sc_l_field.nd rfl rfl (by decide) rfl rfl (pa_cons (pe_lst (pa_cons (pe_ix ix_list (pe_fnc C_l_line (hr.mono (by decide)) (by rfl) (pa_cons (pv 0) pa_nil)) pe_int (fun _ _ => rfl)) pa_nil)) (pa_cons pe_int pa_nil)) (by rfl))
    (pss_cons (ps_while PassesOwn.never (pt_cmpR op_lt (pv 3) (pe_callB call_len_seq (by rfl) T.len (by decide +kernel) (pa_cons (pv 2) pa_nil)) (nomark _)) (pss_cons (ps_for PassesOwn.never rfl (pi_list (pe_fnc C_l_behind (hr.mono (by decide)) (by rfl) (pa_cons (pe_ix ix_list (pv 2) (pv 3) (fun _ _ => rfl)) (pa_cons pe_int pa_nil)))) (pg_name (i := 4) sc_l_field.nd rfl (.inl rfl)) (pss_one (ps_if (PW.pt (pw_and (pt_cmpR op_le (pe_ix ix_tup (pv 1) pe_int (fun _ _ => rfl)) (pe_callB (cr_minU rfl hr.units) (by rfl) T.min (by decide +kernel) (pa_cons (pv 4) pa_nil)) (nomark _)) (pw_and1 (pt_cmpR op_le (pe_callB (cr_maxU rfl hr.units) (by rfl) T.max (by decide +kernel) (pa_cons (pv 4) pa_nil)) (pe_ix ix_tup (pv 1) pe_int (fun _ _ => rfl)) (nomark _))))) (pss_one (ps_expr (pe_bm PySem.F.plainAttrs_list PySem.F.slot_list_append PySem.F.type_list_append mt_append (pv 2) (pa_cons (pv 4) pa_nil)))) pss_nil)))
    (pss_one (ps_set (i := 3) sc_l_field.nd rfl (.inl rfl) (pe_op op_add (pv 3) pe_int)))))
    (pss_one (ps_ret (pv 2)))))
theorem line_head {p : Pr} (h : Pos p) (hc : Nat.gcd p.1 p.2 = 1) : ∃ l, lineM p = (1, 1) :: l := by
  have e := upF_last 100 p h.1 h.2.1 (by have := h.2.2; omega) hc
  unfold lineM
  rw [← List.head?_reverse] at e
  cases hl : (upF 100 p).reverse with
  | nil =>
    rw [hl] at e
    cases e
  | cons a l =>
    rw [hl] at e
    have e2 : a = (1, 1) := Option.some.inj e
    exact ⟨l, by rw [e2]⟩
theorem fits_iff {m g lo hi : Int} {q : Pr} {w h : Nat} (hg : 1 ≤ g) (hw : (hi - m) / g = w) (hh : (m - lo) / g = h) : decide (lo ≤ m - g * q.2) = Nat.ble q.2 h ∧ decide (m + g * q.1 ≤ hi) = Nat.ble q.1 w := by
  constructor
  · rw [Bool.eq_iff_iff, decide_eq_true_eq, Nat.ble_eq]
    have e := Int.le_ediv_iff_mul_le (a := (q.2 : Int)) (b := m - lo) (c := g) (by omega)
    rw [hh, Int.mul_comm] at e
    omega
  · rw [Bool.eq_iff_iff, decide_eq_true_eq, Nat.ble_eq]
    have e := Int.le_ediv_iff_mul_le (a := (q.1 : Int)) (b := hi - m) (c := g) (by omega)
    rw [hw, Int.mul_comm] at e
    omega
theorem kid_tests {w h : Nat} {p : Pr} (h1 : p.1 ≤ w) (h2 : p.2 ≤ h) : kidsM w h p = ([(p.1, p.1 + p.2), (p.1 + p.2, p.2)] : List Pr).filter fun q => Nat.ble q.2 h && Nat.ble q.1 w := by
  unfold kidsM
  have e1 : Nat.ble p.1 w = true := Nat.ble_eq.mpr h1
  have e2 : Nat.ble p.2 h = true := Nat.ble_eq.mpr h2
  simp only [List.filter_cons, List.filter_nil, e1, e2, Bool.and_true, Bool.true_and]
  cases Nat.ble (p.1 + p.2) h <;> cases Nat.ble (p.1 + p.2) w <;> rfl
theorem go_l_field {K : Fg} : ∀ ds r, P_l_field ds r → ds.length = 2 ∧ Go K true (t_l_field K) (startE 5 (ds.map .val)) { N := fun _ => r = .none, R := fun d _ => d = r } := by
  rintro _ _ ⟨m, g, o, p, lo, hi, w, h, fs, D, hf, rfl, rfl⟩
  refine ⟨rfl, ?_⟩
  unfold t_l_field
  have hg := D.g1
  have hpos : Pos p := ⟨D.a1, D.b1, by have := D.a2; have := D.b2; omega⟩
  have ⟨l, hl⟩ := line_head hpos D.co
  refine q_par (e1 := .own [stD m g o (1, 1)]) (EvN.i (n_lst (a_cons (e_ixL (EvE.w (e_call (a_cons (e_var rfl) a_nil) ⟨m, g, o, p, hg, hpos, rfl, rfl⟩)) e_int (x := stD m g o (1, 1)) (by rw [hl]; exact atI_nat (j := 0) rfl)) a_nil) (le_ble rfl))) e_int.i ?_
  refine q_while (fun k e => ∃ (done todo : List Pr) (e4 : En), fieldF k w h done todo = some fs ∧ done.length + k ≤ 400 ∧ todo.length ≤ done.length + 1 ∧ (∀ q ∈ todo, 1 ≤ q.1 ∧ q.1 ≤ w ∧ 1 ≤ q.2 ∧ q.2 ≤ h) ∧ e = [.val (stD m g o p), .val (dW lo hi), .own ((done.reverse ++ todo).map (stD m g o)), .val (.int (done.length : Nat)), e4]) 400 ⟨[], [(1, 1)], _, hf, by decide, by decide, fun q hq => by
    have e : q = (1, 1) := by simpa using hq
    rw [e]
    exact ⟨by decide, D.w1, by decide, D.h1⟩, rfl⟩ ?_
  rintro k _ ⟨done, todo, e4, hf, hk, ht, hb, rfl⟩
  refine ⟨decide (((done.length : Nat) : Int) < (((done.reverse ++ todo).map (stD m g o)).length : Nat)), t_test (e_op (e_var rfl) (e_len (w_var rfl)) r_cmp), fun hb1 => ?_, fun hb1 => ?_⟩
  · have hlt := of_decide_eq_true hb1
    rw [List.length_map, List.length_append, List.length_reverse] at hlt
    cases todo with
    | nil => exact absurd hlt (by simp)
    | cons q todo =>
      have ⟨q1, q2, q3, q4⟩ := hb q (by simp)
      have w2 := D.w2
      have h2 := D.h2
      cases k with
      | zero => cases hf
      | succ k =>
        have hf2 : fieldF k w h (q :: done) (todo ++ kidsM w h q) = some fs := hf
        have hkt := kid_tests (w := w) (h := h) (p := q) q2 q4
        have hat : atI ((done.reverse ++ q :: todo).map (stD m g o)) ((done.length : Nat) : Int) = some (stD m g o q) := by
          refine atI_nat ?_
          rw [List.getElem?_map, List.getElem?_append_right (by rw [List.length_reverse]; exact Nat.le_refl _), List.length_reverse, Nat.sub_self]
          rfl
        refine q_for (i_list (e_call (a_cons (e_ixL (w_var rfl) (e_var rfl) hat) (a_cons e_int a_nil)) ⟨m, g, o, q, hg, q1, q3, by omega, rfl, rfl⟩))
          (fun i e => ∃ e4, e = [.val (stD m g o p), .val (dW lo hi), .own ((done.reverse ++ q :: (todo ++ (([(q.1, q.1 + q.2), (q.1 + q.2, q.2)] : List Pr).take i).filter fun q => Nat.ble q.2 h && Nat.ble q.1 w)).map (stD m g o)), .val (.int (done.length : Nat)), e4]) ⟨_, by
            show _ = [_, _, En.own ((done.reverse ++ q :: (todo ++ [])).map (stD m g o)), _, _]
            rw [List.append_nil]⟩ ?_ ?_
        · rintro i d _ hi2 ⟨e4, rfl⟩
          have hi3 : (([(q.1, q.1 + q.2), (q.1 + q.2, q.2)] : List Pr).map (stD m g o))[i]? = some d := hi2
          rw [List.getElem?_map] at hi3
          have ⟨t, ht2, hd⟩ := Option.map_eq_some_iff.mp hi3
          subst hd
          have htp : 1 ≤ t.1 ∧ 1 ≤ t.2 := by
            rcases List.mem_cons.mp (List.mem_of_getElem? ht2) with e | e
            · rw [e]
              exact ⟨q1, by show 1 ≤ q.1 + q.2; omega⟩
            · rw [List.mem_singleton.mp e]
              exact ⟨by show 1 ≤ q.1 + q.2; omega, q3⟩
          have ⟨l1, l2⟩ := st_lt (m := m) hg htp.1 htp.2
          have ⟨f1, f2⟩ := fits_iff (q := t) hg D.we D.he
          have htk : (([(q.1, q.1 + q.2), (q.1 + q.2, q.2)] : List Pr).take (i + 1)).filter (fun q => Nat.ble q.2 h && Nat.ble q.1 w) = (([(q.1, q.1 + q.2), (q.1 + q.2, q.2)] : List Pr).take i).filter (fun q => Nat.ble q.2 h && Nat.ble q.1 w) ++ (if (Nat.ble t.2 h && Nat.ble t.1 w) = true then [t] else []) := by
            rw [List.take_add_one, ht2, List.filter_append]
            show _ ++ [t].filter _ = _
            rw [List.filter_cons, List.filter_nil]
          rw [htk]
          have hlen : ((([(q.1, q.1 + q.2), (q.1 + q.2, q.2)] : List Pr).take i).filter (fun q => Nat.ble q.2 h && Nat.ble q.1 w)).length ≤ 2 := Nat.le_trans (List.length_filter_le _ _) (Nat.le_trans (List.length_take_le' _ _) (Nat.le_refl 2))
          generalize (([(q.1, q.1 + q.2), (q.1 + q.2, q.2)] : List Pr).take i).filter (fun q => Nat.ble q.2 h && Nat.ble q.1 w) = new at hlen ⊢
          refine ⟨_, tg_name, ?_⟩
          refine s_if (b := Nat.ble t.2 h && Nat.ble t.1 w) (t_and (b := Nat.ble t.2 h) (EvT.is (t_test (e_op (e_op (e_var rfl) e_int (r_ixT (x := .int lo) rfl)) (e_minSt (e_var rfl) l1 l2) r_cmp)) f1) fun _ => EvT.is (t_test (e_op (e_maxSt (e_var rfl) l1 l2) (e_op (e_var rfl) e_int (r_ixT (x := .int hi) rfl)) r_cmp)) f2) (fun hb2 => ?_) fun hb2 => ?_
          · rw [if_pos hb2]
            refine s_app (i := 2) rfl (e_var rfl) ?_ ⟨.val (stD m g o t), ?_⟩
            · rw [List.length_map, List.length_append, List.length_reverse, List.length_cons, List.length_append]
              rw [List.length_cons] at ht
              omega
            · show [_, _, En.own ((done.reverse ++ q :: (todo ++ new)).map (stD m g o) ++ [stD m g o t]), _, _] = _
              have e : (done.reverse ++ q :: (todo ++ new)).map (stD m g o) ++ [stD m g o t] = (done.reverse ++ q :: (todo ++ (new ++ [t]))).map (stD m g o) := by simp
              rw [e]
          · rw [if_neg (by rw [hb2]; exact Bool.false_ne_true), List.append_nil]
            exact go_next ⟨_, rfl⟩
        · rintro _ ⟨e4, rfl⟩
          have e2 : (([(q.1, q.1 + q.2), (q.1 + q.2, q.2)] : List Pr).take ([stD m g o (q.1, q.1 + q.2), stD m g o (q.1 + q.2, q.2)].length)) = [(q.1, q.1 + q.2), (q.1 + q.2, q.2)] := rfl
          rw [e2, ← hkt]
          refine s_item (EvE.i (e_op (e_var rfl) e_int r_I0)) ⟨k, Nat.lt_succ_self k, q :: done, todo ++ kidsM w h q, e4, hf2, ?_, ?_, ?_, ?_⟩
          · rw [List.length_cons]
            omega
          · rw [List.length_cons] at ht ⊢
            rw [List.length_append]
            have : (kidsM w h q).length ≤ 2 := by
              rw [hkt]
              exact Nat.le_trans (List.length_filter_le _ _) (Nat.le_refl 2)
            omega
          · intro t ht2
            rcases List.mem_append.mp ht2 with z | z
            · exact hb t (by simp [z])
            · rw [hkt] at z
              have ⟨z1, z2⟩ := List.mem_filter.mp z
              rw [Bool.and_eq_true, Nat.ble_eq, Nat.ble_eq] at z2
              rcases List.mem_cons.mp z1 with e | e
              · rw [e] at z2 ⊢
                exact ⟨q1, z2.2, by show 1 ≤ q.1 + q.2; omega, z2.1⟩
              · rw [List.mem_singleton.mp e] at z2 ⊢
                exact ⟨by show 1 ≤ q.1 + q.2; omega, z2.2, q3, z2.1⟩
          · rw [List.reverse_cons, List.append_assoc]
            rfl
  · have hlt := of_decide_eq_false hb1
    rw [List.length_map, List.length_append, List.length_reverse] at hlt
    cases todo with
    | cons q todo => exact absurd hlt (by rw [List.length_cons]; omega)
    | nil =>
      cases k with
      | zero => cases hf
      | succ k =>
        have e : done.reverse = fs := Option.some.inj hf
        rw [List.append_nil, e]
        exact s_retOwn rfl rfl rfl
theorem ok_l_field {P : Program} {w : World} {K : Fg} {mg : Str → Option Value} {base : Heap} {f : Addr} {fd : FuncData} (T : Bl mg) (C_l_line : Fnc P w K mg base "_law_line" 3 ["_law_state_here"] (SpP K P_l_line)) (C_l_behind : Fnc P w K mg base "_law_behind" 2 ["_law_state_here", "_law_leaps"] (SpP K P_l_behind)) (F : Fun K "_law_field" "_law_field" s_l_field f fd) (hm : mg "_law_field" = some (.ref f)) : Fnc P w K mg base "_law_field" 4 ["_law_state_here", "_law_shuts_here"] (SpP K P_l_field) :=
  ok_pure (ps := ["_law_state_here", "_law_shuts_here"]) F hm sc_l_field (fun _ _ _ _ _ _ us hl => match us, hl with | [_, _], _ => rfl) (fun cdv A outer s H E hr => p_l_field T C_l_line C_l_behind cdv A outer s H E hr) go_l_field
end LR
/-! the plain law -/
namespace LR
open PySem L2 PySem.W
/-- the pairs of a box -/
structure In (w h : Nat) (p : Pr) : Prop where
  a : 1 ≤ p.1
  b : p.1 ≤ w
  c : 1 ≤ p.2
  d : p.2 ≤ h
  co : Nat.gcd p.1 p.2 = 1
theorem in_L {w h : Nat} {p : Pr} (i : In w h p) (e : p.1 + p.2 ≤ h) : In w h (p.1, p.1 + p.2) := ⟨i.a, i.b, by show 1 ≤ p.1 + p.2; have := i.a; omega, e, by
  show Nat.gcd p.1 (p.1 + p.2) = 1
  rw [Nat.gcd_self_add_right]
  exact i.co⟩
theorem in_R {w h : Nat} {p : Pr} (i : In w h p) (e : p.1 + p.2 ≤ w) : In w h (p.1 + p.2, p.2) := ⟨by show 1 ≤ p.1 + p.2; have := i.a; omega, e, i.c, i.d, by
  show Nat.gcd (p.1 + p.2) p.2 = 1
  rw [Nat.gcd_add_self_left]
  exact i.co⟩
theorem par_L {p : Pr} (h : 1 ≤ p.2) : parentP (p.1, p.1 + p.2) = some p := by
  rw [parent_lt (by show p.1 < p.1 + p.2; omega)]
  show some (p.1, p.1 + p.2 - p.1) = _
  rw [Nat.add_sub_cancel_left]
theorem par_R {p : Pr} (h : 1 ≤ p.1) : parentP (p.1 + p.2, p.2) = some p := by
  rw [parent_gt (by show p.2 < p.1 + p.2; omega)]
  show some (p.1 + p.2 - p.2, p.2) = _
  rw [Nat.add_sub_cancel]
/-- a pair of the box is the root or a child of one -/
theorem in_par {w h : Nat} {p : Pr} (i : In w h p) : p = (1, 1) ∨ ∃ q, In w h q ∧ parentP p = some q ∧ q.1 + q.2 < p.1 + p.2 ∧ (p = (q.1, q.1 + q.2) ∨ p = (q.1 + q.2, q.2)) := by
  have ⟨a, b, c, d, co⟩ := i
  rcases Nat.lt_trichotomy p.1 p.2 with l | l | l
  · refine .inr ⟨(p.1, p.2 - p.1), ⟨a, b, by show 1 ≤ p.2 - p.1; omega, by show p.2 - p.1 ≤ h; omega, ?_⟩, parent_lt l, by show p.1 + (p.2 - p.1) < _; omega, .inl ?_⟩
    · show Nat.gcd p.1 (p.2 - p.1) = 1
      rw [Nat.gcd_sub_self_right (Nat.le_of_lt l)]
      exact co
    · exact Prod.ext rfl (by show p.2 = p.1 + (p.2 - p.1); omega)
  · refine .inl ?_
    rw [l, Nat.gcd_self] at co
    exact Prod.ext (l.trans co) co
  · refine .inr ⟨(p.1 - p.2, p.2), ⟨by show 1 ≤ p.1 - p.2; omega, by show p.1 - p.2 ≤ w; omega, c, d, ?_⟩, parent_gt l, by show p.1 - p.2 + p.2 < _; omega, .inr ?_⟩
    · show Nat.gcd (p.1 - p.2) p.2 = 1
      rw [Nat.gcd_sub_self_left (Nat.le_of_lt l)]
      exact co
    · exact Prod.ext (by show p.1 = p.1 - p.2 + p.2; omega) rfl
/-- a list that holds the root and its members' children holds the box -/
theorem box_all {w h : Nat} {l : List Pr} (h0 : (1, 1) ∈ l) (hc : ∀ p ∈ l, (p.1 + p.2 ≤ h → (p.1, p.1 + p.2) ∈ l) ∧ (p.1 + p.2 ≤ w → (p.1 + p.2, p.2) ∈ l)) : ∀ (n : Nat) (p : Pr), p.1 + p.2 ≤ n → In w h p → p ∈ l
  | 0, p, hn, i => by
    have := i.a
    omega
  | n + 1, p, hn, i => by
    rcases in_par i with e | ⟨q, iq, _, hlt, e⟩
    · rw [e]
      exact h0
    · have ih := box_all h0 hc n q (by omega) iq
      rcases e with e | e
      · rw [e]
        refine (hc q ih).1 ?_
        have := i.d
        rw [e] at this
        exact this
      · rw [e]
        refine (hc q ih).2 ?_
        have := i.b
        rw [e] at this
        exact this
/-- parents behind their children -/
def Ord : List Pr → Prop
  | [] => True
  | p :: l => (∀ q, parentP p = some q → q ∈ l) ∧ Ord l
theorem pwF_facts {w h : Nat} (w1 : 1 ≤ w) (h1 : 1 ≤ h) : ∀ (n : Nat) (found rim ps : List Pr), pwF n w h found rim = some ps → Ord found → (∀ p ∈ found, In w h p) → (∀ p ∈ rim, In w h p ∧ ∀ q, parentP p = some q → q ∈ found) → ((1, 1) ∈ found ∨ (1, 1) ∈ rim) →
    (∀ p ∈ found, (p.1 + p.2 ≤ h → (p.1, p.1 + p.2) ∈ found ∨ (p.1, p.1 + p.2) ∈ rim) ∧ (p.1 + p.2 ≤ w → (p.1 + p.2, p.2) ∈ found ∨ (p.1 + p.2, p.2) ∈ rim)) → Ord ps.reverse ∧ (∀ p, p ∈ ps ↔ In w h p)
  | 0, _, _, _, e, _, _, _, _, _ => by cases e
  | n + 1, found, [], ps, e, ho, hi, _, h0, hc => by
    have e2 : found.reverse = ps := Option.some.inj e
    subst e2
    rw [List.reverse_reverse]
    refine ⟨ho, fun p => ⟨fun hp => hi p (List.mem_reverse.mp hp), fun ip => List.mem_reverse.mpr (box_all (w := w) (h := h) (l := found) ?_ (fun q hq => ⟨fun z => ?_, fun z => ?_⟩) _ p (Nat.le_refl _) ip)⟩⟩
    · rcases h0 with z | z
      · exact z
      · cases z
    · rcases (hc q hq).1 z with z | z
      · exact z
      · cases z
    · rcases (hc q hq).2 z with z | z
      · exact z
      · cases z
  | n + 1, found, p :: rim, ps, e, ho, hi, hr, h0, hc => by
    have ⟨ip, pp⟩ := hr p (by simp)
    let rim2 := (if Nat.ble (p.1 + p.2) w = true then (p.1 + p.2, p.2) :: (if Nat.ble (p.1 + p.2) h = true then (p.1, p.1 + p.2) :: rim else rim) else (if Nat.ble (p.1 + p.2) h = true then (p.1, p.1 + p.2) :: rim else rim))
    have e2 : pwF n w h (p :: found) rim2 = some ps := e
    have hm : ∀ q, q ∈ rim2 ↔ (q ∈ rim ∨ (p.1 + p.2 ≤ h ∧ q = (p.1, p.1 + p.2)) ∨ (p.1 + p.2 ≤ w ∧ q = (p.1 + p.2, p.2))) := fun q => by
      show q ∈ (if Nat.ble (p.1 + p.2) w = true then _ else _) ↔ _
      by_cases c1 : p.1 + p.2 ≤ w
      · rw [if_pos (Nat.ble_eq.mpr c1)]
        by_cases c2 : p.1 + p.2 ≤ h
        · rw [if_pos (Nat.ble_eq.mpr c2), List.mem_cons, List.mem_cons]
          constructor
          · rintro (z | z | z)
            · exact .inr (.inr ⟨c1, z⟩)
            · exact .inr (.inl ⟨c2, z⟩)
            · exact .inl z
          · rintro (z | ⟨_, z⟩ | ⟨_, z⟩)
            · exact .inr (.inr z)
            · exact .inr (.inl z)
            · exact .inl z
        · rw [if_neg (fun z => c2 (Nat.ble_eq.mp z)), List.mem_cons]
          constructor
          · rintro (z | z)
            · exact .inr (.inr ⟨c1, z⟩)
            · exact .inl z
          · rintro (z | ⟨z0, z⟩ | ⟨_, z⟩)
            · exact .inr z
            · exact absurd z0 c2
            · exact .inl z
      · rw [if_neg (fun z => c1 (Nat.ble_eq.mp z))]
        by_cases c2 : p.1 + p.2 ≤ h
        · rw [if_pos (Nat.ble_eq.mpr c2), List.mem_cons]
          constructor
          · rintro (z | z)
            · exact .inr (.inl ⟨c2, z⟩)
            · exact .inl z
          · rintro (z | ⟨_, z⟩ | ⟨z0, z⟩)
            · exact .inr z
            · exact .inl z
            · exact absurd z0 c1
        · rw [if_neg (fun z => c2 (Nat.ble_eq.mp z))]
          constructor
          · exact .inl
          · rintro (z | ⟨z0, z⟩ | ⟨z0, z⟩)
            · exact z
            · exact absurd z0 c2
            · exact absurd z0 c1
    refine pwF_facts w1 h1 n (p :: found) rim2 ps e2 ⟨pp, ho⟩ (fun q hq => ?_) (fun q hq => ?_) ?_ fun q hq => ?_
    · rcases List.mem_cons.mp hq with z | z
      · rw [z]
        exact ip
      · exact hi q z
    · rcases (hm q).mp hq with z | ⟨z1, z2⟩ | ⟨z1, z2⟩
      · have ⟨u, v⟩ := hr q (by simp [z])
        exact ⟨u, fun t ht => List.mem_cons_of_mem _ (v t ht)⟩
      · rw [z2]
        refine ⟨in_L ip z1, fun t ht => ?_⟩
        rw [par_L ip.c] at ht
        rw [← Option.some.inj ht]
        exact List.mem_cons_self
      · rw [z2]
        refine ⟨in_R ip z1, fun t ht => ?_⟩
        rw [par_R ip.a] at ht
        rw [← Option.some.inj ht]
        exact List.mem_cons_self
    · rcases h0 with z | z
      · exact .inl (List.mem_cons_of_mem _ z)
      · rcases List.mem_cons.mp z with z | z
        · rw [← z]
          exact .inl List.mem_cons_self
        · exact .inr ((hm _).mpr (.inl z))
    · have move : ∀ t, (t ∈ found ∨ t ∈ p :: rim) → (t ∈ p :: found ∨ t ∈ rim2) := fun t z => by
        rcases z with z | z
        · exact .inl (List.mem_cons_of_mem _ z)
        · rcases List.mem_cons.mp z with z | z
          · rw [z]
            exact .inl List.mem_cons_self
          · exact .inr ((hm _).mpr (.inl z))
      rcases List.mem_cons.mp hq with z | z
      · rw [z]
        exact ⟨fun u => .inr ((hm _).mpr (.inr (.inl ⟨u, rfl⟩))), fun u => .inr ((hm _).mpr (.inr (.inr ⟨u, rfl⟩)))⟩
      · exact ⟨fun u => move _ ((hc q z).1 u), fun u => move _ ((hc q z).2 u)⟩
theorem in_11 {w h : Nat} (w1 : 1 ≤ w) (h1 : 1 ≤ h) : In w h (1, 1) := ⟨Nat.le_refl _, w1, Nat.le_refl _, h1, rfl⟩
theorem ps_facts {w h : Nat} {ps : List Pr} (w1 : 1 ≤ w) (h1 : 1 ≤ h) (e : pairsM w h = some ps) : Ord ps.reverse ∧ ∀ p, p ∈ ps ↔ In w h p :=
  pwF_facts w1 h1 400 [] [(1, 1)] ps e True.intro (fun _ z => by cases z) (fun p z => by
    rw [List.mem_singleton.mp z]
    exact ⟨in_11 w1 h1, fun q z => by cases z⟩) (.inr (by simp)) fun _ z => by cases z
theorem kids_mem {w h : Nat} {p q : Pr} : q ∈ kidsM w h p ↔ ((p.1 + p.2 ≤ h ∧ q = (p.1, p.1 + p.2)) ∨ (p.1 + p.2 ≤ w ∧ q = (p.1 + p.2, p.2))) := by
  unfold kidsM
  rw [List.mem_append]
  by_cases c1 : p.1 + p.2 ≤ h <;> by_cases c2 : p.1 + p.2 ≤ w <;> simp [c1, c2]
theorem fieldF_facts {w h : Nat} (w1 : 1 ≤ w) (h1 : 1 ≤ h) : ∀ (n : Nat) (done todo fs : List Pr), fieldF n w h done todo = some fs → (∀ p ∈ done, In w h p) → (∀ p ∈ todo, In w h p) → ((1, 1) ∈ done ∨ (1, 1) ∈ todo) →
    (∀ p ∈ done, ∀ q ∈ kidsM w h p, q ∈ done ∨ q ∈ todo) → (∀ p, p ∈ fs ↔ In w h p) ∧ ∃ t, fs = done.reverse ++ t
  | 0, _, _, _, e, _, _, _, _ => by cases e
  | n + 1, done, [], fs, e, hi, _, h0, hc => by
    have e2 : done.reverse = fs := Option.some.inj e
    subst e2
    have nn : ∀ q : Pr, (q ∈ done ∨ q ∈ ([] : List Pr)) → q ∈ done := fun q z => by
      rcases z with z | z
      · exact z
      · cases z
    refine ⟨fun p => ⟨fun hp => hi p (List.mem_reverse.mp hp), fun ip => List.mem_reverse.mpr (box_all (w := w) (h := h) (l := done) (nn _ h0) (fun q hq => ⟨fun z => nn _ (hc q hq _ (kids_mem.mpr (.inl ⟨z, rfl⟩))), fun z => nn _ (hc q hq _ (kids_mem.mpr (.inr ⟨z, rfl⟩)))⟩) _ p (Nat.le_refl _) ip)⟩, [], by rw [List.append_nil]⟩
  | n + 1, done, p :: todo, fs, e, hi, ht, h0, hc => by
    have e2 : fieldF n w h (p :: done) (todo ++ kidsM w h p) = some fs := e
    have ip := ht p (by simp)
    have ⟨r1, t, r2⟩ := fieldF_facts w1 h1 n (p :: done) (todo ++ kidsM w h p) fs e2 (fun q hq => by
      rcases List.mem_cons.mp hq with z | z
      · rw [z]
        exact ip
      · exact hi q z) (fun q hq => by
      rcases List.mem_append.mp hq with z | z
      · exact ht q (by simp [z])
      · rcases kids_mem.mp z with ⟨z1, z2⟩ | ⟨z1, z2⟩
        · rw [z2]
          exact in_L ip z1
        · rw [z2]
          exact in_R ip z1) (by
      rcases h0 with z | z
      · exact .inl (List.mem_cons_of_mem _ z)
      · rcases List.mem_cons.mp z with z | z
        · rw [← z]
          exact .inl List.mem_cons_self
        · exact .inr (List.mem_append_left _ z)) (fun q hq k hk => by
      rcases List.mem_cons.mp hq with z | z
      · rw [z] at hk
        exact .inr (List.mem_append_right _ hk)
      · rcases hc q z k hk with u | u
        · exact .inl (List.mem_cons_of_mem _ u)
        · rcases List.mem_cons.mp u with u | u
          · rw [u]
            exact .inl List.mem_cons_self
          · exact .inr (List.mem_append_left _ u))
    refine ⟨r1, p :: t, ?_⟩
    rw [r2, List.reverse_cons, List.append_assoc]
    rfl
theorem fs_facts {w h : Nat} {fs : List Pr} (w1 : 1 ≤ w) (h1 : 1 ≤ h) (e : fieldM w h = some fs) : (∀ p, p ∈ fs ↔ In w h p) ∧ ∃ t, fs = (1, 1) :: t := by
  have e2 : fieldF 399 w h [(1, 1)] ([] ++ kidsM w h (1, 1)) = some fs := e
  have ⟨a, t, b⟩ := fieldF_facts w1 h1 399 [(1, 1)] ([] ++ kidsM w h (1, 1)) fs e2 (fun p z => by
    rw [List.mem_singleton.mp z]
    exact in_11 w1 h1) (fun q z => by
    rw [List.nil_append] at z
    rcases kids_mem.mp z with ⟨z1, z2⟩ | ⟨z1, z2⟩
    · rw [z2]
      exact in_L (in_11 w1 h1) z1
    · rw [z2]
      exact in_R (in_11 w1 h1) z1) (.inl (by simp)) (fun p hp q hq => by
    rw [List.mem_singleton.mp hp] at hq
    exact .inr hq)
  exact ⟨a, t, by rw [b]; rfl⟩
/-! lines -/
theorem upF_succ : ∀ (n : Nat) (p : Pr), 1 ≤ p.1 → 1 ≤ p.2 → p.1 + p.2 ≤ n + 1 → upF (n + 1) p = upF n p
  | 0, p, h1, h2, h => by omega
  | n + 1, p, h1, h2, h => by
    show (match parentP p with | none => [p] | some q => p :: upF (n + 1) q) = (match parentP p with | none => [p] | some q => p :: upF n q)
    cases hp : parentP p with
    | none => rfl
    | some q =>
      have ⟨a, b, c⟩ := up_pos hp h1 h2
      show p :: upF (n + 1) q = p :: upF n q
      rw [upF_succ n q a b (by omega)]
theorem line_par {p q : Pr} (h : parentP p = some q) (hp : Pos p) : lineM p = lineM q ++ [p] := by
  have ⟨a, b⟩ := up_pos' h hp
  have e : upF 100 p = p :: upF 99 q := by
    show (match parentP p with | none => [p] | some q => p :: upF 99 q) = _
    rw [h]
  unfold lineM
  rw [e, List.reverse_cons, upF_succ 99 q a.1 a.2.1 (by have := a.2.2; omega)]
theorem line_root {p : Pr} (h : parentP p = none) : lineM p = [p] := by
  have e : upF 100 p = [p] := by
    show (match parentP p with | none => [p] | some q => p :: upF 99 q) = _
    rw [h]
  unfold lineM
  rw [e]
  rfl
def dep (p : Pr) : Nat := (lineM p).length - 1
theorem dep_par {p q : Pr} (h : parentP p = some q) (hp : Pos p) : dep p = dep q + 1 := by
  unfold dep
  rw [line_par h hp, List.length_append]
  have : 1 ≤ (lineM q).length := by
    unfold lineM
    rw [List.length_reverse]
    exact (upF_len 100 q).2
  show (lineM q).length + 1 - 1 = (lineM q).length - 1 + 1
  omega
theorem in_pos {w h : Nat} {p : Pr} (w2 : w ≤ 15) (h2 : h ≤ 15) (i : In w h p) : Pos p := ⟨i.a, i.c, by have := i.b; have := i.d; omega⟩
/-! the greatest depth -/
theorem maxLow_ge (x y : Nat × Pr) : x.1 ≤ (maxLow x y).1 ∧ y.1 ≤ (maxLow x y).1 ∧ ((maxLow x y).1 = x.1 ∨ (maxLow x y).1 = y.1) := by
  unfold maxLow
  by_cases h : Nat.beq x.1 y.1 = true
  · have e := Nat.beq_eq.mp h
    rw [if_pos h]
    split <;> (refine ⟨?_, ?_, ?_⟩ <;> omega)
  · rw [if_neg h]
    split
    · rename_i z
      have : y.1 < x.1 := by simpa [Nat.blt_eq] using z
      refine ⟨?_, ?_, ?_⟩ <;> omega
    · rename_i z
      have : ¬ y.1 < x.1 := by simpa [Nat.blt_eq] using z
      refine ⟨?_, ?_, ?_⟩ <;> omega
theorem ht_get (L : List (Pr × (Nat × Pr))) (p r : Pr) : ∃ v : Nat × Pr, v = maxLow ((getA L p).getD (0, p)) (0, p) ∧ getA (htStep L p) r = match parentP p with
    | none => if eqP p r = true then some v else getA L r
    | some q => if eqP q r = true then some (maxLow ((getA (putA L p v) q).getD (0, q)) (v.1 + 1, v.2)) else if eqP p r = true then some v else getA L r := by
  refine ⟨_, rfl, ?_⟩
  unfold htStep
  cases parentP p with
  | none => exact getA_put p r _ L
  | some q =>
    show getA (putA (putA L p _) q _) r = _
    refine (getA_put q r _ _).trans ?_
    rw [getA_put p r]
theorem ht_all {w h M : Nat} (w2 : w ≤ 15) (h2 : h ≤ 15) (hM : ∀ p, In w h p → dep p ≤ M) : ∀ (l : List Pr) (L : List (Pr × (Nat × Pr))), Ord l → (∀ p ∈ l, In w h p) → (∀ q v, getA L q = some v → In w h q ∧ v.1 + dep q ≤ M) →
    ((∃ q ∈ l, M ≤ ((getA L q).getD (0, q)).1 + dep q) ∨ ∃ v, getA L (1, 1) = some v ∧ M ≤ v.1) → ∃ x, getA (l.foldl htStep L) (1, 1) = some x ∧ x.1 = M
  | [], L, _, _, hU, hL => by
    rcases hL with ⟨q, z, _⟩ | ⟨v, h1, h3⟩
    · cases z
    · have ⟨_, u⟩ := hU _ _ h1
      exact ⟨v, h1, by omega⟩
  | p :: l, L, ho, hi, hU, hL => by
    have ip := hi p (by simp)
    have hpos := in_pos w2 h2 ip
    have step : ∃ v : Nat × Pr, v = maxLow ((getA L p).getD (0, p)) (0, p) := ⟨_, rfl⟩
    have hg : ∀ r, getA (htStep L p) r = match parentP p with
      | none => if eqP p r = true then some (maxLow ((getA L p).getD (0, p)) (0, p)) else getA L r
      | some q => if eqP q r = true then some (maxLow ((getA (putA L p (maxLow ((getA L p).getD (0, p)) (0, p))) q).getD (0, q)) ((maxLow ((getA L p).getD (0, p)) (0, p)).1 + 1, (maxLow ((getA L p).getD (0, p)) (0, p)).2)) else if eqP p r = true then some (maxLow ((getA L p).getD (0, p)) (0, p)) else getA L r := fun r => by
      have ⟨v, e, z⟩ := ht_get L p r
      rw [e] at z
      exact z
    have ⟨g1, g2, g3⟩ := maxLow_ge ((getA L p).getD (0, p)) (0, p)
    generalize hv : maxLow ((getA L p).getD (0, p)) (0, p) = v at hg g1 g2 g3
    have hvM : v.1 + dep p ≤ M := by
      rcases g3 with z | z
      · rw [z]
        cases hgl : getA L p with
        | none => exact (Nat.zero_add _).symm ▸ hM p ip
        | some u => exact (hU p u hgl).2
      · rw [z]
        exact (Nat.zero_add _).symm ▸ hM p ip
    refine ht_all w2 h2 hM l (htStep L p) ho.2 (fun q hq => hi q (by simp [hq])) (fun r u hr => ?_) ?_
    · rw [hg] at hr
      cases hp : parentP p with
      | none =>
        rw [hp] at hr
        replace hr : (if eqP p r = true then some v else getA L r) = some u := hr
        split at hr
        · rename_i z
          have e := eqP_iff.mp z
          have e2 := Option.some.inj hr
          rw [← e, ← e2]
          exact ⟨ip, hvM⟩
        · exact hU r u hr
      | some q =>
        rw [hp] at hr
        replace hr : (if eqP q r = true then some (maxLow ((getA (putA L p v) q).getD (0, q)) (v.1 + 1, v.2)) else if eqP p r = true then some v else getA L r) = some u := hr
        have iq := hi q (List.mem_cons_of_mem _ (ho.1 q hp))
        have hd := dep_par hp hpos
        split at hr
        · rename_i z
          have e := eqP_iff.mp z
          have e2 := Option.some.inj hr
          rw [← e, ← e2]
          refine ⟨iq, ?_⟩
          have ⟨_, _, k3⟩ := maxLow_ge ((getA (putA L p v) q).getD (0, q)) (v.1 + 1, v.2)
          have hne : eqP p q = false := by
            cases hpq : eqP p q with
            | false => rfl
            | true =>
              have := eqP_iff.mp hpq
              rw [this] at hd
              omega
          have hq0 : ((getA (putA L p v) q).getD (0, q)).1 + dep q ≤ M := by
            rw [getA_put, hne, if_neg Bool.false_ne_true]
            cases hgl : getA L q with
            | none => exact (Nat.zero_add _).symm ▸ hM q iq
            | some u => exact (hU q u hgl).2
          rcases k3 with z | z
          · rw [z]
            exact hq0
          · rw [z]
            show v.1 + 1 + dep q ≤ M
            omega
        · split at hr
          · rename_i z
            have e := eqP_iff.mp z
            have e2 := Option.some.inj hr
            rw [← e, ← e2]
            exact ⟨ip, hvM⟩
          · exact hU r u hr
    · have mono : ∀ r, ((getA L r).getD (0, r)).1 ≤ ((getA (htStep L p) r).getD (0, r)).1 ∧ ((getA L r).isSome = true → (getA (htStep L p) r).isSome = true) := fun r => by
        rw [hg]
        have hpv : ∀ r, eqP p r = true → ((getA L r).getD (0, r)).1 ≤ v.1 := fun r z => by
          have e := eqP_iff.mp z
          rw [← e]
          exact g1
        cases hp : parentP p with
        | none =>
          show _ ≤ ((if eqP p r = true then some v else getA L r).getD (0, r)).1 ∧ (_ → (if eqP p r = true then some v else getA L r).isSome = true)
          split
          · rename_i z
            exact ⟨hpv r z, fun _ => rfl⟩
          · exact ⟨Nat.le_refl _, fun z => z⟩
        | some q =>
          show _ ≤ ((if eqP q r = true then some (maxLow ((getA (putA L p v) q).getD (0, q)) (v.1 + 1, v.2)) else if eqP p r = true then some v else getA L r).getD (0, r)).1 ∧ (_ → (if eqP q r = true then some (maxLow ((getA (putA L p v) q).getD (0, q)) (v.1 + 1, v.2)) else if eqP p r = true then some v else getA L r).isSome = true)
          split
          · rename_i z
            have e := eqP_iff.mp z
            subst e
            refine ⟨?_, fun _ => rfl⟩
            have ⟨k1, _, _⟩ := maxLow_ge ((getA (putA L p v) q).getD (0, q)) (v.1 + 1, v.2)
            refine Nat.le_trans ?_ k1
            rw [getA_put]
            split
            · rename_i z
              exact hpv q z
            · exact Nat.le_refl _
          · split
            · rename_i z
              exact ⟨hpv r z, fun _ => rfl⟩
            · exact ⟨Nat.le_refl _, fun z => z⟩
      rcases hL with ⟨q, hq, hm⟩ | ⟨u, h1, h3⟩
      · rcases List.mem_cons.mp hq with e | hq
        · subst e
          have hvq : M ≤ v.1 + dep q := by omega
          cases hp : parentP q with
          | none =>
            right
            have e11 : q = (1, 1) := by
              rcases in_par ip with e | ⟨t, _, e, _⟩
              · exact e
              · rw [hp] at e
                cases e
            have hgr := hg (1, 1)
            rw [hp] at hgr
            replace hgr : getA (htStep L q) (1, 1) = (if eqP q (1, 1) = true then some v else getA L (1, 1)) := hgr
            rw [if_pos (eqP_iff.mpr e11)] at hgr
            refine ⟨v, hgr, ?_⟩
            have : dep q = 0 := by
              unfold dep
              rw [line_root hp]
              rfl
            omega
          | some t =>
            left
            refine ⟨t, ho.1 t hp, ?_⟩
            have hgr := hg t
            rw [hp] at hgr
            replace hgr : getA (htStep L q) t = (if eqP t t = true then some (maxLow ((getA (putA L q v) t).getD (0, t)) (v.1 + 1, v.2)) else if eqP q t = true then some v else getA L t) := hgr
            rw [if_pos (eqP_iff.mpr rfl)] at hgr
            rw [hgr]
            have ⟨_, k2, _⟩ := maxLow_ge ((getA (putA L q v) t).getD (0, t)) (v.1 + 1, v.2)
            have hd := dep_par hp hpos
            show M ≤ (maxLow ((getA (putA L q v) t).getD (0, t)) (v.1 + 1, v.2)).1 + dep t
            have k2' : v.1 + 1 ≤ (maxLow ((getA (putA L q v) t).getD (0, t)) (v.1 + 1, v.2)).1 := k2
            omega
        · left
          refine ⟨q, hq, ?_⟩
          have := (mono q).1
          omega
      · right
        have ⟨m1, m2⟩ := mono (1, 1)
        rw [h1] at m1 m2
        have m3 := m2 rfl
        cases hgr : getA (htStep L p) (1, 1) with
        | none =>
          rw [hgr] at m3
          cases m3
        | some x =>
          rw [hgr] at m1
          exact ⟨x, rfl, Nat.le_trans h3 m1⟩
theorem max_of (f : Pr → Nat) : ∀ (l : List Pr), l ≠ [] → ∃ M, M ∈ l.map f ∧ ∀ p ∈ l, f p ≤ M
  | [], h => absurd rfl h
  | [p], _ => ⟨f p, by simp, fun q hq => by rw [List.mem_singleton.mp hq]; exact Nat.le_refl _⟩
  | p :: q :: l, _ => by
    have ⟨M, h1, h2⟩ := max_of f (q :: l) (by simp)
    by_cases h : f p ≤ M
    · refine ⟨M, List.mem_cons_of_mem _ h1, fun r hr => ?_⟩
      rcases List.mem_cons.mp hr with e | hr
      · rw [e]
        exact h
      · exact h2 r hr
    · refine ⟨f p, by simp, fun r hr => ?_⟩
      rcases List.mem_cons.mp hr with e | hr
      · rw [e]
        exact Nat.le_refl _
      · have := h2 r hr
        omega
theorem depth_law {w h : Nat} {ps fs : List Pr} (w1 : 1 ≤ w) (w2 : w ≤ 15) (h1 : 1 ≤ h) (h2 : h ≤ 15) (ep : pairsM w h = some ps) (ef : fieldM w h = some fs) : ∃ x, getA (heightsM ps) (1, 1) = some x ∧ x.1 ∈ fs.map dep ∧ ∀ p ∈ fs, dep p ≤ x.1 := by
  have ⟨o, mp⟩ := ps_facts w1 h1 ep
  have ⟨mf, t, ht⟩ := fs_facts w1 h1 ef
  have ⟨M, hM1, hM2⟩ := max_of dep fs (by rw [ht]; simp)
  have ⟨d, hd1, hd2⟩ := List.mem_map.mp hM1
  have ⟨x, hx1, hx2⟩ := ht_all (M := M) w2 h2 (fun p ip => hM2 p ((mf p).mpr ip)) ps.reverse [] o (fun p hp => (mp p).mp (List.mem_reverse.mp hp)) (fun q v z => by cases z) (.inl ⟨d, List.mem_reverse.mpr ((mp d).mpr ((mf d).mp hd1)), by
    show M ≤ 0 + dep d
    omega⟩)
  exact ⟨x, hx1, by rw [hx2]; exact hM1, fun p hp => by rw [hx2]; exact hM2 p hp⟩
end LR
/-! what the kernel reckons -/
namespace LR
open PySem L2 PySem.W
def boxB (f : Nat → Nat → Bool) (n : Nat) : Bool := (List.range n).all fun w => (List.range n).all fun h => f (w + 1) (h + 1)
theorem boxB_of {f : Nat → Nat → Bool} {n w h : Nat} (e : boxB f n = true) (w1 : 1 ≤ w) (w2 : w ≤ n) (h1 : 1 ≤ h) (h2 : h ≤ n) : f w h = true := by
  have a := List.all_eq_true.mp e (w - 1) (List.mem_range.mpr (by omega))
  have b := List.all_eq_true.mp a (h - 1) (List.mem_range.mpr (by omega))
  rw [Nat.sub_add_cancel w1, Nat.sub_add_cancel h1] at b
  exact b
def thereB (w h : Nat) : Bool := match pairsM w h, fieldM w h with
  | some ps, some fs => Nat.ble ps.length 300 && Nat.ble fs.length 300 && decide (chosenM w h ≤ 20000)
  | _, _ => false
theorem there_all : boxB thereB 15 = true := by decide +kernel
def wideB (w h : Nat) : Bool := match pairsM w h, fieldM w h with
  | some ps, some fs => if Nat.ble fs.length 60 = true then Nat.beq (widthM ps) (bestF ((fs.filter fun p => (kidsM w h p).isEmpty).map lineM) [] (lineM (1, 1)) 0) else true
  | _, _ => false
theorem wide_all : boxB wideB 15 = true := by decide +kernel
end LR
/-! the plain law: the farthest, the width -/
namespace LR
open PySem L2 PySem.W
section
variable {β : Type}
theorem replA_mem {z : Pr × β} {q : Pr} {x : β} : ∀ {L : List (Pr × β)}, z ∈ replA L q x → z = (q, x) ∨ z ∈ L
  | [], h => by cases h
  | (k, v) :: L, h => by
    unfold replA at h
    rcases List.mem_cons.mp h with e | h
    · by_cases c : eqP k q = true
      · rw [if_pos c] at e
        rw [eqP_iff.mp c] at e
        exact .inl e
      · rw [if_neg c] at e
        exact .inr (e ▸ List.mem_cons_self)
    · rcases replA_mem h with e | h
      · exact .inl e
      · exact .inr (List.mem_cons_of_mem _ h)
theorem putA_mem {z : Pr × β} {q : Pr} {x : β} {L : List (Pr × β)} (h : z ∈ putA L q x) : z = (q, x) ∨ z ∈ L := by
  unfold putA at h
  split at h
  · exact replA_mem h
  · rcases List.mem_append.mp h with h | h
    · exact .inr h
    · exact .inl (List.mem_singleton.mp h)
theorem getA_mem {q : Pr} {v : β} : ∀ {L : List (Pr × β)}, getA L q = some v → (q, v) ∈ L
  | [], h => by cases h
  | (k, u) :: L, h => by
    unfold getA at h
    by_cases c : eqP k q = true
    · rw [if_pos c] at h
      rw [← eqP_iff.mp c, ← Option.some.inj h]
      exact List.mem_cons_self
    · rw [if_neg c] at h
      exact List.mem_cons_of_mem _ (getA_mem h)
theorem has_get {q : Pr} {L : List (Pr × β)} (h : hasA L q = true) : ∃ v, getA L q = some v := by
  rw [← getA_has] at h
  exact Option.isSome_iff_exists.mp h
theorem has_put (q r : Pr) (x : β) (L : List (Pr × β)) : hasA (putA L q x) r = true ↔ q = r ∨ hasA L r = true := by
  rw [← getA_has, getA_put, ← getA_has]
  by_cases c : q = r
  · rw [if_pos (eqP_iff.mpr c)]
    exact ⟨fun _ => .inl c, fun _ => rfl⟩
  · rw [if_neg (fun z => c (eqP_iff.mp z))]
    exact ⟨.inr, fun z => z.elim (fun z => absurd z c) id⟩
end
theorem same_pre : ∀ l t : List Pr, sameM (l ++ t) l = l.length
  | [], t => by cases t <;> rfl
  | a :: l, t => by
    show (if eqP a a = true then 1 else 0) + sameM (l ++ t) l = l.length + 1
    rw [if_pos (eqP_iff.mpr rfl), same_pre l t, Nat.add_comm]
theorem same_snoc {p : Pr} : ∀ l m : List Pr, p ∉ l → sameM l (m ++ [p]) = sameM l m
  | [], m, _ => by
    cases m <;> rfl
  | a :: l, [], h => by
    show (if eqP a p = true then 1 else 0) + sameM l [] = 0
    rw [if_neg (fun z => h (by rw [eqP_iff.mp z]; exact List.mem_cons_self))]
    cases l <;> rfl
  | a :: l, b :: m, h => by
    show (if eqP a b = true then 1 else 0) + sameM l (m ++ [p]) = (if eqP a b = true then 1 else 0) + sameM l m
    rw [same_snoc l m fun z => h (List.mem_cons_of_mem _ z)]
theorem far_anc {s a : Pr} {t : List Pr} (h : lineM s = lineM a ++ t) : farM s a = t.length := by
  unfold farM farL
  rw [h, same_pre, List.length_append]
  omega
theorem far_step {s p q : Pr} (h : parentP p = some q) (hp : Pos p) (hn : p ∉ lineM s) : farM s p = farM s q + 1 := by
  unfold farM farL
  rw [line_par h hp, same_snoc _ _ hn, List.length_append]
  have ⟨a, b⟩ := sameM_le (lineM s) (lineM q)
  show (lineM s).length + ((lineM q).length + 1) - _ = _
  omega
def Good (w h : Nat) (s : Pr) (L : List (Pr × Nat)) : Prop := ∀ z ∈ L, In w h z.1 ∧ z.2 = farM s z.1
theorem in_up {w h : Nat} {p q : Pr} (i : In w h p) (e : parentP p = some q) : In w h q := by
  rcases in_par i with z | ⟨t, it, e2, _⟩
  · rw [z] at e
    cases e
  · rw [e] at e2
    rw [Option.some.inj e2]
    exact it
theorem chF_facts {w h : Nat} {s : Pr} (w2 : w ≤ 15) (h2 : h ≤ 15) : ∀ (n : Nat) (p : Pr) (t : List Pr) (L : List (Pr × Nat)), In w h p → p.1 + p.2 ≤ n + 1 → lineM s = lineM p ++ t → Good w h s L →
    Good w h s (chF n p t.length L) ∧ (∀ q, hasA L q = true → hasA (chF n p t.length L) q = true) ∧ ∀ q ∈ lineM p, hasA (chF n p t.length L) q = true
  | 0, p, t, L, i, hn, _, _ => by
    have := i.a
    have := i.c
    omega
  | n + 1, p, t, L, i, hn, hl, hg => by
    have hpos := in_pos w2 h2 i
    have hg2 : Good w h s (putA L p t.length) := fun z hz => by
      rcases putA_mem hz with e | hz
      · rw [e]
        exact ⟨i, (far_anc hl).symm⟩
      · exact hg z hz
    have e : chF (n + 1) p t.length L = match parentP p with | none => putA L p t.length | some q => chF n q (t.length + 1) (putA L p t.length) := rfl
    rw [e]
    cases hp : parentP p with
    | none =>
      refine ⟨hg2, fun q hq => (has_put _ _ _ _).mpr (.inr hq), fun q hq => (has_put _ _ _ _).mpr (.inl ?_)⟩
      rw [line_root hp] at hq
      exact (List.mem_singleton.mp hq).symm
    | some q =>
      have ⟨_, u⟩ := up_pos' hp hpos
      have hl2 : lineM s = lineM q ++ (p :: t) := by
        rw [hl, line_par hp hpos, List.append_assoc]
        rfl
      have ⟨r1, r2, r3⟩ := chF_facts w2 h2 n q (p :: t) (putA L p t.length) (in_up i hp) (by omega) hl2 hg2
      refine ⟨r1, fun q hq => r2 q ((has_put _ _ _ _).mpr (.inr hq)), fun r hr => ?_⟩
      rw [line_par hp hpos] at hr
      rcases List.mem_append.mp hr with hr | hr
      · exact r3 r hr
      · exact r2 r ((has_put _ _ _ _).mpr (.inl (List.mem_singleton.mp hr).symm))
theorem ord_app : ∀ (l m : List Pr), Ord (l ++ m) → Ord m
  | [], _, h => h
  | _ :: l, m, h => ord_app l m h.2
theorem dsF_facts {w h : Nat} {s : Pr} (w2 : w ≤ 15) (h2 : h ≤ 15) (is : In w h s) : ∀ (l done : List Pr) (L : List (Pr × Nat)), Ord (l.reverse ++ done) → (∀ p ∈ l, In w h p) → Good w h s L → (∀ q ∈ done, hasA L q = true) → (∀ q ∈ lineM s, hasA L q = true) →
    ∃ L', dsF l L = some L' ∧ Good w h s L' ∧ ∀ q, (q ∈ l ∨ hasA L q = true) → hasA L' q = true
  | [], done, L, _, _, hg, _, _ => ⟨L, rfl, hg, fun q z => z.elim (fun z => by cases z) id⟩
  | p :: l, done, L, ho, hi, hg, hd, hs => by
    rw [List.reverse_cons, List.append_assoc] at ho
    have ho2 : Ord (l.reverse ++ (p :: done)) := ho
    have op : Ord (p :: done) := ord_app _ _ ho2
    have ip := hi p (by simp)
    have hpos := in_pos w2 h2 ip
    by_cases c : hasA L p = true
    · have ⟨L', r1, r2, r3⟩ := dsF_facts w2 h2 is l (p :: done) L ho2 (fun q hq => hi q (by simp [hq])) hg (fun q hq => by
        rcases List.mem_cons.mp hq with e | hq
        · rw [e]
          exact c
        · exact hd q hq) hs
      refine ⟨L', ?_, r2, fun q z => ?_⟩
      · unfold dsF
        rw [if_pos c]
        exact r1
      · rcases z with z | z
        · rcases List.mem_cons.mp z with e | z
          · rw [e]
            exact r3 p (.inr c)
          · exact r3 q (.inl z)
        · exact r3 q (.inr z)
    · have hnl : p ∉ lineM s := fun z => c (hs p z)
      cases hp : parentP p with
      | none =>
        exfalso
        rcases in_par ip with e | ⟨t, _, e, _⟩
        · have ⟨t, ht⟩ := line_head (in_pos w2 h2 is) is.co
          rw [ht, e] at hnl
          exact hnl List.mem_cons_self
        · rw [hp] at e
          cases e
      | some q =>
        have ⟨n, hn⟩ := has_get (hd q (op.1 q hp))
        have ⟨_, en⟩ := hg _ (getA_mem hn)
        have hg2 : Good w h s (putA L p (n + 1)) := fun z hz => by
          rcases putA_mem hz with e | hz
          · rw [e]
            refine ⟨ip, ?_⟩
            show n + 1 = farM s p
            rw [far_step hp hpos hnl]
            exact congrArg (· + 1) en
          · exact hg z hz
        have up : ∀ r, hasA L r = true → hasA (putA L p (n + 1)) r = true := fun r hr => (has_put _ _ _ _).mpr (.inr hr)
        have ⟨L', r1, r2, r3⟩ := dsF_facts w2 h2 is l (p :: done) (putA L p (n + 1)) ho2 (fun q hq => hi q (by simp [hq])) hg2 (fun q hq => by
          rcases List.mem_cons.mp hq with e | hq
          · rw [e]
            exact (has_put _ _ _ _).mpr (.inl rfl)
          · exact up q (hd q hq)) fun q hq => up q (hs q hq)
        refine ⟨L', ?_, r2, fun r z => ?_⟩
        · unfold dsF
          rw [if_neg c, hp]
          show (match getA L q with | none => none | some n => dsF l (putA L p (n + 1))) = _
          rw [hn]
          exact r1
        · rcases z with z | z
          · rcases List.mem_cons.mp z with e | z
            · rw [e]
              exact r3 p (.inr ((has_put _ _ _ _).mpr (.inl rfl)))
            · exact r3 r (.inl z)
          · exact r3 r (.inr (up r z))
theorem far_law {w h : Nat} {s : Pr} {ps fs : List Pr} (w1 : 1 ≤ w) (w2 : w ≤ 15) (h1 : 1 ≤ h) (h2 : h ≤ 15) (is : In w h s) (ep : pairsM w h = some ps) (ef : fieldM w h = some fs) :
    ∃ L n, distM ps s = some L ∧ n ∈ L.map (·.2) ∧ (∀ k ∈ L.map (·.2), k ≤ n) ∧ n ∈ fs.map (farM s) ∧ ∀ q ∈ fs, farM s q ≤ n := by
  have ⟨o, mp⟩ := ps_facts w1 h1 ep
  have ⟨mf, t, ht⟩ := fs_facts w1 h1 ef
  have ⟨c1, _, c3⟩ := chF_facts w2 h2 100 s [] [] is (by have := is.b; have := is.d; omega) (List.append_nil _).symm (fun z hz => by cases hz)
  have ⟨L, r1, r2, r3⟩ := dsF_facts w2 h2 is ps [] (chF 100 s 0 []) (by rw [List.append_nil]; exact o) (fun p hp => (mp p).mp hp) c1 (fun q z => by cases z) c3
  have ⟨n, n1, n2⟩ := max_of (farM s) fs (by rw [ht]; simp)
  refine ⟨L, n, r1, ?_, fun k hk => ?_, n1, n2⟩
  · have ⟨d, hd, e⟩ := List.mem_map.mp n1
    have ⟨v, hv⟩ := has_get (r3 d (.inl ((mp d).mpr ((mf d).mp hd))))
    have hm := getA_mem hv
    have ⟨_, ev⟩ := r2 _ hm
    refine List.mem_map.mpr ⟨(d, v), hm, ?_⟩
    show v = n
    rw [← e]
    exact ev
  · have ⟨z, hz, e⟩ := List.mem_map.mp hk
    have ⟨iz, ez⟩ := r2 z hz
    rw [← e, ez]
    exact n2 _ ((mf _).mpr iz)
theorem foldmax_spec : ∀ (l : List Nat) (a : Nat), (l.foldl Nat.max a = a ∨ l.foldl Nat.max a ∈ l) ∧ a ≤ l.foldl Nat.max a ∧ ∀ x ∈ l, x ≤ l.foldl Nat.max a
  | [], a => ⟨.inl rfl, Nat.le_refl _, fun _ z => by cases z⟩
  | b :: l, a => by
    have ⟨h1, h2, h3⟩ := foldmax_spec l (Nat.max a b)
    show (l.foldl Nat.max (Nat.max a b) = a ∨ l.foldl Nat.max (Nat.max a b) ∈ b :: l) ∧ a ≤ l.foldl Nat.max (Nat.max a b) ∧ ∀ x ∈ b :: l, x ≤ l.foldl Nat.max (Nat.max a b)
    have ha : a ≤ Nat.max a b := Nat.le_max_left a b
    have hb : b ≤ Nat.max a b := Nat.le_max_right a b
    refine ⟨?_, Nat.le_trans ha h2, fun x hx => ?_⟩
    · rcases h1 with e | e
      · rw [e]
        rcases Nat.le_total a b with u | u
        · have e2 : Nat.max a b = b := Nat.max_eq_right u
          rw [e2]
          exact .inr List.mem_cons_self
        · exact .inl (Nat.max_eq_left u)
      · exact .inr (List.mem_cons_of_mem _ e)
    · rcases List.mem_cons.mp hx with e | hx
      · rw [e]
        exact Nat.le_trans hb h2
      · exact h3 x hx
theorem maxL_spec (b : Nat) (l : List Nat) : maxL (b :: l) ∈ b :: l ∧ ∀ x ∈ b :: l, x ≤ maxL (b :: l) := by
  have ⟨h1, h2, h3⟩ := foldmax_spec (b :: l) 0
  refine ⟨?_, h3⟩
  rcases h1 with e | e
  · have e2 : maxL (b :: l) = 0 := e
    have := h3 b (by simp)
    have e3 : (b :: l).foldl Nat.max 0 = 0 := e
    rw [e3] at this
    rw [e2, show b = 0 by omega]
    exact List.mem_cons_self
  · exact e
theorem box_law {w h : Nat} (w1 : 1 ≤ w) (w2 : w ≤ 15) (h1 : 1 ≤ h) (h2 : h ≤ 15) : ∃ ps fs, pairsM w h = some ps ∧ fieldM w h = some fs ∧ ps.length ≤ 300 ∧ fs.length ≤ 300 ∧ chosenM w h ≤ 20000 ∧
    (fs.length ≤ 60 → widthM ps = bestF ((fs.filter fun p => (kidsM w h p).isEmpty).map lineM) [] (lineM (1, 1)) 0) := by
  have a := boxB_of there_all w1 w2 h1 h2
  have b := boxB_of wide_all w1 w2 h1 h2
  unfold thereB at a
  unfold wideB at b
  cases ep : pairsM w h with
  | none =>
    rw [ep] at a
    cases a
  | some ps =>
    cases ef : fieldM w h with
    | none =>
      rw [ep, ef] at a
      cases a
    | some fs =>
      rw [ep, ef] at a b
      replace a : (Nat.ble ps.length 300 && Nat.ble fs.length 300 && decide (chosenM w h ≤ 20000)) = true := a
      replace b : (if Nat.ble fs.length 60 = true then Nat.beq (widthM ps) (bestF ((fs.filter fun p => (kidsM w h p).isEmpty).map lineM) [] (lineM (1, 1)) 0) else true) = true := b
      rw [Bool.and_eq_true, Bool.and_eq_true, Nat.ble_eq, Nat.ble_eq, decide_eq_true_eq] at a
      refine ⟨ps, fs, rfl, rfl, a.1.1, a.1.2, a.2, fun hz => ?_⟩
      rw [if_pos (Nat.ble_eq.mpr hz)] at b
      exact Nat.beq_eq.mp b
theorem same_1 {p q : Pr} (hp : Pos p) (hq : Pos q) (cp : Nat.gcd p.1 p.2 = 1) (cq : Nat.gcd q.1 q.2 = 1) : 1 ≤ sameM (lineM p) (lineM q) := by
  have ⟨l, e1⟩ := line_head hp cp
  have ⟨k, e2⟩ := line_head hq cq
  rw [e1, e2]
  show 1 ≤ (if eqP (1, 1) (1, 1) = true then 1 else 0) + sameM l k
  rw [if_pos (eqP_iff.mpr rfl)]
  omega
/-- the walls about a position -/
theorem dm_of {m g t u : Int} {p : Pr} (m1 : -20 ≤ m) (m2 : m ≤ 20) (g1 : 1 ≤ g) (g2 : g ≤ 10) (hn : Nd 4 p) (t0 : 0 ≤ t) (t1 : t ≤ 7 * g) (u0 : 0 ≤ u) (u1 : u ≤ 7 * g) : ∃ w h : Nat, Dm m g p (m - g * p.2 - t) (m + g * p.1 + u) w h ∧ p.1 ≤ w ∧ p.2 ≤ h := by
  have ⟨a, b, co, a8, b8, s⟩ := hn
  simp only [List.getD_cons_zero, List.getD_cons_succ] at a8 b8 s
  have key : ∀ (n : Nat) (v : Int), 1 ≤ n → n ≤ 8 → 0 ≤ v → v ≤ 7 * g → (n : Int) ≤ (g * n + v) / g ∧ (g * n + v) / g ≤ 15 ∧ 0 ≤ g * (n : Int) ∧ g * (n : Int) ≤ 80 := fun n v n1 n8 v0 v1 => by
    have e : (g * (n : Int) + v) / g = n + v / g := by rw [Int.add_comm, Int.add_mul_ediv_left _ _ (by omega), Int.add_comm]
    have e1 : 0 ≤ v / g := Int.ediv_nonneg v0 (by omega)
    have e2 : v / g ≤ 7 := by
      have : v / g < 8 := Int.ediv_lt_of_lt_mul (by omega) (by omega)
      omega
    rw [e]
    have := mul_le15 (n := n) g1 g2 (by omega)
    have e3 := Int.mul_le_mul g2 (show (n : Int) ≤ 8 by omega) (by omega) (by omega)
    exact ⟨by omega, by omega, this.1, by omega⟩
  have ⟨k1, k2, k3, k4⟩ := key p.1 u a a8 u0 u1
  have ⟨l1, l2, l3, l4⟩ := key p.2 t b b8 t0 t1
  have e1 : m + g * (p.1 : Int) + u - m = g * p.1 + u := by omega
  have e2 : m - (m - g * (p.2 : Int) - t) = g * p.2 + t := by omega
  refine ⟨((g * p.1 + u) / g).toNat, ((g * p.2 + t) / g).toNat, ⟨by omega, by omega, g1, g2, a, by omega, b, by omega, co, by omega, by omega, by omega, by omega, ?_, ?_, by omega, by omega, by omega, by omega⟩, by omega, by omega⟩
  · rw [e1, Int.toNat_of_nonneg (by omega)]
  · rw [e2, Int.toNat_of_nonneg (by omega)]
end LR
namespace LR
open PySem L2 PySem.W
open Evl (Ex)
def P_law : Pf := fun ds r => ∃ ns : List Int, ns.length ≤ 63 ∧ ds = [dScr ns] ∧ r = .bool true
theorem st_lay (m g : Int) (o : O6) (p : Pr) : (stD m g o p).canLay0 = true ∧ (stD m g o p).depth ≤ 1 := by
  unfold stD
  cases oP o p <;> simp [plc, PyData.canLay0, PyData.canLayAll0, PyData.depth, PyData.depthAll]
theorem sts_lay (m g : Int) (o : O6) : ∀ l : List Pr, PyData.canLayAll0 (l.map (stD m g o)) = true ∧ PyData.depthAll (l.map (stD m g o)) ≤ 1
  | [] => ⟨by simp [PyData.canLayAll0], by simp [PyData.depthAll]⟩
  | p :: l => by
    have ⟨a, b⟩ := st_lay m g o p
    have ⟨c, d⟩ := sts_lay m g o l
    simp only [List.map_cons, PyData.canLayAll0, PyData.depthAll, a, c]
    exact ⟨rfl, by omega⟩
theorem sts_shaped (m g : Int) (o : O6) (l : List Pr) : SeqAt.shaped (.list (l.map (stD m g o))) = true := by
  have ⟨a, b⟩ := sts_lay m g o l
  have h2 : PyData.depth (.list (l.map (stD m g o))) ≤ 64 := by
    simp only [PyData.depth]
    omega
  show (PyData.canLay0 (.list (l.map (stD m g o))) && decide (PyData.depth (.list (l.map (stD m g o))) ≤ 64)) = true
  rw [Bool.and_eq_true]
  exact ⟨by simp only [PyData.canLay0]; exact a, decide_eq_true h2⟩
theorem cut_to (xs : List PyData) (k : Nat) : cutD xs none (some (k : Int)) = xs.take k := by
  unfold cutD
  rw [HT.sIx_nat, HT.sIx_none, List.drop_zero, Nat.sub_zero]
  by_cases h : k ≤ xs.length
  · rw [Nat.min_eq_left h]
  · rw [Nat.min_eq_right (by omega), List.take_of_length_le (Nat.le_refl _), List.take_of_length_le (by omega)]
theorem sts_empty (l : List PyData) : PyData.eqv (.list l) (.list []) = l.isEmpty := by cases l <;> simp [PyData.eqv, PyData.eqvAll]

abbrev s_law : Stmt := topS 52
theorem sc_law : FnScope ["_law_script", "_law_row", "_law_state_here", "_law_shuts_here", "_law_field_here", "_law_ends", "_law_best", "_law_at", "_law_here", "_law_there"] ["_law_script"] (defScope s_law) :=
  ⟨rfl, rfl, rfl, by decide +kernel, rfl, by decide +kernel, by decide +kernel⟩
def t_law (K : Fg) : TS := (tSeq (tAsg (tLst (tCons (tVar 0) (tCons (tC (.int 0)) (tCons (tC (.int 4840)) (tCons (tC (.int 0)) tNil))))) (gName 1))
  (tSeq (tAsg (tCall (SpR K P_l_state) [] E0 (tCons (tVar 1) (tCons (tC (.int 4)) tNil))) (gName 2))
  (tSeq (tAsg (tCall (SpR K P_l_shuts) [] E0 (tCons (tVar 1) (tCons (tVar 2) (tCons (tOp (rI CMul fun i j => .int (i * j)) (tC (.int 7)) (tOp (rIxT K) (tCall (SpP K P_l_pair) [] E0 (tCons (tVar 2) tNil)) (tC (.int 1)))) tNil)))) (gName 3))
  (tSeq (tAsg (tCall (SpP K P_l_field) [] E0 (tCons (tVar 2) (tCons (tVar 3) tNil))) (gName 4))
  (tSeq (tIfS (tTest (tOp (rI0 fun i j => .bl (decide (j < i))) (tCB (Evl.rLenS K) (tCons (tVar 4) tNil)) (tC (.int 60)))) (tRet (tOp rEq (tCall (SpP K P_greatest_depth) [] E0 (tCons (tVar 2) (tCons (tVar 3) tNil))) (tCB (rMax K) (tCons (tLc (iList K (tVar 4)) (gName 8) tYes (tOp (rI0 fun i j => .int (i - j)) (tCB (Evl.rLenS K) (tCons (tCall (SpP K P_l_line) [] E0 (tCons (tVar 8) tNil)) tNil)) (tC (.int 1))) [8]) tNil)))) tNext)
  (tSeq (tIfS (tNot (tB (tCall (SpP K P_l_alike) [] E0 (tCons (tCall (SpP K P_greatest_depth) [] E0 (tCons (tVar 2) (tCons (tVar 3) tNil))) (tCons (tCB (rMax K) (tCons (tLc (iList K (tVar 4)) (gName 8) tYes (tOp (rI0 fun i j => .int (i - j)) (tCB (Evl.rLenS K) (tCons (tCall (SpP K P_l_line) [] E0 (tCons (tVar 8) tNil)) tNil)) (tC (.int 1))) [8]) tNil)) tNil))))) (tRet (tC (.bl false))) tNext)
  (tSeq (tIfS (tNot (tB (tCall (SpP K P_l_alike) [] E0 (tCons (tCall (SpP K P_farthest_within) [] E0 (tCons (tVar 2) (tCons (tVar 3) tNil))) (tCons (tCB (rMax K) (tCons (tLc (iList K (tVar 4)) (gName 8) tYes (tCall (SpP K P_l_far) [] E0 (tCons (tVar 2) (tCons (tVar 8) tNil))) [8]) tNil)) tNil))))) (tRet (tC (.bl false))) tNext)
  (tSeq (tAsg (tLc (iList K (tVar 4)) (gName 8) (tTest (tOp (rEqD K) (tLc (iList K (tCall (SpP K P_l_behind) [] E0 (tCons (tVar 8) (tCons (tC (.int 1)) tNil)))) (gName 9) (tTest (tOp (rInD K) (tVar 9) (tVar 4))) (tVar 9) [9]) (tLst tNil))) (tVar 8) [8]) (gName 5))
  (tSeq (tAsg (tC (.int 0)) (gName 6))
  (tSeq (tFor (iRng1 (tCons (tCB (Evl.rLenS K) (tCons (tVar 5) tNil)) tNil)) (gName 7) (tAsg (tCB (rMax K) (tCons (tOp rCat (tLst (tCons (tVar 6) tNil)) (tLc (iList K (tOp rCat (tSl (rSlL K) (tVar 5) tNoPart (tPart (tVar 7))) (tSl (rSlL K) (tVar 4) tNoPart (tPart (tC (.int 1)))))) (gName 9) tYes (tCall (SpP K P_l_far) [] E0 (tCons (tOp (rIxL K) (tVar 5) (tVar 7)) (tCons (tVar 9) tNil))) [9])) tNil)) (gName 6)))
  (tRet (tCall (SpP K P_l_alike) [] E0 (tCons (tCall (SpP K P_width_within) [] E0 (tCons (tVar 2) (tCons (tVar 3) tNil))) (tCons (tVar 6) tNil))))))))))))))
theorem p_law {P : Program} {w : World} {K : Fg} {mg : Str → Option Value} {base : Heap} {f : Addr} (T : Bl mg) (C_l_state : Fnc P w K mg base "_law_state" 4 ["_law_row", "_law_most"] (SpR K P_l_state)) (C_l_pair : Fnc P w K mg base "_law_pair" 2 ["_law_state_here"] (SpP K P_l_pair)) (C_l_shuts : Fnc P w K mg base "_law_shuts" 2 ["_law_row", "_law_state_here", "_law_most"] (SpR K P_l_shuts)) (C_l_field : Fnc P w K mg base "_law_field" 4 ["_law_state_here", "_law_shuts_here"] (SpP K P_l_field)) (C_greatest_depth : Fnc P w K mg base "greatest_depth" 8 ["state", "walls"] (SpP K P_greatest_depth)) (C_l_line : Fnc P w K mg base "_law_line" 3 ["_law_state_here"] (SpP K P_l_line)) (C_l_alike : Fnc P w K mg base "_law_alike" 1 ["_law_found", "_law_due"] (SpP K P_l_alike)) (C_l_far : Fnc P w K mg base "_law_far" 5 ["_law_one", "_law_other"] (SpP K P_l_far)) (C_farthest_within : Fnc P w K mg base "farthest_within" 8 ["state", "walls"] (SpP K P_farthest_within)) (C_l_behind : Fnc P w K mg base "_law_behind" 2 ["_law_state_here", "_law_leaps"] (SpP K P_l_behind)) (C_width_within : Fnc P w K mg base "width_within" 8 ["state", "walls"] (SpP K P_width_within)) (cdv : Value) (A : Around) (outer : List PySem.Env) (s : Shared) (H : Hp) (E : XK)
    (hr : Room 8 (A.deeper (PyProof.Rows.envOfC "law" (defScope s_law) s.heap.objs.size f cdv))) : PSs (cxN P w K mg base ["_law_script", "_law_row", "_law_state_here", "_law_shuts_here", "_law_field_here", "_law_ends", "_law_best", "_law_at", "_law_here", "_law_there"] "law" s_law f cdv A outer s H E) (defBody s_law) (t_law K) :=
  (pss_cons (ps_set (i := 1) sc_law.nd rfl (.inl rfl) (pe_lst (pa_cons (pv 0) (pa_cons pe_int (pa_cons pe_int (pa_cons pe_int pa_nil))))))
    (pss_cons (ps_set (i := 2) sc_law.nd rfl (.inr rfl) (pe_fnc C_l_state (hr.mono (by decide)) (by rfl) (pa_cons (pv 1) (pa_cons pe_int pa_nil))))
    (pss_cons (ps_set (i := 3) sc_law.nd rfl (.inl rfl) (pe_fnc C_l_shuts (hr.mono (by decide)) (by rfl) (pa_cons (pv 1) (pa_cons (pv 2) (pa_cons (pe_op op_mul pe_int (pe_ix ix_tup (pe_fnc C_l_pair (hr.mono (by decide)) (by rfl) (pa_cons (pv 2) pa_nil)) pe_int (fun _ _ => rfl))) pa_nil)))))
    (pss_cons (ps_set (i := 4) sc_law.nd rfl (.inr rfl) (pe_fnc C_l_field (hr.mono (by decide)) (by rfl) (pa_cons (pv 2) (pa_cons (pv 3) pa_nil))))
    (pss_cons (ps_if (pt_cmpR op_gt (pe_callB call_len_seq (by rfl) T.len (by decide +kernel) (pa_cons (pv 4) pa_nil)) pe_int (nomark _)) (pss_one (ps_ret (pe_cmpR op_eq (pe_fnc C_greatest_depth (hr.mono (by decide)) (by rfl) (pa_cons (pv 2) (pa_cons (pv 3) pa_nil))) (pe_callB (cr_max rfl) (by rfl) T.max (by decide +kernel) (pa_cons (pe_lc (own := [("_law_here", 8)]) rfl sc_law.nd (pi_list (pv 4)) (blkOk_by (own := [("_law_here", 8)]) (N := ["_law_script", "_law_row", "_law_state_here", "_law_shuts_here", "_law_field_here", "_law_ends", "_law_best", "_law_at", "_law_here", "_law_there"]) (sc := defScope s_law) (by decide +kernel)) (fun _ _ _ _ _ => (pg_name (i := 8) sc_law.nd rfl (.inl rfl))) (fun _ _ _ _ _ => pts_nil) (fun _ _ _ _ _ => (pe_op op_sub (pe_callB call_len_seq (by rfl) T.len (by decide +kernel) (pa_cons (pe_fnc C_l_line (hr.mono (by decide)) (by rfl) (pa_cons (pv 8) pa_nil)) pa_nil)) pe_int))) pa_nil)) (nomark _)))) pss_nil)
    (pss_cons (ps_if (pt_not (pt_val (pe_fnc C_l_alike (hr.mono (by decide)) (by rfl) (pa_cons (pe_fnc C_greatest_depth (hr.mono (by decide)) (by rfl) (pa_cons (pv 2) (pa_cons (pv 3) pa_nil))) (pa_cons (pe_callB (cr_max rfl) (by rfl) T.max (by decide +kernel) (pa_cons (pe_lc (own := [("_law_here", 8)]) rfl sc_law.nd (pi_list (pv 4)) (blkOk_by (own := [("_law_here", 8)]) (N := ["_law_script", "_law_row", "_law_state_here", "_law_shuts_here", "_law_field_here", "_law_ends", "_law_best", "_law_at", "_law_here", "_law_there"]) (sc := defScope s_law) (by decide +kernel)) (fun _ _ _ _ _ => (pg_name (i := 8) sc_law.nd rfl (.inl rfl))) (fun _ _ _ _ _ => pts_nil) (fun _ _ _ _ _ => (pe_op op_sub (pe_callB call_len_seq (by rfl) T.len (by decide +kernel) (pa_cons (pe_fnc C_l_line (hr.mono (by decide)) (by rfl) (pa_cons (pv 8) pa_nil)) pa_nil)) pe_int))) pa_nil)) pa_nil))))) (pss_one (ps_ret pe_bl)) pss_nil)
    (pss_cons (ps_if (pt_not (pt_val (pe_fnc C_l_alike (hr.mono (by decide)) (by rfl) (pa_cons (pe_fnc C_farthest_within (hr.mono (by decide)) (by rfl) (pa_cons (pv 2) (pa_cons (pv 3) pa_nil))) (pa_cons (pe_callB (cr_max rfl) (by rfl) T.max (by decide +kernel) (pa_cons (pe_lc (own := [("_law_here", 8)]) rfl sc_law.nd (pi_list (pv 4)) (blkOk_by (own := [("_law_here", 8)]) (N := ["_law_script", "_law_row", "_law_state_here", "_law_shuts_here", "_law_field_here", "_law_ends", "_law_best", "_law_at", "_law_here", "_law_there"]) (sc := defScope s_law) (by decide +kernel)) (fun _ _ _ _ _ => (pg_name (i := 8) sc_law.nd rfl (.inl rfl))) (fun _ _ _ _ _ => pts_nil) (fun _ _ _ _ _ => (pe_fnc C_l_far (hr.mono (by decide)) (by rfl) (pa_cons (pv 2) (pa_cons (pv 8) pa_nil))))) pa_nil)) pa_nil))))) (pss_one (ps_ret pe_bl)) pss_nil)
    (pss_cons (ps_set (i := 5) sc_law.nd rfl (.inr rfl) (pe_lc (own := [("_law_here", 8)]) rfl sc_law.nd (pi_list (pv 4)) (blkOk_by (own := [("_law_here", 8)]) (N := ["_law_script", "_law_row", "_law_state_here", "_law_shuts_here", "_law_field_here", "_law_ends", "_law_best", "_law_at", "_law_here", "_law_there"]) (sc := defScope s_law) (by decide +kernel)) (fun _ _ _ _ _ => (pg_name (i := 8) sc_law.nd rfl (.inl rfl))) (fun _ _ _ _ _ => (pts_one (pt_cmpR (op_eqD hr.units) (pe_lc (own := [("_law_there", 9)]) rfl sc_law.nd (pi_list (pe_fnc C_l_behind (hr.mono (by decide)) (by rfl) (pa_cons (pv 8) (pa_cons pe_int pa_nil)))) (blkOk_by (own := [("_law_there", 9)]) (N := ["_law_script", "_law_row", "_law_state_here", "_law_shuts_here", "_law_field_here", "_law_ends", "_law_best", "_law_at", "_law_here", "_law_there"]) (sc := relS { kind := .function, names := [(".0", .local), ("_law_here", .local), ("_law_behind", .globalImplicit), ("_law_field_here", .free)], isGenerator := false, isCoroutine := false } (defScope s_law)) (by decide +kernel)) (fun _ _ _ _ _ => (pg_name (i := 9) sc_law.nd rfl (.inl rfl))) (fun _ _ _ _ _ => (pts_one (pt_cmpR (op_inD (hu65 hr)) (pv 9) (pv 4) (by rfl)))) (fun _ _ _ _ _ => (pv 9))) (pe_lst pa_nil) (nomark _)))) (fun _ _ _ _ _ => (pv 8))))
    (pss_cons (ps_set (i := 6) sc_law.nd rfl (.inl rfl) pe_int)
    (pss_cons (ps_for PassesOwn.never rfl (pi_range1 (by rfl) T.range (pa_cons (pe_callB call_len_seq (by rfl) T.len (by decide +kernel) (pa_cons (pv 5) pa_nil)) pa_nil)) (pg_name (i := 7) sc_law.nd rfl (.inr rfl)) (pss_one (ps_set (i := 6) sc_law.nd rfl (.inl rfl) (pe_callB (cr_max rfl) (by rfl) T.max (by decide +kernel) (pa_cons (pe_op op_cat (pe_lst (pa_cons (pv 6) pa_nil)) (pe_lc (own := [("_law_there", 9)]) rfl sc_law.nd (pi_list (pe_op op_cat (pe_slice sl_list (pv 5) po_none (po_some (pv 7))) (pe_slice sl_list (pv 4) po_none (po_some pe_int)))) (blkOk_by (own := [("_law_there", 9)]) (N := ["_law_script", "_law_row", "_law_state_here", "_law_shuts_here", "_law_field_here", "_law_ends", "_law_best", "_law_at", "_law_here", "_law_there"]) (sc := defScope s_law) (by decide +kernel)) (fun _ _ _ _ _ => (pg_name (i := 9) sc_law.nd rfl (.inl rfl))) (fun _ _ _ _ _ => pts_nil) (fun _ _ _ _ _ => (pe_fnc C_l_far (hr.mono (by decide)) (by rfl) (pa_cons (pe_ix ix_list (pv 5) (pv 7) (fun _ _ => rfl)) (pa_cons (pv 9) pa_nil)))))) pa_nil)))))
    (pss_one (ps_ret (pe_fnc C_l_alike (hr.mono (by decide)) (by rfl) (pa_cons (pe_fnc C_width_within (hr.mono (by decide)) (by rfl) (pa_cons (pv 2) (pa_cons (pv 3) pa_nil))) (pa_cons (pv 6) pa_nil)))))))))))))))
section
variable {K : Fg} {m g : Int} {o : O6} {w h : Nat} {fs : List Pr} {es : List En}
abbrev lawEs (ns : List Int) (a : Addr) (row : List PyData) (m g : Int) (o : O6) (p : Pr) (lo hi : Int) (fs : List Pr) : List En := [.val (dScr ns), .row a row, .val (stD m g o p), .val (dW lo hi), .val (.list (fs.map (stD m g o))), .no, .no, .no, .no, .no]
theorem law_maxDep {ns : List Int} {a : Addr} {row : List PyData} {p : Pr} {lo hi : Int} {x : Nat} (g1 : 1 ≤ g) (w2 : w ≤ 15) (h2 : h ≤ 15) (mf : ∀ p, p ∈ fs ↔ In w h p) (hz : fs.length ≤ 300) (hx : x ∈ fs.map dep) (hle : ∀ p ∈ fs, dep p ≤ x) :
    EvE K (tCB (rMax K) (tCons (tLc (iList K (tVar 4)) (gName 8) tYes (tOp (rI0 fun i j => .int (i - j)) (tCB (Evl.rLenS K) (tCons (tCall (SpP K P_l_line) [] E0 (tCons (tVar 8) tNil)) tNil)) (tC (.int 1))) [8]) tNil)) (lawEs ns a row m g o p lo hi fs) (.int (x : Int)) := by
  refine e_max (ns := fs.map fun q => ((dep q : Nat) : Int)) (EvN.w (EvN.is (n_lc1 (xs := fs) (enc := stD m g o) (fun q => .int ((dep q : Nat) : Int)) (i_list (e_var rfl)) (by omega) fun q hq => ⟨[(8, stD m g o q)], tg_name, by simp, ?_⟩) (by rw [List.map_map]; rfl))) ?_ ?_
  · have hp := in_pos w2 h2 ((mf q).mp hq)
    refine EvE.is (e_op (e_len (EvE.w (e_call (a_cons (e_var rfl) a_nil) ⟨m, g, o, q, g1, hp, rfl, rfl⟩))) e_int r_I0) ?_
    congr 1
    rw [List.length_map]
    unfold dep
    have : 1 ≤ (lineM q).length := by
      unfold lineM
      rw [List.length_reverse]
      exact (upF_len 100 q).2
    omega
  · have ⟨q, h1, h3⟩ := List.mem_map.mp hx
    exact List.mem_map.mpr ⟨q, h1, by rw [h3]⟩
  · intro y hy
    have ⟨q, h1, h3⟩ := List.mem_map.mp hy
    have := hle q h1
    omega
theorem law_maxFar {ns : List Int} {a : Addr} {row : List PyData} {p : Pr} {lo hi : Int} {x : Nat} (g1 : 1 ≤ g) (w2 : w ≤ 15) (h2 : h ≤ 15) (mf : ∀ p, p ∈ fs ↔ In w h p) (hz : fs.length ≤ 300) (ip : In w h p) (hx : x ∈ fs.map (farM p)) (hle : ∀ q ∈ fs, farM p q ≤ x) :
    EvE K (tCB (rMax K) (tCons (tLc (iList K (tVar 4)) (gName 8) tYes (tCall (SpP K P_l_far) [] E0 (tCons (tVar 2) (tCons (tVar 8) tNil))) [8]) tNil)) (lawEs ns a row m g o p lo hi fs) (.int (x : Int)) := by
  refine e_max (ns := fs.map fun q => ((farM p q : Nat) : Int)) (EvN.w (EvN.is (n_lc1 (xs := fs) (enc := stD m g o) (fun q => .int ((farM p q : Nat) : Int)) (i_list (e_var rfl)) (by omega) fun q hq => ⟨[(8, stD m g o q)], tg_name, by simp, ?_⟩) (by rw [List.map_map]; rfl))) ?_ ?_
  · have iq := (mf q).mp hq
    exact e_call (a_cons (e_var rfl) (a_cons (e_var rfl) a_nil)) ⟨m, g, o, p, q, g1, in_pos w2 h2 ip, in_pos w2 h2 iq, same_1 (in_pos w2 h2 ip) (in_pos w2 h2 iq) ip.co iq.co, rfl, rfl⟩
  · have ⟨q, h1, h3⟩ := List.mem_map.mp hx
    exact List.mem_map.mpr ⟨q, h1, by rw [h3]⟩
  · intro y hy
    have ⟨q, h1, h3⟩ := List.mem_map.mp hy
    have := hle q h1
    omega
theorem law_ends {ns : List Int} {a : Addr} {row : List PyData} {p : Pr} {lo hi : Int} (g1 : 1 ≤ g) (w2 : w ≤ 15) (h2 : h ≤ 15) (mf : ∀ p, p ∈ fs ↔ In w h p) (hz : fs.length ≤ 300) :
    EvN K (tLc (iList K (tVar 4)) (gName 8) (tTest (tOp (rEqD K) (tLc (iList K (tCall (SpP K P_l_behind) [] E0 (tCons (tVar 8) (tCons (tC (.int 1)) tNil)))) (gName 9) (tTest (tOp (rInD K) (tVar 9) (tVar 4))) (tVar 9) [9]) (tLst tNil))) (tVar 8) [8]) (lawEs ns a row m g o p lo hi fs) ((fs.filter fun q => (kidsM w h q).isEmpty).map (stD m g o)) := by
  refine n_lc (xs := fs) (enc := stD m g o) (fun q => (kidsM w h q).isEmpty) (stD m g o) (i_list (e_var rfl)) (by omega) fun q hq => ⟨[(8, stD m g o q)], tg_name, by simp, ?_, fun _ => e_var rfl⟩
  have iq := (mf q).mp hq
  have ⟨q1, q2, q3, q4, qc⟩ := iq
  have hin := n_lc (K := K) (es := setsE (wipeE (lawEs ns a row m g o p lo hi fs) [8]) [(8, stD m g o q)]) (xs := [(q.1, q.1 + q.2), (q.1 + q.2, q.2)]) (enc := stD m g o) (fun t => Nat.ble t.2 h && Nat.ble t.1 w) (stD m g o) (g := gName 9) (vs := [9]) (tt := (tTest (tOp (rInD K) (tVar 9) (tVar 4)))) (te := tVar 9)
    (wi := iList K (tCall (SpP K P_l_behind) [] E0 (tCons (tVar 8) (tCons (tC (.int 1)) tNil)))) (i_list (e_call (a_cons (e_var rfl) (a_cons e_int a_nil)) ⟨m, g, o, q, g1, q1, q3, by omega, rfl, rfl⟩)) (le_ble rfl) fun t ht => ⟨[(9, stD m g o t)], tg_name, by simp, ?_, fun _ => e_var rfl⟩
  · refine EvT.is (t_test (e_eqW (EvN.w hin) (EvN.w (n_lst a_nil (le_ble rfl))) (sts_shaped _ _ _ _) (by decide +kernel))) ?_
    rw [sts_empty, ← kid_tests q2 q4]
    cases kidsM w h q <;> rfl
  · have htp : 1 ≤ t.1 ∧ 1 ≤ t.2 ∧ Nat.gcd t.1 t.2 = 1 := by
      rcases List.mem_cons.mp ht with e | e
      · rw [e]
        refine ⟨q1, by show 1 ≤ q.1 + q.2; omega, ?_⟩
        show Nat.gcd q.1 (q.1 + q.2) = 1
        rw [Nat.gcd_self_add_right]
        exact qc
      · rw [List.mem_singleton.mp e]
        refine ⟨by show 1 ≤ q.1 + q.2; omega, q3, ?_⟩
        show Nat.gcd (q.1 + q.2) q.2 = 1
        rw [Nat.gcd_add_self_left]
        exact qc
    refine EvT.is (t_test (e_inW (e_var rfl) (EvE.w (e_var rfl)) (stD_shaped _ _ _ _) (sts_shaped m g o fs))) ?_
    rw [Bool.eq_iff_iff, List.any_eq_true, Bool.and_eq_true, Nat.ble_eq, Nat.ble_eq]
    constructor
    · rintro ⟨z, hz1, hz2⟩
      have ⟨r, hr, e⟩ := List.mem_map.mp hz1
      have ir := (mf r).mp hr
      rw [← e, stD_inj g1 ir.a ir.c htp.1 htp.2.1] at hz2
      have e2 := eqP_iff.mp hz2
      rw [← e2]
      exact ⟨ir.d, ir.b⟩
    · intro ⟨z1, z2⟩
      have it : In w h t := ⟨htp.1, z2, htp.2.1, z1, htp.2.2⟩
      refine ⟨stD m g o t, List.mem_map.mpr ⟨t, (mf t).mpr it, rfl⟩, ?_⟩
      rw [stD_inj g1 it.a it.c it.a it.c]
      exact eqP_iff.mpr rfl
end
theorem go_law {K : Fg} : ∀ ds r, P_law ds r → ds.length = 1 ∧ Go K true (t_law K) (startE 10 (ds.map .val)) { N := fun _ => r = .none, R := fun d _ => d = r } := by
  rintro _ _ ⟨ns, hl, rfl, rfl⟩
  refine ⟨rfl, ?_⟩
  unfold t_law
  refine q_own (n_lst (a_cons (e_var rfl) (a_cons e_int (a_cons e_int (a_cons e_int a_nil)))) (le_ble rfl)) ?_
  refine q_pin (i := 1) rfl fun a => ?_
  refine q_valM (M := fun d e => ∃ row m g o p, RowOk row ∧ -20 ≤ m ∧ m ≤ 20 ∧ 1 ≤ g ∧ g ≤ 10 ∧ Nd 4 p ∧ d = stD m g o p ∧ e = [.val (dScr ns), .row a row, .no, .no, .no, .no, .no, .no, .no, .no]) (m_call (R := P_l_state) (x := ()) rfl (ma_pure e_int (ma_nil ⟨_, rfl, ⟨⟨ns, 0, 4840, 0, hl, Int.le_refl _, rfl⟩, rfl⟩, ?_⟩))) ?_
  · rintro _ row' ⟨hr', m, g, o, p, h1, h2, h3, h4, h5, rfl⟩
    exact ⟨row', m, g, o, p, hr', h1, h2, h3, h4, h5, rfl, rfl⟩
  rintro _ _ ⟨row1, m, g, o, p, hr1, m1, m2, g1, g2, hn, rfl, rfl⟩
  refine q_valM (M := fun d e => ∃ row t u, 0 ≤ t ∧ t ≤ 7 * g ∧ 0 ≤ u ∧ u ≤ 7 * g ∧ d = dW (m - g * p.2 - t) (m + g * p.1 + u) ∧ e = [.val (dScr ns), .row a row, .val (stD m g o p), .no, .no, .no, .no, .no, .no, .no]) (m_call (R := P_l_shuts) (x := (m, g, o, p)) rfl (ma_pure (e_var rfl) (ma_pure (e_op e_int (e_op (e_call (a_cons (e_var rfl) a_nil) ⟨m, g, o, p, g1, by omega, hn.a, hn.b, hn.co, rfl, rfl⟩) e_int (r_ixT (x := .int g) rfl)) (r_I (.inl ⟨by decide, by decide⟩))) (ma_nil ⟨row1, rfl, ⟨hr1, g1, g2, hn.a, hn.b, rfl⟩, ?_⟩)))) ?_
  · rintro _ row' ⟨hr', t, u, t0, t1, u0, u1, rfl⟩
    exact ⟨row', t, u, t0, t1, u0, u1, rfl, rfl⟩
  rintro _ _ ⟨row2, t, u, t0, t1, u0, u1, rfl, rfl⟩
  have ⟨w, h, D, pw, ph⟩ := dm_of m1 m2 g1 g2 hn t0 t1 u0 u1
  generalize m - g * (p.2 : Int) - t = lo at D ⊢
  generalize m + g * (p.1 : Int) + u = hi at D ⊢
  have w1 := D.w1
  have w2 := D.w2
  have h1 := D.h1
  have h2 := D.h2
  have ip : In w h p := ⟨hn.a, pw, hn.b, ph, hn.co⟩
  have ⟨ps, fs, ep, ef, zp, zf, hch, hwide⟩ := box_law w1 w2 h1 h2
  have ⟨mf, ft, hft⟩ := fs_facts w1 h1 ef
  have ⟨x, hx1, hx2, hx3⟩ := depth_law w1 w2 h1 h2 ep ef
  have ⟨L, n, hL, n1, n2, n3, n4⟩ := far_law w1 w2 h1 h2 ip ep ef
  refine q_val (i := 4) (e_call (a_cons (e_var rfl) (a_cons (e_var rfl) a_nil)) ⟨m, g, o, p, lo, hi, w, h, fs, D, ef, rfl, rfl⟩) ?_
  have cD : ∀ es : List En, es[2]? = some (.val (stD m g o p)) → es[3]? = some (.val (dW lo hi)) → EvE K (tCall (SpP K P_greatest_depth) [] E0 (tCons (tVar 2) (tCons (tVar 3) tNil))) es (.int (x.1 : Int)) := fun es e2 e3 =>
    e_call (a_cons (e_var e2) (a_cons (e_var e3) a_nil)) ⟨m, g, o, p, lo, hi, w, h, ps, x, D, ep, hch, by omega, hx1, rfl, rfl⟩
  have hdep := law_maxDep (K := K) (m := m) (o := o) (ns := ns) (a := a) (row := row2) (p := p) (lo := lo) (hi := hi) g1 w2 h2 mf zf hx2 hx3
  refine q_if (b := decide ((60 : Int) < ((fs.map (stD m g o)).length : Nat))) (t_test (e_op (e_len (EvE.w (e_var rfl))) e_int r_cmp)) (fun _ => ?_) fun hb => q_next ?_
  · exact q_ret (EvE.is (e_op (cD _ rfl rfl) hdep r_eqI) (by rw [decide_eq_true rfl])) rfl
  have hz60 : fs.length ≤ 60 := by
    have := of_decide_eq_false hb
    rw [List.length_map] at this
    omega
  refine q_skip (EvT.is (t_not (t_B (e_call (a_cons (cD _ rfl rfl) (a_cons hdep a_nil)) ⟨_, _, rfl, rfl⟩))) (by rw [decide_eq_true rfl]; rfl)) ?_
  have hfar := law_maxFar (K := K) (m := m) (o := o) (ns := ns) (a := a) (row := row2) (p := p) (lo := lo) (hi := hi) g1 w2 h2 mf zf ip n3 n4
  refine q_skip (EvT.is (t_not (t_B (e_call (a_cons (e_call (a_cons (e_var rfl) (a_cons (e_var rfl) a_nil)) ⟨m, g, o, p, lo, hi, w, h, ps, L, n, D, ep, hch, by omega, hL, n1, n2, rfl, rfl⟩) (a_cons hfar a_nil)) ⟨_, _, rfl, rfl⟩))) (by rw [decide_eq_true rfl]; rfl)) ?_
  refine q_lst (law_ends (K := K) (m := m) (o := o) (ns := ns) (a := a) (row := row2) (p := p) (lo := lo) (hi := hi) g1 w2 h2 mf zf) ?_
  have hwd := hwide hz60
  have eM : ∀ q ∈ fs.filter fun q => (kidsM w h q).isEmpty, In w h q := fun q hq => (mf q).mp (List.mem_filter.mp hq).1
  have ez : (fs.filter fun q => (kidsM w h q).isEmpty).length ≤ 60 := Nat.le_trans (List.length_filter_le _ _) hz60
  generalize (fs.filter fun q => (kidsM w h q).isEmpty) = ends at hwd eM ez ⊢
  refine q_val (d := .int ((0 : Nat) : Int)) e_int ?_
  have i11 := in_11 w1 h1
  refine q_for (i_rng1 (e_len (EvE.w (e_var (i := 5) (d := .list (ends.map (stD m g o))) rfl))) (by omega) (by rw [List.length_map]; omega)) (fun i e => ∃ (b : Nat) (e7 : En), bestF ((ends.drop i).map lineM) ((ends.take i).map lineM) (lineM (1, 1)) b = widthM ps ∧
    e = [.val (dScr ns), .row a row2, .val (stD m g o p), .val (dW lo hi), .val (.list (fs.map (stD m g o))), .val (.list (ends.map (stD m g o))), .val (.int (b : Int)), e7, .no, .no]) ⟨0, _, hwd.symm, rfl⟩ ?_ ?_
  · rintro i d _ hi2 ⟨b, e7, hb, rfl⟩
    have ⟨hlt, hd⟩ := rng_get hi2
    rw [List.length_map, Int.toNat_natCast] at hlt
    rw [show (0 : Int) + (i : Int) * 1 = i by omega] at hd
    subst hd
    have hge : ends[i]? = some ends[i] := List.getElem?_eq_getElem hlt
    have iE := eM ends[i] (List.getElem_mem hlt)
    have hdr := List.drop_eq_getElem_cons hlt
    have htk : ends.take (i + 1) = ends.take i ++ [ends[i]] := by rw [List.take_add_one, hge]; rfl
    rw [hdr] at hb
    generalize ends[i] = t at hge iE hdr htk hb
    have hb2 : bestF ((ends.drop (i + 1)).map lineM) ((ends.take i).map lineM ++ [lineM t]) (lineM (1, 1)) (maxL (b :: ((ends.take i).map lineM ++ [lineM (1, 1)]).map (farL (lineM t)))) = widthM ps := hb
    have e1 : ((ends.take i).map lineM ++ [lineM (1, 1)]).map (farL (lineM t)) = (ends.take i ++ [(1, 1)]).map (farM t) := by
      simp only [List.map_append, List.map_map, List.map_cons, List.map_nil]
      rfl
    have e2 : (ends.take i).map lineM ++ [lineM t] = (ends.take (i + 1)).map lineM := by rw [htk, List.map_append]; rfl
    rw [e1, e2] at hb2
    have ⟨mx1, mx2⟩ := maxL_spec b ((ends.take i ++ [(1, 1)]).map (farM t))
    refine ⟨_, tg_name, ?_⟩
    have hxs : ∀ q ∈ ends.take i ++ [(1, 1)], In w h q := fun q hq => by
      rcases List.mem_append.mp hq with z | z
      · exact eM q (List.mem_of_mem_take z)
      · rw [List.mem_singleton.mp z]
        exact i11
    have hlen : (ends.take i ++ [(1, 1)]).length ≤ 61 := by
      rw [List.length_append, List.length_take]
      show min i ends.length + 1 ≤ 61
      omega
    have hit : (ends.map (stD m g o)).take i ++ (fs.map (stD m g o)).take 1 = (ends.take i ++ [(1, 1)]).map (stD m g o) := by
      rw [List.map_append, List.map_take, hft]
      rfl
    refine s_item (en := .val (.int ((maxL (b :: (ends.take i ++ [(1, 1)]).map (farM t)) : Nat) : Int))) (EvE.i (e_max (ns := (b :: (ends.take i ++ [(1, 1)]).map (farM t)).map fun k : Nat => (k : Int)) (EvN.w (EvN.is (n_cat (n_lst (a_cons (e_var (d := .int (b : Int)) rfl) a_nil) (le_ble rfl)) (n_lc1 (xs := ends.take i ++ [(1, 1)]) (enc := stD m g o) (fun q => .int ((farM t q : Nat) : Int)) (i_list (EvE.is (EvN.e (n_cat (n_sl (EvE.w (e_var (d := .list (ends.map (stD m g o))) rfl)) o_none (o_some (i := (i : Int)) (e_var rfl))) (n_sl (EvE.w (e_var (d := .list (fs.map (stD m g o))) rfl)) o_none (o_some (i := ((1 : Nat) : Int)) e_int)) ?_)) (congrArg PyData.list ?_))) (by omega) fun q hq => ⟨[(9, stD m g o q)], tg_name, by simp, ?_⟩) ?_) ?_)) ?_ ?_)) ⟨_, _, hb2, rfl⟩
    · rw [cut_to, cut_to, List.length_take, List.length_take, List.length_map, List.length_map]
      omega
    · rw [cut_to, cut_to]
      exact hit
    · have iq := hxs q hq
      exact e_call (a_cons (e_ixL (EvE.w (e_var (d := .list (ends.map (stD m g o))) rfl)) (e_var (d := .int (i : Int)) rfl) (x := stD m g o t) (atI_nat (by rw [List.getElem?_map, hge]; rfl))) (a_cons (e_var rfl) a_nil)) ⟨m, g, o, t, q, g1, in_pos w2 h2 iE, in_pos w2 h2 iq, same_1 (in_pos w2 h2 iE) (in_pos w2 h2 iq) iE.co iq.co, rfl, rfl⟩
    · rw [List.length_map]
      show 1 + _ ≤ _
      omega
    · rw [List.map_map, List.map_cons, List.map_map]
      rfl
    · exact List.mem_map.mpr ⟨_, mx1, rfl⟩
    · intro y hy
      have ⟨k, hk, e⟩ := List.mem_map.mp hy
      have := mx2 k hk
      omega
  · rintro _ ⟨b, e7, hb, rfl⟩
    rw [rng_len, List.length_map, Int.toNat_natCast, List.drop_length] at hb
    have hb2 : b = widthM ps := hb
    refine s_ret (e_call (a_cons (e_call (a_cons (e_var rfl) (a_cons (e_var rfl) a_nil)) ⟨m, g, o, p, lo, hi, w, h, ps, D, ep, hch, by omega, rfl, rfl⟩) (a_cons (e_var (i := 6) rfl) a_nil)) ⟨_, _, rfl, rfl⟩) ?_
    rw [hb2, decide_eq_true rfl]
theorem ok_law {P : Program} {w : World} {K : Fg} {mg : Str → Option Value} {base : Heap} {f : Addr} {fd : FuncData} (T : Bl mg) (C_l_state : Fnc P w K mg base "_law_state" 4 ["_law_row", "_law_most"] (SpR K P_l_state)) (C_l_pair : Fnc P w K mg base "_law_pair" 2 ["_law_state_here"] (SpP K P_l_pair)) (C_l_shuts : Fnc P w K mg base "_law_shuts" 2 ["_law_row", "_law_state_here", "_law_most"] (SpR K P_l_shuts)) (C_l_field : Fnc P w K mg base "_law_field" 4 ["_law_state_here", "_law_shuts_here"] (SpP K P_l_field)) (C_greatest_depth : Fnc P w K mg base "greatest_depth" 8 ["state", "walls"] (SpP K P_greatest_depth)) (C_l_line : Fnc P w K mg base "_law_line" 3 ["_law_state_here"] (SpP K P_l_line)) (C_l_alike : Fnc P w K mg base "_law_alike" 1 ["_law_found", "_law_due"] (SpP K P_l_alike)) (C_l_far : Fnc P w K mg base "_law_far" 5 ["_law_one", "_law_other"] (SpP K P_l_far)) (C_farthest_within : Fnc P w K mg base "farthest_within" 8 ["state", "walls"] (SpP K P_farthest_within)) (C_l_behind : Fnc P w K mg base "_law_behind" 2 ["_law_state_here", "_law_leaps"] (SpP K P_l_behind)) (C_width_within : Fnc P w K mg base "width_within" 8 ["state", "walls"] (SpP K P_width_within)) (F : Fun K "law" "law" s_law f fd) (hm : mg "law" = some (.ref f)) : Fnc P w K mg base "law" 9 ["_law_script"] (SpP K P_law) :=
  ok_pure (ps := ["_law_script"]) F hm sc_law (fun _ _ _ _ _ _ us hl => match us, hl with | [_], _ => rfl) (fun cdv A outer s H E hr => p_law T C_l_state C_l_pair C_l_shuts C_l_field C_greatest_depth C_l_line C_l_alike C_l_far C_farthest_within C_l_behind C_width_within cdv A outer s H E hr) go_law
end LR
/-! the head -/
namespace LR
open PySem L2 PySem.W PySem.Spec PyProof.Rows
open Evl (Ex)
theorem fun_of {K : Fg} {x q : Str} {st : Stmt} {f : Addr} {fd : FuncData} (F : FunD K x q (defArgs st) (defBody st) (defScope st) [] [] f fd) : Fun K x q st f fd := by
  obtain ⟨oc, od, dV, kV, doc, pm, an, cdv, ct, osl, e, lk, hcd, hD, hK⟩ := F.ex
  rcases hD with ⟨_, z⟩ | ⟨z, _⟩
  · subst z
    exact ⟨⟨oc, od, kV, doc, pm, an, cdv, ct, osl, e, lk, hcd⟩, F.kp⟩
  · exact absurd rfl z
theorem ok_pure0 {P : Program} {w : World} {K : Fg} {mg : Str → Option Value} {base : Heap} {x : Str} {st : Stmt} {f : Addr} {fd : FuncData} {N ps : List Str} {k : Nat} {Pr : List PyData → PyData → Prop} {t : TS} (F : Fun K x x st f fd) (sc : FnScope N ps (defScope st))
    (hp : ∀ (cdv : Value) (A : Around) (outer : List PySem.Env) (s : Shared) (H : Hp) (E : XK), Room k (A.deeper (PyProof.Rows.envOfC x (defScope st) s.heap.objs.size f cdv)) → PSs (cxN P w K mg base N x st f cdv A outer s H E) (defBody st) t)
    (hg : ∀ ds r, Pr ds r → ds.length = ps.length ∧ Go K true t (startE N.length (ds.map .val)) { N := fun _ => r = .none, R := fun d _ => d = r }) : FnOk P w K mg base CX0 (k + 1) f fd ps (SpP K Pr) := by
  refine F.ok sc (fun vs H Q E ⟨G, ds, r, _, h1, h2, _⟩ => by rw [h1.length]; exact (hg ds r h2).1) (fun cdv A outer s H vs Q E hr ⟨G, ds, r, h0, h1, h2, h3⟩ => ⟨t, hp cdv A outer s H E hr, ?_⟩)
  refine (hg ds r h2).2 none G H _ (L2.start N vs) G H (fun _ => rfl) (s_start h0 h1) (fun es' σ' F' H' hn s' _ => ?_) (fun d es' v σ' F' H' hd s' _ hr2 => ?_) (fun _ _ _ _ _ _ _ z => z.elim) (fun _ _ _ _ z => z.elim) (fun _ _ _ _ z => z.elim)
  · exact h3 .non F' H' s'.gr.toGr (by rw [hn]; exact .non)
  · subst hd
    exact h3 v F' H' s'.gr.toGr hr2
theorem law_start {K : Fg} {H : Hp} {a : Addr} {ns : List Int} (hl : ns.length ≤ 63) (hS : SqL K H a (ns.map V.int)) : SpP K P_law [.ref a] H (fun v _ => v = .bl true) fun _ _ _ => False :=
  ⟨H, [dScr ns], .bool true, Ex.refl _, .cons (.scr hS) .nil, ⟨ns, hl, rfl, rfl⟩, fun v F' H' _ hr => hr.bl_inv⟩
def hdFn0 : List He.DefD := [⟨("is_int", none), "is_int", "is_int", defArgs s_is_int, defBody s_is_int, defScope s_is_int, [], []⟩, ⟨("is_in", none), "is_in", "is_in", defArgs s_is_in, defBody s_is_in, defScope s_is_in, [], []⟩, ⟨("is_state", none), "is_state", "is_state", defArgs s_is_state, defBody s_is_state, defScope s_is_state, [], []⟩, ⟨("need_state", none), "need_state", "need_state", defArgs s_need_state, defBody s_need_state, defScope s_need_state, [], []⟩, ⟨("common", none), "common", "common", defArgs s_common, defBody s_common, defScope s_common, [], []⟩, ⟨("gaps_of", none), "gaps_of", "gaps_of", defArgs s_gaps_of, defBody s_gaps_of, defScope s_gaps_of, [], []⟩, ⟨("middle_of", none), "middle_of", "middle_of", defArgs s_middle_of, defBody s_middle_of, defScope s_middle_of, [], []⟩, ⟨("grain_of", none), "grain_of", "grain_of", defArgs s_grain_of, defBody s_grain_of, defScope s_grain_of, [], []⟩, ⟨("pair_of", none), "pair_of", "pair_of", defArgs s_pair_of, defBody s_pair_of, defScope s_pair_of, [], []⟩, ⟨("are_walls", none), "are_walls", "are_walls", defArgs s_are_walls, defBody s_are_walls, defScope s_are_walls, [], []⟩, ⟨("need_walls", none), "need_walls", "need_walls", defArgs s_need_walls, defBody s_need_walls, defScope s_need_walls, [], []⟩, ⟨("box_of", none), "box_of", "box_of", defArgs s_box_of, defBody s_box_of, defScope s_box_of, [], []⟩, ⟨("mobius", none), "mobius", "mobius", defArgs s_mobius, defBody s_mobius, defScope s_mobius, [], []⟩, ⟨("chosen_pairs", none), "chosen_pairs", "chosen_pairs", defArgs s_chosen_pairs, defBody s_chosen_pairs, defScope s_chosen_pairs, [], []⟩, ⟨("need_box", none), "need_box", "need_box", defArgs s_need_box, defBody s_need_box, defScope s_need_box, [], []⟩, ⟨("pairs_within", none), "pairs_within", "pairs_within", defArgs s_pairs_within, defBody s_pairs_within, defScope s_pairs_within, [], []⟩, ⟨("need_field", none), "need_field", "need_field", defArgs s_need_field, defBody s_need_field, defScope s_need_field, [], []⟩, ⟨("parent_of", none), "parent_of", "parent_of", defArgs s_parent_of, defBody s_parent_of, defScope s_parent_of, [], []⟩, ⟨("heights_of", none), "heights_of", "heights_of", defArgs s_heights_of, defBody s_heights_of, defScope s_heights_of, [], []⟩, ⟨("max_low", none), "max_low", "max_low", defArgs s_max_low, defBody s_max_low, defScope s_max_low, [], []⟩]
def hdFn1 : List He.DefD := [⟨("greatest_depth", none), "greatest_depth", "greatest_depth", defArgs s_greatest_depth, defBody s_greatest_depth, defScope s_greatest_depth, [], []⟩, ⟨("width_within", none), "width_within", "width_within", defArgs s_width_within, defBody s_width_within, defScope s_width_within, [], []⟩, ⟨("distances_in", none), "distances_in", "distances_in", defArgs s_distances_in, defBody s_distances_in, defScope s_distances_in, [], []⟩, ⟨("farthest_within", none), "farthest_within", "farthest_within", defArgs s_farthest_within, defBody s_farthest_within, defScope s_farthest_within, [], []⟩, ⟨("_law_taken", none), "_law_taken", "_law_taken", defArgs s_l_taken, defBody s_l_taken, defScope s_l_taken, [], []⟩, ⟨("_law_pick", none), "_law_pick", "_law_pick", defArgs s_l_pick, defBody s_l_pick, defScope s_l_pick, [], []⟩, ⟨("_law_alike", none), "_law_alike", "_law_alike", defArgs s_l_alike, defBody s_l_alike, defScope s_l_alike, [], []⟩, ⟨("_law_state", none), "_law_state", "_law_state", defArgs s_l_state, defBody s_l_state, defScope s_l_state, [], []⟩, ⟨("_law_walk", none), "_law_walk", "_law_walk", defArgs s_l_walk, defBody s_l_walk, defScope s_l_walk, [], []⟩, ⟨("_law_order", none), "_law_order", "_law_order", defArgs s_l_order, defBody s_l_order, defScope s_l_order, [], []⟩, ⟨("_law_leapt", none), "_law_leapt", "_law_leapt", defArgs s_l_leapt, defBody s_l_leapt, defScope s_l_leapt, [], []⟩, ⟨("_law_inward", none), "_law_inward", "_law_inward", defArgs s_l_inward, defBody s_l_inward, defScope s_l_inward, [], []⟩, ⟨("_law_line", none), "_law_line", "_law_line", defArgs s_l_line, defBody s_l_line, defScope s_l_line, [], []⟩, ⟨("_law_way", none), "_law_way", "_law_way", defArgs s_l_way, defBody s_l_way, defScope s_l_way, [], []⟩, ⟨("_law_far", none), "_law_far", "_law_far", defArgs s_l_far, defBody s_l_far, defScope s_l_far, [], []⟩, ⟨("_law_behind", none), "_law_behind", "_law_behind", defArgs s_l_behind, defBody s_l_behind, defScope s_l_behind, [], []⟩, ⟨("_law_field", none), "_law_field", "_law_field", defArgs s_l_field, defBody s_l_field, defScope s_l_field, [], []⟩, ⟨("_law_shuts", none), "_law_shuts", "_law_shuts", defArgs s_l_shuts, defBody s_l_shuts, defScope s_l_shuts, [], []⟩, ⟨("_law_common", none), "_law_common", "_law_common", defArgs s_l_common, defBody s_l_common, defScope s_l_common, [], []⟩, ⟨("_law_pair", none), "_law_pair", "_law_pair", defArgs s_l_pair, defBody s_l_pair, defScope s_l_pair, [], []⟩]
def hdFn2 : List He.DefD := [⟨("law", none), "law", "law", defArgs s_law, defBody s_law, defScope s_law, [], []⟩]
def hdFn : List He.DefD := hdFn0 ++ hdFn1 ++ hdFn2
def hdFa0 : List He.Fa := [.glo "is_int", .glo "is_in", .glo "is_state", .glo "need_state", .glo "common", .glo "gaps_of", .glo "middle_of", .glo "grain_of", .glo "pair_of", .glo "are_walls", .glo "need_walls", .glo "box_of", .glo "mobius", .glo "chosen_pairs", .glo "need_box", .glo "pairs_within", .glo "need_field", .glo "parent_of", .glo "heights_of", .glo "max_low"]
def hdFa1 : List He.Fa := [.glo "greatest_depth", .glo "width_within", .glo "distances_in", .glo "farthest_within", .glo "_law_taken", .glo "_law_pick", .glo "_law_alike", .glo "_law_state", .glo "_law_walk", .glo "_law_order", .glo "_law_leapt", .glo "_law_inward", .glo "_law_line", .glo "_law_way", .glo "_law_far", .glo "_law_behind", .glo "_law_field", .glo "_law_shuts", .glo "_law_common", .glo "_law_pair"]
def hdFa2 : List He.Fa := [.glo "law", .free "isinstance", .free "len", .free "all", .free "abs", .free "min", .free "max", .free "sorted", .free "sum", .free "int", .free "bool", .free "tuple", .free "list", .free "str", .free "range", .free "zip", .free "enumerate", .int "MOST_PLACE" 1000000000000000000, .int "STONES" 3, .int "MOST_SIDE" 100000]
def hdFa3 : List He.Fa := [.int "MOST_FIELD" 20000]
def hdFa : List He.Fa := hdFa0 ++ hdFa1 ++ hdFa2 ++ hdFa3
def hdLoose0 : List PySem.Str := ["LeapError", "BadState", "BadWalls", "TooMany", "MOST_PLACE", "STONES", "MOST_SIDE", "MOST_FIELD", "is_int", "is_in", "is_state", "need_state", "common", "gaps_of", "middle_of", "grain_of", "pair_of", "are_walls", "need_walls", "box_of"]
def hdLoose1 : List PySem.Str := ["mobius", "chosen_pairs", "need_box", "pairs_within", "need_field", "parent_of", "heights_of", "max_low", "greatest_depth", "width_within", "distances_in", "farthest_within", "_law_taken", "_law_pick", "_law_alike", "_law_state", "_law_walk", "_law_order", "_law_leapt", "_law_inward"]
def hdLoose2 : List PySem.Str := ["_law_line", "_law_way", "_law_far", "_law_behind", "_law_field", "_law_shuts", "_law_common", "_law_pair"]
def hdLoose : List PySem.Str := hdLoose0 ++ hdLoose1 ++ hdLoose2
abbrev hdR : PySem.W.OpenRow := PySem.W.OpenLaw.row PySem.Challenge.rw_leaprows_k40_whole_fields
abbrev hdHk : PySem.W.Hook := He.hookD 4 hdFa hdFn
def hdOb (s : PySem.W.SharedT) : He.AlD := He.obsDG 4 hdFa hdFn (HandSHeadRun.getT s)
theorem hdOb_eq (s : PySem.W.SharedT) : hdOb s = hdHk.obs s.abs := He.obsDG_eq (HandSHeadRun.getT_eq s)
theorem hdRun (w : World) : HandSHeadRun.RunEq hdR (PySem.W.view hdR.prog [52]) hdHk hdOb 20000 hdLoose w := by
  intro os
  kernel_rfl
theorem hdFacts {P : Program} {w : World} {K : Fg} {h : Heap} {mg : Str → Option Value} {f : Addr} (X : K.In h) (G : h.Ns mainGlobals mg) (hfa : mg ("law" : Str) = some (.ref f)) (c : He.SaysD hdFa hdFn K) :
    ∃ fd : FuncData, (∀ (s : Shared) (v : Value), BindsTo s fd ⟨[v], []⟩ [("_law_script", v)]) ∧ ∀ base : Heap, K.In base → base.Ns mainGlobals mg → FnOk P w K mg base CX0 9 f fd ["_law_script"] (SpP K P_law) := by
  obtain ⟨fd_is_int, D_is_int⟩ := c.def_ 0 (d := ⟨("is_int", none), "is_int", "is_int", defArgs s_is_int, defBody s_is_int, defScope s_is_int, [], []⟩) rfl
  have F_is_int := fun_of (st := s_is_int) D_is_int
  have m_is_int := He.glo_ok X G (c.fact 0 (f := .glo "is_int") rfl)
  obtain ⟨fd_is_in, D_is_in⟩ := c.def_ 1 (d := ⟨("is_in", none), "is_in", "is_in", defArgs s_is_in, defBody s_is_in, defScope s_is_in, [], []⟩) rfl
  have F_is_in := fun_of (st := s_is_in) D_is_in
  have m_is_in := He.glo_ok X G (c.fact 1 (f := .glo "is_in") rfl)
  obtain ⟨fd_is_state, D_is_state⟩ := c.def_ 2 (d := ⟨("is_state", none), "is_state", "is_state", defArgs s_is_state, defBody s_is_state, defScope s_is_state, [], []⟩) rfl
  have F_is_state := fun_of (st := s_is_state) D_is_state
  have m_is_state := He.glo_ok X G (c.fact 2 (f := .glo "is_state") rfl)
  obtain ⟨fd_need_state, D_need_state⟩ := c.def_ 3 (d := ⟨("need_state", none), "need_state", "need_state", defArgs s_need_state, defBody s_need_state, defScope s_need_state, [], []⟩) rfl
  have F_need_state := fun_of (st := s_need_state) D_need_state
  have m_need_state := He.glo_ok X G (c.fact 3 (f := .glo "need_state") rfl)
  obtain ⟨fd_common, D_common⟩ := c.def_ 4 (d := ⟨("common", none), "common", "common", defArgs s_common, defBody s_common, defScope s_common, [], []⟩) rfl
  have F_common := fun_of (st := s_common) D_common
  have m_common := He.glo_ok X G (c.fact 4 (f := .glo "common") rfl)
  obtain ⟨fd_gaps_of, D_gaps_of⟩ := c.def_ 5 (d := ⟨("gaps_of", none), "gaps_of", "gaps_of", defArgs s_gaps_of, defBody s_gaps_of, defScope s_gaps_of, [], []⟩) rfl
  have F_gaps_of := fun_of (st := s_gaps_of) D_gaps_of
  have m_gaps_of := He.glo_ok X G (c.fact 5 (f := .glo "gaps_of") rfl)
  obtain ⟨fd_middle_of, D_middle_of⟩ := c.def_ 6 (d := ⟨("middle_of", none), "middle_of", "middle_of", defArgs s_middle_of, defBody s_middle_of, defScope s_middle_of, [], []⟩) rfl
  have F_middle_of := fun_of (st := s_middle_of) D_middle_of
  have m_middle_of := He.glo_ok X G (c.fact 6 (f := .glo "middle_of") rfl)
  obtain ⟨fd_grain_of, D_grain_of⟩ := c.def_ 7 (d := ⟨("grain_of", none), "grain_of", "grain_of", defArgs s_grain_of, defBody s_grain_of, defScope s_grain_of, [], []⟩) rfl
  have F_grain_of := fun_of (st := s_grain_of) D_grain_of
  have m_grain_of := He.glo_ok X G (c.fact 7 (f := .glo "grain_of") rfl)
  obtain ⟨fd_pair_of, D_pair_of⟩ := c.def_ 8 (d := ⟨("pair_of", none), "pair_of", "pair_of", defArgs s_pair_of, defBody s_pair_of, defScope s_pair_of, [], []⟩) rfl
  have F_pair_of := fun_of (st := s_pair_of) D_pair_of
  have m_pair_of := He.glo_ok X G (c.fact 8 (f := .glo "pair_of") rfl)
  obtain ⟨fd_are_walls, D_are_walls⟩ := c.def_ 9 (d := ⟨("are_walls", none), "are_walls", "are_walls", defArgs s_are_walls, defBody s_are_walls, defScope s_are_walls, [], []⟩) rfl
  have F_are_walls := fun_of (st := s_are_walls) D_are_walls
  have m_are_walls := He.glo_ok X G (c.fact 9 (f := .glo "are_walls") rfl)
  obtain ⟨fd_need_walls, D_need_walls⟩ := c.def_ 10 (d := ⟨("need_walls", none), "need_walls", "need_walls", defArgs s_need_walls, defBody s_need_walls, defScope s_need_walls, [], []⟩) rfl
  have F_need_walls := fun_of (st := s_need_walls) D_need_walls
  have m_need_walls := He.glo_ok X G (c.fact 10 (f := .glo "need_walls") rfl)
  obtain ⟨fd_box_of, D_box_of⟩ := c.def_ 11 (d := ⟨("box_of", none), "box_of", "box_of", defArgs s_box_of, defBody s_box_of, defScope s_box_of, [], []⟩) rfl
  have F_box_of := fun_of (st := s_box_of) D_box_of
  have m_box_of := He.glo_ok X G (c.fact 11 (f := .glo "box_of") rfl)
  obtain ⟨fd_mobius, D_mobius⟩ := c.def_ 12 (d := ⟨("mobius", none), "mobius", "mobius", defArgs s_mobius, defBody s_mobius, defScope s_mobius, [], []⟩) rfl
  have F_mobius := fun_of (st := s_mobius) D_mobius
  have m_mobius := He.glo_ok X G (c.fact 12 (f := .glo "mobius") rfl)
  obtain ⟨fd_chosen_pairs, D_chosen_pairs⟩ := c.def_ 13 (d := ⟨("chosen_pairs", none), "chosen_pairs", "chosen_pairs", defArgs s_chosen_pairs, defBody s_chosen_pairs, defScope s_chosen_pairs, [], []⟩) rfl
  have F_chosen_pairs := fun_of (st := s_chosen_pairs) D_chosen_pairs
  have m_chosen_pairs := He.glo_ok X G (c.fact 13 (f := .glo "chosen_pairs") rfl)
  obtain ⟨fd_need_box, D_need_box⟩ := c.def_ 14 (d := ⟨("need_box", none), "need_box", "need_box", defArgs s_need_box, defBody s_need_box, defScope s_need_box, [], []⟩) rfl
  have F_need_box := fun_of (st := s_need_box) D_need_box
  have m_need_box := He.glo_ok X G (c.fact 14 (f := .glo "need_box") rfl)
  obtain ⟨fd_pairs_within, D_pairs_within⟩ := c.def_ 15 (d := ⟨("pairs_within", none), "pairs_within", "pairs_within", defArgs s_pairs_within, defBody s_pairs_within, defScope s_pairs_within, [], []⟩) rfl
  have F_pairs_within := fun_of (st := s_pairs_within) D_pairs_within
  have m_pairs_within := He.glo_ok X G (c.fact 15 (f := .glo "pairs_within") rfl)
  obtain ⟨fd_need_field, D_need_field⟩ := c.def_ 16 (d := ⟨("need_field", none), "need_field", "need_field", defArgs s_need_field, defBody s_need_field, defScope s_need_field, [], []⟩) rfl
  have F_need_field := fun_of (st := s_need_field) D_need_field
  have m_need_field := He.glo_ok X G (c.fact 16 (f := .glo "need_field") rfl)
  obtain ⟨fd_parent_of, D_parent_of⟩ := c.def_ 17 (d := ⟨("parent_of", none), "parent_of", "parent_of", defArgs s_parent_of, defBody s_parent_of, defScope s_parent_of, [], []⟩) rfl
  have F_parent_of := fun_of (st := s_parent_of) D_parent_of
  have m_parent_of := He.glo_ok X G (c.fact 17 (f := .glo "parent_of") rfl)
  obtain ⟨fd_heights_of, D_heights_of⟩ := c.def_ 18 (d := ⟨("heights_of", none), "heights_of", "heights_of", defArgs s_heights_of, defBody s_heights_of, defScope s_heights_of, [], []⟩) rfl
  have F_heights_of := fun_of (st := s_heights_of) D_heights_of
  have m_heights_of := He.glo_ok X G (c.fact 18 (f := .glo "heights_of") rfl)
  obtain ⟨fd_max_low, D_max_low⟩ := c.def_ 19 (d := ⟨("max_low", none), "max_low", "max_low", defArgs s_max_low, defBody s_max_low, defScope s_max_low, [], []⟩) rfl
  have F_max_low := fun_of (st := s_max_low) D_max_low
  have m_max_low := He.glo_ok X G (c.fact 19 (f := .glo "max_low") rfl)
  obtain ⟨fd_greatest_depth, D_greatest_depth⟩ := c.def_ 20 (d := ⟨("greatest_depth", none), "greatest_depth", "greatest_depth", defArgs s_greatest_depth, defBody s_greatest_depth, defScope s_greatest_depth, [], []⟩) rfl
  have F_greatest_depth := fun_of (st := s_greatest_depth) D_greatest_depth
  have m_greatest_depth := He.glo_ok X G (c.fact 20 (f := .glo "greatest_depth") rfl)
  obtain ⟨fd_width_within, D_width_within⟩ := c.def_ 21 (d := ⟨("width_within", none), "width_within", "width_within", defArgs s_width_within, defBody s_width_within, defScope s_width_within, [], []⟩) rfl
  have F_width_within := fun_of (st := s_width_within) D_width_within
  have m_width_within := He.glo_ok X G (c.fact 21 (f := .glo "width_within") rfl)
  obtain ⟨fd_distances_in, D_distances_in⟩ := c.def_ 22 (d := ⟨("distances_in", none), "distances_in", "distances_in", defArgs s_distances_in, defBody s_distances_in, defScope s_distances_in, [], []⟩) rfl
  have F_distances_in := fun_of (st := s_distances_in) D_distances_in
  have m_distances_in := He.glo_ok X G (c.fact 22 (f := .glo "distances_in") rfl)
  obtain ⟨fd_farthest_within, D_farthest_within⟩ := c.def_ 23 (d := ⟨("farthest_within", none), "farthest_within", "farthest_within", defArgs s_farthest_within, defBody s_farthest_within, defScope s_farthest_within, [], []⟩) rfl
  have F_farthest_within := fun_of (st := s_farthest_within) D_farthest_within
  have m_farthest_within := He.glo_ok X G (c.fact 23 (f := .glo "farthest_within") rfl)
  obtain ⟨fd_l_taken, D_l_taken⟩ := c.def_ 24 (d := ⟨("_law_taken", none), "_law_taken", "_law_taken", defArgs s_l_taken, defBody s_l_taken, defScope s_l_taken, [], []⟩) rfl
  have F_l_taken := fun_of (st := s_l_taken) D_l_taken
  have m_l_taken := He.glo_ok X G (c.fact 24 (f := .glo "_law_taken") rfl)
  obtain ⟨fd_l_pick, D_l_pick⟩ := c.def_ 25 (d := ⟨("_law_pick", none), "_law_pick", "_law_pick", defArgs s_l_pick, defBody s_l_pick, defScope s_l_pick, [], []⟩) rfl
  have F_l_pick := fun_of (st := s_l_pick) D_l_pick
  have m_l_pick := He.glo_ok X G (c.fact 25 (f := .glo "_law_pick") rfl)
  obtain ⟨fd_l_alike, D_l_alike⟩ := c.def_ 26 (d := ⟨("_law_alike", none), "_law_alike", "_law_alike", defArgs s_l_alike, defBody s_l_alike, defScope s_l_alike, [], []⟩) rfl
  have F_l_alike := fun_of (st := s_l_alike) D_l_alike
  have m_l_alike := He.glo_ok X G (c.fact 26 (f := .glo "_law_alike") rfl)
  obtain ⟨fd_l_state, D_l_state⟩ := c.def_ 27 (d := ⟨("_law_state", none), "_law_state", "_law_state", defArgs s_l_state, defBody s_l_state, defScope s_l_state, [], []⟩) rfl
  have F_l_state := fun_of (st := s_l_state) D_l_state
  have m_l_state := He.glo_ok X G (c.fact 27 (f := .glo "_law_state") rfl)
  obtain ⟨fd_l_walk, D_l_walk⟩ := c.def_ 28 (d := ⟨("_law_walk", none), "_law_walk", "_law_walk", defArgs s_l_walk, defBody s_l_walk, defScope s_l_walk, [], []⟩) rfl
  have F_l_walk := fun_of (st := s_l_walk) D_l_walk
  have m_l_walk := He.glo_ok X G (c.fact 28 (f := .glo "_law_walk") rfl)
  obtain ⟨fd_l_order, D_l_order⟩ := c.def_ 29 (d := ⟨("_law_order", none), "_law_order", "_law_order", defArgs s_l_order, defBody s_l_order, defScope s_l_order, [], []⟩) rfl
  have F_l_order := fun_of (st := s_l_order) D_l_order
  have m_l_order := He.glo_ok X G (c.fact 29 (f := .glo "_law_order") rfl)
  obtain ⟨fd_l_leapt, D_l_leapt⟩ := c.def_ 30 (d := ⟨("_law_leapt", none), "_law_leapt", "_law_leapt", defArgs s_l_leapt, defBody s_l_leapt, defScope s_l_leapt, [], []⟩) rfl
  have F_l_leapt := fun_of (st := s_l_leapt) D_l_leapt
  have m_l_leapt := He.glo_ok X G (c.fact 30 (f := .glo "_law_leapt") rfl)
  obtain ⟨fd_l_inward, D_l_inward⟩ := c.def_ 31 (d := ⟨("_law_inward", none), "_law_inward", "_law_inward", defArgs s_l_inward, defBody s_l_inward, defScope s_l_inward, [], []⟩) rfl
  have F_l_inward := fun_of (st := s_l_inward) D_l_inward
  have m_l_inward := He.glo_ok X G (c.fact 31 (f := .glo "_law_inward") rfl)
  obtain ⟨fd_l_line, D_l_line⟩ := c.def_ 32 (d := ⟨("_law_line", none), "_law_line", "_law_line", defArgs s_l_line, defBody s_l_line, defScope s_l_line, [], []⟩) rfl
  have F_l_line := fun_of (st := s_l_line) D_l_line
  have m_l_line := He.glo_ok X G (c.fact 32 (f := .glo "_law_line") rfl)
  obtain ⟨fd_l_way, D_l_way⟩ := c.def_ 33 (d := ⟨("_law_way", none), "_law_way", "_law_way", defArgs s_l_way, defBody s_l_way, defScope s_l_way, [], []⟩) rfl
  have F_l_way := fun_of (st := s_l_way) D_l_way
  have m_l_way := He.glo_ok X G (c.fact 33 (f := .glo "_law_way") rfl)
  obtain ⟨fd_l_far, D_l_far⟩ := c.def_ 34 (d := ⟨("_law_far", none), "_law_far", "_law_far", defArgs s_l_far, defBody s_l_far, defScope s_l_far, [], []⟩) rfl
  have F_l_far := fun_of (st := s_l_far) D_l_far
  have m_l_far := He.glo_ok X G (c.fact 34 (f := .glo "_law_far") rfl)
  obtain ⟨fd_l_behind, D_l_behind⟩ := c.def_ 35 (d := ⟨("_law_behind", none), "_law_behind", "_law_behind", defArgs s_l_behind, defBody s_l_behind, defScope s_l_behind, [], []⟩) rfl
  have F_l_behind := fun_of (st := s_l_behind) D_l_behind
  have m_l_behind := He.glo_ok X G (c.fact 35 (f := .glo "_law_behind") rfl)
  obtain ⟨fd_l_field, D_l_field⟩ := c.def_ 36 (d := ⟨("_law_field", none), "_law_field", "_law_field", defArgs s_l_field, defBody s_l_field, defScope s_l_field, [], []⟩) rfl
  have F_l_field := fun_of (st := s_l_field) D_l_field
  have m_l_field := He.glo_ok X G (c.fact 36 (f := .glo "_law_field") rfl)
  obtain ⟨fd_l_shuts, D_l_shuts⟩ := c.def_ 37 (d := ⟨("_law_shuts", none), "_law_shuts", "_law_shuts", defArgs s_l_shuts, defBody s_l_shuts, defScope s_l_shuts, [], []⟩) rfl
  have F_l_shuts := fun_of (st := s_l_shuts) D_l_shuts
  have m_l_shuts := He.glo_ok X G (c.fact 37 (f := .glo "_law_shuts") rfl)
  obtain ⟨fd_l_common, D_l_common⟩ := c.def_ 38 (d := ⟨("_law_common", none), "_law_common", "_law_common", defArgs s_l_common, defBody s_l_common, defScope s_l_common, [], []⟩) rfl
  have F_l_common := fun_of (st := s_l_common) D_l_common
  have m_l_common := He.glo_ok X G (c.fact 38 (f := .glo "_law_common") rfl)
  obtain ⟨fd_l_pair, D_l_pair⟩ := c.def_ 39 (d := ⟨("_law_pair", none), "_law_pair", "_law_pair", defArgs s_l_pair, defBody s_l_pair, defScope s_l_pair, [], []⟩) rfl
  have F_l_pair := fun_of (st := s_l_pair) D_l_pair
  have m_l_pair := He.glo_ok X G (c.fact 39 (f := .glo "_law_pair") rfl)
  obtain ⟨fd_law, D_law⟩ := c.def_ 40 (d := ⟨("law", none), "law", "law", defArgs s_law, defBody s_law, defScope s_law, [], []⟩) rfl
  have F_law := fun_of (st := s_law) D_law
  have m_law := He.glo_ok X G (c.fact 40 (f := .glo "law") rfl)
  have T : Bl mg := ⟨He.free_ok X G (c.fact 41 (f := .free "isinstance") rfl), He.free_ok X G (c.fact 42 (f := .free "len") rfl), He.free_ok X G (c.fact 43 (f := .free "all") rfl), He.free_ok X G (c.fact 44 (f := .free "abs") rfl), He.free_ok X G (c.fact 45 (f := .free "min") rfl), He.free_ok X G (c.fact 46 (f := .free "max") rfl), He.free_ok X G (c.fact 47 (f := .free "sorted") rfl), He.free_ok X G (c.fact 48 (f := .free "sum") rfl), He.free_ok X G (c.fact 49 (f := .free "int") rfl), He.free_ok X G (c.fact 50 (f := .free "bool") rfl), He.free_ok X G (c.fact 51 (f := .free "tuple") rfl), He.free_ok X G (c.fact 52 (f := .free "list") rfl), He.free_ok X G (c.fact 53 (f := .free "str") rfl), He.free_ok X G (c.fact 54 (f := .free "range") rfl), He.free_ok X G (c.fact 55 (f := .free "zip") rfl), He.free_ok X G (c.fact 56 (f := .free "enumerate") rfl), He.int_ok X G (c.fact 57 (f := .int "MOST_PLACE" 1000000000000000000) rfl), He.int_ok X G (c.fact 58 (f := .int "STONES" 3) rfl), He.int_ok X G (c.fact 59 (f := .int "MOST_SIDE" 100000) rfl), He.int_ok X G (c.fact 60 (f := .int "MOST_FIELD" 20000) rfl)⟩
  have e := hfa.symm.trans m_law
  cases e
  have b := FunD.bindsA (ps := ["_law_script"]) D_law fun _ _ _ _ _ _ us hl => match us, hl with | [_], _ => rfl
  refine ⟨fd_law, fun s v => b s [v] rfl, fun base _ _ => ?_⟩
  have C_is_int := ok_is_int (P := P) (w := w) (base := base) T F_is_int m_is_int
  have C_common := ok_common (P := P) (w := w) (base := base) T F_common m_common
  have C_gaps_of := ok_gaps_of (P := P) (w := w) (base := base) T F_gaps_of m_gaps_of
  have C_middle_of := ok_middle_of (P := P) (w := w) (base := base) T F_middle_of m_middle_of
  have C_mobius := ok_mobius (P := P) (w := w) (base := base) T F_mobius m_mobius
  have C_pairs_within := ok_pairs_within (P := P) (w := w) (base := base) T F_pairs_within m_pairs_within
  have C_parent_of := ok_parent_of (P := P) (w := w) (base := base) T F_parent_of m_parent_of
  have C_max_low := ok_max_low (P := P) (w := w) (base := base) T F_max_low m_max_low
  have C_l_taken := ok_l_taken (P := P) (w := w) (base := base) T F_l_taken m_l_taken
  have C_l_alike := ok_l_alike (P := P) (w := w) (base := base) T F_l_alike m_l_alike
  have C_l_order := ok_l_order (P := P) (w := w) (base := base) T F_l_order m_l_order
  have C_l_leapt := ok_l_leapt (P := P) (w := w) (base := base) T F_l_leapt m_l_leapt
  have C_l_common := ok_l_common (P := P) (w := w) (base := base) T F_l_common m_l_common
  have C_is_in := ok_is_in (P := P) (w := w) (base := base) T C_is_int F_is_in m_is_in
  have C_grain_of := ok_grain_of (P := P) (w := w) (base := base) T C_gaps_of C_common F_grain_of m_grain_of
  have C_pair_of := ok_pair_of (P := P) (w := w) (base := base) T C_gaps_of C_common F_pair_of m_pair_of
  have C_chosen_pairs := ok_chosen_pairs (P := P) (w := w) (base := base) T C_mobius F_chosen_pairs m_chosen_pairs
  have C_heights_of := ok_heights_of (P := P) (w := w) (base := base) T C_max_low C_parent_of F_heights_of m_heights_of
  have C_distances_in := ok_distances_in (P := P) (w := w) (base := base) T C_parent_of F_distances_in m_distances_in
  have C_l_pick := ok_l_pick (P := P) (w := w) (base := base) T C_l_taken F_l_pick m_l_pick
  have C_l_inward := ok_l_inward (P := P) (w := w) (base := base) T C_l_order C_l_leapt F_l_inward m_l_inward
  have C_l_behind := ok_l_behind (P := P) (w := w) (base := base) T C_l_order C_l_leapt F_l_behind m_l_behind
  have C_l_shuts := ok_l_shuts (P := P) (w := w) (base := base) T C_l_taken F_l_shuts m_l_shuts
  have C_l_pair := ok_l_pair (P := P) (w := w) (base := base) T C_l_common F_l_pair m_l_pair
  have C_is_state := ok_is_state (P := P) (w := w) (base := base) T C_is_in F_is_state m_is_state
  have C_are_walls := ok_are_walls (P := P) (w := w) (base := base) T C_is_in F_are_walls m_are_walls
  have C_box_of := ok_box_of (P := P) (w := w) (base := base) T C_grain_of C_middle_of F_box_of m_box_of
  have C_l_walk := ok_l_walk (P := P) (w := w) (base := base) T C_l_taken C_l_order C_l_pick C_l_leapt F_l_walk m_l_walk
  have C_l_line := ok_l_line (P := P) (w := w) (base := base) T C_l_inward F_l_line m_l_line
  have C_need_state := ok_need_state (P := P) (w := w) (base := base) T C_is_state F_need_state m_need_state
  have C_l_state := ok_l_state (P := P) (w := w) (base := base) T C_l_pick C_l_taken C_l_walk F_l_state m_l_state
  have C_l_way := ok_l_way (P := P) (w := w) (base := base) T C_l_line F_l_way m_l_way
  have C_l_field := ok_l_field (P := P) (w := w) (base := base) T C_l_line C_l_behind F_l_field m_l_field
  have C_need_walls := ok_need_walls (P := P) (w := w) (base := base) T C_need_state C_are_walls F_need_walls m_need_walls
  have C_l_far := ok_l_far (P := P) (w := w) (base := base) T C_l_way F_l_far m_l_far
  have C_need_box := ok_need_box (P := P) (w := w) (base := base) T C_need_walls C_box_of F_need_box m_need_box
  have C_need_field := ok_need_field (P := P) (w := w) (base := base) T C_need_box C_chosen_pairs C_pairs_within F_need_field m_need_field
  have C_greatest_depth := ok_greatest_depth (P := P) (w := w) (base := base) T C_need_field C_heights_of F_greatest_depth m_greatest_depth
  have C_width_within := ok_width_within (P := P) (w := w) (base := base) T C_need_field C_parent_of F_width_within m_width_within
  have C_farthest_within := ok_farthest_within (P := P) (w := w) (base := base) T C_need_field C_pair_of C_distances_in F_farthest_within m_farthest_within
  exact ok_pure0 (ps := ["_law_script"]) F_law sc_law (fun cdv A outer s H E hr => p_law T C_l_state C_l_pair C_l_shuts C_l_field C_greatest_depth C_l_line C_l_alike C_l_far C_farthest_within C_l_behind C_width_within cdv A outer s H E hr) go_law
end LR
open PySem PySem.W PySem.Calls PyProof.Rows
theorem PySem.Challenge.cw_leaprows_k40_whole_fields_holds : PySem.Challenge.rw_leaprows_k40_whole_fields.Holds := by
  w_on; o_law
  refine HandSHeadRun.head_any (r := OpenLaw.row PySem.Challenge.rw_leaprows_k40_whole_fields) (q := view (OpenLaw.row PySem.Challenge.rw_leaprows_k40_whole_fields).prog [52]) (H := LR.hdHk) (ob := LR.hdOb) (M := 20000) (loose := LR.hdLoose)
    (d := HandSHeadRun.topDef (OpenLaw.row PySem.Challenge.rw_leaprows_k40_whole_fields).prog 52) (kwd := []) LR.hdOb_eq (by kernel_rfl) (fun s => by kernel_rfl) LR.hdRun (by kernel_rfl) (by kernel_rfl) (by kernel_rfl) (by rfl) (by first | assumption | decide +kernel) (by decide +kernel) ⟨rfl, rfl, rfl, rfl, rfl, by decide +kernel⟩ ?hw ?hc
  case hw => w_witness2
  case hc =>
    refine L2.walk_ofE (l := PySem.Challenge.rw_leaprows_k40_whole_fields) (n := 63) (k := 9) (x := "_law_script") (CX := L2.CX0) rfl (by decide) (by kernel_rfl) ⟨rfl, by decide, by decide⟩ ?F (fun _ _ _ _ z => z)
    intro w mg fa h Y G hmg0
    obtain ⟨K, KX, c⟩ := Y
    have hmg : mg ("law" : PySem.Str) = some (.ref fa) := by
      have e : (HandSHeadRun.topDef (OpenLaw.row PySem.Challenge.rw_leaprows_k40_whole_fields).prog 52).name = ("law" : PySem.Str) := by kernel_rfl
      rw [← e]
      exact hmg0
    obtain ⟨fd, hb, hF⟩ := LR.hdFacts (P := (PySem.Challenge.rw_leaprows_k40_whole_fields).prog) (w := w) KX G hmg c
    exact ⟨K, fd, LR.SpP K LR.P_law, KX, hb, fun H a ns hl _ hS => LR.law_start hl hS, hF⟩

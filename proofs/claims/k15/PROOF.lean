import PyProof.Rows.All
import Wide.All
import OpenK.AllK
import Wide.FinOn
import HandS.ForMost
import HandS.Style
import HandS.TupAny
import HandS.TupMul
import HandS.Zip
import KE.SortData
import HandS.SetFor
import HandS.Conv
import HandS.Flow
import HandS.Deep
import HandS.Text
import HandS.Replace
import HandS.Wide
import HandS.IsInst
import KE.GoesMore
import HandS.Dict
import KE.GoesEnum
import HandS.WordsDict
import HandS.Star
import HandS.More
import HandS.Property
import HandS.CallRecv
import PyProof.AssignAttr
import PyProof.StrLawsChain
import HandS.Codes
import HandS.EndBits
import HandS.HeadHook4
import HandS.Head2
import HandS.HeadEnd
import PySem.Challenge.RW_onestillview_k15_beats_by_hand
set_option Elab.async false
set_option linter.all false
set_option maxRecDepth 1000000
set_option maxHeartbeats 0
/-! Rules that the hand layer lacks. -/
namespace EvP
open PySem PySem.Spec PyProof.Rows L2 HT
section
variable {prog : Program} {w : World} {A : Around} {E : Value → Shared → Prop} {s : Shared}
theorem back_adj (n : Nat) : Builtin.Slice.sliceAdjust none none (-1) (n : Int) = ((n : Int) - 1, -1) := by
  unfold Builtin.Slice.sliceAdjust
  simp
theorem back_places (n : Nat) : Builtin.Slice.slicePlaces ((n : Int) - 1) (-1) (-1) = n := by
  unfold Builtin.Slice.slicePlaces
  simp
  split <;> omega
theorem back_applied {sl : Addr} {v1 v2 v3 : Value} {n : Nat} {Q : Int × Int × Nat → Shared → Prop} (hsl : s.heap.IsSliceOf sl v1 v2 v3) (p1 : IsPart v1 none) (p2 : IsPart v2 none) (p3 : IsPart v3 (some (-1)))
    (done : Q ((n : Int) - 1, -1, n) s) : wpAny (model prog w) A (Builtin.Slice.sliceApplied (.ref sl) (pure (n : Int))) Q E s := by
  obtain ⟨o, ho, hcls, hflds⟩ := id hsl
  unfold Builtin.Slice.sliceApplied Builtin.Slice.sliceFields
  refine wpAny_bind (wpAny_bind (wpAny_field ho hflds (x := v1) rfl (wpAny_bind (wpAny_field ho hflds (x := v2) rfl (wpAny_bind (wpAny_field ho hflds (x := v3) rfl (wpAny_pure ?_)))))))
  refine wpAny_bind (slicePart_ p3 ?_)
  show wpAny _ _ (if ((-1 : Int) == 0) = true then _ else _) _ _ s
  rw [if_neg (by decide)]
  refine wpAny_bind (slicePart_ p1 (wpAny_bind (slicePart_ p2 (wpAny_bind (wpAny_pure ?_)))))
  show wpAny _ _ (match Builtin.Slice.sliceAdjust none none (-1) (n : Int) with | (a, b) => pure (a, (-1 : Int), Builtin.Slice.slicePlaces a b (-1))) _ _ s
  rw [back_adj n]
  show wpAny _ _ (pure (((n : Int) - 1), (-1 : Int), Builtin.Slice.slicePlaces ((n : Int) - 1) (-1) (-1))) _ _ s
  rw [back_places]
  exact wpAny_pure done
theorem fm_same {α β : Type} {f g : α → Option β} : ∀ {l : List α}, (∀ x ∈ l, f x = g x) → l.filterMap f = l.filterMap g
  | [], _ => rfl
  | x :: r, h => by
    simp only [List.filterMap_cons, h x List.mem_cons_self, fm_same fun y hy => h y (List.mem_cons_of_mem _ hy)]
theorem back_pick (xs : Array Value) : ((List.range xs.size).filterMap fun (m : Nat) => xs[(((xs.size : Int) - 1) + (m : Int) * (-1)).toNat]?).toArray = xs.toList.reverse.toArray := by
  congr 1
  refine List.ext_getElem? fun i => ?_
  by_cases hi : i < xs.size
  · have e : (List.range xs.size).filterMap (fun (m : Nat) => xs[(((xs.size : Int) - 1) + (m : Int) * (-1)).toNat]?) = (List.range xs.size).map fun m => xs[xs.size - 1 - m]! := by
      rw [← List.filterMap_eq_map]
      refine fm_same fun m hm => ?_
      have hm : m < xs.size := List.mem_range.mp hm
      have e2 : (((xs.size : Int) - 1) + (m : Int) * (-1)).toNat = xs.size - 1 - m := by omega
      rw [e2]
      have h3 : xs.size - 1 - m < xs.size := by omega
      rw [Array.getElem?_eq_getElem h3]
      simp [h3]
    rw [e, List.getElem?_map, List.getElem?_range hi, List.getElem?_reverse (by simpa using hi)]
    have h3 : xs.size - 1 - i < xs.size := by omega
    simp [h3]
  · rw [List.getElem?_eq_none, List.getElem?_eq_none]
    · simp; omega
    · refine Nat.le_trans (List.length_filterMap_le _ _) ?_
      simp; omega
theorem back_item {t sl : Addr} {items : Array Value} {v1 v2 v3 : Value} {Q : Value → Shared → Prop} (hT : IsTup s.heap t items) (hsl : s.heap.IsSliceOf sl v1 v2 v3) (p1 : IsPart v1 none) (p2 : IsPart v2 none) (p3 : IsPart v3 (some (-1)))
    (done : Q (.ref s.heap.objs.size) { s with heap := s.heap.push { cls := .type "tuple", data := .seq items.toList.reverse.toArray } }) (hsz : items.size ≤ sizeLine) : wpAny (model prog w) A (getItem (.ref t) (.ref sl)) Q E s := by
  have fits : sizeOk (.seq items.toList.reverse.toArray) := by
    show items.toList.reverse.toArray.size ≤ sizeLine
    simpa using hsz
  obtain ⟨o, ho, hcls, hflds⟩ := id hsl
  have hTy : s.TypeIs (.ref sl) "slice" := ⟨o, ho, hcls⟩
  unfold getItem
  try with_reducible refine wpAny_holding ?_
  try refine wpAny_bind (wpAny_pure ?_)
  refine wpAny_bind (wpAny_sequenceKey hT.typeIs (by decide) ?_)
  refine wpAny_bind (wpAny_callSpecial?_slot (name := Str.ofString "__getitem__") hT.typeIs PyProof.Rows.slot_tuple_getitem (wpAny_call_entry PyProof.Rows.slot_tuple_getitem hT.typeIs entry_tuple_getitem ?_ (args_tuple_getitem _ _)))
  show wpAny _ _ (Builtin.Tuple.tupleItemsOf (.ref t) >>= _) _ _ s
  refine wpAny_bind (tupleItemsOf_ hT (wpAny_bind (wpAny_typeOf hTy ?_)))
  rw [if_pos (by decide)]
  refine wpAny_bind (back_applied hsl p1 p2 p3 ?_)
  have no : ¬ (((items.size : Int) - 1 == 0 && (-1 : Int) == 1 && items.size == items.size) = true) := by simp
  show wpAny _ _ (if ((items.size : Int) - 1 == 0 && (-1 : Int) == 1 && items.size == items.size) = true then _ else _) _ _ s
  rw [if_neg no, back_pick]
  first
    | exact wpAny_bind (m := Builtin.Tuple.tupleExact _) (wpAny_newObj_type (wpAny_pure ⟨_, rfl, wpAny_pure done⟩) fits)
    | exact wpAny_bind (m := Builtin.Tuple.tupleExact _) (wpAny_newObj_type (wpAny_bind (wpAny_pure (wpAny_pure ⟨_, rfl, wpAny_pure done⟩))) fits)
    | exact wpAny_bind (wpAny_bind (m := Builtin.Tuple.tupleExact _) (wpAny_newObj_type (wpAny_pure (wpAny_pure ⟨_, rfl, wpAny_pure done⟩)) fits))
    | exact wpAny_bind (wpAny_bind (m := Builtin.Tuple.tupleExact _) (wpAny_newObj_type (wpAny_pure ⟨_, rfl, wpAny_pure done⟩) fits))
end
section
variable {X : Cx}
/-- s[::-1] of a list or a tuple -/
def tBack (K : PySem.W.Frag) (te : TE) : TE := fun σ H Q => te σ H fun x H1 => ∃ a xs, x = .ref a ∧ ((SqL K H1 a xs ∧ ∀ p, H1 p = none → Q (.ref p) (upd H1 p (.lst xs.reverse))) ∨ (SqT K H1 a xs ∧ ∀ p, H1 p = none → Q (.ref p) (upd H1 p (.tup xs.reverse))))
theorem pe_back {e : Expr} {te : TE} {k : Nat} {p1 p2 p3 pos : Pos} (he : PE X e te) : PE X (.Subscript e (.Slice none none (some (.UnaryOp .USub (.Constant (.int 1) k p1) p2)) p3) pos) (tBack X.K te) := by
  refine ⟨fun pins s σ H Q I h => Subscript_ (thn (he.run pins s σ H _ I h) fun v s1 ⟨x, H1, I1, r1, a, xs, ex, alt⟩ => ?_)⟩
  subst ex
  cases r1
  have minus : PO X (some (.UnaryOp .USub (.Constant (.int 1) k p1) p2)) (tPart (tUn (rU fun i => .int (-i)) (tC (.int 1)))) := po_some (pe_un un_neg pe_int)
  refine wpAny_Slice (thn (po_none.run pins s1 σ H1 (fun o H2 => o = none ∧ H2 = H1) I1 ⟨rfl, rfl⟩) fun v1 s2 ⟨o1, H2, I2, q1, e1, f1⟩ => ?_)
  subst e1 f1
  refine thn (po_none.run pins s2 σ H2 (fun o H3 => o = none ∧ H3 = H2) I2 ⟨rfl, rfl⟩) fun v2 s3 ⟨o2, H3, I3, q2, e2, f2⟩ => ?_
  subst e2 f2
  refine thn (minus.run pins s3 σ H3 (fun o H4 => o = some (-1) ∧ H4 = H3) I3 ⟨1, rfl, -1, rfl, rfl, rfl⟩) fun v3 s4 ⟨o3, H4, I4, q3, e3, f3⟩ => ?_
  subst e3 f3
  have J : Inv X pins σ H4 { s4 with heap := s4.heap.push { cls := .type "slice", data := .fields #[v1, v2, v3] } } := I4.kept (t' := s4.toks) fun b ob q => Heap.get?_push_of_some _ q
  show wpAny (model X.prog X.w) X.A (subscriptTail e (.Slice none none (some (.UnaryOp .USub (.Constant (.int 1) k p1) p2)) p3) (.ref a) (.ref s4.heap.objs.size)) (EP X pins σ Q) X.xe { s4 with heap := s4.heap.push { cls := .type "slice", data := .fields #[v1, v2, v3] } }
  rcases alt with ⟨hx, fin⟩ | ⟨hx, fin⟩
  · obtain ⟨its, r, hl, hz⟩ := J.list hx
    have hn := r.length
    refine tail_any (ops := [.ref a, .ref s4.heap.objs.size]) hl.isList.typeIs (PySem.slot_list_getitem.lookup) ?_ (by with_unfolding_all rfl)
    refine wpAny_getItem_list_slice hl.isList (Heap.IsSliceOf.new _ v1 v2 v3) q1 q2 q3 (by decide) ?_ (by rw [List.size_toArray]; omega)
    rw [PySem.W.krv_pick]
    exact ⟨.ref _, _, J.laid (t' := s4.toks) (o := .lst xs.reverse) (fun b ob q => Heap.get?_push_of_some _ q) (Nat.le_refl _) ⟨by rw [List.length_reverse]; exact hz, _, 0, r.reverse, Heap.get?_push_size _ rfl⟩, rfl, fin _ (J.hok.fresh (Nat.le_refl _))⟩
  · obtain ⟨its, r, hl, hz⟩ := J.tuple hx
    have hn := r.length
    refine tail_any (ops := [.ref a, .ref s4.heap.objs.size]) hl.typeIs (PyProof.Rows.slot_tuple_getitem.lookup) ?_ (by with_unfolding_all rfl)
    refine back_item hl (Heap.IsSliceOf.new _ v1 v2 v3) q1 q2 q3 ?_ (by rw [List.size_toArray]; omega)
    exact ⟨.ref _, _, J.laid (t' := s4.toks) (o := .tup xs.reverse) (fun b ob q => Heap.get?_push_of_some _ q) (Nat.le_refl _) ⟨by rw [List.length_reverse]; exact hz, _, r.reverse, IsTup.new _ _⟩, rfl, fin _ (J.hok.fresh (Nat.le_refl _))⟩
/-! ### a tuple once -/
theorem once_tuple (l : Addr) (items : Array Value) (n : Nat) (dd : Option Addr) (sl : Array (Option Value)) (u : Tok) :
    Meets (Builtin.«tuple.__mul__» ⟨[.ref l, .int 1 u], []⟩) (fun _ R s => s.heap.get? l = some { cls := .type "tuple", dict := dd, data := .seq items n, slots := sl } ∧ R (.ok (.ret (Value.ref l))) s) :=
  .of_wp fun prog w A R s h => by
    obtain ⟨hp, g, d, tk, os⟩ := s
    obtain ⟨hl, h⟩ := h
    have f1 := AutoSeq1.idx_int
    wp_walk using wpAny_loadPart' hl
    repeat (first
      | (refine wpAny_ite_false (decide_eq_false (by decide)) ?_; wp_walk using wpAny_loadPart' hl)
      | (refine wpAny_ite_true (decide_eq_true (by simp)) ?_; wp_walk using wpAny_loadPart' hl))
    all_goals exact ⟨_, rfl, h⟩
def rOnce (K : PySem.W.Frag) : R2 := fun x y H Q => ∃ l xs, x = .ref l ∧ y = .int 1 ∧ SqT K H l xs ∧ Q (.ref l) H
theorem op_once : OpR X (binaryOp .Mult) (rOnce X.K) := by
  intro pins s σ H x y v u Q I rx ry h
  obtain ⟨l, xs, rfl, rfl, hT, q⟩ := h
  cases rx
  obtain ⟨t, rfl⟩ := ry
  obtain ⟨its, r, ⟨⟨cls, dd, data, sl⟩, ho, hc, n, hd⟩, hs⟩ := I.tuple hT
  simp only at hc hd
  subst hc hd
  exact wpAny_binaryOp_repeat_ref (T := "tuple") (U := "int") (by decide) ⟨_, ho, rfl⟩ (fun s' => typeIs_int s' 1 t) noFill_tuple_mul F.fills_int_mul F.slot_int_rmul repeat_tuple F.slot_int_index.lookup (call_meets F.slot_int_rmul (typeIs_int s 1 t) F.entry_int_rmul (F.args_int_rmul_2 _ _) (int_rmul_tuple 1 t l its.toArray n dd sl)
      ⟨ho, rfl, ⟨_, ho, rfl⟩, call_meets F.slot_tuple_mul ⟨_, ho, rfl⟩ F.entry_tuple_mul (F.args_tuple_mul_2 _ _) (once_tuple l its.toArray n dd sl t) ⟨ho, ⟨.ref l, H, I, rfl, q⟩⟩⟩)
end
end EvP

/-! Gathering a tuple: sorted(t), xs.extend(t). -/
namespace EvP
open PySem PySem.Spec PyProof.Rows PySem.W PySem.Calls
section
variable {prog : Program} {w : World} {A : Around} {E : Value → Shared → Prop} {s : Shared}
/-- the fast road of extend, over a tuple -/
theorem ext_tup {a t : Addr} {xs : Array Value} {n : Nat} {us : List Value} {r : Value} {P : Fin → Shared → Prop} (ha : s.heap.get? a = some (seqObj "list" xs n)) (ht : IsTup s.heap t us.toArray) (hz : xs.size + us.length ≤ sizeLine)
    (fin : P (.done (.ret r)) { s with heap := s.heap.update a (Obj.mapSeq (· ++ us.toArray)) }) : wpAny (model prog w) A (Builtin.List.listExtendWith (.ref a) (.ref t) r) P E s := by
  obtain ⟨o, ho, hc, k, hd⟩ := id ht
  unfold Builtin.List.listExtendWith
  refine wpAny_bind (wpAny_typeOf (T := "tuple") ⟨o, ho, hc⟩ ?_)
  have e1 : (Value.type "tuple" == Value.type "tuple") = true := by rfl
  rw [if_pos (by simp [e1])]
  refine wpAny_bind (listItems_at ho hd (wpAny_bind (listItems_at ha rfl ?_)))
  have su : us.toArray.size = us.length := by simp
  have room : Builtin.List.listTooLong (xs.size + us.toArray.size) = false := by
    unfold Builtin.List.listTooLong
    exact decide_eq_false (by omega)
  have no : ¬ (!xs.isEmpty && Builtin.List.listTooLong (xs.size + us.toArray.size)) = true := by
    rw [room, Bool.and_false]
    exact Bool.false_ne_true
  rw [if_neg no]
  exact wpAny_bind (listUpdate_at ha rfl (wpAny_pure fin) (by omega) (by rw [Array.size_append]; omega))
theorem gather_tup {t : Addr} {us : List Value} {Q : List Value → Shared → Prop} (ht : IsTup s.heap t us.toArray) (hz : us.length ≤ sizeLine)
    (fin : Q us { s with heap := (s.heap.push (seqObj "list" #[] 0)).update s.heap.objs.size (Obj.mapSeq (· ++ us.toArray)) }) : wpAny (model prog w) A (collect (.ref t)) Q E s := by
  unfold collect
  refine wpAny_bind (wpAny_runValue (codeAny_builtin entry_proto_collect' ?_))
  show wpAny _ _ (do again (.builtin "list.__iadd__" ⟨[← newList [], .ref t], []⟩)) _ _ s
  refine wpAny_bind (wpAny_newList (wpAny_pure ⟨Code.quiet_builtin _ (by decide +kernel), codeAny_builtin entry_list_iadd' ?_⟩))
  have hn : (s.heap.push (seqObj "list" #[] 0)).get? s.heap.objs.size = some (seqObj "list" #[] 0) := Heap.get?_push_size _ rfl
  refine ext_tup (s := { s with heap := s.heap.push (seqObj "list" #[] 0) }) hn (let ⟨o, ho, q⟩ := ht; ⟨o, Heap.get?_push_of_some _ ho, q⟩) (by simpa using hz) ?_
  show wpAny (model prog w) A (do
      let o ← load s.heap.objs.size
      match o.data with
      | .seq xs _ => pure xs.toList
      | _ => unsupported "internal:collect") Q E { s with heap := (s.heap.push (seqObj "list" #[] 0)).update s.heap.objs.size (Obj.mapSeq (· ++ us.toArray)) }
  refine wpAny_bind (wpAny_load (get?_update_seq hn _) ?_)
  show wpAny _ _ (pure ((#[] : Array Value) ++ us.toArray).toList) Q E _
  have e : ((#[] : Array Value) ++ us.toArray).toList = us := by simp
  rw [e]
  exact wpAny_pure fin
/-- sorted(t): sort of a new list -/
theorem sorted_tup {t : Addr} {us : List Value} {Q : Value → Shared → Prop} (ht : IsTup s.heap t us.toArray) (hz : us.length ≤ sizeLine)
    (body : ∀ E' : Value → Shared → Prop, wpAny (model prog w) A.in1.in1 (Builtin.«list.sort» ⟨[.ref (s.heap.objs.size + 1)], []⟩) (fun f s' => f = .done (.ret .none) ∧ Q (.ref (s.heap.objs.size + 1)) s') E' { s with heap := copyHeap s.heap us }) :
    wpAny (model prog w) A (call (.builtin "sorted") [.ref t]) Q E s := by
  refine call_function_entry_kw kind_sorted plain_sorted entry_sorted (args_sorted1 _) ?_
  unfold Builtin.«sorted»
  refine wpAny_bind (m := checkCount "sorted" 1 1 _) (wpAny_pure (wpAny_bind (gather_tup ht hz (wpAny_bind (wpAny_newList ?_ hz)))))
  have size1 : ((s.heap.push (seqObj "list" #[] 0)).update s.heap.objs.size (Obj.mapSeq (· ++ us.toArray))).objs.size = s.heap.objs.size + 1 := by rw [Heap.size_update, size_push']
  show wpAny _ _ _ _ _ { s with heap := copyHeap s.heap us }
  rw [size1]
  refine wpAny_bind (wpAny_holding (wpAny_call_entry_kw slot_list_sort ⟨_, copyHeap_at s.heap us, rfl⟩ entry_list_sort ?sorting (args_list_sort _)))
  case sorting =>
    show wpAny (model prog w) A.in1.in1 (Builtin.«list.sort» ⟨[.ref (s.heap.objs.size + 1)], []⟩) _ _ _
    exact wpAny_mono (body _) (fun f s' hf => by
      obtain ⟨rfl, hq⟩ := hf
      exact ⟨_, rfl, wpAny_pure ⟨_, rfl, hq⟩⟩) fun _ _ e => e
variable {β : Type} {bs : List β} {enc : β → PyData} {Rl : Value → β → Prop}
theorem sorted_tup_data {t : Addr} {vs : List Value} {Q : Value → Shared → Prop} (ht : IsTup s.heap t vs.toArray) (e : EachIs Rl vs bs) (er : EachIs (fun v b => ∃ as, Reads s.heap v (enc b) as) vs bs) (hal : AllAlike (bs.map enc)) (hk : Sortable (bs.map enc)) (hL : bs.length ≤ sizeLine)
    (hu : ∀ b, b ∈ bs → A.units + 2 + (enc b).depth < cLine) (fin : ∀ out, out.length = bs.length → EachIs Rl out (bs.mergeSort (dataLe false enc)) → Q (.ref (s.heap.objs.size + 1)) { s with heap := sortedAll s.heap vs (List.toArray out) }) :
    wpAny (model prog w) A (call (.builtin "sorted") [.ref t]) Q E s := by
  have er2 : EachIs (fun v b => ∃ as, Reads (sortingHeap (copyHeap s.heap vs) (s.heap.objs.size + 1) vs) v (enc b) as) vs bs := er.mono fun _ _ ⟨as, r⟩ => ⟨as, PyProof.Rows.Reads.keeps (fun _ _ => sorting_copy_old) r⟩
  have at_ := SortsAt.data (prog := prog) (w := w) (A := A.in1.in1) (s := { s with heap := sortingHeap (copyHeap s.heap vs) (s.heap.objs.size + 1) vs }) (each_map (R := fun v d => ∃ as, Reads (sortingHeap (copyHeap s.heap vs) (s.heap.objs.size + 1) vs) v d as) enc er2) hal hk (bound_map hu)
  refine sorted_tup ht (by rw [e.length]; exact hL) fun _ => list_sort_vals (s := { s with heap := copyHeap s.heap vs }) (copyHeap_at s.heap vs) at_ (by rw [e.length]; exact hL) ⟨rfl, ?_⟩
  exact fin _ (by rw [sortVals_length false rfl]; exact e.length) (sortVals_data false e er2 hal)
theorem ext_call {a t : Addr} {xs : Array Value} {n : Nat} {us : List Value} {Q : Value → Shared → Prop} (ha : s.heap.get? a = some (seqObj "list" xs n)) (ht : IsTup s.heap t us.toArray) (hz : xs.size + us.length ≤ sizeLine)
    (fin : Q .none { s with heap := s.heap.update a (Obj.mapSeq (· ++ us.toArray)) }) : wpAny (model prog w) A (call (.builtin "list.extend") [.ref a, .ref t]) Q E s := by
  refine wpAny_call_entry F.slot_list_extend ⟨_, ha, rfl⟩ F.entry_list_extend ?_ (F.args_list_extend_2 _ _)
  show wpAny _ _ (Builtin.List.listExtendWith (.ref a) (.ref t) .none) _ _ s
  exact ext_tup ha ht hz ⟨_, rfl, fin⟩
end
end EvP

/-! set(list of ints), so that it can be walked and sorted: as for tuples. -/
namespace EvP
open PySem PySem.Spec PyProof.Rows L2 HT
section
variable {P : Program} {w : World} {A : Around} {E : Value → Shared → Prop} {s : Shared}
set_option maxRecDepth 100000 in
set_option maxHeartbeats 3200000 in
theorem set_of_list {l : Addr} {items : Array Value} (ns : List Int) {Q : Value → Shared → Prop} (hh : A.handled = none) (hl : s.heap.IsList l items) (hit : IntsAre items.toList ns) (hb : ns.length + 1 < scanBound)
    (h : ∀ (h' : Heap) (tk c : Nat), SetR w h' s.heap.objs.size (fun j => decide (j ∈ ns)) c → c ≤ ns.length → (∀ b o, s.heap.get? b = some o → h'.get? b = some o) → Q (.ref s.heap.objs.size) { s with heap := h', toks := tk }) :
    wpAny (model P w) A (call (.type "set") [.ref l]) Q E s := by
  have hisz : items.size = ns.length := by
    have q := IntsAre.length hit
    rw [Array.length_toList] at q
    exact q
  obtain ⟨c, tl, hmro⟩ := F.called_set.mro
  have hmade := F.called_set.made
  have hsub := F.called_set.sub
  refine wpAny_call (codeAny_of_tree ?_)
  show wpAny _ _ (callAny (.type "set") _) _ _ _
  refine wpAny_pure ⟨Code.quiet_builtin _ (by decide +kernel), codeAny_builtin F.entry_type_call ?_⟩
  rw [Around.under_plain (weight_type_call_type "set" [.ref l] []) rfl]
  have h1 := F.called_set.notType
  have h2 := F.called_set.canCreate
  have hct := F.typeCall_set_1 (.ref l)
  repeat (any_goals (first | assumption | wp_step))

  refine codeAny_mono (code_set_led1 (.ref l) (E := E) (Q₁ := fun obj s₁ => obj = .ref s.heap.objs.size ∧ s₁ = { s with heap := s.heap.push { cls := .type "set", dict := none, data := .set #[] 0 (.fresh 0 0 (!w.params.followText "set-order")) } }) ⟨rfl, rfl⟩) fun r s₁ hr => ?_
  cases r with
  | error e => exact hr
  | ok fl =>
    cases fl with
    | ret obj =>
      obtain ⟨rfl, rfl⟩ := hr
      have hS : (s.heap.push { cls := .type "set", dict := none, data := .set #[] 0 (.fresh 0 0 (!w.params.followText "set-order")) }).get? s.heap.objs.size = some { cls := .type "set", dict := none, data := .set #[] 0 (.fresh 0 0 (!w.params.followText "set-order")) } := Heap.get?_push_size _ rfl
      have hT : Shared.TypeIs { s with heap := s.heap.push { cls := .type "set", dict := none, data := .set #[] 0 (.fresh 0 0 (!w.params.followText "set-order")) } } (.ref s.heap.objs.size) "set" := ⟨_, hS, rfl⟩
      have hli := F.called_set.init.lookup
      have hbi := F.called_set.init.bind (.ref s.heap.objs.size)
      repeat (any_goals (first | assumption | wp_step))

      refine codeAny_mono (codeAny_call_builtin (R := wants (fun r s₂ => r = .none ∧ ∃ h' tk c, s₂ = { s with heap := h', toks := tk } ∧ SetR w h' s.heap.objs.size (fun j => decide (j ∈ ns)) c ∧ c ≤ ns.length ∧
          (∀ b o, s.heap.get? b = some o → h'.get? b = some o)) E) F.called_set.init.plain F.entry_set_init (check_set_init_1 hT ?_)) fun r₂ s₂ hr₂ => ?_
      · obtain ⟨ol, hol, hcl, nl, hdl⟩ := hl
        obtain ⟨ocls, odict, odata, oslots⟩ := ol
        simp only at hcl hdl
        subst hcl; subst hdl
        have hol' : (s.heap.push { cls := .type "set", dict := none, data := .set #[] 0 (.fresh 0 0 (!w.params.followText "set-order")) }).get? l = some { cls := .type "list", dict := odict, data := .seq items nl, slots := oslots } := Heap.get?_push_of_some _ hol
        have hsls := F.sub_list_set
        have hslf := F.sub_list_frozenset
        have hne : (Value.type "list" == Value.type "dict") = false := by decide
        have hl1 : (s.heap.push { cls := .type "set", dict := none, data := .set #[] 0 (.fresh 0 0 (!w.params.followText "set-order")) }).IsList l items := ⟨_, hol', rfl, nl, rfl⟩
        unfold Builtin.«set.__init__» noKeywords Builtin.Frozenset.updateFrom
        generalize hPI : pyIter = PI
        wp_walk
        subst hPI

        refine wpAny_pyIter_list hl1 ?_
        refine wpAny_bind (wpAny_runValue ?_)
        have hlS : l < s.heap.objs.size := Heap.lt_size hol
        have hh3 : A.in1.in1.in1.handled = none := by simp [hh]
        have hz1 : (s.heap.push { cls := .type "set", dict := none, data := .set #[] 0 (.fresh 0 0 (!w.params.followText "set-order")) }).objs.size = s.heap.objs.size + 1 := Heap.size_push ..
        have hneI : l ≠ (s.heap.push { cls := .type "set", dict := none, data := .set #[] 0 (.fresh 0 0 (!w.params.followText "set-order")) }).objs.size := by
          rw [Heap.size_push]; exact Nat.ne_of_lt (Nat.lt_succ_of_lt hlS)
        have hSf : s.heap.objs.size ∉ [(s.heap.push { cls := .type "set", dict := none, data := .set #[] 0 (.fresh 0 0 (!w.params.followText "set-order")) }).objs.size, l] := by
          rw [Heap.size_push]; simp only [List.mem_cons, List.mem_singleton, List.not_mem_nil, or_false, not_or]
          exact ⟨Nat.ne_of_lt (Nat.lt_succ_self _), Nat.ne_of_gt hlS⟩
        have hval : ∀ (i : Nat) (v : Value), items[i]? = some v → ∃ k t, ns[i]? = some k ∧ v = .int k t := fun i v hv => by
          have hi : i < ns.length := by rw [← hisz]; exact (Array.getElem?_eq_some_iff.mp hv).1
          obtain ⟨t, e⟩ := PyProof.Rows.IntsAre.int_at hit i v (by rw [Array.getElem?_toList]; exact hv)
          refine ⟨ns[i], t, List.getElem?_eq_getElem hi, ?_⟩
          rw [e, List.getD_eq_getElem?_getD, List.getElem?_eq_getElem hi] <;> rfl
        refine set_update_ints ((Walks.list hh3 _ l hneI items).toS) s.heap.objs.size
          hSf ns hisz hb hval (items.size - 0) 0 _ (by omega) (Nat.zero_le _)
          ⟨⟨_, Heap.get?_push_size _ rfl, rfl, rfl⟩, (hl1.push _)⟩ ?hS0 ?hR
        case hS0 =>
          have hget : ((s.heap.push { cls := .type "set", dict := none, data := .set #[] 0 (.fresh 0 0 (!w.params.followText "set-order")) }).push { cls := .type "list_iterator", data := .fields #[.ref l, .int 0 0] }).get? s.heap.objs.size
              = some { cls := .type "set", dict := none, data := .set #[] 0 (.fresh 0 0 (!w.params.followText "set-order")) } := Heap.get?_push_of_some _ hS
          exact ⟨0, Nat.le_refl 0, setR_new_at hget⟩
        case hR =>
          intro s' c' hm hc' hS'
          obtain ⟨h', g2, d', tk', os'⟩ := s'
          have eg : g2 = s.gens := hm.gens
          have ed : d' = s.drawn := hm.drawn
          have eo : os' = s.os := hm.os
          subst eg; subst ed; subst eo
          show wpAny _ _ _ _ _ _
          refine wpAny_pure ?_
          show wpAny _ _ (ret Value.none) _ _ _
          rw [hisz] at hc'
          refine wpAny_pure ⟨rfl, h', tk', c', rfl, hS', hc', fun b o e => ?_⟩
          have hb0 : b < s.heap.objs.size := Heap.lt_size e
          have hb1 : b ≠ s.heap.objs.size := Nat.ne_of_lt hb0
          have hb2 : b ≠ (s.heap.push { cls := .type "set", dict := none, data := .set #[] 0 (.fresh 0 0 (!w.params.followText "set-order")) }).objs.size := by
            rw [Heap.size_push]; exact Nat.ne_of_lt (Nat.lt_succ_of_lt hb0)
          exact hm.heap b o (by simp only [List.mem_cons, List.mem_singleton, List.not_mem_nil, or_false, not_or]; exact ⟨hb1, hb2⟩) (Heap.get?_push_of_some _ (Heap.get?_push_of_some _ e))

      · cases r₂ with
        | error e => exact hr₂
        | ok fl₂ =>
          cases fl₂ with
          | ret r =>
            obtain ⟨rfl, h', tk, c', rfl, hS', hc', hk'⟩ := hr₂
            repeat (any_goals (first | assumption | wp_step))
            exact h _ _ _ hS' hc' hk'
          | _ => exact hr₂.elim
    | _ => exact hr.elim

end
end EvP

/-! A plain evaluator of a part of Python: data D, a store of changing objects, core terms, what they come to. -/
namespace Ev
open PySem

inductive D where
  | non | bl (b : Bool) | int (i : Int) | str (s : Str) | tup (l : List D) | frl (l : List D) | loc (n : Nat) | emp
  deriving Inhabited
inductive O where
  | lst (l : List D)
  | ins (c : Str) (fs : List (Str × D))
  | dct (l : List (L2.Key × D))
  deriving Inhabited
abbrev Sto := List O

mutual
def D.eqb : D → D → Bool
  | .non, .non => true
  | .bl a, .bl b => a == b
  | .int a, .int b => a == b
  | .str a, .str b => a == b
  | .tup a, .tup b => eqbL a b
  | .frl a, .frl b => eqbL a b
  | .loc a, .loc b => a == b
  | .emp, .emp => true
  | _, _ => false
def eqbL : List D → List D → Bool
  | [], [] => true
  | x :: xs, y :: ys => x.eqb y && eqbL xs ys
  | _, _ => false
end
mutual
theorem D.eqb_eq : ∀ {a b : D}, a.eqb b = true → a = b
  | .non, b, h => by cases b <;> simp [D.eqb] at h <;> rfl
  | .bl x, b, h => by cases b <;> simp [D.eqb] at h; subst h; rfl
  | .int x, b, h => by cases b <;> simp [D.eqb] at h; subst h; rfl
  | .str x, b, h => by cases b <;> simp [D.eqb] at h; subst h; rfl
  | .tup x, b, h => by cases b <;> simp [D.eqb] at h; rw [eqbL_eq h]
  | .frl x, b, h => by cases b <;> simp [D.eqb] at h; rw [eqbL_eq h]
  | .loc x, b, h => by cases b <;> simp [D.eqb] at h; subst h; rfl
  | .emp, b, h => by cases b <;> simp [D.eqb] at h <;> rfl
theorem eqbL_eq : ∀ {a b : List D}, eqbL a b = true → a = b
  | [], b, h => by cases b <;> simp [eqbL] at h; rfl
  | x :: xs, b, h => by
    cases b with
    | nil => simp [eqbL] at h
    | cons y ys =>
      simp only [eqbL, Bool.and_eq_true] at h
      rw [D.eqb_eq h.1, eqbL_eq h.2]
end
mutual
theorem D.eqb_refl : ∀ a : D, a.eqb a = true
  | .non => rfl
  | .bl x => by simp [D.eqb]
  | .int x => by simp [D.eqb]
  | .str x => by simp [D.eqb]
  | .tup x => by simp [D.eqb, eqbL_refl x]
  | .frl x => by simp [D.eqb, eqbL_refl x]
  | .loc x => by simp [D.eqb]
  | .emp => rfl
theorem eqbL_refl : ∀ a : List D, eqbL a a = true
  | [] => rfl
  | x :: xs => by simp [eqbL, D.eqb_refl x, eqbL_refl xs]
end
def O.eqb : O → O → Bool
  | .lst a, .lst b => eqbL a b
  | .ins c a, .ins d b => decide (c = d) && (decide (a.map (·.1) = b.map (·.1)) && eqbL (a.map (·.2)) (b.map (·.2)))
  | .dct a, .dct b => decide (a.map (·.1) = b.map (·.1)) && eqbL (a.map (·.2)) (b.map (·.2))
  | _, _ => false
theorem pairs_ext {α β : Type} : ∀ {a b : List (α × β)}, a.map (·.1) = b.map (·.1) → a.map (·.2) = b.map (·.2) → a = b
  | [], [], _, _ => rfl
  | [], _ :: _, h, _ => by simp at h
  | _ :: _, [], h, _ => by simp at h
  | (x, y) :: r, (u, v) :: q, h, g => by
    simp only [List.map_cons, List.cons.injEq] at h g
    obtain ⟨rfl, h⟩ := h
    obtain ⟨rfl, g⟩ := g
    rw [pairs_ext h g]
theorem O.eqb_iff {a b : O} : a.eqb b = true ↔ a = b := by
  constructor
  · intro h
    cases a <;> cases b <;> simp only [O.eqb, Bool.and_eq_true, decide_eq_true_eq] at h <;> try cases h
    · rw [eqbL_eq h]
    · rename_i h1 h2
      subst h1
      rw [pairs_ext h2.1 (eqbL_eq h2.2)]
    · rename_i h1 h2
      rw [pairs_ext h1 (eqbL_eq h2)]
  · intro h
    subst h
    cases a <;> simp [O.eqb, eqbL_refl]
instance : DecidableEq D := fun a b => if h : a.eqb b = true then isTrue (D.eqb_eq h) else isFalse fun e => h (e ▸ D.eqb_refl a)
instance : DecidableEq O := fun a b => if h : a.eqb b = true then isTrue (O.eqb_iff.mp h) else isFalse fun e => h (O.eqb_iff.mpr e)

/-! ### data -/
mutual
def D.py : D → PyData
  | .non => .none
  | .bl b => .bool b
  | .int i => .int i
  | .str s => .str s
  | .tup l => .tuple (pyL l)
  | .frl l => .list (pyL l)
  | .loc _ => .none
  | .emp => .none
def pyL : List D → List PyData
  | [] => []
  | d :: r => d.py :: pyL r
end
mutual
/-- its places of changing objects lie below n -/
def D.bel (n : Nat) : D → Bool
  | .tup l => belL n l
  | .frl l => belL n l
  | .loc k => decide (k < n)
  | _ => true
def belL (n : Nat) : List D → Bool
  | [] => true
  | d :: r => d.bel n && belL n r
end
mutual
/-- no changing object within, at most n deep, its texts fit -/
def D.sh : Nat → D → Bool
  | n + 1, .tup l => shL n l
  | n + 1, .frl l => shL n l
  | _, .non => true
  | _, .bl _ => true
  | _, .int _ => true
  | _, .str s => PySem.PyData.strOk s
  | _, _ => false
def shL (n : Nat) : List D → Bool
  | [] => true
  | d :: r => d.sh n && shL n r
end
def O.bel (n : Nat) : O → Bool
  | .lst l => belL n l
  | .ins _ fs => belL n (fs.map (·.2))
  | .dct l => belL n (l.map (·.2))
mutual
def D.shf (n : Nat) : D → D
  | .tup l => .tup (shfL n l)
  | .frl l => .frl (shfL n l)
  | .loc k => .loc (k + n)
  | d => d
def shfL (n : Nat) : List D → List D
  | [] => []
  | d :: r => d.shf n :: shfL n r
end
def shfP {α : Type} (n : Nat) (l : List (α × D)) : List (α × D) := (l.map (·.1)).zip (shfL n (l.map (·.2)))
def O.shf (n : Nat) : O → O
  | .lst l => .lst (shfL n l)
  | .ins c fs => .ins c (shfP n fs)
  | .dct l => .dct (shfP n l)

/-! ### what running comes to -/
inductive R (α : Type) where
  | ok (a : α) (S : Sto)
  | err (c : Str) (v : D) (S : Sto)
  | no
def R.bind {α β : Type} (r : R α) (f : α → Sto → R β) : R β :=
  match r with
  | .ok a S => f a S
  | .err c v S => .err c v S
  | .no => .no
def R.of {α : Type} (o : Option α) (S : Sto) : R α :=
  match o with
  | some a => .ok a S
  | none => .no
theorem bind_ok {α β : Type} (a : α) (S : Sto) (f : α → Sto → R β) : (R.ok a S).bind f = f a S := rfl
theorem bind_no {α β : Type} (f : α → Sto → R β) : (R.no : R α).bind f = .no := rfl
theorem bind_err {α β : Type} (c : Str) (v : D) (S : Sto) (f : α → Sto → R β) : (R.err c v S : R α).bind f = .err c v S := rfl
theorem of_some {α : Type} (a : α) (S : Sto) : R.of (some a) S = .ok a S := rfl
theorem of_none {α : Type} (S : Sto) : (R.of none S : R α) = .no := rfl
inductive Fl where
  | nx (σ : List (Option D)) | rt (d : D) | bk (σ : List (Option D)) | ct (σ : List (Option D))
abbrev Sl := List (Option D)

/-! ### core terms -/
inductive Bop where
  | add | sub | mul | fdiv | mod | pow
  deriving DecidableEq
inductive Cop where
  | eq | ne | lt | le | gt | ge | is_ | isn | in_ | nin
  deriving DecidableEq
inductive Blt where
  | len | tuple | int | abs | max | min | sum | all | any | repr | str
  deriving DecidableEq
inductive Ty where
  | int | bool | tuple | str | list
  deriving DecidableEq
inductive Mth where
  | append | extend | pop | split | join | index | count
  deriving DecidableEq
mutual
inductive CT where
  | nm (i : Nat)
  | tp (l : CTs)
inductive CTs where
  | nil
  | cons (t : CT) (r : CTs)
end
mutual
inductive CE where
  | emp
  | isi2 (a : CE) (t u : Ty)
  | con (d : D)
  | var (i : Nat)
  | glb (x : Str)
  | bin (op : Bop) (a b : CE)
  | neg (a : CE)
  | not (a : CE)
  | cmp (op : Cop) (a b : CE)
  | chn (o1 o2 : Cop) (a b c : CE)
  | and (l : CEs)
  | or (l : CEs)
  | ite (c a b : CE)
  | tup (l : CAs)
  | call (f : Str) (l : CEs)
  | callK (f : Str) (l : CEs) (kw : CEs) (perm : List Nat)
  | blt (f : Blt) (l : CEs)
  | isi (a : CE) (t : Ty)
  | mth (m : Mth) (o : CE) (l : CEs)
  | idx (a i : CE)
  | slc (a : CE) (lo hi : CO)
  | rev (a : CE)
  | tupI (s : CI)
  | fr (f : CF)
  | mu (f : CF)
  | ext (o : CE) (f : CF)
  | extE (o e : CE)
  | pick (ks : List Str) (l : CEs) (i : CE)
  | pickG (ks : List Str) (l : CEs) (i d : CE)
  | lenSet (e : CE)
  | fld (o : CE) (f : Str)
  | mcall (m : Str) (o : CE) (l : CEs)
  | mk (c : Str) (l : CEs)
  | sm (m : Mth) (o a : CE)
  | mkD (ks : List Str) (l : CEs)
  | newD
  | dgG (x : Str) (i : CE)
  | dnG (x : Str) (i : CE) (neg : Bool)
  | isC (a : CE) (c : Str)
inductive CO where
  | no
  | so (e : CE)
inductive CEs where
  | nil
  | cons (e : CE) (r : CEs)
inductive CAs where
  | nil
  | cons (s : Bool) (e : CE) (r : CAs)
/-- new lists -/
inductive CF where
  | disp (l : CAs)
  | comp (elt : CE) (t : CT) (src : CI) (ifs : CEs) (own : List Nat)
  | list (s : CE)
  | listI (s : CI)
  | sorted (s : CE)
  | cat (a b : CE)
  | srtSet (s : CE)
/-- what is walked -/
inductive CI where
  | seq (e : CE)
  | rng1 (a : CE)
  | rng2 (a b : CE)
  | enum (e : CE)
  | zip (a b : CE)
  | chars (e : CE)
end
mutual
inductive CS where
  | asg (t : CT) (e : CE)
  | sub (o i : CE) (e : CE)
  | sfld (o : CE) (f : Str) (e : CE)
  | afld (o : CE) (f : Str) (op : Bop) (e : CE)
  | asub (o i : CE) (op : Bop) (e : CE)
  | unf (i : Nat) (fs : List Str) (e : CE)
  | try_ (b : CSs)
  | aug (i : Nat) (op : Bop) (e : CE)
  | expr (e : CE)
  | ret (e : CE)
  | retN
  | ifs (c : CE) (a b : CSs)
  | for_ (t : CT) (i : CI) (b : CSs)
  | whl (c : CE) (b : CSs)
  | pas
  | brk
  | cnt
  | bad
inductive CSs where
  | nil
  | cons (s : CS) (r : CSs)
end

/-! ### a sort that the kernel runs -/
def mrgN {α : Type} (le : α → α → Bool) : Nat → List α → List α → List α
  | 0, xs, ys => xs ++ ys
  | _ + 1, [], ys => ys
  | _ + 1, x :: xs, [] => x :: xs
  | n + 1, x :: xs, y :: ys => if le x y = true then x :: mrgN le n xs (y :: ys) else y :: mrgN le n (x :: xs) ys
theorem mrgN_eq {α : Type} {le : α → α → Bool} : ∀ (n : Nat) (xs ys : List α), xs.length + ys.length ≤ n → mrgN le n xs ys = List.merge xs ys le
  | 0, xs, ys, h => by
    have h1 : xs = [] := List.length_eq_zero_iff.mp (by omega)
    have h2 : ys = [] := List.length_eq_zero_iff.mp (by omega)
    subst h1 h2
    simp [mrgN]
  | n + 1, [], ys, h => by simp [mrgN]
  | n + 1, x :: xs, [], h => by simp [mrgN]
  | n + 1, x :: xs, y :: ys, h => by
    simp only [List.length_cons] at h
    unfold mrgN
    rw [List.cons_merge_cons]
    split
    · rw [mrgN_eq n xs (y :: ys) (by simp; omega)]
    · rw [mrgN_eq n (x :: xs) ys (by simp; omega)]
def srtN {α : Type} (le : α → α → Bool) : Nat → List α → List α
  | 0, l => l
  | _ + 1, [] => []
  | _ + 1, [a] => [a]
  | n + 1, a :: b :: r => mrgN le (r.length + 2) (srtN le n ((a :: b :: r).take ((r.length + 3) / 2))) (srtN le n ((a :: b :: r).drop ((r.length + 3) / 2)))
theorem srtN_eq {α : Type} {le : α → α → Bool} : ∀ (n : Nat) (l : List α), l.length ≤ n → srtN le n l = l.mergeSort le
  | 0, l, h => by
    have h1 : l = [] := List.length_eq_zero_iff.mp (by omega)
    subst h1
    simp [srtN]
  | n + 1, [], h => by simp [srtN]
  | n + 1, [a], h => by simp [srtN]
  | n + 1, a :: b :: r, h => by
    unfold srtN
    simp only [List.length_cons] at h
    rw [srtN_eq n _ (by rw [List.length_take]; simp; omega), srtN_eq n _ (by rw [List.length_drop]; simp; omega)]
    rw [mrgN_eq _ _ _ (by rw [List.length_mergeSort, List.length_mergeSort, List.length_take, List.length_drop]; simp; omega)]
    conv => rhs; rw [List.mergeSort]
    simp only [List.MergeSort.Internal.splitInTwo_fst, List.MergeSort.Internal.splitInTwo_snd, List.length_cons]
def msort {α : Type} (l : List α) (le : α → α → Bool) : List α := srtN le l.length l
theorem msort_eq {α : Type} {l : List α} {le : α → α → Bool} : msort l le = l.mergeSort le := srtN_eq _ _ (Nat.le_refl _)
/-! ### by values -/
/-- a list that changes is read as it stands -/
def deref (S : Sto) : D → D
  | .loc n => match S[n]? with
    | some (.lst l) => .frl l
    | _ => .loc n
  | d => d
def seqD (S : Sto) (d : D) : Option (List D) :=
  match deref S d with
  | .tup l => some l
  | .frl l => some l
  | _ => none
def line : Nat := 16777216
def mulOk (i j : Int) : Bool := decide (i.natAbs < 2 ^ 64) || decide (j.natAbs < 2 ^ 64) || decide (i.natAbs.log2 + j.natAbs.log2 < 1000000)
def intB (o : Bop) (i j : Int) : Option Int :=
  match o with
  | .add => some (i + j)
  | .sub => some (i - j)
  | .mul => if mulOk i j = true then some (i * j) else none
  | .fdiv => if 0 < j ∧ j.natAbs.log2 < 9000 then some (i / j) else none
  | .mod => if 0 < j then some (i % j) else none
  | .pow => if 0 ≤ j ∧ (i.natAbs.log2 + 1) * j.toNat ≤ 2 ^ 27 then some (i ^ j.toNat) else none
def binD (S : Sto) (o : Bop) (x y : D) : Option D :=
  match deref S x, deref S y with
  | .int i, .int j => (intB o i j).map .int
  | .tup a, .tup b => if o = .add ∧ a.length + b.length ≤ line then some (.tup (a ++ b)) else none
  | .frl a, .frl b => if o = .add ∧ a.length + b.length ≤ line then some (.frl (a ++ b)) else none
  | .str a, .str b => if o = .add ∧ a.length + b.length ≤ line then some (.str (a ++ b)) else none
  | .tup a, .int k => if o = .mul ∧ 1 ≤ k ∧ k ≤ 1000 ∧ a.length ≤ 1000 ∧ a.isEmpty = false then some (.tup (List.replicate k.toNat a).flatten) else none
  | _, _ => none
def eqD (S : Sto) (x y : D) : Option Bool :=
  match deref S x, deref S y with
  | .str a, .str b => some (a == b)
  | x', y' => if x'.sh 60 = true ∧ y'.sh 60 = true then some (PyData.eqv x'.py y'.py) else none
def ltD (S : Sto) (x y : D) : Option Bool :=
  match deref S x, deref S y with
  | .int i, .int j => some (decide (i < j))
  | .str a, .str b => some (decide (a.cps.toList < b.cps.toList))
  | .tup a, .tup b => if PySem.W.alike (.tuple (pyL a)) (.tuple (pyL b)) = true ∧ shL 60 a = true ∧ shL 60 b = true then some (PySem.W.dataLt (.tuple (pyL a)) (.tuple (pyL b))) else none
  | _, _ => none
def flat : D → Bool
  | .non => true
  | .bl _ => true
  | .int _ => true
  | .str _ => true
  | _ => false
def keyD : D → Option L2.Key
  | .int i => some (.inl i)
  | .str s => some (.inr s)
  | _ => none
def inD (S : Sto) (x y : D) : Option Bool :=
  match deref S y with
  | .tup l => if (deref S x).sh 60 = true ∧ shL 60 l = true then some (l.any fun z => PyData.eqv z.py (deref S x).py) else none
  | .frl l => if (deref S x).sh 60 = true ∧ shL 60 l = true then some (l.any fun z => PyData.eqv z.py (deref S x).py) else none
  | .str z => match deref S x with
    | .str y => match y.cps.toList with
      | [c] => some (decide (c ∈ z.cps.toList))
      | _ => none
    | _ => none
  | .loc n => match keyD x, S[n]? with
    | some k, some (.dct l) => some (l.any fun p => decide (p.1 = k))
    | _, _ => none
  | _ => none
def isD (x y : D) : Option Bool :=
  match x, y with
  | x, .non => some (decide (x = .non))
  | .bl a, .bl b => some (decide (a = b))
  | _, _ => none
def cmpD (S : Sto) (o : Cop) (x y : D) : Option Bool :=
  match o with
  | .eq => eqD S x y
  | .ne => (eqD S x y).map (!·)
  | .lt => ltD S x y
  | .gt => match x, y with
    | .int i, .int j => some (decide (j < i))
    | _, _ => none
  | .le => match x, y with
    | .int i, .int j => some (decide (i ≤ j))
    | _, _ => none
  | .ge => match x, y with
    | .int i, .int j => some (decide (j ≤ i))
    | _, _ => none
  | .is_ => isD x y
  | .isn => (isD x y).map (!·)
  | .in_ => inD S x y
  | .nin => (inD S x y).map (!·)
def truD (S : Sto) (x : D) : Option Bool :=
  match deref S x with
  | .non => some false
  | .bl b => some b
  | .int i => some (i != 0)
  | .str s => if s.length ≤ line then some ((s.length : Int) != 0) else none
  | .tup l => some (!l.isEmpty)
  | .frl l => some (!l.isEmpty)
  | .loc _ => none
  | .emp => none
def negD : D → Option D
  | .int i => some (.int (-i))
  | _ => none
def tyD (S : Sto) (t : Ty) (x : D) : Option Bool :=
  match deref S x with
  | .non => some false
  | .bl _ => some (decide (t = .bool ∨ t = .int))
  | .int _ => some (decide (t = .int))
  | .str _ => some (decide (t = .str))
  | .tup _ => some (decide (t = .tuple))
  | .frl _ => some (decide (t = .list))
  | .loc _ => none
  | .emp => some false
/-- one of two kinds -/
def ty2D (S : Sto) (t u : Ty) (x : D) : Option Bool :=
  match tyD S t x, tyD S u x with
  | some a, some b => some (a || b)
  | _, _ => none
def intsD : List D → Option (List Int)
  | [] => some []
  | .int i :: r => (intsD r).map (i :: ·)
  | _ :: _ => none
def boolsD : List D → Option (List Bool)
  | [] => some []
  | .bl i :: r => (boolsD r).map (i :: ·)
  | _ :: _ => none
def maxL (x : Int) (l : List Int) : Int := l.foldl (fun a b => if b > a then b else a) x
def minL (x : Int) (l : List Int) : Int := l.foldl (fun a b => if b < a then b else a) x
def bltD (S : Sto) (f : Blt) (l : List D) : Option D :=
  match f, l with
  | .len, [x] => match deref S x with
    | .tup l => some (.int l.length)
    | .frl l => some (.int l.length)
    | .str s => if s.length ≤ line then some (.int s.length) else none
    | _ => none
  | .tuple, [x] => match deref S x with
    | .tup l => some (.tup l)
    | .frl l => some (.tup l)
    | _ => none
  | .int, [.int i] => some (.int i)
  | .int, [.str a] => if a.length ≤ 640 then (PySem.intText? a).map .int else none
  | .int, [.bl b] => some (.int (if b then 1 else 0))
  | .abs, [.int i] => some (.int (if i < 0 then -i else i))
  | .max, [.int i, .int j] => some (.int (if j > i then j else i))
  | .min, [.int i, .int j] => some (.int (if j < i then j else i))
  | .max, [x] => match deref S x with
    | .frl l => match intsD l with
      | some (i :: r) => some (.int (maxL i r))
      | _ => none
    | _ => none
  | .min, [x] => match deref S x with
    | .frl l => match intsD l with
      | some (i :: r) => some (.int (minL i r))
      | _ => none
    | _ => none
  | .sum, [x] => match deref S x with
    | .frl l => (intsD l).map fun ns => .int ns.sum
    | _ => none
  | .all, [x] => match deref S x with
    | .frl l => (boolsD l).map fun bs => .bl (bs.all id)
    | _ => none
  | .any, [x] => match deref S x with
    | .frl l => (boolsD l).map fun bs => .bl (bs.any id)
    | _ => none
  | .repr, [x] => if (deref S x).sh 60 = true ∧ (deref S x).py.showable = true ∧ (deref S x).py.shown.length ≤ line then some (.str (deref S x).py.shown) else none
  | .str, [.int i] => if i.natAbs.log2 < 1920 then some (.str (toString i)) else none
  | _, _ => none
/-- the place of an index -/
def ixD (l : List D) (i : Int) : Option D := L2.atI l i
def lkD (k : L2.Key) : List (L2.Key × D) → Option D
  | [] => none
  | p :: r => if p.1 = k then some p.2 else lkD k r
def dctGet (S : Sto) (x y : D) : Option (Option D) :=
  match x, keyD y with
  | .loc n, some k => match S[n]? with
    | some (.dct l) => some (lkD k l)
    | _ => none
  | _, _ => none
def idxD (S : Sto) (x y : D) : Option D :=
  match deref S x, y with
  | .tup l, .int i => ixD l i
  | .frl l, .int i => ixD l i
  | .str s, .int i => if s.length ≤ line then (L2.atI s.cps.toList i).map fun c => .str ⟨#[c]⟩ else none
  | .loc n, y => match dctGet S (.loc n) y with
    | some (some v) => some v
    | _ => none
  | _, _ => none
def cutL (l : List D) (lo hi : Option Int) : List D := (l.drop (HT.sIx l.length 0 lo)).take (HT.sIx l.length l.length hi - HT.sIx l.length 0 lo)
def slcD (S : Sto) (x : D) (lo hi : Option Int) : Option D :=
  match deref S x with
  | .str s => if s.length ≤ line then some (.str (L2.cutS s lo hi)) else none
  | .tup l => some (.tup (cutL l lo hi))
  | .frl l => some (.frl (cutL l lo hi))
  | _ => none
def revD (S : Sto) (x : D) : Option D :=
  match deref S x with
  | .frl l => some (.frl l.reverse)
  | .tup l => some (.tup l.reverse)
  | _ => none
def isL (S : Sto) (x : D) : Bool :=
  match x with
  | .loc n => match S[n]? with
    | some (.lst _) => true
    | _ => false
  | _ => false
/-- what a method that changes nothing is asked of -/
def rcv (m : Mth) (S : Sto) (x : D) : Bool :=
  match m, x with
  | .split, .str _ => true
  | .join, .str _ => true
  | .index, .str _ => true
  | .index, .frl _ => true
  | .index, .loc n => isL S (.loc n)
  | _, _ => false
def mthD (m : Mth) (x : D) (l : List D) (S : Sto) : R D :=
  match x with
  | .loc n => match S[n]? with
    | some (.lst xs) => match m, l with
      | .append, [y] => if xs.length < line then .ok .non (S.set n (.lst (xs ++ [y]))) else .no
      | .extend, [y] => .no
      | .pop, [.int i] => match L2.ixN xs.length i with
        | some k => match xs[k]? with
          | some y => .ok y (S.set n (.lst (xs.eraseIdx k)))
          | none => .no
        | none => .no
      | .pop, [] => match xs[xs.length - 1]? with
        | some y => .ok y (S.set n (.lst xs.dropLast))
        | none => .no
      | _, _ => .no
    | _ => .no
  | _ => .no
def extD (x : D) (ys : List D) (S : Sto) : R D :=
  match x with
  | .loc n => match S[n]? with
    | some (.lst xs) => if xs.length + ys.length ≤ line then .ok .non (S.set n (.lst (xs ++ ys))) else .no
    | _ => .no
  | _ => .no
def pickD (ks : List Str) (ds : List D) (y : D) : Option D :=
  match y with
  | .str z => (ks.zip ds).lookup z
  | _ => none
def dedupI (ns : List Int) : List Int := ns.foldl (fun acc k => if acc.any (· == k) = true then acc else acc ++ [k]) []
def lenSetD (S : Sto) (x : D) : Option D :=
  match deref S x with
  | .frl l => match intsD l with
    | some ns => if ns.length ≤ 4000 then some (.int (dedupI ns).length) else none
    | none => none
  | _ => none
/-- put by a key: in its place, or at the end -/
def putD {κ : Type} [DecidableEq κ] (l : List (κ × D)) (k : κ) (v : D) : List (κ × D) :=
  if (l.any fun p => decide (p.1 = k)) = true then l.map (fun p => if p.1 = k then (p.1, v) else p) else l ++ [(k, v)]
def putA (f : Str) (v : D) : List (Str × D) → List (Str × D)
  | [] => [(f, v)]
  | (g, x) :: r => if g = f then (g, v) :: r else (g, x) :: putA f v r
def setD (x y z : D) (S : Sto) : R Unit :=
  match x with
  | .loc n => match S[n]? with
    | some (.lst xs) => match y with
      | .int i => match L2.ixN xs.length i with
        | some k => .ok () (S.set n (.lst (xs.set k z)))
        | none => .no
      | _ => .no
    | some (.dct l) => match keyD y with
      | some k => if l.length < line then .ok () (S.set n (.dct (putD l k z))) else .no
      | none => .no
    | _ => .no
  | _ => .no
def setF (x : D) (f : Str) (z : D) (S : Sto) : R Unit :=
  match x with
  | .loc n => match S[n]? with
    | some (.ins c fs) => if fs.length < 1000 then .ok () (S.set n (.ins c (putA f z fs))) else .no
    | _ => .no
  | _ => .no
def insAt (S : Sto) (x : D) : Option (Str × List (Str × D)) :=
  match x with
  | .loc n => match S[n]? with
    | some (.ins c fs) => some (c, fs)
    | _ => none
  | _ => none
def strsD : List D → Option (List Str)
  | [] => some []
  | .str i :: r => (strsD r).map (i :: ·)
  | _ :: _ => none
def sign1 (s : Str) : Option Nat := match s.cps.toList with
  | [c] => if c < 256 then some c else none
  | _ => none
def joinS (a : Str) (ys : List Str) : Str := ⟨(TL.joinL a.cps.toList (ys.map fun y => y.cps.toList)).toArray⟩
def idxOf (c : Nat) : List Nat → Nat → Option Nat
  | [], _ => none
  | d :: r, i => if d = c then some i else idxOf c r (i + 1)
def idxD2 (d : PyData) : List D → Nat → Option Nat
  | [], _ => none
  | e :: r, i => if PyData.eqv e.py d = true then some i else idxD2 d r (i + 1)
def seqD' (x : D) : Option (List D) := match x with
  | .tup l => some l
  | .frl l => some l
  | _ => none
/-- methods that change nothing: of a text, a list, a tuple -/
def splitD (S : Sto) (x y : D) : R D :=
  match x, y with
  | .str a, .str b => match sign1 b with
    | some c => if a.length + 2 ≤ line then .ok (.frl ((TL.spl [c] 0 [] a.cps.toList).map fun l => .str ⟨l.toArray⟩)) S else .no
    | none => .no
  | _, _ => .no
def joinD (S : Sto) (x y : D) : R D :=
  match x with
  | .str a => match seqD S y with
    | some l => match strsD l with
      | some ys => if (ys.map (·.length)).sum + ys.length * a.length ≤ 16777216 then .ok (.str (joinS a ys)) S else .no
      | none => .no
    | none => .no
  | _ => .no
def sindexD (S : Sto) (x y : D) : R D :=
  match x, y with
  | .str a, .str b => match sign1 b with
    | some c => match idxOf c a.cps.toList 0 with
      | some i => .ok (.int (i : Nat)) S
      | none => .no
    | none => .no
  | _, _ => .no
def lindexD (S : Sto) (x y : D) : R D :=
  match deref S x with
  | .frl l => if (deref S y).sh 60 = true ∧ shL 59 l = true then match idxD2 (deref S y).py l 0 with
      | some i => .ok (.int (i : Nat)) S
      | none => .no
    else .no
  | _ => .no
def smD (m : Mth) (S : Sto) (x y : D) : R D :=
  match m with
  | .split => splitD S x y
  | .join => joinD S x y
  | .index => match x with
    | .str _ => sindexD S x y
    | _ => lindexD S x y
  | _ => .no
def sortD (l : List D) : Option (List D) :=
  if shL 60 l = true ∧ l.length ≤ line ∧ (l.all fun x => l.all fun y => PySem.W.alike x.py y.py) = true ∧
      ((l.all fun x => match x with | .tup (_ :: _) => true | _ => false) = true ∨ (l.all fun x => match x with | .tup _ => false | .non => false | _ => true) = true) then
    some (msort l (PySem.W.dataLe false D.py)) else none

def sortX (S : Sto) (x : D) : Option (List D) :=
  match deref S x with
  | .frl l => sortD l
  | .tup l => sortD l
  | _ => none

/-- the ints of a list, each once, ascending -/
def srtU (ns : List Int) : List Int := msort (dedupI ns) fun a b => decide (a ≤ b)
/-- a new list of two -/
def catD (S : Sto) (x y : D) : Option (List D) :=
  match deref S x, deref S y with
  | .frl a, .frl b => if a.length + b.length ≤ line then some (a ++ b) else none
  | _, _ => none
def srtSetD (S : Sto) (x : D) : Option (List D) :=
  match deref S x with
  | .frl l => match intsD l with
    | some ns => if ns.length < 64 then some ((srtU ns).map .int) else none
    | none => none
  | _ => none
/-! ### targets, loops -/
mutual
def bindT : CT → D → Sl → Option Sl
  | .nm i, d, σ => some (σ.set i (some d))
  | .tp ts, .tup l, σ => bindTs ts l σ
  | .tp _, _, _ => none
def bindTs : CTs → List D → Sl → Option Sl
  | .nil, [], σ => some σ
  | .cons t ts, d :: r, σ => match bindT t d σ with
    | some σ' => bindTs ts r σ'
    | none => none
  | _, _, _ => none
end
def wip (σ : Sl) : List Nat → Sl
  | [] => σ
  | v :: vs => (wip σ vs).set v none
/-- lists that are walked stay as they are -/
def grd (g : List (Nat × List D)) (S : Sto) : Bool := g.all fun p => decide (S[p.1]? = some (.lst p.2))
def forL (bnd : D → Sl → Option Sl) (body : Sl → Sto → R Fl) (g : List (Nat × List D)) : List D → Sl → Sto → R Fl
  | [], σ, S => if grd g S = true then .ok (.nx σ) S else .no
  | d :: r, σ, S => if grd g S = true then
      match bnd d σ with
      | none => .no
      | some σ1 => (body σ1 S).bind fun fl S1 => match fl with
        | .nx σ2 => forL bnd body g r σ2 S1
        | .ct σ2 => forL bnd body g r σ2 S1
        | .bk σ2 => .ok (.nx σ2) S1
        | .rt v => .ok (.rt v) S1
    else .no
def cmpL (one : D → Sto → R (Option D)) (g : List (Nat × List D)) : List D → List D → Sto → R (List D)
  | [], acc, S => if grd g S = true then .ok acc S else .no
  | d :: r, acc, S => if grd g S = true then
      (one d S).bind fun o S1 => match o with
        | none => cmpL one g r acc S1
        | some y => if acc.length < line then cmpL one g r (acc ++ [y]) S1 else .no
    else .no
def whlL (c : Sl → Sto → R Bool) (body : Sl → Sto → R Fl) : Nat → Sl → Sto → R Fl
  | 0, _, _ => .no
  | n + 1, σ, S => (c σ S).bind fun b S1 => if b = true then
      (body σ S1).bind fun fl S2 => match fl with
        | .nx σ2 => whlL c body n σ2 S2
        | .ct σ2 => whlL c body n σ2 S2
        | .bk σ2 => .ok (.nx σ2) S2
        | .rt v => .ok (.rt v) S2
    else .ok (.nx σ) S1
def rngL (a b : Int) : List D := (List.range (b - a).toNat).map fun i => .int (a + (i : Nat))
def srcG (d : D) (S : Sto) : List (Nat × List D) :=
  match d with
  | .loc n => match S[n]? with
    | some (.lst l) => [(n, l)]
    | _ => []
  | _ => []
/-- a text's signs -/
def charsL (s : Str) : List D := s.cps.toList.map fun c => .str ⟨#[c]⟩
def rngOk (a b : Int) : Bool := decide (a.natAbs < 2 ^ 62) && decide (b.natAbs < 2 ^ 62) && decide ((b - a).toNat ≤ 2 ^ 24)
def enumL (l : List D) : List D := l.zipIdx.map fun p => .tup [.int (p.2 : Nat), p.1]
def zipL (l m : List D) : List D := (l.zip m).map fun p => .tup [p.1, p.2]

/-- what is known of the classes -/
structure Cla where
  mth : List (Str × Str)
  prp : List (Str × Str)
  fld : List Str
  ini : Option Str
structure Gam where
  call : Str → List D → Sto → R D
  glb : Str → Option D
  wf : Nat
  call1 : Str → List D → Sto → R D
  cls : List (Str × Cla)
  gdt : Str → Option (List (Str × D))
def Gam.mth (Γ : Gam) (c m : Str) : Option Str := (Γ.cls.lookup c).bind fun k => k.mth.lookup m
def Gam.prp (Γ : Gam) (c m : Str) : Option Str := (Γ.cls.lookup c).bind fun k => k.prp.lookup m
def Gam.fld (Γ : Gam) (c f : Str) : Bool := match Γ.cls.lookup c with
  | some k => k.fld.contains f
  | none => false
def Gam.ini (Γ : Gam) (c : Str) : Option Str := (Γ.cls.lookup c).bind fun k => k.ini
/-- a field -/
def fieldD (Γ : Gam) (S : Sto) (x : D) (f : Str) : Option D :=
  match insAt S x with
  | some (c, fs) => if Γ.fld c f = true then fs.lookup f else none
  | none => none
/-- o.f, a field or a property -/
def fldR (Γ : Gam) (x : D) (f : Str) (S : Sto) : R D :=
  match (insAt S x).bind fun p => Γ.prp p.1 f with
  | some key => Γ.call1 key [x] S
  | none => R.of (fieldD Γ S x f) S
/-- o.f = z -/
def sfldR (Γ : Gam) (x : D) (f : Str) (z : D) (S : Sto) : R Unit :=
  match insAt S x with
  | some (c, fs) => if Γ.fld c f = true then setF x f z S else .no
  | none => .no
def mcallR (Γ : Gam) (x : D) (m : Str) (ds : List D) (S1 S : Sto) : R D :=
  match insAt S1 x with
  | some (c, fs) => match Γ.mth c m with
    | some key => if (fs.lookup m).isNone = true then Γ.call key (x :: ds) S else .no
    | none => .no
  | none => .no
def mkR (Γ : Gam) (c : Str) (ds : List D) (S : Sto) : R D :=
  match Γ.ini c with
  | some key => (Γ.call1 key (.loc S.length :: ds) (S ++ [.ins c []])).bind fun v S1 => match v with
    | .non => .ok (.loc S.length) S1
    | _ => .no
  | none => .no

/-- isinstance(x, c), an own class -/
def isCR (Γ : Gam) (x : D) (c : Str) (S : Sto) : R D :=
  match insAt S x with
  | some (c', _) => if c' = c ∧ (Γ.ini c).isSome = true then .ok (.bl true) S else .no
  | none => .no
/-- an item of a list -/
def idxL (S : Sto) (x j : D) : Option D :=
  match deref S x, j with
  | .frl l, .int i => L2.atI l i
  | _, _ => none
mutual
def evE (Γ : Gam) : CE → Sl → Sto → R D
  | .isC a c, σ, S => (evE Γ a σ S).bind fun x S1 => isCR Γ x c S1
  | .emp, _, S => .ok .emp S
  | .isi2 a t u, σ, S => (evE Γ a σ S).bind fun x S1 => R.of ((ty2D S1 t u x).map .bl) S1
  | .con d, _, S => .ok d S
  | .var i, σ, S => match σ[i]? with
    | some (some d) => .ok d S
    | _ => .no
  | .glb x, _, S => R.of (Γ.glb x) S
  | .bin o a b, σ, S => (evE Γ a σ S).bind fun x S1 => (evE Γ b σ S1).bind fun y S2 => R.of (binD S2 o x y) S2
  | .neg a, σ, S => (evE Γ a σ S).bind fun x S1 => R.of (negD x) S1
  | .not a, σ, S => (evE Γ a σ S).bind fun x S1 => R.of ((truD S1 x).map fun b => .bl (!b)) S1
  | .cmp o a b, σ, S => (evE Γ a σ S).bind fun x S1 => (evE Γ b σ S1).bind fun y S2 => R.of ((cmpD S2 o x y).map .bl) S2
  | .chn o1 o2 a b c, σ, S => (evE Γ a σ S).bind fun x S1 => (evE Γ b σ S1).bind fun y S2 => (R.of (cmpD S2 o1 x y) S2).bind fun t S2 =>
      if t = true then (evE Γ c σ S2).bind fun z S3 => R.of ((cmpD S3 o2 y z).map .bl) S3 else .ok (.bl false) S2
  | .and l, σ, S => evAnd Γ l σ S
  | .or l, σ, S => evOr Γ l σ S
  | .ite c a b, σ, S => (evE Γ c σ S).bind fun x S1 => (R.of (truD S1 x) S1).bind fun t S1 => if t = true then evE Γ a σ S1 else evE Γ b σ S1
  | .tup l, σ, S => (evAs Γ l σ S).bind fun ds S1 => if ds.length ≤ line then .ok (.tup ds) S1 else .no
  | .call f l, σ, S => (evEs Γ l σ S).bind fun ds S1 => Γ.call f ds S1
  | .callK f l kw perm, σ, S => (evEs Γ l σ S).bind fun ds S1 => (evEs Γ kw σ S1).bind fun es S2 => Γ.call f (ds ++ perm.filterMap fun i => es[i]?) S2
  | .blt f l, σ, S => (evEs Γ l σ S).bind fun ds S1 => R.of (bltD S1 f ds) S1
  | .isi a t, σ, S => (evE Γ a σ S).bind fun x S1 => R.of ((tyD S1 t x).map .bl) S1
  | .mth m o l, σ, S => (evE Γ o σ S).bind fun x S1 => if isL S1 x = true then (evEs Γ l σ S1).bind fun ds S2 => mthD m x ds S2 else .no
  | .idx a i, σ, S => (evE Γ a σ S).bind fun x S1 => (evE Γ i σ S1).bind fun y S2 => R.of (idxD S2 x y) S2
  | .slc a lo hi, σ, S => (evE Γ a σ S).bind fun x S1 => (evO Γ lo σ S1).bind fun l S2 => (evO Γ hi σ S2).bind fun h S3 => R.of (slcD S3 x l h) S3
  | .rev a, σ, S => (evE Γ a σ S).bind fun x S1 => R.of (revD S1 x) S1
  | .tupI s, σ, S => (evI Γ s σ S).bind fun p S1 => .ok (.tup p.1) S1
  | .fr f, σ, S => (evF Γ f σ S).bind fun l S1 => .ok (.frl l) S1
  | .mu f, σ, S => (evF Γ f σ S).bind fun l S1 => .ok (.loc S1.length) (S1 ++ [.lst l])
  | .ext o f, σ, S => (evE Γ o σ S).bind fun x S1 => if isL S1 x = true then (evF Γ f σ S1).bind fun ys S2 => extD x ys S2 else .no
  | .extE o e, σ, S => (evE Γ o σ S).bind fun x S1 => if isL S1 x = true then (evE Γ e σ S1).bind fun y S2 => match y with
    | .tup ys => extD x ys S2
    | _ => .no else .no
  | .pick ks l i, σ, S => (evEs Γ l σ S).bind fun ds S1 => (evE Γ i σ S1).bind fun y S2 => R.of (pickD ks ds y) S2
  | .pickG ks l i d, σ, S => (evEs Γ l σ S).bind fun ds S1 => (evE Γ i σ S1).bind fun y S2 => (evE Γ d σ S2).bind fun z S3 => match y with
    | .str w => .ok (((ks.zip ds).lookup w).getD z) S3
    | _ => .no
  | .fld o f, σ, S => (evE Γ o σ S).bind fun x S1 => fldR Γ x f S1
  | .mcall m o l, σ, S => (evE Γ o σ S).bind fun x S1 => (evEs Γ l σ S1).bind fun ds S2 => mcallR Γ x m ds S1 S2
  | .mk c l, σ, S => (evEs Γ l σ S).bind fun ds S1 => mkR Γ c ds S1
  | .sm m o a, σ, S => (evE Γ o σ S).bind fun x S1 => if rcv m S1 x = true then (evE Γ a σ S1).bind fun y S2 => smD m S2 x y else .no
  | .mkD ks l, σ, S => (evEs Γ l σ S).bind fun ds S1 => .ok (.loc S1.length) (S1 ++ [.dct ((ks.map fun k => (Sum.inr k : L2.Key)).zip ds)])
  | .newD, _, S => .ok (.loc S.length) (S ++ [.dct []])
  | .dgG x i, σ, S => (evE Γ i σ S).bind fun y S1 => match Γ.gdt x, y with
    | some l, .str w => R.of (l.lookup w) S1
    | _, _ => .no
  | .dnG x i neg, σ, S => (evE Γ i σ S).bind fun y S1 => match Γ.gdt x, y with
    | some l, .str w => .ok (.bl (xor neg (l.lookup w).isSome)) S1
    | _, _ => .no
  | .lenSet e, σ, S => (evE Γ e σ S).bind fun x S1 => R.of (lenSetD S1 x) S1
def evO (Γ : Gam) : CO → Sl → Sto → R (Option Int)
  | .no, _, S => .ok none S
  | .so e, σ, S => (evE Γ e σ S).bind fun x S1 => match x with
    | .int i => .ok (some i) S1
    | _ => .no
def evAnd (Γ : Gam) : CEs → Sl → Sto → R D
  | .nil, _, _ => .no
  | .cons e .nil, σ, S => evE Γ e σ S
  | .cons e (.cons e2 r), σ, S => (evE Γ e σ S).bind fun x S1 => (R.of (truD S1 x) S1).bind fun t S1 => if t = true then evAnd Γ (.cons e2 r) σ S1 else .ok x S1
def evOr (Γ : Gam) : CEs → Sl → Sto → R D
  | .nil, _, _ => .no
  | .cons e .nil, σ, S => evE Γ e σ S
  | .cons e (.cons e2 r), σ, S => (evE Γ e σ S).bind fun x S1 => (R.of (truD S1 x) S1).bind fun t S1 => if t = true then .ok x S1 else evOr Γ (.cons e2 r) σ S1
def evEs (Γ : Gam) : CEs → Sl → Sto → R (List D)
  | .nil, _, S => .ok [] S
  | .cons e r, σ, S => (evE Γ e σ S).bind fun x S1 => (evEs Γ r σ S1).bind fun xs S2 => .ok (x :: xs) S2
def evAs (Γ : Gam) : CAs → Sl → Sto → R (List D)
  | .nil, _, S => .ok [] S
  | .cons s e r, σ, S => if s = true then (evE Γ e σ S).bind fun x S1 => (R.of (seqD S1 x) S1).bind fun l S1 => (evAs Γ r σ S1).bind fun xs S2 => .ok (l ++ xs) S2
    else (evE Γ e σ S).bind fun x S1 => (evAs Γ r σ S1).bind fun xs S2 => .ok (x :: xs) S2
def evF (Γ : Gam) : CF → Sl → Sto → R (List D)
  | .disp l, σ, S => (evAs Γ l σ S).bind fun ds S1 => if ds.length ≤ line then .ok ds S1 else .no
  | .comp elt t src ifs own, σ, S => (evI Γ src σ S).bind fun p S1 =>
      cmpL (fun d S => match bindT t d (wip σ own) with
        | none => .no
        | some σ2 => (evIf Γ ifs σ2 S).bind fun b S2 => if b = true then (evE Γ elt σ2 S2).bind fun y S3 => .ok (some y) S3 else .ok none S2) p.2 p.1 [] S1
  | .list s, σ, S => (evE Γ s σ S).bind fun x S1 => R.of (seqD S1 x) S1
  | .listI s, σ, S => (evI Γ s σ S).bind fun p S1 => .ok p.1 S1
  | .sorted s, σ, S => (evE Γ s σ S).bind fun x S1 => R.of (sortX S1 x) S1
  | .cat a b, σ, S => (evE Γ a σ S).bind fun x S1 => (evE Γ b σ S1).bind fun y S2 => R.of (catD S2 x y) S2
  | .srtSet s, σ, S => (evE Γ s σ S).bind fun x S1 => R.of (srtSetD S1 x) S1
def evIf (Γ : Gam) : CEs → Sl → Sto → R Bool
  | .nil, _, S => .ok true S
  | .cons e .nil, σ, S => (evE Γ e σ S).bind fun x S1 => R.of (truD S1 x) S1
  | .cons _ (.cons _ _), _, _ => .no
def evI (Γ : Gam) : CI → Sl → Sto → R (List D × List (Nat × List D))
  | .seq e, σ, S => (evE Γ e σ S).bind fun x S1 => (R.of (seqD S1 x) S1).bind fun l S1 => .ok (l, srcG x S1) S1
  | .rng1 a, σ, S => (evE Γ a σ S).bind fun x S1 => match x with
    | .int j => if rngOk 0 j = true then .ok (rngL 0 j, []) S1 else .no
    | _ => .no
  | .rng2 a b, σ, S => (evE Γ a σ S).bind fun x S1 => (evE Γ b σ S1).bind fun y S2 => match x, y with
    | .int i, .int j => if rngOk i j = true then .ok (rngL i j, []) S2 else .no
    | _, _ => .no
  | .enum e, σ, S => (evE Γ e σ S).bind fun x S1 => (R.of (seqD S1 x) S1).bind fun l S1 => .ok (enumL l, srcG x S1) S1
  | .zip a b, σ, S => (evE Γ a σ S).bind fun x S1 => (evE Γ b σ S1).bind fun y S2 => match deref S2 x, deref S2 y with
    | .frl l, .frl m => .ok (zipL l m, srcG x S2 ++ srcG y S2) S2
    | .tup l, .tup m => .ok (zipL l m, []) S2
    | _, _ => .no
  | .chars e, σ, S => (evE Γ e σ S).bind fun x S1 => match x with
    | .str s => .ok (charsL s, []) S1
    | x => (R.of (seqD S1 x) S1).bind fun l S1 => .ok (l, srcG x S1) S1
end
def unfR (Γ : Gam) (x : D) : List (Str × D) → Sto → R Unit
  | [], S => .ok () S
  | (f, z) :: r, S => (sfldR Γ x f z S).bind fun _ S1 => unfR Γ x r S1
/-- as a test -/
def evT (Γ : Gam) (e : CE) (σ : Sl) (S : Sto) : R Bool := (evE Γ e σ S).bind fun x S1 => R.of (truD S1 x) S1
mutual
def evS (Γ : Gam) : CS → Sl → Sto → R Fl
  | .asg t e, σ, S => (evE Γ e σ S).bind fun x S1 => (R.of (bindT t x σ) S1).bind fun σ2 S1 => .ok (.nx σ2) S1
  | .sub o i e, σ, S => (evE Γ e σ S).bind fun z S1 => (evE Γ o σ S1).bind fun x S2 => (evE Γ i σ S2).bind fun y S3 => (setD x y z S3).bind fun _ S4 => .ok (.nx σ) S4
  | .aug i op e, σ, S => match σ[i]? with
    | some (some x) => (evE Γ e σ S).bind fun y S1 => match x, y with
      | .int a, .int b => (R.of ((intB op a b).map .int) S1).bind fun z S1 => .ok (.nx (σ.set i (some z))) S1
      | _, _ => .no
    | _ => .no
  | .sfld o f e, σ, S => (evE Γ e σ S).bind fun z S1 => (evE Γ o σ S1).bind fun x S2 => (sfldR Γ x f z S2).bind fun _ S3 => .ok (.nx σ) S3
  | .afld o f op e, σ, S => (evE Γ o σ S).bind fun x S1 => (R.of (fieldD Γ S1 x f) S1).bind fun v S1 => (evE Γ e σ S1).bind fun y S2 => match v, y with
      | .int a, .int b => (R.of ((intB op a b).map .int) S2).bind fun z S2 => (sfldR Γ x f z S2).bind fun _ S3 => .ok (.nx σ) S3
      | _, _ => .no
  | .asub o i op e, σ, S => (evE Γ o σ S).bind fun x S1 => (evE Γ i σ S1).bind fun j S2 => (R.of (idxL S2 x j) S2).bind fun v S2 => (evE Γ e σ S2).bind fun y S3 => match v, y with
      | .int a, .int b => (R.of ((intB op a b).map .int) S3).bind fun z S3 => (setD x j z S3).bind fun _ S4 => .ok (.nx σ) S4
      | _, _ => .no
  | .unf i fs e, σ, S => match σ[i]? with
    | some (some x) => (evE Γ e σ S).bind fun y S1 => match y with
      | .tup l => if l.length = fs.length then (unfR Γ x (fs.zip l) S1).bind fun _ S2 => .ok (.nx σ) S2 else .no
      | _ => .no
    | _ => .no
  | .try_ b, σ, S => evSs Γ b σ S
  | .expr e, σ, S => (evE Γ e σ S).bind fun _ S1 => .ok (.nx σ) S1
  | .ret e, σ, S => (evE Γ e σ S).bind fun x S1 => .ok (.rt x) S1
  | .retN, _, S => .ok (.rt .non) S
  | .ifs c a b, σ, S => (evT Γ c σ S).bind fun t S1 => if t = true then evSs Γ a σ S1 else evSs Γ b σ S1
  | .for_ t i b, σ, S => (evI Γ i σ S).bind fun p S1 => forL (fun d σ => bindT t d σ) (fun σ S => evSs Γ b σ S) p.2 p.1 σ S1
  | .whl c b, σ, S => whlL (fun σ S => evT Γ c σ S) (fun σ S => evSs Γ b σ S) Γ.wf σ S
  | .pas, σ, S => .ok (.nx σ) S
  | .brk, σ, S => .ok (.bk σ) S
  | .cnt, σ, S => .ok (.ct σ) S
  | .bad, _, _ => .no
def evSs (Γ : Gam) : CSs → Sl → Sto → R Fl
  | .nil, σ, S => .ok (.nx σ) S
  | .cons s r, σ, S => (evS Γ s σ S).bind fun fl S1 => match fl with
    | .nx σ2 => evSs Γ r σ2 S1
    | f => .ok f S1
end

structure Def where
  par : Nat
  loc : Nat
  body : CSs
  keep : Bool
  sub : Bool
structure Prog where
  defs : List (Str × Def)
  glbs : List (Str × D)
  cls : List (Str × Cla) := []
  gdts : List (Str × List (Str × D)) := []
/-- what leaves a call: at n0 objects -/
def gcv (n0 : Nat) (S : Sto) (v : D) : Option D :=
  if v.bel n0 = true then some v else match v with
    | .loc k => match S[k]? with
      | some (.lst l) => if n0 ≤ k ∧ belL n0 l = true then some (.frl l) else none
      | _ => none
    | _ => none
def runDef (Γ : Gam) (d : Def) (ds : List D) (S : Sto) : R D :=
  if ds.length = d.par then (evSs Γ d.body (ds.map some ++ List.replicate (d.loc - ds.length) none) S).bind fun fl S1 => match fl with
    | .nx _ => .ok .non S1
    | .rt v => .ok v S1
    | _ => .no
  else .no
def outPure (keep : Bool) (S : Sto) (v : D) (S1 : Sto) : R D :=
  if keep = true then .ok (v.shf S.length) (S ++ S1.map (O.shf S.length)) else R.of (gcv 0 S1 v) S
def outGc (keep : Bool) (S : Sto) (v : D) (S1 : Sto) : R D :=
  if keep = true then .ok v S1 else
    match gcv S.length S1 v with
    | some v' => if ((S1.take S.length).all (O.bel S.length)) = true then .ok v' (S1.take S.length) else .no
    | none => .no
/-! ### a call that sees no more than what it is handed -/
mutual
def D.ren (f : Nat → Nat) : D → D
  | .tup l => .tup (renL f l)
  | .frl l => .frl (renL f l)
  | .loc k => .loc (f k)
  | d => d
def renL (f : Nat → Nat) : List D → List D
  | [] => []
  | d :: r => d.ren f :: renL f r
end
mutual
/-- all its places are fit -/
def D.fit (p : Nat → Bool) : D → Bool
  | .tup l => fitL p l
  | .frl l => fitL p l
  | .loc k => p k
  | _ => true
def fitL (p : Nat → Bool) : List D → Bool
  | [] => true
  | d :: r => d.fit p && fitL p r
end
mutual
def D.locs : D → List Nat
  | .tup l => locsL l
  | .frl l => locsL l
  | .loc k => [k]
  | _ => []
def locsL : List D → List Nat
  | [] => []
  | d :: r => d.locs ++ locsL r
end
def renP {α : Type} (f : Nat → Nat) (l : List (α × D)) : List (α × D) := (l.map (·.1)).zip (renL f (l.map (·.2)))
def O.ds : O → List D
  | .lst l => l
  | .ins _ fs => fs.map (·.2)
  | .dct l => l.map (·.2)
def O.ren (f : Nat → Nat) : O → O
  | .lst l => .lst (renL f l)
  | .ins c fs => .ins c (renP f fs)
  | .dct l => .dct (renP f l)
/-- what is reached, in the sequence in which it is met -/
def rch (S : Sto) : Nat → List Nat → List Nat → List Nat
  | 0, _, seen => seen
  | _ + 1, [], seen => seen
  | n + 1, k :: r, seen => if seen.contains k = true then rch S n r seen else match S[k]? with
    | some o => rch S n (locsL o.ds ++ r) (seen ++ [k])
    | none => rch S n r seen
def posN : List Nat → Nat → Nat
  | [], _ => 0
  | x :: r, k => if x = k then 0 else posN r k + 1
def ndN : List Nat → Bool
  | [] => true
  | x :: r => !r.contains x && ndN r
def subOk (S : Sto) (ds : List D) (idx : List Nat) : Bool := ndN idx && (fitL (fun k => idx.contains k) ds && idx.all fun i => match S[i]? with
  | some o => fitL (fun k => idx.contains k) o.ds
  | none => false)
def subSto (S : Sto) (idx : List Nat) : Sto := idx.filterMap fun i => (S[i]?).map (O.ren (posN idx))
/-- the things seen, put back -/
def putBack (f : Nat → Nat) : List Nat → Sto → Sto → Sto
  | [], _, S => S
  | i :: r, [], S => putBack f r [] S
  | i :: r, o :: T, S => putBack f r T (S.set i (o.ren f))
def outSub (idx : List Nat) (S : Sto) (v : D) (S1 : Sto) : R D :=
  match gcv idx.length S1 v with
  | some v' => if ((S1.take idx.length).all (O.bel idx.length)) = true then .ok (v'.ren fun j => idx.getD j 0) (putBack (fun j => idx.getD j 0) idx S1 S) else .no
  | none => .no
/-- one call, its own calls told -/
def stepN (P : Prog) (wf : Nat) (c c1 : Str → List D → Sto → R D) (f : Str) (ds : List D) (S : Sto) : R D :=
  match P.defs.lookup f with
  | none => .no
  | some d =>
    if belL 0 ds = true then (runDef ⟨c, fun x => P.glbs.lookup x, wf, c1, P.cls, fun x => P.gdts.lookup x⟩ d ds []).bind fun v S1 => outPure d.keep S v S1
    else if d.sub = true ∧ subOk S ds (rch S 500 (locsL ds) []) = true then (runDef ⟨c, fun x => P.glbs.lookup x, wf, c1, P.cls, fun x => P.gdts.lookup x⟩ d (renL (posN (rch S 500 (locsL ds) [])) ds) (subSto S (rch S 500 (locsL ds) []))).bind fun v S1 => outSub (rch S 500 (locsL ds) []) S v S1
    else (runDef ⟨c, fun x => P.glbs.lookup x, wf, c1, P.cls, fun x => P.gdts.lookup x⟩ d ds S).bind fun v S1 => outGc d.keep S v S1
def callN (P : Prog) (wf : Nat) : Nat → Str → List D → Sto → R D
  | 0 => fun _ _ _ => .no
  | 1 => stepN P wf (fun _ _ _ => .no) (fun _ _ _ => .no)
  | n + 2 => stepN P wf (callN P wf (n + 1)) (callN P wf n)
def call1N (P : Prog) (wf : Nat) : Nat → Str → List D → Sto → R D
  | 0 => fun _ _ _ => .no
  | n + 1 => callN P wf n
abbrev gam (pg : Prog) (wf n : Nat) : Gam := ⟨callN pg wf n, fun x => pg.glbs.lookup x, wf, call1N pg wf n, pg.cls, fun x => pg.gdts.lookup x⟩
theorem callN_succ (P : Prog) (wf n : Nat) : callN P wf (n + 1) = stepN P wf (callN P wf n) (call1N P wf n) := by
  cases n <;> rfl
end Ev

/-! How data and a store stand in HandS's abstract heap. -/
namespace Ev
open PySem PySem.Spec PyProof.Rows L2

/-- a list of the module itself -/
def KLst (K : PySem.W.Frag) (a : Addr) (xs : List V) : Prop :=
  ∃ (o : Obj) (its : Array Value) (n : Nat), K.lookup a = some o ∧ o.cls = .type "list" ∧ o.dict = none ∧ o.data = .seq its n ∧ its.size ≤ sizeLine ∧ Vals xs its.toList
/-- a list that nobody changes any more: M tells what may still change -/
def FrL (K : PySem.W.Frag) (H : Hp) (M : Addr → Prop) (a : Addr) (xs : List V) : Prop := (Rd H a (.lst xs) ∧ ¬ M a) ∨ KLst K a xs
theorem FrL.sq {K : PySem.W.Frag} {H : Hp} {M : Addr → Prop} {a : Addr} {xs : List V} (h : FrL K H M a xs) : SqL K H a xs := by
  rcases h with h | h
  · exact .inl h.1
  · exact .inr h

mutual
def Rep (K : PySem.W.Frag) (H : Hp) (M : Addr → Prop) (μ : List Addr) : D → V → Prop
  | .non, v => v = .non
  | .bl b, v => v = .bl b
  | .int i, v => v = .int i
  | .str s, v => v = .str s
  | .tup l, v => ∃ a vs, v = .ref a ∧ SqT K H a vs ∧ RepL K H M μ l vs
  | .frl l, v => ∃ a vs, v = .ref a ∧ FrL K H M a vs ∧ RepL K H M μ l vs
  | .loc n, v => ∃ a, v = .ref a ∧ μ[n]? = some a
  | .emp, v => ∃ a, v = .ref a ∧ H a = some (.dK []) ∧ ¬ M a
def RepL (K : PySem.W.Frag) (H : Hp) (M : Addr → Prop) (μ : List Addr) : List D → List V → Prop
  | [], vs => vs = []
  | d :: r, vs => ∃ v w, vs = v :: w ∧ Rep K H M μ d v ∧ RepL K H M μ r w
end

/-- the class of a name -/
def clsA (K : PySem.W.Frag) (c : Str) : Addr := match PySem.W.nsIn K mainGlobals c with
  | some (some (.ref a)) => a
  | _ => 0
def RepO (K : PySem.W.Frag) (H : Hp) (M : Addr → Prop) (μ : List Addr) : O → HO → Prop
  | .lst l, u => ∃ vs, u = .lst vs ∧ RepL K H M μ l vs
  | .ins c fs, u => ∃ dx vs, u = .ins (clsA K c) dx vs ∧ fs.map (·.1) = vs.map (·.1) ∧ RepL K H M μ (fs.map (·.2)) (vs.map (·.2))
  | .dct l, u => ∃ vs, u = .dK vs ∧ l.map (·.1) = vs.map (·.1) ∧ RepL K H M μ (l.map (·.2)) (vs.map (·.2))
theorem RepO.imp {K : PySem.W.Frag} {H H1 : Hp} {M M1 : Addr → Prop} {μ μ1 : List Addr} {o : O} {u : HO} (i : ∀ l vs, RepL K H M μ l vs → RepL K H1 M1 μ1 l vs) (h : RepO K H M μ o u) : RepO K H1 M1 μ1 o u := by
  cases o with
  | lst l => obtain ⟨vs, e, r⟩ := h; exact ⟨vs, e, i _ _ r⟩
  | ins c fs => obtain ⟨dx, vs, e, k, r⟩ := h; exact ⟨dx, vs, e, k, i _ _ r⟩
  | dct l => obtain ⟨vs, e, k, r⟩ := h; exact ⟨vs, e, k, i _ _ r⟩
structure SOk (K : PySem.W.Frag) (H : Hp) (M : Addr → Prop) (μ : List Addr) (S : Ev.Sto) : Prop where
  len : μ.length = S.length
  nd : μ.Nodup
  sub : ∀ a ∈ μ, M a
  mt : ∀ a, M a → Mut (H a)
  obj : ∀ (n : Nat) (o : O), S[n]? = some o → ∃ a u, μ[n]? = some a ∧ H a = some u ∧ RepO K H M μ o u

/-- two objects of one kind -/
def SameK (o o' : HO) : Prop := o' = o ∨ (∃ a b, o = .lst a ∧ o' = .lst b) ∨ (∃ C d a b, o = .ins C d a ∧ o' = .ins C d b) ∨ (∃ a b, o = .dK a ∧ o' = .dK b)
theorem SameK.refl {o : HO} : SameK o o := .inl rfl
theorem SameK.trans {o p q : HO} (a : SameK o p) (b : SameK p q) : SameK o q := by
  rcases a with rfl | ⟨x, y, rfl, rfl⟩ | ⟨C, d, x, y, rfl, rfl⟩ | ⟨x, y, rfl, rfl⟩
  · exact b
  · rcases b with rfl | ⟨_, z, e, rfl⟩ | ⟨_, _, _, z, e, rfl⟩ | ⟨_, z, e, rfl⟩
    · exact .inr (.inl ⟨_, _, rfl, rfl⟩)
    · exact .inr (.inl ⟨_, _, rfl, rfl⟩)
    · cases e
    · cases e
  · rcases b with rfl | ⟨_, z, e, rfl⟩ | ⟨_, _, _, z, e, rfl⟩ | ⟨_, z, e, rfl⟩
    · exact .inr (.inr (.inl ⟨_, _, _, _, rfl, rfl⟩))
    · cases e
    · cases e; exact .inr (.inr (.inl ⟨_, _, _, _, rfl, rfl⟩))
    · cases e
  · rcases b with rfl | ⟨_, z, e, rfl⟩ | ⟨_, _, _, z, e, rfl⟩ | ⟨_, z, e, rfl⟩
    · exact .inr (.inr (.inr ⟨_, _, rfl, rfl⟩))
    · cases e
    · cases e
    · exact .inr (.inr (.inr ⟨_, _, rfl, rfl⟩))
structure Ext (H : Hp) (M : Addr → Prop) (μ : List Addr) (H' : Hp) (M' : Addr → Prop) (μ' : List Addr) : Prop where
  keep : ∀ a o, H a = some o → a ∉ μ → H' a = some o
  kind : ∀ a o, H a = some o → ∃ o', H' a = some o' ∧ SameK o o'
  pre : μ <+: μ'
  old : ∀ a, M a → M' a
  new : ∀ a, M' a → M a ∨ H a = none
  nmu : ∀ a ∈ μ', a ∈ μ ∨ H a = none

section
variable {K : PySem.W.Frag} {H H1 H2 : Hp} {M M1 M2 : Addr → Prop} {μ μ1 μ2 : List Addr} {S S1 : Ev.Sto} {a : Addr} {vs : List V}
theorem none_back {H H' : Hp} {a : Addr} (h : ∀ a o, H a = some o → ∃ o', H' a = some o') (e : H' a = none) : H a = none := by
  cases q : H a with
  | none => rfl
  | some o =>
    obtain ⟨o', z⟩ := h a o q
    rw [z] at e; cases e
theorem Ext.there (x : Ext H M μ H1 M1 μ1) : ∀ a o, H a = some o → ∃ o', H1 a = some o' := fun a o h => let ⟨o', h', _⟩ := x.kind a o h; ⟨o', h'⟩
theorem Ext.refl : Ext H M μ H M μ := ⟨fun _ _ h _ => h, fun _ o h => ⟨o, h, .refl⟩, List.prefix_refl _, fun _ h => h, fun _ h => .inl h, fun _ h => .inl h⟩
theorem Ext.trans (x : Ext H M μ H1 M1 μ1) (y : Ext H1 M1 μ1 H2 M2 μ2) : Ext H M μ H2 M2 μ2 := by
  refine ⟨fun a o h hn => y.keep a o (x.keep a o h hn) fun hm => ?_, fun a o h => ?_, x.pre.trans y.pre, fun a h => y.old a (x.old a h), fun a h => ?_, fun a h => ?_⟩
  · rcases x.nmu a hm with z | z
    · exact hn z
    · rw [z] at h; cases h
  · obtain ⟨o1, h1, k1⟩ := x.kind a o h
    obtain ⟨o2, h2, k2⟩ := y.kind a o1 h1
    exact ⟨o2, h2, k1.trans k2⟩
  · rcases y.new a h with z | z
    · exact x.new a z
    · exact .inr (none_back x.there z)
  · rcases y.nmu a h with z | z
    · exact x.nmu a z
    · exact .inr (none_back x.there z)
theorem notM (hM : ∀ a, M a → Mut (H a)) (h : H a = some (.tup vs)) : ¬ M a := fun z => by have := hM a z; rw [h] at this; exact this
theorem notMf {o : Obj} {u : HO} (hM : ∀ a, M a → Mut (H a)) (h : H a = some (.frz o u)) : ¬ M a := fun z => by have := hM a z; rw [h] at this; exact this
theorem notMn (hM : ∀ a, M a → Mut (H a)) (h : H a = none) : ¬ M a := fun z => by have := hM a z; rw [h] at this; exact this
theorem SqT.ext (hM : ∀ a, M a → Mut (H a)) (hs : ∀ a ∈ μ, M a) (x : Ext H M μ H1 M1 μ1) (h : SqT K H a vs) : SqT K H1 a vs := by
  rcases h with (h | ⟨o, h⟩) | h
  · exact .inl (.inl (x.keep _ _ h fun z => notM hM h (hs _ z)))
  · exact .inl (.inr ⟨o, x.keep _ _ h fun z => notMf hM h (hs _ z)⟩)
  · exact .inr h
theorem FrL.ext (hs : ∀ a ∈ μ, M a) (x : Ext H M μ H1 M1 μ1) (h : FrL K H M a vs) : FrL K H1 M1 a vs := by
  rcases h with ⟨h, hn⟩ | h
  · have hn1 : ∀ o, H a = some o → ¬ M1 a := fun o q z => by
      rcases x.new a z with w | w
      · exact hn w
      · rw [w] at q; cases q
    have nm : a ∉ μ := fun z => hn (hs _ z)
    rcases h with h | ⟨o, h⟩
    · exact .inl ⟨.inl (x.keep _ _ h nm), hn1 _ h⟩
    · exact .inl ⟨.inr ⟨o, x.keep _ _ h nm⟩, hn1 _ h⟩
  · exact .inr h
theorem pre_get {l l' : List Addr} (h : l <+: l') {n : Nat} {a : Addr} (e : l[n]? = some a) : l'[n]? = some a := by
  obtain ⟨r, rfl⟩ := h
  rw [List.getElem?_append_left (List.getElem?_eq_some_iff.mp e).1]
  exact e
mutual
theorem Rep.ext (hM : ∀ a, M a → Mut (H a)) (hs : ∀ a ∈ μ, M a) (x : Ext H M μ H1 M1 μ1) : ∀ {d : D} {v : V}, Rep K H M μ d v → Rep K H1 M1 μ1 d v
  | .non, _, h => h
  | .bl _, _, h => h
  | .int _, _, h => h
  | .str _, _, h => h
  | .tup l, _, h => by
    obtain ⟨a, vs, e, h1, h2⟩ := h
    exact ⟨a, vs, e, SqT.ext hM hs x h1, RepL.ext hM hs x h2⟩
  | .frl l, _, h => by
    obtain ⟨a, vs, e, h1, h2⟩ := h
    exact ⟨a, vs, e, h1.ext hs x, RepL.ext hM hs x h2⟩
  | .loc n, _, h => by
    obtain ⟨a, e, h1⟩ := h
    exact ⟨a, e, pre_get x.pre h1⟩
  | .emp, _, h => by
    obtain ⟨a, e, h1, hn⟩ := h
    refine ⟨a, e, x.keep _ _ h1 fun z => hn (hs _ z), fun z => ?_⟩
    rcases x.new a z with w | w
    · exact hn w
    · rw [w] at h1; cases h1
theorem RepL.ext (hM : ∀ a, M a → Mut (H a)) (hs : ∀ a ∈ μ, M a) (x : Ext H M μ H1 M1 μ1) : ∀ {l : List D} {vs : List V}, RepL K H M μ l vs → RepL K H1 M1 μ1 l vs
  | [], _, h => h
  | d :: r, _, h => by
    obtain ⟨v, w, e, h1, h2⟩ := h
    exact ⟨v, w, e, Rep.ext hM hs x h1, RepL.ext hM hs x h2⟩
end
theorem RepL.len : ∀ {l : List D} {vs : List V}, RepL K H M μ l vs → l.length = vs.length
  | [], _, h => by rw [show _ = _ from h]; rfl
  | d :: r, _, h => by
    obtain ⟨v, w, rfl, h1, h2⟩ := h
    simp [RepL.len h2]
theorem RepL.get : ∀ {l : List D} {vs : List V} {i : Nat} {d : D}, RepL K H M μ l vs → l[i]? = some d → ∃ v, vs[i]? = some v ∧ Rep K H M μ d v
  | [], _, _, _, _, e => by simp at e
  | d :: r, _, 0, d', h, e => by
    obtain ⟨v, w, rfl, h1, h2⟩ := h
    simp at e; subst e
    exact ⟨v, rfl, h1⟩
  | d :: r, _, i + 1, d', h, e => by
    obtain ⟨v, w, rfl, h1, h2⟩ := h
    obtain ⟨u, e1, e2⟩ := RepL.get (i := i) h2 (by simpa using e)
    exact ⟨u, by simpa using e1, e2⟩
theorem RepL.app : ∀ {l m : List D} {vs ws : List V}, RepL K H M μ l vs → RepL K H M μ m ws → RepL K H M μ (l ++ m) (vs ++ ws)
  | [], _, _, _, h, h' => by rw [show _ = _ from h]; exact h'
  | d :: r, _, _, _, h, h' => by
    obtain ⟨v, w, rfl, h1, h2⟩ := h
    exact ⟨v, _, rfl, h1, RepL.app h2 h'⟩
theorem RepL.one {d : D} {v : V} (h : Rep K H M μ d v) : RepL K H M μ [d] [v] := ⟨v, [], rfl, h, rfl⟩
theorem RepL.drop : ∀ {l : List D} {vs : List V} (n : Nat), RepL K H M μ l vs → RepL K H M μ (l.drop n) (vs.drop n)
  | _, _, 0, h => by simpa using h
  | [], _, n + 1, h => by rw [show _ = _ from h]; simp [RepL]
  | d :: r, _, n + 1, h => by
    obtain ⟨v, w, rfl, h1, h2⟩ := h
    simpa using RepL.drop n h2
theorem RepL.take : ∀ {l : List D} {vs : List V} (n : Nat), RepL K H M μ l vs → RepL K H M μ (l.take n) (vs.take n)
  | _, _, 0, h => by simp [RepL]
  | [], _, n + 1, h => by rw [show _ = _ from h]; simp [RepL]
  | d :: r, _, n + 1, h => by
    obtain ⟨v, w, rfl, h1, h2⟩ := h
    exact ⟨v, w.take n, by simp, h1, RepL.take n h2⟩
theorem RepL.rev : ∀ {l : List D} {vs : List V}, RepL K H M μ l vs → RepL K H M μ l.reverse vs.reverse
  | [], _, h => by rw [show _ = _ from h]; simp [RepL]
  | d :: r, _, h => by
    obtain ⟨v, w, rfl, h1, h2⟩ := h
    rw [List.reverse_cons, List.reverse_cons]
    exact RepL.app (RepL.rev h2) (RepL.one h1)
theorem RepL.erase : ∀ {l : List D} {vs : List V} (n : Nat), RepL K H M μ l vs → RepL K H M μ (l.eraseIdx n) (vs.eraseIdx n)
  | [], _, n, h => by rw [show _ = _ from h]; simp [RepL]
  | d :: r, _, 0, h => by
    obtain ⟨v, w, rfl, h1, h2⟩ := h
    exact h2
  | d :: r, _, n + 1, h => by
    obtain ⟨v, w, rfl, h1, h2⟩ := h
    exact ⟨v, _, rfl, h1, RepL.erase n h2⟩
theorem RepL.set {d' : D} {v' : V} (h' : Rep K H M μ d' v') : ∀ {l : List D} {vs : List V} (n : Nat), RepL K H M μ l vs → RepL K H M μ (l.set n d') (vs.set n v')
  | [], _, n, h => by rw [show _ = _ from h]; simp [RepL]
  | d :: r, _, 0, h => by
    obtain ⟨v, w, rfl, h1, h2⟩ := h
    exact ⟨v', w, rfl, h', h2⟩
  | d :: r, _, n + 1, h => by
    obtain ⟨v, w, rfl, h1, h2⟩ := h
    exact ⟨v, _, rfl, h1, RepL.set h' n h2⟩

/-! ### weaker views: fewer places, fewer changing ones -/
mutual
theorem Rep.down {n : Nat} (hM : ∀ a, M a → M1 a) (hm : μ = μ1.take n) : ∀ {d : D} {v : V}, d.bel n = true → Rep K H M1 μ1 d v → Rep K H M μ d v
  | .non, _, _, h => h
  | .bl _, _, _, h => h
  | .int _, _, _, h => h
  | .str _, _, _, h => h
  | .tup l, _, b, h => by
    obtain ⟨a, vs, e, h1, h2⟩ := h
    exact ⟨a, vs, e, h1, RepL.down hM hm (by simpa [D.bel] using b) h2⟩
  | .frl l, _, b, h => by
    obtain ⟨a, vs, e, h1, h2⟩ := h
    refine ⟨a, vs, e, ?_, RepL.down hM hm (by simpa [D.bel] using b) h2⟩
    rcases h1 with ⟨h1, q⟩ | h1
    · exact .inl ⟨h1, fun z => q (hM _ z)⟩
    · exact .inr h1
  | .loc k, _, b, h => by
    obtain ⟨a, e, h1⟩ := h
    refine ⟨a, e, ?_⟩
    have hk : k < n := by simpa [D.bel] using b
    rw [hm, List.getElem?_take_of_lt hk]
    exact h1
  | .emp, _, _, h => by
    obtain ⟨a, e, h1, hn⟩ := h
    exact ⟨a, e, h1, fun z => hn (hM _ z)⟩
theorem RepL.down {n : Nat} (hM : ∀ a, M a → M1 a) (hm : μ = μ1.take n) : ∀ {l : List D} {vs : List V}, belL n l = true → RepL K H M1 μ1 l vs → RepL K H M μ l vs
  | [], _, _, h => h
  | d :: r, _, b, h => by
    obtain ⟨v, w, e, h1, h2⟩ := h
    simp only [belL, Bool.and_eq_true] at b
    exact ⟨v, w, e, Rep.down hM hm b.1 h1, RepL.down hM hm b.2 h2⟩
end
mutual
theorem Rep.shift (hM : ∀ a, M2 a → M1 a) : ∀ {d : D} {v : V}, Rep K H M1 μ1 d v → Rep K H M2 (μ ++ μ1) (d.shf μ.length) v
  | .non, _, h => h
  | .bl _, _, h => h
  | .int _, _, h => h
  | .str _, _, h => h
  | .tup l, _, h => by
    obtain ⟨a, vs, e, h1, h2⟩ := h
    exact ⟨a, vs, e, h1, RepL.shift hM h2⟩
  | .frl l, _, h => by
    obtain ⟨a, vs, e, h1, h2⟩ := h
    refine ⟨a, vs, e, ?_, RepL.shift hM h2⟩
    rcases h1 with ⟨h1, q⟩ | h1
    · exact .inl ⟨h1, fun z => q (hM _ z)⟩
    · exact .inr h1
  | .loc k, _, h => by
    obtain ⟨a, e, h1⟩ := h
    refine ⟨a, e, ?_⟩
    rw [List.getElem?_append_right (by omega)]
    simpa using h1
  | .emp, _, h => by
    obtain ⟨a, e, h1, hn⟩ := h
    exact ⟨a, e, h1, fun z => hn (hM _ z)⟩
theorem RepL.shift (hM : ∀ a, M2 a → M1 a) : ∀ {l : List D} {vs : List V}, RepL K H M1 μ1 l vs → RepL K H M2 (μ ++ μ1) (shfL μ.length l) vs
  | [], _, h => h
  | d :: r, _, h => by
    obtain ⟨v, w, e, h1, h2⟩ := h
    exact ⟨v, w, e, Rep.shift hM h1, RepL.shift hM h2⟩
end

/-! ### the library's data -/
mutual
theorem Rep.dp : ∀ {n : Nat} {d : D} {v : V}, d.sh n = true → Rep K H M μ d v → Dp K H v d.py
  | _, .non, _, _, h => by rw [show _ = _ from h]; exact .non
  | _, .bl b, _, _, h => by rw [show _ = _ from h]; exact .bl b
  | _, .int b, _, _, h => by rw [show _ = _ from h]; exact .int b
  | _, .str b, _, _, h => by rw [show _ = _ from h]; exact .str b
  | n, .tup l, _, s, h => by
    obtain ⟨a, vs, rfl, h1, h2⟩ := h
    cases n with
    | zero => simp [D.sh] at s
    | succ n => exact .tup h1 (RepL.dp (n := n) (by simpa [D.sh] using s) h2)
  | n, .frl l, _, s, h => by
    obtain ⟨a, vs, rfl, h1, h2⟩ := h
    cases n with
    | zero => simp [D.sh] at s
    | succ n => exact .lst h1.sq (RepL.dp (n := n) (by simpa [D.sh] using s) h2)
  | n, .loc k, _, s, h => by cases n <;> simp [D.sh] at s
  | n, .emp, _, s, h => by cases n <;> simp [D.sh] at s
theorem RepL.dp : ∀ {n : Nat} {l : List D} {vs : List V}, shL n l = true → RepL K H M μ l vs → DpAll K H vs (pyL l)
  | _, [], _, _, h => by rw [show _ = _ from h]; exact .nil
  | n, d :: r, _, s, h => by
    obtain ⟨v, w, rfl, h1, h2⟩ := h
    simp only [shL, Bool.and_eq_true] at s
    exact .cons (Rep.dp s.1 h1) (RepL.dp s.2 h2)
end
mutual
theorem sh_lay : ∀ {n : Nat} {d : D}, d.sh n = true → d.py.canLay0 = true ∧ d.py.depth ≤ n
  | _, .non, _ => by simp [D.py, PyData.canLay0, PyData.depth]
  | _, .bl b, _ => by simp [D.py, PyData.canLay0, PyData.depth]
  | _, .int b, _ => by simp [D.py, PyData.canLay0, PyData.depth]
  | n, .str b, s => by
    have : PyData.strOk b = true := by cases n <;> simpa [D.sh] using s
    simp [D.py, PyData.canLay0, PyData.depth, this]
  | n, .tup l, s => by
    cases n with
    | zero => simp [D.sh] at s
    | succ n =>
      obtain ⟨h1, h2⟩ := shL_lay (n := n) (l := l) (by simpa [D.sh] using s)
      simp only [D.py, PyData.canLay0, PyData.depth]
      exact ⟨h1, by omega⟩
  | n, .frl l, s => by
    cases n with
    | zero => simp [D.sh] at s
    | succ n =>
      obtain ⟨h1, h2⟩ := shL_lay (n := n) (l := l) (by simpa [D.sh] using s)
      simp only [D.py, PyData.canLay0, PyData.depth]
      exact ⟨h1, by omega⟩
  | n, .loc k, s => by cases n <;> simp [D.sh] at s
  | n, .emp, s => by cases n <;> simp [D.sh] at s
theorem shL_lay : ∀ {n : Nat} {l : List D}, shL n l = true → PyData.canLayAll0 (pyL l) = true ∧ PyData.depthAll (pyL l) ≤ n
  | n, [], _ => by simp [pyL, PyData.canLayAll0, PyData.depthAll]
  | n, d :: r, s => by
    simp only [shL, Bool.and_eq_true] at s
    obtain ⟨h1, h2⟩ := sh_lay s.1
    obtain ⟨h3, h4⟩ := shL_lay s.2
    simp only [pyL, PyData.canLayAll0, PyData.depthAll, h1, h3]
    exact ⟨rfl, by omega⟩
end
theorem sh_shaped {d : D} (h : d.sh 60 = true) : SeqAt.shaped d.py = true := by
  obtain ⟨h1, h2⟩ := sh_lay h
  show (d.py.canLay0 && decide (d.py.depth ≤ 64)) = true
  rw [h1, Bool.true_and]
  exact decide_eq_true (by omega)
theorem flat_sh {d : D} (h : flat d = true) (hs : ∀ s, d = .str s → PyData.strOk s = true) : d.sh 60 = true := by
  cases d <;> simp_all [flat, D.sh]

/-! ### the store changes -/
theorem SOk.at (h : SOk K H M μ S) {n : Nat} {l : List D} (e : S[n]? = some (O.lst l)) : ∃ a vs, μ[n]? = some a ∧ H a = some (.lst vs) ∧ RepL K H M μ l vs := by
  obtain ⟨a, u, e1, e2, vs, rfl, r⟩ := h.obj n _ e
  exact ⟨a, vs, e1, e2, r⟩
theorem SOk.atI (h : SOk K H M μ S) {n : Nat} {c : Str} {fs : List (Str × D)} (e : S[n]? = some (O.ins c fs)) : ∃ a dx vs, μ[n]? = some a ∧ H a = some (.ins (clsA K c) dx vs) ∧ fs.map (·.1) = vs.map (·.1) ∧ RepL K H M μ (fs.map (·.2)) (vs.map (·.2)) := by
  obtain ⟨a, u, e1, e2, dx, vs, rfl, k, r⟩ := h.obj n _ e
  exact ⟨a, dx, vs, e1, e2, k, r⟩
theorem SOk.atD (h : SOk K H M μ S) {n : Nat} {l : List (Key × D)} (e : S[n]? = some (O.dct l)) : ∃ a vs, μ[n]? = some a ∧ H a = some (.dK vs) ∧ l.map (·.1) = vs.map (·.1) ∧ RepL K H M μ (l.map (·.2)) (vs.map (·.2)) := by
  obtain ⟨a, u, e1, e2, vs, rfl, k, r⟩ := h.obj n _ e
  exact ⟨a, vs, e1, e2, k, r⟩
/-- a new object that nobody will change -/
theorem Ext.laid {o : HO} (hs : ∀ a ∈ μ, M a) (hM : ∀ a, M a → Mut (H a)) {p : Addr} (hp : H p = none) : Ext H M μ (upd H p o) M μ :=
  ⟨fun a o' h _ => by rw [upd_ne (ne_of_none h hp)]; exact h, fun a o' h => ⟨o', by rw [upd_ne (ne_of_none h hp)]; exact h, .refl⟩, List.prefix_refl _, fun _ h => h, fun _ h => .inl h, fun _ h => .inl h⟩
theorem SOk.laid {o : HO} (h : SOk K H M μ S) {p : Addr} (hp : H p = none) : SOk K (upd H p o) M μ S := by
  have x : Ext H M μ (upd H p o) M μ := .laid h.sub h.mt hp
  refine ⟨h.len, h.nd, h.sub, fun a ha => ?_, fun n l e => ?_⟩
  · have : a ≠ p := fun z => notMn h.mt hp (z ▸ ha)
    rw [upd_ne this]
    exact h.mt a ha
  · obtain ⟨a, vs, e1, e2, r⟩ := h.obj n l e
    exact ⟨a, vs, e1, by rw [upd_ne (ne_of_none e2 hp)]; exact e2, r.imp fun _ _ r => RepL.ext h.mt h.sub x r⟩
/-- .. that may be changed later -/
theorem Ext.grown {o : HO} (hs : ∀ a ∈ μ, M a) (hM : ∀ a, M a → Mut (H a)) {p : Addr} (hp : H p = none) : Ext H M μ (upd H p o) (fun a => M a ∨ a = p) (μ ++ [p]) :=
  ⟨fun a o' h _ => by rw [upd_ne (ne_of_none h hp)]; exact h, fun a o' h => ⟨o', by rw [upd_ne (ne_of_none h hp)]; exact h, .refl⟩, List.prefix_append _ _, fun _ h => .inl h, fun a h => by
    rcases h with h | rfl
    · exact .inl h
    · exact .inr hp, fun a h => by
    rcases List.mem_append.mp h with h | h
    · exact .inl h
    · rw [List.mem_singleton.mp h]; exact .inr hp⟩
theorem SOk.grownO {o : O} {u : HO} (h : SOk K H M μ S) {p : Addr} (hp : H p = none) (hm : Mut (some u)) (r : RepO K H M μ o u) : SOk K (upd H p u) (fun a => M a ∨ a = p) (μ ++ [p]) (S ++ [o]) := by
  have x : Ext H M μ (upd H p u) (fun a => M a ∨ a = p) (μ ++ [p]) := .grown h.sub h.mt hp
  refine ⟨by simp [h.len], ?_, fun a ha => ?_, fun a ha => ?_, fun n l' e => ?_⟩
  · rw [List.nodup_append]
    refine ⟨h.nd, by simp, fun a ha b hb e => ?_⟩
    have e2 : b = p := List.mem_singleton.mp hb
    subst e2; subst e
    exact notMn h.mt hp (h.sub _ ha)
  · rcases List.mem_append.mp ha with ha | ha
    · exact .inl (h.sub a ha)
    · exact .inr (List.mem_singleton.mp ha)
  · rcases ha with ha | rfl
    · have : a ≠ p := fun z => notMn h.mt hp (z ▸ ha)
      rw [upd_ne this]
      exact h.mt a ha
    · rw [upd_same]; exact hm
  · by_cases hn : n < S.length
    · rw [List.getElem?_append_left hn] at e
      obtain ⟨a, ws, e1, e2, r'⟩ := h.obj n l' e
      exact ⟨a, ws, pre_get x.pre e1, by rw [upd_ne (ne_of_none e2 hp)]; exact e2, r'.imp fun _ _ r => RepL.ext h.mt h.sub x r⟩
    · have hn' : n = S.length := by
        have := (List.getElem?_eq_some_iff.mp e).1
        simp at this; omega
      subst hn'
      simp at e; subst e
      refine ⟨p, u, by rw [← h.len]; simp, upd_same, r.imp fun _ _ r => RepL.ext h.mt h.sub x r⟩
theorem SOk.grown {vs : List V} {l : List D} (h : SOk K H M μ S) {p : Addr} (hp : H p = none) (r : RepL K H M μ l vs) : SOk K (upd H p (.lst vs)) (fun a => M a ∨ a = p) (μ ++ [p]) (S ++ [O.lst l]) := h.grownO hp trivial ⟨vs, rfl, r⟩
/-- an object changed -/
theorem Ext.wroteO {u w : HO} (hs : ∀ a ∈ μ, M a) {n : Nat} {p : Addr} (hp : μ[n]? = some p) (hH : H p = some u) (hk : SameK u w) : Ext H M μ (upd H p w) M μ := by
  have hm : p ∈ μ := List.mem_of_getElem? hp
  refine ⟨fun a o' h hn => by rw [upd_ne (fun (z : a = p) => hn (by rw [z]; exact hm))]; exact h, fun a o' h => ?_, List.prefix_refl _, fun _ h => h, fun _ h => .inl h, fun _ h => .inl h⟩
  by_cases e : a = p
  · subst e
    rw [hH] at h; cases h
    exact ⟨_, upd_same, hk⟩
  · exact ⟨o', by rw [upd_ne e]; exact h, .refl⟩
theorem Ext.wrote {vs ws : List V} (hs : ∀ a ∈ μ, M a) {n : Nat} {p : Addr} (hp : μ[n]? = some p) (hH : H p = some (.lst vs)) : Ext H M μ (upd H p (.lst ws)) M μ := .wroteO hs hp hH (.inr (.inl ⟨_, _, rfl, rfl⟩))
theorem SOk.wroteO {u w : HO} {o : O} (h : SOk K H M μ S) {n : Nat} {p : Addr} (hp : μ[n]? = some p) (hH : H p = some u) (hk : SameK u w) (hm : Mut (some w)) (r : RepO K H M μ o w) : SOk K (upd H p w) M μ (S.set n o) := by
  have x : Ext H M μ (upd H p w) M μ := .wroteO h.sub hp hH hk
  have hn : n < S.length := by rw [← h.len]; exact (List.getElem?_eq_some_iff.mp hp).1
  refine ⟨by simp [h.len], h.nd, h.sub, fun a ha => ?_, fun k l' e => ?_⟩
  · by_cases e : a = p
    · subst e; rw [upd_same]; exact hm
    · rw [upd_ne e]; exact h.mt a ha
  · by_cases hk : k = n
    · subst hk
      rw [List.getElem?_set_self hn] at e
      cases e
      exact ⟨p, w, hp, upd_same, r.imp fun _ _ r => RepL.ext h.mt h.sub x r⟩
    · rw [List.getElem?_set_ne (Ne.symm hk)] at e
      obtain ⟨a, us, e1, e2, r'⟩ := h.obj k l' e
      have ne : a ≠ p := fun z => by
        subst z
        obtain ⟨i1, j1⟩ := List.getElem?_eq_some_iff.mp e1
        obtain ⟨i2, j2⟩ := List.getElem?_eq_some_iff.mp hp
        exact hk ((List.getElem_inj h.nd).mp (j1.trans j2.symm))
      exact ⟨a, us, e1, by rw [upd_ne ne]; exact e2, r'.imp fun _ _ r => RepL.ext h.mt h.sub x r⟩
theorem SOk.wrote {vs ws : List V} {l : List D} (h : SOk K H M μ S) {n : Nat} {p : Addr} (hp : μ[n]? = some p) (hH : H p = some (.lst vs)) (r : RepL K H M μ l ws) : SOk K (upd H p (.lst ws)) M μ (S.set n (O.lst l)) := h.wroteO hp hH (.inr (.inl ⟨_, _, rfl, rfl⟩)) trivial ⟨ws, rfl, r⟩
theorem RepL.of (h : SOk K H M μ S) (x : Ext H M μ H1 M1 μ1) {l : List D} {vs : List V} (r : RepL K H M μ l vs) : RepL K H1 M1 μ1 l vs := RepL.ext h.mt h.sub x r
theorem Rep.of (h : SOk K H M μ S) (x : Ext H M μ H1 M1 μ1) {d : D} {v : V} (r : Rep K H M μ d v) : Rep K H1 M1 μ1 d v := Rep.ext h.mt h.sub x r

/-- a value as it stands: a changing list read -/
theorem Rep.deref (h : SOk K H M μ S) {d : D} {v : V} (r : Rep K H M μ d v) : (∃ l, deref S d = .frl l ∧ ∃ a vs, v = .ref a ∧ SqL K H a vs ∧ RepL K H M μ l vs) ∨ (deref S d = d ∧ ((∃ n, d = .loc n) ∨ (∀ n, d ≠ .loc n))) := by
  cases d with
  | loc n =>
    cases e : S[n]? with
    | none => exact .inr ⟨by simp [Ev.deref, e], .inl ⟨n, rfl⟩⟩
    | some o =>
      cases o with
      | lst l =>
        obtain ⟨a, vs, e1, e2, r'⟩ := h.at e
        obtain ⟨a', rfl, e1'⟩ := r
        rw [e1] at e1'; cases e1'
        exact .inl ⟨l, by simp [Ev.deref, e], a, vs, rfl, SqL.of e2, r'⟩
      | ins c fs => exact .inr ⟨by simp [Ev.deref, e], .inl ⟨n, rfl⟩⟩
      | dct l => exact .inr ⟨by simp [Ev.deref, e], .inl ⟨n, rfl⟩⟩
  | frl l =>
    obtain ⟨a, vs, rfl, h1, h2⟩ := r
    exact .inl ⟨l, rfl, a, vs, rfl, h1.sq, h2⟩
  | _ => exact .inr ⟨rfl, .inr fun n z => by cases z⟩

/-! ### what is wanted behind -/
def Post {α β : Type} (Rl : Hp → (Addr → Prop) → List Addr → α → β → Prop) (K : PySem.W.Frag) (r : R α) (H : Hp) (M : Addr → Prop) (μ : List Addr) (Q : β → Hp → Prop) : Prop :=
  match r with
  | .ok a S' => ∀ b H' M' μ', Ext H M μ H' M' μ' → SOk K H' M' μ' S' → Rl H' M' μ' a b → Q b H'
  | .err _ _ _ => False
  | .no => False
section
variable {α β γ δ : Type} {Rl : Hp → (Addr → Prop) → List Addr → α → β → Prop} {R2 : Hp → (Addr → Prop) → List Addr → γ → δ → Prop} {r : R α} {Q : β → Hp → Prop} {Q2 : δ → Hp → Prop} {k : α → Ev.Sto → R γ}
theorem Post.ext (h : Post Rl K r H M μ Q) (x : Ext H M μ H1 M1 μ1) : Post Rl K r H1 M1 μ1 Q := by
  cases r with
  | ok a S' => exact fun b H' M' μ' y s q => h b H' M' μ' (x.trans y) s q
  | err _ _ _ => exact h
  | no => exact h
theorem Post.seq (h : Post R2 K (r.bind k) H M μ Q2) (hk : ∀ a S1 b H1 M1 μ1, r = .ok a S1 → Ext H M μ H1 M1 μ1 → SOk K H1 M1 μ1 S1 → Rl H1 M1 μ1 a b → Post R2 K (k a S1) H1 M1 μ1 Q2 → Q b H1) : Post Rl K r H M μ Q := by
  cases r with
  | ok a S' => exact fun b H' M' μ' y s q => hk a S' b H' M' μ' rfl y s q (Post.ext (r := k a S') h y)
  | err _ _ _ => exact h
  | no => exact h
theorem Post.fin {a : α} {S' : Ev.Sto} {b : β} (h : Post Rl K (.ok a S') H M μ Q) (s : SOk K H M μ S') (q : Rl H M μ a b) : Q b H := h b H M μ .refl s q
theorem Post.of {o : Option α} {S' : Ev.Sto} (h : Post R2 K ((R.of o S').bind k) H M μ Q2) : ∃ a, o = some a ∧ Post R2 K (k a S') H M μ Q2 := by
  cases o with
  | none => exact False.elim h
  | some a => exact ⟨a, rfl, h⟩
theorem Post.ofL {o : Option α} {S' : Ev.Sto} (h : Post Rl K (R.of o S') H M μ Q) : ∃ a, o = some a ∧ Post Rl K (.ok a S') H M μ Q := by
  cases o with
  | none => exact False.elim h
  | some a => exact ⟨a, rfl, h⟩
end
abbrev RV (K : PySem.W.Frag) : Hp → (Addr → Prop) → List Addr → D → V → Prop := Rep K
abbrev RL (K : PySem.W.Frag) : Hp → (Addr → Prop) → List Addr → List D → List V → Prop := RepL K
abbrev RB : Hp → (Addr → Prop) → List Addr → Bool → Bool → Prop := fun _ _ _ a b => a = b
abbrev RO : Hp → (Addr → Prop) → List Addr → Option Int → Option Int → Prop := fun _ _ _ a b => a = b

/-- the slots -/
def Slt (K : PySem.W.Frag) (H : Hp) (M : Addr → Prop) (μ : List Addr) (σd : Sl) (σ : L2.St) : Prop :=
  σd.length = σ.length ∧ ∀ (i : Nat) (d : D), σd[i]? = some (some d) → ∃ v, σ[i]? = some (some v) ∧ Rep K H M μ d v
theorem Slt.of {σd : Sl} {σ : L2.St} (h : SOk K H M μ S) (x : Ext H M μ H1 M1 μ1) (r : Slt K H M μ σd σ) : Slt K H1 M1 μ1 σd σ :=
  ⟨r.1, fun i d e => let ⟨v, e1, e2⟩ := r.2 i d e; ⟨v, e1, e2.of h x⟩⟩
theorem Slt.set {σd : Sl} {σ : L2.St} {d : D} {v : V} (r : Slt K H M μ σd σ) (h : Rep K H M μ d v) (i : Nat) : Slt K H M μ (σd.set i (some d)) (σ.set i (some v)) := by
  refine ⟨by simp [r.1], fun j d' e => ?_⟩
  by_cases hj : j = i
  · subst hj
    have hl : j < σd.length := by have := (List.getElem?_eq_some_iff.mp e).1; simpa using this
    rw [List.getElem?_set_self hl] at e
    cases e
    exact ⟨v, by rw [List.getElem?_set_self (by rw [← r.1]; exact hl)], h⟩
  · rw [List.getElem?_set_ne (Ne.symm hj)] at e
    obtain ⟨u, e1, e2⟩ := r.2 j d' e
    exact ⟨u, by rw [List.getElem?_set_ne (Ne.symm hj)]; exact e1, e2⟩
theorem Slt.wip {σd : Sl} {σ : L2.St} (r : Slt K H M μ σd σ) : ∀ l : List Nat, Slt K H M μ (wip σd l) (wipe σ l)
  | [] => r
  | i :: l => by
    have ih := Slt.wip r l
    refine ⟨by simp [Ev.wip, wipe, ih.1], fun j d' e => ?_⟩
    unfold Ev.wip at e
    unfold wipe
    by_cases hj : j = i
    · subst hj
      have hl : j < (Ev.wip σd l).length := by have := (List.getElem?_eq_some_iff.mp e).1; simpa using this
      rw [List.getElem?_set_self hl] at e
      cases e
    · rw [List.getElem?_set_ne (Ne.symm hj)] at e
      obtain ⟨u, e1, e2⟩ := ih.2 j d' e
      exact ⟨u, by rw [List.getElem?_set_ne (Ne.symm hj)]; exact e1, e2⟩

/-- the reading of an expression that the evaluator takes to f -/
def tX {α β : Type} (Rl : Hp → (Addr → Prop) → List Addr → α → β → Prop) (K : PySem.W.Frag) (f : Sl → Ev.Sto → R α) : L2.St → Hp → (β → Hp → Prop) → Prop :=
  fun σ H Q => ∃ σd S M μ, SOk K H M μ S ∧ Slt K H M μ σd σ ∧ Post Rl K (f σd S) H M μ Q
abbrev tE (K : PySem.W.Frag) (f : Sl → Ev.Sto → R D) : TE := tX (RV K) K f
abbrev tA (K : PySem.W.Frag) (f : Sl → Ev.Sto → R (List D)) : TA := tX (RL K) K f
abbrev tT (K : PySem.W.Frag) (f : Sl → Ev.Sto → R Bool) : TT := tX RB K f
end
end Ev

/-! The evaluator's operations by values, over the hand layer's rules. -/
namespace Ev
open PySem PySem.Spec PyProof.Rows L2

theorem line_eq : Ev.line = sizeLine := by rw [sizeLine_eq]; rfl
/-- where one stands: calm, with room -/
structure Cok (X : Cx) : Prop where
  calm : X.calm = true
  un : X.A.units + 150 < cLine
  nd : X.N.Nodup
  gd : X.A.guards = some []
theorem PE.imp {X : Cx} {e : Expr} {t t' : TE} (h : PE X e t) (i : ∀ σ H Q, t' σ H Q → t σ H Q) : PE X e t' := ⟨fun pins s σ H Q I q => h.run pins s σ H Q I (i σ H Q q)⟩
theorem PT.imp {X : Cx} {e : Expr} {t t' : TT} (h : PT X e t) (i : ∀ σ H Q, t' σ H Q → t σ H Q) : PT X e t' := ⟨fun pins s σ H Q I q => h.run pins s σ H Q I (i σ H Q q)⟩
theorem PW.imp {X : Cx} {e : Expr} {t t' : TT} (h : PW X e t) (i : ∀ σ H Q, t' σ H Q → t σ H Q) : PW X e t' := ⟨fun w pins s σ H Q I q => h.run w pins s σ H Q I (i σ H Q q)⟩
theorem PA.imp {X : Cx} {e : List Expr} {t t' : TA} (h : PA X e t) (i : ∀ σ H Q, t' σ H Q → t σ H Q) : PA X e t' := ⟨fun pos pins s σ H Q I q => h.run pos pins s σ H Q I (i σ H Q q)⟩
theorem PS.imp {X : Cx} {e : Stmt} {t t' : TS} (h : PS X e t) (i : ∀ D σ H, t' D σ H → t D σ H) : PS X e t' := ⟨fun pins s σ H D I q => h.run pins s σ H D I (i D σ H q)⟩
theorem PSs.imp {X : Cx} {e : List Stmt} {t t' : TS} (h : PSs X e t) (i : ∀ D σ H, t' D σ H → t D σ H) : PSs X e t' := ⟨fun pins s σ H D I q => h.run pins s σ H D I (i D σ H q)⟩
theorem PI.imp {X : Cx} {tg e : Expr} {t t' : TI} (h : PI X tg e t) (i : ∀ σ H R, t' σ H R → t σ H R) : PI X tg e t' := ⟨fun pins s σ H R I q => h.run pins s σ H R I (i σ H R q)⟩

section
variable {K : PySem.W.Frag} {H H1 : Hp} {M M1 : Addr → Prop} {μ μ1 : List Addr} {S S1 : Ev.Sto} {d : D} {v : V}
theorem der_int {i : Int} (e : deref S d = .int i) : d = .int i := by
  cases d <;> first | exact e | (simp only [deref] at e; split at e <;> cases e)
theorem der_non (e : deref S d = .non) : d = .non := by
  cases d <;> first | exact e | (simp only [deref] at e; split at e <;> cases e)
theorem der_bl {i : Bool} (e : deref S d = .bl i) : d = .bl i := by
  cases d <;> first | exact e | (simp only [deref] at e; split at e <;> cases e)
theorem der_str {i : Str} (e : deref S d = .str i) : d = .str i := by
  cases d <;> first | exact e | (simp only [deref] at e; split at e <;> cases e)
theorem der_tup {l : List D} (e : deref S d = .tup l) : d = .tup l := by
  cases d <;> first | exact e | (simp only [deref] at e; split at e <;> cases e)
theorem der_emp (e : deref S d = .emp) : d = .emp := by
  cases d <;> first | exact e | (simp only [deref] at e; split at e <;> cases e)
theorem repF {l : List D} (h : SOk K H M μ S) (r : Rep K H M μ d v) (e : deref S d = .frl l) : ∃ a vs, v = .ref a ∧ SqL K H a vs ∧ RepL K H M μ l vs := by
  rcases Rep.deref h r with ⟨l', e', q⟩ | ⟨e', q⟩
  · rw [e] at e'; cases e'; exact q
  · rw [e] at e'
    subst e'
    obtain ⟨a, vs, h1, h2, h3⟩ := r
    exact ⟨a, vs, h1, h2.sq, h3⟩
/-- read as one thing: data, or a changing list as it stands -/
theorem rep_dp (h : SOk K H M μ S) (r : Rep K H M μ d v) (s : (deref S d).sh 60 = true) : Dp K H v (deref S d).py := by
  rcases Rep.deref h r with ⟨l, e, a, vs, rfl, h1, h2⟩ | ⟨e, _⟩
  · rw [e] at s ⊢
    exact .lst h1 (RepL.dp (n := 59) (by simpa [D.sh] using s) h2)
  · rw [e] at s ⊢
    exact Rep.dp s r
theorem rep_seq {l : List D} (h : SOk K H M μ S) (r : Rep K H M μ d v) (e : seqD S d = some l) : ∃ a vs, v = .ref a ∧ RepL K H M μ l vs ∧ ((deref S d = .frl l ∧ SqL K H a vs) ∨ (deref S d = .tup l ∧ SqT K H a vs)) := by
  unfold seqD at e
  split at e
  · rename_i l' e'
    cases e
    have z := der_tup e'
    subst z
    obtain ⟨a, vs, h1, h2, h3⟩ := r
    exact ⟨a, vs, h1, h3, .inr ⟨e', h2⟩⟩
  · rename_i l' e'
    cases e
    obtain ⟨a, vs, h1, h2, h3⟩ := repF h r e'
    exact ⟨a, vs, h1, h3, .inl ⟨e', h2⟩⟩
  · cases e
theorem Post.tup {l : List D} {vs : List V} {Q : VK} (h : Post (RV K) K (.ok (.tup l) S) H M μ Q) (hS : SOk K H M μ S) (r : RepL K H M μ l vs) : ∀ p, H p = none → Q (.ref p) (upd H p (.tup vs)) := fun p hp =>
  h (.ref p) _ M μ (.laid hS.sub hS.mt hp) (hS.laid hp) ⟨p, vs, rfl, SqT.of upd_same, RepL.of hS (.laid hS.sub hS.mt hp) r⟩
theorem FrL.new (hS : SOk K H M μ S) {p : Addr} {vs : List V} (hp : H p = none) : FrL K (upd H p (.lst vs)) M p vs := .inl ⟨.inl upd_same, notMn hS.mt hp⟩
theorem Post.frl {l : List D} {vs : List V} {Q : VK} (h : Post (RV K) K (.ok (.frl l) S) H M μ Q) (hS : SOk K H M μ S) (r : RepL K H M μ l vs) : ∀ p, H p = none → Q (.ref p) (upd H p (.lst vs)) := fun p hp =>
  h (.ref p) _ M μ (.laid hS.sub hS.mt hp) (hS.laid hp) ⟨p, vs, rfl, FrL.new hS hp, RepL.of hS (.laid hS.sub hS.mt hp) r⟩
/-- a list just laid, not yet named -/
abbrev RF (K : PySem.W.Frag) : Hp → (Addr → Prop) → List Addr → List D → V → Prop := fun H M μ l v => ∃ a vs, v = .ref a ∧ H a = some (.lst vs) ∧ ¬ M a ∧ RepL K H M μ l vs
theorem Post.fresh {l : List D} {vs : List V} {Q : VK} (h : Post (RF K) K (.ok l S) H M μ Q) (hS : SOk K H M μ S) (r : RepL K H M μ l vs) : ∀ p, H p = none → Q (.ref p) (upd H p (.lst vs)) := fun p hp =>
  h (.ref p) _ M μ (.laid hS.sub hS.mt hp) (hS.laid hp) ⟨p, vs, rfl, upd_same, notMn hS.mt hp, RepL.of hS (.laid hS.sub hS.mt hp) r⟩
end

/-! ### two values -/
def rD2 (K : PySem.W.Frag) (op : Ev.Sto → D → D → Option D) : R2 := fun v w H Q => ∃ S M μ x y, SOk K H M μ S ∧ Rep K H M μ x v ∧ Rep K H M μ y w ∧ Post (RV K) K (R.of (op S x y) S) H M μ Q
section
variable {X : Cx} {a b c : Expr} {ta tb : TE} {pos : Pos}
theorem tE_op2 {K : PySem.W.Frag} {f g : Sl → Ev.Sto → R D} {op : Ev.Sto → D → D → Option D} {σ : L2.St} {H : Hp} {Q : VK} (h : tE K (fun σ S => (f σ S).bind fun x S1 => (g σ S1).bind fun y S2 => R.of (op S2 x y) S2) σ H Q) :
    tOp (rD2 K op) (tE K f) (tE K g) σ H Q := by
  obtain ⟨σd, S, M, μ, hS, hσ, hp⟩ := h
  refine ⟨σd, S, M, μ, hS, hσ, hp.seq fun x S1 v H1 M1 μ1 e1 x1 s1 r1 hp => ?_⟩
  refine ⟨σd, S1, M1, μ1, s1, hσ.of hS x1, hp.seq fun y S2 w H2 M2 μ2 e2 x2 s2 r2 hp => ?_⟩
  exact ⟨S2, M2, μ2, x, y, s2, r1.of s1 x2, r2, hp⟩
def bopO : Bop → Operator
  | .add => .Add
  | .sub => .Sub
  | .mul => .Mult
  | .fdiv => .FloorDiv
  | .mod => .Mod
  | .pow => .Pow
theorem mulOk_fit {i j : Int} (h : mulOk i j = true) : IntMulOk i j := by
  unfold mulOk at h
  rw [Bool.or_eq_true, Bool.or_eq_true] at h
  rcases h with (h | h) | h
  · have := of_decide_eq_true h
    exact CMul.ok (.inl ⟨by omega, by omega⟩)
  · have := of_decide_eq_true h
    exact CMul.ok (.inr ⟨by omega, by omega⟩)
  · exact CMulW.ok (show i.natAbs.log2 + j.natAbs.log2 < 1000000 from of_decide_eq_true h)
theorem op_mulA : OpR X (binaryOp .Mult) (rI (fun i j => mulOk i j = true) fun i j => .int (i * j)) := opI fun _ _ _ _ _ _ _ hc q => mul_int q (mulOk_fit hc)
theorem op_powA : OpR X (binaryOp .Pow) (rI (fun i j => 0 ≤ j ∧ ((i.natAbs.log2 + 1 : Nat) : Int) * j ≤ 2 ^ 27) fun i j => .int (i ^ j.toNat)) := opI fun i j _ _ _ _ _ hc q => by
  refine pow_int hc.1 ?_ q
  have b : (Builtin.Int.intBits i : Int) ≤ ((i.natAbs.log2 + 1 : Nat) : Int) := by
    unfold Builtin.Int.intBits
    split <;> omega
  exact Int.le_trans (Int.mul_le_mul_of_nonneg_right b hc.1) hc.2
theorem opInt (o : Bop) : OpR X (binaryOp (bopO o)) (fun x y H Q => ∃ i j k, x = .int i ∧ y = .int j ∧ intB o i j = some k ∧ Q (.int k) H) := by
  intro pins s σ H x y v u Q I rx ry h
  obtain ⟨i, j, k, rfl, rfl, e, q⟩ := h
  cases o with
  | add => cases e; exact op_add pins s σ H _ _ v u Q I rx ry ⟨i, j, rfl, rfl, q⟩
  | sub => cases e; exact op_sub pins s σ H _ _ v u Q I rx ry ⟨i, j, rfl, rfl, q⟩
  | mul =>
    simp only [intB] at e
    split at e
    · rename_i hc
      cases e; exact op_mulA pins s σ H _ _ v u Q I rx ry ⟨i, j, rfl, rfl, hc, q⟩
    · cases e
  | fdiv =>
    simp only [intB] at e
    split at e
    · rename_i hc
      cases e; exact op_fdivW pins s σ H _ _ v u Q I rx ry ⟨i, j, rfl, rfl, hc, q⟩
    · cases e
  | mod =>
    simp only [intB] at e
    split at e
    · rename_i hc
      cases e; exact op_mod pins s σ H _ _ v u Q I rx ry ⟨i, j, rfl, rfl, hc, q⟩
    · cases e
  | pow =>
    simp only [intB] at e
    split at e
    · rename_i hc
      have hc' : ((i.natAbs.log2 + 1 : Nat) : Int) * j ≤ 2 ^ 27 := by
        obtain ⟨h0, h1⟩ := hc
        have ej : j = (j.toNat : Int) := by omega
        rw [ej]
        exact_mod_cast h1
      cases e; exact op_powA pins s σ H _ _ v u Q I rx ry ⟨i, j, rfl, rfl, ⟨hc.1, hc'⟩, q⟩
    · cases e
theorem op_catF : OpR X (binaryOp .Add) (fun x y H Q => ∃ l b xs zs, x = .ref l ∧ y = .ref b ∧ SqL X.K H l xs ∧ SqL X.K H b zs ∧ xs.length + zs.length ≤ sizeLine ∧ ∀ p, H p = none → Q (.ref p) (upd H p (.lst (xs ++ zs)))) := by
  intro pins s σ H x y v u Q I rx ry h
  obtain ⟨l, b, xs, zs, rfl, rfl, hl, hb, hz, q⟩ := h
  cases rx
  cases ry
  obtain ⟨its, r1, ⟨⟨c1, d1, o1, s1⟩, n1, ho1, hc1, hn1, hd1⟩, _⟩ := I.list hl
  obtain ⟨its2, r2, ⟨⟨c2, d2, o2, s2⟩, n2, ho2, hc2, hn2, hd2⟩, _⟩ := I.list hb
  have l1 := r1.length
  have l2 := r2.length
  simp only at hc1 hn1 hd1 hc2 hn2 hd2
  subst hc1 hn1 hd1 hc2 hn2 hd2
  refine concat_meets ⟨_, ho1, rfl⟩ ⟨_, ho2, rfl⟩ noFill_list_add seq_list_add PySem.F.slot_list_add PySem.F.entry_list_add (PySem.F.args_list_add_2 _ _)
    (list_addW l b its.toArray its2.toArray n1 n2 none none s1 s2 (by rw [List.size_toArray, List.size_toArray]; omega)) ⟨ho1, ho2, ?_⟩
  rw [show its.toArray ++ its2.toArray = (its ++ its2).toArray by simp]
  exact ⟨.ref _, _, I.lnew (t' := s.toks) (r1.append r2) (by rw [List.length_append]; omega), rfl, q _ I.fresh⟩
theorem rep_flat {K : PySem.W.Frag} {H : Hp} {M : Addr → Prop} {μ : List Addr} {l : List D} {vs : List V} (r : RepL K H M μ l vs) : ∀ k : Nat, RepL K H M μ (List.replicate k l).flatten (List.replicate k vs).flatten
  | 0 => rfl
  | k + 1 => by
    rw [List.replicate_succ, List.replicate_succ, List.flatten_cons, List.flatten_cons]
    exact r.app (rep_flat r k)
theorem binR (o : Bop) : OpR X (binaryOp (bopO o)) (rD2 X.K fun S x y => binD S o x y) := by
  intro pins s σ H x y v u Q I rx ry h
  obtain ⟨S, M, μ, d, e, hS, r1, r2, hp0⟩ := h
  obtain ⟨z, hz, hp⟩ := hp0.ofL
  clear hp0
  simp only [binD] at hz
  split at hz
  · rename_i i j e1 e2
    have z1 := der_int e1
    have z2 := der_int e2
    subst z1 z2
    cases hk : intB o i j with
    | none => rw [hk] at hz; cases hz
    | some k =>
      rw [hk] at hz
      cases hz
      exact opInt o pins s σ H x y v u Q I rx ry ⟨i, j, k, r1, r2, hk, hp.fin hS rfl⟩
  · rename_i l m e1 e2
    have z1 := der_tup e1
    have z2 := der_tup e2
    subst z1 z2
    split at hz
    · rename_i hc
      cases hz
      obtain ⟨rfl, hc⟩ := hc
      obtain ⟨a, vs, rfl, h1, h2⟩ := r1
      obtain ⟨b, ws, rfl, h3, h4⟩ := r2
      refine op_catA pins s σ H _ _ v u Q I rx ry ⟨a, b, vs, ws, rfl, rfl, h1, h3, by rw [← h2.len, ← h4.len, ← line_eq]; exact hc, fun e => ?_, fun e e' => ?_, fun e e' => ?_⟩
      · have : l = [] := by cases l with | nil => rfl | cons _ _ => have := h2.len; rw [e] at this; simp at this
        subst this
        exact hp.fin hS ⟨b, ws, rfl, h3, h4⟩
      · have : m = [] := by cases m with | nil => rfl | cons _ _ => have := h4.len; rw [e'] at this; simp at this
        subst this
        refine hp.fin hS ⟨a, vs, rfl, h1, by simpa using h2⟩
      · exact hp.tup hS (h2.app h4)
    · cases hz
  · rename_i l m e1 e2
    split at hz
    · rename_i hc
      cases hz
      obtain ⟨rfl, hc⟩ := hc
      obtain ⟨a, vs, rfl, h1, h2⟩ := repF hS r1 e1
      obtain ⟨b, ws, rfl, h3, h4⟩ := repF hS r2 e2
      exact op_catF pins s σ H _ _ v u Q I rx ry ⟨a, b, vs, ws, rfl, rfl, h1, h3, by rw [← h2.len, ← h4.len, ← line_eq]; exact hc, hp.frl hS (h2.app h4)⟩
    · cases hz
  · rename_i l m e1 e2
    have z1 := der_str e1
    have z2 := der_str e2
    subst z1 z2
    split at hz
    · rename_i hc
      cases hz
      obtain ⟨rfl, hc⟩ := hc
      exact op_add_str pins s σ H x y v u Q I rx ry ⟨l, m, r1, r2, by rw [← line_eq]; exact hc, hp.fin hS rfl⟩
    · cases hz
  · rename_i l k e1 e2
    have z1 := der_tup e1
    have z2 := der_int e2
    subst z1 z2
    split at hz
    · rename_i hc
      obtain ⟨rfl, h1, h2, h3, h4⟩ := hc
      cases hz
      obtain ⟨a, vs, rfl, g1, g2⟩ := r1
      cases (show y = .int k from r2)
      by_cases hk : k = 1
      · subst hk
        refine EvP.op_once pins s σ H _ _ v u Q I rx ry ⟨a, vs, rfl, rfl, g1, hp.fin hS ⟨a, vs, rfl, g1, ?_⟩⟩
        simpa using g2
      · refine op_repT pins s σ H _ _ v u Q I rx ry ⟨a, k, vs, rfl, rfl, g1, fun e => ?_, by omega, h2, by rw [← g2.len]; exact h3, hp.tup hS (rep_flat g2 k.toNat)⟩
        have := g2.len
        rw [e] at this
        rw [List.eq_nil_of_length_eq_zero this] at h4
        cases h4
    · cases hz
  · cases hz
end
end Ev

namespace Ev
open PySem PySem.Spec PyProof.Rows L2

section
variable {X : Cx} {a b c : Expr} {ta tb : TE} {pos : Pos}
def copO : Cop → CmpOp
  | .eq => .Eq
  | .ne => .NotEq
  | .lt => .Lt
  | .le => .LtE
  | .gt => .Gt
  | .ge => .GtE
  | .is_ => .Is
  | .isn => .IsNot
  | .in_ => .In
  | .nin => .NotIn
theorem rep_non {K : PySem.W.Frag} {H : Hp} {M : Addr → Prop} {μ : List Addr} {d : D} {v : V} (r : Rep K H M μ d v) : decide (v = .non) = decide (d = .non) := by
  cases d with
  | non => rw [show v = .non from r]; rfl
  | bl b => rw [show v = .bl b from r]; rfl
  | int b => rw [show v = .int b from r]; rfl
  | str b => rw [show v = .str b from r]; rfl
  | tup l => obtain ⟨a, vs, rfl, _⟩ := r; rfl
  | frl l => obtain ⟨a, vs, rfl, _⟩ := r; rfl
  | loc l => obtain ⟨a, rfl, _⟩ := r; rfl
  | emp => obtain ⟨a, rfl, _⟩ := r; rfl
theorem isR : OpR X (compareOp .Is) (rD2 X.K fun _ x y => (isD x y).map .bl) := by
  intro pins s σ H x y v u Q I rx ry h
  obtain ⟨S, M, μ, d, e, hS, r1, r2, hp0⟩ := h
  obtain ⟨z, hz, hp⟩ := hp0.ofL
  clear hp0
  simp only [isD] at hz
  split at hz
  · cases hz
    refine op_isN pins s σ H x y v u Q I rx ry ⟨r2, ?_⟩
    rw [rep_non r1]
    exact hp.fin hS rfl
  · cases hz
    exact op_isBl pins s σ H x y v u Q I rx ry ⟨_, _, r1, r2, hp.fin hS rfl⟩
  · cases hz
theorem isnR : OpR X (compareOp .IsNot) (rD2 X.K fun _ x y => ((isD x y).map (!·)).map .bl) := by
  intro pins s σ H x y v u Q I rx ry h
  obtain ⟨S, M, μ, d, e, hS, r1, r2, hp0⟩ := h
  obtain ⟨z, hz, hp⟩ := hp0.ofL
  clear hp0
  simp only [isD] at hz
  split at hz
  · cases hz
    refine op_notN pins s σ H x y v u Q I rx ry ⟨r2, ?_⟩
    rw [rep_non r1]
    exact hp.fin hS rfl
  · cases hz
    exact op_notBl pins s σ H x y v u Q I rx ry ⟨_, _, r1, r2, hp.fin hS rfl⟩
  · cases hz
theorem eqR (hu : X.A.units + 150 < cLine) : OpR X (compareOp .Eq) (rD2 X.K fun S x y => (eqD S x y).map .bl) := by
  intro pins s σ H x y v u Q I rx ry h
  obtain ⟨S, M, μ, d, e, hS, r1, r2, hp0⟩ := h
  obtain ⟨z, hz, hp⟩ := hp0.ofL
  clear hp0
  simp only [eqD] at hz
  split at hz
  · rename_i a b e1 e2
    have z1 := der_str e1
    have z2 := der_str e2
    subst z1 z2
    cases hz
    cases (show x = .str a from r1)
    cases (show y = .str b from r2)
    exact op_eq pins s σ H _ _ v u Q I rx ry ⟨rfl, by rw [dec_str]; exact hp.fin hS rfl⟩
  · split at hz
    · rename_i hc
      cases hz
      exact op_eqD (by omega) pins s σ H x y v u Q I rx ry ⟨_, _, rep_dp hS r1 hc.1, rep_dp hS r2 hc.2, sh_shaped hc.1, sh_shaped hc.2, hp.fin hS rfl⟩
    · cases hz
theorem neR (hu : X.A.units + 150 < cLine) : OpR X (compareOp .NotEq) (rD2 X.K fun S x y => ((eqD S x y).map (!·)).map .bl) := by
  intro pins s σ H x y v u Q I rx ry h
  obtain ⟨S, M, μ, d, e, hS, r1, r2, hp0⟩ := h
  obtain ⟨z, hz, hp⟩ := hp0.ofL
  clear hp0
  simp only [eqD] at hz
  split at hz
  · rename_i a b e1 e2
    have z1 := der_str e1
    have z2 := der_str e2
    subst z1 z2
    cases hz
    cases (show x = .str a from r1)
    cases (show y = .str b from r2)
    exact op_ne pins s σ H _ _ v u Q I rx ry ⟨rfl, by rw [dec_str]; exact hp.fin hS rfl⟩
  · split at hz
    · rename_i hc
      cases hz
      exact op_neD (by omega) pins s σ H x y v u Q I rx ry ⟨_, _, rep_dp hS r1 hc.1, rep_dp hS r2 hc.2, sh_shaped hc.1, sh_shaped hc.2, hp.fin hS rfl⟩
    · cases hz
theorem ltR (hu : X.A.units + 150 < cLine) : OpR X (compareOp .Lt) (rD2 X.K fun S x y => (ltD S x y).map .bl) := by
  intro pins s σ H x y v u Q I rx ry h
  obtain ⟨S, M, μ, d, e, hS, r1, r2, hp0⟩ := h
  obtain ⟨z, hz, hp⟩ := hp0.ofL
  clear hp0
  simp only [ltD] at hz
  split at hz
  · rename_i i j e1 e2
    have z1 := der_int e1
    have z2 := der_int e2
    subst z1 z2
    cases hz
    exact op_lt pins s σ H x y v u Q I rx ry ⟨i, j, r1, r2, hp.fin hS rfl⟩
  · rename_i i j e1 e2
    have z1 := der_str e1
    have z2 := der_str e2
    subst z1 z2
    cases hz
    exact op_lt_str pins s σ H x y v u Q I rx ry ⟨i, j, r1, r2, hp.fin hS rfl⟩
  · rename_i l m e1 e2
    have z1 := der_tup e1
    have z2 := der_tup e2
    subst z1 z2
    split at hz
    · rename_i hc
      cases hz
      have q1 : Dp X.K H x (.tuple (pyL l)) := Rep.dp (n := 61) (d := .tup l) (by simpa [D.sh] using hc.2.1) r1
      have q2 : Dp X.K H y (.tuple (pyL m)) := Rep.dp (n := 61) (d := .tup m) (by simpa [D.sh] using hc.2.2) r2
      obtain ⟨as, t1⟩ := Dp.reads I _ x v q1 rx
      obtain ⟨bs, t2⟩ := Dp.reads I _ y u q2 ry
      have dp : (PyData.tuple (pyL l)).depth ≤ 61 := by
        have := (shL_lay hc.2.1).2
        simp only [PyData.depth]; omega
      exact PySem.W.rcLt_alike _ _ X.A s v u as bs t1 t2 hc.1 (fun z => nomatch z) (by omega) X.prog X.w X.xe _ ⟨.bl _, H, I, rfl, hp.fin hS rfl⟩
    · cases hz
  · cases hz
theorem key_V {K : PySem.W.Frag} {H : Hp} {M : Addr → Prop} {μ : List Addr} {d : D} {v : V} {k : Key} (r : Rep K H M μ d v) (e : keyD d = some k) : v = kV k := by
  cases d <;> simp only [keyD] at e <;> first | (cases e; exact r) | cases e
theorem key_rel {K : PySem.W.Frag} {H : Hp} {M : Addr → Prop} {μ : List Addr} {d : D} {v : V} {u : Value} {k : Key} (r : Rep K H M μ d v) (e : keyD d = some k) (rx : RelV v u) : RelV (kV k) u := by
  rw [← key_V r e]; exact rx
theorem any_keys {l : List (Key × D)} {vs : List (Key × V)} {k : Key} (h : l.map (·.1) = vs.map (·.1)) : (valV vs k).isSome = l.any fun p => decide (p.1 = k) := by
  rw [← valV_any]
  have a : ∀ {β : Type} (l : List (Key × β)), (l.any fun p => decide (p.1 = k)) = (l.map (·.1)).any fun q => decide (q = k) := fun l => by
    induction l with
    | nil => rfl
    | cons x r ih => simp [ih]
  rw [a, a, h]
theorem lookup_keys {K : PySem.W.Frag} {H : Hp} {M : Addr → Prop} {μ : List Addr} {k : Key} : ∀ {l : List (Key × D)} {vs : List (Key × V)}, l.map (·.1) = vs.map (·.1) → RepL K H M μ (l.map (·.2)) (vs.map (·.2)) → ∀ d, lkD k l = some d → ∃ v, valV vs k = some v ∧ Rep K H M μ d v
  | [], _, _, _, d, e => by cases e
  | p :: r, [], h, _, d, e => by simp at h
  | (a, x) :: r, (b, y) :: q, h, hr, d, e => by
    simp only [List.map_cons, List.cons.injEq] at h
    obtain ⟨rfl, h⟩ := h
    obtain ⟨v, w, e1, r1, r2⟩ := hr
    obtain ⟨e0, e2⟩ := List.cons.inj (show y :: q.map (·.2) = v :: w from e1)
    subst e0
    unfold lkD at e
    by_cases hk : a = k
    · subst hk
      rw [if_pos rfl] at e
      cases e
      exact ⟨_, valV_pos rfl, r1⟩
    · rw [if_neg hk] at e
      rw [valV_neg hk]
      exact lookup_keys h (by rw [e2]; exact r2) d e
theorem inR (hu : X.A.units + 150 < cLine) : OpR X (compareOp .In) (rD2 X.K fun S x y => (inD S x y).map .bl) := by
  intro pins s σ H x y v u Q I rx ry h
  obtain ⟨S, M, μ, d, e, hS, r1, r2, hp0⟩ := h
  obtain ⟨z, hz, hp⟩ := hp0.ofL
  clear hp0
  simp only [inD] at hz
  have anyL : ∀ (l : List D) (p : PyData), ((pyL l).any fun z => PyData.eqv z p) = l.any fun z => PyData.eqv z.py p := fun l p => by
    induction l with
    | nil => rfl
    | cons a r ih => simp [pyL, ih]
  split at hz
  · rename_i l e1
    have z1 := der_tup e1
    subst z1
    split at hz
    · rename_i hc
      cases hz
      have q2 : Dp X.K H y (.tuple (pyL l)) := Rep.dp (n := 61) (d := .tup l) (by simpa [D.sh] using hc.2) r2
      obtain ⟨as, t1⟩ := Dp.reads I _ x v (rep_dp hS r1 hc.1) rx
      obtain ⟨bs, t2⟩ := Dp.reads I _ y u q2 ry
      have l1 := sh_lay hc.1
      have l2 := shL_lay hc.2
      exact SeqAt.in_tuple_reads t2 t1 l2.1 l1.1 (by omega) ⟨.bl _, H, I, rfl, by rw [anyL]; exact hp.fin hS rfl⟩
    · cases hz
  · rename_i l e1
    split at hz
    · rename_i hc
      cases hz
      have q2 : Dp X.K H y (.list (pyL l)) := by
        obtain ⟨a, vs, rfl, h1, h2⟩ := repF hS r2 e1
        exact .lst h1 (RepL.dp hc.2 h2)
      obtain ⟨as, t1⟩ := Dp.reads I _ x v (rep_dp hS r1 hc.1) rx
      obtain ⟨bs, t2⟩ := Dp.reads I _ y u q2 ry
      have l1 := sh_lay hc.1
      have l2 := shL_lay hc.2
      exact SeqAt.in_list_reads t2 t1 l2.1 l1.1 (by omega) ⟨.bl _, H, I, rfl, by rw [anyL]; exact hp.fin hS rfl⟩
    · cases hz
  · rename_i zz e1
    have z1 := der_str e1
    subst z1
    split at hz
    · rename_i yy e2
      have z2 := der_str e2
      subst z2
      split at hz
      · rename_i c ec
        cases hz
        have ey : yy = ⟨#[c]⟩ := by
          cases yy with
          | mk l => exact congrArg Str.mk (by rw [← Array.toArray_toList (xs := l), ec])
        exact op_in_sign pins s σ H x y v u Q I rx ry ⟨c, zz, by rw [← ey]; exact r1, r2, hp.fin hS rfl⟩
      · cases hz
    · cases hz
  · rename_i n e1
    split at hz
    · rename_i k l ek el
      cases hz
      obtain ⟨a, kvs, g1, g2, gk, gr⟩ := hS.atD el
      have dy : e = .loc n := by
        cases e <;> first | exact e1 | (simp only [deref] at e1; split at e1 <;> cases e1; try rfl) | cases e1
      subst dy
      obtain ⟨a', rfl, g1'⟩ := r2
      rw [g1] at g1'; cases g1'
      obtain ⟨rfl⟩ := (show u = .ref a from ry)
      exact d_in (by omega) I (DGet.k g2) (key_rel r1 ek rx) fun s3 I3 => ⟨.bl _, H, I3, rfl, by rw [any_keys gk]; exact hp.fin hS rfl⟩
    · cases hz
  · cases hz
theorem ninR (hu : X.A.units + 150 < cLine) : OpR X (compareOp .NotIn) (rD2 X.K fun S x y => ((inD S x y).map (!·)).map .bl) := by
  intro pins s σ H x y v u Q I rx ry h
  obtain ⟨S, M, μ, d, e, hS, r1, r2, hp0⟩ := h
  obtain ⟨z, hz, hp⟩ := hp0.ofL
  clear hp0
  simp only [inD] at hz
  have anyL : ∀ (l : List D) (p : PyData), ((pyL l).any fun z => PyData.eqv z p) = l.any fun z => PyData.eqv z.py p := fun l p => by
    induction l with
    | nil => rfl
    | cons a r ih => simp [pyL, ih]
  split at hz
  · rename_i l e1
    have z1 := der_tup e1
    subst z1
    split at hz
    · rename_i hc
      cases hz
      have q2 : Dp X.K H y (.tuple (pyL l)) := Rep.dp (n := 61) (d := .tup l) (by simpa [D.sh] using hc.2) r2
      obtain ⟨as, t1⟩ := Dp.reads I _ x v (rep_dp hS r1 hc.1) rx
      obtain ⟨bs, t2⟩ := Dp.reads I _ y u q2 ry
      have l1 := sh_lay hc.1
      have l2 := shL_lay hc.2
      exact SeqAt.notIn_tuple_reads t2 t1 l2.1 l1.1 (by omega) ⟨.bl _, H, I, rfl, by rw [anyL]; exact hp.fin hS rfl⟩
    · cases hz
  · rename_i l e1
    split at hz
    · rename_i hc
      cases hz
      have q2 : Dp X.K H y (.list (pyL l)) := by
        obtain ⟨a, vs, rfl, h1, h2⟩ := repF hS r2 e1
        exact .lst h1 (RepL.dp hc.2 h2)
      obtain ⟨as, t1⟩ := Dp.reads I _ x v (rep_dp hS r1 hc.1) rx
      obtain ⟨bs, t2⟩ := Dp.reads I _ y u q2 ry
      have l1 := sh_lay hc.1
      have l2 := shL_lay hc.2
      exact SeqAt.notIn_list_reads t2 t1 l2.1 l1.1 (by omega) ⟨.bl _, H, I, rfl, by rw [anyL]; exact hp.fin hS rfl⟩
    · cases hz
  · rename_i zz e1
    have z1 := der_str e1
    subst z1
    split at hz
    · rename_i yy e2
      have z2 := der_str e2
      subst z2
      split at hz
      · rename_i c ec
        cases hz
        have ey : yy = ⟨#[c]⟩ := by
          cases yy with
          | mk l => exact congrArg Str.mk (by rw [← Array.toArray_toList (xs := l), ec])
        refine op_notin_str pins s σ H x y v u Q I rx ry ⟨_, zz, r1, r2, ?_⟩
        rw [ey, StrLaws.found_one]
        exact hp.fin hS rfl
      · cases hz
    · cases hz
  · rename_i n e1
    split at hz
    · rename_i k l ek el
      cases hz
      obtain ⟨a, kvs, g1, g2, gk, gr⟩ := hS.atD el
      have dy : e = .loc n := by
        cases e <;> first | exact e1 | (simp only [deref] at e1; split at e1 <;> cases e1; try rfl) | cases e1
      subst dy
      obtain ⟨a', rfl, g1'⟩ := r2
      rw [g1] at g1'; cases g1'
      obtain ⟨rfl⟩ := (show u = .ref a from ry)
      exact d_notIn (by omega) I (DGet.k g2) (key_rel r1 ek rx) fun s3 I3 => ⟨.bl _, H, I3, rfl, by rw [any_keys gk]; exact hp.fin hS rfl⟩
    · cases hz
  · cases hz
theorem cmpR (hX : Cok X) (o : Cop) : OpR X (compareOp (copO o)) (rD2 X.K fun S x y => (cmpD S o x y).map .bl) := by
  have hu := hX.un
  cases o with
  | eq => exact eqR hu
  | ne => exact neR hu
  | lt => exact ltR hu
  | is_ => exact isR
  | isn => exact isnR
  | in_ => exact inR hu
  | nin => exact ninR hu
  | le =>
    intro pins s σ H x y v u Q I rx ry h
    obtain ⟨S, M, μ, d, e, hS, r1, r2, hp0⟩ := h
    obtain ⟨z, hz, hp⟩ := hp0.ofL
    clear hp0
    simp only [cmpD] at hz
    split at hz
    · cases hz; exact op_le pins s σ H x y v u Q I rx ry ⟨_, _, r1, r2, hp.fin hS rfl⟩
    · cases hz
  | gt =>
    intro pins s σ H x y v u Q I rx ry h
    obtain ⟨S, M, μ, d, e, hS, r1, r2, hp0⟩ := h
    obtain ⟨z, hz, hp⟩ := hp0.ofL
    clear hp0
    simp only [cmpD] at hz
    split at hz
    · cases hz; exact op_gt pins s σ H x y v u Q I rx ry ⟨_, _, r1, r2, hp.fin hS rfl⟩
    · cases hz
  | ge =>
    intro pins s σ H x y v u Q I rx ry h
    obtain ⟨S, M, μ, d, e, hS, r1, r2, hp0⟩ := h
    obtain ⟨z, hz, hp⟩ := hp0.ofL
    clear hp0
    simp only [cmpD] at hz
    split at hz
    · cases hz; exact op_ge pins s σ H x y v u Q I rx ry ⟨_, _, r1, r2, hp.fin hS rfl⟩
    · cases hz

/-! ### truth -/
theorem empty_of {l : List D} {vs : List V} (h : l.length = vs.length) : (!l.isEmpty) = !vs.isEmpty := by
  cases l <;> cases vs <;> first | rfl | simp at h
theorem truV {K : PySem.W.Frag} {H : Hp} {M : Addr → Prop} {μ : List Addr} {S : Ev.Sto} {d : D} {v : V} {k : Bool} (hS : SOk K H M μ S) (r : Rep K H M μ d v) (e : truD S d = some k) : TruV K v H k := by
  unfold truD at e
  split at e
  · rename_i e1; have z := der_non e1; subst z; cases e; rw [show v = .non from r]; exact rfl
  · rename_i e1; have z := der_bl e1; subst z; cases e; rw [show v = .bl _ from r]; exact rfl
  · rename_i e1; have z := der_int e1; subst z; cases e; rw [show v = .int _ from r]; exact rfl
  · rename_i e1; have z := der_str e1; subst z
    split at e
    · rename_i hl; cases e; rw [show v = .str _ from r]; exact ⟨by rw [← line_eq]; exact hl, rfl⟩
    · cases e
  · rename_i e1; have z := der_tup e1; subst z; cases e
    obtain ⟨a, vs, rfl, h1, h2⟩ := r
    exact .inr (.inl ⟨vs, h1, empty_of h2.len⟩)
  · rename_i e1; cases e
    obtain ⟨a, vs, rfl, h1, h2⟩ := repF hS r e1
    exact .inl ⟨vs, h1, empty_of h2.len⟩
  · cases e
  · cases e

/-! ### isinstance -/
def tyN : Ty → String
  | .int => "int"
  | .bool => "bool"
  | .tuple => "tuple"
  | .str => "str"
  | .list => "list"
theorem kit_tys (a b : Ty) : kitB (tyN a) (tyN b) = some (decide (a = b ∨ (a = .bool ∧ b = .int))) := by
  cases a <;> cases b <;> decide +kernel
theorem kit_non (b : Ty) : kitB "NoneType" (tyN b) = some false := by
  cases b <;> decide +kernel
theorem kit_dic (b : Ty) : kitB "dict" (tyN b) = some false := by
  cases b <;> decide +kernel
theorem SqT.ty {K : PySem.W.Frag} {H : Hp} {a : Addr} {vs : List V} (h : SqT K H a vs) : TyX K H (.ref a) (.type "tuple") := by
  rcases h with (h | ⟨o, h⟩) | ⟨o, its, n, h1, h2, _⟩
  · exact .base (.tup h)
  · exact .fTuple h
  · exact .kTuple h1 h2
theorem SqL.ty {K : PySem.W.Frag} {H : Hp} {a : Addr} {vs : List V} (h : SqL K H a vs) : TyX K H (.ref a) (.type "list") := by
  rcases h with (h | ⟨o, h⟩) | ⟨o, its, n, h1, h2, _⟩
  · exact .base (.lst h)
  · exact .base (.frz h)
  · exact .kList h1 h2
theorem isi_ok {K : PySem.W.Frag} {H : Hp} {M : Addr → Prop} {μ : List Addr} {S : Ev.Sto} {d : D} {v : V} {t : Ty} {k : Bool} {Q : VK} (hS : SOk K H M μ S) (r : Rep K H M μ d v) (e : tyD S t d = some k) (q : Q (.bl k) H) : rIsi K [v, .ty (tyN t)] H Q := by
  unfold tyD at e
  split at e
  · rename_i e1; have z := der_non e1; subst z; cases e; rw [show v = .non from r]
    exact ⟨_, _, _, _, false, rfl, .ty _, .base .non, kit_ty (kit_non t), q⟩
  · rename_i b e1; have z := der_bl e1; subst z; cases e; rw [show v = .bl _ from r]
    refine ⟨_, _, .type (tyN .bool), _, _, rfl, .ty _, .base (.bl b), kit_ty ((kit_tys .bool t).trans ?_), q⟩
    cases t <;> rfl
  · rename_i b e1; have z := der_int e1; subst z; cases e; rw [show v = .int _ from r]
    refine ⟨_, _, .type (tyN .int), _, _, rfl, .ty _, .base (.int b), kit_ty ((kit_tys .int t).trans ?_), q⟩
    cases t <;> rfl
  · rename_i b e1; have z := der_str e1; subst z; cases e; rw [show v = .str _ from r]
    refine ⟨_, _, .type (tyN .str), _, _, rfl, .ty _, .base (.str b), kit_ty ((kit_tys .str t).trans ?_), q⟩
    cases t <;> rfl
  · rename_i e1; have z := der_tup e1; subst z; cases e
    obtain ⟨a, vs, rfl, h1, h2⟩ := r
    refine ⟨_, _, .type (tyN .tuple), _, _, rfl, .ty _, SqT.ty h1, kit_ty ((kit_tys .tuple t).trans ?_), q⟩
    cases t <;> rfl
  · rename_i e1; cases e
    obtain ⟨a, vs, rfl, h1, h2⟩ := repF hS r e1
    refine ⟨_, _, .type (tyN .list), _, _, rfl, .ty _, SqL.ty h1, kit_ty ((kit_tys .list t).trans ?_), q⟩
    cases t <;> rfl
  · cases e
  · rename_i e1; have z := der_emp e1; subst z; cases e
    obtain ⟨a, rfl, h1, _⟩ := r
    exact ⟨_, _, _, _, false, rfl, .ty _, .base (.dK h1), kit_ty (kit_dic t), q⟩

/-! ### subscripts -/
theorem atI_rep {K : PySem.W.Frag} {H : Hp} {M : Addr → Prop} {μ : List Addr} {l : List D} {vs : List V} {i : Int} {d : D} (r : RepL K H M μ l vs) (e : atI l i = some d) : ∃ v, atI vs i = some v ∧ Rep K H M μ d v := by
  unfold atI at e ⊢
  rw [← r.len]
  cases hx : ixN l.length i with
  | none => rw [hx] at e; cases e
  | some j =>
    rw [hx] at e
    obtain ⟨v, e1, e2⟩ := r.get (i := j) e
    exact ⟨v, e1, e2⟩
theorem ix_dict (hu : X.A.units + 150 < cLine) : IxR X (fun x y H Q => ∃ a v, x = .ref a ∧ DGet H a y (some v) ∧ Q v H) := by
  intro value slice pins s σ H x y v u Q I rx ry h hs
  obtain ⟨a, w, rfl, g, q⟩ := h
  cases rx
  have hT := dict_typeIs I g
  unfold subscriptTail
  refine wpAny_bind ?_
  rw [getitemInPython_of_ne hT.not_modules]
  refine wpAny_bind (wpAny_specialOf hT PySem.F.slot_dict_getitem.lookup ?_)
  have fin : wpAny (model X.prog X.w) X.A (subscripted slice false (.ref a) u) (fun r s₃ => wpAny (model X.prog X.w) X.A (letTemporaryGo value (.ref a) r >>= fun _ => pure r) (EP X pins σ Q) X.xe s₃) X.xe s := by
    rw [hs]
    exact wpAny_operating (wpAny_mono (d_getItem (by omega) I g ry fun w' s3 I3 rw' => (⟨w, H, I3, rw', q⟩ : EP X pins σ Q w' s3)) (fun r s₃ h₃ => wpAny_bind (wpAny_letTemporaryGo (wpAny_pure h₃))) fun _ _ x => x)
  first
    | exact wpAny_pure (wpAny_bind fin)
    | exact wpAny_bind (wpAny_pure (wpAny_bind fin))
    | exact wpAny_bind fin
theorem idxR (hu : X.A.units + 150 < cLine) : IxR X (rD2 X.K fun S x y => idxD S x y) := by
  intro value slice pins s σ H x y v u Q I rx ry h hs
  obtain ⟨S, M, μ, d, e, hS, r1, r2, hp0⟩ := h
  obtain ⟨z, hz, hp⟩ := hp0.ofL
  clear hp0
  simp only [idxD] at hz
  split at hz
  · rename_i l i e1
    have z1 := der_tup e1
    subst z1
    obtain ⟨a, vs, rfl, h1, h2⟩ := r1
    obtain ⟨w, q1, q2⟩ := atI_rep h2 hz
    exact ix_tup value slice pins s σ H _ _ v u Q I rx ry ⟨a, vs, i, w, rfl, r2, h1, q1, hp.fin hS q2⟩ hs
  · rename_i l i e1
    obtain ⟨a, vs, rfl, h1, h2⟩ := repF hS r1 e1
    obtain ⟨w, q1, q2⟩ := atI_rep h2 hz
    exact ix_list value slice pins s σ H _ _ v u Q I rx ry ⟨a, vs, i, w, rfl, r2, h1, q1, hp.fin hS q2⟩ hs
  · rename_i zz i e1
    have z1 := der_str e1
    subst z1
    split at hz
    · rename_i hl
      cases hc : atI zz.cps.toList i with
      | none => rw [hc] at hz; cases hz
      | some c =>
        rw [hc] at hz
        cases hz
        exact ix_str value slice pins s σ H _ _ v u Q I rx ry ⟨zz, i, c, r1, r2, by rw [← line_eq]; exact hl, hc, hp.fin hS rfl⟩ hs
    · cases hz
  · rename_i n e1
    split at hz
    · rename_i w hg
      cases hz
      unfold dctGet at hg
      split at hg
      · rename_i n' k en ek
        cases en
        split at hg
        · rename_i l el
          have hg : lkD k l = some _ := Option.some.inj hg
          obtain ⟨a, kvs, g1, g2, gk, gr⟩ := hS.atD el
          have dy : d = .loc n := by
            cases d <;> first | exact e1 | (simp only [deref] at e1; split at e1 <;> cases e1; try rfl) | cases e1
          subst dy
          obtain ⟨a', rfl, g1'⟩ := r1
          rw [g1] at g1'; cases g1'
          obtain ⟨rfl⟩ := (show v = .ref a from rx)
          obtain ⟨wv, q1, q2⟩ := lookup_keys gk gr _ hg
          refine ix_dict hu value slice pins s σ H _ _ _ u Q I rx ry ⟨a, wv, rfl, ?_, hp.fin hS q2⟩ hs
          have z := DGet.k (H := H) (a := a) (k := k) g2
          rw [q1] at z
          rw [key_V r2 ek]
          exact z
        · cases hg
      · cases hg
    · cases hz
  · cases hz
theorem cut_rep {K : PySem.W.Frag} {H : Hp} {M : Addr → Prop} {μ : List Addr} {l : List D} {vs : List V} (r : RepL K H M μ l vs) (lo hi : Option Int) : RepL K H M μ (cutL l lo hi) (cutV vs lo hi) := by
  unfold cutL cutV
  rw [r.len]
  exact (r.drop _).take _
theorem cut_all {α : Type} (l : List α) (lo hi : Option Int) (h : HT.sIx l.length 0 lo = 0 ∧ HT.sIx l.length l.length hi = l.length) : (l.drop (HT.sIx l.length 0 lo)).take (HT.sIx l.length l.length hi - HT.sIx l.length 0 lo) = l := by
  rw [h.1, h.2]
  simp
def rSlD (K : PySem.W.Frag) : V → Option Int → Option Int → Hp → VK → Prop := fun v lo hi H Q => ∃ S M μ x, SOk K H M μ S ∧ Rep K H M μ x v ∧ Post (RV K) K (R.of (slcD S x lo hi) S) H M μ Q
theorem slcR : SlR X (rSlD X.K) := by
  intro pins s σ H x v vl vu lo hi sl Q I rx hs pl pu h
  obtain ⟨S, M, μ, d, hS, r1, hp0⟩ := h
  obtain ⟨z, hz, hp⟩ := hp0.ofL
  clear hp0
  simp only [slcD] at hz
  split at hz
  · rename_i zz e1
    have z1 := der_str e1
    subst z1
    split at hz
    · rename_i hl
      cases hz
      exact sl_str pins s σ H _ v vl vu lo hi sl Q I rx hs pl pu ⟨zz, r1, by rw [← line_eq]; exact hl, hp.fin hS rfl⟩
    · cases hz
  · rename_i l e1
    have z1 := der_tup e1
    subst z1
    cases hz
    obtain ⟨a, vs, rfl, h1, h2⟩ := r1
    refine sl_tupA pins s σ H _ v vl vu lo hi sl Q I rx hs pl pu ⟨a, vs, rfl, h1, fun hw => ?_, fun hw => hp.tup hS (cut_rep h2 lo hi)⟩
    have e : cutL l lo hi = l := by
      unfold cutL
      exact cut_all l lo hi (by rw [h2.len]; exact hw)
    rw [e] at hp
    exact hp.fin hS ⟨a, vs, rfl, h1, h2⟩
  · rename_i l e1
    cases hz
    obtain ⟨a, vs, rfl, h1, h2⟩ := repF hS r1 e1
    exact sl_list pins s σ H _ v vl vu lo hi sl Q I rx hs pl pu ⟨a, vs, rfl, h1, hp.frl hS (cut_rep h2 lo hi)⟩
  · cases hz
end
end Ev

namespace Ev
open PySem PySem.Spec PyProof.Rows L2

section
variable {K : PySem.W.Frag} {H : Hp} {M : Addr → Prop} {μ : List Addr}
theorem rep_ints : ∀ {l : List D} {ns : List Int} {vs : List V}, intsD l = some ns → RepL K H M μ l vs → vs = ns.map V.int
  | [], _, _, e, r => by cases e; exact r
  | .int i :: r, _, _, e, h => by
    obtain ⟨v, w, rfl, h1, h2⟩ := h
    cases hr : intsD r with
    | none => simp [intsD, hr] at e
    | some ms =>
      simp [intsD, hr] at e
      subst e
      rw [show v = .int i from h1, rep_ints hr h2]
      rfl
  | .non :: r, _, _, e, _ => by simp [intsD] at e
  | .bl _ :: r, _, _, e, _ => by simp [intsD] at e
  | .str _ :: r, _, _, e, _ => by simp [intsD] at e
  | .tup _ :: r, _, _, e, _ => by simp [intsD] at e
  | .frl _ :: r, _, _, e, _ => by simp [intsD] at e
  | .loc _ :: r, _, _, e, _ => by simp [intsD] at e
  | .emp :: r, _, _, e, _ => by simp [intsD] at e
theorem rep_bools : ∀ {l : List D} {ns : List Bool} {vs : List V}, boolsD l = some ns → RepL K H M μ l vs → vs = ns.map V.bl
  | [], _, _, e, r => by cases e; exact r
  | .bl i :: r, _, _, e, h => by
    obtain ⟨v, w, rfl, h1, h2⟩ := h
    cases hr : boolsD r with
    | none => simp [boolsD, hr] at e
    | some ms =>
      simp [boolsD, hr] at e
      subst e
      rw [show v = .bl i from h1, rep_bools hr h2]
      rfl
  | .non :: r, _, _, e, _ => by simp [boolsD] at e
  | .int _ :: r, _, _, e, _ => by simp [boolsD] at e
  | .str _ :: r, _, _, e, _ => by simp [boolsD] at e
  | .tup _ :: r, _, _, e, _ => by simp [boolsD] at e
  | .frl _ :: r, _, _, e, _ => by simp [boolsD] at e
  | .loc _ :: r, _, _, e, _ => by simp [boolsD] at e
  | .emp :: r, _, _, e, _ => by simp [boolsD] at e
theorem maxL_mem : ∀ (l : List Int) (x : Int), maxL x l ∈ x :: l ∧ ∀ y ∈ x :: l, y ≤ maxL x l
  | [], x => by simp [maxL]
  | b :: r, x => by
    have ih := maxL_mem r (if b > x then b else x)
    have e : maxL x (b :: r) = maxL (if b > x then b else x) r := rfl
    rw [e]
    obtain ⟨h1, h2⟩ := ih
    refine ⟨?_, fun y hy => ?_⟩
    · rcases List.mem_cons.mp h1 with h | h
      · rw [h]; split <;> simp
      · simp [h]
    · have hb := h2 _ (List.mem_cons_self)
      have hx : x ≤ (if b > x then b else x) := by split <;> omega
      have hbb : b ≤ (if b > x then b else x) := by split <;> omega
      simp only [List.mem_cons] at hy
      rcases hy with rfl | rfl | hy
      · exact Int.le_trans hx hb
      · exact Int.le_trans hbb hb
      · exact h2 y (List.mem_cons_of_mem _ hy)
theorem minL_mem : ∀ (l : List Int) (x : Int), minL x l ∈ x :: l ∧ ∀ y ∈ x :: l, minL x l ≤ y
  | [], x => by simp [minL]
  | b :: r, x => by
    have ih := minL_mem r (if b < x then b else x)
    have e : minL x (b :: r) = minL (if b < x then b else x) r := rfl
    rw [e]
    obtain ⟨h1, h2⟩ := ih
    refine ⟨?_, fun y hy => ?_⟩
    · rcases List.mem_cons.mp h1 with h | h
      · rw [h]; split <;> simp
      · simp [h]
    · have hb := h2 _ (List.mem_cons_self)
      have hx : (if b < x then b else x) ≤ x := by split <;> omega
      have hbb : (if b < x then b else x) ≤ b := by split <;> omega
      simp only [List.mem_cons] at hy
      rcases hy with rfl | rfl | hy
      · exact Int.le_trans hb hx
      · exact Int.le_trans hb hbb
      · exact h2 y (List.mem_cons_of_mem _ hy)
theorem rep_one {x : D} {vs : List V} (r : RepL K H M μ [x] vs) : ∃ v, vs = [v] ∧ Rep K H M μ x v := by
  obtain ⟨v, w, rfl, h1, h2⟩ := r
  rw [show w = [] from h2]
  exact ⟨v, rfl, h1⟩
theorem rep_two {x y : D} {vs : List V} (r : RepL K H M μ [x, y] vs) : ∃ v w, vs = [v, w] ∧ Rep K H M μ x v ∧ Rep K H M μ y w := by
  obtain ⟨v, w, rfl, h1, h2⟩ := r
  obtain ⟨u, rfl, h3⟩ := rep_one h2
  exact ⟨v, u, rfl, h1, h3⟩
end

/-! ### built-in functions and types, by values -/
def bltF : Blt → Value
  | .len => .builtin "len"
  | .tuple => .type "tuple"
  | .int => .type "int"
  | .abs => .builtin "abs"
  | .max => .builtin "max"
  | .min => .builtin "min"
  | .sum => .builtin "sum"
  | .all => .builtin "all"
  | .any => .builtin "any"
  | .repr => .builtin "repr"
  | .str => .type "str"
def rCl (K : PySem.W.Frag) (f : Ev.Sto → List D → Option D) : List V → Hp → VK → Prop := fun vs H Q => ∃ S M μ ds, SOk K H M μ S ∧ RepL K H M μ ds vs ∧ Post (RV K) K (R.of (f S ds) S) H M μ Q
section
variable {X : Cx}
mutual
theorem lay_nd : ∀ (p : PyData), p.canLay0 = true → p.hasDict = false
  | .none, _ => by simp [PyData.hasDict]
  | .bool _, _ => by simp [PyData.hasDict]
  | .int _, _ => by simp [PyData.hasDict]
  | .str _, _ => by simp [PyData.hasDict]
  | .list xs, h => by simp only [PyData.hasDict]; exact layL_nd xs (by simpa [PyData.canLay0] using h)
  | .tuple xs, h => by simp only [PyData.hasDict]; exact layL_nd xs (by simpa [PyData.canLay0] using h)
  | .dict _, h => by simp [PyData.canLay0] at h
theorem layL_nd : ∀ (p : List PyData), PyData.canLayAll0 p = true → PyData.hasDictAll p = false
  | [], _ => by simp [PyData.hasDictAll]
  | x :: xs, h => by
    simp only [PyData.canLayAll0, Bool.and_eq_true] at h
    simp only [PyData.hasDictAll, lay_nd x h.1, layL_nd xs h.2]
    rfl
end
theorem noDict {d : D} (h : d.sh 60 = true) : ¬ d.py.hasDict = true := by
  rw [lay_nd _ (sh_lay h).1]
  simp
theorem reprR (hX : Cok X) {pins : List (Addr × Obj)} {s : Shared} {σ : L2.St} {H : Hp} {x : V} {u : Value} {Q : VK} {S : Ev.Sto} {M : Addr → Prop} {μ : List Addr} {d : D} (I : Inv X pins σ H s) (rx : RelV x u) (hS : SOk X.K H M μ S) (r : Rep X.K H M μ d x)
    (h1 : (deref S d).sh 60 = true) (h2 : (deref S d).py.showable = true) (h3 : (deref S d).py.shown.length ≤ line) (q : Q (.str (deref S d).py.shown) H) :
    wpAny (model X.prog X.w) X.A (call (.builtin "repr") [u]) (EP X pins σ Q) X.xe s := by
  have hu := hX.un
  have hl := line_eq
  obtain ⟨as, t⟩ := Dp.reads I _ x u (rep_dp hS r h1) rx
  have hd := (sh_lay h1).2
  rcases Rep.deref hS r with ⟨l, e, a, vs, rfl, g1, g2⟩ | ⟨e, _⟩
  · cases rx
    refine repr_of_reads' t h2 (fun z => ?_) hX.gd (by omega) (fun _ _ z => z) (fun h' u tk kk => ⟨.str _, H, I.kept kk, ⟨_, rfl⟩, q⟩) (by omega)
    rw [e] at z
    exact absurd z (by rw [e] at h1; exact noDict h1)
  · rw [e] at h1 h2 h3 q t hd
    cases d with
    | non =>
      cases (show x = .non from r); cases rx
      exact PySem.P.repr_of_none ⟨.str _, H, I.tok _, ⟨_, rfl⟩, q⟩
    | bl b =>
      cases (show x = .bl b from r); cases rx
      exact PySem.P.repr_of_bool ⟨.str _, H, I.tok _, ⟨_, rfl⟩, q⟩
    | int i =>
      cases (show x = .int i from r); obtain ⟨t', rfl⟩ := rx
      exact PySem.P.repr_of_int (by simpa [D.py, PyData.showable] using h2) ⟨.str _, H, I.tok _, ⟨_, rfl⟩, q⟩
    | str i =>
      cases (show x = .str i from r); obtain ⟨t', rfl⟩ := rx
      exact PySem.P.repr_of_str ⟨.str _, H, I.tok _, ⟨_, rfl⟩, q⟩ (by rw [← line_eq]; exact h3)
    | tup l =>
      obtain ⟨a, vs, rfl, g1, g2⟩ := r
      cases rx
      exact repr_of_reads' t h2 (fun z => absurd z (noDict h1)) hX.gd (by omega) (fun _ _ z => z) (fun h' u tk kk => ⟨.str _, H, I.kept kk, ⟨_, rfl⟩, q⟩) (by omega)
    | frl l =>
      obtain ⟨a, vs, rfl, g1, g2⟩ := r
      cases rx
      exact repr_of_reads' t h2 (fun z => absurd z (noDict h1)) hX.gd (by omega) (fun _ _ z => z) (fun h' u tk kk => ⟨.str _, H, I.kept kk, ⟨_, rfl⟩, q⟩) (by omega)
    | loc n => simp [D.sh] at h1
    | emp => simp [D.sh] at h1
theorem bltR (hX : Cok X) (f : Blt) : CallR X (bltF f) (rCl X.K fun S ds => bltD S f ds) := by
  intro pins s σ H vs us Q I rs h
  obtain ⟨S, M, μ, ds, hS, r, hp0⟩ := h
  obtain ⟨z, hz, hp⟩ := hp0.ofL
  clear hp0
  have hcalm := hX.calm
  replace hz : bltD S f ds = some z := hz
  unfold bltD at hz
  split at hz
  · -- len
    obtain ⟨v, rfl, r1⟩ := rep_one r
    split at hz
    · rename_i l e1
      have z1 := der_tup e1; subst z1; cases hz
      obtain ⟨a, ws, rfl, h1, h2⟩ := r1
      refine call_len pins s σ H _ us Q I rs ⟨_, ws.length, rfl, .inr ⟨ws, h1, rfl⟩, ?_⟩
      rw [← h2.len]; exact hp.fin hS rfl
    · rename_i l e1
      cases hz
      obtain ⟨a, ws, rfl, h1, h2⟩ := repF hS r1 e1
      refine call_len pins s σ H _ us Q I rs ⟨_, ws.length, rfl, .inl ⟨ws, h1, rfl⟩, ?_⟩
      rw [← h2.len]; exact hp.fin hS rfl
    · rename_i l e1
      have z1 := der_str e1; subst z1
      split at hz
      · rename_i hc; cases hz
        cases (show v = .str l from r1)
        exact call_len pins s σ H _ us Q I rs ⟨_, l.length, rfl, ⟨by rw [← line_eq]; exact hc, rfl⟩, hp.fin hS rfl⟩
      · cases hz
    · cases hz
  · -- tuple
    obtain ⟨v, rfl, r1⟩ := rep_one r
    split at hz
    · rename_i l e1
      have z1 := der_tup e1; subst z1; cases hz
      have r1' := r1
      obtain ⟨a, ws, rfl, h1, h2⟩ := r1
      exact call_tuple_of pins s σ H _ us Q I rs ⟨a, ws, rfl, .inr ⟨h1, hp.fin hS r1'⟩⟩
    · rename_i l e1
      cases hz
      obtain ⟨a, ws, rfl, h1, h2⟩ := repF hS r1 e1
      exact call_tuple_of pins s σ H _ us Q I rs ⟨a, ws, rfl, .inl ⟨h1, hp.tup hS h2⟩⟩
    · cases hz
  · cases hz
    obtain ⟨v, rfl, r1⟩ := rep_one r
    cases (show v = .int _ from r1)
    exact call_int1 pins s σ H _ us Q I rs (.inl ⟨_, rfl, hp.fin hS rfl⟩)
  · split at hz
    · rename_i zz hl
      cases hc : PySem.intText? zz with
      | none => rw [hc] at hz; cases hz
      | some n =>
        rw [hc] at hz
        cases hz
        obtain ⟨v, rfl, r1⟩ := rep_one r
        cases (show v = .str _ from r1)
        exact call_int_str pins s σ H _ us Q I rs ⟨_, n, rfl, hc, hl, hp.fin hS rfl⟩
    · cases hz
  · cases hz
    obtain ⟨v, rfl, r1⟩ := rep_one r
    cases (show v = .bl _ from r1)
    exact call_int1 pins s σ H _ us Q I rs (.inr ⟨_, rfl, hp.fin hS rfl⟩)
  · cases hz
    obtain ⟨v, rfl, r1⟩ := rep_one r
    cases (show v = .int _ from r1)
    exact call_abs pins s σ H _ us Q I rs ⟨_, rfl, hp.fin hS rfl⟩
  · cases hz
    obtain ⟨v, w, rfl, r1, r2⟩ := rep_two r
    cases (show v = .int _ from r1)
    cases (show w = .int _ from r2)
    exact call_max2 hcalm pins s σ H _ us Q I rs ⟨_, _, rfl, hp.fin hS rfl⟩
  · cases hz
    obtain ⟨v, w, rfl, r1, r2⟩ := rep_two r
    cases (show v = .int _ from r1)
    cases (show w = .int _ from r2)
    exact call_min2 hcalm pins s σ H _ us Q I rs ⟨_, _, rfl, hp.fin hS rfl⟩
  · obtain ⟨v, rfl, r1⟩ := rep_one r
    split at hz
    · rename_i l e1
      obtain ⟨a, ws, rfl, h1, h2⟩ := repF hS r1 e1
      split at hz
      · rename_i i ns e2
        cases hz
        rw [rep_ints e2 h2] at h1
        obtain ⟨g1, g2⟩ := maxL_mem ns i
        refine cr_max hcalm pins s σ H _ us Q I rs ⟨a, i :: ns, rfl, h1, by simp, fun m hm hle => ?_⟩
        have : m = maxL i ns := Int.le_antisymm (g2 m hm) (hle _ g1)
        rw [this]; exact hp.fin hS rfl
      · cases hz
    · cases hz
  · obtain ⟨v, rfl, r1⟩ := rep_one r
    split at hz
    · rename_i l e1
      obtain ⟨a, ws, rfl, h1, h2⟩ := repF hS r1 e1
      split at hz
      · rename_i i ns e2
        cases hz
        rw [rep_ints e2 h2] at h1
        obtain ⟨g1, g2⟩ := minL_mem ns i
        refine cr_min hcalm pins s σ H _ us Q I rs ⟨a, i :: ns, rfl, h1, by simp, fun m hm hle => ?_⟩
        have : m = minL i ns := Int.le_antisymm (hle _ g1) (g2 m hm)
        rw [this]; exact hp.fin hS rfl
      · cases hz
    · cases hz
  · obtain ⟨v, rfl, r1⟩ := rep_one r
    split at hz
    · rename_i l e1
      obtain ⟨a, ws, rfl, h1, h2⟩ := repF hS r1 e1
      cases hi : intsD l with
      | none => rw [hi] at hz; cases hz
      | some ns =>
        rw [hi] at hz; cases hz
        rw [rep_ints hi h2] at h1
        exact cr_sum hcalm pins s σ H _ us Q I rs ⟨a, ns, rfl, h1, hp.fin hS rfl⟩
    · cases hz
  · obtain ⟨v, rfl, r1⟩ := rep_one r
    split at hz
    · rename_i l e1
      obtain ⟨a, ws, rfl, h1, h2⟩ := repF hS r1 e1
      cases hi : boolsD l with
      | none => rw [hi] at hz; cases hz
      | some ns =>
        rw [hi] at hz; cases hz
        rw [rep_bools hi h2] at h1
        exact cr_all hcalm pins s σ H _ us Q I rs ⟨a, ns, rfl, h1, hp.fin hS rfl⟩
    · cases hz
  · obtain ⟨v, rfl, r1⟩ := rep_one r
    split at hz
    · rename_i l e1
      obtain ⟨a, ws, rfl, h1, h2⟩ := repF hS r1 e1
      cases hi : boolsD l with
      | none => rw [hi] at hz; cases hz
      | some ns =>
        rw [hi] at hz; cases hz
        rw [rep_bools hi h2] at h1
        exact cr_any hcalm pins s σ H _ us Q I rs ⟨a, ns, rfl, h1, hp.fin hS rfl⟩
    · cases hz
  · obtain ⟨v, rfl, r1⟩ := rep_one r
    split at hz
    · rename_i hc
      cases hz
      obtain ⟨u, rfl, rx⟩ := vals1 rs
      exact reprR hX I rx hS r1 hc.1 hc.2.1 hc.2.2 (hp.fin hS rfl)
    · cases hz
  · obtain ⟨v, rfl, r1⟩ := rep_one r
    cases (show v = .int _ from r1)
    split at hz
    · rename_i hc
      cases hz
      exact call_str_int pins s σ H _ us Q I rs ⟨_, rfl, hc, hp.fin hS rfl⟩
    · cases hz
  · cases hz
end
end Ev

/-! From the model's syntax to core terms. -/
namespace Ev
open PySem L2

structure CC where
  N : List Str
  sc : Scope
  own : List Str
  glb : List Str
  chg : List Str
  ret : Bool
  inn : Bool
  chr : Bool := false
  cls : List Str := []
  gdt : List Str := []
def posOf : List Str → Str → Option Nat
  | [], _ => none
  | x :: r, y => if x = y then some 0 else (posOf r y).map (· + 1)
theorem posOf_get : ∀ {l : List Str} {x : Str} {i : Nat}, posOf l x = some i → l[i]? = some x
  | [], _, _, h => by simp [posOf] at h
  | y :: r, x, i, h => by
    unfold posOf at h
    split at h
    · cases h; rename_i e; rw [e]; rfl
    · cases e : posOf r x with
      | none => rw [e] at h; cases h
      | some j =>
        rw [e] at h; cases h
        simpa using posOf_get e
def isVis (sc : Scope) (x : Str) : Bool := decide (sc.names.lookup x = some .local) || decide (sc.names.lookup x = some .cell) || decide (sc.names.lookup x = some .free)
def isLoc (sc : Scope) (x : Str) : Bool := decide (sc.names.lookup x = some .local) || decide (sc.names.lookup x = some .cell)
def isGl (sc : Scope) (x : Str) : Bool := decide (sc.names.lookup x = some .globalImplicit)
def okName (x : Str) : Bool := !(x == ("__debug__" : Str)) && !(x == ("__classdict__" : Str)) && !(x == ("__name__" : Str))
def bopC : Operator → Option Bop
  | .Add => some .add
  | .Sub => some .sub
  | .Mult => some .mul
  | .FloorDiv => some .fdiv
  | .Mod => some .mod
  | .Pow => some .pow
  | _ => none
def bopA : Operator → Bool
  | .Add => true
  | .Sub => true
  | .Mult => true
  | _ => false
def copC : CmpOp → Cop
  | .Eq => .eq
  | .NotEq => .ne
  | .Lt => .lt
  | .LtE => .le
  | .Gt => .gt
  | .GtE => .ge
  | .Is => .is_
  | .IsNot => .isn
  | .In => .in_
  | .NotIn => .nin
def bltC (x : Str) (n : Nat) : Option Blt :=
  if x = "len" ∧ n = 1 then some .len
  else if x = "tuple" ∧ n = 1 then some .tuple
  else if x = "int" ∧ n = 1 then some .int
  else if x = "abs" ∧ n = 1 then some .abs
  else if x = "max" then some .max
  else if x = "min" then some .min
  else if x = "sum" ∧ n = 1 then some .sum
  else if x = "all" ∧ n = 1 then some .all
  else if x = "any" ∧ n = 1 then some .any
  else if x = "repr" ∧ n = 1 then some .repr
  else if x = "str" ∧ n = 1 then some .str
  else none
def tyC (x : Str) : Option Ty :=
  if x = "int" then some .int
  else if x = "bool" then some .bool
  else if x = "tuple" then some .tuple
  else if x = "str" then some .str
  else if x = "list" then some .list
  else none
def mthC (x : Str) : Option Mth :=
  if x = "append" then some .append
  else if x = "extend" then some .extend
  else if x = "pop" then some .pop
  else none
def isStar : Expr → Bool
  | .Starred .. => true
  | _ => false
def mapE (f : Expr → Option CE) : List Expr → Option CEs
  | [] => some .nil
  | e :: r => if isStar e = true then none else match f e with
    | none => none
    | some c => match mapE f r with
      | none => none
      | some cs => some (.cons c cs)
def mapA (f : Expr → Option CE) : List Expr → Option CAs
  | [] => some .nil
  | .Starred e _ :: r => match f e with
    | none => none
    | some c => match mapA f r with
      | none => none
      | some cs => some (.cons true c cs)
  | e :: r => match f e with
    | none => none
    | some c => match mapA f r with
      | none => none
      | some cs => some (.cons false c cs)
mutual
def cT (N : List Str) (ok : Str → Bool) : Nat → Expr → Option CT
  | 0, _ => none
  | _ + 1, .Name x _ => if ok x = true then (posOf N x).map .nm else none
  | n + 1, .Tuple es _ _ => (cTs N ok n es).map .tp
  | _, _ => none
def cTs (N : List Str) (ok : Str → Bool) : Nat → List Expr → Option CTs
  | 0, _ => none
  | _ + 1, [] => some .nil
  | n + 1, e :: r => if isStar e = true then none else match cT N ok n e with
    | none => none
    | some t => match cTs N ok n r with
      | none => none
      | some ts => some (.cons t ts)
end
def isTupE : Expr → Bool
  | .Tuple .. => true
  | _ => false
/-- a call of a built-in name -/
def bltCall (C : CC) (e : Expr) : Option (Str × List Expr) :=
  match e with
  | .Call (.Name x _) args [] _ => if isGl C.sc x = true ∧ ¬ x ∈ C.own ∧ okName x = true then some (x, args) else none
  | _ => none
def seqI (C : CC) (c : CE) : CI := if C.chr = true then .chars c else .seq c
def cI (f : Expr → Option CE) (C : CC) (tup : Bool) (e : Expr) : Option CI :=
  match bltCall C e with
  | some (x, args) =>
    if x = "range" then match mapE f args with
      | some (.cons a .nil) => some (.rng1 a)
      | some (.cons a (.cons b .nil)) => some (.rng2 a b)
      | _ => none
    else if x = "enumerate" then match mapE f args with
      | some (.cons a .nil) => if tup = true then some (.enum a) else none
      | _ => none
    else if x = "zip" then match mapE f args with
      | some (.cons a (.cons b .nil)) => if tup = true then some (.zip a b) else none
      | _ => none
    else if isSet e = true then none else (f e).map (seqI C)
  | none => if isSet e = true then none else (f e).map (seqI C)
where
  isSet : Expr → Bool
    | .Set .. => true
    | _ => false
def isRange (C : CC) (e : Expr) : Bool :=
  match bltCall C e with
  | some (x, _) => decide (x = "range")
  | none => false
def isRangeL (C : CC) : List Expr → Bool
  | [a] => isRange C a
  | _ => false
def ownOf (N : List Str) (scope : Scope) : List (Str × Nat) := scope.names.filterMap fun y => match y.2 with
  | .local => (posOf N y.1).map fun i => (y.1, i)
  | .cell => (posOf N y.1).map fun i => (y.1, i)
  | _ => none
/-- set(a), a itself -/
def setIn (C : CC) (e : Expr) : Option Expr :=
  match bltCall C e with
  | some (y, [a]) => if y = "set" ∧ isStar a = false then some a else none
  | _ => none
def cF (f : CC → Expr → Option CE) (C : CC) (e : Expr) : Option CF :=
  match e with
  | .List elts _ => (mapA (f C) elts).map .disp
  | .ListComp elt [⟨t, iter, ifs, a⟩] scope _ =>
    if a = 0 ∧ blkC C.N C.sc scope (ownOf C.N scope) = true then
      match cT C.N (fun x => isLoc scope x) 8 t, cI (f C) C (isTupE t) iter, mapE (f { C with sc := relS scope C.sc, chg := [], ret := false }) ifs, f { C with sc := relS scope C.sc, chg := [], ret := false } elt with
      | some t', some i', some q, some c => if ifs.length ≤ 1 then some (.comp c t' i' q ((ownOf C.N scope).map (·.2))) else none
      | _, _, _, _ => none
    else none
  | _ => match bltCall C e with
    | some (x, [a]) =>
      if isStar a = true then none
      else if x = "list" then if isRange C a = true then (cI (f C) C false a).map .listI else (f C a).map .list
      else if x = "sorted" then match setIn C a with
        | some b => (f C b).map .srtSet
        | none => (f C a).map .sorted
      else none
    | _ => none
def fromF (m : Bool) (f : CF) : CE := if m = true then .mu f else .fr f
def plainRecv : Expr → Bool
  | .Name .. => true
  | .Subscript .. => true
  | .Attribute .. => true
  | _ => false
/-- what a field or a method is asked of -/
def recvOk : Expr → Bool
  | .Name .. => true
  | .Subscript .. => true
  | .Attribute .. => true
  | .Constant .. => true
  | .Call _ (_ :: _) _ _ => true
  | _ => false
/-- targets: fields of one name -/
def atTs (x : Str) : List Expr → Option (List Str)
  | [] => some []
  | .Attribute (.Name y _) f _ :: r => if y = x then (atTs x r).map (f :: ·) else none
  | _ :: _ => none
def atName : List Expr → Option Str
  | .Attribute (.Name y _) _ _ :: _ => some y
  | _ => none
def atBoth (ts : List Expr) : Option (Str × List Str) := match atName ts with
  | some x => (atTs x ts).map fun fs => (x, fs)
  | none => none
def isSlice : Expr → Bool
  | .Slice .. => true
  | _ => false
/-- keys of a written dict -/
def dictKeys : List (Option Expr) → Option (List Str)
  | [] => some []
  | some (.Constant (.str s) _ _) :: r => (dictKeys r).map (s :: ·)
  | _ :: _ => none
/-- len(set(a)) -/
def setArg (C : CC) (x : Str) (args : List Expr) : Option Expr :=
  if x = "len" then match args with
    | [e] => match bltCall C e with
      | some (y, [a]) => if y = "set" ∧ isStar a = false then some a else none
      | _ => none
    | _ => none
  else none
def smC (x : Str) : Option Mth :=
  if x = "split" then some .split
  else if x = "join" then some .join
  else if x = "index" then some .index
  else none
/-- the module's dict of a name -/
def glName (C : CC) (e : Expr) : Option Str :=
  match e with
  | .Name x _ => if isGl C.sc x = true ∧ okName x = true ∧ x ∈ C.gdt then some x else none
  | _ => none
def inDict (C : CC) (o : CmpOp) (b : Expr) : Option (Str × Bool) :=
  match o with
  | .In => (glName C b).map fun x => (x, false)
  | .NotIn => (glName C b).map fun x => (x, true)
  | _ => none
def getDict (o : Expr) (x : Str) (args : List Expr) : Option (List (Option Expr) × List Expr × Expr × Expr) :=
  if x = "get" then match o, args with
    | .Dict ks vs _, [i, d] => some (ks, vs, i, d)
    | _, _ => none
  else none
def kwNames : List Keyword → Option (List Str)
  | [] => some []
  | ⟨some x, _, _⟩ :: r => (kwNames r).map (x :: ·)
  | _ :: _ => none
def cE (kwp : List (Str × Nat × List Str × List Nat)) : Nat → CC → Bool → Expr → Option CE
  | 0, _, _, _ => none
  | n + 1, C, m, e =>
    let f := fun (C : CC) e => cE kwp n C C.inn e
    match cF f C e with
    | some q => some (fromF m q)
    | none =>
    match e with
    | .Constant .none _ _ => some (.con .non)
    | .Constant (.bool b) _ _ => some (.con (.bl b))
    | .Constant (.int i) _ _ => some (.con (.int i))
    | .Constant (.str s) _ _ => some (.con (.str s))
    | .Name x _ => if okName x = true then
        (if isVis C.sc x = true then (posOf C.N x).map .var else if isGl C.sc x = true ∧ x ∈ C.glb then some (.glb x) else none) else none
    | .BinOp a .Add b _ => match f C a, f C b with
      | some a', some b' => if m = true ∧ C.inn = false then some (.mu (.cat a' b')) else some (.bin .add a' b')
      | _, _ => none
    | .BinOp a o b _ => match bopC o, f C a, f C b with
      | some o', some a', some b' => some (.bin o' a' b')
      | _, _, _ => none
    | .UnaryOp .USub a _ => (f C a).map .neg
    | .UnaryOp .Not a _ => (f C a).map .not
    | .Compare a [o] [b] _ => if behindInMarks o b = true then none else match inDict C o b, f C a with
      | some (x, n), some a' => some (.dnG x a' n)
      | _, _ => match f C a, f C b with
        | some a', some b' => some (.cmp (copC o) a' b')
        | _, _ => none
    | .Attribute o x _ => if recvOk o = true then (f C o).map fun o' => .fld o' x else none
    | .Compare a [o1, o2] [b, c] _ => if o1 = .In ∨ o1 = .NotIn ∨ o2 = .In ∨ o2 = .NotIn then none else match f C a, f C b, f C c with
      | some a', some b', some c' => some (.chn (copC o1) (copC o2) a' b' c')
      | _, _, _ => none
    | .BoolOp .And es _ => (mapE (f C) es).map .and
    | .BoolOp .Or es _ => (mapE (f C) es).map .or
    | .IfExp c a b _ => match f C c, f C a, f C b with
      | some c', some a', some b' => some (.ite c' a' b')
      | _, _, _ => none
    | .Tuple es _ _ => (mapA (f C) es).map .tup
    | .Dict [] [] _ => if m = true then some .newD else some .emp
    | .Dict ks vs _ => match dictKeys ks, mapE (f C) vs with
      | some kk, some vs' => if kk.length = vs.length ∧ kk.length ≤ 15 ∧ 0 < kk.length ∧ kk.Nodup then some (.mkD kk vs') else none
      | _, _ => none
    | .Subscript (.Dict ks vs _) i _ => if isSlice i = true then none else match dictKeys ks, mapE (f C) vs, f C i with
      | some kk, some vs', some i' => if kk.length = vs.length ∧ kk.length ≤ 15 ∧ 0 < kk.length ∧ kk.Nodup then some (.pick kk vs' i') else none
      | _, _, _ => none
    | .Subscript a (.Slice none none (some (.UnaryOp .USub (.Constant (.int 1) _ _) _)) _) _ => (f C a).map .rev
    | .Subscript a (.Slice lo hi none _) _ =>
      match f C a, optE (f C) lo, optE (f C) hi with
      | some a', some l', some h' => some (.slc a' l' h')
      | _, _, _ => none
    | .Subscript a i _ => if isSlice i = true then none else match glName C a, f C i with
      | some x, some i' => some (.dgG x i')
      | _, _ => match f C a, f C i with
        | some a', some i' => some (.idx a' i')
        | _, _ => none
    | .Call (.Attribute o x p) args [] q => if plainRecv o = true ∧ (p.endLine == q.line) = true ∧ args.length < 29 then
        (if x = "extend" then match args with
          | [a] => if isStar a = true then none else match f C o, cF f C a, f C a with
            | some o', some q', _ => some (.ext o' q')
            | some o', none, some a' => some (.extE o' a')
            | _, _, _ => none
          | _ => none
        else match mthC x, f C o, mapE (f C) args with
        | some .append, some o', some (.cons a .nil) => some (.mth .append o' (.cons a .nil))
        | some .pop, some o', some (.cons a .nil) => some (.mth .pop o' (.cons a .nil))
        | none, some o', some as' => if smC x = none then some (.mcall x o' as') else match smC x, as' with
          | some m, .cons a .nil => some (.sm m o' a)
          | _, _ => none
        | _, _, _ => none)
      else if recvOk o = true ∧ (p.endLine == q.line) = true ∧ args.length < 29 ∧ mthC x = none then
        match f C o, mapE (f C) args with
        | some o', some as' => if smC x = none then some (.mcall x o' as') else match smC x, as' with
          | some m, .cons a .nil => some (.sm m o' a)
          | _, _ => none
        | _, _ => none
      else match getDict o x args with
      | some (ks, vs, i, d) => if (p.endLine == q.line) = true ∧ isStar i = false ∧ isStar d = false then match dictKeys ks, mapE (f C) vs, f C i, f C d with
          | some kk, some vs', some i', some d' => if kk.length = vs.length ∧ kk.length ≤ 15 ∧ 0 < kk.length ∧ kk.Nodup then some (.pickG kk vs' i' d') else none
          | _, _, _, _ => none
        else none
      | none => none
    | .Call (.Name x _) args [] _ => if isGl C.sc x = true ∧ okName x = true then
        (if x ∈ C.own then (mapE (f C) args).map (.call x)
        else if x ∈ C.cls then (mapE (f C) args).map (.mk x)
        else if x = "isinstance" then match args with
          | [a, .Name t _] => if isGl C.sc t = true ∧ okName t = true ∧ ¬ t ∈ C.own ∧ isStar a = false then (match f C a, tyC t with
            | some a', some t' => some (.isi a' t')
            | some a', none => if t ∈ C.cls then some (.isC a' t) else none
            | _, _ => none) else none
          | [a, .Tuple [.Name t _, .Name u _] _ _] => if isGl C.sc t = true ∧ okName t = true ∧ ¬ t ∈ C.own ∧ isStar a = false ∧ isGl C.sc u = true ∧ okName u = true ∧ ¬ u ∈ C.own then (match f C a, tyC t, tyC u with
            | some a', some t', some u' => some (.isi2 a' t' u')
            | _, _, _ => none) else none
          | _ => none
        else if x = "tuple" ∧ isRangeL C args = true then match args with
          | [a] => (cI (f C) C false a).map .tupI
          | _ => none
        else match setArg C x args with
        | some a => (f C a).map .lenSet
        | none => match bltC x args.length, mapE (f C) args with
          | some b, some (.cons a r) => some (.blt b (.cons a r))
          | _, _ => none) else none
    | .Call (.Name x _) args kws _ => if isGl C.sc x = true ∧ okName x = true ∧ x ∈ C.own then
        match mapE (f C) args, kwNames kws, mapE (f C) (kws.map (·.value)) with
        | some as, some ks, some vs => match kwp.find? (fun q => decide (q.1 = x ∧ q.2.1 = args.length ∧ q.2.2.1 = ks)) with
          | some q => some (.callK x as vs q.2.2.2)
          | none => none
        | _, _, _ => none
      else none
    | _ => none
where
  optE (f : Expr → Option CE) : Option Expr → Option CO
    | none => some .no
    | some e => (f e).map .so

def nameOf : Expr → Option Str
  | .Name x _ => some x
  | _ => none
/-- the right side's elements as they are to be: changing where the name is changed -/
def cParE (kwp : List (Str × Nat × List Str × List Nat)) (n : Nat) (C : CC) : List Expr → List Expr → Option CAs
  | [], [] => some .nil
  | .Name x _ :: ts, e :: es => if isStar e = true then none else match cE kwp n C (decide (x ∈ C.chg)) e, cParE kwp n C ts es with
    | some c, some cs => some (.cons false c cs)
    | _, _ => none
  | _, _ => none
def parNm (sc : Scope) (ln : Nat) : Expr → Option Str
  | .Name id pos => if (sc.names.lookup id == some .local && pos.line == ln) = true then some id else none
  | _ => none
/-- how stores to names swap: some none: not; none: not known -/
def swN (sc : Scope) (ts vs : List Expr) : Option (Option (List Str)) :=
  if (!(ts.length == 2 || ts.length == 3) || vs.length != ts.length) = true then some none
  else if vs.any isStar = true then some none
  else
    let names := ts.filterMap (parNm sc ((ts.head?.map (·.pos.line)).getD 0))
    if (names.length != ts.length || names.eraseDups.length != names.length) = true then some none
    else if vs.all (foldedForSure 8) = true then some none
    else if vs.all (constantsAlone 8) = true then none
    else some (some names)
def allNames (es : List Expr) : Bool := es.all fun e => (nameOf e).isSome
mutual
def cS (kwp : List (Str × Nat × List Str × List Nat)) : Nat → CC → Stmt → Option CS
  | 0, _, _ => none
  | n + 1, C, s => match s with
    | .Pass _ => some .pas
    | .Break _ => some .brk
    | .Continue _ => some .cnt
    | .Return none _ => some .retN
    | .Return (some e) _ => (cE kwp n C C.ret e).map .ret
    | .Expr e _ => match e with
      | .Call (.Attribute ..) _ _ _ => (cE kwp n C false e).map .expr
      | .Call (.Name ..) _ _ _ => (cE kwp n C false e).map .expr
      | _ => none
    | .If c a b _ => match cE kwp n C false c, cSs kwp n C a, cSs kwp n C b with
      | some c', some a', some b' => some (.ifs c' a' b')
      | _, _, _ => none
    | .While c b [] _ => match cE kwp n C false c, cSs kwp n C b with
      | some c', some b' => some (.whl c' b')
      | _, _ => none
    | .For t i b [] _ => match cT C.N (fun x => isLoc C.sc x) 8 t, cI (fun e => cE kwp n C false e) C (isTupE t) i, cSs kwp n C b with
      | some t', some i', some b' => some (.for_ t' i' b')
      | _, _, _ => none
    | .AugAssign (.Name x _) o e _ => if isLoc C.sc x = true ∧ bopA o = true then match posOf C.N x, bopC o, cE kwp n C false e with
      | some i, some o', some e' => some (.aug i o' e')
      | _, _, _ => none else none
    | .Assign [.Name x _] e _ => if isLoc C.sc x = true then match posOf C.N x, cE kwp n C (decide (x ∈ C.chg)) e with
      | some i, some e' => some (.asg (.nm i) e')
      | _, _ => none else none
    | .Assign [.Subscript o i _] e _ => if isSlice i = true ∨ isLcE e = true then none else match cE kwp n C false o, cE kwp n C false i, cE kwp n C false e with
      | some o', some i', some e' => some (.sub o' i' e')
      | _, _, _ => none
    | .Assign [.Tuple ts _ _] (.Tuple es _ _) _ => if allNames ts = true ∧ ts.length = es.length ∧ (swN C.sc ts es).isSome = true then match cTs C.N (fun x => isLoc C.sc x) 8 ts, cParE kwp n C ts es with
      | some ts', some es' => some (.asg (.tp ts') (.tup es'))
      | _, _ => none else none
    | .Assign [.Tuple ts a b] e _ => if isLcE e = true then none else match atBoth ts, cE kwp n C false e with
      | some (x, fs), some e' => if isVis C.sc x = true ∧ okName x = true then (posOf C.N x).map fun j => .unf j fs e' else none
      | _, _ => match cT C.N (fun x => isLoc C.sc x) 8 (.Tuple ts a b), cE kwp n C false e with
        | some t', some e' => some (.asg t' e')
        | _, _ => none
    | .Assign [.Attribute o f _] e _ => match cE kwp n C false o, cE kwp n C true e with
      | some o', some e' => some (.sfld o' f e')
      | _, _ => none
    | .AugAssign (.Subscript o i _) op e _ => if isSlice i = true ∨ ¬ bopA op = true then none else match bopC op, cE kwp n C false o, cE kwp n C false i, cE kwp n C false e with
      | some op', some o', some i', some e' => some (.asub o' i' op' e')
      | _, _, _, _ => none
    | .AugAssign (.Attribute o f _) op e _ => if bopA op = true then match bopC op, cE kwp n C false o, cE kwp n C false e with
      | some op', some o', some e' => some (.afld o' f op' e')
      | _, _, _ => none else none
    | _ => none
where
  isLcE : Expr → Bool
    | .ListComp .. => true
    | .SetComp .. => true
    | .DictComp .. => true
    | _ => false
def cSs (kwp : List (Str × Nat × List Str × List Nat)) : Nat → CC → List Stmt → Option CSs
  | 0, _, _ => none
  | _ + 1, _, [] => some .nil
  | n + 1, C, s :: r => match cSs kwp n C r with
    | some r' => some (.cons ((cS kwp n C s).getD .bad) r')
    | none => none
end
/-! ### which names a body changes -/
def mutE : Expr → List Str
  | .Call (.Attribute (.Name x _) m _) _ _ _ => if m = "append" ∨ m = "extend" ∨ m = "pop" then [x] else []
  | _ => []
mutual
def mutX : Nat → Expr → List Str
  | 0, _ => []
  | n + 1, e => mutE e ++ match e with
    | .Call _ args _ _ => args.flatMap (mutX n)
    | .BinOp a _ b _ => mutX n a ++ mutX n b
    | _ => []
end
mutual
def mutS : Nat → Stmt → List Str
  | 0, _ => []
  | n + 1, s => match s with
    | .Expr e _ => mutX n e
    | .Return (some e) _ => mutX n e
    | .Assign [.Subscript (.Name x _) _ _] e _ => x :: mutX n e
    | .Assign _ e _ => mutX n e
    | .If _ a b _ => mutSs n a ++ mutSs n b
    | .While _ a b _ => mutSs n a ++ mutSs n b
    | .For _ _ a b _ => mutSs n a ++ mutSs n b
    | _ => []
def mutSs : Nat → List Stmt → List Str
  | 0, _ => []
  | _ + 1, [] => []
  | n + 1, s :: r => mutS n s ++ mutSs n r
end
/-! names of comprehensions within -/
mutual
def lcE : Nat → Expr → List Str
  | 0, _ => []
  | n + 1, e => match e with
    | .BoolOp _ es _ => es.flatMap (lcE n)
    | .BinOp a _ b _ => lcE n a ++ lcE n b
    | .UnaryOp _ a _ => lcE n a
    | .IfExp a b c _ => lcE n a ++ lcE n b ++ lcE n c
    | .ListComp elt gens sc _ => (sc.names.filterMap fun y => match y.2 with
        | .local => some y.1
        | .cell => some y.1
        | _ => none) ++ lcE n elt ++ gens.flatMap fun g => lcE n g.iter ++ g.ifs.flatMap (lcE n)
    | .Compare a _ bs _ => lcE n a ++ bs.flatMap (lcE n)
    | .Call f as ks _ => lcE n f ++ as.flatMap (lcE n) ++ ks.flatMap fun k => lcE n k.value
    | .Attribute a _ _ => lcE n a
    | .Subscript a b _ => lcE n a ++ lcE n b
    | .Slice a b c _ => (a.toList ++ b.toList ++ c.toList).flatMap (lcE n)
    | .Starred a _ => lcE n a
    | .List es _ => es.flatMap (lcE n)
    | .Tuple es _ _ => es.flatMap (lcE n)
    | _ => []
end
mutual
def lcS : Nat → Stmt → List Str
  | 0, _ => []
  | n + 1, s => match s with
    | .Expr e _ => lcE n e
    | .Return (some e) _ => lcE n e
    | .Assign ts e _ => ts.flatMap (lcE n) ++ lcE n e
    | .AugAssign t _ e _ => lcE n t ++ lcE n e
    | .If c a b _ => lcE n c ++ lcSs n a ++ lcSs n b
    | .While c a b _ => lcE n c ++ lcSs n a ++ lcSs n b
    | .For _ i a b _ => lcE n i ++ lcSs n a ++ lcSs n b
    | .Raise e _ _ => (e.toList).flatMap (lcE n)
    | _ => []
def lcSs : Nat → List Stmt → List Str
  | 0, _ => []
  | _ + 1, [] => []
  | n + 1, s :: r => lcS n s ++ lcSs n r
end
def argNames (a : Arguments) : List Str := a.args.map (·.arg)
/-- all names by slot: the parameters first -/
def slotsOf (a : Arguments) (body : List Stmt) (sc : Scope) : List Str :=
  let loc := sc.names.filterMap fun y => match y.2 with
    | .local => some y.1
    | .cell => some y.1
    | _ => none
  (argNames a ++ loc ++ lcSs 60 body).foldl (fun acc x => if x ∈ acc then acc else acc ++ [x]) []
def simpleArgs (a : Arguments) : Bool := a.posonlyargs.isEmpty && a.vararg.isNone && a.kwonlyargs.isEmpty && a.kwarg.isNone && a.defaults.isEmpty
end Ev

/-! The evaluator's expressions over the hand layer: soundness. -/
namespace Ev
open PySem PySem.Spec PyProof.Rows L2

theorem star_cons {e : Expr} {es : List Expr} {env : Env} (h : isStar e = false) : starEach (e :: es) env = (false, eval e env) :: starEach es env := by
  cases e <;> first | rfl | simp [isStar] at h
theorem any_mapE {f : Expr → Option CE} {pos : Pos} {env : Env} : ∀ {es : List Expr} {cs : CEs}, mapE f es = some cs → (backTo pos (starEach es env)).any (·.1) = false
  | [], _, _ => rfl
  | e :: r, cs, h => by
    unfold mapE at h
    split at h
    · cases h
    · rename_i hs
      have hs' : isStar e = false := by simpa using hs
      split at h
      · cases h
      · split at h
        · cases h
        · rename_i c' hc' cs' hcs'
          rw [star_cons hs']
          show (false || (backTo pos (starEach r env)).any (·.1)) = false
          rw [any_mapE hcs']
          rfl

theorem bind_assoc {α β γ : Type} (r : R α) (k : α → Ev.Sto → R β) (l : β → Ev.Sto → R γ) : (r.bind k).bind l = r.bind fun a S => (k a S).bind l := by
  cases r <;> rfl
theorem bind_congr {α β : Type} {r : R α} {k k' : α → Ev.Sto → R β} (h : ∀ a S, k a S = k' a S) : r.bind k = r.bind k' := by
  rw [show k = k' from funext fun a => funext fun S => h a S]
theorem of_map {S : Ev.Sto} (o : Option Bool) : R.of (o.map D.bl) S = (R.of o S).bind fun b S1 => .ok (.bl b) S1 := by
  cases o <;> rfl
theorem tE_bl {K : PySem.W.Frag} {F : Sl → Ev.Sto → R Bool} {σ : L2.St} {H : Hp} {Q : VK} (h : tE K (fun σ S => (F σ S).bind fun b S1 => .ok (.bl b) S1) σ H Q) : tT K F σ H (fun b H => Q (.bl b) H) := by
  obtain ⟨σd, S, M, μ, hS, hσ, hp⟩ := h
  refine ⟨σd, S, M, μ, hS, hσ, hp.seq fun x S1 v H1 M1 μ1 e1 x1 s1 r1 hp => ?_⟩
  cases (show x = v from r1)
  exact hp.fin s1 rfl
section
variable {X : Cx} {a b c : Expr} {pos : Pos} {f g h : Sl → Ev.Sto → R D}
/-! ### atoms -/
theorem r_con {e : Expr} {d : D} {v : V} (he : PE X e (tC v)) (hr : ∀ H M μ, Rep X.K H M μ d v) : PE X e (tE X.K fun _ S => .ok d S) :=
  PE.imp he fun σ H Q h => by
    obtain ⟨σd, S, M, μ, hS, hσ, hp⟩ := h
    exact hp.fin hS (hr H M μ)
theorem r_var {i : Nat} {x : Str} (hN : X.N[i]? = some x) (hv : Vis X.env.scope x) (hd : (x == ("__debug__" : Str)) = false) (hcd : (x == ("__classdict__" : Str)) = false) : PE X (.Name x pos) (tE X.K fun σ S => match σ[i]? with
    | some (some d) => .ok d S
    | _ => .no) :=
  PE.imp (pe_var hN hv hd hcd) fun σ H Q h => by
    obtain ⟨σd, S, M, μ, hS, hσ, hp⟩ := h
    dsimp only at hp
    split at hp
    · rename_i d e
      obtain ⟨v, e1, r⟩ := hσ.2 i d e
      exact ⟨v, e1, hp.fin hS r⟩
    · exact False.elim hp
/-! ### operators -/
theorem r_bin (o : Bop) (ha : PE X a (tE X.K f)) (hb : PE X b (tE X.K g)) : PE X (.BinOp a (bopO o) b pos) (tE X.K fun σ S => (f σ S).bind fun x S1 => (g σ S1).bind fun y S2 => R.of (binD S2 o x y) S2) :=
  PE.imp (pe_op (binR o) ha hb) fun σ H Q h => tE_op2 (op := fun S x y => binD S o x y) h
theorem r_neg (ha : PE X a (tE X.K f)) : PE X (.UnaryOp .USub a pos) (tE X.K fun σ S => (f σ S).bind fun x S1 => R.of (negD x) S1) :=
  PE.imp (pe_un un_neg ha) fun σ H Q h => by
    obtain ⟨σd, S, M, μ, hS, hσ, hp⟩ := h
    refine ⟨σd, S, M, μ, hS, hσ, hp.seq fun x S1 v H1 M1 μ1 e1 x1 s1 r1 hp => ?_⟩
    obtain ⟨z, hz, hp⟩ := hp.ofL
    unfold negD at hz
    split at hz
    · cases hz
      exact ⟨_, r1, hp.fin s1 rfl⟩
    · cases hz
theorem r_not (ha : PE X a (tE X.K f)) : PE X (.UnaryOp .Not a pos) (tE X.K fun σ S => (f σ S).bind fun x S1 => R.of ((truD S1 x).map fun b => .bl (!b)) S1) :=
  PE.imp (pe_notT ha) fun σ H Q h => by
    obtain ⟨σd, S, M, μ, hS, hσ, hp⟩ := h
    refine ⟨σd, S, M, μ, hS, hσ, hp.seq fun x S1 v H1 M1 μ1 e1 x1 s1 r1 hp => ?_⟩
    obtain ⟨z, hz, hp⟩ := hp.ofL
    cases ht : truD S1 x with
    | none => rw [ht] at hz; cases hz
    | some k =>
      rw [ht] at hz; cases hz
      exact ⟨k, truV s1 r1 ht, hp.fin s1 rfl⟩
theorem cop_back (o : CmpOp) : copO (copC o) = o := by cases o <;> rfl
theorem r_cmp (hX : Cok X) (o : CmpOp) (hm : behindInMarks o b = false) (ha : PE X a (tE X.K f)) (hb : PE X b (tE X.K g)) :
    PE X (.Compare a [o] [b] pos) (tE X.K fun σ S => (f σ S).bind fun x S1 => (g σ S1).bind fun y S2 => R.of ((cmpD S2 (copC o) x y).map .bl) S2) := by
  have z := cmpR hX (copC o)
  rw [cop_back] at z
  exact PE.imp (pe_cmpR z ha hb hm) fun σ H Q h => tE_op2 (op := fun S x y => (cmpD S (copC o) x y).map .bl) h
/-- a comparison's answer as a test -/
theorem r_cmpT (hX : Cok X) (o : CmpOp) (hm : behindInMarks o b = false) (ha : PE X a (tE X.K f)) (hb : PE X b (tE X.K g)) :
    PT X (.Compare a [o] [b] pos) (tT X.K fun σ S => (f σ S).bind fun x S1 => (g σ S1).bind fun y S2 => R.of (cmpD S2 (copC o) x y) S2) := by
  have z := cmpR hX (copC o)
  rw [cop_back] at z
  refine PT.imp (pt_cmpR z ha hb hm) fun σ H Q h => ?_
  obtain ⟨σd, S, M, μ, hS, hσ, hp⟩ := h
  refine ⟨σd, S, M, μ, hS, hσ, hp.seq fun x S1 v H1 M1 μ1 e1 x1 s1 r1 hp => ?_⟩
  refine ⟨σd, S1, M1, μ1, s1, hσ.of hS x1, hp.seq fun y S2 w H2 M2 μ2 e2 x2 s2 r2 hp => ?_⟩
  refine ⟨S2, M2, μ2, x, y, s2, r1.of s1 x2, r2, ?_⟩
  show Post (RV X.K) X.K (R.of ((cmpD S2 (copC o) x y).map .bl) S2) _ _ _ _
  cases hc : cmpD S2 (copC o) x y with
  | none => rw [hc] at hp; exact hp
  | some k =>
    rw [hc] at hp
    exact fun u H' M' μ' x' s' r' => ⟨k, r', hp k H' M' μ' x' s' rfl⟩
theorem chn_core {ta : TE} {r1 : R2} {K : PySem.W.Frag} {C1 C2 : Ev.Sto → D → D → Option Bool} {σ : L2.St} {H : Hp} {Q : Bool → Hp → Prop} {Q' : VK} (hQ : ∀ b H, Q b H → Q' (.bl b) H)
    (hh : tT K (fun σ S => (f σ S).bind fun x S1 => (g σ S1).bind fun y S2 => (R.of (C1 S2 x y) S2).bind fun t S2 =>
      if t = true then (h σ S2).bind fun z S3 => R.of (C2 S3 y z) S3 else .ok false S2) σ H Q) :
    tChain (rD2 K fun S x y => (C1 S x y).map .bl) (rD2 K fun S x y => (C2 S x y).map .bl) (tE K f) (tE K g) (tE K h) σ H Q' := by
  obtain ⟨σd, S, M, μ, hS, hσ, hp⟩ := hh
  refine ⟨σd, S, M, μ, hS, hσ, hp.seq fun x S1 v H1 M1 μ1 e1 x1 s1 r1 hp => ?_⟩
  refine ⟨σd, S1, M1, μ1, s1, hσ.of hS x1, hp.seq fun y S2 w H2 M2 μ2 e2 x2 s2 r2 hp => ?_⟩
  refine ⟨S2, M2, μ2, x, y, s2, r1.of s1 x2, r2, ?_⟩
  show Post (RV K) K (R.of ((C1 S2 x y).map .bl) S2) _ _ _ _
  cases hc : C1 S2 x y with
  | none => rw [hc] at hp; exact False.elim hp
  | some k =>
    rw [hc] at hp
    refine fun u H3 M3 μ3 x3 s3 r3 => ⟨k, r3, ?_⟩
    have hp' := Post.ext hp x3
    simp only [R.of, R.bind] at hp'
    cases k with
    | false => exact hQ _ _ (hp'.fin s3 rfl)
    | true =>
      refine iteT ⟨σd, S2, M3, μ3, s3, (hσ.of hS x1).of s1 (x2.trans x3), ?_⟩
      simp only [if_true] at hp'
      refine hp'.seq fun z S4 u4 H4 M4 μ4 e4 x4 s4 r4 hp => ?_
      refine ⟨S4, M4, μ4, y, z, s4, (r2.of s2 x3).of s3 x4, r4, ?_⟩
      show Post (RV K) K (R.of ((C2 S4 y z).map .bl) S4) _ _ _ _
      cases hc2 : C2 S4 y z with
      | none => rw [hc2] at hp; exact False.elim hp
      | some k2 =>
        rw [hc2] at hp
        intro u5 H5 M5 μ5 x5 s5 r5
        cases (show u5 = .bl k2 from r5)
        exact hQ _ _ (hp k2 H5 M5 μ5 x5 s5 rfl)
theorem noMark2 {o1 o2 : CmpOp} (n1 : ¬ (o1 = .In ∨ o1 = .NotIn ∨ o2 = .In ∨ o2 = .NotIn)) : lastMarks [o1, o2] [b, c] = false := by
  show behindInMarks o2 c = false
  exact nobehind _ (fun z => n1 (.inr (.inr (.inl z)))) (fun z => n1 (.inr (.inr (.inr z))))
theorem r_chnT (hX : Cok X) (o1 o2 : CmpOp) (ha : PE X a (tE X.K f)) (hb : PE X b (tE X.K g)) (hc : PE X c (tE X.K h)) (n1 : ¬ (o1 = .In ∨ o1 = .NotIn ∨ o2 = .In ∨ o2 = .NotIn)) :
    PT X (.Compare a [o1, o2] [b, c] pos) (tT X.K fun σ S => (f σ S).bind fun x S1 => (g σ S1).bind fun y S2 => (R.of (cmpD S2 (copC o1) x y) S2).bind fun t S2 =>
      if t = true then (h σ S2).bind fun z S3 => R.of (cmpD S3 (copC o2) y z) S3 else .ok false S2) := by
  have z1 := cmpR hX (copC o1)
  rw [cop_back] at z1
  have z2 := cmpR hX (copC o2)
  rw [cop_back] at z2
  exact PT.imp (pt_chain z1 z2 ha hb hc (noMark2 n1)) fun σ H Q hh => chn_core (ta := tC .non) (r1 := rI0 fun _ _ => .non) (fun b H q => ⟨b, rfl, q⟩) hh
theorem r_chn (hX : Cok X) (o1 o2 : CmpOp) (ha : PE X a (tE X.K f)) (hb : PE X b (tE X.K g)) (hc : PE X c (tE X.K h)) (n1 : ¬ (o1 = .In ∨ o1 = .NotIn ∨ o2 = .In ∨ o2 = .NotIn)) :
    PE X (.Compare a [o1, o2] [b, c] pos) (tE X.K fun σ S => (f σ S).bind fun x S1 => (g σ S1).bind fun y S2 => (R.of (cmpD S2 (copC o1) x y) S2).bind fun t S2 =>
      if t = true then (h σ S2).bind fun z S3 => R.of ((cmpD S3 (copC o2) y z).map .bl) S3 else .ok (.bl false) S2) := by
  have z1 := cmpR hX (copC o1)
  rw [cop_back] at z1
  have z2 := cmpR hX (copC o2)
  rw [cop_back] at z2
  refine PE.imp (pe_chain z1 z2 ha hb hc (noMark2 n1)) fun σ H Q hh => chn_core (Q := fun b H => Q (.bl b) H) (ta := tC .non) (r1 := rI0 fun _ _ => .non) (fun b H q => q) (tE_bl ?_)
  obtain ⟨σd, S, M, μ, hS, hσ, hp⟩ := hh
  refine ⟨σd, S, M, μ, hS, hσ, ?_⟩
  dsimp only at hp ⊢
  simp only [bind_assoc]
  rw [bind_congr (k := _) (k' := _) fun x S1 => bind_congr (k := _) (k' := _) fun y S2 => bind_congr (k := _) (k' := _) fun t S2 => ?_]
  · exact hp
  · cases t
    · rfl
    · simp only [if_true, bind_assoc, of_map]
end
end Ev

namespace Ev
open PySem PySem.Spec PyProof.Rows L2
section
variable {X : Cx} {a b c : Expr} {pos : Pos} {f g h : Sl → Ev.Sto → R D} {F G : Sl → Ev.Sto → R Bool} {rest : List Expr}
/-! ### tests -/
theorem t_truth (ha : PE X a (tE X.K f)) (he : ∀ whole, isTrue a X.env whole = (do let v ← whole; standAt a.pos; holding [v] (truthy v))) : PT X a (tT X.K fun σ S => (f σ S).bind fun x S1 => R.of (truD S1 x) S1) :=
  PT.imp (pt_truth ha he) fun σ H Q h => by
    obtain ⟨σd, S, M, μ, hS, hσ, hp⟩ := h
    refine ⟨σd, S, M, μ, hS, hσ, hp.seq fun x S1 v H1 M1 μ1 e1 x1 s1 r1 hp => ?_⟩
    obtain ⟨z, hz, hp⟩ := hp.ofL
    exact ⟨z, truV s1 r1 hz, hp.fin s1 rfl⟩
theorem t_not (ha : PT X a (tT X.K F)) : PT X (.UnaryOp .Not a pos) (tT X.K fun σ S => (F σ S).bind fun x S1 => .ok (!x) S1) :=
  PT.imp (pt_not ha) fun σ H Q h => by
    obtain ⟨σd, S, M, μ, hS, hσ, hp⟩ := h
    refine ⟨σd, S, M, μ, hS, hσ, hp.seq fun x S1 v H1 M1 μ1 e1 x1 s1 r1 hp => ?_⟩
    cases (show x = v from r1)
    exact hp.fin s1 rfl
theorem t_and1 (ha : PT X a (tT X.K F)) : PW X (.BoolOp .And [a] pos) (tT X.K F) := pw_and1 ha
theorem t_or1 (ha : PT X a (tT X.K F)) : PW X (.BoolOp .Or [a] pos) (tT X.K F) := pw_or1 ha
theorem t_and (ha : PT X a (tT X.K F)) (hb : PW X (.BoolOp .And (b :: rest) pos) (tT X.K G)) : PW X (.BoolOp .And (a :: b :: rest) pos) (tT X.K fun σ S => (F σ S).bind fun t S1 => if t = true then G σ S1 else .ok false S1) :=
  PW.imp (pw_and ha hb) fun σ H Q h => by
    obtain ⟨σd, S, M, μ, hS, hσ, hp⟩ := h
    refine ⟨σd, S, M, μ, hS, hσ, hp.seq fun x S1 v H1 M1 μ1 e1 x1 s1 r1 hp => ?_⟩
    cases (show x = v from r1)
    cases x with
    | true => exact iteT ⟨σd, S1, M1, μ1, s1, hσ.of hS x1, hp⟩
    | false => exact iteF (hp.fin s1 rfl)
theorem t_or (ha : PT X a (tT X.K F)) (hb : PW X (.BoolOp .Or (b :: rest) pos) (tT X.K G)) : PW X (.BoolOp .Or (a :: b :: rest) pos) (tT X.K fun σ S => (F σ S).bind fun t S1 => if t = true then .ok true S1 else G σ S1) :=
  PW.imp (pw_or ha hb) fun σ H Q h => by
    obtain ⟨σd, S, M, μ, hS, hσ, hp⟩ := h
    refine ⟨σd, S, M, μ, hS, hσ, hp.seq fun x S1 v H1 M1 μ1 e1 x1 s1 r1 hp => ?_⟩
    cases (show x = v from r1)
    cases x with
    | true => exact iteT (hp.fin s1 rfl)
    | false => exact iteF ⟨σd, S1, M1, μ1, s1, hσ.of hS x1, hp⟩
theorem t_ite (hc : PT X c (tT X.K F)) (ha : PT X a (tT X.K G)) {G' : Sl → Ev.Sto → R Bool} (hb : PT X b (tT X.K G')) : PT X (.IfExp c a b pos) (tT X.K fun σ S => (F σ S).bind fun t S1 => if t = true then G σ S1 else G' σ S1) := by
  refine ⟨fun pins s σ H Q I h => ?_⟩
  obtain ⟨σd, S, M, μ, hS, hσ, hp⟩ := h
  show wpAny _ _ (do if ← isTrue c X.env (eval c X.env) then isTrue a X.env (eval a X.env) else isTrue b X.env (eval b X.env)) _ _ _
  refine wpAny_bind (thn (hc.run pins s σ H _ I ⟨σd, S, M, μ, hS, hσ, hp.seq (Q := fun t H1 => if t = true then tT X.K G σ H1 Q else tT X.K G' σ H1 Q) fun x S1 v H1 M1 μ1 e1 x1 s1 r1 hp => ?_⟩) fun d s1 ⟨H1, I1, q1⟩ => ?_)
  · cases (show x = v from r1)
    cases x with
    | true => exact iteT ⟨σd, S1, M1, μ1, s1, hσ.of hS x1, hp⟩
    | false => exact iteF ⟨σd, S1, M1, μ1, s1, hσ.of hS x1, hp⟩
  · cases d with
    | true => exact ha.run pins s1 σ H1 Q I1 q1
    | false => exact hb.run pins s1 σ H1 Q I1 q1
/-! ### values that hang on tests -/
theorem r_ite (hc : PT X c (tT X.K F)) (ha : PE X a (tE X.K f)) (hb : PE X b (tE X.K g)) : PE X (.IfExp c a b pos) (tE X.K fun σ S => (F σ S).bind fun t S1 => if t = true then f σ S1 else g σ S1) :=
  PE.imp (pe_ifExp hc ha hb) fun σ H Q h => by
    obtain ⟨σd, S, M, μ, hS, hσ, hp⟩ := h
    refine ⟨σd, S, M, μ, hS, hσ, hp.seq fun x S1 v H1 M1 μ1 e1 x1 s1 r1 hp => ?_⟩
    cases (show x = v from r1)
    cases x with
    | true => exact iteT ⟨σd, S1, M1, μ1, s1, hσ.of hS x1, hp⟩
    | false => exact iteF ⟨σd, S1, M1, μ1, s1, hσ.of hS x1, hp⟩
theorem r_and (ha : PE X a (tE X.K f)) (hb : PE X (.BoolOp .And (b :: rest) pos) (tE X.K g)) :
    PE X (.BoolOp .And (a :: b :: rest) pos) (tE X.K fun σ S => (f σ S).bind fun x S1 => (R.of (truD S1 x) S1).bind fun t S1 => if t = true then g σ S1 else .ok x S1) :=
  PE.imp (pe_andT ha hb) fun σ H Q h => by
    obtain ⟨σd, S, M, μ, hS, hσ, hp⟩ := h
    refine ⟨σd, S, M, μ, hS, hσ, hp.seq fun x S1 v H1 M1 μ1 e1 x1 s1 r1 hp => ?_⟩
    obtain ⟨t, ht, hp⟩ := hp.of
    refine ⟨t, truV s1 r1 ht, ?_⟩
    cases t with
    | true => exact iteT ⟨σd, S1, M1, μ1, s1, hσ.of hS x1, hp⟩
    | false => exact iteF (hp.fin s1 r1)
theorem r_or (ha : PE X a (tE X.K f)) (hb : PE X (.BoolOp .Or (b :: rest) pos) (tE X.K g)) :
    PE X (.BoolOp .Or (a :: b :: rest) pos) (tE X.K fun σ S => (f σ S).bind fun x S1 => (R.of (truD S1 x) S1).bind fun t S1 => if t = true then .ok x S1 else g σ S1) :=
  PE.imp (pe_orT ha hb) fun σ H Q h => by
    obtain ⟨σd, S, M, μ, hS, hσ, hp⟩ := h
    refine ⟨σd, S, M, μ, hS, hσ, hp.seq fun x S1 v H1 M1 μ1 e1 x1 s1 r1 hp => ?_⟩
    obtain ⟨t, ht, hp⟩ := hp.of
    refine ⟨t, truV s1 r1 ht, ?_⟩
    cases t with
    | true => exact iteT (hp.fin s1 r1)
    | false => exact iteF ⟨σd, S1, M1, μ1, s1, hσ.of hS x1, hp⟩
/-! ### lists of expressions -/
variable {es : List Expr} {fs : Sl → Ev.Sto → R (List D)}
theorem l_nil : PA X [] (tA X.K fun _ S => .ok [] S) := PA.imp pa_nil fun σ H Q h => by
  obtain ⟨σd, S, M, μ, hS, hσ, hp⟩ := h
  exact hp.fin hS rfl
theorem l_cons (hs : isStar a = false) (ha : PE X a (tE X.K f)) (hr : PA X es (tA X.K fs)) : PA X (a :: es) (tA X.K fun σ S => (f σ S).bind fun x S1 => (fs σ S1).bind fun xs S2 => .ok (x :: xs) S2) :=
  PA.imp (pa_cons ha hr (star_cons hs)) fun σ H Q h => by
    obtain ⟨σd, S, M, μ, hS, hσ, hp⟩ := h
    refine ⟨σd, S, M, μ, hS, hσ, hp.seq fun x S1 v H1 M1 μ1 e1 x1 s1 r1 hp => ?_⟩
    refine ⟨σd, S1, M1, μ1, s1, hσ.of hS x1, hp.seq fun y S2 w H2 M2 μ2 e2 x2 s2 r2 hp => ?_⟩
    exact hp.fin s2 ⟨v, w, rfl, r1.of s1 x2, r2⟩
theorem r_tup {k : Nat} (ha : PA X es (tA X.K fs)) : PE X (.Tuple es k pos) (tE X.K fun σ S => (fs σ S).bind fun ds S1 => if ds.length ≤ line then .ok (.tup ds) S1 else .no) :=
  PE.imp (pe_tup ha) fun σ H Q h => by
    obtain ⟨σd, S, M, μ, hS, hσ, hp⟩ := h
    refine ⟨σd, S, M, μ, hS, hσ, hp.seq fun x S1 v H1 M1 μ1 e1 x1 s1 r1 hp => ?_⟩
    split at hp
    · rename_i hl
      exact ⟨by rw [← r1.len, ← line_eq]; exact hl, hp.tup s1 r1⟩
    · exact False.elim hp
/-! ### new lists -/
mutual
theorem Rep.shrink {K : PySem.W.Frag} {H : Hp} {M M1 : Addr → Prop} {μ : List Addr} (hM : ∀ a, M a → M1 a) : ∀ {d : D} {v : V}, Rep K H M1 μ d v → Rep K H M μ d v
  | .non, _, h => h
  | .bl _, _, h => h
  | .int _, _, h => h
  | .str _, _, h => h
  | .tup l, _, h => by
    obtain ⟨a, vs, e, h1, h2⟩ := h
    exact ⟨a, vs, e, h1, RepL.shrink hM h2⟩
  | .frl l, _, h => by
    obtain ⟨a, vs, e, h1, h2⟩ := h
    refine ⟨a, vs, e, ?_, RepL.shrink hM h2⟩
    rcases h1 with ⟨h1, q⟩ | h1
    · exact .inl ⟨h1, fun z => q (hM _ z)⟩
    · exact .inr h1
  | .loc k, _, h => h
  | .emp, _, h => by
    obtain ⟨a, e, h1, q⟩ := h
    exact ⟨a, e, h1, fun z => q (hM _ z)⟩
theorem RepL.shrink {K : PySem.W.Frag} {H : Hp} {M M1 : Addr → Prop} {μ : List Addr} (hM : ∀ a, M a → M1 a) : ∀ {l : List D} {vs : List V}, RepL K H M1 μ l vs → RepL K H M μ l vs
  | [], _, h => h
  | d :: r, _, h => by
    obtain ⟨v, w, e, h1, h2⟩ := h
    exact ⟨v, w, e, Rep.shrink hM h1, RepL.shrink hM h2⟩
end
mutual
theorem Rep.more {K : PySem.W.Frag} {H : Hp} {M : Addr → Prop} {μ : List Addr} (p : Addr) : ∀ {d : D} {v : V}, Rep K H M μ d v → Rep K H M (μ ++ [p]) d v
  | .non, _, h => h
  | .bl _, _, h => h
  | .int _, _, h => h
  | .str _, _, h => h
  | .tup l, _, h => by
    obtain ⟨a, vs, e, h1, h2⟩ := h
    exact ⟨a, vs, e, h1, RepL.more p h2⟩
  | .frl l, _, h => by
    obtain ⟨a, vs, e, h1, h2⟩ := h
    exact ⟨a, vs, e, h1, RepL.more p h2⟩
  | .loc k, _, h => by
    obtain ⟨a, e, h1⟩ := h
    exact ⟨a, e, pre_get (List.prefix_append _ _) h1⟩
  | .emp, _, h => h
theorem RepL.more {K : PySem.W.Frag} {H : Hp} {M : Addr → Prop} {μ : List Addr} (p : Addr) : ∀ {l : List D} {vs : List V}, RepL K H M μ l vs → RepL K H M (μ ++ [p]) l vs
  | [], _, h => h
  | d :: r, _, h => by
    obtain ⟨v, w, e, h1, h2⟩ := h
    exact ⟨v, w, e, Rep.more p h1, RepL.more p h2⟩
end
/-- a list laid since the start, still to be named -/
abbrev RN (K : PySem.W.Frag) (H0 : Hp) : Hp → (Addr → Prop) → List Addr → List D → V → Prop := fun H M μ l v => ∃ a vs, v = .ref a ∧ H a = some (.lst vs) ∧ H0 a = none ∧ M a ∧ a ∉ μ ∧ RepL K H M μ l vs
def tF (K : PySem.W.Frag) (f : Sl → Ev.Sto → R (List D)) : TE := fun σ H Q => ∃ σd S M μ, SOk K H M μ S ∧ Slt K H M μ σd σ ∧ Post (RN K H) K (f σd S) H M μ Q
theorem Ext.lay {H : Hp} {M : Addr → Prop} {μ : List Addr} {o : HO} {p : Addr} (hp : H p = none) : Ext H M μ (upd H p o) (fun a => M a ∨ a = p) μ :=
  ⟨fun a o' h _ => by rw [upd_ne (ne_of_none h hp)]; exact h, fun a o' h => ⟨o', by rw [upd_ne (ne_of_none h hp)]; exact h, .refl⟩, List.prefix_refl _, fun _ h => .inl h, fun a h => by
    rcases h with h | rfl
    · exact .inl h
    · exact .inr hp, fun _ h => .inl h⟩
theorem SOk.lay {K : PySem.W.Frag} {H : Hp} {M : Addr → Prop} {μ : List Addr} {S : Ev.Sto} {vs : List V} (h : SOk K H M μ S) {p : Addr} (hp : H p = none) : SOk K (upd H p (.lst vs)) (fun a => M a ∨ a = p) μ S := by
  refine ⟨h.len, h.nd, fun a ha => .inl (h.sub a ha), fun a ha => ?_, fun n l e => ?_⟩
  · rcases ha with ha | rfl
    · have : a ≠ p := fun z => notMn h.mt hp (z ▸ ha)
      rw [upd_ne this]
      exact h.mt a ha
    · rw [upd_same]; trivial
  · obtain ⟨a, ws, e1, e2, r⟩ := h.obj n l e
    exact ⟨a, ws, e1, by rw [upd_ne (ne_of_none e2 hp)]; exact e2, r.imp fun _ _ r => RepL.of h (.lay hp) r⟩
theorem Post.new {K : PySem.W.Frag} {H0 H : Hp} {M : Addr → Prop} {μ : List Addr} {S : Ev.Sto} {l : List D} {vs : List V} {Q : VK} (h : Post (RN K H0) K (.ok l S) H M μ Q) (hS : SOk K H M μ S) (r : RepL K H M μ l vs) (h0 : ∀ a o, H0 a = some o → ∃ o', H a = some o') : ∀ p, H p = none → Q (.ref p) (upd H p (.lst vs)) := fun p hp =>
  h (.ref p) _ _ μ (.lay hp) (hS.lay hp) ⟨p, vs, rfl, upd_same, none_back h0 hp, .inr rfl, fun z => notMn hS.mt hp (hS.sub _ z), RepL.of hS (.lay hp) r⟩
theorem f_disp (ha : PA X es (tA X.K fs)) : PE X (.List es pos) (tF X.K fun σ S => (fs σ S).bind fun ds S1 => if ds.length ≤ line then .ok ds S1 else .no) :=
  PE.imp (pe_lst ha) fun σ H Q h => by
    obtain ⟨σd, S, M, μ, hS, hσ, hp⟩ := h
    refine ⟨σd, S, M, μ, hS, hσ, hp.seq fun x S1 v H1 M1 μ1 e1 x1 s1 r1 hp => ?_⟩
    split at hp
    · rename_i hl
      exact ⟨by rw [← r1.len, ← line_eq]; exact hl, hp.new s1 r1 x1.there⟩
    · exact False.elim hp
theorem Post.go {α β : Type} {Rl : Hp → (Addr → Prop) → List Addr → α → β → Prop} {K : PySem.W.Frag} {a : α} {S' : Ev.Sto} {H : Hp} {M : Addr → Prop} {μ : List Addr} {Q : β → Hp → Prop} (h : Post Rl K (.ok a S') H M μ Q) {b : β} {H1 : Hp} {M1 : Addr → Prop} {μ1 : List Addr} (x : Ext H M μ H1 M1 μ1) (s : SOk K H1 M1 μ1 S') (r : Rl H1 M1 μ1 a b) : Q b H1 :=
  h b H1 M1 μ1 x s r
/-- the wish at the start, not where one stands -/
theorem Post.seq0 {α β γ δ : Type} {Rl : Hp → (Addr → Prop) → List Addr → α → β → Prop} {R2 : Hp → (Addr → Prop) → List Addr → γ → δ → Prop} {K : PySem.W.Frag} {r : R α} {H : Hp} {M : Addr → Prop} {μ : List Addr} {Q : β → Hp → Prop} {Q2 : δ → Hp → Prop} {k : α → Ev.Sto → R γ} (h : Post R2 K (r.bind k) H M μ Q2)
    (hk : ∀ a S1 b H1 M1 μ1, r = .ok a S1 → Ext H M μ H1 M1 μ1 → SOk K H1 M1 μ1 S1 → Rl H1 M1 μ1 a b → Post R2 K (k a S1) H M μ Q2 → Q b H1) : Post Rl K r H M μ Q := by
  cases r with
  | ok a S' => exact fun b H' M' μ' y s q => hk a S' b H' M' μ' rfl y s q h
  | err _ _ _ => exact h
  | no => exact h
theorem fr_read {K : PySem.W.Frag} {σ : L2.St} {H : Hp} {Q : VK} (h : tE K (fun σ S => (fs σ S).bind fun l S1 => .ok (.frl l) S1) σ H Q) : tF K fs σ H Q := by
    obtain ⟨σd, S, M, μ, hS, hσ, hp⟩ := h
    refine ⟨σd, S, M, μ, hS, hσ, hp.seq0 fun x S1 v H1 M1 μ1 e1 x1 s1 r1 hp => ?_⟩
    obtain ⟨a, vs, rfl, h1, h2, h3, h4, h5⟩ := r1
    have dn : ∀ b, (M1 b ∧ b ≠ a) → M1 b := fun _ z => z.1
    have na : ∀ b, M b → b ≠ a := fun b z e => notMn hS.mt h2 (e ▸ z)
    refine hp.go (M1 := fun b => M1 b ∧ b ≠ a) (μ1 := μ1) ⟨x1.keep, x1.kind, x1.pre, fun b z => ⟨x1.old b z, na b z⟩, fun b z => x1.new b z.1, x1.nmu⟩
      ⟨s1.len, s1.nd, fun b z => ⟨s1.sub b z, fun e => h4 (e ▸ z)⟩, fun b z => s1.mt b z.1, fun n l e => ?_⟩ ⟨a, vs, rfl, .inl ⟨.inl h1, fun z => z.2 rfl⟩, RepL.shrink dn h5⟩
    obtain ⟨b, ws, g1, g2, g3⟩ := s1.obj n l e
    exact ⟨b, ws, g1, g2, g3.imp fun _ _ r => RepL.shrink dn r⟩
theorem mu_read {K : PySem.W.Frag} {σ : L2.St} {H : Hp} {Q : VK} (h : tE K (fun σ S => (fs σ S).bind fun l S1 => .ok (.loc S1.length) (S1 ++ [O.lst l])) σ H Q) : tF K fs σ H Q := by
    obtain ⟨σd, S, M, μ, hS, hσ, hp⟩ := h
    refine ⟨σd, S, M, μ, hS, hσ, hp.seq0 fun x S1 v H1 M1 μ1 e1 x1 s1 r1 hp => ?_⟩
    obtain ⟨a, vs, rfl, h1, h2, h3, h4, h5⟩ := r1
    refine hp.go (M1 := M1) (μ1 := μ1 ++ [a]) ⟨x1.keep, x1.kind, x1.pre.trans (List.prefix_append _ _), x1.old, x1.new, fun b z => ?_⟩
      ⟨by simp [s1.len], ?_, fun b z => ?_, s1.mt, fun n l e => ?_⟩ ⟨a, rfl, by rw [← s1.len]; simp⟩
    · rcases List.mem_append.mp z with z | z
      · exact x1.nmu b z
      · rw [List.mem_singleton.mp z]; exact .inr h2
    · rw [List.nodup_append]
      refine ⟨s1.nd, by simp, fun b hb c hc e => ?_⟩
      have e2 : c = a := List.mem_singleton.mp hc
      subst e2; subst e
      exact h4 hb
    · rcases List.mem_append.mp z with z | z
      · exact s1.sub b z
      · rw [List.mem_singleton.mp z]; exact h3
    · by_cases hn : n < S1.length
      · rw [List.getElem?_append_left hn] at e
        obtain ⟨b, ws, g1, g2, g3⟩ := s1.obj n l e
        exact ⟨b, ws, pre_get (List.prefix_append _ _) g1, g2, g3.imp fun _ _ r => RepL.more a r⟩
      · have hn' : n = S1.length := by
          have := (List.getElem?_eq_some_iff.mp e).1
          simp at this; omega
        subst hn'
        simp at e; subst e
        exact ⟨a, .lst vs, by rw [← s1.len]; simp, h1, vs, rfl, RepL.more a h5⟩
theorem r_fr {e : Expr} (h : PE X e (tF X.K fs)) : PE X e (tE X.K fun σ S => (fs σ S).bind fun l S1 => .ok (.frl l) S1) := PE.imp h fun _ _ _ => fr_read
theorem r_mu {e : Expr} (h : PE X e (tF X.K fs)) : PE X e (tE X.K fun σ S => (fs σ S).bind fun l S1 => .ok (.loc S1.length) (S1 ++ [O.lst l])) := PE.imp h fun _ _ _ => mu_read
end
end Ev

/-! Calls of defs: like the hand layer's FnOk, with the guards of the stack told. -/
namespace Ev
open PySem PySem.Spec PyProof.Rows L2
abbrev Sp1 := List V → Hp → VK → Prop
structure FnG (P : Program) (w : World) (K : PySem.W.Frag) (mg : Str → Option Value) (base : Heap) (k : Nat) (f : Addr) (fd : FuncData) (ps : List Str) (sp : Sp1) : Prop where
  len : ∀ vs H Q, sp vs H Q → vs.length = ps.length
  run : ∀ (A : Around) (outer : List Env) (s : Shared) (H : Hp) (args : Args) (us : List Value) (vs : List V) (Q : VK), Room k A → A.guards = some [] → Env0 P w K mg base A outer s H → BindsTo s fd args (ps.zip us) → Vals vs us → sp vs H Q →
    codeAny (model P w) A (.call (.ref f) args) (CR CX0 outer P w H s Q E0) s
/-- what a def promises: the evaluator's call -/
def spG (K : PySem.W.Frag) (call : List D → Ev.Sto → R D) : Sp1 := fun vs H Q => ∃ ds S M μ, SOk K H M μ S ∧ RepL K H M μ ds vs ∧ Post (RV K) K (call ds S) H M μ Q
def pick {α : Type} (perm : List Nat) (l : List α) : List α := perm.filterMap fun i => l[i]?
/-- a def as callers see it -/
structure FnV (P : Program) (w : World) (K : PySem.W.Frag) (mg : Str → Option Value) (base : Heap) (kwp : List (Str × Nat × List Str × List Nat)) (k : Nat) (x : Str) (call : List D → Ev.Sto → R D) : Prop where
  ex : ∃ (f : Addr) (fd : FuncData) (ps : List Str), mg x = some (.ref f) ∧ PySem.W.keepIn K (.ref f) = true ∧ FnG P w K mg base k f fd ps (spG K call) ∧
    (∀ (s : Shared) (us : List Value), us.length = ps.length → K.In s.heap → BindsTo s fd ⟨us, []⟩ (ps.zip us)) ∧
    (∀ (n : Nat) (ks : List Str) (perm : List Nat), (x, n, ks, perm) ∈ kwp → ∀ (s : Shared) (us ws : List Value), us.length = n → ws.length = ks.length → K.In s.heap → BindsTo s fd ⟨us, ks.zip ws⟩ (ps.zip (us ++ pick perm ws)))
section
variable {X : Cx} {pos p : Pos} {es : List Expr} {fs : Sl → Ev.Sto → R (List D)} {k : Nat} {x : Str} {kwp : List (Str × Nat × List Str × List Nat)} {call : List D → Ev.Sto → R D}
theorem run_g {f : Addr} {fd : FuncData} {ps : List Str} {args : Args} {pins : List (Addr × Obj)} {σ : L2.St} {H : Hp} {s : Shared} {Q : VK} {us : List Value} {vs : List V} {sp : Sp1} (hX : Cok X) (hr : Room k X.A) (F : FnG X.prog X.w X.K X.mg X.base k f fd ps sp)
    (I : Inv X pins σ H s) (hb : BindsTo s fd args (ps.zip us)) (r : Vals vs us) (h : sp vs H Q) : wpAny (model X.prog X.w) X.A (PySem.call (.ref f) args.pos args.kw) (EP X pins σ Q) X.xe s := by
  refine wpAny_call (codeAny_mono (F.run X.A X.stack s H args us vs Q hr hX.gd I.env0 hb r h) fun o s' hq => ?_)
  cases o with
  | error e => exact False.elim hq
  | ok fl =>
    cases fl with
    | ret u => exact I.after hq
    | next => exact False.elim hq
    | brk => exact False.elim hq
    | cont => exact False.elim hq
theorem sp_of {K : PySem.W.Frag} {σ : L2.St} {H : Hp} {Q : VK} (h : tE K (fun σ S => (fs σ S).bind fun ds S1 => call ds S1) σ H Q) : tA K fs σ H fun vs H1 => spG K call vs H1 Q := by
  obtain ⟨σd, S, M, μ, hS, hσ, hp⟩ := h
  exact ⟨σd, S, M, μ, hS, hσ, hp.seq fun x S1 v H1 M1 μ1 e1 x1 s1 r1 hp => ⟨x, S1, M1, μ1, s1, r1, hp⟩⟩
/-- f() -/
theorem r_call0 (hX : Cok X) (hr : Room k X.A) (F : FnV X.prog X.w X.K X.mg X.base kwp k x call) (hg : Gl X x) (hd : (x == ("__debug__" : Str)) = false) :
    PE X (.Call (.Name x p) [] [] pos) (tE X.K fun σ S => call [] S) := by
  obtain ⟨f, fd, ps, hm, hk, G, hb, _⟩ := F.ex
  refine ⟨fun pins s σ H Q I h => ?_⟩
  obtain ⟨σd, S, M, μ, hS, hσ, hp⟩ := h
  refine wpAny_Call_Name_kw (ld_glob I hg hm ?_ hd)
  refine PySem.W.callWith_K0 I.kIn hk ?_
  have q : spG X.K call [] H Q := ⟨[], S, M, μ, hS, rfl, hp⟩
  exact run_g (args := ⟨[], []⟩) (us := []) hX hr G I (hb s [] (by have := G.len _ _ _ q; simpa using this) I.kIn) .nil q
/-- f(e, ..) -/
theorem r_call {e : Expr} (hX : Cok X) (hr : Room k X.A) (F : FnV X.prog X.w X.K X.mg X.base kwp k x call) (hg : Gl X x) (hd : (x == ("__debug__" : Str)) = false) (ha : PA X (e :: es) (tA X.K fs)) (hpl : (backTo pos (starEach es X.env)).any (·.1) = false) (hs : isStar e = false) :
    PE X (.Call (.Name x p) (e :: es) [] pos) (tE X.K fun σ S => (fs σ S).bind fun ds S1 => call ds S1) := by
  obtain ⟨f, fd, ps, hm, hk, G, hb, _⟩ := F.ex
  refine ⟨fun pins s σ H Q I h => ?_⟩
  have h := sp_of h
  refine wpAny_Call_Name_kw (ld_glob I hg hm ?_ hd)
  refine PySem.W.callWith_K (h₀ := X.base) I.ok.mod.kin hk (thn (ha.run pos pins s σ H _ I h) fun us s1 ⟨vs, H1, I1, r, q⟩ => ⟨I1.kIn, ?_⟩) (star_cons hs) hpl
  exact run_g (args := ⟨us, []⟩) hX hr G I1 (hb s1 us (by have := G.len _ _ _ q; rw [← r.length]; exact this) I1.kIn) r q
/-! ### keywords -/
theorem rep_pick {K : PySem.W.Frag} {H : Hp} {M : Addr → Prop} {μ : List Addr} {l : List D} {vs : List V} (r : RepL K H M μ l vs) : ∀ perm : List Nat, RepL K H M μ (pick perm l) (pick perm vs)
  | [] => rfl
  | i :: q => by
    have ih := rep_pick r q
    cases e : l[i]? with
    | none =>
      have e2 : vs[i]? = none := by
        rw [List.getElem?_eq_none_iff] at e ⊢
        rw [← r.len]; exact e
      simp only [pick, List.filterMap_cons, e, e2]
      exact ih
    | some d =>
      obtain ⟨v, e1, h1⟩ := r.get e
      simp only [pick, List.filterMap_cons, e, e1]
      exact ⟨v, _, rfl, h1, ih⟩
theorem vals_pick {l : List V} {us : List Value} (r : Vals l us) : ∀ perm : List Nat, Vals (pick perm l) (pick perm us)
  | [] => .nil
  | i :: q => by
    have ih := vals_pick r q
    cases e : l[i]? with
    | none =>
      simp only [pick, List.filterMap_cons, e, r.none_of e]
      exact ih
    | some d =>
      obtain ⟨v, e1, h1⟩ := r.get e
      simp only [pick, List.filterMap_cons, e, e1]
      exact .cons h1 ih
theorem kw_all {env : Env} : ∀ {kws : List Keyword} {ks : List Str} {pos : Pos}, kwNames kws = some ks → (backToKw pos (keywordEach kws env)).all (·.1.isSome) = true ∧ (backToKw pos (keywordEach kws env)).filterMap (·.1) = ks ∧ (backToKw pos (keywordEach kws env)).any (·.1.isNone) = false
  | [], ks, pos, h => by cases h; exact ⟨rfl, rfl, rfl⟩
  | ⟨some x, e, q⟩ :: r, ks, pos, h => by
    cases hr : kwNames r with
    | none => simp [kwNames, hr] at h
    | some ks' =>
      simp [kwNames, hr] at h
      subst h
      obtain ⟨h1, h2, h3⟩ := kw_all (env := env) (pos := pos) hr
      refine ⟨?_, ?_, ?_⟩
      · show (true && (backToKw pos (keywordEach r env)).all (·.1.isSome)) = true
        rw [h1]; rfl
      · show (x :: (backToKw pos (keywordEach r env)).filterMap (·.1)) = _
        rw [h2]
      · show (false || (backToKw pos (keywordEach r env)).any (·.1.isNone)) = false
        rw [h3]; rfl
  | ⟨none, e, q⟩ :: r, ks, pos, h => by simp [kwNames] at h
theorem k_nil : PK X [] (tA X.K fun _ S => .ok [] S) := ⟨fun pos pins s σ H Q I h => pk_nil.run pos pins s σ H Q I (by
  obtain ⟨σd, S, M, μ, hS, hσ, hp⟩ := h
  exact hp.fin hS rfl)⟩
theorem k_cons {a : Expr} {f : Sl → Ev.Sto → R D} {nm : Option Str} {kpos : Pos} {kws : List Keyword} (ha : PE X a (tE X.K f)) (hr : PK X kws (tA X.K fs)) : PK X (⟨nm, a, kpos⟩ :: kws) (tA X.K fun σ S => (f σ S).bind fun x S1 => (fs σ S1).bind fun xs S2 => .ok (x :: xs) S2) :=
  ⟨fun pos pins s σ H Q I h => (pk_cons ha hr).run pos pins s σ H Q I (by
    obtain ⟨σd, S, M, μ, hS, hσ, hp⟩ := h
    refine ⟨σd, S, M, μ, hS, hσ, hp.seq fun x S1 v H1 M1 μ1 e1 x1 s1 r1 hp => ?_⟩
    refine ⟨σd, S1, M1, μ1, s1, hσ.of hS x1, hp.seq fun y S2 w H2 M2 μ2 e2 x2 s2 r2 hp => ?_⟩
    exact hp.fin s2 ⟨v, w, rfl, r1.of s1 x2, r2⟩)⟩
theorem any_both {pos : Pos} {env : Env} {es : List Expr} {kws : List Keyword} (h1 : (backTo pos (starEach es env)).any (·.1) = false) (h2 : (backToKw pos (keywordEach kws env)).any (·.1.isNone) = false) :
    ((backTo pos (starEach es env)).any (·.1) || (backToKw pos (keywordEach kws env)).any (·.1.isNone)) = false := by rw [h1, h2]; rfl
theorem len_of_post {α β : Type} {Rl : Hp → (Addr → Prop) → List Addr → α → β → Prop} : True := trivial
/-- f(e, .., k = v, ..) -/
theorem r_callK {gs : Sl → Ev.Sto → R (List D)} {kws : List Keyword} {ks : List Str} {n : Nat} {perm : List Nat} (hX : Cok X) (hr : Room k X.A) (F : FnV X.prog X.w X.K X.mg X.base kwp k x call) (hg : Gl X x) (hd : (x == ("__debug__" : Str)) = false)
    (ha : PA X es (tA X.K fs)) (hl : ∀ σ S ds S1, fs σ S = .ok ds S1 → ds.length = n) (hl2 : ∀ σ S ds S1, gs σ S = .ok ds S1 → ds.length = ks.length) (hpl : (backTo pos (starEach es X.env)).any (·.1) = false) (hs : ∀ e r, es = e :: r → isStar e = false) (hz : es = [] → ∀ σ S, fs σ S = .ok [] S)
    (hkw : PK X kws (tA X.K gs)) (hks : kwNames kws = some ks) (hin : (x, n, ks, perm) ∈ kwp) :
    PE X (.Call (.Name x p) es kws pos) (tE X.K fun σ S => (fs σ S).bind fun ds S1 => (gs σ S1).bind fun es S2 => call (ds ++ perm.filterMap fun i => es[i]?) S2) := by
  obtain ⟨f, fd, ps, hm, hk, G, _, hb⟩ := F.ex
  refine ⟨fun pins s σ H Q I h => ?_⟩
  obtain ⟨σd, S, M, μ, hS, hσ, hp⟩ := h
  refine wpAny_Call_Name_kw (ld_glob I hg hm ?_ hd)
  obtain ⟨k1, k2, k3⟩ := kw_all (env := X.env) (pos := pos) hks
  cases es with
  | nil =>
    have hz' := hz rfl
    simp only [hz', R.bind] at hp
    refine PySem.W.callWith_KW0 (h₀ := X.base) I.ok.mod.kin hk k1 ?_ (any_both rfl k3)
    rw [k2]
    have hp' : Post (RV X.K) X.K ((gs σd S).bind fun es S2 => call ([] ++ perm.filterMap fun i => es[i]?) S2) H M μ Q := hp
    refine thn (hkw.run pos pins s σ H (fun zs H1 => ∃ es, es.length = ks.length ∧ ∃ S1 M1 μ1, SOk X.K H1 M1 μ1 S1 ∧ RepL X.K H1 M1 μ1 es zs ∧ Post (RV X.K) X.K (call ([] ++ perm.filterMap fun i => es[i]?) S1) H1 M1 μ1 Q) I ⟨σd, S, M, μ, hS, hσ, hp'.seq fun y S2 w H2 M2 μ2 e2 x2 s2 r2 hp => ⟨y, hl2 _ _ _ _ e2, S2, M2, μ2, s2, r2, hp⟩⟩) fun ws s2 ⟨zs, H2, I2, rz, es, q1, S1, M1, μ1, q2, q3, q4⟩ => ⟨I2.kIn, ?_⟩
    have n0 : n = 0 := (hl σd S [] S (hz' σd S)).symm
    have lw : ws.length = ks.length := by rw [← rz.length, ← q3.len, q1]
    exact run_g (args := ⟨[], ks.zip ws⟩) (us := [] ++ pick perm ws) (vs := pick perm zs) hX hr G I2 (hb n ks perm hin s2 [] ws n0.symm lw I2.kIn) (vals_pick rz perm) ⟨_, S1, M1, μ1, q2, rep_pick q3 perm, q4⟩
  | cons e r =>
    refine PySem.W.callWith_KW (h₀ := X.base) I.ok.mod.kin hk k1 ?_ (any_both hpl k3) (star_cons (hs e r rfl))
    rw [k2]
    refine thn (ha.run pos pins s σ H (fun vs H1 => ∃ ds, ds.length = n ∧ ∃ σd S1 M1 μ1, SOk X.K H1 M1 μ1 S1 ∧ Slt X.K H1 M1 μ1 σd σ ∧ RepL X.K H1 M1 μ1 ds vs ∧ Post (RV X.K) X.K ((gs σd S1).bind fun es S2 => call (ds ++ perm.filterMap fun i => es[i]?) S2) H1 M1 μ1 Q) I
      ⟨σd, S, M, μ, hS, hσ, hp.seq fun x S1 v H1 M1 μ1 e1 x1 s1 r1 hp => ⟨x, hl _ _ _ _ e1, σd, S1, M1, μ1, s1, hσ.of hS x1, r1, hp⟩⟩) fun us s1 ⟨vs, H1, I1, r1, ds, d1, σd1, S1, M1, μ1, d2, d3, d4, d5⟩ => ?_
    refine thn (hkw.run pos pins s1 σ H1 (fun zs H2 => ∃ es, es.length = ks.length ∧ ∃ S2 M2 μ2, SOk X.K H2 M2 μ2 S2 ∧ RepL X.K H2 M2 μ2 ds vs ∧ RepL X.K H2 M2 μ2 es zs ∧ Post (RV X.K) X.K (call (ds ++ perm.filterMap fun i => es[i]?) S2) H2 M2 μ2 Q) I1
      ⟨σd1, S1, M1, μ1, d2, d3, d5.seq fun y S2 w H2 M2 μ2 e2 x2 s2 r2 hp => ⟨y, hl2 _ _ _ _ e2, S2, M2, μ2, s2, d4.of d2 x2, r2, hp⟩⟩) fun ws s2 ⟨zs, H2, I2, rz, es, q1, S2, M2, μ2, q2, q3, q4, q5⟩ => ⟨I2.kIn, ?_⟩
    have lu : us.length = n := by rw [← r1.length, ← q3.len, d1]
    have lw : ws.length = ks.length := by rw [← rz.length, ← q4.len, q1]
    exact run_g (args := ⟨us, ks.zip ws⟩) (us := us ++ pick perm ws) (vs := vs ++ pick perm zs) hX hr G I2 (hb n ks perm hin s2 us ws lu lw I2.kIn) (r1.append (vals_pick rz perm)) ⟨_, S2, M2, μ2, q2, q3.app (rep_pick q4 perm), q5⟩
end
end Ev

namespace Ev
open PySem PySem.Spec PyProof.Rows L2
section
variable {X : Cx} {pos p : Pos} {a b e o : Expr} {es : List Expr} {f g : Sl → Ev.Sto → R D} {fs : Sl → Ev.Sto → R (List D)} {x : Str}
/-! ### built-in functions and types -/
theorem boot_blt {n : Nat} {bl : Blt} (h : bltC x n = some bl) : bootBuiltins x = some (bltF bl) := by
  unfold bltC at h
  repeat' split at h
  all_goals first | (cases h; done) | skip
  all_goals (rename_i hc; cases h; first | (obtain ⟨rfl, _⟩ := hc; decide +kernel) | (cases hc; decide +kernel))
theorem r_blt (hX : Cok X) {n : Nat} {bl : Blt} (hb : bltC x n = some bl) (hg : Gl X x) (hm : X.mg x = none) (ha : PA X (e :: es) (tA X.K fs)) (hn : x ≠ "__name__") (hd : (x == ("__debug__" : Str)) = false) (hs : isStar e = false) (hpl : (backTo pos (starEach es X.env)).any (·.1) = false) :
    PE X (.Call (.Name x p) (e :: es) [] pos) (tE X.K fun σ S => (fs σ S).bind fun ds S1 => R.of (bltD S1 bl ds) S1) := by
  have hv := boot_blt hb
  have key : ∀ σ H Q, tE X.K (fun σ S => (fs σ S).bind fun ds S1 => R.of (bltD S1 bl ds) S1) σ H Q → tCB (rCl X.K fun S ds => bltD S bl ds) (tA X.K fs) σ H Q := fun σ H Q h => by
    obtain ⟨σd, S, M, μ, hS, hσ, hp⟩ := h
    exact ⟨σd, S, M, μ, hS, hσ, hp.seq fun x S1 v H1 M1 μ1 e1 x1 s1 r1 hp => ⟨S1, M1, μ1, x, s1, r1, hp⟩⟩
  have hc := bltR hX bl
  cases bl with
  | len => exact PE.imp (pe_callB hc hg hm hv ha hn hd (star_cons hs) hpl) key
  | tuple => exact PE.imp (pe_callTy hc hg hm hv ha hn hd (star_cons hs) hpl) key
  | int => exact PE.imp (pe_callTy hc hg hm hv ha hn hd (star_cons hs) hpl) key
  | abs => exact PE.imp (pe_callB hc hg hm hv ha hn hd (star_cons hs) hpl) key
  | max => exact PE.imp (pe_callB hc hg hm hv ha hn hd (star_cons hs) hpl) key
  | min => exact PE.imp (pe_callB hc hg hm hv ha hn hd (star_cons hs) hpl) key
  | sum => exact PE.imp (pe_callB hc hg hm hv ha hn hd (star_cons hs) hpl) key
  | all => exact PE.imp (pe_callB hc hg hm hv ha hn hd (star_cons hs) hpl) key
  | any => exact PE.imp (pe_callB hc hg hm hv ha hn hd (star_cons hs) hpl) key
  | repr => exact PE.imp (pe_callB hc hg hm hv ha hn hd (star_cons hs) hpl) key
  | str => exact PE.imp (pe_callTy hc hg hm hv ha hn hd (star_cons hs) hpl) key
theorem boot_ty {t : Ty} (h : tyC x = some t) : bootBuiltins x = some (.type (tyN t)) := by
  unfold tyC at h
  repeat' split at h
  all_goals first | (cases h; done) | skip
  all_goals (rename_i hc; cases h; cases hc; decide +kernel)
theorem r_isi {t : Ty} {y : Str} {p2 : Pos} (ht : tyC y = some t) (hg : Gl X "isinstance") (hm : X.mg "isinstance" = none) (hgy : Gl X y) (hmy : X.mg y = none) (hny : y ≠ "__name__") (hdy : (y == ("__debug__" : Str)) = false) (ha : PE X a (tE X.K f)) (hs : isStar a = false) :
    PE X (.Call (.Name "isinstance" p) [a, .Name y p2] [] pos) (tE X.K fun σ S => (f σ S).bind fun x S1 => R.of ((tyD S1 t x).map .bl) S1) := by
  have hT : PE X (.Name y p2) (tC (.ty (tyN t))) := pe_bltn hgy hmy (boot_ty ht) rfl hny hdy
  refine PE.imp (pe_callB call_isi hg hm PyProof.Rows.boot_isinstance (pa_cons ha (pa_cons hT pa_nil) (star_cons hs)) (by decide) (by decide) (star_cons hs)) fun σ H Q h => ?_
  obtain ⟨σd, S, M, μ, hS, hσ, hp⟩ := h
  refine ⟨σd, S, M, μ, hS, hσ, hp.seq fun x S1 v H1 M1 μ1 e1 x1 s1 r1 hp => ?_⟩
  obtain ⟨z, hz, hp⟩ := hp.ofL
  cases hk : tyD S1 t x with
  | none => rw [hk] at hz; cases hz
  | some k =>
    rw [hk] at hz; cases hz
    exact isi_ok s1 r1 hk (hp.fin s1 rfl)
/-! ### subscripts -/
theorem plain_ix (h : isSlice b = false) : PlainIx b := fun o i => by
  cases b <;> first | rfl | simp [isSlice] at h
theorem r_idx (hX : Cok X) (hs : isSlice b = false) (ha : PE X a (tE X.K f)) (hb : PE X b (tE X.K g)) : PE X (.Subscript a b pos) (tE X.K fun σ S => (f σ S).bind fun x S1 => (g σ S1).bind fun y S2 => R.of (idxD S2 x y) S2) :=
  PE.imp (pe_ix (idxR hX.un) ha hb (plain_ix hs)) fun σ H Q h => tE_op2 (op := fun S x y => idxD S x y) h
abbrev tO (K : PySem.W.Frag) (f : Sl → Ev.Sto → R (Option Int)) : L2.TO := tX RO K f
theorem o_no : PO X none (tO X.K fun _ S => .ok none S) := ⟨fun pins s σ H Q I h => po_none.run pins s σ H Q I (by
  obtain ⟨σd, S, M, μ, hS, hσ, hp⟩ := h
  exact hp.fin hS rfl)⟩
theorem o_so (ha : PE X a (tE X.K f)) : PO X (some a) (tO X.K fun σ S => (f σ S).bind fun x S1 => match x with
    | .int i => .ok (some i) S1
    | _ => .no) := ⟨fun pins s σ H Q I h => (po_some ha).run pins s σ H Q I (by
  obtain ⟨σd, S, M, μ, hS, hσ, hp⟩ := h
  refine ⟨σd, S, M, μ, hS, hσ, hp.seq fun x S1 v H1 M1 μ1 e1 x1 s1 r1 hp => ?_⟩
  cases x with
  | int i => exact ⟨i, r1, hp.fin s1 rfl⟩
  | _ => exact False.elim hp)⟩
theorem r_slc {lo hi : Option Expr} {fl fh : Sl → Ev.Sto → R (Option Int)} {p2 : Pos} (ha : PE X a (tE X.K f)) (hl : PO X lo (tO X.K fl)) (hh : PO X hi (tO X.K fh)) :
    PE X (.Subscript a (.Slice lo hi none p2) pos) (tE X.K fun σ S => (f σ S).bind fun x S1 => (fl σ S1).bind fun l S2 => (fh σ S2).bind fun h S3 => R.of (slcD S3 x l h) S3) :=
  PE.imp (pe_slice slcR ha hl hh) fun σ H Q h => by
    obtain ⟨σd, S, M, μ, hS, hσ, hp⟩ := h
    refine ⟨σd, S, M, μ, hS, hσ, hp.seq fun x S1 v H1 M1 μ1 e1 x1 s1 r1 hp => ?_⟩
    refine ⟨σd, S1, M1, μ1, s1, hσ.of hS x1, hp.seq fun l S2 l' H2 M2 μ2 e2 x2 s2 r2 hp => ?_⟩
    cases (show l = l' from r2)
    refine ⟨σd, S2, M2, μ2, s2, (hσ.of hS x1).of s1 x2, hp.seq fun h S3 h' H3 M3 μ3 e3 x3 s3 r3 hp => ?_⟩
    cases (show h = h' from r3)
    exact ⟨S3, M3, μ3, x, s3, (r1.of s1 x2).of s2 x3, hp⟩
theorem r_rev {k : Nat} {p1 p2 p3 : Pos} (ha : PE X a (tE X.K f)) : PE X (.Subscript a (.Slice none none (some (.UnaryOp .USub (.Constant (.int 1) k p1) p2)) p3) pos) (tE X.K fun σ S => (f σ S).bind fun x S1 => R.of (revD S1 x) S1) :=
  PE.imp (EvP.pe_back ha) fun σ H Q h => by
    obtain ⟨σd, S, M, μ, hS, hσ, hp⟩ := h
    refine ⟨σd, S, M, μ, hS, hσ, hp.seq fun x S1 v H1 M1 μ1 e1 x1 s1 r1 hp => ?_⟩
    obtain ⟨z, hz, hp⟩ := hp.ofL
    unfold revD at hz
    split at hz
    · rename_i l e
      cases hz
      obtain ⟨c, vs, rfl, h1, h2⟩ := repF s1 r1 e
      exact ⟨c, vs, rfl, .inl ⟨h1, hp.frl s1 h2.rev⟩⟩
    · rename_i l e
      cases hz
      have z := der_tup e
      subst z
      obtain ⟨c, vs, rfl, h1, h2⟩ := r1
      exact ⟨c, vs, rfl, .inr ⟨h1, hp.tup s1 h2.rev⟩⟩
    · cases hz
/-! ### methods of lists -/
def rM (K : PySem.W.Frag) (m : Mth) : V → List V → Hp → VK → Prop := fun v vs H Q => ∃ S M μ d ds, SOk K H M μ S ∧ Rep K H M μ d v ∧ RepL K H M μ ds vs ∧ Post (RV K) K (mthD m d ds S) H M μ Q
theorem mR_append : MtR X "list.append" (rM X.K .append) := by
  intro pins s σ H x xs v us Q I rx rxs h
  obtain ⟨S, M, μ, d, ds, hS, r1, r2, hp⟩ := h
  unfold mthD at hp
  split at hp
  · rename_i n
    split at hp
    · rename_i l e
      split at hp
      · rename_i y
        split at hp
        · rename_i hl
          obtain ⟨a, vs, e1, e2, r⟩ := hS.at e
          obtain ⟨a', rfl, e1'⟩ := r1
          rw [e1] at e1'; cases e1'
          obtain ⟨w, rfl, r3⟩ := rep_one r2
          refine mt_append pins s σ H _ _ v us Q I rx rxs ⟨a, vs, w, rfl, rfl, e2, by rw [← r.len, ← line_eq]; exact hl, hp.go (.wrote hS.sub e1 e2) (hS.wrote e1 e2 (r.app (RepL.one r3))) rfl⟩
        · exact False.elim hp
      · exact nomatch ‹Mth.append = Mth.extend›
      · exact nomatch ‹Mth.append = Mth.pop›
      · exact nomatch ‹Mth.append = Mth.pop›
      · exact False.elim hp
    · exact False.elim hp
  · exact False.elim hp
theorem ixN_bounds {n k : Nat} {i : Int} (h : ixN n i = some k) : seqIndex? i n = some k ∧ k < n ∧ -(n : Int) ≤ i ∧ i < n := ixN_seq h
theorem mR_pop1 : MtR X "list.pop" (fun v vs H Q => ∃ S M μ d e, SOk X.K H M μ S ∧ Rep X.K H M μ d v ∧ RepL X.K H M μ [e] vs ∧ Post (RV X.K) X.K (mthD .pop d [e] S) H M μ Q) := by
  intro pins s σ H x xs v us Q I rx rxs h
  obtain ⟨S, M, μ, d, e0, hS, r1, r2, hp⟩ := h
  unfold mthD at hp
  split at hp
  · rename_i n
    split at hp
    · rename_i l e
      obtain ⟨a, vs, e1, e2, r⟩ := hS.at e
      obtain ⟨a', rfl, e1'⟩ := r1
      rw [e1] at e1'; cases e1'
      obtain ⟨w, rfl, r3⟩ := rep_one r2
      split at hp
      · exact nomatch ‹Mth.pop = Mth.append›
      · exact nomatch ‹Mth.pop = Mth.extend›
      · rename_i i hm he
        cases he
        cases (show w = .int i from r3)
        split at hp
        · rename_i k hk
          split at hp
          · rename_i y hy
            obtain ⟨g1, g2, g3, g4⟩ := ixN_seq hk
            obtain ⟨u, hu, ru⟩ := r.get hy
            obtain ⟨hz, _⟩ := I.hok a _ e2
            have hz' : vs.length ≤ sizeLine := hz
            rw [sizeLine_eq] at hz'
            rw [r.len] at g1 g3 g4
            have xw : Ext H M μ (upd H a (.lst (vs.eraseIdx k))) M μ := .wrote hS.sub e1 e2
            exact mt_popAt pins s σ H _ _ v us Q I rx rxs ⟨a, vs, i, k, u, rfl, rfl, e2, by omega, by omega, g1, hu, hp.go xw (hS.wrote e1 e2 (r.erase k)) (ru.of hS xw)⟩
          · exact False.elim hp
        · exact False.elim hp
      · exact nomatch ‹[e0] = []›
      · exact False.elim hp
    · exact False.elim hp
  · exact False.elim hp
theorem isL_at {K : PySem.W.Frag} {H : Hp} {M : Addr → Prop} {μ : List Addr} {S : Ev.Sto} {d : D} {v : V} (hS : SOk K H M μ S) (r : Rep K H M μ d v) (h : isL S d = true) : ∃ xs a, v = .ref a ∧ SqL K H a xs := by
  unfold isL at h
  split at h
  · split at h
    · rename_i n l e
      obtain ⟨a, rfl, e1⟩ := r
      obtain ⟨b, vs, e2, e3, _⟩ := hS.at e
      rw [e1] at e2; cases e2
      exact ⟨vs, a, rfl, SqL.of e3⟩
    · cases h
  · cases h
theorem plain_base {nm : Str} (h : plainRecv o = true) : attributeBase o nm X.env (eval o X.env) = eval o X.env := by
  cases o <;> first | rfl | simp [plainRecv] at h
theorem tyV_of {K : PySem.W.Frag} {H : Hp} {a : Addr} {xs : List V} (h : SqL K H a xs) : tyV K "list" (.ref a) H := .inl ⟨rfl, xs, h⟩
theorem r_append {apos : Pos} (ho : PE X o (tE X.K f)) (ha : PE X a (tE X.K g)) (hr : plainRecv o = true) (hl : (apos.endLine == pos.line) = true) (hs : isStar a = false) :
    PE X (.Call (.Attribute o "append" apos) [a] [] pos) (tE X.K fun σ S => (f σ S).bind fun x S1 => if isL S1 x = true then ((g σ S1).bind fun y S2 => .ok [y] S2).bind fun ds S2 => mthD .append x ds S2 else .no) := by
  refine PE.imp (pe_bm PySem.F.plainAttrs_list PySem.F.slot_list_append PySem.F.type_list_append mR_append ho (pa_cons ha pa_nil (star_cons hs)) (plain_base hr) (by rw [star_cons hs]; rfl) hl (star_cons hs) rfl) fun σ H Q h => ?_
  obtain ⟨σd, S, M, μ, hS, hσ, hp⟩ := h
  refine ⟨σd, S, M, μ, hS, hσ, hp.seq fun x S1 v H1 M1 μ1 e1 x1 s1 r1 hp => ?_⟩
  split at hp
  case isFalse => exact False.elim hp
  rename_i hL
  rw [bind_assoc] at hp
  have ty : tyV X.K "list" v H1 := by
    obtain ⟨xs, c, rfl, h2⟩ := isL_at s1 r1 hL
    exact tyV_of h2
  refine ⟨ty, σd, S1, M1, μ1, s1, hσ.of hS x1, hp.seq fun y S2 w H2 M2 μ2 e2 x2 s2 r2 hp => ?_⟩
  exact ⟨S2, M2, μ2, x, [y], s2, r1.of s1 x2, RepL.one r2, hp⟩
theorem r_pop1 {apos : Pos} (ho : PE X o (tE X.K f)) (ha : PE X a (tE X.K g)) (hr : plainRecv o = true) (hl : (apos.endLine == pos.line) = true) (hs : isStar a = false) :
    PE X (.Call (.Attribute o "pop" apos) [a] [] pos) (tE X.K fun σ S => (f σ S).bind fun x S1 => if isL S1 x = true then ((g σ S1).bind fun y S2 => .ok [y] S2).bind fun ds S2 => mthD .pop x ds S2 else .no) := by
  refine PE.imp (pe_bm PySem.F.plainAttrs_list PySem.F.slot_list_pop PySem.F.type_list_pop mR_pop1 ho (pa_cons ha pa_nil (star_cons hs)) (plain_base hr) (by rw [star_cons hs]; rfl) hl (star_cons hs) rfl) fun σ H Q h => ?_
  obtain ⟨σd, S, M, μ, hS, hσ, hp⟩ := h
  refine ⟨σd, S, M, μ, hS, hσ, hp.seq fun x S1 v H1 M1 μ1 e1 x1 s1 r1 hp => ?_⟩
  split at hp
  case isFalse => exact False.elim hp
  rename_i hL
  rw [bind_assoc] at hp
  have ty : tyV X.K "list" v H1 := by
    obtain ⟨xs, c, rfl, h2⟩ := isL_at s1 r1 hL
    exact tyV_of h2
  refine ⟨ty, σd, S1, M1, μ1, s1, hσ.of hS x1, hp.seq fun y S2 w H2 M2 μ2 e2 x2 s2 r2 hp => ?_⟩
  exact ⟨S2, M2, μ2, x, y, s2, r1.of s1 x2, RepL.one r2, hp⟩
/-! ### new lists -/
theorem f_list (hg : Gl X "list") (hm : X.mg "list" = none) (ha : PE X a (tE X.K f)) (hs : isStar a = false) : PE X (.Call (.Name "list" p) [a] [] pos) (tF X.K fun σ S => (f σ S).bind fun x S1 => R.of (seqD S1 x) S1) :=
  PE.imp (pe_callTy call_list_of hg hm (by decide +kernel) (pa_cons ha pa_nil (star_cons hs)) (by decide) (by decide) (star_cons hs)) fun σ H Q h => by
    obtain ⟨σd, S, M, μ, hS, hσ, hp⟩ := h
    refine ⟨σd, S, M, μ, hS, hσ, hp.seq fun x S1 v H1 M1 μ1 e1 x1 s1 r1 hp => ?_⟩
    obtain ⟨l, hz, hp⟩ := hp.ofL
    obtain ⟨c, vs, rfl, h1, h2⟩ := rep_seq s1 r1 hz
    exact ⟨c, vs, rfl, h2.imp (·.2) (·.2), hp.new s1 h1 x1.there⟩
end
end Ev

namespace Ev
open PySem PySem.Spec PyProof.Rows L2
section
variable {X : Cx} {pos p p2 pos2 : Pos} {a b e o : Expr} {es : List Expr} {f g : Sl → Ev.Sto → R D} {fs : Sl → Ev.Sto → R (List D)} {x : Str}
theorem rep_rng {K : PySem.W.Frag} {H : Hp} {M : Addr → Prop} {μ : List Addr} (i j : Int) : RepL K H M μ (rngL i j) (rgV i j) := by
  unfold rngL rgV
  generalize List.range (j - i).toNat = l
  induction l with
  | nil => rfl
  | cons n r ih => exact ⟨_, _, rfl, rfl, ih⟩
theorem rng_ok {i j : Int} (h : rngOk i j = true) : RgOk i j := by
  unfold rngOk at h
  simp only [Bool.and_eq_true, decide_eq_true_eq] at h
  obtain ⟨⟨h1, h2⟩, h3⟩ := h
  exact ⟨by omega, by omega, by omega, by omega, h3⟩
abbrev sRng1 (f : Sl → Ev.Sto → R D) : Sl → Ev.Sto → R (List D × List (Nat × List D)) := fun σ S => (f σ S).bind fun x S1 => match x with
  | .int j => if rngOk 0 j = true then .ok (rngL 0 j, []) S1 else .no
  | _ => .no
abbrev sRng2 (f g : Sl → Ev.Sto → R D) : Sl → Ev.Sto → R (List D × List (Nat × List D)) := fun σ S => (f σ S).bind fun x S1 => (g σ S1).bind fun y S2 => match x, y with
  | .int i, .int j => if rngOk i j = true then .ok (rngL i j, []) S2 else .no
  | _, _ => .no
theorem f_rng1 (hX : Cok X) (hl : Gl X "list") (ml : X.mg "list" = none) (hg : Gl X "range") (hm : X.mg "range" = none) (ha : PE X a (tE X.K f)) (hs : isStar a = false) :
    PE X (.Call (.Name "list" p) [.Call (.Name "range" p2) [a] [] pos2] [] pos) (tF X.K fun σ S => (sRng1 f σ S).bind fun p S1 => .ok p.1 S1) :=
  PE.imp (pe_listRg hX.calm hl ml (prg_1 hg hm ha (star_cons hs))) fun σ H Q h => by
    obtain ⟨σd, S, M, μ, hS, hσ, hp⟩ := h
    dsimp only [sRng1] at hp
    rw [bind_assoc] at hp
    refine ⟨σd, S, M, μ, hS, hσ, hp.seq fun x S1 v H1 M1 μ1 e1 x1 s1 r1 hp => ?_⟩
    split at hp
    · rename_i j
      split at hp
      · rename_i hr
        exact ⟨j, r1, rng_ok hr, hp.new s1 (rep_rng 0 j) x1.there⟩
      · exact False.elim hp
    · exact False.elim hp
theorem f_rng2 (hX : Cok X) (hl : Gl X "list") (ml : X.mg "list" = none) (hg : Gl X "range") (hm : X.mg "range" = none) (ha : PE X a (tE X.K f)) (hb : PE X b (tE X.K g)) (hs : isStar a = false) (hs2 : isStar b = false) :
    PE X (.Call (.Name "list" p) [.Call (.Name "range" p2) [a, b] [] pos2] [] pos) (tF X.K fun σ S => (sRng2 f g σ S).bind fun p S1 => .ok p.1 S1) :=
  PE.imp (pe_listRg hX.calm hl ml (prg_2 hg hm ha hb (star_cons hs) (star_cons hs2) (by rw [star_cons hs2]; rfl))) fun σ H Q h => by
    obtain ⟨σd, S, M, μ, hS, hσ, hp⟩ := h
    dsimp only [sRng2] at hp
    simp only [bind_assoc] at hp
    refine ⟨σd, S, M, μ, hS, hσ, hp.seq fun x S1 v H1 M1 μ1 e1 x1 s1 r1 hp => ?_⟩
    refine ⟨σd, S1, M1, μ1, s1, hσ.of hS x1, hp.seq fun y S2 w H2 M2 μ2 e2 x2 s2 r2 hp => ?_⟩
    cases x with
    | int i => cases y with
      | int j =>
        dsimp only at hp
        split at hp
        · rename_i hr
          exact ⟨i, j, r1, r2, rng_ok hr, hp.new s2 (rep_rng i j) (x1.trans x2).there⟩
        · exact False.elim hp
      | _ => exact False.elim hp
    | _ => exact False.elim hp
theorem r_trng1 (hX : Cok X) (hl : Gl X "tuple") (ml : X.mg "tuple" = none) (hg : Gl X "range") (hm : X.mg "range" = none) (ha : PE X a (tE X.K f)) (hs : isStar a = false) :
    PE X (.Call (.Name "tuple" p) [.Call (.Name "range" p2) [a] [] pos2] [] pos) (tE X.K fun σ S => (sRng1 f σ S).bind fun p S1 => .ok (.tup p.1) S1) :=
  PE.imp (pe_tupRg hX.calm hl ml (prg_1 hg hm ha (star_cons hs))) fun σ H Q h => by
    obtain ⟨σd, S, M, μ, hS, hσ, hp⟩ := h
    dsimp only [sRng1] at hp
    rw [bind_assoc] at hp
    refine ⟨σd, S, M, μ, hS, hσ, hp.seq fun x S1 v H1 M1 μ1 e1 x1 s1 r1 hp => ?_⟩
    split at hp
    · rename_i j
      split at hp
      · rename_i hr
        exact ⟨j, r1, rng_ok hr, hp.tup s1 (rep_rng 0 j)⟩
      · exact False.elim hp
    · exact False.elim hp
theorem r_trng2 (hX : Cok X) (hl : Gl X "tuple") (ml : X.mg "tuple" = none) (hg : Gl X "range") (hm : X.mg "range" = none) (ha : PE X a (tE X.K f)) (hb : PE X b (tE X.K g)) (hs : isStar a = false) (hs2 : isStar b = false) :
    PE X (.Call (.Name "tuple" p) [.Call (.Name "range" p2) [a, b] [] pos2] [] pos) (tE X.K fun σ S => (sRng2 f g σ S).bind fun p S1 => .ok (.tup p.1) S1) :=
  PE.imp (pe_tupRg hX.calm hl ml (prg_2 hg hm ha hb (star_cons hs) (star_cons hs2) (by rw [star_cons hs2]; rfl))) fun σ H Q h => by
    obtain ⟨σd, S, M, μ, hS, hσ, hp⟩ := h
    dsimp only [sRng2] at hp
    simp only [bind_assoc] at hp
    refine ⟨σd, S, M, μ, hS, hσ, hp.seq fun x S1 v H1 M1 μ1 e1 x1 s1 r1 hp => ?_⟩
    refine ⟨σd, S1, M1, μ1, s1, hσ.of hS x1, hp.seq fun y S2 w H2 M2 μ2 e2 x2 s2 r2 hp => ?_⟩
    cases x with
    | int i => cases y with
      | int j =>
        dsimp only at hp
        split at hp
        · rename_i hr
          exact ⟨i, j, r1, r2, rng_ok hr, hp.tup s2 (rep_rng i j)⟩
        · exact False.elim hp
      | _ => exact False.elim hp
    | _ => exact False.elim hp
/-! ### sorted -/
theorem each_rep {K : PySem.W.Frag} {H : Hp} {M : Addr → Prop} {μ : List Addr} : ∀ {l : List D} {vs : List V} {us : List Value}, RepL K H M μ l vs → Vals vs us → PySem.W.EachIs (fun u d => ∃ v, RelV v u ∧ Rep K H M μ d v) us l
  | [], _, _, h, r => by rw [show _ = _ from h] at r; cases r; exact .nil
  | d :: q, _, _, h, r => by
    obtain ⟨v, w, rfl, h1, h2⟩ := h
    cases r with
    | cons r1 r2 => exact .cons ⟨v, r1, h1⟩ (each_rep h2 r2)
theorem rep_each {K : PySem.W.Frag} {H : Hp} {M : Addr → Prop} {μ : List Addr} : ∀ {l : List D} {us : List Value}, PySem.W.EachIs (fun u d => ∃ v, RelV v u ∧ Rep K H M μ d v) us l → ∃ vs, RepL K H M μ l vs ∧ Vals vs us
  | [], _, h => by cases h; exact ⟨[], rfl, .nil⟩
  | d :: q, _, h => by
    cases h with
    | cons h1 h2 =>
      obtain ⟨v, r, h3⟩ := h1
      obtain ⟨vs, g1, g2⟩ := rep_each h2
      exact ⟨v :: vs, ⟨v, vs, rfl, h3, g1⟩, .cons r g2⟩
theorem pyL_map (l : List D) : pyL l = l.map D.py := by
  induction l with
  | nil => rfl
  | cons d r ih => simp [pyL, ih]
theorem shL_all {n : Nat} : ∀ {l : List D}, shL n l = true → ∀ d ∈ l, d.sh n = true
  | [], _, _, h => by simp at h
  | a :: r, s, d, h => by
    simp only [shL, Bool.and_eq_true] at s
    rcases List.mem_cons.mp h with rfl | h
    · exact s.1
    · exact shL_all s.2 d h
theorem each_imp {α β : Type} {R R' : α → β → Prop} : ∀ {as : List α} {bs : List β}, PySem.W.EachIs R as bs → (∀ a b, b ∈ bs → R a b → R' a b) → PySem.W.EachIs R' as bs
  | _, _, .nil, _ => .nil
  | _, _, .cons h t, k => .cons (k _ _ (List.mem_cons_self) h) (each_imp t fun a b hb => k a b (List.mem_cons_of_mem _ hb))
theorem sort_like {l0 : List D} (c1 : shL 60 l0 = true) (c4 : (l0.all fun x => match x with | .tup (_ :: _) => true | _ => false) = true ∨ (l0.all fun x => match x with | .tup _ => false | .non => false | _ => true) = true) : PySem.W.Sortable (l0.map D.py) := by
  rcases c4 with c4 | c4
  · refine .inl fun y hy => ?_
    obtain ⟨y', hy', rfl⟩ := List.mem_map.mp hy
    have z := List.all_eq_true.mp c4 y' hy'
    split at z
    · exact ⟨_, _, rfl⟩
    · cases z
  · refine .inr fun y hy => ?_
    obtain ⟨y', hy', rfl⟩ := List.mem_map.mp hy
    have z := List.all_eq_true.mp c4 y' hy'
    have zz := shL_all c1 y' hy'
    cases y' with
    | tup _ => cases z
    | non => cases z
    | loc _ => simp [D.sh] at zz
    | emp => simp [D.sh] at zz
    | bl _ => exact ⟨fun z => by simp [D.py] at z, fun _ z => by simp [D.py] at z⟩
    | int _ => exact ⟨fun z => by simp [D.py] at z, fun _ z => by simp [D.py] at z⟩
    | str _ => exact ⟨fun z => by simp [D.py] at z, fun _ z => by simp [D.py] at z⟩
    | frl _ => exact ⟨fun z => by simp [D.py] at z, fun _ z => by simp [D.py] at z⟩
theorem sortR (hX : Cok X) : CallR X (.builtin "sorted") (fun xs H Q => ∃ S M μ d v l, xs = [v] ∧ SOk X.K H M μ S ∧ Rep X.K H M μ d v ∧ sortX S d = some l ∧ ∀ vs, RepL X.K H M μ l vs → ∀ p, H p = none → Q (.ref p) (upd H p (.lst vs))) := by
  intro pins s σ H xs us Q I rs h
  obtain ⟨S, M, μ, d, v, l, rfl, hS, r, hz, q⟩ := h
  have hu := hX.un
  have core : ∀ {l0 : List D} {a : Addr} {vs : List V} {its : List Value}, us = [.ref a] → RepL X.K H M μ l0 vs → Vals vs its → sortD l0 = some l →
      (IsTup s.heap a its.toArray ∨ s.heap.IsList a its.toArray) → wpAny (model X.prog X.w) X.A (PySem.call (.builtin "sorted") us) (EP X pins σ Q) X.xe s := by
    intro l0 a vs its eu h2 rv hz pl
    subst eu
    unfold sortD at hz
    rw [msort_eq] at hz
    split at hz
    · rename_i hc
      obtain ⟨c1, c2, c3, c4⟩ := hc
      cases hz
      have ea := each_rep h2 rv
      have hl := line_eq
      have c3' : ∀ x ∈ l0, ∀ y ∈ l0, PySem.W.alike x.py y.py = true := fun x hx y hy => List.all_eq_true.mp (List.all_eq_true.mp c3 x hx) y hy
      have rd := each_imp ea fun u d hd (z : ∃ w, RelV w u ∧ Rep X.K H M μ d w) => show ∃ as, Reads s.heap u d.py as from let ⟨w, g1, g2⟩ := z; Dp.reads I _ w u (Rep.dp (shL_all c1 d hd) g2) g1
      have al : PySem.W.AllAlike (l0.map D.py) := fun x hx y hy => by
        obtain ⟨x', hx', rfl⟩ := List.mem_map.mp hx
        obtain ⟨y', hy', rfl⟩ := List.mem_map.mp hy
        exact c3' x' hx' y' hy'
      have dp : ∀ b, b ∈ l0 → X.A.units + 2 + b.py.depth < cLine := fun b hb => by
        have := (sh_lay (shL_all c1 b hb)).2
        omega
      have fin : ∀ out : List Value, out.length = l0.length → PySem.W.EachIs (fun u d => ∃ w, RelV w u ∧ Rep X.K H M μ d w) out (l0.mergeSort (PySem.W.dataLe false D.py)) → EP X pins σ Q (.ref (s.heap.objs.size + 1)) { s with heap := PyProof.Rows.sortedAll s.heap its out.toArray } := fun out ho eo => by
        obtain ⟨ws, g1, g2⟩ := rep_each eo
        obtain ⟨c, hc⟩ := PyProof.Rows.sortedAll_at s.heap its out.toArray
        have lo : ws.length ≤ sizeLine := by rw [g2.length, ho]; omega
        refine ⟨.ref (s.heap.objs.size + 1), _, I.laid (t' := s.toks) (o := .lst ws) (fun b ob q => PyProof.Rows.sortedAll_old q) (Nat.le_succ _) ?_, rfl, q ws g1 _ (I.hok.fresh (Nat.le_succ _))⟩
        exact ⟨lo, out, c, g2, hc⟩
      rcases pl with pl | pl
      · exact EvP.sorted_tup_data (enc := D.py) pl ea rd al (sort_like c1 c4) (by omega) dp fin
      · exact PySem.W.sorted_data (enc := D.py) pl ea rd al (sort_like c1 c4) (by omega) dp fin
    · cases hz
  unfold sortX at hz
  split at hz
  · rename_i l0 e
    obtain ⟨a, vs, rfl, h1, h2⟩ := repF hS r e
    obtain ⟨its, rv, pl, hz0⟩ := I.list h1
    obtain ⟨u, rfl, ru⟩ := vals1 rs
    cases ru
    exact core rfl h2 rv hz (.inr pl.isList)
  · rename_i l0 e
    have z := der_tup e
    subst z
    obtain ⟨a, vs, rfl, h1, h2⟩ := r
    obtain ⟨its, rv, pl, hz0⟩ := I.tuple h1
    obtain ⟨u, rfl, ru⟩ := vals1 rs
    cases ru
    exact core rfl h2 rv hz (.inl pl)
  · cases hz
theorem f_sorted (hX : Cok X) (hg : Gl X "sorted") (hm : X.mg "sorted" = none) (ha : PE X a (tE X.K f)) (hs : isStar a = false) : PE X (.Call (.Name "sorted" p) [a] [] pos) (tF X.K fun σ S => (f σ S).bind fun x S1 => R.of (sortX S1 x) S1) :=
  PE.imp (pe_callB (sortR hX) hg hm (by decide +kernel) (pa_cons ha pa_nil (star_cons hs)) (by decide) (by decide) (star_cons hs)) fun σ H Q h => by
    obtain ⟨σd, S, M, μ, hS, hσ, hp⟩ := h
    refine ⟨σd, S, M, μ, hS, hσ, hp.seq fun x S1 v H1 M1 μ1 e1 x1 s1 r1 hp => ?_⟩
    obtain ⟨l, hz, hp⟩ := hp.ofL
    exact ⟨S1, M1, μ1, x, v, l, rfl, s1, r1, hz, fun vs hv => hp.new s1 hv x1.there⟩
end
end Ev

/-! What is walked. -/
namespace Ev
open PySem PySem.Spec PyProof.Rows L2
/-- the iterator walks l, as long as the lists of g stay -/
def Src (K : PySem.W.Frag) (J : It) (l : List D) (g : List (Nat × List D)) (H : Hp) (M : Addr → Prop) (μ : List Addr) : Prop :=
  ∀ H' M' μ' S', Ext H M μ H' M' μ' → SOk K H' M' μ' S' → grd g S' = true → ∀ i : Nat, (i = l.length → J.stop i H') ∧ ∀ d, l[i]? = some d → J.go i H' ∧ ∀ x H2, J.yld i H' x H2 → Ext H' M' μ' H2 M' μ' ∧ SOk K H2 M' μ' S' ∧ Rep K H2 M' μ' d x
abbrev RS (K : PySem.W.Frag) : Hp → (Addr → Prop) → List Addr → List D × List (Nat × List D) → It → Prop := fun H M μ p J => Src K J p.1 p.2 H M μ
abbrev tI (K : PySem.W.Frag) (F : Sl → Ev.Sto → R (List D × List (Nat × List D))) : TI := tX (RS K) K F
section
variable {K : PySem.W.Frag} {H : Hp} {M : Addr → Prop} {μ : List Addr} {S : Ev.Sto}
theorem grd_app {g h : List (Nat × List D)} : grd (g ++ h) S = true ↔ grd g S = true ∧ grd h S = true := by
  unfold grd
  rw [List.all_append, Bool.and_eq_true]
/-- a list as it is found at each later moment -/
theorem src_lst {d : D} {l : List D} {a : Addr} (hS : SOk K H M μ S) (r : Rep K H M μ d (.ref a)) (e : deref S d = .frl l) {H' : Hp} {M' : Addr → Prop} {μ' : List Addr} {S' : Ev.Sto} (x : Ext H M μ H' M' μ') (hS' : SOk K H' M' μ' S') (hg : grd (srcG d S) S' = true) :
    ∃ vs, SqL K H' a vs ∧ RepL K H' M' μ' l vs := by
  cases d with
  | frl l' =>
    cases e
    have r' := r.of hS x
    obtain ⟨b, vs, eb, h1, h2⟩ := r'
    cases eb
    exact ⟨vs, h1.sq, h2⟩
  | loc n =>
    cases es : S[n]? with
    | none => simp [deref, es] at e
    | some o =>
      cases o with
      | lst l' =>
        simp [deref, es] at e
        subst e
        simp [srcG, es, grd] at hg
        obtain ⟨b, vs, g1, g2, g3⟩ := hS'.at hg
        obtain ⟨c, ec, g4⟩ := r.of hS x
        cases ec
        rw [g1] at g4; cases g4
        exact ⟨vs, SqL.of g2, g3⟩
      | ins c fs => simp [deref, es] at e
      | dct m => simp [deref, es] at e
  | _ => cases e
theorem src_tup {l : List D} {a : Addr} (hS : SOk K H M μ S) (r : Rep K H M μ (.tup l) (.ref a)) {H' : Hp} {M' : Addr → Prop} {μ' : List Addr} (x : Ext H M μ H' M' μ') : ∃ vs, SqT K H' a vs ∧ RepL K H' M' μ' l vs := by
  obtain ⟨b, vs, eb, h1, h2⟩ := r.of hS x
  cases eb
  exact ⟨vs, h1, h2⟩
theorem src_itl {d : D} {l : List D} {a : Addr} (hS : SOk K H M μ S) (r : Rep K H M μ d (.ref a)) (e : deref S d = .frl l) : Src K (Itl K a) l (srcG d S) H M μ := by
  intro H' M' μ' S' x hS' hg i
  obtain ⟨vs, h1, h2⟩ := src_lst hS r e x hS' hg
  refine ⟨fun hi => ⟨vs, h1, by rw [← h2.len]; exact Nat.le_of_eq hi.symm⟩, fun d' hd => ?_⟩
  obtain ⟨v, e1, e2⟩ := h2.get hd
  refine ⟨⟨vs, v, h1, e1⟩, fun y H2 hy => ?_⟩
  obtain ⟨rfl, hy⟩ := hy
  have := hy vs h1
  rw [e1] at this; cases this
  exact ⟨.refl, hS', e2⟩
theorem src_itt {l : List D} {a : Addr} (hS : SOk K H M μ S) (r : Rep K H M μ (.tup l) (.ref a)) : Src K (Itt K a) l [] H M μ := by
  intro H' M' μ' S' x hS' hg i
  obtain ⟨vs, h1, h2⟩ := src_tup hS r x
  refine ⟨fun hi => ⟨vs, h1, by rw [← h2.len]; exact Nat.le_of_eq hi.symm⟩, fun d' hd => ?_⟩
  obtain ⟨v, e1, e2⟩ := h2.get hd
  refine ⟨⟨vs, v, h1, e1⟩, fun y H2 hy => ?_⟩
  obtain ⟨rfl, hy⟩ := hy
  have := hy vs h1
  rw [e1] at this; cases this
  exact ⟨.refl, hS', e2⟩
theorem src_rng (i j : Int) : Src K (Itr i (j - i).toNat) (rngL i j) [] H M μ := by
  intro H' M' μ' S' x hS' hg n
  have hl : (rngL i j).length = (j - i).toNat := by simp [rngL]
  refine ⟨fun hi => by rw [hl] at hi; exact Nat.le_of_eq hi.symm, fun d' hd => ?_⟩
  have hn : n < (j - i).toNat := by rw [← hl]; exact (List.getElem?_eq_some_iff.mp hd).1
  refine ⟨hn, fun y H2 hy => ?_⟩
  obtain ⟨rfl, rfl⟩ := hy
  simp [rngL, List.getElem?_range hn] at hd
  subst hd
  exact ⟨.refl, hS', rfl⟩
/-- a pair laid at each turn -/
theorem pair_laid (hS : SOk K H M μ S) {d e : D} {x y : V} (r1 : Rep K H M μ d x) (r2 : Rep K H M μ e y) {T : Addr} (hT : H T = none) :
    Ext H M μ (upd H T (.tup [x, y])) M μ ∧ SOk K (upd H T (.tup [x, y])) M μ S ∧ Rep K (upd H T (.tup [x, y])) M μ (.tup [d, e]) (.ref T) := by
  have x1 : Ext H M μ (upd H T (.tup [x, y])) M μ := .laid hS.sub hS.mt hT
  exact ⟨x1, hS.laid hT, T, [x, y], rfl, SqT.of upd_same, x, [y], rfl, r1.of hS x1, y, [], rfl, r2.of hS x1, rfl⟩
theorem enumL_get {l : List D} {i : Nat} {p : D} (h : (enumL l)[i]? = some p) : ∃ d, l[i]? = some d ∧ p = .tup [.int (i : Nat), d] := by
  unfold enumL at h
  rw [List.getElem?_map, List.getElem?_zipIdx] at h
  cases e : l[i]? with
  | none => rw [e] at h; cases h
  | some d =>
    rw [e] at h
    simp at h
    exact ⟨d, rfl, h.symm⟩
theorem src_ite {d : D} {l : List D} {a : Addr} (hS : SOk K H M μ S) (r : Rep K H M μ d (.ref a)) (e : deref S d = .frl l) : Src K (Ite K a) (enumL l) (srcG d S) H M μ := by
  intro H' M' μ' S' x hS' hg i
  obtain ⟨vs, h1, h2⟩ := src_lst hS r e x hS' hg
  refine ⟨fun hi => ⟨vs, h1, by rw [← h2.len]; simp [enumL] at hi; omega⟩, fun p hp => ?_⟩
  obtain ⟨d', hd, rfl⟩ := enumL_get hp
  obtain ⟨v, e1, e2⟩ := h2.get hd
  refine ⟨⟨vs, v, h1, e1⟩, fun y H2 hy => ?_⟩
  obtain ⟨T, w, rfl, hT, rfl, hy⟩ := hy
  have := hy vs h1
  rw [e1] at this; cases this
  exact pair_laid hS' (d := .int (i : Nat)) rfl e2 hT
theorem zipL_get {l m : List D} {i : Nat} {p : D} (h : (zipL l m)[i]? = some p) : ∃ d e, l[i]? = some d ∧ m[i]? = some e ∧ p = .tup [d, e] := by
  unfold zipL at h
  rw [List.getElem?_map] at h
  cases ez : (l.zip m)[i]? with
  | none => rw [ez] at h; cases h
  | some q =>
    rw [ez] at h
    simp at h
    obtain ⟨a, b⟩ := q
    obtain ⟨h1, h2⟩ := List.getElem?_zip_eq_some.mp ez
    exact ⟨a, b, h1, h2, h.symm⟩
theorem src_itz {d1 d2 : D} {l m : List D} {a b : Addr} (hS : SOk K H M μ S) (r1 : Rep K H M μ d1 (.ref a)) (r2 : Rep K H M μ d2 (.ref b)) (e1 : deref S d1 = .frl l) (e2 : deref S d2 = .frl m) : Src K (Itz K a b) (zipL l m) (srcG d1 S ++ srcG d2 S) H M μ := by
  intro H' M' μ' S' x hS' hg i
  obtain ⟨g1, g2⟩ := grd_app.mp hg
  obtain ⟨vs, h1, h2⟩ := src_lst hS r1 e1 x hS' g1
  obtain ⟨ws, k1, k2⟩ := src_lst hS r2 e2 x hS' g2
  refine ⟨fun hi => ⟨vs, ws, h1, k1, ?_⟩, fun p hp => ?_⟩
  · rw [← h2.len, ← k2.len]
    simp [zipL] at hi
    omega
  obtain ⟨d, e, hd, he, rfl⟩ := zipL_get hp
  obtain ⟨v, q1, q2⟩ := h2.get hd
  obtain ⟨w, q3, q4⟩ := k2.get he
  refine ⟨⟨vs, ws, v, w, h1, k1, q1, q3⟩, fun y H2 hy => ?_⟩
  obtain ⟨T, v', w', rfl, hT, rfl, hy1, hy2⟩ := hy
  have z1 := hy1 vs h1
  have z2 := hy2 ws k1
  rw [q1] at z1; cases z1
  rw [q3] at z2; cases z2
  exact pair_laid hS' q2 q4 hT
end
end Ev

namespace Ev
open PySem PySem.Spec PyProof.Rows L2
section
variable {K : PySem.W.Frag} {H : Hp} {M : Addr → Prop} {μ : List Addr} {S : Ev.Sto}
/-- enumerate over a tuple: each item in a new pair -/
def EnT (K : PySem.W.Frag) (a : Addr) : It where
  go := fun i H => ∃ xs x, SqT K H a xs ∧ xs[i]? = some x
  yld := fun i H v H' => ∃ T x, v = .ref T ∧ H T = none ∧ H' = upd H T (.tup [.int (i : Nat), x]) ∧ ∀ xs, SqT K H a xs → xs[i]? = some x
  stop := fun i H => ∃ xs : List V, SqT K H a xs ∧ xs.length = i
theorem src_ent {l : List D} {a : Addr} (hS : SOk K H M μ S) (r : Rep K H M μ (.tup l) (.ref a)) : Src K (EnT K a) (enumL l) [] H M μ := by
  intro H' M' μ' S' x hS' hg i
  obtain ⟨vs, h1, h2⟩ := src_tup hS r x
  refine ⟨fun hi => ⟨vs, h1, by rw [← h2.len]; simp [enumL] at hi; omega⟩, fun p hp => ?_⟩
  obtain ⟨d', hd, rfl⟩ := enumL_get hp
  obtain ⟨v, e1, e2⟩ := h2.get hd
  refine ⟨⟨vs, v, h1, e1⟩, fun y H2 hy => ?_⟩
  obtain ⟨T, w, rfl, hT, rfl, hy⟩ := hy
  have := hy vs h1
  rw [e1] at this; cases this
  exact pair_laid hS' (d := .int (i : Nat)) rfl e2 hT
theorem src_itzT {l m : List D} {a b : Addr} (hS : SOk K H M μ S) (r1 : Rep K H M μ (.tup l) (.ref a)) (r2 : Rep K H M μ (.tup m) (.ref b)) : Src K (RZ.ItzT K a b) (zipL l m) [] H M μ := by
  intro H' M' μ' S' x hS' hg i
  obtain ⟨vs, h1, h2⟩ := src_tup hS r1 x
  obtain ⟨ws, k1, k2⟩ := src_tup hS r2 x
  refine ⟨fun hi => ⟨vs, ws, h1, k1, ?_⟩, fun p hp => ?_⟩
  · rw [← h2.len, ← k2.len]
    simp [zipL] at hi
    omega
  obtain ⟨d, e, hd, he, rfl⟩ := zipL_get hp
  obtain ⟨v, q1, q2⟩ := h2.get hd
  obtain ⟨w, q3, q4⟩ := k2.get he
  refine ⟨⟨vs, ws, v, w, h1, k1, q1, q3⟩, fun y H2 hy => ?_⟩
  obtain ⟨T, v', w', rfl, hT, rfl, hy1, hy2⟩ := hy
  have z1 := hy1 vs h1
  have z2 := hy2 ws k1
  rw [q1] at z1; cases z1
  rw [q3] at z2; cases z2
  exact pair_laid hS' q2 q4 hT
end
/-! ### enumerate(tuple) begins, turns, ends -/
theorem meets_enumT {v : Value} {o : Obj} {Hh : Heap → Prop} (B : Begins v o Hh) :
    Meets (Builtin.«enumerate.__new__» ⟨[.type "enumerate", v], []⟩) (fun _ R s => Hh s.heap ∧
      R (.ok (.ret (.ref (s.heap.push o).objs.size))) { s with heap := (s.heap.push o).push { cls := .type "enumerate", data := .fields #[.none, .bool false, .ref s.heap.objs.size, rawInt 0, .none, .none] } }) := by
  refine .of_wp fun prog w A R s h => ?_
  obtain ⟨hp, g, d, tk, os⟩ := s
  obtain ⟨hl, h⟩ := h
  have hsub := sub_enumerate
  have q1 : ∀ {A' : Around} {E Q : Value → Shared → Prop}, Q (.ref hp.objs.size) ⟨hp.push o, g, d, tk, os⟩ → wpAny (model prog w) A' (pyIter v) Q E ⟨hp, g, d, tk, os⟩ := fun {A' E Q} q => B.iter prog w A' E ⟨hp, g, d, tk, os⟩ Q hl q
  wp_walk
  refine wpAny_stack_any fun st => (wpAny_pure ?_)
  split
  · rename_i c _ _ _ _ _
    cases hc : (c == Value.type "enumerate") <;> (wp_walk using q1; exact ⟨_, rfl, h⟩)
  · (wp_walk using q1; exact ⟨_, rfl, h⟩)
theorem call_enumT {prog : Program} {w : World} {A : Around} {E : Value → Shared → Prop} {s : Shared} {a : Addr} {items : Array Value} {Q : Value → Shared → Prop} (hT : s.heap.IsTuple a items)
    (h : ∀ h', IsEnum h' (s.heap.objs.size + 1) s.heap.objs.size 0 .none → h'.IsTupleIter s.heap.objs.size a 0 → (∀ b o, s.heap.get? b = some o → h'.get? b = some o) → Q (.ref (s.heap.objs.size + 1)) { s with heap := h' }) :
    wpAny (model prog w) A (PySem.call (.type "enumerate") [.ref a]) Q E s := by
  refine callType_new F.called_enumerate (by decide) (F.typeCall_enumerate_1 _) (F.newCall_enumerate_1 _) (fun obj => F.args_object_init_2 obj _) F.entry_enumerate_new (meets_enumT (begins_tuple a items)) ⟨hT, ?_⟩
  have hz : (s.heap.push { cls := .type "tuple_iterator", data := .fields #[.ref a, .int 0 0] }).objs.size = s.heap.objs.size + 1 := Heap.size_push ..
  generalize hh1 : s.heap.push { cls := .type "tuple_iterator", data := .fields #[.ref a, .int 0 0] } = h1 at hz ⊢
  have k1 : ∀ b o, s.heap.get? b = some o → h1.get? b = some o := fun b o e => by rw [← hh1]; exact Heap.get?_push_of_some _ e
  have i1 : h1.get? s.heap.objs.size = some { cls := .type "tuple_iterator", data := .fields #[.ref a, .int 0 0] } := by rw [← hh1]; exact Heap.get?_push_size _ rfl
  have e1 : IsEnum (h1.push { cls := .type "enumerate", data := .fields #[.none, .bool false, .ref s.heap.objs.size, rawInt 0, .none, .none] }) h1.objs.size s.heap.objs.size 0 .none := Heap.get?_push_size _ rfl
  rw [hz] at e1
  show _ ∧ _
  rw [hz]
  exact ⟨⟨_, e1, rfl⟩, h _ e1 ⟨_, Heap.get?_push_of_some _ i1, rfl, rfl⟩ fun b o e => Heap.get?_push_of_some _ (k1 b o e)⟩
theorem turn_ent {P : Program} {w : World} {K : PySem.W.Frag} {elts : List Expr} {kk : Nat} {tpos : Pos} (a e it : Addr) :
    Turn P w K (.Tuple elts kk tpos) (EnT K a) [e, it] e (fun i h => (∃ old, IsEnum h e it ((i : Nat) : Int) old) ∧ h.IsTupleIter it a i ∧ e ≠ it) where
  mem := List.mem_cons_self
  obj := fun i h st b hb => by
    obtain ⟨⟨old, he⟩, ⟨o, ho, hc, hd⟩, hne⟩ := st
    rcases List.mem_cons.mp hb with rfl | hb
    · exact ⟨_, he, fun v q => nomatch q⟩
    · cases List.mem_singleton.mp hb
      exact ⟨o, ho, fun v q => by rw [hd] at q; cases q⟩
  keep := fun i h h' st k => by
    obtain ⟨⟨old, he⟩, hi, hne⟩ := st
    exact ⟨⟨old, k e List.mem_cons_self _ he⟩, hi.at fun o q => k it (List.mem_cons_of_mem _ List.mem_cons_self) o q, hne⟩
  item := by
    intro X hP hw hK hc i pins s σ H E I hf st hg
    subst hP hw hK
    obtain ⟨⟨old, he⟩, hit, hne⟩ := st
    obtain ⟨xs, x, hq, hx⟩ := hg
    obtain ⟨its, rv, p, hz⟩ := I.tuple hq
    obtain ⟨u, hu, ru⟩ := rv.get hx
    have hee : e < s.heap.objs.size := Heap.lt_size he
    have hti : it < s.heap.objs.size := by obtain ⟨ob, q, _⟩ := hit; exact Heap.lt_size q
    have pt : s.heap.IsTuple a its.toArray := p
    have nait : a ≠ it := fun z => by
      obtain ⟨o1, q1, c1, _⟩ := hit
      obtain ⟨o2, q2, c2, _⟩ := p
      rw [z, q1] at q2
      cases q2
      rw [c1] at c2
      exact absurd c2 (by decide)
    have nae : e ∉ [it, a] := fun z => by
      rcases List.mem_cons.mp z with z | z
      · exact hne z
      · have z' := List.mem_singleton.mp z
        obtain ⟨o2, q2, c2, _⟩ := p
        rw [← z', he] at q2
        cases q2
        exact absurd (show Value.type "enumerate" = Value.type "tuple" from c2) (by decide)
    have lt : i < its.toArray.size := by
      have := (List.getElem?_eq_some_iff.mp hu).1
      simpa using this
    refine wpAny_pyNext_enum_itemD (Draws.tuple (A := X.A.in1) (I.ok.hd hc) it a nait its.toArray) he ⟨hit, pt⟩ lt hne nae fun y h' tk hy ho st' hT hsz hk => ?_
    have yu : y = u := by
      have hy' : its.toArray[i]? = some y := hy
      rw [List.getElem?_toArray, hu] at hy'
      exact (Option.some.inj hy').symm
    subst yu
    refine ⟨_, rfl, wpAny_letOwnedTupleGo_enum (s := { s with heap := h', toks := tk + 1 }) ho fun h'' he' sb => ?_⟩
    have hT2 : h''.get? s.heap.objs.size = some { cls := .type "tuple", data := .seq #[.int i tk, y] } := (sb.2 _ (Nat.ne_of_gt hee)).trans hT
    have nw : ObjOk X.prog X.w (upd H s.heap.objs.size (.tup [.int (i : Nat), x])) h'' s.heap.objs.size (.tup [.int (i : Nat), x]) :=
      ⟨by show 2 ≤ sizeLine; decide, [.int i tk, y], .cons ⟨_, rfl⟩ (.cons ru .nil), ⟨_, hT2, rfl, _, rfl⟩⟩
    have I1 : Inv X pins σ (upd H s.heap.objs.size (.tup [.int (i : Nat), x])) { s with heap := h'', toks := tk + 1 } := I.turnedNew (ch := [e, it]) (fun b ob hb q => by
      have b1 : b ≠ e := fun z => hb (z ▸ List.mem_cons_self)
      have b2 : b ≠ it := fun z => hb (z ▸ List.mem_cons_of_mem _ List.mem_cons_self)
      exact (sb.2 b b1).trans (hk b ob b1 b2 q)) hf (Nat.le_refl _) nw
    refine ⟨.ref s.heap.objs.size, _, I1, rfl, ⟨_, x, rfl, I.hok.fresh (Nat.le_refl _), rfl, fun ys hy => by rw [I.tuple_inj hy hq]; exact hx⟩, ⟨⟨y, ?_⟩, st'.1.at fun o q => (sb.2 it (Ne.symm hne)).trans q, hne⟩, fun b hb => ?_⟩
    · rw [show ((i + 1 : Nat) : Int) = (i : Int) + 1 by omega]; exact he'
    · have hb' : b < s.heap.objs.size := by
        rcases List.mem_cons.mp hb with rfl | hb
        · exact hee
        · rw [List.mem_singleton.mp hb]; exact hti
      rw [upd_ne (Nat.ne_of_lt hb')]
      exact (hf b hb).1
  done := by
    intro X hP hw hK hc i pins s σ H E I hf st hg
    subst hP hw hK
    obtain ⟨⟨old, he⟩, hit, hne⟩ := st
    obtain ⟨xs, hq, hx⟩ := hg
    obtain ⟨its, rv, p, hz⟩ := I.tuple hq
    have pt : s.heap.IsTuple a its.toArray := p
    have hl := rv.length
    have nait : a ≠ it := fun z => by
      obtain ⟨o1, q1, c1, _⟩ := hit
      obtain ⟨o2, q2, c2, _⟩ := p
      rw [z, q1] at q2
      cases q2
      rw [c1] at c2
      exact absurd c2 (by decide)
    subst hx
    refine wpAny_pyNext_enum_endD (Draws.tuple (A := X.A.in1) (I.ok.hd hc) it a nait its.toArray) he ⟨?_, pt⟩ fun h' eb => ⟨rfl, ?_⟩
    · rw [List.size_toArray, ← hl]; exact hit
    · obtain ⟨f0, f1, f2, f3, f4, f5⟩ := hf it (List.mem_cons_of_mem _ List.mem_cons_self)
      exact I.turned (t' := s.toks) (fun b o hb q => eb b o hb q) f0 f1 f3 f4 f5
  self := fun A i s Q E st h => by
    obtain ⟨⟨_, he⟩, _⟩ := st
    exact wpAny_pyIter_enum he h
end Ev

namespace Ev
open PySem PySem.Spec PyProof.Rows L2
section
variable {X : Cx} {tg : Expr} {pos p tpos : Pos} {a b e : Expr} {f g : Sl → Ev.Sto → R D}
abbrev sSeq (f : Sl → Ev.Sto → R D) : Sl → Ev.Sto → R (List D × List (Nat × List D)) := fun σ S => (f σ S).bind fun x S1 => (R.of (seqD S1 x) S1).bind fun l S1 => .ok (l, srcG x S1) S1
abbrev sEnum (f : Sl → Ev.Sto → R D) : Sl → Ev.Sto → R (List D × List (Nat × List D)) := fun σ S => (f σ S).bind fun x S1 => (R.of (seqD S1 x) S1).bind fun l S1 => .ok (enumL l, srcG x S1) S1
abbrev sZip (f g : Sl → Ev.Sto → R D) : Sl → Ev.Sto → R (List D × List (Nat × List D)) := fun σ S => (f σ S).bind fun x S1 => (g σ S1).bind fun y S2 => match deref S2 x, deref S2 y with
  | .frl l, .frl m => .ok (zipL l m, srcG x S2 ++ srcG y S2) S2
  | .tup l, .tup m => .ok (zipL l m, []) S2
  | _, _ => .no
theorem PI.imp' {wi wi' : TI} (h : PI X tg e wi) (i : ∀ σ H R, wi' σ H R → wi σ H R) : PI X tg e wi' := PI.imp h i
/-- one iterator just laid over what stands at a -/
theorem it_new {pins : List (Addr × Obj)} {s : Shared} {σ : L2.St} {H : Hp} {RR : It → Hp → Prop} {J : It} {o : Obj} {tn : Nat → Heap → Prop} (I : Inv X pins σ H s) (T : Turn X.prog X.w X.K tg J [s.heap.objs.size] s.heap.objs.size tn)
    (h0 : tn 0 (s.heap.push o)) (q : RR J H) : PIE X pins σ tg RR (.ref s.heap.objs.size) { s with heap := s.heap.push o } := by
  refine ⟨_, [s.heap.objs.size], tn, J, H, rfl, I.kept (t' := s.toks) fun b ob hb => Heap.get?_push_of_some _ hb, T, h0, fun b hb => ?_, q⟩
  rw [List.mem_singleton.mp hb]
  exact I.fpOk (Nat.le_refl _) (I.hok.fresh (Nat.le_refl _))
theorem i_seq (he : PE X e (tE X.K f)) : PI X tg e (tI X.K (sSeq f)) := by
  refine ⟨fun pins s σ H RR I h => ?_⟩
  obtain ⟨σd, S, M, μ, hS, hσ, hp⟩ := h
  refine thn (he.run pins s σ H (fun v H1 => ∃ a, v = .ref a ∧ ((∃ vs, SqL X.K H1 a vs) ∧ RR (Itl X.K a) H1 ∨ (∃ vs, SqT X.K H1 a vs) ∧ RR (Itt X.K a) H1)) I ⟨σd, S, M, μ, hS, hσ, hp.seq fun x S1 v H1 M1 μ1 e1 x1 s1 r1 hp => ?_⟩) fun u s1 ⟨v, H1, I1, ru, c, ev, q⟩ => ?_
  · obtain ⟨l, hz, hp⟩ := hp.of
    obtain ⟨c, vs, rfl, h1, h2⟩ := rep_seq s1 r1 hz
    refine ⟨c, rfl, ?_⟩
    rcases h2 with ⟨h2, h3⟩ | ⟨h2, h3⟩
    · exact .inl ⟨⟨vs, h3⟩, hp.fin s1 (src_itl s1 r1 h2)⟩
    · have z := der_tup h2
      subst z
      exact .inr ⟨⟨vs, h3⟩, hp.fin s1 (src_itt s1 r1)⟩
  · subst ev
    cases ru
    rcases q with ⟨⟨vs, hq⟩, q⟩ | ⟨⟨vs, hq⟩, q⟩
    · obtain ⟨its, rv, pl, _⟩ := I1.list hq
      exact wpAny_pyIter_list pl.isList (it_new I1 (turn_list c _) ⟨_, Heap.get?_push_size _ rfl, rfl, rfl⟩ q)
    · obtain ⟨its, rv, pl, _⟩ := I1.tuple hq
      exact wpAny_pyIter_tuple (show s1.heap.IsTuple c its.toArray from pl) (it_new I1 (turn_tuple c _) ⟨_, Heap.get?_push_size _ rfl, rfl, rfl⟩ q)
theorem i_rng1 (hg : Gl X "range") (hm : X.mg "range" = none) (ha : PE X a (tE X.K f)) (hs : isStar a = false) : PI X tg (.Call (.Name "range" p) [a] [] pos) (tI X.K (sRng1 f)) :=
  PI.imp' (pi_range1 hg hm (pa_cons ha pa_nil (star_cons hs)) (star_cons hs)) fun σ H RR h => by
    obtain ⟨σd, S, M, μ, hS, hσ, hp⟩ := h
    refine ⟨σd, S, M, μ, hS, hσ, hp.seq fun x S1 v H1 M1 μ1 e1 x1 s1 r1 hp => ?_⟩
    split at hp
    · rename_i j
      split at hp
      · rename_i hr
        obtain ⟨b1, b2, b3, b4, b5⟩ := rng_ok hr
        have z := src_rng (K := X.K) (H := H1) (M := M1) (μ := μ1) 0 j
        rw [show j - 0 = j by omega] at z
        exact ⟨j, by rw [show v = .int j from r1], b3, b4, hp.fin s1 z⟩
      · exact False.elim hp
    · exact False.elim hp
theorem i_rng2 (hg : Gl X "range") (hm : X.mg "range" = none) (ha : PE X a (tE X.K f)) (hb : PE X b (tE X.K g)) (hs : isStar a = false) (hs2 : isStar b = false) : PI X tg (.Call (.Name "range" p) [a, b] [] pos) (tI X.K (sRng2 f g)) :=
  PI.imp' (pi_range2 hg hm (pa_cons ha (pa_cons hb pa_nil (star_cons hs2)) (star_cons hs)) (by rw [star_cons hs, star_cons hs2]; rfl) (star_cons hs2)) fun σ H RR h => by
    obtain ⟨σd, S, M, μ, hS, hσ, hp⟩ := h
    refine ⟨σd, S, M, μ, hS, hσ, hp.seq fun x S1 v H1 M1 μ1 e1 x1 s1 r1 hp => ?_⟩
    refine ⟨σd, S1, M1, μ1, s1, hσ.of hS x1, hp.seq fun y S2 w H2 M2 μ2 e2 x2 s2 r2 hp => ?_⟩
    cases x with
    | int i => cases y with
      | int j =>
        dsimp only at hp
        split at hp
        · rename_i hr
          obtain ⟨b1, b2, b3, b4, b5⟩ := rng_ok hr
          refine ⟨i, j, ?_, ⟨b1, b2, b3, b4⟩, hp.fin s2 (src_rng i j)⟩
          rw [show v = .int i from r1, show w = .int j from r2]
        · exact False.elim hp
      | _ => exact False.elim hp
    | _ => exact False.elim hp
/-- enumerate of a list or a tuple -/
theorem i_enum {elts : List Expr} {kk : Nat} (hg : Gl X "enumerate") (hm : X.mg "enumerate" = none) (ha : PE X a (tE X.K f)) (hs : isStar a = false) : PI X (.Tuple elts kk tpos) (.Call (.Name "enumerate" p) [a] [] pos) (tI X.K (sEnum f)) := by
  refine ⟨fun pins s σ H RR I h => ?_⟩
  obtain ⟨σd, S, M, μ, hS, hσ, hp⟩ := h
  have hA : PA X [a] (tCons (tE X.K f) tNil) := pa_cons ha pa_nil (star_cons hs)
  refine Call_ (ld_blt I hg hm boot_enumerate (PyProof.Rows.callWith_type1 (thn (hA.run pos pins s σ H (fun vs H1 => ∃ c, vs = [.ref c] ∧ ((∃ ws, SqL X.K H1 c ws) ∧ RR (Ite X.K c) H1 ∨ (∃ ws, SqT X.K H1 c ws) ∧ RR (EnT X.K c) H1)) I
    ⟨σd, S, M, μ, hS, hσ, hp.seq fun x S1 v H1 M1 μ1 e1 x1 s1 r1 hp => ?_⟩) fun us s1 ⟨vs, H1, I1, r1, c, ev, q⟩ => ?_) (star_cons hs) rfl))
  · obtain ⟨l, hz, hp⟩ := hp.of
    obtain ⟨c, vs, rfl, h1, h2⟩ := rep_seq s1 r1 hz
    refine ⟨c, rfl, ?_⟩
    rcases h2 with ⟨h2, h3⟩ | ⟨h2, h3⟩
    · exact .inl ⟨⟨vs, h3⟩, hp.fin s1 (src_ite s1 r1 h2)⟩
    · have z := der_tup h2
      subst z
      exact .inr ⟨⟨vs, h3⟩, hp.fin s1 (src_ent s1 r1)⟩
  · subst ev
    obtain ⟨u, rfl, ru⟩ := vals1 r1
    cases ru
    have two : ∀ bb, bb ∈ [s1.heap.objs.size + 1, s1.heap.objs.size] → FpOk X pins H1 bb := fun bb hb => by
      have hle : s1.heap.objs.size ≤ bb := by
        rcases List.mem_cons.mp hb with hb | hb
        · omega
        · rw [List.mem_singleton.mp hb]; exact Nat.le_refl _
      exact I1.fpOk hle (I1.hok.fresh hle)
    rcases q with ⟨⟨ws, hq⟩, q⟩ | ⟨⟨ws, hq⟩, q⟩
    · obtain ⟨its, rv, pl, _⟩ := I1.list hq
      refine call_enumerate_list pl.isList fun h' k1 k2 k3 k4 => wpAny_pyIter_enum k1 ⟨_, [s1.heap.objs.size + 1, s1.heap.objs.size], _, _, H1, rfl, I1.kept (t' := s1.toks) k4, turn_enum c _ _, ⟨⟨_, k1⟩, k2, Nat.succ_ne_self _⟩, two, q⟩
    · obtain ⟨its, rv, pl, _⟩ := I1.tuple hq
      exact call_enumT (show s1.heap.IsTuple c its.toArray from pl) fun h' k1 k2 k4 => wpAny_pyIter_enum k1 ⟨_, [s1.heap.objs.size + 1, s1.heap.objs.size], _, _, H1, rfl, I1.kept (t' := s1.toks) k4, turn_ent c _ _, ⟨⟨_, k1⟩, k2, Nat.succ_ne_self _⟩, two, q⟩
theorem i_zip {elts : List Expr} {kk : Nat} (hg : Gl X "zip") (hm : X.mg "zip" = none) (ha : PE X a (tE X.K f)) (hb : PE X b (tE X.K g)) (hs : isStar a = false) (hs2 : isStar b = false) : PI X (.Tuple elts kk tpos) (.Call (.Name "zip" p) [a, b] [] pos) (tI X.K (sZip f g)) :=
  PI.imp' (RZ.pi_zipA hg hm (pa_cons ha (pa_cons hb pa_nil (star_cons hs2)) (star_cons hs)) (star_cons hs) (by rw [star_cons hs2]; rfl)) fun σ H RR h => by
    obtain ⟨σd, S, M, μ, hS, hσ, hp⟩ := h
    refine ⟨σd, S, M, μ, hS, hσ, hp.seq fun x S1 v H1 M1 μ1 e1 x1 s1 r1 hp => ?_⟩
    refine ⟨σd, S1, M1, μ1, s1, hσ.of hS x1, hp.seq fun y S2 w H2 M2 μ2 e2 x2 s2 r2 hq => ?_⟩
    clear hp
    have r1' := r1.of s1 x2
    split at hq
    · rename_i l m d1 d2
      obtain ⟨c, vs, rfl, h1, h2⟩ := repF s2 r1' d1
      obtain ⟨c', ws, rfl, h3, h4⟩ := repF s2 r2 d2
      exact ⟨c, c', vs, ws, rfl, .inl ⟨h1, h3, hq.fin s2 (src_itz s2 r1' r2 d1 d2)⟩⟩
    · rename_i l m d1 d2
      have z1 := der_tup d1
      have z2 := der_tup d2
      subst z1 z2
      obtain ⟨c, vs, rfl, h1, h2⟩ := id r1'
      obtain ⟨c', ws, rfl, h3, h4⟩ := id r2
      exact ⟨c, c', vs, ws, rfl, .inr ⟨h1, h3, Post.fin (Rl := RS X.K) (a := (zipL l m, [])) hq s2 (src_itzT s2 r1' r2)⟩⟩
    · exact False.elim hq
end
/-! ### targets -/
mutual
def idxT : CT → List Nat
  | .nm i => [i]
  | .tp l => idxTs l
def idxTs : CTs → List Nat
  | .nil => []
  | .cons t r => idxT t ++ idxTs r
end
/-- the slots are the same but at l -/
def But (l : List Nat) (σ σ' : L2.St) : Prop := σ'.length = σ.length ∧ ∀ i, i ∉ l → σ'[i]? = σ[i]?
theorem But.refl {l : List Nat} {σ : L2.St} : But l σ σ := ⟨rfl, fun _ _ => rfl⟩
theorem But.trans {l m : List Nat} {σ σ1 σ2 : L2.St} (a : But l σ σ1) (b : But m σ1 σ2) : But (l ++ m) σ σ2 :=
  ⟨b.1.trans a.1, fun i h => (b.2 i fun z => h (List.mem_append_right _ z)).trans (a.2 i fun z => h (List.mem_append_left _ z))⟩
/-- a target that stores d at names takes the slots to what bindT tells -/
def gB (K : PySem.W.Frag) (t : CT) : TG := fun v σ H Q => ∃ d σd σd' S M μ, SOk K H M μ S ∧ Slt K H M μ σd σ ∧ Rep K H M μ d v ∧ bindT t d σd = some σd' ∧ ∀ σ', Slt K H M μ σd' σ' → But (idxT t) σ σ' → Q σ' H
def gBs (K : PySem.W.Frag) (t : CTs) : TGs := fun vs σ H Q => ∃ ds σd σd' S M μ, SOk K H M μ S ∧ Slt K H M μ σd σ ∧ RepL K H M μ ds vs ∧ bindTs t ds σd = some σd' ∧ ∀ σ', Slt K H M μ σd' σ' → But (idxTs t) σ σ' → Q σ' H
theorem PG.imp {X : Cx} {e : Expr} {t t' : TG} (h : PG X e t) (i : ∀ v σ H Q, t' v σ H Q → t v σ H Q) : PG X e t' := ⟨fun pins s σ H v u Q I r q => h.run pins s σ H v u Q I r (i v σ H Q q)⟩
theorem PGs.imp {X : Cx} {e : List Expr} {t t' : TGs} (h : PGs X e t) (i : ∀ v σ H Q, t' v σ H Q → t v σ H Q) : PGs X e t' := ⟨fun pins s σ H v u Q I r q => h.run pins s σ H v u Q I r (i v σ H Q q)⟩
theorem assign_cons {e : Expr} {es : List Expr} {env : Env} (h : isStar e = false) : assignEach (e :: es) env = (false, assign e env) :: assignEach es env := by
  cases e <;> first | rfl | simp [isStar] at h
theorem assign_len {env : Env} {N : List Str} {ok : Str → Bool} : ∀ {n : Nat} {es : List Expr} {ts : CTs}, cTs N ok n es = some ts → (assignEach es env).length = es.length ∧ (assignEach es env).findIdx? (·.1) = none
  | 0, _, _, h => by simp [cTs] at h
  | n + 1, [], _, h => ⟨rfl, rfl⟩
  | n + 1, e :: r, _, h => by
    unfold cTs at h
    split at h
    · cases h
    · rename_i hs
      split at h
      · cases h
      · split at h
        · cases h
        · rename_i ts hts
          have hs' : isStar e = false := by simpa using hs
          obtain ⟨h1, h2⟩ := assign_len (env := env) hts
          rw [assign_cons hs']
          refine ⟨by simp [h1], ?_⟩
          rw [List.findIdx?_cons]
          simp [h2]
def lenT : CTs → Nat
  | .nil => 0
  | .cons _ r => lenT r + 1
theorem bindTs_len : ∀ {ts : CTs} {l : List D} {σ σ' : Sl}, bindTs ts l σ = some σ' → l.length = lenT ts
  | .nil, [], _, _, _ => rfl
  | .nil, _ :: _, _, _, h => by simp [bindTs] at h
  | .cons _ _, [], _, _, h => by simp [bindTs] at h
  | .cons t ts, d :: r, σ, σ', h => by
    unfold bindTs at h
    split at h
    · simp [lenT, bindTs_len h]
    · cases h
theorem cTs_len {N : List Str} {ok : Str → Bool} : ∀ {n : Nat} {es : List Expr} {ts : CTs}, cTs N ok n es = some ts → es.length = lenT ts
  | 0, _, _, h => by simp [cTs] at h
  | n + 1, [], _, h => by cases h; rfl
  | n + 1, e :: r, _, h => by
    unfold cTs at h
    split at h
    · cases h
    · split at h
      · cases h
      · split at h
        · cases h
        · rename_i ts hts
          cases h
          simp [lenT, cTs_len hts]
mutual
theorem g_all {X : Cx} {ok : Str → Bool} (hX : Cok X) (hok : ∀ x, ok x = true → Loc X.env.scope x ∧ (X.fn x = true ∨ X.env.scope.names.lookup x = some .local)) : ∀ {n : Nat} {e : Expr} {t : CT}, cT X.N ok n e = some t → PG X e (gB X.K t)
  | 0, _, _, h => by simp [cT] at h
  | n + 1, .Name x pos, t, h => by
    unfold cT at h
    split at h
    · rename_i ho
      obtain ⟨h1, h2⟩ := hok x ho
      cases hp : posOf X.N x with
      | none => rw [hp] at h; cases h
      | some i =>
        rw [hp] at h; cases h
        refine PG.imp (pg_name hX.nd (posOf_get hp) h1 h2) fun v σ H Q q => ?_
        obtain ⟨d, σd, σd', S, M, μ, hS, hσ, r, hb, q⟩ := q
        cases hb
        exact q _ (hσ.set r i) ⟨by simp, fun j hj => List.getElem?_set_ne fun z => hj (by rw [← z]; exact List.mem_singleton.mpr rfl)⟩
    · cases h
  | n + 1, .Tuple es k pos, t, h => by
    unfold cT at h
    cases hts : cTs X.N ok n es with
    | none => rw [hts] at h; cases h
    | some ts =>
      rw [hts] at h; cases h
      obtain ⟨l1, l2⟩ := assign_len (env := X.env) hts
      refine PG.imp (pg_tup (n := es.length) hX.calm (gs_all hX hok hts) l1 l2) fun v σ H Q q => ?_
      obtain ⟨d, σd, σd', S, M, μ, hS, hσ, r, hb, q⟩ := q
      cases d with
      | tup l =>
        obtain ⟨a, vs, rfl, h1, h2⟩ := r
        have hb' : bindTs ts l σd = some σd' := hb
        refine ⟨a, vs, rfl, h1, ?_, l, σd, σd', S, M, μ, hS, hσ, h2, hb', q⟩
        rw [← h2.len, bindTs_len hb', cTs_len hts]
      | _ => simp [bindT] at hb
  | n + 1, .BoolOp .., _, h | n + 1, .NamedExpr .., _, h | n + 1, .BinOp .., _, h | n + 1, .UnaryOp .., _, h | n + 1, .Lambda .., _, h | n + 1, .IfExp .., _, h | n + 1, .Dict .., _, h | n + 1, .Set .., _, h | n + 1, .ListComp .., _, h | n + 1, .SetComp .., _, h | n + 1, .DictComp .., _, h | n + 1, .GeneratorExp .., _, h | n + 1, .Await .., _, h | n + 1, .Yield .., _, h | n + 1, .YieldFrom .., _, h | n + 1, .Compare .., _, h | n + 1, .Call .., _, h | n + 1, .FormattedValue .., _, h | n + 1, .JoinedStr .., _, h | n + 1, .Constant .., _, h | n + 1, .Attribute .., _, h | n + 1, .Subscript .., _, h | n + 1, .Starred .., _, h | n + 1, .List .., _, h | n + 1, .Slice .., _, h => by simp [cT] at h
theorem gs_all {X : Cx} {ok : Str → Bool} (hX : Cok X) (hok : ∀ x, ok x = true → Loc X.env.scope x ∧ (X.fn x = true ∨ X.env.scope.names.lookup x = some .local)) : ∀ {n : Nat} {es : List Expr} {ts : CTs}, cTs X.N ok n es = some ts → PGs X es (gBs X.K ts)
  | 0, _, _, h => by simp [cTs] at h
  | n + 1, [], _, h => by
    cases h
    refine PGs.imp pgs_nil fun v σ H Q q => ?_
    obtain ⟨ds, σd, σd', S, M, μ, hS, hσ, r, hb, q⟩ := q
    cases ds with
    | nil => cases hb; exact ⟨r, q _ hσ .refl⟩
    | cons _ _ => simp [bindTs] at hb
  | n + 1, e :: es, ts, h => by
    unfold cTs at h
    split at h
    · cases h
    · rename_i hs
      have hs' : isStar e = false := by simpa using hs
      split at h
      · cases h
      · rename_i t ht
        split at h
        · cases h
        · rename_i ts' hts
          cases h
          refine PGs.imp (pgs_cons (g_all hX hok ht) (gs_all hX hok hts) (by rw [assign_cons hs']; rfl)) fun vs σ H Q q => ?_
          obtain ⟨ds, σd, σd', S, M, μ, hS, hσ, r, hb, q⟩ := q
          cases ds with
          | nil => simp [bindTs] at hb
          | cons d ds =>
            obtain ⟨v, w, rfl, h1, h2⟩ := r
            unfold bindTs at hb
            split at hb
            · rename_i σ2 h3
              exact ⟨v, w, rfl, d, σd, σ2, S, M, μ, hS, hσ, h1, h3, fun σ' hσ' b1 => ⟨ds, σ2, σd', S, M, μ, hS, hσ', h2, hb, fun σ2' hσ2 b2 => q σ2' hσ2 (b1.trans b2)⟩⟩
            · cases hb
end
end Ev

/-! Statements and loops. -/
namespace Ev
open PySem PySem.Spec PyProof.Rows L2
/-- what is wanted behind a statement -/
def EndF (K : PySem.W.Frag) (fl : Fl) (H' : Hp) (M' : Addr → Prop) (μ' : List Addr) (D : Ends) : Prop :=
  match fl with
  | .nx σd => ∀ σ', Slt K H' M' μ' σd σ' → D.nx σ' H'
  | .rt d => ∀ v, Rep K H' M' μ' d v → D.rt v H'
  | .bk σd => ∀ σ', Slt K H' M' μ' σd σ' → D.bk σ' H'
  | .ct σd => ∀ σ', Slt K H' M' μ' σd σ' → D.ct σ' H'
def PostS (K : PySem.W.Frag) (r : R Fl) (H : Hp) (M : Addr → Prop) (μ : List Addr) (D : Ends) : Prop :=
  match r with
  | .ok fl S' => ∀ H' M' μ', Ext H M μ H' M' μ' → SOk K H' M' μ' S' → EndF K fl H' M' μ' D
  | .err _ _ _ => False
  | .no => False
def tS (K : PySem.W.Frag) (F : Sl → Ev.Sto → R Fl) : TS := fun D σ H => ∃ σd S M μ, SOk K H M μ S ∧ Slt K H M μ σd σ ∧ PostS K (F σd S) H M μ D
section
variable {K : PySem.W.Frag} {H H1 : Hp} {M M1 : Addr → Prop} {μ μ1 : List Addr} {S : Ev.Sto} {D : Ends} {r : R Fl}
theorem PostS.ext (h : PostS K r H M μ D) (x : Ext H M μ H1 M1 μ1) : PostS K r H1 M1 μ1 D := by
  cases r with
  | ok fl S' => exact fun H' M' μ' y s => h H' M' μ' (x.trans y) s
  | err _ _ _ => exact h
  | no => exact h
theorem PostS.fin {fl : Fl} (h : PostS K (.ok fl S) H M μ D) (s : SOk K H M μ S) : EndF K fl H M μ D := h H M μ .refl s
/-- a value's reading out of a statement's -/
theorem PostS.seqP {α β : Type} {Rl : Hp → (Addr → Prop) → List Addr → α → β → Prop} {q : R α} {k : α → Ev.Sto → R Fl} {Q : β → Hp → Prop} (h : PostS K (q.bind k) H M μ D)
    (hk : ∀ a S1 b H1 M1 μ1, q = .ok a S1 → Ext H M μ H1 M1 μ1 → SOk K H1 M1 μ1 S1 → Rl H1 M1 μ1 a b → PostS K (k a S1) H1 M1 μ1 D → Q b H1) : Post Rl K q H M μ Q := by
  cases q with
  | ok a S' => exact fun b H' M' μ' y s q => hk a S' b H' M' μ' rfl y s q (PostS.ext (r := k a S') h y)
  | err _ _ _ => exact h
  | no => exact h
theorem PostS.of {α : Type} {o : Option α} {k : α → Ev.Sto → R Fl} (h : PostS K ((R.of o S).bind k) H M μ D) : ∃ a, o = some a ∧ PostS K (k a S) H M μ D := by
  cases o with
  | none => exact False.elim h
  | some a => exact ⟨a, rfl, h⟩
/-- a statement behind a statement -/
theorem PostS.seq {D' : Ends} {k : Fl → Ev.Sto → R Fl} (h : PostS K (r.bind k) H M μ D) (hk : ∀ fl S1 H1 M1 μ1, Ext H M μ H1 M1 μ1 → SOk K H1 M1 μ1 S1 → PostS K (k fl S1) H1 M1 μ1 D → EndF K fl H1 M1 μ1 D') : PostS K r H M μ D' := by
  cases r with
  | ok fl S' => exact fun H' M' μ' y s => hk fl S' H' M' μ' y s (PostS.ext (r := k fl S') h y)
  | err _ _ _ => exact h
  | no => exact h
end
section
variable {X : Cx} {pos : Pos} {tg e a b c : Expr} {f g h : Sl → Ev.Sto → R D} {F G : Sl → Ev.Sto → R Fl} {st : Stmt} {rest body : List Stmt} {T : Sl → Ev.Sto → R Bool}
theorem s_nil : PSs X [] (tS X.K fun σ S => .ok (.nx σ) S) := PSs.imp pss_nil fun D σ H h => by
  obtain ⟨σd, S, M, μ, hS, hσ, hp⟩ := h
  exact hp.fin hS σ hσ
theorem s_cons (h1 : PS X st (tS X.K F)) (h2 : PSs X rest (tS X.K G)) : PSs X (st :: rest) (tS X.K fun σ S => (F σ S).bind fun fl S1 => match fl with
    | .nx σ2 => G σ2 S1
    | f => .ok f S1) := PSs.imp (pss_cons h1 h2) fun D σ H h => by
  obtain ⟨σd, S, M, μ, hS, hσ, hp⟩ := h
  refine ⟨σd, S, M, μ, hS, hσ, hp.seq fun fl S1 H1 M1 μ1 x1 s1 hp => ?_⟩
  cases fl with
  | nx σ2 => exact fun σ' hσ' => ⟨σ2, S1, M1, μ1, s1, hσ', hp⟩
  | rt d => exact hp.fin s1
  | bk σ2 => exact hp.fin s1
  | ct σ2 => exact hp.fin s1
theorem s_bad : PS X st (tS X.K fun _ _ => .no) := PS.imp ps_never fun D σ H h => by
  obtain ⟨σd, S, M, μ, hS, hσ, hp⟩ := h
  exact hp
theorem s_pass : PS X (.Pass pos) (tS X.K fun σ S => .ok (.nx σ) S) := PS.imp ps_pass fun D σ H h => by
  obtain ⟨σd, S, M, μ, hS, hσ, hp⟩ := h
  exact hp.fin hS σ hσ
theorem s_brk : PS X (.Break pos) (tS X.K fun σ S => .ok (.bk σ) S) := PS.imp ps_break fun D σ H h => by
  obtain ⟨σd, S, M, μ, hS, hσ, hp⟩ := h
  exact hp.fin hS σ hσ
theorem s_cnt : PS X (.Continue pos) (tS X.K fun σ S => .ok (.ct σ) S) := PS.imp ps_continue fun D σ H h => by
  obtain ⟨σd, S, M, μ, hS, hσ, hp⟩ := h
  exact hp.fin hS σ hσ
theorem s_retN : PS X (.Return none pos) (tS X.K fun _ S => .ok (.rt .non) S) := PS.imp ps_retN fun D σ H h => by
  obtain ⟨σd, S, M, μ, hS, hσ, hp⟩ := h
  exact hp.fin hS .non rfl
theorem s_ret (he : PE X e (tE X.K f)) : PS X (.Return (some e) pos) (tS X.K fun σ S => (f σ S).bind fun x S1 => .ok (.rt x) S1) := PS.imp (ps_ret he) fun D σ H h => by
  obtain ⟨σd, S, M, μ, hS, hσ, hp⟩ := h
  exact ⟨σd, S, M, μ, hS, hσ, hp.seqP fun x S1 v H1 M1 μ1 e1 x1 s1 r1 hp => hp.fin s1 v r1⟩
theorem s_expr (he : PE X e (tE X.K f)) (hs : swapsWith e none pos.line X.env = pure false) : PS X (.Expr e pos) (tS X.K fun σ S => (f σ S).bind fun _ S1 => .ok (.nx σ) S1) := PS.imp (ps_expr he hs) fun D σ H h => by
  obtain ⟨σd, S, M, μ, hS, hσ, hp⟩ := h
  exact ⟨σd, S, M, μ, hS, hσ, hp.seqP fun x S1 v H1 M1 μ1 e1 x1 s1 r1 hp => hp.fin s1 σ (hσ.of hS x1)⟩
theorem s_if (hc : PT X c (tT X.K T)) (ha : PSs X body (tS X.K F)) (hb : PSs X rest (tS X.K G)) : PS X (.If c body rest pos) (tS X.K fun σ S => (T σ S).bind fun t S1 => if t = true then F σ S1 else G σ S1) := PS.imp (ps_if hc ha hb) fun D σ H h => by
  obtain ⟨σd, S, M, μ, hS, hσ, hp⟩ := h
  refine ⟨σd, S, M, μ, hS, hσ, hp.seqP fun x S1 v H1 M1 μ1 e1 x1 s1 r1 hp => ?_⟩
  cases (show x = v from r1)
  cases x with
  | true => exact iteT ⟨σd, S1, M1, μ1, s1, hσ.of hS x1, hp⟩
  | false => exact iteF ⟨σd, S1, M1, μ1, s1, hσ.of hS x1, hp⟩
/-- target = e -/
theorem s_asg {t : CT} (he : PE X e (tE X.K f)) (hg : PG X tg (gB X.K t)) (hs : swapsWithSole [tg] e pos.line X.env = pure false) (hw : swappedStores [tg] e X.env = pure none) (h1 : (assignEach [tg] X.env).map (·.2) = [assign tg X.env]) :
    PS X (.Assign [tg] e pos) (tS X.K fun σ S => (f σ S).bind fun x S1 => (R.of (bindT t x σ) S1).bind fun σ2 S1 => .ok (.nx σ2) S1) := PS.imp (ps_asg he hg hs hw h1) fun D σ H h => by
  obtain ⟨σd, S, M, μ, hS, hσ, hp⟩ := h
  refine ⟨σd, S, M, μ, hS, hσ, hp.seqP fun x S1 v H1 M1 μ1 e1 x1 s1 r1 hp => ?_⟩
  obtain ⟨σ2, hb, hp⟩ := hp.of
  exact ⟨x, σd, σ2, S1, M1, μ1, s1, hσ.of hS x1, r1, hb, fun σ' hσ' _ => hp.fin s1 σ' hσ'⟩
/-- a new list given to a name on one line: the comprehension's own road -/
theorem s_lcset {te : TE} {i : Nat} {tgt : Expr} (hp : PS X (.Assign [tgt] e pos) (tAsg te (gName i))) (hi : ∀ σ H Q, tE X.K f σ H Q → te σ H Q) :
    PS X (.Assign [tgt] e pos) (tS X.K fun σ S => (f σ S).bind fun x S1 => (R.of (bindT (.nm i) x σ) S1).bind fun σ2 S1 => .ok (.nx σ2) S1) := PS.imp hp fun D σ H h => by
  obtain ⟨σd, S, M, μ, hS, hσ, hp⟩ := h
  refine hi σ H _ ⟨σd, S, M, μ, hS, hσ, hp.seqP fun x S1 v H1 M1 μ1 e1 x1 s1 r1 hp => ?_⟩
  exact hp.fin s1 _ ((hσ.of hS x1).set r1 i)
/-- o[i] = e -/
def rSetD (K : PySem.W.Frag) : V → V → V → Hp → (Hp → Prop) → Prop := fun o i v H Q => ∃ S M μ x y z, SOk K H M μ S ∧ Rep K H M μ x o ∧ Rep K H M μ y i ∧ Rep K H M μ z v ∧ Post (fun _ _ _ (_ _ : Unit) => True) K (setD x y z S) H M μ fun _ H' => Q H'
theorem rep_setK {K : PySem.W.Frag} {H : Hp} {M : Addr → Prop} {μ : List Addr} {k : Key} {z : D} {v : V} (q : Rep K H M μ z v) : ∀ {l : List (Key × D)} {vs : List (Key × V)}, l.map (·.1) = vs.map (·.1) → RepL K H M μ (l.map (·.2)) (vs.map (·.2)) →
    ((l.map fun p => if p.1 = k then (p.1, z) else p).map (·.1) = (vs.map fun p => if p.1 = k then (p.1, v) else p).map (·.1)) ∧ RepL K H M μ ((l.map fun p => if p.1 = k then (p.1, z) else p).map (·.2)) ((vs.map fun p => if p.1 = k then (p.1, v) else p).map (·.2))
  | [], [], _, _ => ⟨rfl, rfl⟩
  | [], _ :: _, h, _ => by simp at h
  | _ :: _, [], h, _ => by simp at h
  | (a, x) :: l, (b, y) :: vs, h, r => by
    obtain ⟨h1, h2⟩ := List.cons.inj (show a :: l.map (·.1) = b :: vs.map (·.1) from h)
    subst h1
    obtain ⟨u, w, e, r1, r2⟩ := r
    obtain ⟨e0, e2⟩ := List.cons.inj (show y :: vs.map (·.2) = u :: w from e)
    subst e0 e2
    obtain ⟨g1, g2⟩ := rep_setK q h2 r2
    by_cases hk : a = k
    · simp only [List.map_cons, if_pos hk]
      exact ⟨by rw [g1], v, _, rfl, q, g2⟩
    · simp only [List.map_cons, if_neg hk]
      exact ⟨by rw [g1], y, _, rfl, r1, g2⟩
theorem rep_putK {K : PySem.W.Frag} {H : Hp} {M : Addr → Prop} {μ : List Addr} {k : Key} {z : D} {v : V} {l : List (Key × D)} {vs : List (Key × V)} (q : Rep K H M μ z v) (h : l.map (·.1) = vs.map (·.1)) (r : RepL K H M μ (l.map (·.2)) (vs.map (·.2))) :
    (putD l k z).map (·.1) = (putK vs k v).map (·.1) ∧ RepL K H M μ ((putD l k z).map (·.2)) ((putK vs k v).map (·.2)) := by
  have e : (l.any fun p => decide (p.1 = k)) = vs.any fun p => decide (p.1 = k) := by rw [← any_keys h, ← valV_any]
  unfold putD putK
  rw [e]
  split
  · exact rep_setK q h r
  · simp only [List.map_append, List.map_cons, List.map_nil]
    exact ⟨by rw [h], r.app (RepL.one q)⟩
theorem keys_len {l : List (Key × D)} {vs : List (Key × V)} (h : l.map (·.1) = vs.map (·.1)) : l.length = vs.length := by
  have := congrArg List.length h
  simpa using this
theorem setR (hu : X.A.units + 150 < cLine) : PSet X (rSetD X.K) := by
  intro pins s σ H o i v ov iv u Q I r1 r2 r3 h
  obtain ⟨S, M, μ, x, y, z, hS, q1, q2, q3, hp⟩ := h
  unfold setD at hp
  split at hp
  · rename_i n
    split at hp
    · rename_i l e
      split at hp
      · rename_i k
        split at hp
        · rename_i j hj
          obtain ⟨c, vs, e1, e2, r⟩ := hS.at e
          obtain ⟨c', rfl, e1'⟩ := q1
          rw [e1] at e1'; cases e1'
          cases (show i = .int k from q2)
          rw [r.len] at hj
          exact set_list pins s σ H _ _ v ov iv u Q I r1 r2 r3 ⟨c, vs, k, j, rfl, rfl, e2, hj, hp.go (b := ()) (.wrote hS.sub e1 e2) (hS.wrote e1 e2 (r.set q3 j)) trivial⟩
        · exact False.elim hp
      · exact False.elim hp
    · rename_i l e
      split at hp
      · rename_i k ek
        split at hp
        · rename_i hl
          obtain ⟨c, vs, e1, e2, gk, r⟩ := hS.atD e
          obtain ⟨c', rfl, e1'⟩ := q1
          rw [e1] at e1'; cases e1'
          obtain rfl : ov = .ref c := r1
          obtain ⟨g1, g2⟩ := rep_putK (k := k) q3 gk r
          rw [key_V q2 ek] at r2
          refine d_setItem (by omega) I (DPut.k e2 (by rw [← keys_len gk, ← line_eq]; exact hl)) r2 r3 fun s' I' => ⟨_, I', ?_⟩
          have sk : SameK (.dK vs) (.dK (putK vs k v)) := .inr (.inr (.inr ⟨_, _, rfl, rfl⟩))
          exact hp.go (b := ()) (.wroteO hS.sub e1 e2 sk) (hS.wroteO e1 e2 sk trivial ⟨_, rfl, g1, g2⟩) trivial
        · exact False.elim hp
      · exact False.elim hp
    · exact False.elim hp
  · exact False.elim hp
theorem s_sub {o i : Expr} {spos : Pos} (hX : Cok X) (ho : PE X o (tE X.K f)) (hi : PE X i (tE X.K g)) (he : PE X e (tE X.K h)) (hs : swapsWithSole [.Subscript o i spos] e pos.line X.env = pure false) (hw : swappedStores [.Subscript o i spos] e X.env = pure none)
    (ha : ∀ v, assign (.Subscript o i spos) X.env v = (do
      let ov ← holding [v] (eval o X.env)
      let iv ← holding [v, ov] (eval i X.env)
      standAt spos
      holding [v, ov, iv] (setItem ov iv v)
      release [v, ov, iv] [])) :
    PS X (.Assign [.Subscript o i spos] e pos) (tS X.K fun σ S => (h σ S).bind fun z S1 => (f σ S1).bind fun x S2 => (g σ S2).bind fun y S3 => (setD x y z S3).bind fun _ S4 => .ok (.nx σ) S4) :=
  PS.imp (ps_asg he (pg_sub ho hi (setR hX.un) ha) hs hw rfl) fun D σ H hh => by
    obtain ⟨σd, S, M, μ, hS, hσ, hp⟩ := hh
    refine ⟨σd, S, M, μ, hS, hσ, hp.seqP fun z S1 v H1 M1 μ1 e1 x1 s1 r1 hp => ?_⟩
    refine ⟨σd, S1, M1, μ1, s1, hσ.of hS x1, hp.seqP fun x S2 w H2 M2 μ2 e2 x2 s2 r2 hp => ?_⟩
    refine ⟨σd, S2, M2, μ2, s2, (hσ.of hS x1).of s1 x2, hp.seqP fun y S3 w3 H3 M3 μ3 e3 x3 s3 r3 hp => ?_⟩
    refine ⟨S3, M3, μ3, x, y, z, s3, r2.of s2 x3, r3, (r1.of s1 x2).of s2 x3, hp.seqP fun _ S4 _ H4 M4 μ4 e4 x4 s4 _ hp => ?_⟩
    exact hp.fin s4 σ ((((hσ.of hS x1).of s1 x2).of s2 x3).of s3 x4)
/-- name op= e, ints -/
def augOk (o : Bop) : Bool := decide (o = .add) || decide (o = .sub) || decide (o = .mul)
theorem ipInt (o : Bop) (ho : augOk o = true) : PIp X (bopO o) (fun x y H Q => ∃ i j k, x = .int i ∧ y = .int j ∧ intB o i j = some k ∧ Q (.int k) H) := by
  intro pins s σ H x y v u Q I r1 r2 h
  obtain ⟨i, j, k, rfl, rfl, e, q⟩ := h
  cases o with
  | add => cases e; exact iop_add pins s σ H _ _ v u Q I r1 r2 ⟨i, j, rfl, rfl, q⟩
  | sub => cases e; exact iop_sub pins s σ H _ _ v u Q I r1 r2 ⟨i, j, rfl, rfl, q⟩
  | mul =>
    simp only [intB] at e
    split at e
    · rename_i hc
      cases e
      exact (opI (X := X) (f := inplaceOp .Mult) (C := fun i j => mulOk i j = true) (g := fun i j => i * j) fun _ _ _ _ _ _ _ hc q => imul_int q (mulOk_fit hc)) pins s σ H _ _ v u Q I r1 r2 ⟨i, j, rfl, rfl, hc, q⟩
    · cases e
  | fdiv => cases ho
  | mod => cases ho
  | pow => cases ho
theorem s_aug {i : Nat} {x : Str} {o : Bop} {pos' : Pos} (hX : Cok X) (hao : augOk o = true) (hi : X.N[i]? = some x) (hx : Loc X.env.scope x) (hf : X.fn x = true) (he : PE X e (tE X.K f)) :
    PS X (.AugAssign (.Name x pos') (bopO o) e pos) (tS X.K fun σ S => match σ[i]? with
    | some (some x) => (f σ S).bind fun y S1 => match x, y with
      | .int a, .int b => (R.of ((intB o a b).map .int) S1).bind fun z S1 => .ok (.nx (σ.set i (some z))) S1
      | _, _ => .no
    | _ => .no) := PS.imp (ps_aug hX.nd hi hx he (ipInt o hao) (.inl hf)) fun D σ H h => by
  obtain ⟨σd, S, M, μ, hS, hσ, hp⟩ := h
  dsimp only at hp
  split at hp
  · rename_i d ed
    obtain ⟨v, e1, r⟩ := hσ.2 i d ed
    refine ⟨v, e1, σd, S, M, μ, hS, hσ, hp.seqP fun y S1 w H1 M1 μ1 e2 x1 s1 r1 hp => ?_⟩
    cases d with
    | int p => cases y with
      | int q =>
        dsimp only at hp
        obtain ⟨z, hz, hp⟩ := hp.of
        cases hk : intB o p q with
        | none => rw [hk] at hz; cases hz
        | some k =>
          rw [hk] at hz; cases hz
          exact ⟨p, q, k, r, r1, hk, hp.fin s1 _ ((hσ.of hS x1).set (d := .int k) rfl i)⟩
      | _ => exact False.elim hp
    | _ => exact False.elim hp
  · exact False.elim hp
end
end Ev

/-! Loops and comprehensions. -/
namespace Ev
open PySem PySem.Spec PyProof.Rows L2
section
variable {X : Cx} {pos : Pos} {tg e iter elt c : Expr} {f : Sl → Ev.Sto → R D} {B : Sl → Ev.Sto → R Fl} {body : List Stmt} {T : Sl → Ev.Sto → R Bool} {SI : Sl → Ev.Sto → R (List D × List (Nat × List D))}
theorem Src.ext {K : PySem.W.Frag} {J : It} {l : List D} {g : List (Nat × List D)} {H H1 : Hp} {M M1 : Addr → Prop} {μ μ1 : List Addr} (h : Src K J l g H M μ) (x : Ext H M μ H1 M1 μ1) : Src K J l g H1 M1 μ1 :=
  fun H' M' μ' S' y s q i => h H' M' μ' S' (x.trans y) s q i
theorem drop_nil {l : List D} {i : Nat} (hi : i ≤ l.length) (e : l.drop i = []) : i = l.length := by
  have := congrArg List.length e
  simp at this
  omega
theorem drop_cons {l r : List D} {d : D} {i : Nat} (e : l.drop i = d :: r) : l[i]? = some d ∧ l.drop (i + 1) = r ∧ i < l.length := by
  have h1 : (l.drop i)[0]? = some d := by rw [e]; rfl
  rw [List.getElem?_drop] at h1
  refine ⟨by simpa using h1, ?_, ?_⟩
  · have : l.drop (i + 1) = (l.drop i).drop 1 := by rw [List.drop_drop]
    rw [this, e]; rfl
  · have := (List.getElem?_eq_some_iff.mp h1).1
    omega
theorem s_for {t : CT} (hp : PassesOwn (model X.prog X.w) X.A X.env X.xe) (hX : Cok X) (hi : PI X tg iter (tI X.K SI)) (hg : PG X tg (gB X.K t)) (hb : PSs X body (tS X.K B)) (hs : ∀ x, foldedSetIterable iter X.env x = pure x) :
    PS X (.For tg iter body [] pos) (tS X.K fun σ S => (SI σ S).bind fun p S1 => forL (fun d σ => bindT t d σ) B p.2 p.1 σ S1) := PS.imp (ps_for hp hX.calm hi hg hb hs) fun D σ H h => by
  obtain ⟨σd, S, M, μ, hS, hσ, hp⟩ := h
  refine ⟨σd, S, M, μ, hS, hσ, hp.seqP fun p S1 J H1 M1 μ1 e1 x1 s1 r1 hp => ?_⟩
  obtain ⟨l, g⟩ := p
  refine ⟨fun i m σ H => m = l.length - i ∧ i ≤ l.length ∧ ∃ σd S M μ, SOk X.K H M μ S ∧ Slt X.K H M μ σd σ ∧ Src X.K J l g H M μ ∧ PostS X.K (forL (fun d σ => bindT t d σ) B g (l.drop i) σd S) H M μ D,
    ⟨l.length, by simp, Nat.zero_le _, σd, S1, M1, μ1, s1, hσ.of hS x1, r1, hp⟩, ?_⟩
  rintro i m σ' H' ⟨rfl, hil, σd', S', M', μ', hS', hσ', src, hq⟩
  cases ed : l.drop i with
  | nil =>
    rw [ed] at hq
    unfold forL at hq
    split at hq
    · rename_i hgr
      exact .inl ⟨(src _ _ _ _ .refl hS' hgr i).1 (drop_nil hil ed), hq.fin hS' σ' hσ'⟩
    · exact False.elim hq
  | cons d r =>
    obtain ⟨q1, q2, q3⟩ := drop_cons ed
    rw [ed] at hq
    unfold forL at hq
    split at hq
    · rename_i hgr
      obtain ⟨go, yl⟩ := (src _ _ _ _ .refl hS' hgr i).2 d q1
      split at hq
      · exact False.elim hq
      · rename_i σ1 hb1
        refine .inr ⟨go, fun σ2 H2 => l.length - (i + 1) = l.length - (i + 1) ∧ i + 1 ≤ l.length ∧ ∃ σd S M μ, SOk X.K H2 M μ S ∧ Slt X.K H2 M μ σd σ2 ∧ Src X.K J l g H2 M μ ∧ PostS X.K (forL (fun d σ => bindT t d σ) B g (l.drop (i + 1)) σd S) H2 M μ D,
          fun σ2 H2 n => ⟨l.length - (i + 1), by omega, n⟩, fun x H2 hy => ?_⟩
        obtain ⟨x2, s2, r2⟩ := yl x H2 hy
        refine ⟨d, σd', σ1, S', M', μ', s2, hσ'.of hS' x2, r2, hb1, fun σ3 hσ3 _ => ?_⟩
        refine ⟨σ1, S', M', μ', s2, hσ3, (hq.ext x2).seq fun fl S3 H3 M3 μ3 x3 s3 hk => ?_⟩
        cases fl with
        | nx σ4 => exact fun σ5 hσ5 => ⟨rfl, q3, σ4, S3, M3, μ3, s3, hσ5, (src.ext x2).ext x3, by rw [q2]; exact hk⟩
        | ct σ4 => exact fun σ5 hσ5 => ⟨rfl, q3, σ4, S3, M3, μ3, s3, hσ5, (src.ext x2).ext x3, by rw [q2]; exact hk⟩
        | bk σ4 => exact fun σ5 hσ5 => hk.fin s3 σ5 hσ5
        | rt v => exact fun w hw => hk.fin s3 w hw
    · exact False.elim hq
theorem s_while {wf : Nat} (hp : PassesOwn (model X.prog X.w) X.A X.env X.xe) (hc : PT X c (tT X.K T)) (hb : PSs X body (tS X.K B)) :
    PS X (.While c body [] pos) (tS X.K fun σ S => whlL T B wf σ S) := PS.imp (ps_while hp hc hb) fun D σ H h => by
  refine ⟨fun m σ H => tS X.K (fun σ S => whlL T B m σ S) D σ H, ⟨wf, h⟩, fun m σ' H' h' => ?_⟩
  obtain ⟨σd, S, M, μ, hS, hσ, hp⟩ := h'
  cases m with
  | zero => exact False.elim hp
  | succ n =>
    refine ⟨σd, S, M, μ, hS, hσ, PostS.seqP hp fun x S1 v H1 M1 μ1 e1 x1 s1 r1 hp => ?_⟩
    cases (show x = v from r1)
    cases x with
    | true =>
      refine iteT ⟨fun σ2 H2 => tS X.K (fun σ S => whlL T B n σ S) D σ2 H2, fun σ2 H2 q => ⟨n, Nat.lt_succ_self _, q⟩, σd, S1, M1, μ1, s1, Slt.of hS x1 hσ, PostS.seq hp fun fl S3 H3 M3 μ3 x3 s3 hk => ?_⟩
      cases fl with
      | nx σ4 => exact fun σ5 hσ5 => ⟨σ4, S3, M3, μ3, s3, hσ5, hk⟩
      | ct σ4 => exact fun σ5 hσ5 => ⟨σ4, S3, M3, μ3, s3, hσ5, hk⟩
      | bk σ4 => exact fun σ5 hσ5 => hk.fin s3 σ5 hσ5
      | rt v => exact fun w hw => hk.fin s3 w hw
    | false => exact iteF (hp.fin s1 _ (Slt.of hS x1 hσ))
/-! ### a comprehension -/
mutual
theorem Rep.kept {K : PySem.W.Frag} {H H1 : Hp} {M : Addr → Prop} {μ : List Addr} (hM : ∀ a, M a → Mut (H a)) (hk : ∀ a o, H a = some o → ¬ M a → H1 a = some o) : ∀ {d : D} {v : V}, Rep K H M μ d v → Rep K H1 M μ d v
  | .non, _, h => h
  | .bl _, _, h => h
  | .int _, _, h => h
  | .str _, _, h => h
  | .tup l, _, h => by
    obtain ⟨a, vs, e, h1, h2⟩ := h
    refine ⟨a, vs, e, ?_, RepL.kept hM hk h2⟩
    rcases h1 with (h1 | ⟨o, h1⟩) | h1
    · exact .inl (.inl (hk _ _ h1 (notM hM h1)))
    · exact .inl (.inr ⟨o, hk _ _ h1 (notMf hM h1)⟩)
    · exact .inr h1
  | .frl l, _, h => by
    obtain ⟨a, vs, e, h1, h2⟩ := h
    refine ⟨a, vs, e, ?_, RepL.kept hM hk h2⟩
    rcases h1 with ⟨h1 | ⟨o, h1⟩, q⟩ | h1
    · exact .inl ⟨.inl (hk _ _ h1 q), q⟩
    · exact .inl ⟨.inr ⟨o, hk _ _ h1 q⟩, q⟩
    · exact .inr h1
  | .loc n, _, h => h
  | .emp, _, h => by
    obtain ⟨a, e, h1, q⟩ := h
    exact ⟨a, e, hk _ _ h1 q, q⟩
theorem RepL.kept {K : PySem.W.Frag} {H H1 : Hp} {M : Addr → Prop} {μ : List Addr} (hM : ∀ a, M a → Mut (H a)) (hk : ∀ a o, H a = some o → ¬ M a → H1 a = some o) : ∀ {l : List D} {vs : List V}, RepL K H M μ l vs → RepL K H1 M μ l vs
  | [], _, h => h
  | d :: r, _, h => by
    obtain ⟨v, w, e, h1, h2⟩ := h
    exact ⟨v, w, e, Rep.kept hM hk h1, RepL.kept hM hk h2⟩
end
/-- the list being made is written; nobody else knows it -/
theorem SOk.made {K : PySem.W.Frag} {H : Hp} {M : Addr → Prop} {μ : List Addr} {S : Ev.Sto} {p : Addr} {ws : List V} (h : SOk K H M μ S) (hm : M p) (hn : p ∉ μ) : SOk K (upd H p (.lst ws)) M μ S := by
  have hk : ∀ a o, H a = some o → ¬ M a → upd H p (.lst ws) a = some o := fun a o e q => by
    rw [upd_ne (fun (z : a = p) => q (z ▸ hm))]; exact e
  refine ⟨h.len, h.nd, h.sub, fun a ha => ?_, fun n l e => ?_⟩
  · by_cases z : a = p
    · subst z; rw [upd_same]; trivial
    · rw [upd_ne z]; exact h.mt a ha
  · obtain ⟨a, vs, e1, e2, r⟩ := h.obj n l e
    have z : a ≠ p := fun z => hn (z ▸ List.mem_of_getElem? e1)
    exact ⟨a, vs, e1, by rw [upd_ne z]; exact e2, r.imp fun _ _ r => RepL.kept h.mt hk r⟩
theorem wipe_get {σ : L2.St} {i : Nat} : ∀ {vs : List Nat}, i ∈ vs → i < σ.length → (wipe σ vs)[i]? = some none
  | [], h, _ => by simp at h
  | v :: vs, h, hl => by
    unfold wipe
    by_cases e : v = i
    · subst e
      rw [List.getElem?_set_self (by rw [wipe_length]; exact hl)]
    · rw [List.getElem?_set_ne e]
      refine wipe_get ?_ hl
      rcases List.mem_cons.mp h with z | z
      · exact absurd z.symm e
      · exact z
theorem wipe_not {σ : L2.St} {i : Nat} : ∀ {vs : List Nat}, i ∉ vs → (wipe σ vs)[i]? = σ[i]?
  | [], _ => rfl
  | v :: vs, h => by
    unfold wipe
    rw [List.getElem?_set_ne (fun e => h (by rw [e]; exact List.mem_cons_self))]
    exact wipe_not fun z => h (List.mem_cons_of_mem _ z)
theorem wipe_but {σ σ' : L2.St} {l vs : List Nat} (b : But l (wipe σ vs) σ') (hl : ∀ i ∈ l, i ∈ vs) : wipe σ' vs = wipe σ vs := by
  refine List.ext_getElem? fun i => ?_
  by_cases hi : i ∈ vs
  · by_cases hs : i < σ.length
    · have hs' : i < σ'.length := by rw [b.1, wipe_length]; exact hs
      rw [wipe_get hi hs, wipe_get hi hs']
    · rw [List.getElem?_eq_none (by rw [wipe_length, b.1, wipe_length]; omega), List.getElem?_eq_none (by rw [wipe_length]; omega)]
  · rw [wipe_not hi, b.2 i fun z => hi (hl i z), wipe_not hi]
/-- the wish stays at the start -/
theorem Post.seqB {α β γ δ : Type} {Rl : Hp → (Addr → Prop) → List Addr → α → β → Prop} {R2 : Hp → (Addr → Prop) → List Addr → γ → δ → Prop} {K : PySem.W.Frag} {r : R α} {H0 H : Hp} {M0 M : Addr → Prop} {μ0 μ : List Addr} {Q : β → Hp → Prop} {Q2 : δ → Hp → Prop} {k : α → Ev.Sto → R γ} (h : Post R2 K (r.bind k) H0 M0 μ0 Q2)
    (hk : ∀ a S1 b H1 M1 μ1, Ext H M μ H1 M1 μ1 → SOk K H1 M1 μ1 S1 → Rl H1 M1 μ1 a b → Post R2 K (k a S1) H0 M0 μ0 Q2 → Q b H1) : Post Rl K r H M μ Q := by
  cases r with
  | ok a S' => exact fun b H' M' μ' y s q => hk a S' b H' M' μ' y s q h
  | err _ _ _ => exact h
  | no => exact h
/-- the reading of a comprehension from the evaluator's -/
theorem lc_read {K : PySem.W.Frag} {t : CT} {own : List Nat} {tt : TT} {te : TE} {FT : Sl → Ev.Sto → R Bool} {fe : Sl → Ev.Sto → R D} (hown : ∀ i ∈ idxT t, i ∈ own) (htt : ∀ σ H Q, tT K FT σ H Q → tt σ H Q) (hte : ∀ σ H Q, tE K fe σ H Q → te σ H Q) {σ : L2.St} {H : Hp} {Q : VK}
    (h : tF K (fun σ S => (SI σ S).bind fun p S1 => cmpL (fun d S => match bindT t d (wip σ own) with
        | none => .no
        | some σ2 => (FT σ2 S).bind fun b S2 => if b = true then (fe σ2 S2).bind fun y S3 => .ok (some y) S3 else .ok none S2) p.2 p.1 [] S1) σ H Q) : tLc (tI K SI) (gB K t) tt te own σ H Q := by
  obtain ⟨σd, S, M, μ, hS, hσ, hp⟩ := h
  refine ⟨σd, S, M, μ, hS, hσ, hp.seq fun p S1 J H1 M1 μ1 e1 x1 s1 r1 hp => ?_⟩
  obtain ⟨l, g⟩ := p
  generalize hone : (fun (d : Ev.D) (S : Ev.Sto) => match bindT t d (wip σd own) with
    | none => R.no
    | some σ2 => (FT σ2 S).bind fun b S2 => if b = true then (fe σ2 S2).bind fun y S3 => .ok (some y) S3 else .ok none S2 : Ev.D → Ev.Sto → R (Option Ev.D)) = one at hp
  intro D hD
  have hσ1 := hσ.of hS x1
  have hD0 : H D = none := none_back x1.there hD
  refine ⟨fun i m H' => m = l.length - i ∧ i ≤ l.length ∧ ∃ S' M' μ' acc vs, Ext H1 M1 μ1 H' M' μ' ∧ SOk K H' M' μ' S' ∧ M' D ∧ D ∉ μ' ∧ H' D = some (.lst vs) ∧ RepL K H' M' μ' acc vs ∧ Post (RN K H) K (cmpL one g (l.drop i) acc S') H1 M1 μ1 Q,
    ⟨l.length, by simp, Nat.zero_le _, S1, _, μ1, [], [], .lay hD, s1.lay hD, .inr rfl, fun z => notMn s1.mt hD (s1.sub _ z), upd_same, rfl, hp⟩, ?_⟩
  rintro i m H' ⟨rfl, hil, S', M', μ', acc, vs, x', s', mD, nD, hH, hr, hq⟩
  have src := r1.ext x'
  cases ed : l.drop i with
  | nil =>
    rw [ed] at hq
    unfold cmpL at hq
    split at hq
    · rename_i hgr
      exact .inl ⟨(src _ _ _ _ .refl s' hgr i).1 (drop_nil hil ed), hq.go x' s' ⟨D, vs, rfl, hH, hD0, mD, nD, hr⟩⟩
    · exact False.elim hq
  | cons d r =>
    obtain ⟨q1, q2, q3⟩ := drop_cons ed
    rw [ed] at hq
    unfold cmpL at hq
    split at hq
    · rename_i hgr
      obtain ⟨go, yl⟩ := (src _ _ _ _ .refl s' hgr i).2 d q1
      refine .inr ⟨go, fun H2 => l.length - (i + 1) = l.length - (i + 1) ∧ i + 1 ≤ l.length ∧ ∃ S' M' μ' acc vs, Ext H1 M1 μ1 H2 M' μ' ∧ SOk K H2 M' μ' S' ∧ M' D ∧ D ∉ μ' ∧ H2 D = some (.lst vs) ∧ RepL K H2 M' μ' acc vs ∧ Post (RN K H) K (cmpL one g (l.drop (i + 1)) acc S') H1 M1 μ1 Q,
        fun H2 n => ⟨l.length - (i + 1), by omega, n⟩, fun x H2 hy => ?_⟩
      obtain ⟨x2, s2, r2⟩ := yl x H2 hy
      have hq' := hq
      rw [← hone] at hq
      dsimp only at hq
      cases hb : bindT t d (wip σd own) with
      | none => rw [hb] at hq; exact False.elim hq
      | some σ2 =>
        rw [hb] at hq
        dsimp only at hq
        rw [bind_assoc] at hq
        have hσw : Slt K H2 M' μ' (wip σd own) (wipe σ own) := ((hσ1.of s1 x').of s' x2).wip own
        refine ⟨d, wip σd own, σ2, S', M', μ', s2, hσw, r2, hb, fun σ3 hσ3 hbut => ⟨wipe_but hbut hown, ?_⟩⟩
        refine htt σ3 H2 _ ⟨σ2, S', M', μ', s2, hσ3, hq.seqB fun b S3 b' H3 M3 μ3 x3 s3 r3 hk => ?_⟩
        cases (show b = b' from r3)
        have t3 := (x'.trans x2).trans x3
        have stay : ∀ {Ha Hb : Hp} {Ma Mb : Addr → Prop} {μa μb : List Addr} {ws : List V}, Ext Ha Ma μa Hb Mb μb → Ma D → D ∉ μa → Ha D = some (.lst ws) → Mb D ∧ D ∉ μb ∧ Hb D = some (.lst ws) := fun {Ha Hb Ma Mb μa μb ws} xx a1 a2 a3 =>
          ⟨xx.old D a1, (fun z => (xx.nmu D z).elim a2 fun z => by rw [a3] at z; cases z), xx.keep D _ a3 a2⟩
        obtain ⟨d1, d2, d3⟩ := stay x2 mD nD hH
        obtain ⟨f1, f2, f3⟩ := stay x3 d1 d2 d3
        cases b with
        | false =>
          refine iteF ⟨rfl, q3, S3, M3, μ3, acc, vs, t3, s3, f1, f2, f3, (hr.of s' x2).of s2 x3, ?_⟩
          rw [q2]
          rw [← hone]
          exact hk
        | true =>
          simp only [if_true] at hk
          rw [bind_assoc] at hk
          refine iteT (hte σ3 H3 _ ⟨σ2, S3, M3, μ3, s3, hσ3.of s2 x3, hk.seqB fun y S4 w H4 M4 μ4 x4 s4 r4 hk4 => ?_⟩)
          obtain ⟨g1, g2, g3⟩ := stay x4 f1 f2 f3
          have hk5 : Post (RN K H) K (if acc.length < line then cmpL one g r (acc ++ [y]) S4 else .no) H1 M1 μ1 Q := by rw [← hone]; exact hk4
          split at hk5
          · rename_i hlen
            have hr4 : RepL K H4 M4 μ4 acc vs := ((hr.of s' x2).of s2 x3).of s3 x4
            have hkk : ∀ a o, H4 a = some o → ¬ M4 a → upd H4 D (.lst (vs ++ [w])) a = some o := fun a o ea q => by
              rw [upd_ne (fun (z : a = D) => q (z ▸ g1))]; exact ea
            refine ⟨vs, g3, by rw [← hr.len, ← line_eq]; exact hlen, rfl, q3, S4, M4, μ4, acc ++ [y], vs ++ [w], ?_, s4.made g1 g2, g1, g2, upd_same, RepL.kept s4.mt hkk (hr4.app (RepL.one r4)), by rw [q2]; exact hk5⟩
            have t4 := t3.trans x4
            refine ⟨fun a o ha hn => ?_, fun a o ha => ?_, t4.pre, t4.old, t4.new, t4.nmu⟩
            · rw [upd_ne (ne_of_none ha hD)]; exact t4.keep a o ha hn
            · rw [upd_ne (ne_of_none ha hD)]; exact t4.kind a o ha
          · exact False.elim hk5
    · exact False.elim hq
end
end Ev

/-! Further expressions: extend, a written dict asked at once, len(set(..)). -/
namespace Ev
open PySem PySem.Spec PyProof.Rows L2
section
variable {X : Cx} {pos p : Pos} {a b e o : Expr} {es : List Expr} {f g : Sl → Ev.Sto → R D} {fs : Sl → Ev.Sto → R (List D)} {x : Str}
/-! ### o.extend(new list) -/
theorem mR_extend : MtR X "list.extend" (fun v vs H Q => ∃ S M μ d ys c ws, vs = [.ref c] ∧ SOk X.K H M μ S ∧ Rep X.K H M μ d v ∧ H c = some (.lst ws) ∧ RepL X.K H M μ ys ws ∧ Post (RV X.K) X.K (extD d ys S) H M μ Q) := by
  intro pins s σ H x xs v us Q I rx rxs h
  obtain ⟨S, M, μ, d, ys, c, ws, rfl, hS, r1, hc, r2, hp⟩ := h
  unfold extD at hp
  split at hp
  · rename_i n
    split at hp
    · rename_i l e
      split at hp
      · rename_i hl
        obtain ⟨t, vs, e1, e2, r⟩ := hS.at e
        obtain ⟨t', rfl, e1'⟩ := r1
        rw [e1] at e1'; cases e1'
        exact mt_extend pins s σ H _ _ v us Q I rx rxs ⟨t, c, vs, ws, rfl, rfl, e2, hc, by rw [← r.len, ← r2.len, ← line_eq]; exact hl, hp.go (.wrote hS.sub e1 e2) (hS.wrote e1 e2 (r.app r2)) rfl⟩
      · exact False.elim hp
    · exact False.elim hp
  · exact False.elim hp
theorem r_ext {apos : Pos} (ho : PE X o (tE X.K f)) (ha : PE X a (tF X.K fs)) (hr : plainRecv o = true) (hl : (apos.endLine == pos.line) = true) (hs : isStar a = false) :
    PE X (.Call (.Attribute o "extend" apos) [a] [] pos) (tE X.K fun σ S => (f σ S).bind fun x S1 => if isL S1 x = true then (fs σ S1).bind fun ys S2 => extD x ys S2 else .no) := by
  refine PE.imp (pe_bm PySem.F.plainAttrs_list PySem.F.slot_list_extend PySem.F.type_list_extend mR_extend ho (pa_cons ha pa_nil (star_cons hs)) (plain_base hr) (by rw [star_cons hs]; rfl) hl (star_cons hs) rfl) fun σ H Q h => ?_
  obtain ⟨σd, S, M, μ, hS, hσ, hp⟩ := h
  refine ⟨σd, S, M, μ, hS, hσ, hp.seq fun x S1 v H1 M1 μ1 e1 x1 s1 r1 hp => ?_⟩
  split at hp
  case isFalse => exact False.elim hp
  rename_i hL
  have ty : tyV X.K "list" v H1 := by
    obtain ⟨xs, c, rfl, h2⟩ := isL_at s1 r1 hL
    exact tyV_of h2
  refine ⟨ty, σd, S1, M1, μ1, s1, hσ.of hS x1, hp.seq fun ys S2 w H2 M2 μ2 e2 x2 s2 r2 hp => ?_⟩
  obtain ⟨c, ws, rfl, g1, g2, g3, g4, g5⟩ := r2
  exact ⟨S2, M2, μ2, x, ys, c, ws, rfl, s2, r1.of s1 x2, g1, g5, hp⟩
/-! ### o.extend(tuple) -/
theorem mR_extendT : MtR X "list.extend" (fun v vs H Q => ∃ S M μ d ys w, vs = [w] ∧ SOk X.K H M μ S ∧ Rep X.K H M μ d v ∧ Rep X.K H M μ (.tup ys) w ∧ Post (RV X.K) X.K (extD d ys S) H M μ Q) := by
  intro pins s σ H x xs v us Q I rx rxs h
  obtain ⟨S, M, μ, d, ys, w, rfl, hS, r1, r2, hp⟩ := h
  obtain ⟨c, ws, rfl, g1, g2⟩ := r2
  unfold extD at hp
  split at hp
  · rename_i n
    split at hp
    · rename_i l e
      split at hp
      · rename_i hl
        obtain ⟨t, vs, e1, e2, r⟩ := hS.at e
        obtain ⟨t', rfl, e1'⟩ := r1
        rw [e1] at e1'; cases e1'
        cases rx
        obtain ⟨u, rfl, ru⟩ := rxs.one
        cases ru
        obtain ⟨z, its, k, rv, hl1, ho⟩ := I.lstM e2
        obtain ⟨its2, rv2, pl, hz2⟩ := I.tuple g1
        have b1 := rv2.length
        have b2 := r.len
        have b3 := g2.len
        have b4 := line_eq
        refine EvP.ext_call ho pl (by rw [List.size_toArray]; omega) ?_
        refine ⟨.non, _, I.lset (its' := its ++ its2) (t' := s.toks) e2 ho (by simp) (rv.append rv2) (by rw [List.length_append]; omega), rfl, hp.go (.wrote hS.sub e1 e2) (hS.wrote e1 e2 (r.app g2)) rfl⟩
      · exact False.elim hp
    · exact False.elim hp
  · exact False.elim hp
theorem r_extE {apos : Pos} (ho : PE X o (tE X.K f)) (ha : PE X a (tE X.K g)) (hr : plainRecv o = true) (hl : (apos.endLine == pos.line) = true) (hs : isStar a = false) :
    PE X (.Call (.Attribute o "extend" apos) [a] [] pos) (tE X.K fun σ S => (f σ S).bind fun x S1 => if isL S1 x = true then (g σ S1).bind fun y S2 => match y with
      | .tup ys => extD x ys S2
      | _ => .no else .no) := by
  refine PE.imp (pe_bm PySem.F.plainAttrs_list PySem.F.slot_list_extend PySem.F.type_list_extend mR_extendT ho (pa_cons ha pa_nil (star_cons hs)) (plain_base hr) (by rw [star_cons hs]; rfl) hl (star_cons hs) rfl) fun σ H Q h => ?_
  obtain ⟨σd, S, M, μ, hS, hσ, hp⟩ := h
  refine ⟨σd, S, M, μ, hS, hσ, hp.seq fun x S1 v H1 M1 μ1 e1 x1 s1 r1 hp => ?_⟩
  split at hp
  case isFalse => exact False.elim hp
  rename_i hL
  have ty : tyV X.K "list" v H1 := by
    obtain ⟨xs, c, rfl, h2⟩ := isL_at s1 r1 hL
    exact tyV_of h2
  refine ⟨ty, σd, S1, M1, μ1, s1, hσ.of hS x1, hp.seq fun y S2 w H2 M2 μ2 e2 x2 s2 r2 hp => ?_⟩
  cases y with
  | tup ys => exact ⟨S2, M2, μ2, x, ys, w, rfl, s2, r1.of s1 x2, r2, hp⟩
  | _ => exact False.elim hp
/-! ### xs + ys, to be changed -/
theorem f_cat (ha : PE X a (tE X.K f)) (hb : PE X b (tE X.K g)) : PE X (.BinOp a .Add b pos) (tF X.K fun σ S => (f σ S).bind fun x S1 => (g σ S1).bind fun y S2 => R.of (catD S2 x y) S2) :=
  PE.imp (pe_op op_catF ha hb) fun σ H Q h => by
    obtain ⟨σd, S, M, μ, hS, hσ, hp⟩ := h
    refine ⟨σd, S, M, μ, hS, hσ, hp.seq fun x S1 v H1 M1 μ1 e1 x1 s1 r1 hp => ?_⟩
    refine ⟨σd, S1, M1, μ1, s1, hσ.of hS x1, hp.seq fun y S2 w H2 M2 μ2 e2 x2 s2 r2 hp => ?_⟩
    obtain ⟨l, hz, hp⟩ := hp.ofL
    unfold catD at hz
    split at hz
    · rename_i l1 l2 d1 d2
      split at hz
      · rename_i hc
        cases hz
        obtain ⟨a, vs, rfl, h1, h2⟩ := repF s2 (r1.of s1 x2) d1
        obtain ⟨b, ws, rfl, h3, h4⟩ := repF s2 r2 d2
        exact ⟨a, b, vs, ws, rfl, rfl, h1, h3, by rw [← h2.len, ← h4.len, ← line_eq]; exact hc, hp.new s2 (h2.app h4) (x1.trans x2).there⟩
      · cases hz
    · cases hz
/-! ### {} , isinstance(x, (t, u)) -/
theorem r_emp : PE X (.Dict [] [] pos) (tE X.K fun _ S => .ok .emp S) :=
  PE.imp pe_dnewK fun σ H Q h => by
    obtain ⟨σd, S, M, μ, hS, hσ, hp⟩ := h
    exact fun p h0 => hp (.ref p) _ M μ (.laid hS.sub hS.mt h0) (hS.laid h0) ⟨p, rfl, upd_same, notMn hS.mt h0⟩
theorem tyX_ok {K : PySem.W.Frag} {H : Hp} {M : Addr → Prop} {μ : List Addr} {S : Ev.Sto} {d : D} {v : V} {t u : Ty} {a b : Bool} (hS : SOk K H M μ S) (r : Rep K H M μ d v) (e : tyD S t d = some a) (e2 : tyD S u d = some b) :
    ∃ T : String, TyX K H v (.type T) ∧ kitB T (tyN t) = some a ∧ kitB T (tyN u) = some b := by
  have two : ∀ (x y : Ty), (kitB (tyN x) (tyN y)) = some (decide (x = y ∨ (x = .bool ∧ y = .int))) := kit_tys
  unfold tyD at e e2
  split at e
  · rename_i e1; have z := der_non e1; subst z; cases e; cases e2; rw [show v = .non from r]
    exact ⟨_, .base .non, kit_non t, kit_non u⟩
  · rename_i x e1; have z := der_bl e1; subst z; cases e; cases e2; rw [show v = .bl _ from r]
    exact ⟨_, .base (.bl x), (two .bool t).trans (by cases t <;> rfl), (two .bool u).trans (by cases u <;> rfl)⟩
  · rename_i x e1; have z := der_int e1; subst z; cases e; cases e2; rw [show v = .int _ from r]
    exact ⟨_, .base (.int x), (two .int t).trans (by cases t <;> rfl), (two .int u).trans (by cases u <;> rfl)⟩
  · rename_i x e1; have z := der_str e1; subst z; cases e; cases e2; rw [show v = .str _ from r]
    exact ⟨_, .base (.str x), (two .str t).trans (by cases t <;> rfl), (two .str u).trans (by cases u <;> rfl)⟩
  · rename_i e1; have z := der_tup e1; subst z; cases e; cases e2
    obtain ⟨c, vs, rfl, h1, h2⟩ := r
    exact ⟨_, SqT.ty h1, (two .tuple t).trans (by cases t <;> rfl), (two .tuple u).trans (by cases u <;> rfl)⟩
  · rename_i l e1
    rw [e1] at e2
    cases e; cases e2
    obtain ⟨c, vs, rfl, h1, h2⟩ := repF hS r e1
    exact ⟨_, SqL.ty h1, (two .list t).trans (by cases t <;> rfl), (two .list u).trans (by cases u <;> rfl)⟩
  · cases e
  · rename_i e1; have z := der_emp e1; subst z; cases e; cases e2
    obtain ⟨c, rfl, h1, _⟩ := r
    exact ⟨_, .base (.dK h1), kit_dic t, kit_dic u⟩
theorem r_isi2 {t u : Ty} {y z : Str} {p2 p3 pt : Pos} {kk : Nat} (ht : tyC y = some t) (hu : tyC z = some u) (hg : Gl X "isinstance") (hm : X.mg "isinstance" = none) (hgy : Gl X y) (hmy : X.mg y = none) (hny : y ≠ "__name__") (hdy : (y == ("__debug__" : Str)) = false)
    (hgz : Gl X z) (hmz : X.mg z = none) (hnz : z ≠ "__name__") (hdz : (z == ("__debug__" : Str)) = false) (ha : PE X a (tE X.K f)) (hs : isStar a = false) :
    PE X (.Call (.Name "isinstance" p) [a, .Tuple [.Name y p2, .Name z p3] kk pt] [] pos) (tE X.K fun σ S => (f σ S).bind fun x S1 => R.of ((ty2D S1 t u x).map .bl) S1) := by
  have hT : PE X (.Name y p2) (tC (.ty (tyN t))) := pe_bltn hgy hmy (boot_ty ht) rfl hny hdy
  have hU : PE X (.Name z p3) (tC (.ty (tyN u))) := pe_bltn hgz hmz (boot_ty hu) rfl hnz hdz
  refine PE.imp (pe_callB call_isiT hg hm PyProof.Rows.boot_isinstance (pa_cons ha (pa_cons (pe_tup (pa_cons hT (pa_cons hU pa_nil))) pa_nil) (star_cons hs)) (by decide) (by decide) (star_cons hs)) fun σ H Q h => ?_
  obtain ⟨σd, S, M, μ, hS, hσ, hp⟩ := h
  refine ⟨σd, S, M, μ, hS, hσ, hp.seq fun x S1 v H1 M1 μ1 e1 x1 s1 r1 hp => ?_⟩
  obtain ⟨w, hz, hp⟩ := hp.ofL
  refine ⟨by rw [sizeLine_eq]; show 2 ≤ _; decide, fun q hq => ?_⟩
  unfold ty2D at hz
  split at hz
  · rename_i k1 k2 h1 h2
    cases hz
    have s2 := s1.laid (o := .tup [.ty (tyN t), .ty (tyN u)]) hq
    have x2 : Ext H1 M1 μ1 (upd H1 q (.tup [.ty (tyN t), .ty (tyN u)])) M1 μ1 := .laid s1.sub s1.mt hq
    obtain ⟨T, ty, b1, b2⟩ := tyX_ok s2 (r1.of s1 x2) h1 h2
    refine ⟨v, q, _, _, [.type (tyN t), .type (tyN u)], k1 || k2, rfl, by rw [upd_same], .cons (.ty _) (.cons (.ty _) .nil), ty, kitAny_cons (kit_ty b1) (fun z => ?_) (fun z => by rw [z]; rfl), hp (.bl (k1 || k2)) _ M1 μ1 x2 s2 rfl⟩
    exact kitAny_cons (kit_ty b2) (fun z2 => by rw [z, z2]; exact kitAny_nil) (fun z2 => by rw [z2, Bool.or_true])
  · cases hz
/-! ### starred ones -/
theorem l_star (ha : PE X a (tE X.K f)) (hr : PA X es (tA X.K fs)) : PA X (.Starred a p :: es) (tA X.K fun σ S => (f σ S).bind fun x S1 => (R.of (seqD S1 x) S1).bind fun l S1 => (fs σ S1).bind fun xs S2 => .ok (l ++ xs) S2) :=
  PA.imp (StX.pa_star ha hr rfl) fun σ H Q h => by
    obtain ⟨σd, S, M, μ, hS, hσ, hp⟩ := h
    refine ⟨σd, S, M, μ, hS, hσ, hp.seq fun x S1 v H1 M1 μ1 e1 x1 s1 r1 hp => ?_⟩
    obtain ⟨l, hz, hp⟩ := hp.of
    obtain ⟨c, vs, rfl, h1, h2⟩ := rep_seq s1 r1 hz
    refine ⟨c, vs, rfl, (h2.imp (·.2) (·.2)).symm, σd, S1, M1, μ1, s1, hσ.of hS x1, hp.seq fun y S2 w H2 M2 μ2 e2 x2 s2 r2 hp => ?_⟩
    exact hp.fin s2 ((RepL.of s1 x2 h1).app r2)
/-! ### len(set(ints)) -/
theorem dedup_met (ns : List Int) : firstMet (fun i => ns.getD i 0) ns.length = dedupI ns := by
  have e : (List.range ns.length).map (fun i => ns.getD i 0) = ns := by
    refine List.ext_getElem? fun i => ?_
    rw [List.getElem?_map]
    by_cases h : i < ns.length
    · rw [List.getElem?_range h, Option.map_some, List.getElem?_eq_getElem h, List.getD_eq_getElem?_getD, List.getElem?_eq_getElem h]; rfl
    · rw [List.getElem?_eq_none (by simpa using h), List.getElem?_eq_none (by omega)]; rfl
  unfold firstMet dedupI
  rw [e]
  rfl
theorem r_lenSet {p2 q : Pos} (hX : Cok X) (hg : Gl X "len") (hm : X.mg "len" = none) (hg2 : Gl X "set") (hm2 : X.mg "set" = none) (ha : PE X a (tE X.K f)) (hs : isStar a = false) :
    PE X (.Call (.Name "len" p) [.Call (.Name "set" p2) [a] [] q] [] pos) (tE X.K fun σ S => (f σ S).bind fun x S1 => R.of (lenSetD S1 x) S1) := by
  refine ⟨fun pins s σ H Q I h => Call_ (ld_blt I hg hm boot_len (PyProof.Rows.callWith_builtin1 (PyProof.Rows.args_cons (Call_ (ld_blt I hg2 hm2 boot_set (PyProof.Rows.callWith_type1 (PyProof.Rows.args_cons (Q := _) ?_ (star_cons hs)) (star_cons hs) rfl))) rfl) rfl rfl))⟩
  obtain ⟨σd, S, M, μ, hS, hσ, hp⟩ := h
  refine thn (ha.run pins s σ H (fun v H1 => ∃ (l : Addr) (ns : List Int), v = .ref l ∧ SqL X.K H1 l (ns.map V.int) ∧ ns.length ≤ 4000 ∧ Q (.int (dedupI ns).length) H1) I ⟨σd, S, M, μ, hS, hσ, hp.seq fun x S1 v H1 M1 μ1 e1 x1 s1 r1 hp => ?_⟩) fun v s1 ⟨x, H1, I1, r1, q1⟩ => PyProof.Rows.args_nil ?_
  · obtain ⟨z, hz, hp⟩ := hp.ofL
    unfold lenSetD at hz
    split at hz
    · rename_i l e
      obtain ⟨c, ws, rfl, g1, g2⟩ := repF s1 r1 e
      split at hz
      · rename_i ns hi
        split at hz
        · rename_i hl
          cases hz
          rw [rep_ints hi g2] at g1
          exact ⟨c, ns, rfl, g1, hl, hp.fin s1 rfl⟩
        · cases hz
      · cases hz
    · cases hz
  · obtain ⟨l, ns, rfl, hq, hl, q1⟩ := q1
    cases r1
    obtain ⟨its, r, pl, hz⟩ := I1.list hq
    have hlen : its.toArray.size = ns.length := by rw [List.size_toArray, ← r.length, List.length_map]
    refine call_set_list (I1.ok.hd hX.calm) pl.isList (ns := ns) (by simpa using RZ.intsAre_vals r) (by rw [hlen]; unfold scanBound; omega) fun h' tk hS hk => PyProof.Rows.args_nil ?_
    rw [hlen, dedup_met] at hS
    obtain ⟨ob, tb, ep, t, ho, hex, hd, _, _, _, hf, hn⟩ := hS
    have J : Inv X pins σ H1 { s1 with heap := h', toks := tk } := I1.kept fun b o e => hk b o (Heap.lt_size e) e
    have bd : (dedupI ns).length ≤ ns.length := by rw [← dedup_met]; exact firstMet_length_le _ _
    exact call_len_set ho hex hd hf (by rw [hn]; omega) ⟨.int (dedupI ns).length, H1, J.tok _, ⟨_, by rw [hn]⟩, q1⟩
end
/-! ### sorted(set(ints)) -/
section
theorem asc_one : ∀ {a b : List Int}, a.Pairwise (· < ·) → b.Pairwise (· < ·) → (∀ k, k ∈ a ↔ k ∈ b) → a = b
  | [], [], _, _, _ => rfl
  | [], y :: b, _, _, h => by have := (h y).mpr List.mem_cons_self; simp at this
  | x :: a, [], _, _, h => by have := (h x).mp List.mem_cons_self; simp at this
  | x :: a, y :: b, ha, hb, h => by
    obtain ⟨ha1, ha2⟩ := List.pairwise_cons.mp ha
    obtain ⟨hb1, hb2⟩ := List.pairwise_cons.mp hb
    have e : x = y := by
      rcases List.mem_cons.mp ((h x).mp List.mem_cons_self) with z | z
      · exact z
      · rcases List.mem_cons.mp ((h y).mpr List.mem_cons_self) with w | w
        · exact w.symm
        · have := hb1 x z
          have := ha1 y w
          omega
    subst e
    rw [asc_one ha2 hb2 fun k => ?_]
    constructor
    · intro z
      rcases List.mem_cons.mp ((h k).mp (List.mem_cons_of_mem _ z)) with w | w
      · have := ha1 k z; omega
      · exact w
    · intro z
      rcases List.mem_cons.mp ((h k).mpr (List.mem_cons_of_mem _ z)) with w | w
      · have := hb1 k z; omega
      · exact w
theorem dedup_snoc (acc : List Int) : ∀ ns : List Int, (∀ k, k ∈ ns.foldl (fun acc k => if acc.any (· == k) = true then acc else acc ++ [k]) acc ↔ k ∈ acc ∨ k ∈ ns) ∧ (acc.Nodup → (ns.foldl (fun acc k => if acc.any (· == k) = true then acc else acc ++ [k]) acc).Nodup)
  | [] => ⟨fun k => by simp, fun h => h⟩
  | x :: r => by
    rw [List.foldl_cons]
    by_cases e : acc.any (· == x) = true
    · rw [if_pos e]
      obtain ⟨h1, h2⟩ := dedup_snoc acc r
      obtain ⟨y, hy, e2⟩ := List.any_eq_true.mp e
      have e2 : y = x := by simpa using e2
      subst e2
      refine ⟨fun k => ?_, h2⟩
      rw [h1 k, List.mem_cons]
      constructor
      · rintro (z | z)
        · exact .inl z
        · exact .inr (.inr z)
      · rintro (z | rfl | z)
        · exact .inl z
        · exact .inl hy
        · exact .inr z
    · rw [if_neg e]
      obtain ⟨h1, h2⟩ := dedup_snoc (acc ++ [x]) r
      refine ⟨fun k => ?_, fun h => h2 ?_⟩
      · rw [h1 k, List.mem_append, List.mem_singleton, List.mem_cons, or_assoc]
      · refine List.nodup_append.mpr ⟨h, by simp, fun a ha b hb => ?_⟩
        rw [List.mem_singleton.mp hb]
        rintro rfl
        exact e (List.any_eq_true.mpr ⟨a, ha, by simp⟩)
theorem srtU_mem (ns : List Int) (k : Int) : k ∈ srtU ns ↔ k ∈ ns := by
  unfold srtU
  rw [msort_eq, (List.mergeSort_perm _ _).mem_iff]
  have := (dedup_snoc [] ns).1 k
  simpa [dedupI] using this
theorem srtU_pw (ns : List Int) : (srtU ns).Pairwise (· < ·) := by
  unfold srtU
  rw [msort_eq]
  have pw := List.pairwise_mergeSort (le := fun a b : Int => decide (a ≤ b)) (fun a b c h1 h2 => by simp at h1 h2 ⊢; omega) (fun a b => by simp; omega) (dedupI ns)
  have nd : ((dedupI ns).mergeSort fun a b => decide (a ≤ b)).Nodup := (List.mergeSort_perm _ _).nodup_iff.mpr ((dedup_snoc [] ns).2 (by simp))
  refine (List.Pairwise.and pw nd).imp fun {a b} ⟨h1, h2⟩ => ?_
  simp at h1
  omega
end
theorem repL_ints {K : PySem.W.Frag} {H : Hp} {M : Addr → Prop} {μ : List Addr} : ∀ l : List Int, RepL K H M μ (l.map D.int) (l.map V.int)
  | [] => rfl
  | i :: r => ⟨V.int i, _, rfl, rfl, repL_ints r⟩
theorem f_srtSet {p2 q : Pos} (hX : Cok X) (hg : Gl X "sorted") (hm : X.mg "sorted" = none) (hg2 : Gl X "set") (hm2 : X.mg "set" = none) (ha : PE X a (tE X.K f)) (hs : isStar a = false) :
    PE X (.Call (.Name "sorted" p) [.Call (.Name "set" p2) [a] [] q] [] pos) (tF X.K fun σ S => (f σ S).bind fun x S1 => R.of (srtSetD S1 x) S1) := by
  refine ⟨fun pins s σ H Q I h => Call_ (ld_blt I hg hm (show bootBuiltins "sorted" = some (Value.builtin "sorted") by decide +kernel) (PyProof.Rows.callWith_builtin1 (PyProof.Rows.args_cons (Call_ (ld_blt I hg2 hm2 boot_set (PyProof.Rows.callWith_type1 (PyProof.Rows.args_cons (Q := _) ?_ (star_cons hs)) (star_cons hs) rfl))) rfl) rfl rfl))⟩
  obtain ⟨σd, S, M, μ, hS, hσ, hp⟩ := h
  refine thn (ha.run pins s σ H (fun v H1 => ∃ (l : Addr) (ns : List Int), v = .ref l ∧ SqL X.K H1 l (ns.map V.int) ∧ ns.length < 64 ∧ ∀ p, H1 p = none → Q (.ref p) (upd H1 p (.lst ((srtU ns).map V.int)))) I ⟨σd, S, M, μ, hS, hσ, hp.seq fun x S1 v H1 M1 μ1 e1 x1 s1 r1 hp => ?_⟩) fun v s1 ⟨x, H1, I1, r1, q1⟩ => PyProof.Rows.args_nil ?_
  · obtain ⟨z, hz, hp⟩ := hp.ofL
    unfold srtSetD at hz
    split at hz
    · rename_i l e
      obtain ⟨c, ws, rfl, g1, g2⟩ := repF s1 r1 e
      split at hz
      · rename_i ns hi
        split at hz
        · rename_i hl
          cases hz
          rw [rep_ints hi g2] at g1
          exact ⟨c, ns, rfl, g1, hl, hp.new s1 (repL_ints _) x1.there⟩
        · cases hz
      · cases hz
    · cases hz
  · obtain ⟨l, ns, rfl, hq, hl, q1⟩ := q1
    cases r1
    obtain ⟨its, r, pl, hz⟩ := I1.list hq
    refine EvP.set_of_list ns (I1.ok.hd hX.calm) pl.isList (by simpa using RZ.intsAre_vals r) (by unfold scanBound; omega) fun h' tk c hS hc hk => PyProof.Rows.args_nil ?_
    have J : Inv X pins σ H1 { s1 with heap := h', toks := tk } := I1.kept fun b o e => hk b o e
    have hS : SetR X.w ({ s1 with heap := h', toks := tk } : Shared).heap s1.heap.objs.size (fun j => decide (j ∈ ns)) c := hS
    generalize ({ s1 with heap := h', toks := tk } : Shared) = s0 at J hS
    refine sorted_set hS (J.ok.hd hX.calm) (by omega) fun s' p out c2 ns' k g o hp hg3 hi hs2 hm3 hl3 => ?_
    have e : ns' = srtU ns := asc_one hs2 (srtU_pw ns) fun k => by
      rw [hm3 k, srtU_mem]
      simp
    subst e
    have hlen : ((srtU ns).map V.int).length ≤ sizeLine := by rw [List.length_map, hl3, sizeLine_eq]; omega
    have hn : H1 p = none := J.hok.fresh hp
    have J2 : Inv X pins σ (upd H1 p (.lst ((srtU ns).map V.int))) { s0 with heap := s'.heap, gens := s'.gens, drawn := s'.drawn, toks := s'.toks } :=
      J.call (ch := []) (Un.laid k hp hn) (J.hok.laid k hp ⟨hlen, out.toList, c2, vals_of_ints hi, hg3⟩) (by rw [g]; exact J.bare) (fun _ z => nomatch z)
    have e2 : s' = { s0 with heap := s'.heap, gens := s'.gens, drawn := s'.drawn, toks := s'.toks } := by
      cases s'
      cases s0
      cases o
      rfl
    rw [e2]
    exact ⟨.ref p, _, J2, rfl, q1 p hn⟩
/-! ### {k: v, ..}[i] -/
theorem SOk.layM {K : PySem.W.Frag} {H : Hp} {M : Addr → Prop} {μ : List Addr} {S : Ev.Sto} {o : HO} (h : SOk K H M μ S) (ho : Mut (some o)) {p : Addr} (hp : H p = none) : SOk K (upd H p o) (fun a => M a ∨ a = p) μ S := by
  refine ⟨h.len, h.nd, fun a ha => .inl (h.sub a ha), fun a ha => ?_, fun n l e => ?_⟩
  · rcases ha with ha | rfl
    · rw [upd_ne (show a ≠ p from fun z => notMn h.mt hp (z ▸ ha))]
      exact h.mt a ha
    · rw [upd_same]; exact ho
  · obtain ⟨a, ws, e1, e2, r⟩ := h.obj n l e
    exact ⟨a, ws, e1, by rw [upd_ne (ne_of_none e2 hp)]; exact e2, r.imp fun _ _ r => RepL.of h (.lay hp) r⟩
theorem SOk.madeM {K : PySem.W.Frag} {H : Hp} {M : Addr → Prop} {μ : List Addr} {S : Ev.Sto} {p : Addr} {o : HO} (h : SOk K H M μ S) (ho : Mut (some o)) (hm : M p) (hn : p ∉ μ) : SOk K (upd H p o) M μ S := by
  have hk : ∀ a u, H a = some u → ¬ M a → upd H p o a = some u := fun a u e q => by
    rw [upd_ne (fun (z : a = p) => q (z ▸ hm))]; exact e
  refine ⟨h.len, h.nd, h.sub, fun a ha => ?_, fun n l e => ?_⟩
  · by_cases z : a = p
    · subst z; rw [upd_same]; exact ho
    · rw [upd_ne z]; exact h.mt a ha
  · obtain ⟨a, vs, e1, e2, r⟩ := h.obj n l e
    exact ⟨a, vs, e1, by rw [upd_ne (fun (z : a = p) => hn (z ▸ List.mem_of_getElem? e1))]; exact e2, r.imp fun _ _ r => RepL.kept h.mt hk r⟩
/-- what was new is written once more -/
theorem Ext.again {H H1 : Hp} {M M1 : Addr → Prop} {μ μ1 : List Addr} {p : Addr} {o : HO} (x : Ext H M μ H1 M1 μ1) (hp : H p = none) : Ext H M μ (upd H1 p o) M1 μ1 :=
  ⟨fun a u e hn => by rw [upd_ne (ne_of_none e hp)]; exact x.keep a u e hn, fun a u e => by rw [upd_ne (ne_of_none e hp)]; exact x.kind a u e, x.pre, x.old, x.new, x.nmu⟩
def CEs.len : CEs → Nat
  | .nil => 0
  | .cons _ r => r.len + 1
def trsOf (K : PySem.W.Frag) (Γ : Gam) : List Str → CEs → List (TE × TE)
  | k :: ks, .cons c r => (tC (.str k), tE K (evE Γ c)) :: trsOf K Γ ks r
  | _, _ => []
abbrev prs (kk : List Str) (vs : List V) : List (V × V) := (kk.zip vs).map fun q => (.str q.1, q.2)
theorem pairs_read {K : PySem.W.Frag} {Γ : Gam} {γ δ : Type} {R2 : Hp → (Addr → Prop) → List Addr → γ → δ → Prop} {Q2 : δ → Hp → Prop} {p : Addr} {o : HO} {H0 : Hp} {M0 : Addr → Prop} {μ0 : List Addr} {σd : Sl} {σ : L2.St} : ∀ (kk : List Str) (cs : CEs) {k : List D → Ev.Sto → R γ} {H : Hp} {M : Addr → Prop} {μ : List Addr} {S : Ev.Sto} {Q : List (V × V) → Hp → Prop}, kk.length = cs.len →
    SOk K H M μ S → Slt K H M μ σd σ → H p = some o → M p → p ∉ μ → Post R2 K ((evEs Γ cs σd S).bind k) H0 M0 μ0 Q2 →
    (∀ ds vs S2 H2 M2 μ2, Ext H M μ H2 M2 μ2 → SOk K H2 M2 μ2 S2 → RepL K H2 M2 μ2 ds vs → ds.length = kk.length → H2 p = some o → M2 p → p ∉ μ2 → Post R2 K (k ds S2) H0 M0 μ0 Q2 → Q (prs kk vs) H2) → tPairs (trsOf K Γ kk cs) σ H Q
  | [], .nil, k, H, M, μ, S, Q, _, hS, hσ, h1, h2, h3, hp, fin => fin [] [] S H M μ .refl hS rfl rfl h1 h2 h3 hp
  | [], .cons _ _, _, _, _, _, _, _, hl, _, _, _, _, _, _, _ => by simp [CEs.len] at hl
  | _ :: _, .nil, _, _, _, _, _, _, hl, _, _, _, _, _, _, _ => by simp [CEs.len] at hl
  | x :: ks, .cons c r, k, H, M, μ, S, Q, hl, hS, hσ, h1, h2, h3, hp, fin => by
    simp only [evEs, bind_assoc] at hp
    show tE K (evE Γ c) σ H fun y H2 => tPairs (trsOf K Γ ks r) σ H2 fun ps H3 => Q ((.str x, y) :: ps) H3
    refine ⟨σd, S, M, μ, hS, hσ, hp.seqB fun d S1 v H1 M1 μ1 x1 s1 r1 hp => ?_⟩
    have stay : ∀ {Ha Hb : Hp} {Ma Mb : Addr → Prop} {μa μb : List Addr}, Ext Ha Ma μa Hb Mb μb → Ha p = some o → Ma p → p ∉ μa → Hb p = some o ∧ Mb p ∧ p ∉ μb := fun {Ha Hb Ma Mb μa μb} xx a1 a2 a3 =>
      ⟨xx.keep p _ a1 a3, xx.old p a2, fun z => (xx.nmu p z).elim a3 fun z => by rw [a1] at z; cases z⟩
    obtain ⟨g1, g2, g3⟩ := stay x1 h1 h2 h3
    refine pairs_read ks r (by simpa [CEs.len] using hl) s1 (hσ.of hS x1) g1 g2 g3 hp fun ds vs S2 H2 M2 μ2 x2 s2 r2 l2 e1 e2 e3 hp2 => ?_
    exact fin (d :: ds) (v :: vs) S2 H2 M2 μ2 (x1.trans x2) s2 ⟨v, vs, rfl, r1.of s1 x2, r2⟩ (by simp [l2]) e1 e2 e3 hp2
theorem keys_some : ∀ {keys : List (Option Expr)} {kk : List Str}, dictKeys keys = some kk → keys.all (·.isSome) = true ∧ keys.length = kk.length
  | [], kk, h => by cases h; exact ⟨rfl, rfl⟩
  | some (.Constant (.str s) j q) :: r, kk, h => by
    cases hr : dictKeys r with
    | none => simp [dictKeys, hr] at h
    | some k2 =>
      simp [dictKeys, hr] at h
      subst h
      obtain ⟨h1, h2⟩ := keys_some hr
      exact ⟨by simpa using h1, by simp [h2]⟩
  | none :: _, _, h => by simp [dictKeys] at h
  | some e :: r, kk, h => by
    cases e with
    | Constant c j q => cases c <;> first | (
        rename_i s
        cases hr : dictKeys r with
        | none => simp [dictKeys, hr] at h
        | some k2 =>
          simp [dictKeys, hr] at h
          subst h
          obtain ⟨h1, h2⟩ := keys_some hr
          exact ⟨by simpa using h1, by simp [h2]⟩) | simp [dictKeys] at h
    | _ => simp [dictKeys] at h
theorem pps_all {X : Cx} {Γ : Gam} {F : Expr → Option CE} {pos : Pos} (hF : ∀ e c, F e = some c → PE X e (tE X.K (evE Γ c))) : ∀ {keys : List (Option Expr)} {kk : List Str} {vals : List Expr} {cs : CEs}, dictKeys keys = some kk → mapE F vals = some cs → kk.length = vals.length →
    PPs X pos keys vals (trsOf X.K Γ kk cs) ∧ kk.length = cs.len
  | [], kk, vals, cs, h, hm, hl => by
    cases h
    cases vals with
    | nil => cases hm; exact ⟨pps_nil, rfl⟩
    | cons _ _ => simp at hl
  | none :: _, _, _, _, h, _, _ => by simp [dictKeys] at h
  | some e :: r, kk, vals, cs, h, hm, hl => by
    cases e with
    | Constant c j q =>
      cases c with
      | str s =>
        cases hr : dictKeys r with
        | none => simp [dictKeys, hr] at h
        | some k2 =>
          simp [dictKeys, hr] at h
          subst h
          cases vals with
          | nil => simp at hl
          | cons v vs =>
            have hm' := hm
            unfold mapE at hm'
            split at hm'
            · cases hm'
            · split at hm'
              · cases hm'
              · rename_i c hc
                split at hm'
                · cases hm'
                · rename_i cs' hcs
                  cases hm'
                  obtain ⟨g1, g2⟩ := pps_all (pos := pos) hF hr hcs (by simpa using hl)
                  exact ⟨pps_cons pe_str (hF _ _ hc) g1, by simp [CEs.len, g2]⟩
      | _ => simp [dictKeys] at h
    | _ => simp [dictKeys] at h
theorem merge_val {j : Key} : ∀ (more acc : List (Key × V)), (more.map (·.1)).Nodup → valV (mergeK acc more) j = (valV more j).or (valV acc j)
  | [], acc, _ => rfl
  | q :: r, acc, hn => by
    rw [List.map_cons, List.nodup_cons] at hn
    show valV (mergeK (putK acc q.1 q.2) r) j = _
    rw [merge_val r (putK acc q.1 q.2) hn.2, valV_put]
    by_cases e : q.1 = j
    · rw [valV_pos e, if_pos e.symm]
      have : valV r j = none := by
        cases hv : valV r j with
        | none => rfl
        | some v => exact absurd (e ▸ valV_in hv) hn.1
      rw [this]; rfl
    · rw [valV_neg e, if_neg (fun z => e z.symm)]
theorem zip_val {K : PySem.W.Frag} {H : Hp} {M : Addr → Prop} {μ : List Addr} {z : Str} {d : D} : ∀ {kk : List Str} {ds : List D} {vs : List V}, RepL K H M μ ds vs → (kk.zip ds).lookup z = some d → ∃ v, valV ((kk.zip vs).map fun q => ((Sum.inr q.1 : Key), q.2)) (.inr z) = some v ∧ Rep K H M μ d v
  | [], _, _, _, h => by simp at h
  | k :: ks, [], _, _, h => by simp at h
  | k :: ks, d0 :: ds, _, r, h => by
    obtain ⟨v, w, rfl, r1, r2⟩ := r
    rw [List.zip_cons_cons, List.lookup_cons] at h
    rw [List.zip_cons_cons, List.map_cons]
    by_cases e : k = z
    · subst e
      simp at h
      subst h
      exact ⟨v, valV_pos rfl, r1⟩
    · have hb : (z == k) = false := by simpa using fun q => e q.symm
      rw [hb] at h
      obtain ⟨u, g1, g2⟩ := zip_val (kk := ks) r2 h
      exact ⟨u, by rw [valV_neg (fun q => e (Sum.inr.inj q))]; exact g1, g2⟩
theorem no_sl {i : Expr} (h : isSlice i = false) : NoSl i := fun ov iv => by
  cases i <;> first | rfl | simp [isSlice] at h
theorem r_pick {X : Cx} {Γ : Gam} {pos dpos : Pos} {keys : List (Option Expr)} {vals : List Expr} {i : Expr} {kk : List Str} {cs : CEs} {ci : CE} {F : Expr → Option CE} (hX : Cok X) (hF : ∀ e c, F e = some c → PE X e (tE X.K (evE Γ c)))
    (hk : dictKeys keys = some kk) (hm : mapE F vals = some cs) (hi : F i = some ci) (hs : isSlice i = false) (hl : kk.length = vals.length ∧ kk.length ≤ 15 ∧ 0 < kk.length ∧ kk.Nodup) :
    PE X (.Subscript (.Dict keys vals dpos) i pos) (tE X.K (evE Γ (.pick kk cs ci))) := by
  obtain ⟨g1, g2⟩ := pps_all (pos := dpos) hF hk hm hl.1
  obtain ⟨k1, k2⟩ := keys_some hk
  have hu := hX.un
  refine PE.imp (pe_dget (by omega) (pe_disp g1 k1 (by rw [k2, hl.1]) (fun e => by rw [e] at k2; simp at k2; omega) (by omega)) (hF _ _ hi) (no_sl hs)) fun σ H Q h => ?_
  obtain ⟨σd, S, M, μ, hS, hσ, hp⟩ := h
  simp only [evE] at hp
  intro p hp0
  have hpμ : p ∉ μ := fun z => notMn hS.mt hp0 (hS.sub p z)
  refine pairs_read kk cs g2 (hS.layM (o := .dK []) trivial hp0) (hσ.of hS (.lay hp0)) upd_same (.inr rfl) hpμ hp fun ds vs S2 H2 M2 μ2 x2 s2 r2 l2 e1 e2 e3 hp2 => ?_
  refine ⟨e1, (kk.zip vs).map fun q => ((Sum.inr q.1 : Key), q.2), ?_, ?_, ?_⟩
  · unfold prs
    rw [List.map_map]; rfl
  · rw [List.length_map, List.length_zip]; omega
  have s3 := s2.madeM (o := .dK (mergeK [] ((kk.zip vs).map fun q => ((Sum.inr q.1 : Key), q.2)))) trivial e2 e3
  have hk3 : ∀ a u, H2 a = some u → ¬ M2 a → upd H2 p (.dK (mergeK [] ((kk.zip vs).map fun q => ((Sum.inr q.1 : Key), q.2)))) a = some u := fun a u e q => by
    rw [upd_ne (fun (z : a = p) => q (z ▸ e2))]; exact e
  have slt2 := (hσ.of hS (.lay hp0)).of (hS.layM (o := .dK []) trivial hp0) x2
  refine ⟨σd, S2, M2, μ2, s3, ⟨slt2.1, fun n d e => ?_⟩, hp2.seqB fun y S3 w H3 M3 μ3 x3 s4 r3 hp3 => ?_⟩
  · obtain ⟨v, a1, a2⟩ := slt2.2 n d e
    exact ⟨v, a1, Rep.kept s2.mt hk3 a2⟩
  obtain ⟨d, hd, hp4⟩ := hp3.ofL
  unfold pickD at hd
  split at hd
  · rename_i z
    have r4 : RepL X.K H3 M3 μ3 ds vs := (RepL.kept s2.mt hk3 r2).of s3 x3
    obtain ⟨v, b1, b2⟩ := zip_val r4 hd
    have e5 := x3.keep p _ upd_same e3
    have nd : (((kk.zip vs).map fun q => ((Sum.inr q.1 : Key), q.2)).map (·.1)).Nodup := by
      rw [List.map_map]
      have e : ((fun x : Key × V => x.1) ∘ fun q : Str × V => ((Sum.inr q.1 : Key), q.2)) = (fun x : Str => (Sum.inr x : Key)) ∘ Prod.fst := rfl
      rw [e, ← List.map_map, List.map_fst_zip (by rw [← r2.len, l2]; exact Nat.le_refl _)]
      exact List.pairwise_map.mpr (hl.2.2.2.imp fun {a b} h e => h (Sum.inr.inj e))
    refine ⟨p, v, rfl, ?_, hp4.go ?_ s4 b2⟩
    · have := DGet.k (H := H3) (a := p) (k := Sum.inr z) e5
      rw [merge_val _ _ nd, b1] at this
      rw [show w = kV (Sum.inr z) from r3]
      exact this
    · exact (((Ext.lay hp0).trans x2).again hp0).trans x3
  · cases hd
end Ev

/-! Objects: fields, properties, methods, making. -/
namespace Ev
open PySem PySem.Spec PyProof.Rows L2
/-- a method, a getter, an __init__ as callers see it: f is the def -/
structure FnM (P : PySem.Program) (w : World) (K : PySem.W.Frag) (mg : Str → Option Value) (base : Heap) (k : Nat) (f : Addr) (call : List D → Ev.Sto → R D) : Prop where
  ex : ∃ (fd : FuncData) (ps : List Str), FnG P w K mg base k f fd ps (spG K call) ∧
    (∀ (s : Shared) (us : List Value), us.length = ps.length → K.In s.heap → BindsTo s fd ⟨us, []⟩ (ps.zip us))
/-- isinstance reads it -/
structure IsF (K : PySem.W.Frag) (C : Addr) : Prop where
  cl : Cls K C
  ha : PySem.W.findIn K (.ref C) "__class__" = some (some (.builtin "object.__class__"))
  hn : PySem.W.specialIn K (.builtin "object.__class__") "__get__" = some (some (.builtin "getset_descriptor.__get__"))
  htk : PySem.W.takesIn K (.builtin "object.__class__") = some true
  hm : PySem.W.mroIn K C (.type "object") = some true
/-- what is known of the classes where a body stands -/
structure ClsF (Γ : Gam) (k : Nat) (X : Cx) : Prop where
  fld : ∀ c f, Γ.fld c f = true → Cls X.K (clsA X.K c) ∧ NoAttr X.K (clsA X.K c) f
  mth : ∀ c m key, Γ.mth c m = some key → Cls X.K (clsA X.K c) ∧ ∃ f, Meth X.K (clsA X.K c) m f ∧ FnM X.prog X.w X.K X.mg X.base k f (Γ.call key)
  prp : ∀ c m key, Γ.prp c m = some key → Cls X.K (clsA X.K c) ∧ ∃ p f, PropOf X.K (clsA X.K c) m p f ∧ FnM X.prog X.w X.K X.mg X.base (k - 1) f (Γ.call1 key)
  ini : ∀ c key, Γ.ini c = some key → X.mg c = some (.ref (clsA X.K c)) ∧ ∃ f, Mk X.K (clsA X.K c) f ∧ FnM X.prog X.w X.K X.mg X.base (k - 1) f (Γ.call1 key)
  low : k = 0 → ∀ key ds S, Γ.call1 key ds S = .no
  gdt : ∀ x l, Γ.gdt x = some l → ∃ d es n, X.mg x = some (.ref d) ∧ KDict X.K X.w d es n ∧ (∀ z, l.lookup z = none → PySem.W.nsIn X.K d z = some none) ∧
    (∀ z dv, l.lookup z = some dv → ∃ u0 v0, PySem.W.nsIn X.K d z = some (some u0) ∧ RelV v0 u0 ∧ ∀ H M μ, Rep X.K H M μ dv v0)
  isi : ∀ c key, Γ.ini c = some key → IsF X.K (clsA X.K c)
theorem insAt_loc {S : Ev.Sto} {x : D} {c : Str} {fs : List (Str × D)} (h : insAt S x = some (c, fs)) : ∃ n, x = .loc n ∧ S[n]? = some (.ins c fs) := by
  unfold insAt at h
  split at h
  · rename_i n
    split at h
    · rename_i c' fs' e
      cases h
      exact ⟨n, rfl, e⟩
    · cases h
  · cases h
theorem lookup_fs {K : PySem.W.Frag} {H : Hp} {M : Addr → Prop} {μ : List Addr} {f : Str} : ∀ {fs : List (Str × D)} {vs : List (Str × V)}, fs.map (·.1) = vs.map (·.1) → RepL K H M μ (fs.map (·.2)) (vs.map (·.2)) → (∀ d, fs.lookup f = some d → ∃ v, vs.lookup f = some v ∧ Rep K H M μ d v) ∧ (fs.lookup f = none → vs.lookup f = none)
  | [], [], _, _ => ⟨fun d e => (nomatch e), fun _ => rfl⟩
  | [], _ :: _, h, _ => by simp at h
  | _ :: _, [], h, _ => by simp at h
  | (a, x) :: r, (b, y) :: q, h, hr => by
    obtain ⟨h1, h2⟩ := List.cons.inj (show a :: r.map (·.1) = b :: q.map (·.1) from h)
    subst h1
    obtain ⟨v, w, e1, r1, r2⟩ := hr
    obtain ⟨e0, e2⟩ := List.cons.inj (show y :: q.map (·.2) = v :: w from e1)
    subst e0 e2
    obtain ⟨i1, i2⟩ := lookup_fs (f := f) h2 r2
    by_cases hk : f = a
    · subst hk
      refine ⟨fun d e => ?_, fun e => ?_⟩
      · simp at e
        subst e
        exact ⟨y, by simp, r1⟩
      · simp at e
    · have hb : (f == a) = false := by simpa using hk
      refine ⟨fun d e => ?_, fun e => ?_⟩
      · rw [List.lookup_cons, hb] at e
        rw [List.lookup_cons, hb]
        exact i1 d e
      · rw [List.lookup_cons, hb] at e
        rw [List.lookup_cons, hb]
        exact i2 e
theorem rep_putA {K : PySem.W.Frag} {H : Hp} {M : Addr → Prop} {μ : List Addr} {f : Str} {z : D} {v : V} (q : Rep K H M μ z v) : ∀ {fs : List (Str × D)} {vs : List (Str × V)}, fs.map (·.1) = vs.map (·.1) → RepL K H M μ (fs.map (·.2)) (vs.map (·.2)) →
    (putA f z fs).map (·.1) = (putF f v vs).map (·.1) ∧ RepL K H M μ ((putA f z fs).map (·.2)) ((putF f v vs).map (·.2))
  | [], [], _, _ => ⟨rfl, RepL.one q⟩
  | [], _ :: _, h, _ => by simp at h
  | _ :: _, [], h, _ => by simp at h
  | (a, x) :: l, (b, y) :: vs, h, r => by
    obtain ⟨h1, h2⟩ := List.cons.inj (show a :: l.map (·.1) = b :: vs.map (·.1) from h)
    subst h1
    obtain ⟨u, w, e, r1, r2⟩ := r
    obtain ⟨e0, e2⟩ := List.cons.inj (show y :: vs.map (·.2) = u :: w from e)
    subst e0 e2
    unfold putA putF
    by_cases hk : a = f
    · rw [if_pos hk, if_pos hk]
      exact ⟨by simp [h2], v, _, rfl, q, r2⟩
    · rw [if_neg hk, if_neg hk]
      obtain ⟨g1, g2⟩ := rep_putA q h2 r2
      exact ⟨by simp [g1], y, _, rfl, r1, g2⟩
theorem fs_len {K : PySem.W.Frag} {H : Hp} {M : Addr → Prop} {μ : List Addr} {fs : List (Str × D)} {vs : List (Str × V)} (h : fs.map (·.1) = vs.map (·.1)) : fs.length = vs.length := by
  simpa using congrArg List.length h
section
variable {X : Cx} {Γ : Gam} {k : Nat} {o e : Expr} {es : List Expr} {nm : Str} {pos pos' apos p : Pos} {f g h : Sl → Ev.Sto → R D} {fs : Sl → Ev.Sto → R (List D)}
/-- the callee runs, whatever stands above it -/
theorem run_m {A : Around} {fa : Addr} {call : List D → Ev.Sto → R D} {H : Hp} {s : Shared} {Q : VK} {us : List Value} {vs : List V} {R : Result → Shared → Prop} (F : FnM X.prog X.w X.K X.mg X.base k fa call) (hr : Room k A) (hg : A.guards = some [])
    (e0 : Env0 X.prog X.w X.K X.mg X.base A X.stack s H) (r : Vals vs us) (h : spG X.K call vs H Q) (hq : ∀ o s', (match o with
      | .ok (.ret u) => L2.CE X.stack X.prog X.w H s Q u s'
      | _ => False) → R o s') : codeAny (model X.prog X.w) A (.call (.ref fa) ⟨us, []⟩) R s := by
  obtain ⟨fd, ps, G, hb⟩ := F.ex
  have hl : us.length = ps.length := by rw [← r.length]; exact G.len _ _ _ h
  refine codeAny_mono (G.run A X.stack s H ⟨us, []⟩ us vs Q hr hg e0 (hb s us hl (e0.mod.kin.keeps fun b o e => (e0.bs b o e).1)) r h) fun o s' ho => hq o s' ?_
  cases o with
  | error e => exact False.elim ho
  | ok fl =>
    cases fl with
    | ret u => exact ho
    | next => exact False.elim ho
    | brk => exact False.elim ho
    | cont => exact False.elim ho
/-- a property read -/
theorem getprop_g {a dx C pa fa : Addr} {vs : List (Str × V)} {call : List D → Ev.Sto → R D} {pins : List (Addr × Obj)} {σ : L2.St} {H : Hp} {s : Shared} {Q : VK} {b : Bool} (hX : Cok X) (I : Inv X pins σ H s) (ea : H a = some (.ins C dx vs)) (c : Cls X.K C) (hp : PropOf X.K C nm pa fa)
    (F : FnM X.prog X.w X.K X.mg X.base k fa call) (hr : Room (k + 1) X.A) (h : spG X.K call [.ref a] H Q) : wpAny (model X.prog X.w) X.A (getAttr (.ref a) nm b) (EP X pins σ Q) X.xe s := by
  obtain ⟨mA, O, _, _, _, _⟩ := ins_get I.hok ea
  obtain ⟨od, J, _⟩ := O.look
  obtain ⟨rest, hrec⟩ := hp.rec_
  have I1 := I.tok (s.toks + 1)
  have hc : (PySem.W.clsIn X.K C).isSome = true := by
    obtain ⟨cd, hc, _⟩ := PySem.W.any_some c.hd
    rw [hc]
    rfl
  refine PySem.W.get_bind I.kIn J (PySem.W.plainGet_of (c.get nm)).1 (PySem.W.findObj_data hc hp.at_ hp.get hp.tak) (PySem.W.plainGet_of (c.get nm)).2 (wpAny_call (PySem.W.prop_get (s := { s with toks := s.toks + 1 }) I.kIn hrec ?_))
  refine run_m (A := X.A.in1) (us := [.ref a]) (vs := [.ref a]) F hr.in1 hX.gd I1.env0.in1 (.cons rfl .nil) h fun r s' hq => ?_
  cases r with
  | error er => exact False.elim hq
  | ok fl =>
    cases fl with
    | ret u =>
      obtain ⟨v, H', I3, rv, q3⟩ := I1.after hq
      show wpAny _ _ (handedOut u) _ _ _
      rw [PySem.W.handedOut_of (handed_of rv)]
      exact wpAny_pure ⟨v, H', I3, rv, q3⟩
    | next => exact False.elim hq
    | brk => exact False.elim hq
    | cont => exact False.elim hq
theorem r_fld (hX : Cok X) (hr : Room k X.A) (F : ClsF Γ k X) (ho : PE X o (tE X.K f)) (hb : attributeBase o nm X.env (eval o X.env) = eval o X.env) : PE X (.Attribute o nm pos) (tE X.K fun σ S => (f σ S).bind fun x S1 => fldR Γ x nm S1) := by
  refine ⟨fun pins s σ H Q I h => ?_⟩
  obtain ⟨σd, S, M, μ, hS, hσ, hp⟩ := h
  refine attr_of hb (thn (ho.run pins s σ H (fun v H1 => ∃ x S1 M1 μ1, SOk X.K H1 M1 μ1 S1 ∧ Rep X.K H1 M1 μ1 x v ∧ Post (RV X.K) X.K (fldR Γ x nm S1) H1 M1 μ1 Q) I ⟨σd, S, M, μ, hS, hσ, hp.seq fun x S1 v H1 M1 μ1 e1 x1 s1 r1 hp => ⟨x, S1, M1, μ1, s1, r1, hp⟩⟩) fun u s1 ⟨v, H1, I1, rv, x, S1, M1, μ1, hS1, r1, hp⟩ => ?_)
  unfold fldR at hp
  split at hp
  · rename_i key hkey
    cases hi : insAt S1 x with
    | none => rw [hi] at hkey; cases hkey
    | some cf =>
      obtain ⟨c, fl⟩ := cf
      rw [hi] at hkey
      obtain ⟨n, rfl, hn⟩ := insAt_loc hi
      obtain ⟨a, dx, vs, e1, e2, gk, gr⟩ := hS1.atI hn
      obtain ⟨a', rfl, e1'⟩ := id r1
      rw [e1] at e1'; cases e1'
      obtain rfl : u = .ref a := rv
      obtain ⟨hc, pa, fa, hpr, hf⟩ := F.prp c nm key hkey
      cases k with
      | zero => rw [F.low rfl] at hp; exact False.elim hp
      | succ k => exact getprop_g hX I1 e2 hc hpr hf hr ⟨[.loc n], S1, M1, μ1, hS1, RepL.one r1, hp⟩
  · obtain ⟨d, hd, hp2⟩ := hp.ofL
    unfold fieldD at hd
    split at hd
    · rename_i c fl hi
      split at hd
      · rename_i hfl
        obtain ⟨n, rfl, hn⟩ := insAt_loc hi
        obtain ⟨a, dx, vs, e1, e2, gk, gr⟩ := hS1.atI hn
        obtain ⟨a', rfl, e1'⟩ := id r1
        rw [e1] at e1'; cases e1'
        obtain rfl : u = .ref a := rv
        obtain ⟨hc, hna⟩ := F.fld c nm hfl
        obtain ⟨v, hv, rv⟩ := (lookup_fs gk gr).1 d hd
        exact getattr_ok I1 e2 hc hna hv fun u' s2 I2 ru => ⟨v, H1, I2, ru, hp2.fin hS1 rv⟩
      · cases hd
    · cases hd
/-- o.f = z, of values -/
theorem set_g {pins : List (Addr × Obj)} {σ : L2.St} {H : Hp} {M : Addr → Prop} {μ : List Addr} {S : Ev.Sto} {s : Shared} {x z : D} {v w : V} {ov u : Value} {Q : Hp → Prop} (F : ClsF Γ k X) (I : Inv X pins σ H s) (hS : SOk X.K H M μ S) (r1 : Rep X.K H M μ x v) (r2 : Rep X.K H M μ z w) (rv : RelV v ov) (rw_ : RelV w u)
    (hp : Post (fun _ _ _ (_ _ : Unit) => True) X.K (sfldR Γ x nm z S) H M μ fun _ H' => Q H') : wpAny (model X.prog X.w) X.A (setAttr ov nm u) (fun _ s' => ∃ H', Inv X pins σ H' s' ∧ Q H') X.xe s := by
  unfold sfldR at hp
  split at hp
  · rename_i c fl hi
    split at hp
    · rename_i hfl
      obtain ⟨n, rfl, hn⟩ := insAt_loc hi
      obtain ⟨a, dx, vs, e1, e2, gk, gr⟩ := hS.atI hn
      obtain ⟨a', rfl, e1'⟩ := id r1
      rw [e1] at e1'; cases e1'
      obtain rfl : ov = .ref a := rv
      obtain ⟨hc, hna⟩ := F.fld c nm hfl
      simp only [setF, hn] at hp
      split at hp
      · rename_i hl
        obtain ⟨g1, g2⟩ := rep_putA (f := nm) r2 gk gr
        refine setattr_ok I e2 hc hna (by rw [← fs_len (K := X.K) (H := H) (M := M) (μ := μ) gk]; exact hl) rw_ fun s3 I3 => ⟨_, I3, ?_⟩
        have sk : SameK (.ins (clsA X.K c) dx vs) (.ins (clsA X.K c) dx (putF nm w vs)) := .inr (.inr (.inl ⟨_, _, _, _, rfl, rfl⟩))
        exact hp.go (b := ()) (.wroteO hS.sub e1 e2 sk) (hS.wroteO e1 e2 sk trivial ⟨dx, _, rfl, g1, g2⟩) trivial
      · exact False.elim hp
    · exact False.elim hp
  · exact False.elim hp
theorem s_sfld (F : ClsF Γ k X) (ho : PE X o (tE X.K f)) (he : PE X e (tE X.K g)) (hs : swapsWith e (some (.Attribute o nm pos')) pos.line X.env = pure false) :
    PS X (.Assign [.Attribute o nm pos'] e pos) (tS X.K fun σ S => (g σ S).bind fun z S1 => (f σ S1).bind fun x S2 => (sfldR Γ x nm z S2).bind fun _ S3 => .ok (.nx σ) S3) := by
  refine ⟨fun pins s σ H D I h => ?_⟩
  obtain ⟨σd, S, M, μ, hS, hσ, hp⟩ := h
  refine plainObj_wpAny_Assign_Attribute (thn (he.run pins s σ H (fun w H1 => ∃ z S1 M1 μ1, SOk X.K H1 M1 μ1 S1 ∧ Slt X.K H1 M1 μ1 σd σ ∧ Rep X.K H1 M1 μ1 z w ∧ PostS X.K ((f σd S1).bind fun x S2 => (sfldR Γ x nm z S2).bind fun _ S3 => .ok (.nx σd) S3) H1 M1 μ1 D) I
    ⟨σd, S, M, μ, hS, hσ, hp.seqP fun z S1 v H1 M1 μ1 e1 x1 s1 r1 hp => ⟨z, S1, M1, μ1, s1, hσ.of hS x1, r1, hp⟩⟩) fun u s1 ⟨w, H1, I1, rw_, z, S1, M1, μ1, hS1, hσ1, r1, hp⟩ => ?_) hs
  refine thn (ho.run pins s1 σ H1 (fun v H2 => ∃ x S2 M2 μ2, SOk X.K H2 M2 μ2 S2 ∧ Slt X.K H2 M2 μ2 σd σ ∧ Rep X.K H2 M2 μ2 x v ∧ Rep X.K H2 M2 μ2 z w ∧ PostS X.K ((sfldR Γ x nm z S2).bind fun _ S3 => .ok (.nx σd) S3) H2 M2 μ2 D) I1
    ⟨σd, S1, M1, μ1, hS1, hσ1, hp.seqP fun x S2 v H2 M2 μ2 e1 x1 s2 r2 hp => ⟨x, S2, M2, μ2, s2, hσ1.of hS1 x1, r2, r1.of hS1 x1, hp⟩⟩) fun ov s2 ⟨v, H2, I2, rv, x, S2, M2, μ2, hS2, hσ2, r2, r3, hp⟩ => ?_
  refine thn (set_g (Q := fun H3 => D.nx σ H3) F I2 hS2 r2 r3 rv rw_ (hp.seqP fun _ S3 _ H3 M3 μ3 e3 x3 s3 _ hp => hp.fin s3 σ (hσ2.of hS2 x3))) fun _ s3 ⟨H3, I3, q⟩ => ⟨σ, H3, I3, q⟩
end
end Ev

namespace Ev
open PySem PySem.Spec PyProof.Rows L2
section
variable {X : Cx} {Γ : Gam} {k : Nat} {o e i : Expr} {es : List Expr} {nm : Str} {pos pos' apos p : Pos} {f g h : Sl → Ev.Sto → R D} {fs : Sl → Ev.Sto → R (List D)}
/-! ### o.m(e, ..) -/
theorem form_of (hpl : (backTo pos (starEach es X.env)).any (·.1) = false) (hn : es.length < 29) : methodCallForm (es.length + ([] : List Keyword).length) (backTo pos (starEach es X.env)) (backToKw pos (keywordEach [] X.env)) = true := by
  unfold methodCallForm
  have h1 : (backTo pos (starEach es X.env)).all (fun x => !x.1) = true := by
    rw [List.all_eq_true]
    intro x hx
    have := List.any_eq_false.mp hpl x hx
    simpa using this
  have h2 : (backToKw pos (keywordEach [] X.env)).all (fun x => x.1.isSome) = true := rfl
  rw [h1, h2]
  simp
  show es.length + (if (([] : List (Option Str × Sem Value)).isEmpty) = true then 0 else 1) < 30
  simp
  omega
theorem tree_m (hb : attributeBase o nm X.env (eval o X.env) = eval o X.env) (hpl : (backTo pos (starEach es X.env)).any (·.1) = false) (hn : es.length < 29) (hl : (apos.endLine == pos.line) = true) :
    eval (.Call (.Attribute o nm apos) es [] pos) X.env = (do
      let ov ← eval o X.env
      standAt apos.atName
      let (f, first) ← holding [ov] (getMethod ov nm (do return (← importBound o X.env).getD true))
      callWith pos f first (backTo pos (starEach es X.env)) (backToKw pos (keywordEach [] X.env))) := by
  refine mcall_of hb fun ov => ?_
  unfold methodCall calleeOf methodCallPos
  rw [form_of hpl hn, hl]
  rfl
theorem mth_at {n : Nat} {S : Ev.Sto} {c m key : Str} {fl : List (Str × D)} {H : Hp} {M : Addr → Prop} {μ : List Addr} {v : V} (F : ClsF Γ k X) (hS : SOk X.K H M μ S) (hn : S[n]? = some (.ins c fl)) (r : Rep X.K H M μ (.loc n) v) (hk : Γ.mth c m = some key) (hf : (fl.lookup m).isNone = true) :
    ∃ a dx vs fa, v = .ref a ∧ H a = some (.ins (clsA X.K c) dx vs) ∧ Cls X.K (clsA X.K c) ∧ Meth X.K (clsA X.K c) m fa ∧ FnM X.prog X.w X.K X.mg X.base k fa (Γ.call key) ∧ vs.lookup m = none := by
  obtain ⟨a, dx, vs, e1, e2, gk, gr⟩ := hS.atI hn
  obtain ⟨a', rfl, e1'⟩ := r
  rw [e1] at e1'; cases e1'
  obtain ⟨hc, fa, hm, hF⟩ := F.mth c m key hk
  exact ⟨a, dx, vs, fa, rfl, e2, hc, hm, hF, (lookup_fs gk gr).2 (by simpa using hf)⟩
theorem run_w {fa : Addr} {call : List D → Ev.Sto → R D} {pins : List (Addr × Obj)} {σ : L2.St} {H : Hp} {s : Shared} {Q : VK} {us : List Value} {vs : List V} (hX : Cok X) (hr : Room k X.A) (F : FnM X.prog X.w X.K X.mg X.base k fa call)
    (I : Inv X pins σ H s) (r : Vals vs us) (h : spG X.K call vs H Q) : wpAny (model X.prog X.w) X.A (PySem.call (.ref fa) us) (EP X pins σ Q) X.xe s := by
  refine wpAny_call (run_m F hr hX.gd I.env0 r h fun o s' hq => ?_)
  cases o with
  | error e => exact False.elim hq
  | ok fl =>
    cases fl with
    | ret u => exact I.after hq
    | next => exact False.elim hq
    | brk => exact False.elim hq
    | cont => exact False.elim hq
theorem r_mcall {e0 : Expr} (hX : Cok X) (hr : Room k X.A) (F : ClsF Γ k X) (ho : PE X o (tE X.K f)) (hb : attributeBase o nm X.env (eval o X.env) = eval o X.env) (ha : PA X (e0 :: es) (tA X.K fs)) (hs : isStar e0 = false) (hpl : (backTo pos (starEach es X.env)).any (·.1) = false)
    (hn : (e0 :: es).length < 29) (hl : (apos.endLine == pos.line) = true) :
    PE X (.Call (.Attribute o nm apos) (e0 :: es) [] pos) (tE X.K fun σ S => (f σ S).bind fun x S1 => (fs σ S1).bind fun ds S2 => mcallR Γ x nm ds S1 S2) := by
  refine ⟨fun pins s σ H Q I h => ?_⟩
  obtain ⟨σd, S, M, μ, hS, hσ, hp⟩ := h
  have hpl' : (backTo pos (starEach (e0 :: es) X.env)).any (·.1) = false := by
    rw [star_cons hs]
    show (false || (backTo pos (starEach es X.env)).any (·.1)) = false
    rw [hpl]; rfl
  refine PySem.W.methodCall_KW (pl := do return (← importBound o X.env).getD true) (thn (ho.run pins s σ H (fun v H1 => ∃ x S1 M1 μ1, SOk X.K H1 M1 μ1 S1 ∧ Slt X.K H1 M1 μ1 σd σ ∧ Rep X.K H1 M1 μ1 x v ∧ Post (RV X.K) X.K ((fs σd S1).bind fun ds S2 => mcallR Γ x nm ds S1 S2) H1 M1 μ1 Q) I
    ⟨σd, S, M, μ, hS, hσ, hp.seq fun x S1 v H1 M1 μ1 e1 x1 s1 r1 hp => ⟨x, S1, M1, μ1, s1, hσ.of hS x1, r1, hp⟩⟩) fun u s1 ⟨v, H1, I1, rv, x, S1, M1, μ1, hS1, hσ1, r1, hp1⟩ => ?_) (tree_m hb hpl' hn hl)
  -- what is called must be known ahead
  cases hi : insAt S1 x with
  | none =>
    refine False.elim ?_
    cases hf : fs σd S1 with
    | ok ds S2 => rw [hf] at hp1; simp only [R.bind, mcallR, hi] at hp1; exact hp1
    | err _ _ _ => rw [hf] at hp1; exact hp1
    | no => rw [hf] at hp1; exact hp1
  | some cf =>
    obtain ⟨c, fl⟩ := cf
    cases hk : Γ.mth c nm with
    | none =>
      refine False.elim ?_
      cases hf : fs σd S1 with
      | ok ds S2 => rw [hf] at hp1; simp only [R.bind, mcallR, hi, hk] at hp1; exact hp1
      | err _ _ _ => rw [hf] at hp1; exact hp1
      | no => rw [hf] at hp1; exact hp1
    | some key =>
      obtain ⟨n, rfl, hn1⟩ := insAt_loc hi
      by_cases hlk : (fl.lookup nm).isNone = true
      · obtain ⟨a, dx, vs, fa, rfl, e2, hc, hm, hF, hl0⟩ := mth_at F hS1 hn1 r1 hk hlk
        obtain rfl : u = .ref a := rv
        refine getmeth_ok I1 e2 hc hm hl0 ?_
        refine PySem.W.callWith_K (first := [.ref a]) (h₀ := X.base) I1.ok.mod.kin hm.kp (thn (ha.run pos pins s1 σ H1 (fun ws H2 => spG X.K (Γ.call key) (.ref a :: ws) H2 Q) I1 ⟨σd, S1, M1, μ1, hS1, hσ1, hp1.seq fun ds S2 ws H2 M2 μ2 e2 x2 s2 r2 hp2 => ?_⟩) fun us s2 ⟨ws, H2, I2, r, q2⟩ => ⟨I2.kIn, ?_⟩) (star_cons hs) hpl
        · simp only [mcallR, hi, hk, hlk, if_true] at hp2
          exact ⟨.loc n :: ds, S2, M2, μ2, s2, ⟨_, _, rfl, r1.of hS1 x2, r2⟩, hp2⟩
        · exact run_w (us := .ref a :: us) (vs := .ref a :: ws) hX hr hF I2 (.cons rfl r) q2
      · refine False.elim ?_
        cases hf : fs σd S1 with
        | ok ds S2 => rw [hf] at hp1; simp only [R.bind, mcallR, hi, hk, hlk, if_false] at hp1; exact hp1
        | err _ _ _ => rw [hf] at hp1; exact hp1
        | no => rw [hf] at hp1; exact hp1
theorem r_mcall0 (hX : Cok X) (hr : Room k X.A) (F : ClsF Γ k X) (ho : PE X o (tE X.K f)) (hb : attributeBase o nm X.env (eval o X.env) = eval o X.env) (hl : (apos.endLine == pos.line) = true) :
    PE X (.Call (.Attribute o nm apos) [] [] pos) (tE X.K fun σ S => (f σ S).bind fun x S1 => mcallR Γ x nm [] S1 S1) := by
  refine ⟨fun pins s σ H Q I h => ?_⟩
  obtain ⟨σd, S, M, μ, hS, hσ, hp⟩ := h
  refine PySem.W.methodCall_KW (pl := do return (← importBound o X.env).getD true) (thn (ho.run pins s σ H (fun v H1 => ∃ x S1 M1 μ1, SOk X.K H1 M1 μ1 S1 ∧ Rep X.K H1 M1 μ1 x v ∧ Post (RV X.K) X.K (mcallR Γ x nm [] S1 S1) H1 M1 μ1 Q) I
    ⟨σd, S, M, μ, hS, hσ, hp.seq fun x S1 v H1 M1 μ1 e1 x1 s1 r1 hp => ⟨x, S1, M1, μ1, s1, r1, hp⟩⟩) fun u s1 ⟨v, H1, I1, rv, x, S1, M1, μ1, hS1, r1, hp1⟩ => ?_) (tree_m hb rfl (by simp) hl)
  unfold mcallR at hp1
  split at hp1
  · rename_i c fl hi
    split at hp1
    · rename_i key hk
      split at hp1
      · rename_i hlk
        obtain ⟨n, rfl, hn1⟩ := insAt_loc hi
        obtain ⟨a, dx, vs, fa, rfl, e2, hc, hm, hF, hl0⟩ := mth_at F hS1 hn1 r1 hk hlk
        obtain rfl : u = .ref a := rv
        refine getmeth_ok I1 e2 hc hm hl0 ?_
        exact PySem.W.callWith_K0 (first := [.ref a]) I1.kIn hm.kp (run_w (us := [.ref a]) (vs := [.ref a]) hX hr hF I1 (.cons rfl .nil) ⟨[.loc n], S1, M1, μ1, hS1, RepL.one r1, hp1⟩)
      · exact False.elim hp1
    · exact False.elim hp1
  · exact False.elim hp1
/-! ### C(e, ..) -/
theorem run_mk {C fa : Addr} {call : List D → Ev.Sto → R D} {pins : List (Addr × Obj)} {σ : L2.St} {H : Hp} {s : Shared} {Q : VK} {us : List Value} {vs : List V} (hX : Cok X) (hr : Room (k + 1) X.A) (Mk_ : Mk X.K C fa) (F : FnM X.prog X.w X.K X.mg X.base k fa call)
    (I : Inv X pins σ H s) (r : Vals vs us) (h : ∀ x dx, H x = none → H dx = none → dx ≠ x → spG X.K call (.ref x :: vs) (upd (upd H dx (.own x)) x (.ins C dx [])) (fun v H2 => v = .non ∧ Q (.ref x) H2)) : wpAny (model X.prog X.w) X.A (PySem.call (.ref C) us) (EP X pins σ Q) X.xe s := by
  have hq := h (s.heap.objs.size + 1) s.heap.objs.size (I.hok.fresh (Nat.le_succ _)) (I.hok.fresh (Nat.le_refl _)) (Nat.ne_of_lt (Nat.lt_succ_self _))
  have I2 := Inv.made (C := C) I
  refine wpAny_call (make_map (f := fa) I.kIn Mk_.makes Mk_.init (beq_iff_eq.mp Mk_.fn) (run_m (us := Value.ref (s.heap.objs.size + 1) :: us) (vs := V.ref (s.heap.objs.size + 1) :: vs) F (hr.make C us []) hX.gd (I2.env0.make C us []) (.cons rfl r) hq fun o s' hq' => ?_))
  cases o with
  | error e => exact False.elim hq'
  | ok fl =>
    cases fl with
    | ret u =>
      obtain ⟨v, H', I3, rv, ev, q3⟩ := I2.after hq'
      subst ev
      exact ⟨rv, ⟨V.ref (s.heap.objs.size + 1), H', I3, rfl, q3⟩⟩
    | next => exact False.elim hq'
    | brk => exact False.elim hq'
    | cont => exact False.elim hq'
/-- a new instance joins the store -/
theorem made_sp {H : Hp} {M : Addr → Prop} {μ : List Addr} {S : Ev.Sto} {c key : Str} {ds : List D} {vs : List V} {Q : VK} (hS : SOk X.K H M μ S) (r : RepL X.K H M μ ds vs) (hk : Γ.ini c = some key) (hp : Post (RV X.K) X.K (mkR Γ c ds S) H M μ Q) :
    ∀ x dx, H x = none → H dx = none → dx ≠ x → spG X.K (Γ.call1 key) (.ref x :: vs) (upd (upd H dx (.own x)) x (.ins (clsA X.K c) dx [])) (fun v H2 => v = .non ∧ Q (.ref x) H2) := by
  intro x dx hx hdx hne
  simp only [mkR, hk] at hp
  have h1 : SOk X.K (upd H dx (.own x)) M μ S := hS.laid hdx
  have x1 : Ext H M μ (upd H dx (.own x)) M μ := .laid hS.sub hS.mt hdx
  have hx' : upd H dx (.own x) x = none := by rw [upd_ne (Ne.symm hne)]; exact hx
  have h2 : SOk X.K (upd (upd H dx (.own x)) x (.ins (clsA X.K c) dx [])) (fun a => M a ∨ a = x) (μ ++ [x]) (S ++ [.ins c []]) := h1.grownO hx' trivial ⟨dx, [], rfl, rfl, rfl⟩
  have x2 : Ext (upd H dx (.own x)) M μ (upd (upd H dx (.own x)) x (.ins (clsA X.K c) dx [])) (fun a => M a ∨ a = x) (μ ++ [x]) := .grown h1.sub h1.mt hx'
  have hl : (μ ++ [x])[S.length]? = some x := by rw [← hS.len]; simp
  have rl : Rep X.K (upd (upd H dx (.own x)) x (.ins (clsA X.K c) dx [])) (fun a => M a ∨ a = x) (μ ++ [x]) (.loc S.length) (.ref x) := ⟨x, rfl, hl⟩
  refine ⟨.loc S.length :: ds, _, _, _, h2, ⟨_, _, rfl, rl, r.of hS (x1.trans x2)⟩, (Post.ext hp (x1.trans x2)).seq fun v S1 w H1 M1 μ1 e1 x3 s1 r1 hp2 => ?_⟩
  cases v with
  | non => exact ⟨r1, hp2.fin s1 ⟨x, rfl, pre_get x3.pre hl⟩⟩
  | _ => exact False.elim hp2
theorem ini_room (F : ClsF Γ k X) {c key : Str} {ds : List D} {S : Ev.Sto} {H : Hp} {M : Addr → Prop} {μ : List Addr} {Q : VK} (hk : Γ.ini c = some key) (hp : Post (RV X.K) X.K (mkR Γ c ds S) H M μ Q) : ∃ j, k = j + 1 := by
  cases k with
  | zero =>
    simp only [mkR, hk, F.low rfl] at hp
    exact False.elim hp
  | succ j => exact ⟨j, rfl⟩
theorem r_mk {e0 : Expr} (hX : Cok X) (hr : Room k X.A) (F : ClsF Γ k X) {key : Str} (hk : Γ.ini nm = some key) (hg : Gl X nm) (hd : (nm == ("__debug__" : Str)) = false) (ha : PA X (e0 :: es) (tA X.K fs)) (hs : isStar e0 = false) (hpl : (backTo pos (starEach es X.env)).any (·.1) = false) :
    PE X (.Call (.Name nm p) (e0 :: es) [] pos) (tE X.K fun σ S => (fs σ S).bind fun ds S1 => mkR Γ nm ds S1) := by
  obtain ⟨hm, fa, hM, hF⟩ := F.ini nm key hk
  refine ⟨fun pins s σ H Q I h => ?_⟩
  obtain ⟨σd, S, M, μ, hS, hσ, hp⟩ := h
  refine wpAny_Call_Name_kw (ld_glob I hg hm ?_ hd)
  refine PySem.W.callWith_K (h₀ := X.base) I.ok.mod.kin hM.kp (thn (ha.run pos pins s σ H (fun vs H1 => ∃ ds S1 M1 μ1, SOk X.K H1 M1 μ1 S1 ∧ RepL X.K H1 M1 μ1 ds vs ∧ Post (RV X.K) X.K (mkR Γ nm ds S1) H1 M1 μ1 Q) I
    ⟨σd, S, M, μ, hS, hσ, hp.seq fun ds S1 vs H1 M1 μ1 e1 x1 s1 r1 hp => ⟨ds, S1, M1, μ1, s1, r1, hp⟩⟩) fun us s1 ⟨vs, H1, I1, r, ds, S1, M1, μ1, hS1, r1, hp1⟩ => ⟨I1.kIn, ?_⟩) (star_cons hs) hpl
  obtain ⟨j, rfl⟩ := ini_room F hk hp1
  exact run_mk hX hr hM hF I1 r (made_sp hS1 r1 hk hp1)
theorem r_mk0 (hX : Cok X) (hr : Room k X.A) (F : ClsF Γ k X) {key : Str} (hk : Γ.ini nm = some key) (hg : Gl X nm) (hd : (nm == ("__debug__" : Str)) = false) :
    PE X (.Call (.Name nm p) [] [] pos) (tE X.K fun σ S => mkR Γ nm [] S) := by
  obtain ⟨hm, fa, hM, hF⟩ := F.ini nm key hk
  refine ⟨fun pins s σ H Q I h => ?_⟩
  obtain ⟨σd, S, M, μ, hS, hσ, hp⟩ := h
  refine wpAny_Call_Name_kw (ld_glob I hg hm ?_ hd)
  refine PySem.W.callWith_K0 I.kIn hM.kp ?_
  have hp1 : Post (RV X.K) X.K (mkR Γ nm [] S) H M μ Q := hp
  obtain ⟨j, rfl⟩ := ini_room F hk hp1
  exact run_mk (us := []) hX hr hM hF I .nil (made_sp (ds := []) (vs := []) hS (show RepL X.K H M μ [] [] from rfl) hk hp1)
end
end Ev

/-! Methods that change nothing; stores to fields by an operator; tuples unpacked into fields. -/
namespace Ev
open PySem PySem.Spec PyProof.Rows L2
section
variable {K : PySem.W.Frag} {H : Hp} {M : Addr → Prop} {μ : List Addr} {S : Ev.Sto}
theorem rep_strs : ∀ {l : List D} {ys : List Str} {vs : List V}, strsD l = some ys → RepL K H M μ l vs → vs = ys.map V.str
  | [], _, _, e, r => by cases e; exact r
  | .str i :: r, _, _, e, h => by
    obtain ⟨v, w, rfl, h1, h2⟩ := h
    cases hr : strsD r with
    | none => simp [strsD, hr] at e
    | some ms =>
      simp [strsD, hr] at e
      subst e
      rw [rep_strs hr h2, show v = .str i from h1]
      rfl
  | .non :: _, _, _, e, _ | .bl _ :: _, _, _, e, _ | .int _ :: _, _, _, e, _ | .tup _ :: _, _, _, e, _ | .frl _ :: _, _, _, e, _ | .loc _ :: _, _, _, e, _ | .emp :: _, _, _, e, _ => by cases e
theorem strs_rep : ∀ ys : List Str, RepL K H M μ (ys.map D.str) (ys.map V.str)
  | [] => rfl
  | y :: r => ⟨.str y, _, rfl, rfl, strs_rep r⟩
theorem str_of {s : Str} {l : List Nat} (h : s.cps.toList = l) : s = ⟨l.toArray⟩ := by
  cases s with
  | mk a => exact congrArg Str.mk (by rw [← h])
theorem sign_of1 {b : Str} {c : Nat} (h : sign1 b = some c) : b = ⟨#[c]⟩ ∧ c < 256 := by
  unfold sign1 at h
  split at h
  · rename_i d hd
    split at h
    · rename_i hlt
      cases h
      exact ⟨str_of hd, hlt⟩
    · cases h
  · cases h
theorem split_eq {a b : Str} {c : Nat} (h : sign1 b = some c) : Txt.split a b = (TL.spl [c] 0 [] a.cps.toList).map fun l => (⟨l.toArray⟩ : Str) := by
  obtain ⟨rfl, hc⟩ := sign_of1 h
  refine TL.map_tl_inj ?_
  rw [TL.split_spl a ⟨#[c]⟩ (by simp [TL.tl]) (TL.kind_ok (by simp; exact hc))]
  rw [List.map_map]
  have e : (TL.tl ∘ fun l : List Nat => (⟨l.toArray⟩ : Str)) = id := by
    funext l; rfl
  rw [e, List.map_id]
theorem join_eqS {a : Str} {ys : List Str} : Txt.join a ys = joinS a ys := by
  refine TL.ext_tl ?_
  rw [TL.join_eq, TL.tl_join]
  rfl
theorem pre1 {c d : Nat} {l : List Nat} : TL.pre [c] (d :: l) = (d == c) := by
  show ((d :: l).take 1 == [c]) = _
  simp
theorem idxOf_spec {c : Nat} : ∀ {l : List Nat} {i j : Nat}, idxOf c l i = some j → i ≤ j ∧ TL.pre [c] (l.drop (j - i)) = true ∧ ∀ k, i ≤ k → k < j → TL.pre [c] (l.drop (k - i)) = false
  | [], _, _, h => by cases h
  | d :: r, i, j, h => by
    unfold idxOf at h
    split at h
    · rename_i hd
      cases h
      refine ⟨Nat.le_refl _, ?_, fun k h1 h2 => by omega⟩
      rw [Nat.sub_self, List.drop_zero, pre1, hd]
      simp
    · rename_i hd
      obtain ⟨h1, h2, h3⟩ := idxOf_spec h
      refine ⟨by omega, ?_, fun k g1 g2 => ?_⟩
      · rw [show j - i = (j - (i + 1)) + 1 by omega, List.drop_succ_cons]; exact h2
      · by_cases e : k = i
        · subst e
          rw [Nat.sub_self, List.drop_zero, pre1]
          simpa using hd
        · rw [show k - i = (k - (i + 1)) + 1 by omega, List.drop_succ_cons]
          exact h3 k (by omega) g2
theorem occ_of {a b : Str} {c j : Nat} (hb : sign1 b = some c) (h : idxOf c a.cps.toList 0 = some j) : ∃ rest, Builtin.Str.occurrences a b 0 a.length 1 = j :: rest := by
  obtain ⟨rfl, hc⟩ := sign_of1 hb
  obtain ⟨h1, h2, h3⟩ := idxOf_spec h
  have hy : TL.tl (⟨#[c]⟩ : Str) ≠ [] := by simp [TL.tl]
  have at1 := (TL.at_iff (x := a) hy j).mpr (by simpa [TL.tl] using h2)
  rcases StrLaws.occ_head a ⟨#[c]⟩ 1 (Nat.le_refl _) with ⟨_, hn⟩ | ⟨i, r, e, g1, g2⟩
  · exact absurd at1 (hn j)
  · have : i = j := by
      rcases Nat.lt_trichotomy i j with z | z | z
      · have q := h3 i (Nat.zero_le _) z
        have g := (TL.at_iff hy i).mp g1
        simp only [Nat.sub_zero] at q
        rw [show TL.pre (TL.tl (⟨#[c]⟩ : Str)) ((TL.tl a).drop i) = TL.pre [c] (a.cps.toList.drop i) from rfl] at g
        rw [g] at q; cases q
      · exact z
      · exact absurd at1 (g2 j z)
    subst this
    exact ⟨r, e⟩
theorem idx2_spec {d : PyData} : ∀ {l : List D} {i j : Nat}, idxD2 d l i = some j → i ≤ j ∧ (∃ e, (pyL l)[j - i]? = some e ∧ PyData.eqv e d = true) ∧ ∀ k, i ≤ k → k < j → ∀ e, (pyL l)[k - i]? = some e → PyData.eqv e d = false
  | [], _, _, h => by cases h
  | x :: r, i, j, h => by
    unfold idxD2 at h
    split at h
    · rename_i hd
      cases h
      refine ⟨Nat.le_refl _, ⟨x.py, by rw [Nat.sub_self]; rfl, hd⟩, fun k h1 h2 => by omega⟩
    · rename_i hd
      obtain ⟨h1, ⟨e, h2, h2'⟩, h3⟩ := idx2_spec h
      refine ⟨by omega, ⟨e, ?_, h2'⟩, fun k g1 g2 e he => ?_⟩
      · rw [show j - i = (j - (i + 1)) + 1 by omega]; exact h2
      · by_cases ek : k = i
        · subst ek
          rw [Nat.sub_self] at he
          cases (show x.py = e from Option.some.inj he)
          simpa using hd
        · rw [show k - i = (k - (i + 1)) + 1 by omega] at he
          exact h3 k (by omega) g2 e he
end
section
variable {X : Cx} {Γ : Gam} {k : Nat} {o e a : Expr} {es : List Expr} {nm : Str} {pos pos' apos p : Pos} {f g h : Sl → Ev.Sto → R D} {fs : Sl → Ev.Sto → R (List D)}
def rY (K : PySem.W.Frag) (op : Ev.Sto → D → D → R D) : V → List V → Hp → VK → Prop := fun v vs H Q => ∃ S M μ d y w, vs = [w] ∧ SOk K H M μ S ∧ Rep K H M μ d v ∧ Rep K H M μ y w ∧ Post (RV K) K (op S d y) H M μ Q
theorem mR_split : MtR X "str.split" (rY X.K splitD) := by
  intro pins s σ H x xs v us Q I rx rxs h
  obtain ⟨S, M, μ, d, y, w, rfl, hS, r1, r2, hp⟩ := h
  unfold splitD at hp
  split at hp
  · rename_i t b
    split at hp
    · rename_i c hc
      split at hp
      · rename_i hl
        cases (show w = .str b from r2)
        have hb0 : (b.length == 0) = false := by
          obtain ⟨rfl, _⟩ := sign_of1 hc
          rfl
        refine mt_split pins s σ H _ _ v us Q I rx rxs ⟨t, b, r1, rfl, hb0, by rw [← line_eq]; exact hl, ?_⟩
        rw [split_eq hc]
        have q := hp.frl hS (l := _) (vs := ((TL.spl [c] 0 [] t.cps.toList).map fun l => (⟨l.toArray⟩ : Str)).map V.str) (by
          have z := strs_rep (K := X.K) (H := H) (M := M) (μ := μ) ((TL.spl [c] 0 [] t.cps.toList).map fun l => (⟨l.toArray⟩ : Str))
          rw [List.map_map] at z
          exact z)
        exact q
      · exact False.elim hp
    · exact False.elim hp
  · exact False.elim hp
theorem mR_join : MtR X "str.join" (rY X.K joinD) := by
  intro pins s σ H x xs v us Q I rx rxs h
  obtain ⟨S, M, μ, d, y, w, rfl, hS, r1, r2, hp⟩ := h
  unfold joinD at hp
  split at hp
  · rename_i t
    split at hp
    · rename_i l hl
      split at hp
      · rename_i ys hy
        split at hp
        · rename_i hz
          obtain ⟨a, vs, rfl, h1, h2⟩ := rep_seq hS r2 hl
          have ev := rep_strs hy h1
          subst ev
          refine mt_join pins s σ H _ _ v us Q I rx rxs ⟨t, a, ys, r1, rfl, h2.imp (·.2) (·.2), hz, ?_⟩
          rw [join_eqS]
          exact hp.fin hS rfl
        · exact False.elim hp
      · exact False.elim hp
    · exact False.elim hp
  · exact False.elim hp
theorem mR_sindex : MtR X "str.index" (rY X.K sindexD) := by
  intro pins s σ H x xs v us Q I rx rxs h
  obtain ⟨S, M, μ, d, y, w, rfl, hS, r1, r2, hp⟩ := h
  unfold sindexD at hp
  split at hp
  · rename_i t b
    split at hp
    · rename_i c hc
      split at hp
      · rename_i i hi
        cases (show w = .str b from r2)
        obtain ⟨rest, ho⟩ := occ_of hc hi
        exact mt_sindex pins s σ H _ _ v us Q I rx rxs ⟨t, b, i, rest, r1, rfl, ho, hp.fin hS rfl⟩
      · exact False.elim hp
    · exact False.elim hp
  · exact False.elim hp
theorem mR_lindex (hu : X.A.units + 150 < cLine) : MtR X "list.index" (rY X.K lindexD) := by
  intro pins s σ H x xs v us Q I rx rxs h
  obtain ⟨S, M, μ, d, y, w, rfl, hS, r1, r2, hp⟩ := h
  unfold lindexD at hp
  split at hp
  · rename_i l e1
    split at hp
    · rename_i hc
      split at hp
      · rename_i i hi
        obtain ⟨a, vs, rfl, h1, h2⟩ := repF hS r1 e1
        obtain ⟨g1, ⟨e, g2, g2'⟩, g3⟩ := idx2_spec hi
        have dl : Dp X.K H (.ref a) (.list (pyL l)) := .lst h1 (RepL.dp hc.2 h2)
        have sl : SeqAt.shaped (.list (pyL l)) = true := by
          have := sh_shaped (d := .frl l) (by simpa [D.sh] using hc.2)
          exact this
        exact mt_indexD (by omega) pins s σ H _ _ v us Q I rx rxs ⟨a, w, _, pyL l, i, e, rfl, rfl, dl, rep_dp hS r2 hc.1, sl, sh_shaped hc.1, by simpa using g2, g2', fun m z' hm hz => g3 m (Nat.zero_le _) hm z' (by simpa using hz), hp.fin hS rfl⟩
      · exact False.elim hp
    · exact False.elim hp
  · exact False.elim hp
/-- what a method is asked of, ahead of its argument -/
theorem rcv_str {m : Mth} {S : Ev.Sto} {H : Hp} {M : Addr → Prop} {μ : List Addr} {x : D} {v : V} (hm : m = .split ∨ m = .join) (r : Rep X.K H M μ x v) (h : rcv m S x = true) : tyV X.K "str" v H := by
  rcases hm with rfl | rfl <;> (cases x <;> simp [rcv] at h; rw [show v = .str _ from r]; exact rfl)
theorem few1 (hs : isStar a = false) : ((backTo pos (starEach [a] X.env)).all (fun x => !x.1) && (backToKw pos (keywordEach [] X.env)).all (fun x => x.1.isSome) && decide (([a] : List Expr).length + ([] : List Keyword).length + (if ([] : List Keyword).isEmpty then 0 else 1) < 30)) = true := by
  rw [star_cons hs]; rfl
theorem r_split (ho : PE X o (tE X.K f)) (ha : PE X a (tE X.K g)) (hb : attributeBase o "split" X.env (eval o X.env) = eval o X.env) (hl : (apos.endLine == pos.line) = true) (hs : isStar a = false) :
    PE X (.Call (.Attribute o "split" apos) [a] [] pos) (tE X.K fun σ S => (f σ S).bind fun x S1 => if rcv .split S1 x = true then (g σ S1).bind fun y S2 => smD .split S2 x y else .no) := by
  refine PE.imp (pe_bm PySem.F.plainAttrs_str PySem.F.slot_str_split PySem.F.type_str_split mR_split ho (pa_cons ha pa_nil (star_cons hs)) hb (few1 hs) hl (star_cons hs) rfl) fun σ H Q h => ?_
  obtain ⟨σd, S, M, μ, hS, hσ, hp⟩ := h
  refine ⟨σd, S, M, μ, hS, hσ, hp.seq fun x S1 v H1 M1 μ1 e1 x1 s1 r1 hp => ?_⟩
  split at hp
  case isFalse => exact False.elim hp
  rename_i hr
  refine ⟨rcv_str (.inl rfl) r1 hr, σd, S1, M1, μ1, s1, hσ.of hS x1, hp.seq fun y S2 w H2 M2 μ2 e2 x2 s2 r2 hp => ?_⟩
  exact ⟨S2, M2, μ2, x, y, w, rfl, s2, r1.of s1 x2, r2, hp⟩
theorem r_join (ho : PE X o (tE X.K f)) (ha : PE X a (tE X.K g)) (hb : attributeBase o "join" X.env (eval o X.env) = eval o X.env) (hl : (apos.endLine == pos.line) = true) (hs : isStar a = false) :
    PE X (.Call (.Attribute o "join" apos) [a] [] pos) (tE X.K fun σ S => (f σ S).bind fun x S1 => if rcv .join S1 x = true then (g σ S1).bind fun y S2 => smD .join S2 x y else .no) := by
  refine PE.imp (pe_bm PySem.F.plainAttrs_str PySem.F.slot_str_join PySem.F.type_str_join mR_join ho (pa_cons ha pa_nil (star_cons hs)) hb (few1 hs) hl (star_cons hs) rfl) fun σ H Q h => ?_
  obtain ⟨σd, S, M, μ, hS, hσ, hp⟩ := h
  refine ⟨σd, S, M, μ, hS, hσ, hp.seq fun x S1 v H1 M1 μ1 e1 x1 s1 r1 hp => ?_⟩
  split at hp
  case isFalse => exact False.elim hp
  rename_i hr
  refine ⟨rcv_str (.inr rfl) r1 hr, σd, S1, M1, μ1, s1, hσ.of hS x1, hp.seq fun y S2 w H2 M2 μ2 e2 x2 s2 r2 hp => ?_⟩
  exact ⟨S2, M2, μ2, x, y, w, rfl, s2, r1.of s1 x2, r2, hp⟩
/-- o.index(a), a text or a list -/
theorem r_index (hX : Cok X) (ho : PE X o (tE X.K f)) (ha : PE X a (tE X.K g)) (hb : attributeBase o "index" X.env (eval o X.env) = eval o X.env) (hl : (apos.endLine == pos.line) = true) (hs : isStar a = false) :
    PE X (.Call (.Attribute o "index" apos) [a] [] pos) (tE X.K fun σ S => (f σ S).bind fun x S1 => if rcv .index S1 x = true then (g σ S1).bind fun y S2 => smD .index S2 x y else .no) := by
  refine ⟨fun pins s σ H Q I h => ?_⟩
  obtain ⟨σd, S, M, μ, hS, hσ, hp⟩ := h
  refine wpAny_Call_method_late hb (few1 hs) hl rfl (thn (ho.run pins s σ H (fun v H1 => ∃ x S1 M1 μ1, SOk X.K H1 M1 μ1 S1 ∧ Slt X.K H1 M1 μ1 σd σ ∧ Rep X.K H1 M1 μ1 x v ∧ rcv .index S1 x = true ∧ Post (RV X.K) X.K ((g σd S1).bind fun y S2 => smD .index S2 x y) H1 M1 μ1 Q) I
    ⟨σd, S, M, μ, hS, hσ, hp.seq fun x S1 v H1 M1 μ1 e1 x1 s1 r1 hp => ?_⟩) fun u s1 ⟨v, H1, I1, rv, x, S1, M1, μ1, hS1, hσ1, r1, hr, hp1⟩ => ?_)
  · split at hp
    · rename_i hr
      exact ⟨x, S1, M1, μ1, s1, hσ.of hS x1, r1, hr, hp⟩
    · exact False.elim hp
  have go : ∀ (T id : String) (op : Ev.Sto → D → D → R D), PlainAttrs T → Slot T "index" id → typeOf (.builtin id) = pure (.type "method_descriptor") → MtR X id (rY X.K op) → tyV X.K T v H1 → (∀ S2 y, smD .index S2 x y = op S2 x y) →
      MethodOn X.prog X.w X.A "index" pos u (backTo pos (starEach [a] X.env)) (EP X pins σ Q) X.xe s1 := fun T id op pa slot hty hm ty he => by
    obtain ⟨h1, h2⟩ := tyV_is I1 rv ty
    refine ⟨T, id, pa, slot, hty, h1, h2, ?_⟩
    have hA := (pa_cons ha pa_nil (star_cons hs) : PA X [a] _).run pos pins s1 σ H1 (fun vs H2 => rY X.K op v vs H2 Q) I1 ⟨σd, S1, M1, μ1, hS1, hσ1, hp1.seq fun y S2 w H2 M2 μ2 e2 x2 s2 r2 hp => ⟨S2, M2, μ2, x, y, w, rfl, s2, r1.of hS1 x2, r2, by rw [← he]; exact hp⟩⟩
    rw [star_cons hs] at hA ⊢
    refine Calls.callWith_builtin rfl (Calls.evalArgs_plain ?_)
    exact thn hA fun us s2 ⟨vs, H2, I2, r2, q2⟩ => hm pins s2 σ H2 v vs u us Q I2 rv r2 q2
  have lst : ∀ xs c, v = .ref c → SqL X.K H1 c xs → (∀ S2 y, smD .index S2 x y = lindexD S2 x y) → MethodOn X.prog X.w X.A "index" pos u (backTo pos (starEach [a] X.env)) (EP X pins σ Q) X.xe s1 := fun xs c ev hq he =>
    go "list" "list.index" lindexD PySem.F.plainAttrs_list PySem.F.slot_list_index PySem.F.type_list_index (mR_lindex hX.un) (by rw [ev]; exact tyV_of hq) he
  cases x with
  | str t => exact go "str" "str.index" sindexD PySem.F.plainAttrs_str PySem.F.slot_str_index PySem.F.type_str_index mR_sindex (by rw [show v = .str t from r1]; exact rfl) fun _ _ => rfl
  | frl l =>
    obtain ⟨c, vs, rfl, h1, h2⟩ := id r1
    exact lst vs c rfl h1.sq fun _ _ => rfl
  | loc n =>
    obtain ⟨xs, c, ev, hq⟩ := isL_at hS1 r1 hr
    exact lst xs c ev hq fun _ _ => rfl
  | _ => cases hr
end
end Ev

/-! Stores to fields by an operator; tuples unpacked into fields; dicts. -/
namespace Ev
open PySem PySem.Spec PyProof.Rows L2
theorem Post.impQ {α β : Type} {Rl : Hp → (Addr → Prop) → List Addr → α → β → Prop} {K : PySem.W.Frag} {r : R α} {H : Hp} {M : Addr → Prop} {μ : List Addr} {Q Q' : β → Hp → Prop} (h : Post Rl K r H M μ Q) (i : ∀ b H, Q b H → Q' b H) : Post Rl K r H M μ Q' := by
  cases r with
  | ok a S' => exact fun b H' M' μ' x s q => i b H' (h b H' M' μ' x s q)
  | err _ _ _ => exact h
  | no => exact h
section
variable {X : Cx} {Γ : Gam} {k : Nat} {o e a i : Expr} {es : List Expr} {nm x : Str} {pos pos' apos p : Pos} {f g h : Sl → Ev.Sto → R D} {fs : Sl → Ev.Sto → R (List D)}
/-- a field's value -/
theorem field_g {pins : List (Addr × Obj)} {σ : L2.St} {H : Hp} {M : Addr → Prop} {μ : List Addr} {S : Ev.Sto} {s : Shared} {x d : D} {v : V} {u : Value} {b : Bool} {Q : Value → Shared → Prop} (F : ClsF Γ k X) (I : Inv X pins σ H s) (hS : SOk X.K H M μ S) (r : Rep X.K H M μ x v) (rv : RelV v u) (hd : fieldD Γ S x nm = some d)
    (hq : ∀ u' s' w, Inv X pins σ H s' → RelV w u' → Rep X.K H M μ d w → Q u' s') : wpAny (model X.prog X.w) X.A (getAttr u nm b) Q X.xe s := by
  unfold fieldD at hd
  split at hd
  · rename_i c fl hi
    split at hd
    · rename_i hfl
      obtain ⟨n, rfl, hn⟩ := insAt_loc hi
      obtain ⟨a, dx, vs, e1, e2, gk, gr⟩ := hS.atI hn
      obtain ⟨a', rfl, e1'⟩ := id r
      rw [e1] at e1'; cases e1'
      obtain rfl : u = .ref a := rv
      obtain ⟨hc, hna⟩ := F.fld c nm hfl
      obtain ⟨w, hw, rw_⟩ := (lookup_fs gk gr).1 d hd
      exact getattr_ok I e2 hc hna hw fun u' s2 I2 ru => hq u' s2 w I2 ru rw_
    · cases hd
  · cases hd
theorem s_afld {op : Bop} (hop : augOk op = true) (F : ClsF Γ k X) (ho : PE X o (tE X.K f)) (he : PE X e (tE X.K g)) :
    PS X (.AugAssign (.Attribute o nm pos') (bopO op) e pos) (tS X.K fun σ S => (f σ S).bind fun x S1 => (R.of (fieldD Γ S1 x nm) S1).bind fun v S1 => (g σ S1).bind fun y S2 => match v, y with
      | .int a, .int b => (R.of ((intB op a b).map .int) S2).bind fun z S2 => (sfldR Γ x nm z S2).bind fun _ S3 => .ok (.nx σ) S3
      | _, _ => .no) := by
  refine ⟨fun pins s σ H D I h => ?_⟩
  obtain ⟨σd, S, M, μ, hS, hσ, hp⟩ := h
  refine wpAny_AugAssign_AttributeAny (thn (ho.run pins s σ H (fun v H1 => ∃ x S1 M1 μ1 fv, SOk X.K H1 M1 μ1 S1 ∧ Slt X.K H1 M1 μ1 σd σ ∧ Rep X.K H1 M1 μ1 x v ∧ fieldD Γ S1 x nm = some fv ∧ PostS X.K ((g σd S1).bind fun y S2 => match fv, y with
      | .int a, .int b => (R.of ((intB op a b).map .int) S2).bind fun z S2 => (sfldR Γ x nm z S2).bind fun _ S3 => .ok (.nx σd) S3
      | _, _ => .no) H1 M1 μ1 D) I ⟨σd, S, M, μ, hS, hσ, hp.seqP fun x S1 v H1 M1 μ1 e1 x1 s1 r1 hp => ?_⟩) fun ov s1 ⟨v, H1, I1, rv, x, S1, M1, μ1, fv, hS1, hσ1, r1, hfv, hp1⟩ => ?_)
  · obtain ⟨fv, hfv, hp⟩ := hp.of
    exact ⟨x, S1, M1, μ1, fv, s1, hσ.of hS x1, r1, hfv, hp⟩
  refine field_g F I1 hS1 r1 rv hfv fun u' s2 w I2 ru rw_ => ?_
  refine thn (he.run pins s2 σ H1 (fun w2 H2 => ∃ S2 M2 μ2 i j, SOk X.K H2 M2 μ2 S2 ∧ Slt X.K H2 M2 μ2 σd σ ∧ Rep X.K H2 M2 μ2 x v ∧ w = .int i ∧ w2 = .int j ∧ PostS X.K ((R.of ((intB op i j).map .int) S2).bind fun z S2 => (sfldR Γ x nm z S2).bind fun _ S3 => .ok (.nx σd) S3) H2 M2 μ2 D) I2
    ⟨σd, S1, M1, μ1, hS1, hσ1, hp1.seqP fun y S2 w2 H2 M2 μ2 e2 x2 s2 r2 hp => ?_⟩) fun w3 s3 ⟨w2, H2, I3, rw2, S2, M2, μ2, i, j, hS2, hσ2, r2, e1, e2, hp2⟩ => ?_
  · cases fv with
    | int i => cases y with
      | int j => exact ⟨S2, M2, μ2, i, j, s2, hσ1.of hS1 x2, r1.of hS1 x2, rw_, r2, hp⟩
      | _ => exact False.elim hp
    | _ => exact False.elim hp
  subst e1 e2
  obtain ⟨z, hz, hp3⟩ := hp2.of
  cases hk : intB op i j with
  | none => rw [hk] at hz; cases hz
  | some m =>
    rw [hk] at hz
    cases hz
    refine thn (ipInt op hop pins s3 σ H2 (.int i) (.int j) u' w3 (fun v' H' => v' = .int m ∧ H' = H2) I3 ru rw2 ⟨i, j, m, rfl, rfl, hk, rfl, rfl⟩) fun w4 s4 ⟨v4, H4, I4, r4, e4, e5⟩ => ?_
    subst e4 e5
    exact thn (set_g (Q := fun H3 => D.nx σ H3) F I4 hS2 r2 (show Rep X.K H4 M2 μ2 (.int m) (.int m) from rfl) rv r4 (hp3.seqP fun _ S3 _ H3 M3 μ3 e3 x3 s3 _ hp => hp.fin s3 σ (hσ2.of hS2 x3))) fun _ s5 ⟨H5, I5, q⟩ => ⟨σ, H5, I5, q⟩
/-! ### self.a, self.b = a tuple -/
theorem pg_at {to : TE} (ho : PE X o to) {t : V → V → Hp → (Hp → Prop) → Prop} (hset : ∀ (pins : List (Addr × Obj)) (s : Shared) (σ : L2.St) (H : Hp) (v w : V) (ov u : Value) (Q : Hp → Prop), Inv X pins σ H s → RelV v ov → RelV w u → t v w H Q → wpAny (model X.prog X.w) X.A (setAttr ov nm u) (fun _ s' => ∃ H', Inv X pins σ H' s' ∧ Q H') X.xe s) :
    PG X (.Attribute o nm pos) (fun w σ H Q => to σ H fun v H1 => t v w H1 fun H2 => Q σ H2) := by
  refine ⟨fun pins s σ H v u Q I r h => ?_⟩
  rw [assign_Attribute]
  refine wpAny_bind (wpAny_holding (thn (ho.run pins s σ H _ I h) fun ov s1 ⟨x, H1, I1, r1, q1⟩ => ?_))
  refine wpAny_bind (wpAny_standAt (wpAny_bind (wpAny_holding (thn (hset pins s1 σ H1 x v ov u _ I1 r1 r q1) fun _ s3 ⟨H3, I3, q3⟩ => ?_))))
  exact wpAny_release ⟨σ, H3, I3, q3⟩
def gAt (K : PySem.W.Frag) (Γ : Gam) (i : Nat) (fs : List Str) : TGs := fun ws σ H Q => ∃ σd S M μ x l, SOk K H M μ S ∧ Slt K H M μ σd σ ∧ σd[i]? = some (some x) ∧ RepL K H M μ l ws ∧ l.length = fs.length ∧ Post (fun _ _ _ (_ _ : Unit) => True) K (unfR Γ x (fs.zip l) S) H M μ fun _ H' => Q σ H'
theorem gs_at (F : ClsF Γ k X) {j : Nat} (hj : X.N[j]? = some x) (hv : Vis X.env.scope x) (hd : (x == ("__debug__" : Str)) = false) (hcd : (x == ("__classdict__" : Str)) = false) : ∀ {ts : List Expr} {fs : List Str}, atTs x ts = some fs → PGs X ts (gAt X.K Γ j fs)
  | [], _, h => by
    cases h
    refine PGs.imp pgs_nil fun ws σ H Q q => ?_
    obtain ⟨σd, S, M, μ, y, l, hS, hσ, hx, r, hl, hp⟩ := q
    cases l with
    | nil => exact ⟨r, hp.fin (b := ()) hS trivial⟩
    | cons _ _ => simp at hl
  | t :: ts, fs, h => by
    unfold atTs at h
    split at h
    · rename_i heq; cases heq
    · rename_i y p2 f p3 r heq
      cases heq
      split at h
      · rename_i hy
        have hy := hy.symm
        subst hy
        cases hr : atTs x ts with
        | none => rw [hr] at h; cases h
        | some fs' =>
          rw [hr] at h
          cases h
          have ih := gs_at F hj hv hd hcd hr
          have pv : PE X (.Name x p2) (tE X.K fun σ S => match σ[j]? with
            | some (some d) => .ok d S
            | _ => .no) := r_var hj hv hd hcd
          refine PGs.imp (pgs_cons (pg_at (nm := f) pv (t := fun v w H Q => ∃ S M μ y z, SOk X.K H M μ S ∧ Rep X.K H M μ y v ∧ Rep X.K H M μ z w ∧ Post (fun _ _ _ (_ _ : Unit) => True) X.K (sfldR Γ y f z S) H M μ fun _ H' => Q H') fun pins s σ H v w ov u Q I r1 r2 q => ?_) ih (by rfl)) fun ws σ H Q q => ?_
          · obtain ⟨S, M, μ, y, z, hS, r3, r4, hp⟩ := q
            exact set_g F I hS r3 r4 r1 r2 hp
          · obtain ⟨σd, S, M, μ, y, l, hS, hσ, hx, r, hl, hp⟩ := q
            cases l with
            | nil => simp at hl
            | cons z l =>
              obtain ⟨w, ws', rfl, r1, r2⟩ := r
              refine ⟨w, ws', rfl, σd, S, M, μ, hS, hσ, ?_⟩
              dsimp only
              rw [hx]
              intro v H' M' μ' x1 s1 rv
              refine ⟨S, M', μ', y, z, s1, rv, r1.of hS x1, ?_⟩
              have hp' : Post (fun _ _ _ (_ _ : Unit) => True) X.K ((sfldR Γ y f z S).bind fun _ S1 => unfR Γ y (fs'.zip l) S1) H' M' μ' fun _ H' => Q σ H' := Post.ext hp x1
              exact hp'.seq fun _ S2 _ H2 M2 μ2 e2 x2 s2 _ hp2 => ⟨σd, S2, M2, μ2, y, l, s2, (hσ.of hS x1).of s1 x2, hx, (r2.of hS x1).of s1 x2, by simpa using hl, hp2⟩
      · cases h
    · cases h
theorem at_len {env : Env} : ∀ {ts : List Expr} {fs : List Str}, atTs x ts = some fs → (assignEach ts env).length = fs.length ∧ (assignEach ts env).findIdx? (·.1) = none
  | [], _, h => by cases h; exact ⟨rfl, rfl⟩
  | t :: ts, fs, h => by
    unfold atTs at h
    split at h
    · rename_i heq; cases heq
    · rename_i y p2 f p3 r heq
      cases heq
      split at h
      · cases hr : atTs x ts with
        | none => rw [hr] at h; cases h
        | some fs' =>
          rw [hr] at h
          cases h
          obtain ⟨h1, h2⟩ := at_len (env := env) hr
          refine ⟨by show (assignEach ts env).length + 1 = _; simp [h1], ?_⟩
          show List.findIdx? _ ((false, _) :: assignEach ts env) = none
          rw [List.findIdx?_cons]
          simp [h2]
      · cases h
    · cases h
theorem s_unf {ts : List Expr} {fs : List Str} {kk : Nat} {tp : Pos} (hX : Cok X) (F : ClsF Γ k X) {j : Nat} (hj : X.N[j]? = some x) (hv : Vis X.env.scope x) (hd : (x == ("__debug__" : Str)) = false) (hcd : (x == ("__classdict__" : Str)) = false) (ht : atTs x ts = some fs) (he : PE X e (tE X.K f))
    (hs : swapsWithSole [.Tuple ts kk tp] e pos.line X.env = pure false) (hw : swappedStores [.Tuple ts kk tp] e X.env = pure none) :
    PS X (.Assign [.Tuple ts kk tp] e pos) (tS X.K fun σ S => match σ[j]? with
    | some (some x) => (f σ S).bind fun y S1 => match y with
      | .tup l => if l.length = fs.length then (unfR Γ x (fs.zip l) S1).bind fun _ S2 => .ok (.nx σ) S2 else .no
      | _ => .no
    | _ => .no) := by
  obtain ⟨l1, l2⟩ := at_len (env := X.env) ht
  refine PS.imp (ps_asg he (pg_tup hX.calm (gs_at F hj hv hd hcd ht) l1 l2) hs hw rfl) fun D σ H h => ?_
  obtain ⟨σd, S, M, μ, hS, hσ, hp⟩ := h
  dsimp only at hp
  split at hp
  · rename_i y hy
    refine ⟨σd, S, M, μ, hS, hσ, hp.seqP fun z S1 v H1 M1 μ1 e1 x1 s1 r1 hp => ?_⟩
    cases z with
    | tup l =>
      dsimp only at hp
      split at hp
      · rename_i hl
        obtain ⟨c, vs, rfl, h1, h2⟩ := r1
        refine ⟨c, vs, rfl, h1, by rw [← h2.len]; exact hl, σd, S1, M1, μ1, y, l, s1, hσ.of hS x1, hy, h2, hl, hp.seqP fun _ S2 _ H2 M2 μ2 e2 x2 s2 _ hp => ?_⟩
        exact hp.fin s2 σ ((hσ.of hS x1).of s1 x2)
      · exact False.elim hp
    | _ => exact False.elim hp
  · exact False.elim hp
/-! ### the module's dicts -/
theorem r_dgG {i : Expr} {p2 : Pos} {dk : List (Str × D)} (F : ClsF Γ k X) (hk : Γ.gdt x = some dk) (hg : Gl X x) (hd : (x == ("__debug__" : Str)) = false) (hi : PE X i (tE X.K f)) (hs : isSlice i = false) :
    PE X (.Subscript (.Name x p2) i pos) (tE X.K fun σ S => (f σ S).bind fun y S1 => match Γ.gdt x, y with
    | some l, .str w => R.of (l.lookup w) S1
    | _, _ => .no) := by
  obtain ⟨d, es, n, hm, KD, _, hyes⟩ := F.gdt x dk hk
  rw [hk]
  refine ⟨fun pins s σ H Q I h => ?_⟩
  obtain ⟨σd, S, M, μ, hS, hσ, hp⟩ := h
  refine subD_of PySem.F.slot_dict_getitem.lookup (no_sl hs) (ld_glob I hg hm (thn (hi.run pins s σ H (fun v H1 => ∃ z dv S1 M1 μ1, SOk X.K H1 M1 μ1 S1 ∧ v = .str z ∧ dk.lookup z = some dv ∧ Post (RV X.K) X.K (.ok dv S1) H1 M1 μ1 Q) I
    ⟨σd, S, M, μ, hS, hσ, hp.seq fun y S1 v H1 M1 μ1 e1 x1 s1 r1 hp => ?_⟩) fun iv s2 ⟨v, H2, I2, rv, z, dv, S1, M1, μ1, hS1, ev, hl, hp1⟩ => ?_) hd)
  · cases y with
    | str z =>
      obtain ⟨dv, hl, hp⟩ := hp.ofL
      exact ⟨z, dv, S1, M1, μ1, s1, r1, hl, hp⟩
    | _ => exact False.elim hp
  · subst ev
    obtain ⟨u0, v0, g1, g2, g3⟩ := hyes z dv hl
    exact ⟨kd_type KD I2, op_item_kd KD pins s2 σ H2 (.ref d) (.str z) (.ref d) iv Q I2 rfl rv ⟨z, u0, v0, rfl, rfl, g1, g2, hp1.fin hS1 (g3 _ _ _)⟩⟩
theorem dn_read {dk : List (Str × D)} {neg : Bool} {d : Addr} (key : ∀ z, ∃ r, PySem.W.nsIn X.K d z = some r ∧ r.isSome = (dk.lookup z).isSome) (σ : L2.St) (H : Hp) (Q : VK) (h : tE X.K (fun σ S => (f σ S).bind fun y S1 => match some dk, y with
    | some l, .str w => .ok (.bl (xor neg (l.lookup w).isSome)) S1
    | _, _ => .no) σ H Q) : tE X.K f σ H fun v H1 => ∃ (z : Str) (r : Option Value), v = .str z ∧ PySem.W.nsIn X.K d z = some r ∧ Q (.bl (xor neg r.isSome)) H1 := by
  obtain ⟨σd, S, M, μ, hS, hσ, hp⟩ := h
  refine ⟨σd, S, M, μ, hS, hσ, hp.seq fun y S1 v H1 M1 μ1 e1 x1 s1 r1 hp => ?_⟩
  cases y with
  | str z =>
    obtain ⟨r, g1, g2⟩ := key z
    exact ⟨z, r, r1, g1, by rw [g2]; exact hp.fin s1 rfl⟩
  | _ => exact False.elim hp
theorem r_dnG {i : Expr} {p2 : Pos} {dk : List (Str × D)} {neg : Bool} {op : CmpOp} (hop : op = if neg = true then .NotIn else .In) (F : ClsF Γ k X) (hk : Γ.gdt x = some dk) (hg : Gl X x) (hd : (x == ("__debug__" : Str)) = false) (hi : PE X i (tE X.K f)) (hb : behindInMarks op (.Name x p2) = false) :
    PE X (.Compare i [op] [.Name x p2] pos) (tE X.K fun σ S => (f σ S).bind fun y S1 => match Γ.gdt x, y with
    | some l, .str w => .ok (.bl (xor neg (l.lookup w).isSome)) S1
    | _, _ => .no) ∧
    PT X (.Compare i [op] [.Name x p2] pos) (tT X.K fun σ S => ((f σ S).bind fun y S1 => match Γ.gdt x, y with
    | some l, .str w => .ok (.bl (xor neg (l.lookup w).isSome)) S1
    | _, _ => .no).bind fun x S1 => R.of (truD S1 x) S1) := by
  obtain ⟨d, es, n, hm, KD, hno, hyes⟩ := F.gdt x dk hk
  rw [hk]
  have pn : PE X (.Name x p2) (tC (.ref d)) := pe_glob hg hm rfl hd
  have key : ∀ z, ∃ r, PySem.W.nsIn X.K d z = some r ∧ r.isSome = (dk.lookup z).isSome := fun z => by
    cases hl : dk.lookup z with
    | none => exact ⟨none, hno z hl, rfl⟩
    | some dv =>
      obtain ⟨u0, v0, g1, _⟩ := hyes z dv hl
      exact ⟨some u0, g1, rfl⟩
  have tst : ∀ {σ : L2.St} {H : Hp} {Q : Bool → Hp → Prop}, tT X.K (fun σ S => ((f σ S).bind fun y S1 => match some dk, y with
    | some l, .str w => .ok (.bl (xor neg (l.lookup w).isSome)) S1
    | _, _ => .no).bind fun x S1 => R.of (truD S1 x) S1) σ H Q → tE X.K (fun σ S => (f σ S).bind fun y S1 => match some dk, y with
    | some l, .str w => .ok (.bl (xor neg (l.lookup w).isSome)) S1
    | _, _ => .no) σ H (fun x H' => ∃ k, x = .bl k ∧ Q k H') := fun {σ H Q} h => by
    obtain ⟨σd, S, M, μ, hS, hσ, hp⟩ := h
    refine ⟨σd, S, M, μ, hS, hσ, hp.seq fun y S1 v H1 M1 μ1 e1 x1 s1 r1 hp => ?_⟩
    have : ∃ b, y = .bl b := by
      cases hf : f σd S with
      | ok w S2 =>
        rw [hf] at e1
        simp only [R.bind] at e1
        split at e1
        · cases e1; exact ⟨_, rfl⟩
        · cases e1
      | err _ _ _ => rw [hf] at e1; cases e1
      | no => rw [hf] at e1; cases e1
    obtain ⟨b, rfl⟩ := this
    exact ⟨b, r1, hp.fin s1 rfl⟩
  cases neg with
  | true =>
    subst hop
    have rd : ∀ (σ : L2.St) (H : Hp) (Q : VK), tE X.K (fun σ S => (f σ S).bind fun y S1 => match some dk, y with
      | some l, .str w => .ok (.bl (xor true (l.lookup w).isSome)) S1
      | _, _ => .no) σ H Q → tOp (fun x y H Q => ∃ (z : Str) (r : Option Value), x = .str z ∧ y = .ref d ∧ PySem.W.nsIn X.K d z = some r ∧ Q (.bl (!r.isSome)) H) (tE X.K f) (tC (.ref d)) σ H Q := fun σ H Q h => by
      obtain ⟨σd, S, M, μ, hS, hσ, hp⟩ := dn_read key σ H Q h
      exact ⟨σd, S, M, μ, hS, hσ, Post.impQ hp fun v H1 ⟨z, r, e1, e2, q⟩ => ⟨z, r, e1, rfl, e2, by simpa using q⟩⟩
    exact ⟨PE.imp (pe_cmpR (op := .NotIn) (op_notIn_kd KD) hi pn hb) rd, PT.imp (pt_cmpR (op := .NotIn) (op_notIn_kd KD) hi pn hb) fun σ H Q h => rd σ H _ (tst h)⟩
  | false =>
    subst hop
    have rd : ∀ (σ : L2.St) (H : Hp) (Q : VK), tE X.K (fun σ S => (f σ S).bind fun y S1 => match some dk, y with
      | some l, .str w => .ok (.bl (xor false (l.lookup w).isSome)) S1
      | _, _ => .no) σ H Q → tOp (fun x y H Q => ∃ (z : Str) (r : Option Value), x = .str z ∧ y = .ref d ∧ PySem.W.nsIn X.K d z = some r ∧ Q (.bl r.isSome) H) (tE X.K f) (tC (.ref d)) σ H Q := fun σ H Q h => by
      obtain ⟨σd, S, M, μ, hS, hσ, hp⟩ := dn_read key σ H Q h
      exact ⟨σd, S, M, μ, hS, hσ, Post.impQ hp fun v H1 ⟨z, r, e1, e2, q⟩ => ⟨z, r, e1, rfl, e2, by simpa using q⟩⟩
    exact ⟨PE.imp (pe_cmpR (op := .In) (op_in_kd KD) hi pn hb) rd, PT.imp (pt_cmpR (op := .In) (op_in_kd KD) hi pn hb) fun σ H Q h => rd σ H _ (tst h)⟩
end
end Ev

/-! Dicts as they are made; a text walked. -/
namespace Ev
open PySem PySem.Spec PyProof.Rows L2
section
variable {K : PySem.W.Frag} {H : Hp} {M : Addr → Prop} {μ : List Addr} {S : Ev.Sto}
/-- an object laid by us gets its place -/
theorem SOk.join {a : Addr} {o : O} {u : HO} (h : SOk K H M μ S) (hm : M a) (hn : a ∉ μ) (e : H a = some u) (r : RepO K H M μ o u) : SOk K H M (μ ++ [a]) (S ++ [o]) := by
  refine ⟨by simp [h.len], ?_, fun b z => ?_, h.mt, fun n l el => ?_⟩
  · rw [List.nodup_append]
    refine ⟨h.nd, by simp, fun b hb c hc eb => ?_⟩
    rw [eb, List.mem_singleton.mp hc] at hb
    exact hn hb
  · rcases List.mem_append.mp z with z | z
    · exact h.sub b z
    · rw [List.mem_singleton.mp z]; exact hm
  · by_cases hl : n < S.length
    · rw [List.getElem?_append_left hl] at el
      obtain ⟨b, ws, g1, g2, g3⟩ := h.obj n l el
      exact ⟨b, ws, pre_get (List.prefix_append _ _) g1, g2, g3.imp fun _ _ r => RepL.more a r⟩
    · have hn' : n = S.length := by
        have := (List.getElem?_eq_some_iff.mp el).1
        simp at this; omega
      subst hn'
      simp at el; subst el
      exact ⟨a, u, by rw [← h.len]; simp, e, r.imp fun _ _ r => RepL.more a r⟩
theorem Ext.join {H1 : Hp} {M1 : Addr → Prop} {μ1 : List Addr} {a : Addr} (x : Ext H M μ H1 M1 μ1) (ha : H a = none) : Ext H M μ H1 M1 (μ1 ++ [a]) :=
  ⟨x.keep, x.kind, x.pre.trans (List.prefix_append _ _), x.old, x.new, fun b z => by
    rcases List.mem_append.mp z with z | z
    · exact x.nmu b z
    · rw [List.mem_singleton.mp z]; exact .inr ha⟩
theorem merge_nd : ∀ (kvs acc : List (Key × V)), (∀ q ∈ kvs, valV acc q.1 = none) → (kvs.map (·.1)).Nodup → mergeK acc kvs = acc ++ kvs
  | [], acc, _, _ => by simp [mergeK]
  | q :: r, acc, h, hn => by
    rw [List.map_cons, List.nodup_cons] at hn
    show mergeK (putK acc q.1 q.2) r = _
    rw [putK_new _ (h q List.mem_cons_self), merge_nd r _ (fun z hz => ?_) hn.2, List.append_assoc]
    · rfl
    · rw [valV_snoc _ _ _ _ (h q List.mem_cons_self), if_neg fun e => hn.1 (by rw [← e]; exact List.mem_map_of_mem hz)]
      exact h z (List.mem_cons_of_mem _ hz)
theorem kz_nd {kk : List Str} {vs : List V} (h : kk.Nodup) (hl : kk.length ≤ vs.length) : (((kk.zip vs).map fun q => ((Sum.inr q.1 : Key), q.2)).map (·.1)).Nodup := by
  rw [List.map_map]
  have e : ((fun x : Key × V => x.1) ∘ fun q : Str × V => ((Sum.inr q.1 : Key), q.2)) = (fun x : Str => (Sum.inr x : Key)) ∘ Prod.fst := rfl
  rw [e, ← List.map_map, List.map_fst_zip hl]
  exact List.pairwise_map.mpr (h.imp fun {a b} h e => h (Sum.inr.inj e))
theorem kz_rep : ∀ {kk : List Str} {ds : List D} {vs : List V}, RepL K H M μ ds vs → (((kk.map fun k => (Sum.inr k : Key)).zip ds).map (·.1) = ((kk.zip vs).map fun q => ((Sum.inr q.1 : Key), q.2)).map (·.1)) ∧ RepL K H M μ (((kk.map fun k => (Sum.inr k : Key)).zip ds).map (·.2)) (((kk.zip vs).map fun q => ((Sum.inr q.1 : Key), q.2)).map (·.2))
  | [], _, _, _ => ⟨rfl, rfl⟩
  | k :: ks, [], _, r => by rw [show _ = _ from r]; exact ⟨rfl, rfl⟩
  | k :: ks, d :: ds, _, r => by
    obtain ⟨v, w, rfl, r1, r2⟩ := r
    obtain ⟨g1, g2⟩ := kz_rep (kk := ks) r2
    exact ⟨by simp only [List.map_cons, List.zip_cons_cons]; rw [g1], v, _, rfl, r1, g2⟩
end
section
variable {X : Cx} {Γ : Gam} {pos dpos apos : Pos} {keys : List (Option Expr)} {vals : List Expr} {i e tg : Expr} {kk : List Str} {cs : CEs} {F : Expr → Option CE} {f : Sl → Ev.Sto → R D}
theorem r_mkD (hF : ∀ e c, F e = some c → PE X e (tE X.K (evE Γ c))) (hk : dictKeys keys = some kk) (hm : mapE F vals = some cs) (hl : kk.length = vals.length ∧ kk.length ≤ 15 ∧ 0 < kk.length ∧ kk.Nodup) :
    PE X (.Dict keys vals dpos) (tE X.K (evE Γ (.mkD kk cs))) := by
  obtain ⟨g1, g2⟩ := pps_all (pos := dpos) hF hk hm hl.1
  obtain ⟨k1, k2⟩ := keys_some hk
  refine PE.imp (pe_disp g1 k1 (by rw [k2, hl.1]) (fun e => by rw [e] at k2; simp at k2; omega) (by omega)) fun σ H Q h => ?_
  obtain ⟨σd, S, M, μ, hS, hσ, hp⟩ := h
  simp only [evE] at hp
  intro p hp0
  have hpμ : p ∉ μ := fun z => notMn hS.mt hp0 (hS.sub p z)
  refine pairs_read kk cs g2 (hS.layM (o := .dK []) trivial hp0) (hσ.of hS (.lay hp0)) upd_same (.inr rfl) hpμ hp fun ds vs S2 H2 M2 μ2 x2 s2 r2 l2 e1 e2 e3 hp2 => ?_
  have lv : kk.length = vs.length := by rw [← r2.len, l2]
  refine ⟨e1, (kk.zip vs).map fun q => ((Sum.inr q.1 : Key), q.2), ?_, ?_, ?_⟩
  · unfold prs
    rw [List.map_map]; rfl
  · rw [List.length_map, List.length_zip]; omega
  rw [merge_nd _ [] (fun _ _ => rfl) (kz_nd hl.2.2.2 (Nat.le_of_eq lv)), List.nil_append]
  have s3 := s2.madeM (o := .dK ((kk.zip vs).map fun q => ((Sum.inr q.1 : Key), q.2))) trivial e2 e3
  have hk3 : ∀ a u, H2 a = some u → ¬ M2 a → upd H2 p (.dK ((kk.zip vs).map fun q => ((Sum.inr q.1 : Key), q.2))) a = some u := fun a u e q => by
    rw [upd_ne (fun (z : a = p) => q (z ▸ e2))]; exact e
  have r3 : RepL X.K _ M2 μ2 ds vs := RepL.kept s2.mt hk3 r2
  obtain ⟨q1, q2⟩ := kz_rep (kk := kk) r3
  have s4 := s3.join (o := .dct ((kk.map fun k => (Sum.inr k : Key)).zip ds)) e2 e3 upd_same ⟨_, rfl, q1, q2⟩
  exact hp2.go ((((Ext.lay hp0).trans x2).again hp0).join hp0) s4 ⟨p, rfl, by rw [← s3.len]; simp⟩
theorem r_newD : PE X (.Dict [] [] pos) (tE X.K (evE Γ .newD)) :=
  PE.imp pe_dnewK fun σ H Q h => by
    obtain ⟨σd, S, M, μ, hS, hσ, hp⟩ := h
    intro p hp0
    have hpμ : p ∉ μ := fun z => notMn hS.mt hp0 (hS.sub p z)
    have s1 := hS.grownO (o := .dct []) (u := .dK []) hp0 trivial ⟨[], rfl, rfl, rfl⟩
    exact hp.go (.grown hS.sub hS.mt hp0) s1 ⟨p, rfl, by rw [← hS.len]; simp⟩
theorem few2 {a b : Expr} (hs : isStar a = false) (hs2 : isStar b = false) : ((backTo pos (starEach [a, b] X.env)).all (fun x => !x.1) && (backToKw pos (keywordEach [] X.env)).all (fun x => x.1.isSome) && decide (([a, b] : List Expr).length + ([] : List Keyword).length + (if ([] : List Keyword).isEmpty then 0 else 1) < 30)) = true := by
  rw [star_cons hs, star_cons hs2]; rfl
/-- {k: v, ..}.get(i, d) -/
theorem r_pickG {d : Expr} {ci cd : CE} (hX : Cok X) (hF : ∀ e c, F e = some c → PE X e (tE X.K (evE Γ c))) (hk : dictKeys keys = some kk) (hm : mapE F vals = some cs) (hi : F i = some ci) (hd : F d = some cd) (hsi : isStar i = false) (hsd : isStar d = false) (hl : kk.length = vals.length ∧ kk.length ≤ 15 ∧ 0 < kk.length ∧ kk.Nodup)
    (hline : (apos.endLine == pos.line) = true) : PE X (.Call (.Attribute (.Dict keys vals dpos) "get" apos) [i, d] [] pos) (tE X.K (evE Γ (.pickG kk cs ci cd))) := by
  obtain ⟨g1, g2⟩ := pps_all (pos := dpos) hF hk hm hl.1
  obtain ⟨k1, k2⟩ := keys_some hk
  have hu := hX.un
  refine PE.imp (pe_dget2 (by omega) (pe_disp g1 k1 (by rw [k2, hl.1]) (fun e => by rw [e] at k2; simp at k2; omega) (by omega)) (hF _ _ hi) (hF _ _ hd) ⟨rfl, few2 hsi hsd, hline, by rw [star_cons hsi, star_cons hsd]; rfl⟩) fun σ H Q h => ?_
  obtain ⟨σd, S, M, μ, hS, hσ, hp⟩ := h
  simp only [evE] at hp
  intro p hp0
  have hpμ : p ∉ μ := fun z => notMn hS.mt hp0 (hS.sub p z)
  refine pairs_read kk cs g2 (hS.layM (o := .dK []) trivial hp0) (hσ.of hS (.lay hp0)) upd_same (.inr rfl) hpμ hp fun ds vs S2 H2 M2 μ2 x2 s2 r2 l2 e1 e2 e3 hp2 => ?_
  have lv : kk.length = vs.length := by rw [← r2.len, l2]
  refine ⟨e1, (kk.zip vs).map fun q => ((Sum.inr q.1 : Key), q.2), ?_, ?_, ?_⟩
  · unfold prs
    rw [List.map_map]; rfl
  · rw [List.length_map, List.length_zip]; omega
  have s3 := s2.madeM (o := .dK (mergeK [] ((kk.zip vs).map fun q => ((Sum.inr q.1 : Key), q.2)))) trivial e2 e3
  have hk3 : ∀ a u, H2 a = some u → ¬ M2 a → upd H2 p (.dK (mergeK [] ((kk.zip vs).map fun q => ((Sum.inr q.1 : Key), q.2)))) a = some u := fun a u e q => by
    rw [upd_ne (fun (z : a = p) => q (z ▸ e2))]; exact e
  have slt2 := (hσ.of hS (.lay hp0)).of (hS.layM (o := .dK []) trivial hp0) x2
  have slt3 : Slt X.K (upd H2 p (.dK (mergeK [] ((kk.zip vs).map fun q => ((Sum.inr q.1 : Key), q.2))))) M2 μ2 σd σ := ⟨slt2.1, fun n d e => by
    obtain ⟨v, a1, a2⟩ := slt2.2 n d e
    exact ⟨v, a1, Rep.kept s2.mt hk3 a2⟩⟩
  refine ⟨p, rfl, .inl ⟨_, .inl upd_same⟩, σd, S2, M2, μ2, s3, slt3, hp2.seqB fun y S3 w H3 M3 μ3 x3 s4 r3 hp3 => ?_⟩
  refine ⟨σd, S3, M3, μ3, s4, slt3.of s3 x3, hp3.seqB fun z S4 w4 H4 M4 μ4 x4 s5 r4 hp4 => ?_⟩
  cases y with
  | str x =>
    have r5 : RepL X.K H4 M4 μ4 ds vs := ((RepL.kept s2.mt hk3 r2).of s3 x3).of s4 x4
    have e5 := x4.keep p _ (x3.keep p _ upd_same e3) (fun z => (x3.nmu p z).elim e3 fun z => by rw [upd_same] at z; cases z)
    have nd := kz_nd (vs := vs) hl.2.2.2 (Nat.le_of_eq lv)
    have dg := DGet.k (H := H4) (a := p) (k := Sum.inr x) e5
    rw [merge_val _ _ nd, valV_nil, Option.or_none] at dg
    have xx : Ext H M μ H4 M4 μ4 := ((((Ext.lay hp0).trans x2).again hp0).trans x3).trans x4
    cases hz : (kk.zip ds).lookup x with
    | some d =>
      obtain ⟨v, b1, b2⟩ := zip_val r5 hz
      rw [b1] at dg
      refine ⟨some v, by rw [show w = kV (Sum.inr x) from r3]; exact dg, ?_⟩
      dsimp only at hp4
      rw [hz] at hp4
      exact hp4.go xx s5 b2
    | none =>
      have b1 : valV ((kk.zip vs).map fun q => ((Sum.inr q.1 : Key), q.2)) (.inr x) = none := zip_none r5 hz
      rw [b1] at dg
      refine ⟨none, by rw [show w = kV (Sum.inr x) from r3]; exact dg, ?_⟩
      dsimp only at hp4
      rw [hz] at hp4
      exact hp4.go xx s5 r4
  | _ => exact False.elim hp4
where
  zip_none {K : PySem.W.Frag} {H : Hp} {M : Addr → Prop} {μ : List Addr} {z : Str} : ∀ {kk : List Str} {ds : List D} {vs : List V}, RepL K H M μ ds vs → (kk.zip ds).lookup z = none → valV ((kk.zip vs).map fun q => ((Sum.inr q.1 : Key), q.2)) (.inr z) = none
    | [], _, _, _, _ => rfl
    | k :: ks, [], _, r, _ => by rw [show _ = _ from r]; rfl
    | k :: ks, d0 :: ds, _, r, h => by
      obtain ⟨v, w, rfl, r1, r2⟩ := r
      rw [List.zip_cons_cons, List.lookup_cons] at h
      rw [List.zip_cons_cons, List.map_cons]
      by_cases e : z = k
      · subst e
        simp at h
      · have hb : (z == k) = false := by simpa using e
        rw [hb] at h
        rw [valV_neg (fun q => e (Sum.inr.inj q).symm)]
        exact zip_none (kk := ks) r2 h
/-- a text walked, or a list, a tuple -/
theorem src_chars {s : Str} {H : Hp} {M : Addr → Prop} {μ : List Addr} : Src X.K (Its s) (charsL s) [] H M μ := by
  intro H' M' μ' S' x hS' hg i
  have hl : (charsL s).length = s.cps.size := by simp [charsL]
  refine ⟨fun hi => by rw [hl] at hi; exact Nat.le_of_eq hi.symm, fun d' hd => ?_⟩
  have hn : i < s.cps.size := by rw [← hl]; exact (List.getElem?_eq_some_iff.mp hd).1
  refine ⟨hn, fun y H2 hy => ?_⟩
  obtain ⟨rfl, c, hc, rfl⟩ := hy
  have : (charsL s)[i]? = some (.str ⟨#[c]⟩) := by simp [charsL, hc]
  rw [this] at hd
  cases hd
  exact ⟨.refl, hS', rfl⟩
abbrev sChars (f : Sl → Ev.Sto → R D) : Sl → Ev.Sto → R (List D × List (Nat × List D)) := fun σ S => (f σ S).bind fun x S1 => match x with
    | .str s => .ok (charsL s, []) S1
    | x => (R.of (seqD S1 x) S1).bind fun l S1 => .ok (l, srcG x S1) S1
theorem i_chars (he : PE X e (tE X.K f)) : PI X tg e (tI X.K (sChars f)) := by
  refine ⟨fun pins s σ H RR I h => ?_⟩
  obtain ⟨σd, S, M, μ, hS, hσ, hp⟩ := h
  refine thn (he.run pins s σ H (fun v H1 => (∃ x, v = .str x ∧ RR (Its x) H1) ∨ ∃ a, v = .ref a ∧ ((∃ vs, SqL X.K H1 a vs) ∧ RR (Itl X.K a) H1 ∨ (∃ vs, SqT X.K H1 a vs) ∧ RR (Itt X.K a) H1)) I ⟨σd, S, M, μ, hS, hσ, hp.seq fun x S1 v H1 M1 μ1 e1 x1 s1 r1 hp => ?_⟩) fun u s1 ⟨v, H1, I1, ru, q⟩ => ?_
  · have rest : Post (RS X.K) X.K ((R.of (seqD S1 x) S1).bind fun l S1 => .ok (l, srcG x S1) S1) H1 M1 μ1 RR → (∃ a, v = .ref a ∧ ((∃ vs, SqL X.K H1 a vs) ∧ RR (Itl X.K a) H1 ∨ (∃ vs, SqT X.K H1 a vs) ∧ RR (Itt X.K a) H1)) := fun hp => by
      obtain ⟨l, hz, hp⟩ := hp.of
      obtain ⟨c, vs, rfl, h1, h2⟩ := rep_seq s1 r1 hz
      refine ⟨c, rfl, ?_⟩
      rcases h2 with ⟨h2, h3⟩ | ⟨h2, h3⟩
      · exact .inl ⟨⟨vs, h3⟩, hp.fin s1 (src_itl s1 r1 h2)⟩
      · have z := der_tup h2
        subst z
        exact .inr ⟨⟨vs, h3⟩, hp.fin s1 (src_itt s1 r1)⟩
    cases x with
    | str t => exact .inl ⟨t, r1, Post.fin (Rl := RS X.K) (a := (charsL t, [])) hp s1 src_chars⟩
    | _ => exact .inr (rest hp)
  · rcases q with ⟨x, ev, q⟩ | ⟨c, ev, q⟩
    · subst ev
      obtain ⟨t, rfl⟩ := ru
      cases ha : x.cps.all (· < 128)
      · exact wpAny_pyIter_wide ha (it_new I1 (turn_str _ x t "str_iterator" (.inr rfl)) ⟨_, Heap.get?_push_size _ rfl, rfl, rfl⟩ q)
      · exact wpAny_pyIter_ascii ha (it_new I1 (turn_str _ x t "str_ascii_iterator" (.inl rfl)) ⟨_, Heap.get?_push_size _ rfl, rfl, rfl⟩ q)
    · subst ev
      cases ru
      rcases q with ⟨⟨vs, hq⟩, q⟩ | ⟨⟨vs, hq⟩, q⟩
      · obtain ⟨its, rv, pl, _⟩ := I1.list hq
        exact wpAny_pyIter_list pl.isList (it_new I1 (turn_list c _) ⟨_, Heap.get?_push_size _ rfl, rfl, rfl⟩ q)
      · obtain ⟨its, rv, pl, _⟩ := I1.tuple hq
        exact wpAny_pyIter_tuple (show s1.heap.IsTuple c its.toArray from pl) (it_new I1 (turn_tuple c _) ⟨_, Heap.get?_push_size _ rfl, rfl, rfl⟩ q)
end
end Ev

/-! isinstance with an own class; o[i] op= e. -/
namespace Ev
open PySem PySem.Spec PyProof.Rows L2
section
variable {X : Cx} {Γ : Gam} {k : Nat} {o e i a : Expr} {nm : Str} {pos pos' p : Pos} {f g h : Sl → Ev.Sto → R D}
theorem r_isC {y key : Str} {p2 : Pos} (F : ClsF Γ k X) (hk : Γ.ini y = some key) (hg : Gl X "isinstance") (hm : X.mg "isinstance" = none) (hgy : Gl X y) (hdy : (y == ("__debug__" : Str)) = false) (ha : PE X a (tE X.K f)) (hs : isStar a = false) :
    PE X (.Call (.Name "isinstance" p) [a, .Name y p2] [] pos) (tE X.K fun σ S => (f σ S).bind fun x S1 => isCR Γ x y S1) := by
  obtain ⟨hmy, fa, hmk, _⟩ := F.ini y key hk
  have hT : PE X (.Name y p2) (tC (.ref (clsA X.K y))) := pe_glob hgy hmy rfl hdy
  refine PE.imp (pe_callB call_isi hg hm PyProof.Rows.boot_isinstance (pa_cons ha (pa_cons hT pa_nil) (star_cons hs)) (by decide) (by decide) (star_cons hs)) fun σ H Q h => ?_
  obtain ⟨σd, S, M, μ, hS, hσ, hp⟩ := h
  refine ⟨σd, S, M, μ, hS, hσ, hp.seq fun x S1 v H1 M1 μ1 e1 x1 s1 r1 hp1 => ?_⟩
  clear hp
  unfold isCR at hp1
  split at hp1
  · rename_i c' fl hi
    split at hp1
    · rename_i hc
      obtain ⟨rfl, _⟩ := hc
      obtain ⟨n, rfl, hn⟩ := insAt_loc hi
      obtain ⟨b, dx, vs, e1, e2, gk, gr⟩ := s1.atI hn
      obtain ⟨b', rfl, e1'⟩ := id r1
      rw [e1] at e1'; cases e1'
      have q := F.isi _ _ hk
      exact ⟨.ref b, .ref (clsA X.K c'), _, _, true, rfl, .own _, .base (.ins e2 q.cl q.ha q.hn q.htk q.hm), if_pos (by simp), hp1.fin s1 (show Rep X.K H1 M1 μ1 (.bl true) (.bl true) from rfl)⟩
    · exact False.elim hp1
  · exact False.elim hp1
theorem getL : PGet X (rD2 X.K fun S x y => idxL S x y) := by
  intro pins s σ H x y v u Q I rx ry h
  obtain ⟨S, M, μ, d, e, hS, r1, r2, hp0⟩ := h
  obtain ⟨z, hz, hp⟩ := hp0.ofL
  clear hp0
  simp only [idxL] at hz
  split at hz
  · rename_i l i e1
    obtain ⟨a, vs, rfl, h1, h2⟩ := repF hS r1 e1
    obtain ⟨w, q1, q2⟩ := atI_rep h2 hz
    obtain ⟨its, r, pl, hz⟩ := I.list h1
    obtain rfl : v = .ref a := rx
    obtain rfl : y = .int i := r2
    obtain ⟨t, rfl⟩ := ry
    obtain ⟨j, g1, g2, g3, g4, g5⟩ := atI_get q1
    obtain ⟨w', ew, rw'⟩ := r.get g2
    have hl := r.length
    have hn := line63
    have fin : EP X pins σ Q w' s := ⟨w, H, I, rw', hp.fin hS q2⟩
    by_cases h0 : 0 ≤ i
    · have hj : i.toNat = j := by
        rw [seqIndex_of h0 g5] at g1
        exact Option.some.inj g1
      exact wpAny_getItem_list pl.isList h0 (by omega) (by rw [hj]; simpa using ew) fin
    · have hj : (i + (its.toArray.size : Int)).toNat = j := by
        rw [seqIndex_neg (by omega) g4] at g1
        rw [List.size_toArray, ← hl]
        exact Option.some.inj g1
      exact wpAny_getItem_list_neg pl.isList (by omega) (by rw [List.size_toArray] <;> omega) (by omega) (by rw [hj]; simpa using ew) fin
  · cases hz
theorem s_asub {op : Bop} (hop : augOk op = true) (hX : Cok X) (ho : PE X o (tE X.K f)) (hi : PE X i (tE X.K g)) (he : PE X e (tE X.K h)) (hs : isSlice i = false) :
    PS X (.AugAssign (.Subscript o i pos') (bopO op) e pos) (tS X.K fun σ S => (f σ S).bind fun x S1 => (g σ S1).bind fun j S2 => (R.of (idxL S2 x j) S2).bind fun v S2 => (h σ S2).bind fun y S3 => match v, y with
      | .int a, .int b => (R.of ((intB op a b).map .int) S3).bind fun z S3 => (setD x j z S3).bind fun _ S4 => .ok (.nx σ) S4
      | _, _ => .no) := by
  refine PS.imp (ps_augS ho hi getL he (ipInt op hop) (setR hX.un) (fun ov iv new => by cases i <;> first | rfl | simp [isSlice] at hs)) fun D σ H hh => ?_
  obtain ⟨σd, S, M, μ, hS, hσ, hp⟩ := hh
  refine ⟨σd, S, M, μ, hS, hσ, hp.seqP fun x S1 v H1 M1 μ1 e1 x1 s1 r1 hp => ?_⟩
  refine ⟨σd, S1, M1, μ1, s1, hσ.of hS x1, hp.seqP fun j S2 w H2 M2 μ2 e2 x2 s2 r2 hp => ?_⟩
  obtain ⟨v0, hv0, hp⟩ := hp.of
  refine ⟨S2, M2, μ2, x, j, s2, r1.of s1 x2, r2, ?_⟩
  dsimp only
  rw [hv0]
  intro v3 H3 M3 μ3 x3 s3 r3
  refine ⟨σd, S2, M3, μ3, s3, ((hσ.of hS x1).of s1 x2).of s2 x3, (hp.ext x3).seqP fun y S3 w4 H4 M4 μ4 e4 x4 s4 r4 hp => ?_⟩
  have r3' := r3.of s3 x4
  cases v0 with
  | int a => cases y with
    | int b =>
      dsimp only at hp
      obtain ⟨z, hz, hp⟩ := hp.of
      cases hk : intB op a b with
      | none => rw [hk] at hz; cases hz
      | some c =>
        rw [hk] at hz; cases hz
        refine ⟨a, b, c, r3', r4, hk, ?_⟩
        refine ⟨S3, M4, μ4, x, j, .int c, s4, ((r1.of s1 x2).of s2 x3).of s3 x4, (r2.of s2 x3).of s3 x4, rfl, hp.seqP fun _ S4 _ H5 M5 μ5 e5 x5 s5 _ hp => ?_⟩
        exact hp.fin s5 σ (((((hσ.of hS x1).of s1 x2).of s2 x3).of s3 x4).of s4 x5)
    | _ => exact False.elim hp
  | _ => exact False.elim hp
end
end Ev

/-! All together: what is compiled answers as the evaluator does. -/
namespace Ev
open PySem PySem.Spec PyProof.Rows L2

def bltNames : List Str := ["len", "tuple", "int", "abs", "max", "min", "sum", "all", "any", "repr", "str", "bool", "list", "isinstance", "range", "enumerate", "zip", "sorted", "set"]
/-- where a body stands -/
structure Good (kwp : List (Str × Nat × List Str × List Nat)) (C : CC) (Γ : Gam) (k : Nat) (X : Cx) : Prop where
  ok : Cok X
  N : X.N = C.N
  sc : X.env.scope = C.sc
  kind : C.sc.kind = .function
  room : Room k X.A
  xe : X.xe = fun _ _ => False
  blt : ∀ x ∈ bltNames, x ∉ C.own → X.mg x = none
  glb : ∀ x ∈ C.glb, ∀ d, Γ.glb x = some d → ∃ v u, X.mg x = some u ∧ RelV v u ∧ ∀ H M μ, Rep X.K H M μ d v
  own : ∀ x ∈ C.own, FnV X.prog X.w X.K X.mg X.base kwp k x (Γ.call x)
  cf : ClsF Γ k X
  cls : ∀ c ∈ C.cls, ∃ key, Γ.ini c = some key
  gdt : ∀ x ∈ C.gdt, ∃ l, Γ.gdt x = some l
section
variable {kwp : List (Str × Nat × List Str × List Nat)} {C : CC} {Γ : Gam} {k : Nat} {X : Cx}
theorem Good.pass (G : Good kwp C Γ k X) : PassesOwn (model X.prog X.w) X.A X.env X.xe := by rw [G.xe]; exact PassesOwn.never
theorem Good.gl (G : Good kwp C Γ k X) {x : Str} (h : isGl C.sc x = true) : Gl X x := by
  show X.env.scope.names.lookup x = _
  rw [G.sc]
  simpa [isGl] using h
theorem isVis_vis {sc : Scope} {x : Str} (h : isVis sc x = true) : Vis sc x := by
  simpa [isVis, Vis, or_assoc] using h
theorem isLoc_loc {sc : Scope} {x : Str} (h : isLoc sc x = true) : Loc sc x := by
  simpa [isLoc, L2.Loc] using h
theorem okName_1 {x : Str} (h : okName x = true) : (x == ("__debug__" : Str)) = false ∧ (x == ("__classdict__" : Str)) = false ∧ x ≠ "__name__" := by
  simp only [okName, Bool.and_eq_true, Bool.not_eq_true'] at h
  exact ⟨h.1.1, h.1.2, by simpa using h.2⟩
theorem blt_in {x : Str} {n : Nat} {b : Blt} (h : bltC x n = some b) : x ∈ bltNames := by
  unfold bltC at h
  repeat' split at h
  all_goals first | (cases h; done) | skip
  all_goals (rename_i hc; first | (obtain ⟨rfl, _⟩ := hc; decide) | (cases hc; decide))
theorem ty_in {x : Str} {b : Ty} (h : tyC x = some b) : x ∈ bltNames := by
  unfold tyC at h
  repeat' split at h
  all_goals first | (cases h; done) | skip
  all_goals (rename_i hc; cases hc; decide)
theorem bop_back {o : Operator} {o' : Bop} (h : bopC o = some o') : bopO o' = o := by
  cases o <;> first | (cases h; rfl) | (cases h; done)
/-- in the block of a comprehension -/
theorem Good.blk {own : List (Str × Nat)} (G : Good kwp C Γ k X) (scope : Scope) (ok : BlkOk C.N C.sc scope own) (s : Shared) (H : Hp) (Cn : Addr) (cl : List (Str × Addr)) (fp : List Addr) :
    Good kwp { C with sc := relS scope C.sc, chg := [], ret := false } Γ k (X.blk s H scope (compEnvC scope cl Cn X.env) fp) :=
  ⟨⟨G.ok.calm, G.ok.un, G.ok.nd, G.ok.gd⟩, G.N, by rw [← G.sc]; rfl, ok.kind, G.room, rfl, G.blt, G.glb, G.own, ⟨G.cf.fld, G.cf.mth, G.cf.prp, G.cf.ini, G.cf.low, G.cf.gdt, G.cf.isi⟩, G.cls, G.gdt⟩
theorem blk_targets {x : Str} (scope : Scope) (s : Shared) (H : Hp) (Cn : Addr) (cl : List (Str × Addr)) (fp : List Addr) (h : isLoc scope x = true) :
    Loc (X.blk s H scope (compEnvC scope cl Cn X.env) fp).env.scope x ∧ ((X.blk s H scope (compEnvC scope cl Cn X.env) fp).fn x = true ∨ (X.blk s H scope (compEnvC scope cl Cn X.env) fp).env.scope.names.lookup x = some .local) := by
  have e : (X.blk s H scope (compEnvC scope cl Cn X.env) fp).env.scope = relS scope X.env.scope := rfl
  rw [e]
  rcases isLoc_loc h with h | h
  · have q := lookup_relS_keep (sc := X.env.scope) (by decide) h
    exact ⟨.inl q, .inr q⟩
  · have q := lookup_relS_keep (sc := X.env.scope) (by decide) h
    refine ⟨.inr q, .inl ?_⟩
    show (scope.names.lookup x == some .cell) = true
    rw [h]; rfl
end
/-! ### targets use the block's own slots -/
theorem posOf_inj : ∀ {N : List Str} {x y : Str} {i : Nat}, posOf N x = some i → posOf N y = some i → x = y := fun h1 h2 => by
  have a := posOf_get h1
  rw [posOf_get h2] at a
  exact (Option.some.inj a).symm
theorem own_slot {N : List Str} {scope : Scope} {x : Str} {i : Nat} (h : isLoc scope x = true) (hp : posOf N x = some i) : i ∈ (ownOf N scope).map (·.2) := by
  refine List.mem_map.mpr ⟨(x, i), ?_, rfl⟩
  refine List.mem_filterMap.mpr ?_
  rcases isLoc_loc h with h | h
  · exact ⟨(x, .local), mem_of_lookup h, by simp [hp]⟩
  · exact ⟨(x, .cell), mem_of_lookup h, by simp [hp]⟩
mutual
theorem idx_own {N : List Str} {scope : Scope} : ∀ {n : Nat} {e : Expr} {t : CT}, cT N (fun x => isLoc scope x) n e = some t → ∀ i ∈ idxT t, i ∈ (ownOf N scope).map (·.2)
  | 0, _, _, h => by simp [cT] at h
  | n + 1, .Name x pos, t, h => by
    unfold cT at h
    split at h
    · rename_i ho
      cases hp : posOf N x with
      | none => rw [hp] at h; cases h
      | some i =>
        rw [hp] at h; cases h
        intro j hj
        have e : j = i := by simpa [idxT] using hj
        subst e
        exact own_slot ho hp
    · cases h
  | n + 1, .Tuple es k pos, t, h => by
    unfold cT at h
    cases hts : cTs N (fun x => isLoc scope x) n es with
    | none => rw [hts] at h; cases h
    | some ts =>
      rw [hts] at h; cases h
      exact idxs_own hts
  | n + 1, .BoolOp .., _, h | n + 1, .NamedExpr .., _, h | n + 1, .BinOp .., _, h | n + 1, .UnaryOp .., _, h | n + 1, .Lambda .., _, h | n + 1, .IfExp .., _, h | n + 1, .Dict .., _, h | n + 1, .Set .., _, h | n + 1, .ListComp .., _, h | n + 1, .SetComp .., _, h | n + 1, .DictComp .., _, h | n + 1, .GeneratorExp .., _, h | n + 1, .Await .., _, h | n + 1, .Yield .., _, h | n + 1, .YieldFrom .., _, h | n + 1, .Compare .., _, h | n + 1, .Call .., _, h | n + 1, .FormattedValue .., _, h | n + 1, .JoinedStr .., _, h | n + 1, .Constant .., _, h | n + 1, .Attribute .., _, h | n + 1, .Subscript .., _, h | n + 1, .Starred .., _, h | n + 1, .List .., _, h | n + 1, .Slice .., _, h => by simp [cT] at h
theorem idxs_own {N : List Str} {scope : Scope} : ∀ {n : Nat} {es : List Expr} {ts : CTs}, cTs N (fun x => isLoc scope x) n es = some ts → ∀ i ∈ idxTs ts, i ∈ (ownOf N scope).map (·.2)
  | 0, _, _, h => by simp [cTs] at h
  | n + 1, [], _, h => by
    cases h
    intro i hi
    simp [idxTs] at hi
  | n + 1, e :: es, ts, h => by
    unfold cTs at h
    split at h
    · cases h
    · split at h
      · cases h
      · rename_i t ht
        split at h
        · cases h
        · rename_i ts' hts
          cases h
          intro i hi
          simp only [idxTs, List.mem_append] at hi
          rcases hi with hi | hi
          · exact idx_own ht i hi
          · exact idxs_own hts i hi
end
/-! ### lists of expressions -/
section
variable {kwp : List (Str × Nat × List Str × List Nat)} {C : CC} {Γ : Gam} {k : Nat} {X : Cx} {F : Expr → Option CE}
theorem es_all (hF : ∀ e c, F e = some c → PE X e (tE X.K (evE Γ c))) : ∀ {es : List Expr} {cs : CEs}, mapE F es = some cs → PA X es (tA X.K (evEs Γ cs))
  | [], _, h => by cases h; exact l_nil
  | e :: r, cs, h => by
    unfold mapE at h
    split at h
    · cases h
    · rename_i hs
      split at h
      · cases h
      · rename_i c hc
        split at h
        · cases h
        · rename_i cs' hcs
          cases h
          exact l_cons (by simpa using hs) (hF e c hc) (es_all hF hcs)
theorem mapE_cons {e : Expr} {r : List Expr} {cs : CEs} (h : mapE F (e :: r) = some cs) : isStar e = false ∧ ∃ c cs', F e = some c ∧ mapE F r = some cs' ∧ cs = .cons c cs' := by
  unfold mapE at h
  split at h
  · cases h
  · rename_i hs
    split at h
    · cases h
    · rename_i c hc
      split at h
      · cases h
      · rename_i cs' hcs
        cases h
        exact ⟨by simpa using hs, c, cs', hc, hcs, rfl⟩
theorem mapE_nil {es : List Expr} (h : mapE F es = some .nil) : es = [] := by
  cases es with
  | nil => rfl
  | cons e r => obtain ⟨_, _, _, _, _, z⟩ := mapE_cons h; cases z
theorem mapE_one {es : List Expr} {c : CE} {cs : CEs} (h : mapE F es = some (.cons c cs)) : ∃ e r, es = e :: r ∧ isStar e = false ∧ F e = some c ∧ mapE F r = some cs := by
  cases es with
  | nil => cases h
  | cons e r =>
    obtain ⟨h1, c', cs', h2, h3, h4⟩ := mapE_cons h
    cases h4
    exact ⟨e, r, rfl, h1, h2, h3⟩
theorem as_all (hF : ∀ e c, F e = some c → PE X e (tE X.K (evE Γ c))) : ∀ {es : List Expr} {cs : CAs}, mapA F es = some cs → PA X es (tA X.K (evAs Γ cs))
  | [], _, h => by cases h; exact l_nil
  | e :: r, cs, h => by
    by_cases hs : isStar e = true
    · cases e with
      | Starred a p =>
        unfold mapA at h
        split at h
        · cases h
        · rename_i c hc
          split at h
          · cases h
          · rename_i cs' hcs
            cases h
            exact l_star (hF a c hc) (as_all hF hcs)
      | _ => simp [isStar] at hs
    · have hs' : isStar e = false := by simpa using hs
      have h' : (match F e with
        | none => none
        | some c => match mapA F r with
          | none => none
          | some cs => some (CAs.cons false c cs)) = some cs := by
        cases e <;> first | exact h | simp [isStar] at hs
      split at h'
      · cases h'
      · rename_i c hc
        split at h'
        · cases h'
        · rename_i cs' hcs
          cases h'
          exact l_cons hs' (hF e c hc) (as_all hF hcs)
theorem len_es : ∀ {es : List Expr} {cs : CEs}, mapE F es = some cs → ∀ σ S ds S1, evEs Γ cs σ S = .ok ds S1 → ds.length = es.length
  | [], _, h, σ, S, ds, S1, e => by cases h; cases e; rfl
  | a :: r, cs, h, σ, S, ds, S1, e => by
    obtain ⟨_, c, cs', hc, hcs, rfl⟩ := mapE_cons h
    simp only [evEs] at e
    cases h1 : evE Γ c σ S with
    | ok x S2 =>
      rw [h1] at e
      simp only [R.bind] at e
      cases h2 : evEs Γ cs' σ S2 with
      | ok xs S3 =>
        rw [h2] at e
        cases e
        simp [len_es hcs _ _ _ _ h2]
      | err _ _ _ => rw [h2] at e; cases e
      | no => rw [h2] at e; cases e
    | err _ _ _ => rw [h1] at e; cases e
    | no => rw [h1] at e; cases e
theorem kws_all (hF : ∀ e c, F e = some c → PE X e (tE X.K (evE Γ c))) : ∀ {kws : List Keyword} {cs : CEs}, mapE F (kws.map (·.value)) = some cs → PK X kws (tA X.K (evEs Γ cs))
  | [], _, h => by cases h; exact k_nil
  | ⟨nm, e, p⟩ :: r, cs, h => by
    obtain ⟨_, c, cs', hc, hcs, rfl⟩ := mapE_cons h
    exact k_cons (hF e c hc) (kws_all hF hcs)
theorem kwNames_len : ∀ {kws : List Keyword} {ks : List Str}, kwNames kws = some ks → ks.length = kws.length
  | [], _, h => by cases h; rfl
  | ⟨some x, e, q⟩ :: r, ks, h => by
    cases hr : kwNames r with
    | none => simp [kwNames, hr] at h
    | some ks' =>
      simp [kwNames, hr] at h
      subst h
      simp [kwNames_len hr]
  | ⟨none, _, _⟩ :: _, _, h => by simp [kwNames] at h
/-! ### and, or -/
theorem b_one {op : BoolOp} {e : Expr} {pos : Pos} {t : TE} (h : PE X e t) : PE X (.BoolOp op [e] pos) t := ⟨fun pins s σ H Q I q => h.run pins s σ H Q I q⟩
theorem and_all (hF : ∀ e c, F e = some c → PE X e (tE X.K (evE Γ c))) {pos : Pos} : ∀ {es : List Expr} {cs : CEs}, mapE F es = some cs → PE X (.BoolOp .And es pos) (tE X.K (evAnd Γ cs))
  | [], _, h => by
    cases h
    exact ⟨fun pins s σ H Q I h => by
      obtain ⟨_, _, _, _, _, _, hp⟩ := h
      exact False.elim hp⟩
  | [e], cs, h => by
    obtain ⟨_, c, cs', hc, hcs, rfl⟩ := mapE_cons h
    cases hcs
    exact b_one (hF e c hc)
  | e :: e2 :: r, cs, h => by
    obtain ⟨_, c, cs', hc, hcs, rfl⟩ := mapE_cons h
    have ih := and_all hF (pos := pos) hcs
    obtain ⟨_, c2, cs2, hc2, hcs2, rfl⟩ := mapE_cons hcs
    exact r_and (hF e c hc) ih
theorem or_all (hF : ∀ e c, F e = some c → PE X e (tE X.K (evE Γ c))) {pos : Pos} : ∀ {es : List Expr} {cs : CEs}, mapE F es = some cs → PE X (.BoolOp .Or es pos) (tE X.K (evOr Γ cs))
  | [], _, h => by
    cases h
    exact ⟨fun pins s σ H Q I h => by
      obtain ⟨_, _, _, _, _, _, hp⟩ := h
      exact False.elim hp⟩
  | [e], cs, h => by
    obtain ⟨_, c, cs', hc, hcs, rfl⟩ := mapE_cons h
    cases hcs
    exact b_one (hF e c hc)
  | e :: e2 :: r, cs, h => by
    obtain ⟨_, c, cs', hc, hcs, rfl⟩ := mapE_cons h
    have ih := or_all hF (pos := pos) hcs
    obtain ⟨_, c2, cs2, hc2, hcs2, rfl⟩ := mapE_cons hcs
    exact r_or (hF e c hc) ih
abbrev truR (r : R D) : R Bool := r.bind fun x S1 => R.of (truD S1 x) S1
theorem tru_and (c c2 : CE) (cs : CEs) (σ : Sl) (S : Ev.Sto) : truR (evAnd Γ (.cons c (.cons c2 cs)) σ S) = (evT Γ c σ S).bind fun t S1 => if t = true then truR (evAnd Γ (.cons c2 cs) σ S1) else .ok false S1 := by
  simp only [truR, evAnd, evT, bind_assoc]
  refine bind_congr fun x S1 => ?_
  cases ht : truD S1 x with
  | none => rfl
  | some t =>
    cases t with
    | true => simp [R.of, R.bind]
    | false => simp [R.of, R.bind, ht]
theorem tru_or (c c2 : CE) (cs : CEs) (σ : Sl) (S : Ev.Sto) : truR (evOr Γ (.cons c (.cons c2 cs)) σ S) = (evT Γ c σ S).bind fun t S1 => if t = true then .ok true S1 else truR (evOr Γ (.cons c2 cs) σ S1) := by
  simp only [truR, evOr, evT, bind_assoc]
  refine bind_congr fun x S1 => ?_
  cases ht : truD S1 x with
  | none => rfl
  | some t =>
    cases t with
    | true => simp [R.of, R.bind, ht]
    | false => simp [R.of, R.bind]
theorem andT_all (hF : ∀ e c, F e = some c → PT X e (tT X.K (evT Γ c))) {pos : Pos} : ∀ {e : Expr} {es : List Expr} {cs : CEs}, mapE F (e :: es) = some cs → PW X (.BoolOp .And (e :: es) pos) (tT X.K fun σ S => truR (evAnd Γ cs σ S))
  | e, [], cs, h => by
    obtain ⟨_, c, cs', hc, hcs, rfl⟩ := mapE_cons h
    cases hcs
    exact t_and1 (hF e c hc)
  | e, e2 :: r, cs, h => by
    obtain ⟨_, c, cs', hc, hcs, rfl⟩ := mapE_cons h
    have ih := andT_all hF (pos := pos) hcs
    obtain ⟨_, c2, cs2, hc2, hcs2, rfl⟩ := mapE_cons hcs
    have z := t_and (hF e c hc) ih
    rw [show (fun σ S => truR (evAnd Γ (.cons c (.cons c2 cs2)) σ S)) = fun σ S => (evT Γ c σ S).bind fun t S1 => if t = true then truR (evAnd Γ (.cons c2 cs2) σ S1) else .ok false S1 from funext fun σ => funext fun S => tru_and c c2 cs2 σ S]
    exact z
theorem orT_all (hF : ∀ e c, F e = some c → PT X e (tT X.K (evT Γ c))) {pos : Pos} : ∀ {e : Expr} {es : List Expr} {cs : CEs}, mapE F (e :: es) = some cs → PW X (.BoolOp .Or (e :: es) pos) (tT X.K fun σ S => truR (evOr Γ cs σ S))
  | e, [], cs, h => by
    obtain ⟨_, c, cs', hc, hcs, rfl⟩ := mapE_cons h
    cases hcs
    exact t_or1 (hF e c hc)
  | e, e2 :: r, cs, h => by
    obtain ⟨_, c, cs', hc, hcs, rfl⟩ := mapE_cons h
    have ih := orT_all hF (pos := pos) hcs
    obtain ⟨_, c2, cs2, hc2, hcs2, rfl⟩ := mapE_cons hcs
    have z := t_or (hF e c hc) ih
    rw [show (fun σ S => truR (evOr Γ (.cons c (.cons c2 cs2)) σ S)) = fun σ S => (evT Γ c σ S).bind fun t S1 => if t = true then .ok true S1 else truR (evOr Γ (.cons c2 cs2) σ S1) from funext fun σ => funext fun S => tru_or c c2 cs2 σ S]
    exact z
end
end Ev

namespace Ev
open PySem PySem.Spec PyProof.Rows L2
section
variable {kwp : List (Str × Nat × List Str × List Nat)} {C : CC} {Γ : Gam} {k : Nat} {X : Cx} {F : Expr → Option CE}
/-- a built-in's name as the walk needs it -/
theorem bltCall_is {e : Expr} {x : Str} {args : List Expr} (G : Good kwp C Γ k X) (h : bltCall C e = some (x, args)) : ∃ p pos, e = .Call (.Name x p) args [] pos ∧ Gl X x ∧ okName x = true ∧ x ∉ C.own := by
  unfold bltCall at h
  split at h
  · split at h
    · rename_i hc
      cases h
      exact ⟨_, _, rfl, G.gl hc.1, hc.2.2, hc.2.1⟩
    · cases h
  · cases h
/-! ### what one walks -/
theorem i_all (G : Good kwp C Γ k X) (hF : ∀ e c, F e = some c → PE X e (tE X.K (evE Γ c))) {tg e : Expr} {tup : Bool} {i : CI} (ht : tup = true → isTupE tg = true) (h : cI F C tup e = some i) : PI X tg e (tI X.K (evI Γ i)) := by
  unfold cI at h
  have seq : ∀ {i}, (F e).map (seqI C) = some i → PI X tg e (tI X.K (evI Γ i)) := fun {i} h => by
    cases hc : F e with
    | none => rw [hc] at h; cases h
    | some c =>
      rw [hc] at h; cases h
      unfold seqI
      split
      · exact i_chars (hF e c hc)
      · exact i_seq (hF e c hc)
  split at h
  · rename_i x args hb
    obtain ⟨p, pos, rfl, hg, ho, hn⟩ := bltCall_is G hb
    split at h
    · rename_i hx
      subst hx
      have hm := G.blt "range" (by decide) hn
      split at h
      · rename_i a ha
        cases h
        obtain ⟨e, r, rfl, hs, hc, hr⟩ := mapE_one ha
        have := mapE_nil hr; subst this
        exact i_rng1 hg hm (hF _ _ hc) hs
      · rename_i a b ha
        cases h
        obtain ⟨e, r, rfl, hs, hc, hr⟩ := mapE_one ha
        obtain ⟨e2, r, rfl, hs2, hc2, hr⟩ := mapE_one hr
        have := mapE_nil hr; subst this
        exact i_rng2 hg hm (hF _ _ hc) (hF _ _ hc2) hs hs2
      · cases h
    · split at h
      · rename_i hx
        subst hx
        have hm := G.blt "enumerate" (by decide) hn
        split at h
        · rename_i a ha
          split at h
          · rename_i htup
            cases h
            obtain ⟨e, r, rfl, hs, hc, hr⟩ := mapE_one ha
            have := mapE_nil hr; subst this
            have hT := ht htup
            cases tg with
            | Tuple es kk tp => exact i_enum hg hm (hF _ _ hc) hs
            | _ => simp [isTupE] at hT
          · cases h
        · cases h
      · split at h
        · rename_i hx
          subst hx
          have hm := G.blt "zip" (by decide) hn
          split at h
          · rename_i a b ha
            split at h
            · rename_i htup
              cases h
              obtain ⟨e, r, rfl, hs, hc, hr⟩ := mapE_one ha
              obtain ⟨e2, r, rfl, hs2, hc2, hr⟩ := mapE_one hr
              have := mapE_nil hr; subst this
              have hT := ht htup
              cases tg with
              | Tuple es kk tp => exact i_zip hg hm (hF _ _ hc) (hF _ _ hc2) hs hs2
              | _ => simp [isTupE] at hT
            · cases h
          · cases h
        · split at h
          · cases h
          · exact seq h
  · split at h
    · cases h
    · exact seq h
theorem i_noset {tup : Bool} {e : Expr} {i : CI} {env : Env} (h : cI F C tup e = some i) : ∀ x, foldedSetIterable e env x = pure x := by
  intro x
  cases e <;> first | rfl | (unfold cI at h; simp [bltCall, cI.isSet] at h)
/-! ### tests of a clause -/
theorem ifs_all (hF : ∀ e c, F e = some c → PT X e (tT X.K (evT Γ c))) {es : List Expr} {cs : CEs} (h : mapE F es = some cs) (hl : es.length ≤ 1) : PTs X es (tT X.K (evIf Γ cs)) := by
  match es, h, hl with
  | [], h, _ =>
    cases h
    exact ⟨fun pins s σ H Q I h => pts_nil.run pins s σ H Q I (by
      obtain ⟨σd, S, M, μ, hS, hσ, hp⟩ := h
      exact hp.fin hS rfl)⟩
  | [e], h, _ =>
    obtain ⟨_, c, cs', hc, hcs, rfl⟩ := mapE_cons h
    cases hcs
    exact pts_one (hF e c hc)
/-- what makes a new list -/
def Made (kwp : List (Str × Nat × List Str × List Nat)) (n : Nat) : Prop := ∀ (C : CC) (Γ : Gam) (k : Nat) (X : Cx), Good kwp C Γ k X → ∀ (m : Bool) (e : Expr) (c : CE), cE kwp n C m e = some c → PE X e (tE X.K (evE Γ c)) ∧ PT X e (tT X.K (evT Γ c))
theorem f_comp (G : Good kwp C Γ k X) {n : Nat} (ih : Made kwp n) {elt t iter : Expr} {ifs : List Expr} {scope : Scope} {pos : Pos} {t' : CT} {i' : CI} {q : CEs} {c : CE}
    (hb : blkC C.N C.sc scope (ownOf C.N scope) = true) (h1 : cT C.N (fun x => isLoc scope x) 8 t = some t') (h2 : cI (cE kwp n C C.inn) C (isTupE t) iter = some i')
    (h3 : mapE (cE kwp n { C with sc := relS scope C.sc, chg := [], ret := false } C.inn) ifs = some q) (h4 : cE kwp n { C with sc := relS scope C.sc, chg := [], ret := false } C.inn elt = some c) (hl : ifs.length ≤ 1) :
    ∃ wi g tt te, (∀ σ H Q, tF X.K (evF Γ (.comp c t' i' q ((ownOf C.N scope).map (·.2)))) σ H Q → tLc wi g tt te ((ownOf C.N scope).map (·.2)) σ H Q) ∧ BlkOk X.N X.env.scope scope (ownOf C.N scope) ∧ PI X t iter wi ∧
      (∀ (s : Shared) (H : Hp) (Cn : Addr) (cl : List (Str × Addr)) (fp : List Addr), PG (X.blk s H scope (compEnvC scope cl Cn X.env) fp) t g) ∧
      (∀ (s : Shared) (H : Hp) (Cn : Addr) (cl : List (Str × Addr)) (fp : List Addr), PTs (X.blk s H scope (compEnvC scope cl Cn X.env) fp) ifs tt) ∧
      (∀ (s : Shared) (H : Hp) (Cn : Addr) (cl : List (Str × Addr)) (fp : List Addr), PE (X.blk s H scope (compEnvC scope cl Cn X.env) fp) elt te) := by
  have ok := blkOk_by hb
  refine ⟨tI X.K (evI Γ i'), gB X.K t', tT X.K (evIf Γ q), tE X.K (evE Γ c), fun σ H Q h => ?_, by rw [G.N, G.sc]; exact ok, i_all G (fun e c hc => (ih C Γ k X G C.inn e c hc).1) (fun z => z) h2,
    fun s H Cn cl fp => ?_, fun s H Cn cl fp => ?_, fun s H Cn cl fp => ?_⟩
  · exact lc_read (SI := evI Γ i') (FT := evIf Γ q) (fe := evE Γ c) (t := t') (own := (ownOf C.N scope).map (·.2)) (idx_own h1) (fun _ _ _ z => z) (fun _ _ _ z => z) h
  · have G' := G.blk scope ok s H Cn cl fp
    have h1' : cT (X.blk s H scope (compEnvC scope cl Cn X.env) fp).N (fun x => isLoc scope x) 8 t = some t' := by
      show cT X.N _ 8 t = _
      rw [G.N]; exact h1
    exact g_all G'.ok (fun x hx => blk_targets scope s H Cn cl fp hx) h1'
  · have G' := G.blk scope ok s H Cn cl fp
    exact ifs_all (fun e c hc => (ih _ Γ k _ G' C.inn e c hc).2) h3 hl
  · have G' := G.blk scope ok s H Cn cl fp
    exact (ih _ Γ k _ G' C.inn elt c h4).1
theorem f_all (G : Good kwp C Γ k X) {n : Nat} (ih : Made kwp n) {e : Expr} {q : CF} (h : cF (fun C e => cE kwp n C C.inn e) C e = some q) : PE X e (tF X.K (evF Γ q)) := by
  have hF : ∀ e c, cE kwp n C C.inn e = some c → PE X e (tE X.K (evE Γ c)) := fun e c hc => (ih C Γ k X G C.inn e c hc).1
  unfold cF at h
  split at h
  · rename_i elts p
    cases hm : mapA (cE kwp n C C.inn) elts with
    | none => rw [hm] at h; cases h
    | some cs =>
      rw [hm] at h; cases h
      exact f_disp (as_all hF hm)
  · rename_i elt t iter ifs a scope pos
    split at h
    · rename_i hc
      obtain ⟨rfl, hb⟩ := hc
      split at h
      · rename_i t' i' q' c h1 h2 h3 h4
        split at h
        · rename_i hl
          cases h
          obtain ⟨wi, g, tt, te, a1, a2, a3, a4, a5, a6⟩ := f_comp G ih (pos := pos) hb h1 h2 h3 h4 hl
          exact PE.imp (pe_lc G.ok.calm G.ok.nd a3 a2 a4 a5 a6 (i_noset h2)) a1
        · cases h
      · cases h
    · cases h
  · split at h
    · rename_i x a hb
      obtain ⟨p, pos, rfl, hg, ho, hn⟩ := bltCall_is G hb
      split at h
      · cases h
      · rename_i hs
        have hs : isStar a = false := by simpa using hs
        split at h
        · rename_i hx
          subst hx
          have hm := G.blt "list" (by decide) hn
          split at h
          · rename_i hr
            cases hi : cI (cE kwp n C C.inn) C false a with
            | none => rw [hi] at h; cases h
            | some i =>
              rw [hi] at h; cases h
              unfold isRange at hr
              split at hr
              · rename_i y args hy
                have hy' : y = "range" := by simpa using hr
                subst hy'
                obtain ⟨p2, pos2, rfl, hg2, ho2, hn2⟩ := bltCall_is G hy
                have hm2 := G.blt "range" (by decide) hn2
                unfold cI at hi
                rw [hy] at hi
                simp only [if_true] at hi
                split at hi
                · rename_i a' ha
                  cases hi
                  obtain ⟨e, r, rfl, hs1, hc, hr⟩ := mapE_one ha
                  have := mapE_nil hr; subst this
                  exact f_rng1 G.ok hg hm hg2 hm2 (hF _ _ hc) hs1
                · rename_i a' b' ha
                  cases hi
                  obtain ⟨e, r, rfl, hs1, hc, hr⟩ := mapE_one ha
                  obtain ⟨e2, r, rfl, hs2, hc2, hr⟩ := mapE_one hr
                  have := mapE_nil hr; subst this
                  exact f_rng2 G.ok hg hm hg2 hm2 (hF _ _ hc) (hF _ _ hc2) hs1 hs2
                · cases hi
              · cases hr
          · dsimp only at h
            cases hc : cE kwp n C C.inn a with
            | none => rw [hc] at h; cases h
            | some c =>
              rw [hc] at h; cases h
              exact f_list hg hm (hF _ _ hc) hs
        · split at h
          · rename_i hx
            subst hx
            have hm := G.blt "sorted" (by decide) hn
            split at h
            · rename_i b hsa
              dsimp only at h
              cases hc : cE kwp n C C.inn b with
              | none => rw [hc] at h; cases h
              | some c =>
                rw [hc] at h; cases h
                unfold setIn at hsa
                split at hsa
                · rename_i y a2 hy
                  split at hsa
                  · rename_i hc2
                    cases hsa
                    obtain ⟨rfl, hs2⟩ := hc2
                    obtain ⟨p2, pos2, rfl, hg2, ho2, hn2⟩ := bltCall_is G hy
                    exact f_srtSet G.ok hg hm hg2 (G.blt "set" (by decide) hn2) (hF _ _ hc) hs2
                  · cases hsa
                · cases hsa
            · dsimp only at h
              cases hc : cE kwp n C C.inn a with
              | none => rw [hc] at h; cases h
              | some c =>
                rw [hc] at h; cases h
                exact f_sorted G.ok hg hm (hF _ _ hc) hs
          · cases h
    · cases h
end
end Ev

namespace Ev
open PySem PySem.Spec PyProof.Rows L2
def plainT : Expr → Bool
  | .UnaryOp .Not _ _ => false
  | .BoolOp .. => false
  | .IfExp .. => false
  | .Compare .. => false
  | _ => true
theorem isTrue_as {e : Expr} {env : Env} (h : plainT e = true) : ∀ whole, isTrue e env whole = (do let v ← whole; standAt e.pos; holding [v] (truthy v)) := by
  intro whole
  cases e with
  | UnaryOp o _ _ => cases o <;> first | rfl | simp [plainT] at h
  | _ => first | rfl | simp [plainT] at h
section
variable {kwp : List (Str × Nat × List Str × List Nat)} {C : CC} {Γ : Gam} {k : Nat} {X : Cx}
theorem both_plain {e : Expr} {c : CE} (h : PE X e (tE X.K (evE Γ c))) (hp : plainT e = true) : PE X e (tE X.K (evE Γ c)) ∧ PT X e (tT X.K (evT Γ c)) :=
  ⟨h, t_truth h (isTrue_as hp)⟩
theorem f_plain {F : CC → Expr → Option CE} {e : Expr} {q : CF} (h : cF F C e = some q) : plainT e = true := by
  unfold cF at h
  split at h
  · rfl
  · rfl
  · split at h
    · rename_i x a hb
      unfold bltCall at hb
      split at hb
      · rfl
      · cases hb
    · cases h
theorem call_all (G : Good kwp C Γ k X) {F : Expr → Option CE} (hF : ∀ e c, F e = some c → PE X e (tE X.K (evE Γ c))) {x : Str} {p pos : Pos} {args : List Expr} {cs : CEs} (hg : isGl C.sc x = true) (ho : okName x = true) (hx : x ∈ C.own) (h : mapE F args = some cs) :
    PE X (.Call (.Name x p) args [] pos) (tE X.K (evE Γ (.call x cs))) := by
  have Fv := G.own x hx
  cases args with
  | nil =>
    cases h
    exact r_call0 G.ok G.room Fv (G.gl hg) (okName_1 ho).1
  | cons e r =>
    have h' := h
    obtain ⟨hs, c, cs', hc, hcs, rfl⟩ := mapE_cons h
    exact r_call G.ok G.room Fv (G.gl hg) (okName_1 ho).1 (es_all hF h') (any_mapE hcs) hs
theorem callK_all (G : Good kwp C Γ k X) {F : Expr → Option CE} (hF : ∀ e c, F e = some c → PE X e (tE X.K (evE Γ c))) {x : Str} {p pos : Pos} {args : List Expr} {kws : List Keyword} {cs vs : CEs} {ks : List Str} {perm : List Nat} (hg : isGl C.sc x = true) (ho : okName x = true) (hx : x ∈ C.own)
    (h : mapE F args = some cs) (hk : kwNames kws = some ks) (hv : mapE F (kws.map (·.value)) = some vs) (hin : (x, args.length, ks, perm) ∈ kwp) : PE X (.Call (.Name x p) args kws pos) (tE X.K (evE Γ (.callK x cs vs perm))) := by
  have Fv := G.own x hx
  refine r_callK (n := args.length) (ks := ks) (perm := perm) G.ok G.room Fv (G.gl hg) (okName_1 ho).1 (es_all hF h) (fun σ S ds S1 e => len_es h _ _ _ _ e) (fun σ S ds S1 e => by rw [len_es hv _ _ _ _ e, kwNames_len hk]; simp) (any_mapE h) (fun e r er => ?_) (fun er σ S => ?_) (kws_all hF hv) hk hin
  · subst er; exact (mapE_cons h).1
  · subst er; cases h; rfl
theorem recv_base {o : Expr} {nm : Str} {env : Env} (h : recvOk o = true) : attributeBase o nm env (eval o env) = eval o env := by
  cases o with
  | Call f args kws p =>
    cases args with
    | nil => simp [recvOk] at h
    | cons a r => cases f <;> rfl
  | _ => first | rfl | simp [recvOk] at h
theorem plain_recv {o : Expr} (h : plainRecv o = true) : recvOk o = true := by
  cases o <;> first | rfl | simp [plainRecv] at h
theorem mcall_all (G : Good kwp C Γ k X) {F : Expr → Option CE} (hF : ∀ e c, F e = some c → PE X e (tE X.K (evE Γ c))) {o : Expr} {x : Str} {p q : Pos} {args : List Expr} {o' : CE} {cs : CEs} (ho : F o = some o') (h : mapE F args = some cs) (hr : recvOk o = true) (hl : (p.endLine == q.line) = true) (hn : args.length < 29) :
    PE X (.Call (.Attribute o x p) args [] q) (tE X.K (evE Γ (.mcall x o' cs))) := by
  cases args with
  | nil =>
    cases h
    exact r_mcall0 G.ok G.room G.cf (hF _ _ ho) (recv_base hr) hl
  | cons e r =>
    have h' := h
    obtain ⟨hs, c, cs', hc, hcs, rfl⟩ := mapE_cons h
    exact r_mcall G.ok G.room G.cf (hF _ _ ho) (recv_base hr) (es_all hF h') hs (any_mapE hcs) hn hl
theorem smC_is {x : Str} {m : Mth} (h : smC x = some m) : (x = "split" ∧ m = .split) ∨ (x = "join" ∧ m = .join) ∨ (x = "index" ∧ m = .index) := by
  unfold smC at h
  repeat' split at h
  all_goals first | (cases h; done) | skip
  · cases h; rename_i e; exact .inl ⟨e, rfl⟩
  · cases h; rename_i e; exact .inr (.inl ⟨e, rfl⟩)
  · cases h; rename_i e; exact .inr (.inr ⟨e, rfl⟩)
theorem sm_all (G : Good kwp C Γ k X) {F : Expr → Option CE} (hF : ∀ e c, F e = some c → PE X e (tE X.K (evE Γ c))) {o : Expr} {x : Str} {p q : Pos} {args : List Expr} {o' a : CE} {m : Mth} (hm : smC x = some m) (ho : F o = some o') (h : mapE F args = some (.cons a .nil)) (hr : recvOk o = true) (hl : (p.endLine == q.line) = true) :
    PE X (.Call (.Attribute o x p) args [] q) (tE X.K (evE Γ (.sm m o' a))) := by
  obtain ⟨e, r, rfl, hs, hcA, hrr⟩ := mapE_one h
  have := mapE_nil hrr; subst this
  rcases smC_is hm with ⟨rfl, rfl⟩ | ⟨rfl, rfl⟩ | ⟨rfl, rfl⟩
  · exact r_split (hF _ _ ho) (hF _ _ hcA) (recv_base hr) hl hs
  · exact r_join (hF _ _ ho) (hF _ _ hcA) (recv_base hr) hl hs
  · exact r_index G.ok (hF _ _ ho) (hF _ _ hcA) (recv_base hr) hl hs
theorem mk_all (G : Good kwp C Γ k X) {F : Expr → Option CE} (hF : ∀ e c, F e = some c → PE X e (tE X.K (evE Γ c))) {x : Str} {p pos : Pos} {args : List Expr} {cs : CEs} (hg : isGl C.sc x = true) (ho : okName x = true) (hx : x ∈ C.cls) (h : mapE F args = some cs) :
    PE X (.Call (.Name x p) args [] pos) (tE X.K (evE Γ (.mk x cs))) := by
  obtain ⟨key, hk⟩ := G.cls x hx
  cases args with
  | nil =>
    cases h
    exact r_mk0 G.ok G.room G.cf hk (G.gl hg) (okName_1 ho).1
  | cons e r =>
    have h' := h
    obtain ⟨hs, c, cs', hc, hcs, rfl⟩ := mapE_cons h
    exact r_mk G.ok G.room G.cf hk (G.gl hg) (okName_1 ho).1 (es_all hF h') hs (any_mapE hcs)
theorem glName_is {e : Expr} {x : Str} (G : Good kwp C Γ k X) (h : glName C e = some x) : ∃ p l, e = .Name x p ∧ Gl X x ∧ okName x = true ∧ Γ.gdt x = some l := by
  unfold glName at h
  split at h
  · split at h
    · rename_i hc
      cases h
      obtain ⟨l, hl⟩ := G.gdt _ hc.2.2
      exact ⟨_, l, rfl, G.gl hc.1, hc.2.1, hl⟩
    · cases h
  · cases h
theorem con_all {e : Expr} {d : D} {v : V} (he : PE X e (tC v)) (hr : ∀ H M μ, Rep X.K H M μ d v) (hp : plainT e = true) : PE X e (tE X.K (evE Γ (.con d))) ∧ PT X e (tT X.K (evT Γ (.con d))) := both_plain (r_con he hr) hp
theorem made_all : ∀ n, Made kwp n
  | 0, C, Γ, k, X, G, m, e, c, h => by simp [cE] at h
  | n + 1, C, Γ, k, X, G, m, e, c, h => by
    have ih := made_all n
    have hF : ∀ e c, cE kwp n C C.inn e = some c → PE X e (tE X.K (evE Γ c)) := fun e c hc => (ih C Γ k X G C.inn e c hc).1
    have hT : ∀ e c, cE kwp n C C.inn e = some c → PT X e (tT X.K (evT Γ c)) := fun e c hc => (ih C Γ k X G C.inn e c hc).2
    unfold cE at h
    dsimp only at h
    split at h
    · rename_i q hq
      cases h
      refine both_plain ?_ (f_plain hq)
      unfold fromF
      split
      · exact r_mu (f_all G ih hq)
      · exact r_fr (f_all G ih hq)
    split at h
    · cases h; exact con_all pe_non (fun _ _ _ => rfl) rfl
    · cases h; exact con_all pe_bl (fun _ _ _ => rfl) rfl
    · cases h; exact con_all pe_int (fun _ _ _ => rfl) rfl
    · cases h; exact con_all pe_str (fun _ _ _ => rfl) rfl
    · -- a name
      rename_i x p _
      split at h
      · rename_i ho
        obtain ⟨o1, o2, o3⟩ := okName_1 ho
        split at h
        · rename_i hv
          cases hp : posOf C.N x with
          | none => rw [hp] at h; cases h
          | some i =>
            rw [hp] at h; cases h
            refine both_plain ?_ rfl
            exact r_var (by rw [G.N]; exact posOf_get hp) (by rw [G.sc]; exact isVis_vis hv) o1 o2
        · split at h
          · rename_i hg
            cases h
            refine both_plain ?_ rfl
            show PE X _ (tE X.K fun _ S => R.of (Γ.glb x) S)
            cases hd : Γ.glb x with
            | none => exact ⟨fun pins s σ H Q I h => by
                obtain ⟨_, _, _, _, _, _, hp⟩ := h
                exact False.elim hp⟩
            | some d =>
              obtain ⟨v, u, g1, g2, g3⟩ := G.glb x hg.2 d hd
              exact r_con (pe_glob (G.gl hg.1) g1 g2 o1) g3
          · cases h
      · cases h
    · -- xs + ys
      rename_i a b p _
      split at h
      · rename_i a' b' h2 h3
        split at h
        · cases h
          exact both_plain (r_mu (f_cat (hF _ _ h2) (hF _ _ h3))) rfl
        · cases h
          exact both_plain (r_bin .add (hF _ _ h2) (hF _ _ h3)) rfl
      · cases h
    · -- a + b
      rename_i a o b p _ _
      split at h
      · rename_i o' a' b' h1 h2 h3
        cases h
        have z := r_bin (pos := p) o' (hF _ _ h2) (hF _ _ h3)
        rw [bop_back h1] at z
        exact both_plain z rfl
      · cases h
    · rename_i a p _
      cases hc : cE kwp n C C.inn a with
      | none => rw [hc] at h; cases h
      | some a' => rw [hc] at h; cases h; exact both_plain (r_neg (hF _ _ hc)) rfl
    · rename_i a p _
      cases hc : cE kwp n C C.inn a with
      | none => rw [hc] at h; cases h
      | some a' =>
        rw [hc] at h; cases h
        refine ⟨r_not (hF _ _ hc), PT.imp (t_not (hT _ _ hc)) fun σ H Q q => ?_⟩
        have e : (fun σ S => evT Γ (.not a') σ S) = fun σ S => (evT Γ a' σ S).bind fun x S1 => .ok (!x) S1 := by
          funext σ S
          simp only [evT, evE, bind_assoc]
          refine bind_congr fun x S1 => ?_
          cases truD S1 x <;> rfl
        have e' : evT Γ (.not a') = fun σ S => (evT Γ a' σ S).bind fun x S1 => .ok (!x) S1 := e
        rw [← e']; exact q
    · -- a < b
      rename_i a o b p _
      split at h
      · cases h
      · rename_i hm
        have hm : behindInMarks o b = false := by simpa using hm
        split at h
        · rename_i x n a' h1 h2
          cases h
          unfold inDict at h1
          split at h1
          · cases hn : glName C b with
            | none => rw [hn] at h1; cases h1
            | some y =>
              rw [hn] at h1; cases h1
              obtain ⟨p2, l, rfl, g1, g2, g3⟩ := glName_is G hn
              exact r_dnG (neg := false) rfl G.cf g3 g1 (okName_1 g2).1 (hF _ _ h2) hm
          · cases hn : glName C b with
            | none => rw [hn] at h1; cases h1
            | some y =>
              rw [hn] at h1; cases h1
              obtain ⟨p2, l, rfl, g1, g2, g3⟩ := glName_is G hn
              exact r_dnG (neg := true) rfl G.cf g3 g1 (okName_1 g2).1 (hF _ _ h2) hm
          · cases h1
        split at h
        · rename_i a' b' h1 h2
          cases h
          refine ⟨r_cmp G.ok o hm (hF _ _ h1) (hF _ _ h2), PT.imp (r_cmpT G.ok o hm (hF _ _ h1) (hF _ _ h2)) fun σ H Q q => ?_⟩
          have e : evT Γ (.cmp (copC o) a' b') = fun σ S => (evE Γ a' σ S).bind fun x S1 => (evE Γ b' σ S1).bind fun y S2 => R.of (cmpD S2 (copC o) x y) S2 := by
            funext σ S
            simp only [evT, evE, bind_assoc]
            refine bind_congr fun x S1 => bind_congr fun y S2 => ?_
            cases cmpD S2 (copC o) x y <;> rfl
          rw [← e]; exact q
        · cases h
    · -- a field
      rename_i o x p _
      split at h
      · rename_i hr
        cases hc : cE kwp n C C.inn o with
        | none => rw [hc] at h; cases h
        | some o' => rw [hc] at h; cases h; exact both_plain (r_fld G.ok G.room G.cf (hF _ _ hc) (recv_base hr)) rfl
      · cases h
    · -- a < b < c
      rename_i a o1 o2 b c p _
      split at h
      · cases h
      · rename_i n1
        split at h
        · rename_i a' b' c' h1 h2 h3
          cases h
          refine ⟨r_chn G.ok o1 o2 (hF _ _ h1) (hF _ _ h2) (hF _ _ h3) n1, PT.imp (r_chnT G.ok o1 o2 (hF _ _ h1) (hF _ _ h2) (hF _ _ h3) n1) fun σ H Q q => ?_⟩
          have e : evT Γ (.chn (copC o1) (copC o2) a' b' c') = fun σ S => (evE Γ a' σ S).bind fun x S1 => (evE Γ b' σ S1).bind fun y S2 => (R.of (cmpD S2 (copC o1) x y) S2).bind fun t S2 =>
              if t = true then (evE Γ c' σ S2).bind fun z S3 => R.of (cmpD S3 (copC o2) y z) S3 else .ok false S2 := by
            funext σ S
            simp only [evT, evE, bind_assoc]
            refine bind_congr fun x S1 => bind_congr fun y S2 => bind_congr fun t S3 => ?_
            cases t with
            | true =>
              simp only [if_true, bind_assoc]
              refine bind_congr fun z S4 => ?_
              cases cmpD S4 (copC o2) y z <;> rfl
            | false => rfl
          rw [← e]; exact q
        · cases h
    · rename_i es p _
      cases hc : mapE (cE kwp n C C.inn) es with
      | none => rw [hc] at h; cases h
      | some cs =>
        rw [hc] at h; cases h
        refine ⟨and_all hF hc, ?_⟩
        cases es with
        | nil =>
          cases hc
          exact ⟨fun pins s σ H Q I h => by
            obtain ⟨_, _, _, _, _, _, hp⟩ := h
            exact False.elim hp⟩
        | cons e r => exact (andT_all hT hc).pt
    · rename_i es p _
      cases hc : mapE (cE kwp n C C.inn) es with
      | none => rw [hc] at h; cases h
      | some cs =>
        rw [hc] at h; cases h
        refine ⟨or_all hF hc, ?_⟩
        cases es with
        | nil =>
          cases hc
          exact ⟨fun pins s σ H Q I h => by
            obtain ⟨_, _, _, _, _, _, hp⟩ := h
            exact False.elim hp⟩
        | cons e r => exact (orT_all hT hc).pt
    · rename_i c0 a b p _
      split at h
      · rename_i c' a' b' h1 h2 h3
        cases h
        have e1 : evE Γ (.ite c' a' b') = fun σ S => (evT Γ c' σ S).bind fun t S1 => if t = true then evE Γ a' σ S1 else evE Γ b' σ S1 := by
          funext σ S
          simp only [evT, evE, bind_assoc]
        have e2 : evT Γ (.ite c' a' b') = fun σ S => (evT Γ c' σ S).bind fun t S1 => if t = true then evT Γ a' σ S1 else evT Γ b' σ S1 := by
          funext σ S
          show ((evE Γ (.ite c' a' b')) σ S).bind _ = _
          rw [e1]
          simp only [bind_assoc]
          refine bind_congr fun t S1 => ?_
          cases t <;> rfl
        refine ⟨?_, ?_⟩
        · rw [e1]; exact r_ite (hT _ _ h1) (hF _ _ h2) (hF _ _ h3)
        · rw [e2]; exact t_ite (hT _ _ h1) (hT _ _ h2) (hT _ _ h3)
      · cases h
    · rename_i es k0 p _
      cases hc : mapA (cE kwp n C C.inn) es with
      | none => rw [hc] at h; cases h
      | some cs => rw [hc] at h; cases h; exact both_plain (r_tup (as_all hF hc)) rfl
    · split at h
      · cases h
        exact both_plain r_newD rfl
      · cases h
        exact both_plain r_emp rfl
    · rename_i keys vals dpos _ _
      split at h
      · rename_i kk vs' h1 h2
        split at h
        · rename_i hl
          cases h
          exact both_plain (r_mkD hF h1 h2 hl) rfl
        · cases h
      · cases h
    · rename_i keys vals dpos i p _
      split at h
      · cases h
      · rename_i hs
        split at h
        · rename_i kk vs' i' h1 h2 h3
          split at h
          · rename_i hl
            cases h
            exact both_plain (r_pick G.ok hF h1 h2 h3 (by simpa using hs) hl) rfl
          · cases h
        · cases h
    · rename_i a _ _ _ _ _ _ _
      cases hc : cE kwp n C C.inn a with
      | none => rw [hc] at h; cases h
      | some a' => rw [hc] at h; cases h; exact both_plain (r_rev (hF _ _ hc)) rfl
    · rename_i a lo hi p2 p _ _ _
      split at h
      · rename_i a' l' h' h1 h2 h3
        cases h
        have part : ∀ {o : Option Expr} {c : CO}, cE.optE (cE kwp n C C.inn) o = some c → PO X o (tO X.K (evO Γ c)) := fun {o c} hh => by
          cases o with
          | none => cases hh; exact o_no
          | some e =>
            have hh : (cE kwp n C C.inn e).map CO.so = some c := hh
            cases hc : cE kwp n C C.inn e with
            | none => rw [hc] at hh; cases hh
            | some z => rw [hc] at hh; cases hh; exact o_so (hF _ _ hc)
        exact both_plain (r_slc (hF _ _ h1) (part h2) (part h3)) rfl
      · cases h
    · rename_i a i p _ _ _ _
      split at h
      · cases h
      · rename_i hs
        split at h
        · rename_i x i' h1 h2
          cases h
          obtain ⟨p2, l, rfl, g1, g2, g3⟩ := glName_is G h1
          exact both_plain (r_dgG G.cf g3 g1 (okName_1 g2).1 (hF _ _ h2) (by simpa using hs)) rfl
        split at h
        · rename_i a' i' h1 h2
          cases h
          exact both_plain (r_idx G.ok (by simpa using hs) (hF _ _ h1) (hF _ _ h2)) rfl
        · cases h
    · -- methods
      rename_i o x p args q _
      split at h
      · rename_i hc
        obtain ⟨hr, hl, hn29⟩ := hc
        split at h
        · rename_i hx
          subst hx
          split at h
          · rename_i a
            split at h
            · cases h
            · rename_i hs
              split at h
              · rename_i _ o' q' h1 h2
                cases h
                exact both_plain (r_ext (hF _ _ h1) (f_all G ih h2) hr hl (by simpa using hs)) rfl
              · rename_i o' a' h1 h2 h3
                cases h
                exact both_plain (r_extE (hF _ _ h1) (hF _ _ h3) hr hl (by simpa using hs)) rfl
              · cases h
          · cases h
        split at h
        · rename_i o' a h1 h2 h3
          cases h
          obtain ⟨e, r, rfl, hs, hcA, hrr⟩ := mapE_one h3
          have := mapE_nil hrr; subst this
          have hx : x = "append" := by
            unfold mthC at h1
            repeat' split at h1
            all_goals first | assumption | cases h1
          subst hx
          exact both_plain (r_append (hF _ _ h2) (hF _ _ hcA) hr hl hs) rfl
        · rename_i o' a h1 h2 h3
          cases h
          obtain ⟨e, r, rfl, hs, hcA, hrr⟩ := mapE_one h3
          have := mapE_nil hrr; subst this
          have hx : x = "pop" := by
            unfold mthC at h1
            repeat' split at h1
            all_goals first | assumption | cases h1
          subst hx
          exact both_plain (r_pop1 (hF _ _ h2) (hF _ _ hcA) hr hl hs) rfl
        · rename_i o' as' h1 h2 h3
          split at h
          · cases h
            exact both_plain (mcall_all G hF h2 h3 (plain_recv hr) hl hn29) rfl
          · split at h
            · rename_i m a hm
              cases h
              exact both_plain (sm_all G hF hm h2 h3 (plain_recv hr) hl) rfl
            · cases h
        · cases h
      · split at h
        · rename_i hc
          obtain ⟨hr, hl, hn29, hm0⟩ := hc
          split at h
          · rename_i o' as' h2 h3
            split at h
            · cases h
              exact both_plain (mcall_all G hF h2 h3 hr hl hn29) rfl
            · split at h
              · rename_i m a hm
                cases h
                exact both_plain (sm_all G hF hm h2 h3 hr hl) rfl
              · cases h
          · cases h
        · split at h
          · rename_i ks vs i d hg
            split at h
            · rename_i hc
              obtain ⟨hl, hsi, hsd⟩ := hc
              split at h
              · rename_i kk vs' i' d' h1 h2 h3 h4
                split at h
                · rename_i hk
                  cases h
                  unfold getDict at hg
                  split at hg
                  · rename_i hx
                    subst hx
                    split at hg
                    · cases hg
                      exact both_plain (r_pickG G.ok hF h1 h2 h3 h4 hsi hsd hk hl) rfl
                    · cases hg
                  · cases hg
                · cases h
              · cases h
            · cases h
          · cases h
    · -- calls
      rename_i x p args pos _
      split at h
      · rename_i hc
        obtain ⟨hg, ho⟩ := hc
        obtain ⟨o1, o2, o3⟩ := okName_1 ho
        split at h
        · rename_i hx
          cases hm : mapE (cE kwp n C C.inn) args with
          | none => rw [hm] at h; cases h
          | some cs => rw [hm] at h; cases h; exact both_plain (call_all G hF hg ho hx hm) rfl
        rename_i hx
        split at h
        · rename_i hcl
          cases hm : mapE (cE kwp n C C.inn) args with
          | none => rw [hm] at h; cases h
          | some cs => rw [hm] at h; cases h; exact both_plain (mk_all G hF hg ho hcl hm) rfl
        · skip
          split at h
          · rename_i hi
            subst hi
            split at h
            · rename_i a t p2 _
              split at h
              · rename_i hc
                obtain ⟨hgt, hot, hnt, hs⟩ := hc
                obtain ⟨t1, t2, t3⟩ := okName_1 hot
                split at h
                · rename_i a' t' h1 h2
                  cases h
                  exact both_plain (r_isi h2 (G.gl hg) (G.blt _ (by decide) hx) (G.gl hgt) (G.blt _ (ty_in h2) hnt) t3 t1 (hF _ _ h1) hs) rfl
                · rename_i a' h1 h2
                  split at h
                  · rename_i hcl2
                    cases h
                    obtain ⟨key, hk⟩ := G.cls _ hcl2
                    exact both_plain (r_isC G.cf hk (G.gl hg) (G.blt _ (by decide) hx) (G.gl hgt) t1 (hF _ _ h1) hs) rfl
                  · cases h
                · cases h
              · cases h
            · rename_i a t p2 u p3 kk pt _
              split at h
              · rename_i hc
                obtain ⟨hgt, hot, hnt, hs, hgu, hou, hnu⟩ := hc
                obtain ⟨t1, t2, t3⟩ := okName_1 hot
                obtain ⟨u1, u2, u3⟩ := okName_1 hou
                split at h
                · rename_i a' t' u' h1 h2 h3
                  cases h
                  exact both_plain (r_isi2 h2 h3 (G.gl hg) (G.blt _ (by decide) hx) (G.gl hgt) (G.blt _ (ty_in h2) hnt) t3 t1 (G.gl hgu) (G.blt _ (ty_in h3) hnu) u3 u1 (hF _ _ h1) hs) rfl
                · cases h
              · cases h
            · cases h
          · split at h
            · rename_i ht
              obtain ⟨rfl, hr⟩ := ht
              split at h
              · rename_i a _
                cases hi : cI (cE kwp n C C.inn) C false a with
                | none => rw [hi] at h; cases h
                | some i =>
                  rw [hi] at h; cases h
                  have hr : isRange C a = true := hr
                  have hm := G.blt "tuple" (by decide) hx
                  unfold isRange at hr
                  split at hr
                  · rename_i y args hy
                    have hy' : y = "range" := by simpa using hr
                    subst hy'
                    obtain ⟨p2, pos2, rfl, hg2, ho2, hn2⟩ := bltCall_is G hy
                    have hm2 := G.blt "range" (by decide) hn2
                    unfold cI at hi
                    rw [hy] at hi
                    simp only [if_true] at hi
                    split at hi
                    · rename_i a' ha
                      cases hi
                      obtain ⟨e, r, rfl, hs1, hc, hr⟩ := mapE_one ha
                      have := mapE_nil hr; subst this
                      exact both_plain (r_trng1 G.ok (G.gl hg) hm hg2 hm2 (hF _ _ hc) hs1) rfl
                    · rename_i a' b' ha
                      cases hi
                      obtain ⟨e, r, rfl, hs1, hc, hr⟩ := mapE_one ha
                      obtain ⟨e2, r, rfl, hs2, hc2, hr⟩ := mapE_one hr
                      have := mapE_nil hr; subst this
                      exact both_plain (r_trng2 G.ok (G.gl hg) hm hg2 hm2 (hF _ _ hc) (hF _ _ hc2) hs1 hs2) rfl
                    · cases hi
                  · cases hr
              · cases h
            · split at h
              · rename_i a hsa
                cases hc : cE kwp n C C.inn a with
                | none => rw [hc] at h; cases h
                | some c =>
                  rw [hc] at h; cases h
                  unfold setArg at hsa
                  split at hsa
                  · rename_i hx2
                    subst hx2
                    split at hsa
                    · rename_i e
                      split at hsa
                      · rename_i y a2 hy
                        split at hsa
                        · rename_i hc2
                          cases hsa
                          obtain ⟨rfl, hs⟩ := hc2
                          obtain ⟨p2, pos2, rfl, hg2, ho2, hn2⟩ := bltCall_is G hy
                          exact both_plain (r_lenSet G.ok (G.gl hg) (G.blt _ (by decide) hx) hg2 (G.blt _ (by decide) hn2) (hF _ _ hc) hs) rfl
                        · cases hsa
                      · cases hsa
                    · cases hsa
                  · cases hsa
              split at h
              · rename_i b a r hb hm
                cases h
                obtain ⟨e, es, rfl, hs, hcA, hrr⟩ := mapE_one hm
                exact both_plain (r_blt G.ok hb (G.gl hg) (G.blt _ (blt_in hb) hx) (es_all hF hm) o3 o1 hs (any_mapE hrr)) rfl
              · cases h
      · cases h
    · -- keyword calls
      rename_i x p args kws pos _ _
      split at h
      · rename_i hc
        obtain ⟨hg, ho, hx⟩ := hc
        split at h
        · rename_i as ks vs h1 h2 h3
          split at h
          · rename_i q hq
            cases h
            have q1 := List.find?_some hq
            have q2 := List.mem_of_find?_eq_some hq
            obtain ⟨qx, qn, qk, qp⟩ := q
            simp only [decide_eq_true_eq] at q1
            obtain ⟨rfl, rfl, rfl⟩ := q1
            exact both_plain (callK_all G hF hg ho hx h1 h2 h3 q2) rfl
          · cases h
        · cases h
      · cases h
    · cases h
end
end Ev

namespace Ev
open PySem PySem.Spec PyProof.Rows L2
theorem swN_ok {env : Env} {ts vs : List Expr} {a b c d} (hk : env.scope.kind = .function) : ∀ r, swN env.scope ts vs = some r → swappedStores [.Tuple ts a b] (.Tuple vs c d) env = pure r := by
  intro r h
  have hb : env.blockKind = .function := by unfold Env.blockKind; rw [hk]; rfl
  unfold swN at h
  unfold swappedStores
  simp only [hb, bne_self_eq_false, Bool.or_false]
  split at h
  · rename_i h1
    cases h
    exact if_pos h1
  · rename_i h1
    refine (if_neg h1).trans ?_
    split at h
    · rename_i h2
      cases h
      exact if_pos h2
    · rename_i h2
      refine (if_neg h2).trans ?_
      dsimp only at h
      split at h
      · rename_i h3
        cases h
        exact if_pos h3
      · rename_i h3
        refine (if_neg h3).trans ?_
        split at h
        · rename_i h4
          cases h
          exact if_pos h4
        · rename_i h4
          refine (if_neg h4).trans ?_
          split at h
          · cases h
          · rename_i h5
            cases h
            exact if_neg h5
end Ev

namespace Ev
open PySem PySem.Spec PyProof.Rows L2
section
variable {kwp : List (Str × Nat × List Str × List Nat)} {C : CC} {Γ : Gam} {k : Nat} {X : Cx} {fs : Sl → Ev.Sto → R (List D)}
theorem Good.kind' (G : Good kwp C Γ k X) : X.env.scope.kind = .function := by rw [G.sc]; exact G.kind
/-- the tuple of new values, then the names -/
theorem par_read {i j : Nat} {Q : L2.St → Hp → Prop} {D : Ends} (hQ : ∀ σ H, D.nx σ H → Q σ H) {σ : L2.St} {H : Hp}
    (h : tS X.K (fun σ S => ((fs σ S).bind fun ds S1 => if ds.length ≤ line then .ok (.tup ds) S1 else .no).bind fun x S1 => (R.of (bindT (.tp (.cons (.nm i) (.cons (.nm j) .nil))) x σ) S1).bind fun σ2 S1 => .ok (.nx σ2) S1) D σ H) :
    tA X.K fs σ H fun vs H1 => ∃ v w, vs = [v, w] ∧ Q ((σ.set i (some v)).set j (some w)) H1 := by
  obtain ⟨σd, S, M, μ, hS, hσ, hp⟩ := h
  simp only [bind_assoc] at hp
  refine ⟨σd, S, M, μ, hS, hσ, hp.seqP fun ds S1 vs H1 M1 μ1 e1 x1 s1 r1 hp => ?_⟩
  split at hp
  · simp only [R.bind] at hp
    obtain ⟨σ2, hb, hp⟩ := hp.of
    match ds, r1, hb with
    | [d, e], r1, hb =>
      obtain ⟨v, ws, rfl, r, r1⟩ := r1
      obtain ⟨w, ws, rfl, r', r1⟩ := r1
      cases (show ws = [] from r1)
      cases hb
      exact ⟨v, w, rfl, hQ _ _ (hp.fin s1 _ (((hσ.of hS x1).set r i).set r' j))⟩
    | [], _, hb => simp [bindT, bindTs] at hb
    | [_], _, hb => simp [bindT, bindTs] at hb
    | _ :: _ :: _ :: _, _, hb => simp [bindT, bindTs] at hb
  · exact False.elim hp
theorem par_read3 {i j l : Nat} {Q : L2.St → Hp → Prop} {D : Ends} (hQ : ∀ σ H, D.nx σ H → Q σ H) {σ : L2.St} {H : Hp}
    (h : tS X.K (fun σ S => ((fs σ S).bind fun ds S1 => if ds.length ≤ line then .ok (.tup ds) S1 else .no).bind fun x S1 => (R.of (bindT (.tp (.cons (.nm i) (.cons (.nm j) (.cons (.nm l) .nil)))) x σ) S1).bind fun σ2 S1 => .ok (.nx σ2) S1) D σ H) :
    tA X.K fs σ H fun vs H1 => ∃ u v w, vs = [u, v, w] ∧ Q (((σ.set i (some u)).set j (some v)).set l (some w)) H1 := by
  obtain ⟨σd, S, M, μ, hS, hσ, hp⟩ := h
  simp only [bind_assoc] at hp
  refine ⟨σd, S, M, μ, hS, hσ, hp.seqP fun ds S1 vs H1 M1 μ1 e1 x1 s1 r1 hp => ?_⟩
  split at hp
  · simp only [R.bind] at hp
    obtain ⟨σ2, hb, hp⟩ := hp.of
    match ds, r1, hb with
    | [d, e, f], r1, hb =>
      obtain ⟨u, ws, rfl, r0, r1⟩ := r1
      obtain ⟨v, ws, rfl, r, r1⟩ := r1
      obtain ⟨w, ws, rfl, r', r1⟩ := r1
      cases (show ws = [] from r1)
      cases hb
      exact ⟨u, v, w, rfl, hQ _ _ (hp.fin s1 _ ((((hσ.of hS x1).set r0 i).set r j).set r' l))⟩
    | [], _, hb => simp [bindT, bindTs] at hb
    | [_], _, hb => simp [bindT, bindTs] at hb
    | [_, _], _, hb => simp [bindT, bindTs] at hb
    | _ :: _ :: _ :: _ :: _, _, hb => simp [bindT, bindTs] at hb
  · exact False.elim hp
theorem par_all {n : Nat} (G : Good kwp C Γ k X) : ∀ {ts es : List Expr} {cs : CAs}, cParE kwp n C ts es = some cs → PA X es (tA X.K (evAs Γ cs))
  | [], [], _, h => by cases h; exact l_nil
  | .Name x p :: ts, e :: es, cs, h => by
    unfold cParE at h
    split at h
    · cases h
    · rename_i hs
      split at h
      · rename_i c cs' hc hcs
        cases h
        exact l_cons (by simpa using hs) (made_all n C Γ k X G _ e c hc).1 (par_all G hcs)
      · cases h
  | [], _ :: _, _, h => by simp [cParE] at h
  | _ :: _, [], _, h => by simp [cParE] at h
  | .Tuple .. :: _, _ :: _, _, h | .BoolOp .. :: _, _ :: _, _, h | .NamedExpr .. :: _, _ :: _, _, h | .BinOp .. :: _, _ :: _, _, h | .UnaryOp .. :: _, _ :: _, _, h | .Lambda .. :: _, _ :: _, _, h | .IfExp .. :: _, _ :: _, _, h | .Dict .. :: _, _ :: _, _, h | .Set .. :: _, _ :: _, _, h | .ListComp .. :: _, _ :: _, _, h | .SetComp .. :: _, _ :: _, _, h | .DictComp .. :: _, _ :: _, _, h | .GeneratorExp .. :: _, _ :: _, _, h | .Await .. :: _, _ :: _, _, h | .Yield .. :: _, _ :: _, _, h | .YieldFrom .. :: _, _ :: _, _, h | .Compare .. :: _, _ :: _, _, h | .Call .. :: _, _ :: _, _, h | .FormattedValue .. :: _, _ :: _, _, h | .JoinedStr .. :: _, _ :: _, _, h | .Constant .. :: _, _ :: _, _, h | .Attribute .. :: _, _ :: _, _, h | .Subscript .. :: _, _ :: _, _, h | .Starred .. :: _, _ :: _, _, h | .List .. :: _, _ :: _, _, h | .Slice .. :: _, _ :: _, _, h => by simp [cParE] at h
theorem sw_plain {e : Expr} {t : Option Expr} {l : Nat} {env : Env} (h : cS.isLcE e = false) : swapsWith e t l env = pure false := by
  cases e <;> first | rfl | simp [cS.isLcE] at h
theorem lc_only {n : Nat} {m : Bool} {e : Expr} {c : CE} (h : cE kwp n C m e = some c) (hl : cS.isLcE e = true) : ∃ elt gens scope pos, e = .ListComp elt gens scope pos := by
  cases e with
  | ListComp elt gens scope pos => exact ⟨_, _, _, _, rfl⟩
  | SetComp _ _ _ _ => cases n <;> simp [cE, cF, bltCall] at h
  | DictComp _ _ _ _ _ => cases n <;> simp [cE, cF, bltCall] at h
  | _ => simp [cS.isLcE] at hl
theorem sw_lc {elt : Expr} {gens : List Comprehension} {scope : Scope} {pos py : Pos} {y : Str} {l : Nat} {env : Env} : swapsWith (.ListComp elt gens scope pos) (some (.Name y py)) l env =
    pure (env.blockKind == .function && env.kindOf y == some .local && py.line == pos.line && !(scope.names.any fun (n, k) => n == y && (k == .local || k == .cell))) := rfl
theorem locOk (G : Good kwp C Γ k X) (hfn : X.fn = fun _ => true) : ∀ x, isLoc C.sc x = true → L2.Loc X.env.scope x ∧ (X.fn x = true ∨ X.env.scope.names.lookup x = some .local) := fun x hx => by
  refine ⟨by rw [G.sc]; exact isLoc_loc hx, .inl (by rw [hfn])⟩
end
end Ev

namespace Ev
open PySem PySem.Spec PyProof.Rows L2
section
variable {kwp : List (Str × Nat × List Str × List Nat)} {C : CC} {Γ : Gam} {k : Nat} {X : Cx}
theorem g_nm (G : Good kwp C Γ k X) (hfn : X.fn = fun _ => true) {x : Str} {p : Pos} {i : Nat} (hx : isLoc C.sc x = true) (hi : posOf C.N x = some i) : PG X (.Name x p) (gB X.K (.nm i)) := by
  refine g_all (n := 1) G.ok (fun x hx => locOk G hfn x hx) (?_ : cT X.N (fun x => isLoc C.sc x) 1 (.Name x p) = some (.nm i))
  rw [G.N]
  simp [cT, hx, hi]
/-- name = e -/
theorem s_name (G : Good kwp C Γ k X) (hfn : X.fn = fun _ => true) {n : Nat} {m : Bool} {x : Str} {p pos : Pos} {e : Expr} {c : CE} {i : Nat} (hx : isLoc C.sc x = true) (hi : posOf C.N x = some i) (he : cE kwp n C m e = some c) :
    PS X (.Assign [.Name x p] e pos) (tS X.K (evS Γ (.asg (.nm i) c))) := by
  have pe := (made_all n C Γ k X G m e c he).1
  have plain : swapsWith e (some (.Name x p)) pos.line X.env = pure false → PS X (.Assign [.Name x p] e pos) (tS X.K (evS Γ (.asg (.nm i) c))) := fun hs =>
    s_asg pe (g_nm G hfn hx hi) hs rfl rfl
  by_cases hl : cS.isLcE e = true
  · obtain ⟨elt, gens, scope, pos', rfl⟩ := lc_only he hl
    cases hb : (X.env.blockKind == .function && X.env.kindOf x == some .local && p.line == pos'.line && !(scope.names.any fun (n, k) => n == x && (k == .local || k == .cell))) with
    | false => exact plain (by rw [sw_lc, hb])
    | true =>
      have hsw : swapsWith (.ListComp elt gens scope pos') (some (.Name x p)) pos.line X.env = pure true := by rw [sw_lc, hb]
      have hyl : X.env.scope.names.lookup x = some .local := by
        simp only [Bool.and_eq_true] at hb
        have q : X.env.kindOf x = some .local := by simpa using hb.1.1.2
        exact q
      cases n with
      | zero => simp [cE] at he
      | succ n =>
        unfold cE at he
        dsimp only at he
        split at he
        · rename_i q hq
          cases he
          unfold cF at hq
          split at hq
          · rename_i heq; cases heq
          · rename_i elt' t iter ifs a scope' pos'' heq
            cases heq
            split at hq
            · rename_i hc
              obtain ⟨rfl, hblk⟩ := hc
              split at hq
              · rename_i t' i' q' c' h1 h2 h3 h4
                split at hq
                · rename_i hlen
                  cases hq
                  obtain ⟨wi, g, tt, te, a1, a2, a3, a4, a5, a6⟩ := f_comp G (made_all n) (pos := pos') hblk h1 h2 h3 h4 hlen
                  refine s_lcset (ps_setLc G.ok.calm G.ok.nd (by rw [G.N]; exact posOf_get hi) hyl hsw a3 a2 a4 a5 a6 (i_noset h2)) fun σ H Q hq => a1 σ H Q ?_
                  unfold fromF at hq
                  split at hq
                  · exact mu_read hq
                  · exact fr_read hq
                · cases hq
              · cases hq
            · cases hq
          · simp [bltCall] at hq
        · simp at he
  · exact plain (sw_plain (by simpa using hl))
theorem cTs_name {N : List Str} {ok : Str → Bool} {n : Nat} {x : Str} {p : Pos} {r : List Expr} {ts : CTs} (h : cTs N ok n (.Name x p :: r) = some ts) : ∃ n' i ts', posOf N x = some i ∧ cTs N ok n' r = some ts' ∧ ts = .cons (.nm i) ts' := by
  cases n with
  | zero => simp [cTs] at h
  | succ n =>
    unfold cTs at h
    split at h
    · cases h
    · split at h
      · cases h
      · rename_i t ht
        split at h
        · cases h
        · rename_i ts' hts
          cases h
          cases n with
          | zero => simp [cT] at ht
          | succ n =>
            unfold cT at ht
            split at ht
            · cases hp : posOf N x with
              | none => rw [hp] at ht; cases ht
              | some i => rw [hp] at ht; cases ht; exact ⟨_, i, ts', rfl, hts, rfl⟩
            · cases ht
theorem cTs_nil {N : List Str} {ok : Str → Bool} {n : Nat} {ts : CTs} (h : cTs N ok n [] = some ts) : ts = .nil := by
  cases n with
  | zero => simp [cTs] at h
  | succ n => cases h; rfl
theorem filterMap_all {α β : Type} {f : α → Option β} : ∀ {l : List α}, (l.filterMap f).length = l.length → ∀ a ∈ l, (f a).isSome = true
  | [], _, _, h => by simp at h
  | x :: r, h, a, ha => by
    have le : (r.filterMap f).length ≤ r.length := List.length_filterMap_le f r
    cases hx : f x with
    | none =>
      rw [List.filterMap_cons_none hx] at h
      simp at h; omega
    | some b =>
      rw [List.filterMap_cons_some hx] at h
      rcases List.mem_cons.mp ha with rfl | ha
      · rw [hx]; rfl
      · exact filterMap_all (by simpa using h) a ha
theorem parNm_some {sc : Scope} {l : Nat} {x : Str} {p : Pos} (h : (parNm sc l (.Name x p)).isSome = true) : sc.names.lookup x = some .local ∧ parNm sc l (.Name x p) = some x := by
  by_cases q : (sc.names.lookup x == some NameKind.local && p.line == l) = true
  · have e : parNm sc l (.Name x p) = some x := if_pos q
    rw [Bool.and_eq_true] at q
    exact ⟨by simpa using q.1, e⟩
  · have e : parNm sc l (.Name x p) = none := if_neg q
    rw [e] at h; cases h
theorem dup2 {x : Str} : ¬ (([x, x] : List Str).eraseDups.length = 2) := by simp [List.eraseDups_cons]
theorem dup3 {x y z : Str} (h : x = y ∨ x = z ∨ y = z) : ¬ (([x, y, z] : List Str).eraseDups.length = 3) := by
  rcases h with rfl | rfl | rfl
  · by_cases q : z = x
    · subst q; simp [List.eraseDups_cons]
    · simp [List.eraseDups_cons, q]
  · by_cases q : y = x
    · subst q; simp [List.eraseDups_cons]
    · simp [List.eraseDups_cons, q]
  · by_cases q : y = x
    · subst q; simp [List.eraseDups_cons]
    · simp [List.eraseDups_cons, q]
theorem s_pair (G : Good kwp C Γ k X) (hfn : X.fn = fun _ => true) {n : Nat} {ts es : List Expr} {ka kb : Nat} {pa pb pos : Pos} {cts : CTs} {ces : CAs} (h0 : allNames ts = true) (hl : ts.length = es.length) (hsw : (swN C.sc ts es).isSome = true)
    (ht : cTs C.N (fun x => isLoc C.sc x) 8 ts = some cts) (he : cParE kwp n C ts es = some ces) : PS X (.Assign [.Tuple ts ka pa] (.Tuple es kb pb) pos) (tS X.K (evS Γ (.asg (.tp cts) (.tup ces)))) := by
  obtain ⟨r, hr⟩ := Option.isSome_iff_exists.mp hsw
  have sw := swN_ok (env := X.env) (a := ka) (b := pa) (c := kb) (d := pb) G.kind' r (by rw [G.sc]; exact hr)
  have pa := par_all G he
  cases r with
  | none =>
    refine s_asg (r_tup pa) (g_all (n := 9) (t := .tp cts) G.ok (fun x hx => locOk G hfn x hx) ?_) rfl sw rfl
    rw [G.N]
    simp [cT, ht]
  | some names =>
    unfold swN at hr
    split at hr
    · cases hr
    rename_i c1
    split at hr
    · cases hr
    dsimp only at hr
    split at hr
    · cases hr
    rename_i c3
    split at hr
    · cases hr
    split at hr
    · cases hr
    injection hr with hr
    injection hr with hr
    have nm : ∀ e ∈ ts, ∃ x p, e = .Name x p := fun e he => by
      have := List.all_eq_true.mp h0 e he
      cases e <;> simp [nameOf] at this ⊢
    rw [Bool.or_eq_true, not_or] at c3
    obtain ⟨c4, c5⟩ := c3
    have c4 := filterMap_all (by rw [bne_iff_ne, ne_eq, Decidable.not_not] at c4; exact c4)
    have loc : ∀ x p, Expr.Name x p ∈ ts → C.sc.names.lookup x = some .local ∧ parNm C.sc ((ts.head?.map (·.pos.line)).getD 0) (.Name x p) = some x := fun x p hm => parNm_some (c4 _ hm)
    rw [← G.sc] at hr c5 loc
    match ts, es, nm, hl, ht, pa with
    | [a, b], [e, f], nm, _, ht, pa =>
      obtain ⟨x, px, rfl⟩ := nm a (by simp)
      obtain ⟨y, py, rfl⟩ := nm b (by simp)
      obtain ⟨n1, i, ts1, p1, ht1, rfl⟩ := cTs_name ht
      obtain ⟨n2, j, ts2, p2, ht2, rfl⟩ := cTs_name ht1
      have := cTs_nil ht2; subst this
      obtain ⟨l1, m1⟩ := loc x px (by simp)
      obtain ⟨l2, m2⟩ := loc y py (by simp)
      have en : names = [x, y] := by
        rw [← hr]
        rw [List.filterMap_cons_some m1, List.filterMap_cons_some m2]; rfl
      subst en
      have hne : i ≠ j := fun e => by
        subst e
        have := posOf_inj p1 p2
        subst this
        rw [hr] at c5
        rw [bne_iff_ne, ne_eq, Decidable.not_not] at c5
        exact dup2 c5
      refine PS.imp (ps_par G.ok.calm G.ok.nd (by rw [G.N]; exact posOf_get p1) (by rw [G.N]; exact posOf_get p2) hne l1 l2 pa sw rfl) fun D σ H h => par_read (fun _ _ z => z) h
    | [a, b, c], [e, f, g], nm, _, ht, pa =>
      obtain ⟨x, px, rfl⟩ := nm a (by simp)
      obtain ⟨y, py, rfl⟩ := nm b (by simp)
      obtain ⟨z, pz, rfl⟩ := nm c (by simp)
      obtain ⟨n1, i, ts1, p1, ht1, rfl⟩ := cTs_name ht
      obtain ⟨n2, j, ts2, p2, ht2, rfl⟩ := cTs_name ht1
      obtain ⟨n3, l, ts3, p3, ht3, rfl⟩ := cTs_name ht2
      have := cTs_nil ht3; subst this
      obtain ⟨l1, m1⟩ := loc x px (by simp)
      obtain ⟨l2, m2⟩ := loc y py (by simp)
      obtain ⟨l3, m3⟩ := loc z pz (by simp)
      have en : names = [x, y, z] := by
        rw [← hr]
        rw [List.filterMap_cons_some m1, List.filterMap_cons_some m2, List.filterMap_cons_some m3]; rfl
      subst en
      rw [hr] at c5
      rw [bne_iff_ne, ne_eq, Decidable.not_not] at c5
      have h1 : i ≠ j := fun e => by
        subst e
        have := posOf_inj p1 p2
        subst this
        exact dup3 (.inl rfl) c5
      have h2 : i ≠ l := fun e => by
        subst e
        have := posOf_inj p1 p3
        subst this
        exact dup3 (.inr (.inl rfl)) c5
      have h3 : j ≠ l := fun e => by
        subst e
        have := posOf_inj p2 p3
        subst this
        exact dup3 (.inr (.inr rfl)) c5
      refine PS.imp (ps_par3 G.ok.calm G.ok.nd (by rw [G.N]; exact posOf_get p1) (by rw [G.N]; exact posOf_get p2) (by rw [G.N]; exact posOf_get p3) h1 h2 h3 l1 l2 l3 pa sw rfl) fun D σ H h => par_read3 (fun _ _ z => z) h
    | [], _, _, _, _, _ => simp at c1
    | [_], _, _, _, _, _ => simp at c1
    | _ :: _ :: _ :: _ :: _, _, _, _, _, _ => simp at c1
end
end Ev

namespace Ev
open PySem PySem.Spec PyProof.Rows L2
section
variable {kwp : List (Str × Nat × List Str × List Nat)} {C : CC} {Γ : Gam} {k : Nat} {X : Cx}
def Runs (kwp : List (Str × Nat × List Str × List Nat)) (n : Nat) : Prop := ∀ (C : CC) (Γ : Gam) (k : Nat) (X : Cx), Good kwp C Γ k X → X.fn = (fun _ => true) →
  (∀ (s : Stmt) (c : CS), cS kwp n C s = some c → PS X s (tS X.K (evS Γ c))) ∧ (∀ (s : List Stmt) (c : CSs), cSs kwp n C s = some c → PSs X s (tS X.K (evSs Γ c)))
theorem aug_ok {o : Operator} {o' : Bop} (h : bopA o = true) (h2 : bopC o = some o') : augOk o' = true := by
  cases o <;> first | (cases h2; rfl) | simp [bopA] at h
theorem at_both {ts : List Expr} {x : Str} {fs : List Str} (h : atBoth ts = some (x, fs)) : atTs x ts = some fs := by
  unfold atBoth at h
  split at h
  · rename_i y hy
    cases ha : atTs y ts with
    | none => rw [ha] at h; cases h
    | some l => rw [ha] at h; cases h; exact ha
  · cases h
theorem s_all : ∀ n, Runs kwp n
  | 0, C, Γ, k, X, G, hfn => ⟨fun s c h => by simp [cS] at h, fun s c h => by simp [cSs] at h⟩
  | n + 1, C, Γ, k, X, G, hfn => by
    obtain ⟨ih1, ih2⟩ := s_all n C Γ k X G hfn
    have hF : ∀ e c, cE kwp n C false e = some c → PE X e (tE X.K (evE Γ c)) := fun e c hc => (made_all n C Γ k X G false e c hc).1
    have hT : ∀ e c, cE kwp n C false e = some c → PT X e (tT X.K (evT Γ c)) := fun e c hc => (made_all n C Γ k X G false e c hc).2
    refine ⟨fun s c h => ?_, fun s c h => ?_⟩
    · unfold cS at h
      split at h
      · cases h; exact s_pass
      · cases h; exact s_brk
      · cases h; exact s_cnt
      · cases h; exact s_retN
      · rename_i e p
        cases hc : cE kwp n C C.ret e with
        | none => rw [hc] at h; cases h
        | some c => rw [hc] at h; cases h; exact s_ret (made_all n C Γ k X G _ e c hc).1
      · rename_i e p
        split at h
        · rename_i f x q args kws pos
          cases hc : cE kwp n C false (.Call (.Attribute f x q) args kws pos) with
          | none => rw [hc] at h; cases h
          | some c => rw [hc] at h; cases h; exact s_expr (hF _ _ hc) rfl
        · rename_i x q args kws pos
          cases hc : cE kwp n C false (.Call (.Name x q) args kws pos) with
          | none => rw [hc] at h; cases h
          | some c => rw [hc] at h; cases h; exact s_expr (hF _ _ hc) rfl
        · cases h
      · rename_i c0 a b p
        split at h
        · rename_i c' a' b' h1 h2 h3
          cases h
          exact s_if (hT _ _ h1) (ih2 _ _ h2) (ih2 _ _ h3)
        · cases h
      · rename_i c0 b p
        split at h
        · rename_i c' b' h1 h2
          cases h
          exact s_while G.pass (hT _ _ h1) (ih2 _ _ h2)
        · cases h
      · rename_i t i b p
        split at h
        · rename_i t' i' b' h1 h2 h3
          cases h
          refine s_for (t := t') (SI := evI Γ i') (B := fun σ S => evSs Γ b' σ S) G.pass G.ok (i_all G hF (fun z => z) h2) (g_all G.ok (fun x hx => locOk G hfn x hx) (by rw [G.N]; exact h1)) (ih2 _ _ h3) (i_noset h2)
        · cases h
      · rename_i x px o e p
        split at h
        · rename_i hc
          obtain ⟨hx, ho⟩ := hc
          split at h
          · rename_i i o' e' h1 h2 h3
            cases h
            have z := s_aug (pos := p) (pos' := px) G.ok (aug_ok ho h2) (by rw [G.N]; exact posOf_get h1) (locOk G hfn x hx).1 (by rw [hfn]) (hF _ _ h3)
            rw [bop_back h2] at z
            exact z
          · cases h
        · cases h
      · rename_i x px e p
        split at h
        · rename_i hx
          split at h
          · rename_i i e' h1 h2
            cases h
            exact s_name G hfn hx h1 h2
          · cases h
        · cases h
      · rename_i o i q e p
        split at h
        · cases h
        · rename_i hc
          obtain ⟨hs, hl⟩ := not_or.mp hc
          have hs : isSlice i = false := by simpa using hs
          have hl : cS.isLcE e = false := by simpa using hl
          split at h
          · rename_i o' i' e' h1 h2 h3
            cases h
            refine s_sub G.ok (hF _ _ h1) (hF _ _ h2) (hF _ _ h3) (sw_plain (t := some (.Subscript o i q)) (l := p.line) (env := X.env) hl) rfl (fun v => ?_)
            cases i <;> first | rfl | simp [isSlice] at hs
          · cases h
      · rename_i ts ka pa es kb pb p
        split at h
        · rename_i hc
          obtain ⟨h0, hl, hsw⟩ := hc
          split at h
          · rename_i ts' es' h1 h2
            cases h
            exact s_pair G hfn h0 hl hsw h1 h2
          · cases h
        · cases h
      · rename_i ts a b e p hne
        split at h
        · cases h
        · rename_i hl
          have hl : cS.isLcE e = false := by simpa using hl
          split at h
          · rename_i x fs e' hat h2
            split at h
            · rename_i hc
              cases hp : posOf C.N x with
              | none => rw [hp] at h; cases h
              | some j =>
                rw [hp] at h; cases h
                have ht := at_both hat
                have d := okName_1 hc.2
                refine s_unf G.ok G.cf (by rw [G.N]; exact posOf_get hp) (by rw [G.sc]; exact isVis_vis hc.1) d.1 d.2.1 ht (hF _ _ h2) (sw_plain (t := some (.Tuple ts a b)) (l := p.line) (env := X.env) hl) ?_
                cases e <;> first | rfl | exact absurd rfl (hne _ _ _)
            · cases h
          · split at h
            · rename_i t' e' h1 h2
              cases h
              refine s_asg (hF _ _ h2) (g_all G.ok (fun x hx => locOk G hfn x hx) (by rw [G.N]; exact h1)) (sw_plain (t := some (.Tuple ts a b)) (l := p.line) (env := X.env) hl) ?_ rfl
              cases e <;> first | rfl | exact absurd rfl (hne _ _ _)
            · cases h
      · rename_i o f q e p
        split at h
        · rename_i o' e' h1 h2
          cases h
          exact s_sfld G.cf (hF _ _ h1) (made_all n C Γ k X G true e _ h2).1 (by cases e <;> rfl)
        · cases h
      · rename_i o i q op e p
        split at h
        · cases h
        · rename_i hc
          obtain ⟨hs, hl⟩ := not_or.mp hc
          have hs : isSlice i = false := by simpa using hs
          have ho : bopA op = true := Decidable.not_not.mp hl
          split at h
          · rename_i op' o' i' e' h1 h2 h3 h4
            cases h
            have z := s_asub (pos := p) (pos' := q) (aug_ok ho h1) G.ok (hF _ _ h2) (hF _ _ h3) (hF _ _ h4) hs
            rw [bop_back h1] at z
            exact z
          · cases h
      · rename_i o f q op e p
        split at h
        · rename_i ho
          split at h
          · rename_i op' o' e' h1 h2 h3
            cases h
            have z := s_afld (pos := p) (pos' := q) (nm := f) (aug_ok ho h1) G.cf (hF _ _ h2) (hF _ _ h3)
            rw [bop_back h1] at z
            exact z
          · cases h
        · cases h
      · cases h
    · cases s with
      | nil => cases h; exact s_nil
      | cons s r =>
        unfold cSs at h
        split at h
        · rename_i r' hr
          cases h
          have hs : PS X s (tS X.K (evS Γ ((cS kwp n C s).getD .bad))) := by
            cases hc : cS kwp n C s with
            | none => exact s_bad
            | some c => exact ih1 s c hc
          exact s_cons hs (ih2 r r' hr)
        · cases h
end
end Ev

/-! Defs: what a call comes to. -/
namespace Ev
open PySem PySem.Spec PyProof.Rows L2
/-- a def by its body, the guards told -/
theorem fnG_of {P : Program} {w : World} {K : PySem.W.Frag} {mg : Str → Option Value} {base : Heap} {k : Nat} {x qual : Str} {st : Stmt} {f : Addr} {fd : FuncData} {N ps : List Str} {sp : Sp1} (F : C8.Fun K x qual st f fd) (S : FnScope N ps (C8.fnScope st))
    (len : ∀ vs H Q, sp vs H Q → vs.length = ps.length)
    (hbody : ∀ (cdv : Value) (A : Around) (outer : List Env) (s : Shared) (H : Hp) (vs : List V) (Q : VK), Room k (A.deeper (envOfC qual (C8.fnScope st) s.heap.objs.size f cdv)) → A.guards = some [] → sp vs H Q →
      ∃ t, PSs (cxOf CX0 P w K mg base N qual (C8.fnScope st) f cdv A outer s H E0).nox (C8.fnBody st) t ∧ t { nx := fun _ H' => Q .non H', rt := Q } (start N vs) H) : FnG P w K mg base (k + 1) f fd ps sp := by
  obtain ⟨oc, od, dV, kV, doc, pm, an, cdv, ct, osl, rfl, lk, hcd⟩ := F.ex
  refine ⟨len, fun A outer s H args us vs Q hr hgd e0 hb r hsp => ?_⟩
  have hl := len _ _ _ hsp
  have KX : K.In s.heap := e0.mod.kin.keeps fun b o e => (e0.bs b o e).1
  have lim : s.heap.NoLimit := e0.mod.nolimit.keeps fun b o e => (e0.bs b o e).1
  have hkind : ∀ y ∈ ps.zip us, (C8.fnScope st).names.lookup y.1 = some .local ∨ ((C8.fnScope st).names.lookup y.1 = some .cell ∧ ((cellsFrom (s.heap.objs.size + 1) (C8.fnScope st).names []).lookup y.1).isSome = true) := fun ⟨n, v⟩ hy => by
    rcases S.par n (List.of_mem_zip hy).1 with q | q
    · exact .inl q
    · exact .inr ⟨q, PySem.W.cellsFrom_some _ _ _ (.inl q)⟩
  refine codeAny_call_function hr.depth (KX _ _ lk) rfl S.co S.gen rfl (PySem.W.codeRec_of KX hcd) (hb _ _ _ _ ?_)
  refine wpAny_newFunctionEnv_cells S.kind hkind fun env he s1 x => ?_
  subst he
  refine ⟨lim.keeps x.toInCall.keep, codeAny_func ?_⟩
  obtain ⟨t, ht, hq⟩ := hbody cdv A outer s H vs Q (hr.deeper _) hgd hsp
  have ht := ht.nox
  have I : Inv (cxOf CX0 P w K mg base N qual (C8.fnScope st) f cdv A outer s H E0) [] (start N vs) H s1 := inv_start S hr.hd e0 hl r x
  refine wpAny_mono (ht.run [] s1 (start N vs) H _ I hq) (fun fl s' hs => ?_) fun e s' hs => hs
  have fin : ∀ {σ' : L2.St} {H' : Hp} {v : V} {u : Value}, Inv (cxOf CX0 P w K mg base N qual (C8.fnScope st) f cdv A outer s H E0) [] σ' H' s' → RelV v u → Q v H' → L2.CE outer P w H s Q u s' :=
    fun {σ' H' v u} J rv q => ⟨v, H', J.os, J.bare, J.base, J.hok, rv, q⟩
  cases fl with
  | ret u =>
    obtain ⟨v, σ', H', J, rv, q⟩ := hs
    exact fin J rv q
  | next =>
    obtain ⟨σ', H', J, q⟩ := hs
    exact fin (v := V.non) (u := Value.none) J rfl q
  | brk =>
    obtain ⟨_, _, _, q⟩ := hs
    exact False.elim q
  | cont =>
    obtain ⟨_, _, _, q⟩ := hs
    exact False.elim q
mutual
/-- data that names no changing object -/
theorem Rep.none {K : PySem.W.Frag} {H : Hp} {M : Addr → Prop} {μ : List Addr} : ∀ {d : D} {v : V}, Rep K H M [] d v → Rep K H M μ d v
  | .non, _, h => h
  | .bl _, _, h => h
  | .int _, _, h => h
  | .str _, _, h => h
  | .tup l, _, h => by
    obtain ⟨a, vs, e, h1, h2⟩ := h
    exact ⟨a, vs, e, h1, RepL.none h2⟩
  | .frl l, _, h => by
    obtain ⟨a, vs, e, h1, h2⟩ := h
    exact ⟨a, vs, e, h1, RepL.none h2⟩
  | .loc k, _, h => by
    obtain ⟨a, e, h1⟩ := h
    simp at h1
  | .emp, _, h => h
theorem RepL.none {K : PySem.W.Frag} {H : Hp} {M : Addr → Prop} {μ : List Addr} : ∀ {l : List D} {vs : List V}, RepL K H M [] l vs → RepL K H M μ l vs
  | [], _, h => h
  | d :: r, _, h => by
    obtain ⟨v, w, e, h1, h2⟩ := h
    exact ⟨v, w, e, Rep.none h1, RepL.none h2⟩
end
section
variable {K : PySem.W.Frag} {H H1 : Hp} {M M1 : Addr → Prop} {μ μ1 : List Addr} {S S1 : Ev.Sto} {Q : VK}
/-- what leaves a call, the callee's own objects forgotten -/
theorem gcv_ok {d d' : D} {v : V} (hS : SOk K H M μ S) (hS1 : SOk K H1 M1 μ1 S1) (old : ∀ a, M a → M1 a) (nmu : ∀ a ∈ μ1, a ∈ μ ∨ H a = none) {n : Nat} (hpre : μ1.take n = μ) (r : Rep K H1 M1 μ1 d v) (hg : gcv n S1 d = some d') : Rep K H1 M μ d' v := by
  unfold gcv at hg
  split at hg
  · rename_i hb
    cases hg
    exact Rep.down old hpre.symm hb r
  · split at hg
    · rename_i k _
      split at hg
      · rename_i l e
        split at hg
        · rename_i hc
          cases hg
          obtain ⟨a, vs, g1, g2, g3⟩ := hS1.at e
          obtain ⟨a', rfl, g1'⟩ := r
          rw [g1] at g1'; cases g1'
          refine ⟨a, vs, rfl, .inl ⟨.inl g2, fun ma => ?_⟩, RepL.down old hpre.symm hc.2 g3⟩
          rcases nmu a (List.mem_of_getElem? g1) with z | z
          · rw [← hpre] at z
            obtain ⟨j, hj, ej⟩ := List.mem_iff_getElem.mp z
            rw [List.length_take] at hj
            rw [List.getElem_take] at ej
            have hk := (List.getElem?_eq_some_iff.mp g1)
            obtain ⟨hk1, hk2⟩ := hk
            have : j = k := (List.getElem_inj hS1.nd).mp (ej.trans hk2.symm)
            omega
          · exact notMn hS.mt z ma
        · cases hg
      · cases hg
    · cases hg
theorem bel_len (hS : SOk K H M μ S) (x : Ext H M μ H1 M1 μ1) (hS1 : SOk K H1 M1 μ1 S1) : μ1.take μ.length = μ := by
  obtain ⟨r, rfl⟩ := x.pre
  simp
theorem nil_take (l : List Addr) : l.take 0 = ([] : List Addr) := by simp
theorem shfL_len {n : Nat} : ∀ l : List D, (shfL n l).length = l.length
  | [] => rfl
  | _ :: r => by simp [shfL, shfL_len r]
theorem shfP_k {α : Type} {n : Nat} {l : List (α × D)} : (shfP n l).map (·.1) = l.map (·.1) := by
  unfold shfP
  rw [List.map_fst_zip]
  rw [shfL_len]; simp
theorem shfP_v {α : Type} {n : Nat} {l : List (α × D)} : (shfP n l).map (·.2) = shfL n (l.map (·.2)) := by
  unfold shfP
  rw [List.map_snd_zip]
  rw [shfL_len]; simp
theorem RepO.shift {μ' : List Addr} {o : O} {u : HO} (i : ∀ l vs, RepL K H1 M1 μ1 l vs → RepL K H1 M1 μ' (shfL μ.length l) vs) (h : RepO K H1 M1 μ1 o u) : RepO K H1 M1 μ' (o.shf μ.length) u := by
  cases o with
  | lst l => obtain ⟨vs, e, r⟩ := h; exact ⟨vs, e, i _ _ r⟩
  | ins c fs => obtain ⟨dx, vs, e, k, r⟩ := h; exact ⟨dx, vs, e, by rw [shfP_k]; exact k, by rw [shfP_v]; exact i _ _ r⟩
  | dct l => obtain ⟨vs, e, k, r⟩ := h; exact ⟨vs, e, by rw [shfP_k]; exact k, by rw [shfP_v]; exact i _ _ r⟩
theorem RepO.down' {M μ} {n : Nat} {o : O} {u : HO} (i : ∀ l vs, belL n l = true → RepL K H1 M1 μ1 l vs → RepL K H1 M μ l vs) (hb : o.bel n = true) (h : RepO K H1 M1 μ1 o u) : RepO K H1 M μ o u := by
  cases o with
  | lst l => obtain ⟨vs, e, r⟩ := h; exact ⟨vs, e, i _ _ hb r⟩
  | ins c fs => obtain ⟨dx, vs, e, k, r⟩ := h; exact ⟨dx, vs, e, k, i _ _ hb r⟩
  | dct l => obtain ⟨vs, e, k, r⟩ := h; exact ⟨vs, e, k, i _ _ hb r⟩
/-- the callee saw nothing that changes -/
theorem leave_pure {keep : Bool} {d : D} {v : V} (hS : SOk K H M μ S) (x : Ext H M [] H1 M1 μ1) (hS1 : SOk K H1 M1 μ1 S1) (r : Rep K H1 M1 μ1 d v) (h : Post (RV K) K (outPure keep S d S1) H M μ Q) : Q v H1 := by
  have nin : ∀ a ∈ μ, a ∉ μ1 := fun a ha hb => by
    rcases x.nmu a hb with z | z
    · cases z
    · exact notMn hS.mt z (hS.sub a ha)
  unfold outPure at h
  split at h
  · -- its objects join
    have x' : Ext H M μ H1 M1 (μ ++ μ1) := ⟨fun a o e _ => x.keep a o e (by simp), x.kind, List.prefix_append _ _, x.old, x.new, fun a ha => by
      rcases List.mem_append.mp ha with z | z
      · exact .inl z
      · rcases x.nmu a z with z | z
        · cases z
        · exact .inr z⟩
    have hl : S.length = μ.length := hS.len.symm
    rw [hl] at h
    refine h v H1 M1 (μ ++ μ1) x' ⟨by simp [hS.len, hS1.len], ?_, fun a ha => ?_, hS1.mt, fun n l e => ?_⟩ (Rep.shift (fun _ z => z) r)
    · exact List.nodup_append.mpr ⟨hS.nd, hS1.nd, fun a ha b hb e => nin a ha (e ▸ hb)⟩
    · rcases List.mem_append.mp ha with z | z
      · exact x.old a (hS.sub a z)
      · exact hS1.sub a z
    · by_cases hn : n < S.length
      · rw [List.getElem?_append_left hn] at e
        obtain ⟨a, u, g1, g2, g3⟩ := hS.obj n l e
        refine ⟨a, u, by rw [List.getElem?_append_left (by omega)]; exact g1, x.keep a _ g2 (by simp), g3.imp fun l vs z => RepL.of hS x' z⟩
      · have hn : S.length ≤ n := by omega
        rw [List.getElem?_append_right hn, List.getElem?_map] at e
        cases e1 : S1[n - S.length]? with
        | none => rw [e1] at e; cases e
        | some o =>
          rw [e1] at e
          cases e
          obtain ⟨a, u, g1, g2, g3⟩ := hS1.obj _ o e1
          exact ⟨a, u, by rw [List.getElem?_append_right (by omega), ← hl]; exact g1, g2, g3.shift fun _ _ z => RepL.shift (fun _ z => z) z⟩
  · cases hg : gcv 0 S1 d with
    | none => rw [hg] at h; exact False.elim h
    | some d' =>
      rw [hg] at h
      have x' : Ext H M μ H1 M μ := ⟨fun a o e _ => x.keep a o e (by simp), x.kind, List.prefix_refl _, fun _ z => z, fun _ z => .inl z, fun _ z => .inl z⟩
      refine h v H1 M μ x' ⟨hS.len, hS.nd, hS.sub, fun a ha => hS1.mt a (x.old a ha), fun n l e => ?_⟩ ?_
      · obtain ⟨a, u, g1, g2, g3⟩ := hS.obj n l e
        exact ⟨a, u, g1, x.keep a _ g2 (by simp), g3.imp fun l vs z => RepL.of hS x' z⟩
      · have hS0 : SOk K H M [] [] := ⟨rfl, by simp, by simp, hS.mt, fun n l e => by simp at e⟩
        have q := gcv_ok (n := 0) hS0 hS1 x.old (fun a ha => x.nmu a ha) (by simp) r hg
        exact Rep.none q
/-- the callee saw the store -/
theorem leave_gc {keep : Bool} {d : D} {v : V} (hS : SOk K H M μ S) (x : Ext H M μ H1 M1 μ1) (hS1 : SOk K H1 M1 μ1 S1) (r : Rep K H1 M1 μ1 d v) (h : Post (RV K) K (outGc keep S d S1) H M μ Q) : Q v H1 := by
  unfold outGc at h
  split at h
  · exact h v H1 M1 μ1 x hS1 r
  · split at h
    · rename_i d' hg
      split at h
      · rename_i hb
        have hpre : μ1.take S.length = μ := by rw [← hS.len]; exact bel_len hS x hS1
        have x' : Ext H M μ H1 M μ := ⟨x.keep, x.kind, List.prefix_refl _, fun _ z => z, fun _ z => .inl z, fun _ z => .inl z⟩
        have le : S.length ≤ S1.length := by
          rw [← hS.len, ← hS1.len]
          exact x.pre.length_le
        refine h v H1 M μ x' ⟨by rw [List.length_take, hS.len]; omega, hS.nd, hS.sub, fun a ha => hS1.mt a (x.old a ha), fun n l e => ?_⟩ (gcv_ok hS hS1 x.old (fun a ha => x.nmu a ha) hpre r hg)
        have hn : n < S.length := by
          have := (List.getElem?_eq_some_iff.mp e).1
          rw [List.length_take] at this
          omega
        have e' := e
        rw [List.getElem?_take_of_lt hn] at e
        obtain ⟨a, u, g1, g2, g3⟩ := hS1.obj n l e
        exact ⟨a, u, by rw [← hpre, List.getElem?_take_of_lt hn]; exact g1, g2, g3.down' (fun _ _ b z => RepL.down x.old hpre.symm b z) (List.all_eq_true.mp hb _ (List.mem_of_getElem? e'))⟩
      · exact False.elim h
    · exact False.elim h
theorem renL_len {f : Nat → Nat} : ∀ l : List D, (renL f l).length = l.length
  | [] => rfl
  | _ :: r => by simp [renL, renL_len r]
theorem renP_k {α : Type} {f : Nat → Nat} {l : List (α × D)} : (renP f l).map (·.1) = l.map (·.1) := by
  unfold renP
  rw [List.map_fst_zip]
  rw [renL_len]; simp
theorem renP_v {α : Type} {f : Nat → Nat} {l : List (α × D)} : (renP f l).map (·.2) = renL f (l.map (·.2)) := by
  unfold renP
  rw [List.map_snd_zip]
  rw [renL_len]; simp
mutual
theorem Rep.ren {M2 : Addr → Prop} {μ2 : List Addr} {f : Nat → Nat} {p : Nat → Bool} (hM : ∀ a, M2 a → M a) (hf : ∀ k a, p k = true → μ[k]? = some a → μ2[f k]? = some a) : ∀ {d : D} {v : V}, d.fit p = true → Rep K H M μ d v → Rep K H M2 μ2 (d.ren f) v
  | .non, _, _, h => h
  | .bl _, _, _, h => h
  | .int _, _, _, h => h
  | .str _, _, _, h => h
  | .tup l, _, b, h => by
    obtain ⟨a, vs, e, h1, h2⟩ := h
    exact ⟨a, vs, e, h1, RepL.ren hM hf (by simpa [D.fit] using b) h2⟩
  | .frl l, _, b, h => by
    obtain ⟨a, vs, e, h1, h2⟩ := h
    refine ⟨a, vs, e, ?_, RepL.ren hM hf (by simpa [D.fit] using b) h2⟩
    rcases h1 with ⟨h1, q⟩ | h1
    · exact .inl ⟨h1, fun z => q (hM _ z)⟩
    · exact .inr h1
  | .loc k, _, b, h => by
    obtain ⟨a, e, h1⟩ := h
    exact ⟨a, e, hf k a b h1⟩
  | .emp, _, _, h => by
    obtain ⟨a, e, h1, hn⟩ := h
    exact ⟨a, e, h1, fun z => hn (hM _ z)⟩
theorem RepL.ren {M2 : Addr → Prop} {μ2 : List Addr} {f : Nat → Nat} {p : Nat → Bool} (hM : ∀ a, M2 a → M a) (hf : ∀ k a, p k = true → μ[k]? = some a → μ2[f k]? = some a) : ∀ {l : List D} {vs : List V}, fitL p l = true → RepL K H M μ l vs → RepL K H M2 μ2 (renL f l) vs
  | [], _, _, h => h
  | d :: r, _, b, h => by
    obtain ⟨v, w, e, h1, h2⟩ := h
    simp only [fitL, Bool.and_eq_true] at b
    exact ⟨v, w, e, Rep.ren hM hf b.1 h1, RepL.ren hM hf b.2 h2⟩
end
mutual
theorem fit_all : ∀ d : D, d.fit (fun _ => true) = true
  | .non => rfl
  | .bl _ => rfl
  | .int _ => rfl
  | .str _ => rfl
  | .tup l => by simpa [D.fit] using fitL_all l
  | .frl l => by simpa [D.fit] using fitL_all l
  | .loc _ => rfl
  | .emp => rfl
theorem fitL_all : ∀ l : List D, fitL (fun _ => true) l = true
  | [] => rfl
  | d :: r => by simp [fitL, fit_all d, fitL_all r]
end
theorem RepO.ren {M2 : Addr → Prop} {μ2 : List Addr} {f : Nat → Nat} {p : Nat → Bool} (hM : ∀ a, M2 a → M a) (hf : ∀ k a, p k = true → μ[k]? = some a → μ2[f k]? = some a) {o : O} {u : HO} (hp : fitL p o.ds = true) (h : RepO K H M μ o u) : RepO K H M2 μ2 (o.ren f) u := by
  cases o with
  | lst l => obtain ⟨vs, e, r⟩ := h; exact ⟨vs, e, RepL.ren hM hf hp r⟩
  | ins c fs => obtain ⟨dx, vs, e, k, r⟩ := h; exact ⟨dx, vs, e, by rw [renP_k]; exact k, by rw [renP_v]; exact RepL.ren hM hf hp r⟩
  | dct l => obtain ⟨vs, e, k, r⟩ := h; exact ⟨vs, e, by rw [renP_k]; exact k, by rw [renP_v]; exact RepL.ren hM hf hp r⟩
theorem nd_of : ∀ {l : List Nat}, ndN l = true → l.Nodup
  | [], _ => List.nodup_nil
  | x :: r, h => by
    simp only [ndN, Bool.and_eq_true, Bool.not_eq_true', List.contains_eq_mem, decide_eq_false_iff_not] at h
    exact List.nodup_cons.mpr ⟨h.1, nd_of h.2⟩
theorem pos_get : ∀ {l : List Nat} {k : Nat}, k ∈ l → l[posN l k]? = some k
  | [], _, h => by simp at h
  | x :: r, k, h => by
    unfold posN
    by_cases e : x = k
    · rw [if_pos e, e]; rfl
    · rw [if_neg e]
      rcases List.mem_cons.mp h with z | z
      · exact absurd z.symm e
      · simpa using pos_get z
theorem sub_get {f : Nat → Nat} : ∀ {idx : List Nat}, (∀ i ∈ idx, ∃ o, S[i]? = some o) → ∀ j : Nat, (idx.filterMap fun i => (S[i]?).map (O.ren f))[j]? = (idx[j]?).bind fun i => (S[i]?).map (O.ren f)
  | [], _, j => by simp
  | x :: r, h, j => by
    obtain ⟨o, e⟩ := h x List.mem_cons_self
    rw [List.filterMap_cons_some (by rw [e]; rfl)]
    cases j with
    | zero => simp [e]
    | succ j => simpa using sub_get (fun i hi => h i (List.mem_cons_of_mem _ hi)) j
theorem sub_len {f : Nat → Nat} : ∀ {idx : List Nat}, (∀ i ∈ idx, ∃ o, S[i]? = some o) → (idx.filterMap fun i => (S[i]?).map (O.ren f)).length = idx.length
  | [], _ => rfl
  | x :: r, h => by
    obtain ⟨o, e⟩ := h x List.mem_cons_self
    rw [List.filterMap_cons_some (by rw [e]; rfl)]
    simp [sub_len (fun i hi => h i (List.mem_cons_of_mem _ hi))]
theorem back_len {f : Nat → Nat} : ∀ {idx : List Nat} {T S : Ev.Sto}, (putBack f idx T S).length = S.length
  | [], _, _ => rfl
  | _ :: r, [], S => by unfold putBack; exact back_len (idx := r)
  | _ :: r, _ :: _, S => by unfold putBack; rw [back_len (idx := r)]; simp
theorem back_not {f : Nat → Nat} {n : Nat} : ∀ {idx : List Nat} {T S : Ev.Sto}, n ∉ idx → (putBack f idx T S)[n]? = S[n]?
  | [], _, _, _ => rfl
  | i :: r, [], S, h => by unfold putBack; exact back_not fun z => h (List.mem_cons_of_mem _ z)
  | i :: r, _ :: _, S, h => by
    unfold putBack
    rw [back_not fun z => h (List.mem_cons_of_mem _ z)]
    exact List.getElem?_set_ne fun z => h (by rw [← z]; exact List.mem_cons_self)
theorem back_at {f : Nat → Nat} {i : Nat} {o : O} : ∀ {idx : List Nat} {T S : Ev.Sto} {j : Nat}, idx.Nodup → idx[j]? = some i → T[j]? = some o → i < S.length → (putBack f idx T S)[i]? = some (o.ren f)
  | [], _, _, _, _, h, _, _ => by simp at h
  | x :: r, [], _, _, _, _, h, _ => by simp at h
  | x :: r, t :: T, S, 0, nd, h, h2, hl => by
    simp at h h2
    subst h h2
    unfold putBack
    rw [back_not (List.nodup_cons.mp nd).1]
    exact List.getElem?_set_self hl
  | x :: r, t :: T, S, j + 1, nd, h, h2, hl => by
    unfold putBack
    exact back_at (List.nodup_cons.mp nd).2 (by simpa using h) (by simpa using h2) (by simpa using hl)
/-- the places of what a call sees -/
def subMu (idx : List Nat) (μ : List Addr) : List Addr := idx.map fun i => μ.getD i 0
structure SubOk (K : PySem.W.Frag) (H : Hp) (M : Addr → Prop) (μ : List Addr) (S : Ev.Sto) (ds : List D) (idx : List Nat) : Prop where
  nd : idx.Nodup
  has : ∀ i ∈ idx, ∃ o, S[i]? = some o ∧ fitL (fun k => idx.contains k) o.ds = true
  fit : fitL (fun k => idx.contains k) ds = true
  fwd : ∀ k a, idx.contains k = true → μ[k]? = some a → (subMu idx μ)[posN idx k]? = some a
  bwd : ∀ j a, (subMu idx μ)[j]? = some a → μ[idx.getD j 0]? = some a
  sok : SOk K H M (subMu idx μ) (subSto S idx)
theorem subOk_is {ds : List D} {idx : List Nat} (hS : SOk K H M μ S) (h : subOk S ds idx = true) : SubOk K H M μ S ds idx := by
  unfold subOk at h
  simp only [Bool.and_eq_true, List.all_eq_true] at h
  obtain ⟨h1, h2, h3⟩ := h
  have has : ∀ i ∈ idx, ∃ o, S[i]? = some o ∧ fitL (fun k => idx.contains k) o.ds = true := fun i hi => by
    have q := h3 i hi
    split at q
    · rename_i o e
      exact ⟨o, e, q⟩
    · cases q
  have lt : ∀ i ∈ idx, i < μ.length := fun i hi => by
    obtain ⟨o, e, _⟩ := has i hi
    rw [hS.len]
    exact (List.getElem?_eq_some_iff.mp e).1
  have gd : ∀ i ∈ idx, μ[i]? = some (μ.getD i 0) := fun i hi => by
    rw [List.getD_eq_getElem?_getD, List.getElem?_eq_getElem (lt i hi)]; rfl
  have fwd : ∀ k a, idx.contains k = true → μ[k]? = some a → (subMu idx μ)[posN idx k]? = some a := fun k a hk e => by
    have hk' : k ∈ idx := by simpa using hk
    unfold subMu
    rw [List.getElem?_map, pos_get hk']
    have := gd k hk'
    rw [e] at this
    simpa using this.symm
  have nd := nd_of h1
  refine ⟨nd, has, h2, fwd, fun j a e => ?_, ⟨?_, ?_, fun a ha => ?_, hS.mt, fun n o e => ?_⟩⟩
  · unfold subMu at e
    rw [List.getElem?_map] at e
    cases ej : idx[j]? with
    | none => rw [ej] at e; cases e
    | some i =>
      rw [ej] at e
      have e := Option.some.inj e
      have : idx.getD j 0 = i := by rw [List.getD_eq_getElem?_getD, ej]; rfl
      rw [this, gd i (List.mem_of_getElem? ej)]
      exact congrArg some e
  · unfold subMu subSto
    rw [List.length_map, sub_len fun i hi => let ⟨o, e, _⟩ := has i hi; ⟨o, e⟩]
  · unfold subMu
    refine List.pairwise_map.mpr (List.Pairwise.imp_of_mem (fun {i j} hi hj hne e => hne ?_) nd)
    have e1 := gd i hi
    have e2 := gd j hj
    rw [e] at e1
    rw [← e2] at e1
    exact (List.getElem?_inj (lt i hi) hS.nd).mp e1
  · obtain ⟨i, hi, rfl⟩ := List.mem_map.mp ha
    exact hS.sub _ (List.mem_of_getElem? (gd i hi))
  · unfold subSto at e
    rw [sub_get (fun i hi => let ⟨o, e, _⟩ := has i hi; ⟨o, e⟩)] at e
    cases ej : idx[n]? with
    | none => rw [ej] at e; cases e
    | some i =>
      rw [ej] at e
      obtain ⟨o1, e1, f1⟩ := has i (List.mem_of_getElem? ej)
      have e : (S[i]?).map (O.ren (posN idx)) = some o := e
      rw [e1] at e
      cases e
      obtain ⟨a, u, g1, g2, g3⟩ := hS.obj i o1 e1
      refine ⟨a, u, ?_, g2, RepO.ren (fun _ z => z) fwd f1 g3⟩
      unfold subMu
      rw [List.getElem?_map, ej]
      have := gd i (List.mem_of_getElem? ej)
      rw [g1] at this
      simpa using this.symm
/-- the callee saw what it was handed -/
theorem leave_sub {ds : List D} {idx : List Nat} {d : D} {v : V} (hS : SOk K H M μ S) (ok : SubOk K H M μ S ds idx) (x : Ext H M (subMu idx μ) H1 M1 μ1) (hS1 : SOk K H1 M1 μ1 S1) (r : Rep K H1 M1 μ1 d v) (h : Post (RV K) K (outSub idx S d S1) H M μ Q) : Q v H1 := by
  have lm : (subMu idx μ).length = idx.length := by unfold subMu; simp
  have hpre : μ1.take idx.length = subMu idx μ := by
    have := bel_len ok.sok x hS1
    rw [lm] at this
    exact this
  have le : idx.length ≤ μ1.length := by
    have := congrArg List.length hpre
    rw [lm, List.length_take] at this
    omega
  unfold outSub at h
  split at h
  · rename_i d' hg
    split at h
    · rename_i hb
      have sub : ∀ a ∈ subMu idx μ, a ∈ μ := fun a ha => by
        obtain ⟨j, hj, ej⟩ := List.mem_iff_getElem.mp ha
        exact List.mem_of_getElem? (ok.bwd j a (by rw [List.getElem?_eq_getElem hj, ej]))
      have x' : Ext H M μ H1 M μ := ⟨fun a o e hn => x.keep a o e fun z => hn (sub a z), x.kind, List.prefix_refl _, fun _ z => z, fun _ z => .inl z, fun _ z => .inl z⟩
      have bw : ∀ k a, (fun _ => true) k = true → (subMu idx μ)[k]? = some a → μ[idx.getD k 0]? = some a := fun k a _ e => ok.bwd k a e
      have r1 : Rep K H1 M (subMu idx μ) d' v := gcv_ok (n := idx.length) ok.sok hS1 x.old (fun a ha => x.nmu a ha) hpre r hg
      refine h v H1 M μ x' ⟨by rw [back_len]; exact hS.len, hS.nd, hS.sub, fun a ha => hS1.mt a (x.old a ha), fun n o e => ?_⟩ (Rep.ren (fun _ z => z) bw (fit_all _) r1)
      by_cases hn : n ∈ idx
      · obtain ⟨j, hj, ej⟩ := List.mem_iff_getElem.mp hn
        have ej' : idx[j]? = some n := by rw [List.getElem?_eq_getElem hj, ej]
        have hj1 : j < S1.length := by rw [← hS1.len]; omega
        obtain ⟨o0, e0, _⟩ := ok.has n hn
        have hl : n < S.length := (List.getElem?_eq_some_iff.mp e0).1
        rw [back_at ok.nd ej' (List.getElem?_eq_getElem hj1) hl] at e
        cases e
        obtain ⟨a, u, g1, g2, g3⟩ := hS1.obj j _ (List.getElem?_eq_getElem hj1)
        have hbj : (S1[j]).bel idx.length = true := by
          refine List.all_eq_true.mp hb _ ?_
          refine List.mem_of_getElem? (i := j) ?_
          rw [List.getElem?_take_of_lt hj, List.getElem?_eq_getElem hj1]
        have g1' : (subMu idx μ)[j]? = some a := by
          rw [← hpre, List.getElem?_take_of_lt hj]; exact g1
        have gd : idx.getD j 0 = n := by rw [List.getD_eq_getElem?_getD, ej']; rfl
        have q := ok.bwd j a g1'
        rw [gd] at q
        exact ⟨a, u, q, g2, RepO.ren (fun _ z => z) bw (fitL_all _) (g3.down' (M := M) (fun _ _ b z => RepL.down x.old hpre.symm b z) hbj)⟩
      · rw [back_not hn] at e
        obtain ⟨a, u, g1, g2, g3⟩ := hS.obj n o e
        refine ⟨a, u, g1, x.keep a u g2 fun z => ?_, g3.imp fun l vs z => RepL.of hS x' z⟩
        obtain ⟨j, hj, ej⟩ := List.mem_iff_getElem.mp z
        have q := ok.bwd j a (by rw [List.getElem?_eq_getElem hj, ej])
        have hi : idx.getD j 0 ∈ idx := by
          rw [List.getD_eq_getElem?_getD, List.getElem?_eq_getElem (by omega)]
          exact List.getElem_mem _
        have hlt := (List.getElem?_eq_some_iff.mp g1).1
        rw [← q] at g1
        have : n = idx.getD j 0 := (List.getElem?_inj hlt hS.nd).mp g1
        exact hn (this ▸ hi)
    · exact False.elim h
  · exact False.elim h
theorem slt_start {N : List Str} {ds : List D} {vs : List V} (r : RepL K H M μ ds vs) (hl : vs.length ≤ N.length) : Slt K H M μ (ds.map some ++ List.replicate (N.length - ds.length) none) (start N vs) := by
  have e := r.len
  refine ⟨?_, fun i d h => ?_⟩
  · simp [L2.start]; omega
  · by_cases hi : i < ds.length
    · rw [List.getElem?_append_left (by simpa using hi), List.getElem?_map] at h
      cases ed : ds[i]? with
      | none => rw [ed] at h; cases h
      | some d' =>
        rw [ed] at h
        cases h
        obtain ⟨v, e1, h1⟩ := r.get ed
        refine ⟨v, ?_, h1⟩
        unfold L2.start
        rw [List.getElem?_append_left (by simpa [← e] using hi), List.getElem?_map, e1]
        rfl
    · rw [List.getElem?_append_right (by simpa using hi), List.getElem?_replicate] at h
      split at h <;> cases h
end
/-! ### all defs -/
/-- how a def of the program lies, and its core text -/
structure LiesF (K : PySem.W.Frag) (kwp : List (Str × Nat × List Str × List Nat)) (own glb cls gdt : List Str) (d : Ev.Def) (f : Addr) (fd : FuncData) (ps : List Str) : Prop where
  ex : ∃ (st : Stmt) (x qual : Str) (N chg : List Str) (inn chr : Bool) (n : Nat), C8.Fun K x qual st f fd ∧ FnScope N ps (C8.fnScope st) ∧ d.par = ps.length ∧ d.loc = N.length ∧
    cSs kwp n ⟨N, C8.fnScope st, own, glb, chg, d.keep, inn, chr, cls, gdt⟩ (C8.fnBody st) = some d.body
  bnd : ∀ (s : Shared) (us : List Value), us.length = ps.length → K.In s.heap → BindsTo s fd ⟨us, []⟩ (ps.zip us)
structure Lies (K : PySem.W.Frag) (mg : Str → Option Value) (kwp : List (Str × Nat × List Str × List Nat)) (own glb cls gdt : List Str) (x : Str) (d : Ev.Def) : Prop where
  ex : ∃ (f : Addr) (fd : FuncData) (ps : List Str), LiesF K kwp own glb cls gdt d f fd ps ∧ mg x = some (.ref f) ∧ PySem.W.keepIn K (.ref f) = true ∧
    (∀ (n : Nat) (ks : List Str) (perm : List Nat), (x, n, ks, perm) ∈ kwp → ∀ (s : Shared) (us ws : List Value), us.length = n → ws.length = ks.length → K.In s.heap → BindsTo s fd ⟨us, ks.zip ws⟩ (ps.zip (us ++ pick perm ws)))
/-- a key's def lies at f -/
def KeyL (K : PySem.W.Frag) (kwp : List (Str × Nat × List Str × List Nat)) (own glb cls gdt : List Str) (pg : Ev.Prog) (key : Str) (f : Addr) : Prop :=
  ∃ (d : Ev.Def) (fd : FuncData) (ps : List Str), pg.defs.lookup key = some d ∧ LiesF K kwp own glb cls gdt d f fd ps
/-- the classes and the module's dicts as they lie -/
structure ClsL (K : PySem.W.Frag) (w : World) (mg : Str → Option Value) (kwp : List (Str × Nat × List Str × List Nat)) (own glb cls gdt : List Str) (pg : Ev.Prog) : Prop where
  fld : ∀ c f, (gam pg 0 0).fld c f = true → Cls K (clsA K c) ∧ NoAttr K (clsA K c) f
  mth : ∀ c m key, (gam pg 0 0).mth c m = some key → Cls K (clsA K c) ∧ ∃ f, Meth K (clsA K c) m f ∧ KeyL K kwp own glb cls gdt pg key f
  prp : ∀ c m key, (gam pg 0 0).prp c m = some key → Cls K (clsA K c) ∧ ∃ p f, PropOf K (clsA K c) m p f ∧ KeyL K kwp own glb cls gdt pg key f
  ini : ∀ c key, (gam pg 0 0).ini c = some key → mg c = some (.ref (clsA K c)) ∧ ∃ f, Mk K (clsA K c) f ∧ KeyL K kwp own glb cls gdt pg key f
  dts : ∀ x l, pg.gdts.lookup x = some l → ∃ d es n, mg x = some (.ref d) ∧ KDict K w d es n ∧ (∀ z, l.lookup z = none → PySem.W.nsIn K d z = some none) ∧
    (∀ z dv, l.lookup z = some dv → ∃ u0 v0, PySem.W.nsIn K d z = some (some u0) ∧ RelV v0 u0 ∧ ∀ H M μ, Rep K H M μ dv v0)
  isi : ∀ c key, (gam pg 0 0).ini c = some key → IsF K (clsA K c)
  cln : ∀ c ∈ cls, ∃ key, (gam pg 0 0).ini c = some key
  gdn : ∀ x ∈ gdt, ∃ l, pg.gdts.lookup x = some l
section
variable {P : Program} {w : World} {K : PySem.W.Frag} {mg : Str → Option Value} {base : Heap} {kwp : List (Str × Nat × List Str × List Nat)} {own glb cls gdt : List Str} {pg : Ev.Prog} {wf : Nat}
/-- what holds of calls k deep -/
structure Told (P : Program) (w : World) (K : PySem.W.Frag) (mg : Str → Option Value) (base : Heap) (kwp : List (Str × Nat × List Str × List Nat)) (own glb cls gdt : List Str) (pg : Ev.Prog) (wf k : Nat) : Prop where
  fn : ∀ x ∈ own, FnV P w K mg base kwp k x (callN pg wf k x)
  m : ∀ key f, KeyL K kwp own glb cls gdt pg key f → FnM P w K mg base k f (callN pg wf k key)
theorem clsF_of {k : Nat} {X : Cx} (L : ClsL X.K X.w X.mg kwp own glb cls gdt pg) (h0 : Told X.prog X.w X.K X.mg X.base kwp own glb cls gdt pg wf k) (h1 : Told X.prog X.w X.K X.mg X.base kwp own glb cls gdt pg wf (k - 1)) : ClsF (gam pg wf k) k X where
  fld := L.fld
  mth c m key h := by
    obtain ⟨a, f, b, z⟩ := L.mth c m key h
    exact ⟨a, f, b, h0.m key f z⟩
  prp c m key h := by
    obtain ⟨a, p, f, b, z⟩ := L.prp c m key h
    refine ⟨a, p, f, b, ?_⟩
    have q := h1.m key f z
    cases k with
    | zero => exact q
    | succ k => exact q
  ini c key h := by
    obtain ⟨a, f, b, z⟩ := L.ini c key h
    refine ⟨a, f, b, ?_⟩
    have q := h1.m key f z
    cases k with
    | zero => exact q
    | succ k => exact q
  low e key ds S := by subst e; rfl
  gdt := L.dts
  isi := L.isi
theorem fnG_zero {key : Str} {f : Addr} {fd : FuncData} {ps : List Str} : FnG P w K mg base 0 f fd ps (spG K (callN pg wf 0 key)) := by
  have no : ∀ vs H Q, ¬ spG K (callN pg wf 0 key) vs H Q := fun vs H Q ⟨_, _, _, _, _, _, z⟩ => z
  exact ⟨fun vs H Q z => absurd z (no vs H Q), fun A outer s H args us vs Q _ _ _ _ _ z => absurd z (no vs H Q)⟩
theorem fnG_succ {k : Nat} {key : Str} {d : Ev.Def} {f : Addr} {fd : FuncData} {ps : List Str} (hd1 : pg.defs.lookup key = some d) (LF : LiesF K kwp own glb cls gdt d f fd ps) (hb : ∀ x ∈ bltNames, x ∉ own → mg x = none)
    (hg : ∀ x ∈ glb, ∀ d, pg.glbs.lookup x = some d → ∃ v u, mg x = some u ∧ RelV v u ∧ ∀ H M μ, Rep K H M μ d v) (L : ClsL K w mg kwp own glb cls gdt pg)
    (t0 : Told P w K mg base kwp own glb cls gdt pg wf k) (t1 : Told P w K mg base kwp own glb cls gdt pg wf (k - 1)) : FnG P w K mg base (k + 1) f fd ps (spG K (callN pg wf (k + 1) key)) := by
  obtain ⟨st, x, qual, N, chg, inn, chr, n, l1, l4, l5, l6, l7⟩ := LF.ex
  have hpl : ps.length ≤ N.length := by have := congrArg List.length l4.pre; rw [List.length_take] at this; omega
  refine fnG_of l1 l4 (fun vs H Q z => ?_) (fun cdv A outer s H vs Q hr hgd z => ?_)
  · obtain ⟨ds, S, M, μ, hS, r, hp⟩ := z
    rw [← r.len, ← l5]
    rw [callN_succ] at hp
    unfold stepN at hp
    rw [hd1] at hp
    dsimp only at hp
    split at hp
    · unfold runDef at hp
      split at hp
      · assumption
      · exact False.elim hp
    · split at hp
      · unfold runDef at hp
        split at hp
        · rename_i hq
          rw [renL_len] at hq
          exact hq
        · exact False.elim hp
      · unfold runDef at hp
        split at hp
        · assumption
        · exact False.elim hp
  · obtain ⟨ds, S, M, μ, hS, r, hp⟩ := z
    rw [callN_succ] at hp
    unfold stepN at hp
    rw [hd1] at hp
    dsimp only at hp
    have G : Good kwp ⟨N, C8.fnScope st, own, glb, chg, d.keep, inn, chr, cls, gdt⟩ (gam pg wf k) k (cxOf CX0 P w K mg base N qual (C8.fnScope st) f cdv A outer s H E0).nox :=
      ⟨⟨rfl, by have := hr.un; show (A.deeper _).units + 150 < cLine; omega, l4.nd, hgd⟩, rfl, rfl, l4.kind, hr, rfl, hb, hg, t0.fn, clsF_of L t0 t1, L.cln, L.gdn⟩
    refine ⟨_, (s_all n _ _ k _ G rfl).2 _ _ l7, ?_⟩
    split at hp
    · rename_i hb0
      unfold runDef at hp
      split at hp
      · rename_i hlen
        rw [l6, bind_assoc] at hp
        have hS0 : SOk K H M [] [] := ⟨rfl, by simp, by simp, hS.mt, fun n l e => by simp at e⟩
        have r0 : RepL K H M [] ds vs := RepL.down (n := 0) (fun _ z => z) (by simp) hb0 r
        refine ⟨_, [], M, [], hS0, slt_start r0 (by rw [← r0.len, hlen, l5]; exact hpl), ?_⟩
        cases he : evSs (gam pg wf k) d.body (ds.map some ++ List.replicate (N.length - ds.length) none) [] with
        | ok fl S1 =>
          rw [he] at hp
          intro H1 M1 μ1 x1 s1
          cases fl with
          | nx σ1 => exact fun σ' _ => leave_pure (d := .non) (v := .non) hS x1 s1 (show V.non = V.non from rfl) hp
          | rt v => exact fun w rw_ => leave_pure hS x1 s1 rw_ hp
          | bk _ => exact False.elim hp
          | ct _ => exact False.elim hp
        | err _ _ _ => rw [he] at hp; exact False.elim hp
        | no => rw [he] at hp; exact False.elim hp
      · exact False.elim hp
    · split at hp
      · rename_i hs
        have ok := subOk_is hS hs.2
        have r0 := RepL.ren (fun _ z => z) ok.fwd ok.fit r
        unfold runDef at hp
        split at hp
        · rename_i hlen
          rw [l6, bind_assoc] at hp
          refine ⟨_, _, M, _, ok.sok, slt_start r0 (by rw [← r0.len, hlen, l5]; exact hpl), ?_⟩
          cases he : evSs (gam pg wf k) d.body ((renL (posN (rch S 500 (locsL ds) [])) ds).map some ++ List.replicate (N.length - (renL (posN (rch S 500 (locsL ds) [])) ds).length) none) (subSto S (rch S 500 (locsL ds) [])) with
          | ok fl S1 =>
            rw [he] at hp
            intro H1 M1 μ1 x1 s1
            cases fl with
            | nx σ1 => exact fun σ' _ => leave_sub (d := .non) (v := .non) hS ok x1 s1 (show V.non = V.non from rfl) hp
            | rt v => exact fun w rw_ => leave_sub hS ok x1 s1 rw_ hp
            | bk _ => exact False.elim hp
            | ct _ => exact False.elim hp
          | err _ _ _ => rw [he] at hp; exact False.elim hp
          | no => rw [he] at hp; exact False.elim hp
        · exact False.elim hp
      · unfold runDef at hp
        split at hp
        · rename_i hlen
          rw [l6, bind_assoc] at hp
          refine ⟨_, S, M, μ, hS, slt_start r (by rw [← r.len, hlen, l5]; exact hpl), ?_⟩
          cases he : evSs (gam pg wf k) d.body (ds.map some ++ List.replicate (N.length - ds.length) none) S with
          | ok fl S1 =>
            rw [he] at hp
            intro H1 M1 μ1 x1 s1
            cases fl with
            | nx σ1 => exact fun σ' _ => leave_gc (d := .non) (v := .non) hS x1 s1 (show V.non = V.non from rfl) hp
            | rt v => exact fun w rw_ => leave_gc hS x1 s1 rw_ hp
            | bk _ => exact False.elim hp
            | ct _ => exact False.elim hp
          | err _ _ _ => rw [he] at hp; exact False.elim hp
          | no => rw [he] at hp; exact False.elim hp
        · exact False.elim hp
theorem told_all (hd : ∀ x ∈ own, ∃ d, pg.defs.lookup x = some d ∧ Lies K mg kwp own glb cls gdt x d) (hb : ∀ x ∈ bltNames, x ∉ own → mg x = none)
    (hg : ∀ x ∈ glb, ∀ d, pg.glbs.lookup x = some d → ∃ v u, mg x = some u ∧ RelV v u ∧ ∀ H M μ, Rep K H M μ d v) (L : ClsL K w mg kwp own glb cls gdt pg) :
    ∀ k, Told P w K mg base kwp own glb cls gdt pg wf k ∧ Told P w K mg base kwp own glb cls gdt pg wf (k - 1)
  | 0 => by
    have t : Told P w K mg base kwp own glb cls gdt pg wf 0 := ⟨fun x hx => by
      obtain ⟨d, hd1, Lx⟩ := hd x hx
      obtain ⟨f, fd, ps, LF, l2, l3, l9⟩ := Lx.ex
      exact ⟨f, fd, ps, l2, l3, fnG_zero, LF.bnd, l9⟩, fun key f ⟨d, fd, ps, h1, LF⟩ => ⟨fd, ps, fnG_zero, LF.bnd⟩⟩
    exact ⟨t, t⟩
  | k + 1 => by
    obtain ⟨t0, t1⟩ := told_all hd hb hg L k
    refine ⟨⟨fun x hx => ?_, fun key f ⟨d, fd, ps, h1, LF⟩ => ⟨fd, ps, fnG_succ h1 LF hb hg L t0 t1, LF.bnd⟩⟩, t0⟩
    obtain ⟨d, hd1, Lx⟩ := hd x hx
    obtain ⟨f, fd, ps, LF, l2, l3, l9⟩ := Lx.ex
    exact ⟨f, fd, ps, l2, l3, fnG_succ hd1 LF hb hg L t0 t1, LF.bnd, l9⟩
theorem fnv_all (hd : ∀ x ∈ own, ∃ d, pg.defs.lookup x = some d ∧ Lies K mg kwp own glb cls gdt x d) (hb : ∀ x ∈ bltNames, x ∉ own → mg x = none)
    (hg : ∀ x ∈ glb, ∀ d, pg.glbs.lookup x = some d → ∃ v u, mg x = some u ∧ RelV v u ∧ ∀ H M μ, Rep K H M μ d v) (L : ClsL K w mg kwp own glb cls gdt pg) (k : Nat) : ∀ x ∈ own, FnV P w K mg base kwp k x (callN pg wf k x) :=
  (told_all hd hb hg L k).1.fn
end
end Ev

/-! A law's end: from the evaluator's answer to the row. -/
namespace Ev
open PySem PySem.Spec PyProof.Rows L2
/-- the law's def is called with the script -/
theorem callG {P : Program} {w : World} {K : PySem.W.Frag} {mg mb : Str → Option Value} {k : Nat} {fa a : Addr} {x : Str} {kwp : List (Str × Nat × List Str × List Nat)} {call : List D → Ev.Sto → R D} {s1 : Shared} {us : List Value} {ns : List Int}
    (KX : K.In s1.heap) (hns : s1.heap.Ns mainGlobals mg) (hb : s1.heap.Ns builtinsNs mb) (hbb : ∀ x : Str, x ≠ "__name__" → mb x = bootBuiltins x) (hlim : s1.heap.NoLimit) (hg : s1.gens = #[])
    (ha : s1.heap.get? a = some { cls := .type "list", data := .seq us.toArray }) (hi : IntsAre us ns) (hl : ns.length ≤ sizeLine) (hr : Room k callerA)
    (hmg : mg x = some (.ref fa)) (F : ∀ base : Heap, FnV P w K mg base kwp k x call) (hsp : ∀ H : Hp, Only H → SqL K H a (ns.map V.int) → spG K call [.ref a] H fun v _ => v = .bl true) :
    codeAny (model P w) callerA (.call (.ref fa) ⟨[.ref a], []⟩) (fun r s' => r = .ok (.ret (.bool true)) ∧ OldK s1.heap s'.heap ∧ s'.os = s1.os ∧ AllBare s'.gens) s1 := by
  have rl := vals_ints hi
  have ln := hi.length
  have whole : ∀ H : Hp, Only H → SqL K H a (ns.map V.int) → HOk P w H s1.heap → (∀ b, H b ≠ none → b = a) → (H a ≠ none → K.lookup a = none) →
      codeAny (model P w) callerA (.call (.ref fa) ⟨[.ref a], []⟩) (fun r s' => r = .ok (.ret (.bool true)) ∧ OldK s1.heap s'.heap ∧ s'.os = s1.os ∧ AllBare s'.gens) s1 := by
    intro H only sq hok one out
    have nodict : ∀ {b : Addr} {o : Obj} {es : Array DictEntry} {ep : Nat}, s1.heap.get? b = some o → o.data = .dict es ep → H b = none := fun {b o es ep} e d => by
      cases q : H b with
      | none => rfl
      | some z =>
        have eb : b = a := one b (by rw [q]; simp)
        subst eb
        rw [ha] at e
        cases e
        have no : Data.seq us.toArray _ = Data.dict es ep := d
        cases no
    have names : ∀ {b : Addr} {m : Str → Option Value}, s1.heap.Ns b m → (hidT s1.heap H).Ns b m := fun {b m} ⟨o, es, ep, e, d, r⟩ => ⟨o, es, ep, hidT_get e (nodict e d), d, r⟩
    have kin : K.In (hidT s1.heap H) := fun b o e => hidT_get (KX b o e) (by
      cases q : H b with
      | none => rfl
      | some z =>
        have eb : b = a := one b (by rw [q]; simp)
        subst eb
        rw [out (by rw [q]; simp)] at e
        cases e)
    have md : Mod K mg (hidT s1.heap H) := ⟨kin, names hns, ⟨mb, names hb, hbb⟩, let ⟨mc, h1, h2⟩ := hlim; ⟨mc, names h1, h2⟩⟩
    have en : Env0 P w K mg (hidT s1.heap H) callerA [] s1 H := ⟨rfl, md, fun b o e => of_hidT e, Nat.le_of_eq (hidT_size _ _), trivial, fun b hb => absurd (show b ∈ ([] : List Addr) from hb) (by simp), hok, .of_eq hg⟩
    obtain ⟨f, fd, ps, m1, m2, m3, m4, _⟩ := (F (hidT s1.heap H)).ex
    have ef : f = fa := by rw [hmg] at m1; cases m1; rfl
    subst ef
    have wish := hsp H only sq
    have run := m3.run callerA [] s1 H ⟨[.ref a], []⟩ [.ref a] [.ref a] _ hr rfl en (m4 s1 [.ref a] (m3.len _ _ _ wish) KX) (.cons rfl .nil) wish
    refine codeAny_mono run fun r s' h => ?_
    cases r with
    | error e => exact False.elim h
    | ok fl =>
      cases fl with
      | next => exact False.elim h
      | brk => exact False.elim h
      | cont => exact False.elim h
      | ret u =>
        obtain ⟨v, H', os, bare, un, hok', r', q⟩ := h
        have qv : v = .bl true := q
        subst qv
        obtain rfl : u = Value.bool true := r'
        refine ⟨rfl, OldK.of_keep fun b o e => ?_, os, bare⟩
        cases q : H b with
        | none => exact un.keep b o e q (by intro z; exact absurd (show b ∈ ([] : List Addr) from z) (by simp)) (by simp)
        | some z =>
          rcases only b with y | ⟨ob, xs, y⟩
          · rw [q] at y; cases y
          · have y2 := un.frzs b ob _ y
            obtain ⟨e1, _⟩ := hok b _ y
            obtain ⟨e2, _⟩ := hok' b _ y2
            rw [e] at e1
            cases e1
            exact e2
  cases hk : K.lookup a with
  | some o =>
    have e := KX a o hk
    rw [ha] at e
    cases e
    refine whole (fun _ => none) (fun _ => .inl rfl) (.inr ⟨_, us.toArray, _, hk, rfl, rfl, rfl, by rw [List.size_toArray, ln]; exact hl, by simpa using rl⟩) (fun b u z => by have y : (none : Option HO) = some u := z; cases y) (fun b z => absurd rfl z) fun z => absurd rfl z
  | none =>
    refine whole (fun b => if b = a then some (.frz { cls := .type "list", data := .seq us.toArray } (.lst (ns.map V.int))) else none) (fun b => ?_) (.inl (.inr ⟨{ cls := .type "list", data := .seq us.toArray }, if_pos rfl⟩)) (fun b u z => ?_) (fun b z => ?_) fun _ => hk
    · by_cases eb : b = a
      · exact .inr ⟨_, _, if_pos eb⟩
      · exact .inl (if_neg eb)
    · by_cases eb : b = a
      · have y := (if_pos eb).symm.trans z
        cases y
        subst eb
        exact ⟨ha, by rw [List.length_map]; exact hl, us, _, rl, ha⟩
      · have y := (if_neg eb).symm.trans z
        cases y
    · by_cases eb : b = a
      · exact eb
      · exact absurd (if_neg eb) z
/-! ### the head's data -/
def relD : D → Value → Bool
  | .non, .none => true
  | .bl b, .bool c => b == c
  | .int i, .int j _ => decide (i = j)
  | .str x, .str y _ => decide (x = y)
  | _, _ => false
mutual
/-- data that lies behind the top -/
def datB (K : PySem.W.Frag) : D → Value → Bool
  | .tup l, .ref a => match K.lookup a with
    | some ⟨.type c, _, .seq its _, _⟩ => decide (c = "tuple") && (decide (its.size ≤ sizeLine) && datL K l its.toList)
    | _ => false
  | .frl l, .ref a => match K.lookup a with
    | some ⟨.type c, none, .seq its _, _⟩ => decide (c = "list") && (decide (its.size ≤ sizeLine) && datL K l its.toList)
    | _ => false
  | d, u => relD d u
def datL (K : PySem.W.Frag) : List D → List Value → Bool
  | [], [] => true
  | d :: r, u :: us => datB K d u && datL K r us
  | _, _ => false
end
theorem relD_ok {K : PySem.W.Frag} {d : D} {u : Value} (h : relD d u = true) : ∃ v, RelV v u ∧ ∀ H M μ, Rep K H M μ d v := by
  cases d with
  | non => cases u <;> first | exact ⟨.non, rfl, fun _ _ _ => rfl⟩ | cases h
  | bl b => cases u <;> first | (rename_i c; exact ⟨.bl b, by have := (show b = c by simpa [relD] using h); subst this; rfl, fun _ _ _ => rfl⟩) | cases h
  | int b => cases u <;> first | (rename_i c t; exact ⟨.int b, ⟨t, by have := (show b = c by simpa [relD] using h); subst this; rfl⟩, fun _ _ _ => rfl⟩) | cases h
  | str b => cases u <;> first | (rename_i c t; exact ⟨.str b, ⟨t, by have := (show b = c by simpa [relD] using h); subst this; rfl⟩, fun _ _ _ => rfl⟩) | cases h
  | tup l => cases u <;> cases h
  | frl l => cases u <;> cases h
  | loc n => cases u <;> cases h
  | emp => cases u <;> cases h
mutual
theorem datB_ok {K : PySem.W.Frag} : ∀ {d : D} {u : Value}, datB K d u = true → ∃ v, RelV v u ∧ ∀ H M μ, Rep K H M μ d v
  | .tup l, u, h => by
    cases u with
    | ref a =>
      unfold datB at h
      split at h
      · rename_i c od its n sl hl
        simp only [Bool.and_eq_true, decide_eq_true_eq] at h
        obtain ⟨rfl, h2, h3⟩ := h
        obtain ⟨vs, g1, g2⟩ := datL_ok h3
        exact ⟨.ref a, rfl, fun H M μ => ⟨a, vs, rfl, .inr ⟨_, its, n, hl, rfl, rfl, h2, g1⟩, g2 H M μ⟩⟩
      · cases h
    | _ => simp [datB, relD] at h
  | .frl l, u, h => by
    cases u with
    | ref a =>
      unfold datB at h
      split at h
      · rename_i c its n sl hl
        simp only [Bool.and_eq_true, decide_eq_true_eq] at h
        obtain ⟨rfl, h2, h3⟩ := h
        obtain ⟨vs, g1, g2⟩ := datL_ok h3
        exact ⟨.ref a, rfl, fun H M μ => ⟨a, vs, rfl, .inr ⟨_, its, n, hl, rfl, rfl, rfl, h2, g1⟩, g2 H M μ⟩⟩
      · cases h
    | _ => simp [datB, relD] at h
  | .non, u, h => relD_ok (by simpa [datB] using h)
  | .bl _, u, h => relD_ok (by simpa [datB] using h)
  | .int _, u, h => relD_ok (by simpa [datB] using h)
  | .str _, u, h => relD_ok (by simpa [datB] using h)
  | .loc _, u, h => relD_ok (by simpa [datB] using h)
  | .emp, u, h => relD_ok (by simpa [datB] using h)
theorem datL_ok {K : PySem.W.Frag} : ∀ {l : List D} {us : List Value}, datL K l us = true → ∃ vs, Vals vs us ∧ ∀ H M μ, RepL K H M μ l vs
  | [], us, h => by
    cases us with
    | nil => exact ⟨[], .nil, fun _ _ _ => rfl⟩
    | cons _ _ => simp [datL] at h
  | d :: r, us, h => by
    cases us with
    | nil => simp [datL] at h
    | cons u us =>
      simp only [datL, Bool.and_eq_true] at h
      obtain ⟨v, a1, a2⟩ := datB_ok h.1
      obtain ⟨vs, b1, b2⟩ := datL_ok h.2
      exact ⟨v :: vs, .cons a1 b1, fun H M μ => ⟨v, vs, rfl, a2 H M μ, b2 H M μ⟩⟩
end
/-- the module's constants stand as they are told -/
def glbB (l : List (Str × D)) (K : PySem.W.Frag) : Bool := l.all fun p => match PySem.W.nsIn K mainGlobals p.1 with
  | some (some u) => datB K p.2 u
  | _ => false
/-! ### the hook -/
/-- the getter of the property m of the class c -/
def prA (K : PySem.W.Frag) (p : Str × Option Str) : Addr := match p.2 with
  | some m => (match PySem.W.recIn K (He.ma K (He.ga K p.1) m) "property" with
    | some (.ref g :: _) => g
    | _ => 0)
  | none => 0
def fnWA (K : PySem.W.Frag) (a : Addr) : He.FnW := match K.lookup a with
  | some ⟨_, _, .func fd, _⟩ => some (fd.name, fd.qualname, fd.params, fd.body, fd.scope, fd.globals, fd.closure, fd.builtins)
  | _ => none
def okA (K : PySem.W.Frag) (a : Addr) (d : He.DefD) : Bool := PySem.W.keepIn K (.ref a) && (match K.lookup a with
  | some ⟨_, _, .func fd, _⟩ => PySem.W.codeIn K fd.code d.qual && (He.dflB K fd.defaults (d.dvs K) && He.kwdB K fd.kwdefaults (d.kws K))
  | _ => false)
theorem funA {K : PySem.W.Frag} {d : He.DefD} {a : Addr} (e : fnWA K a = d.val) (c : okA K a d = true) : ∃ fd, FunD K d.name d.qual d.params d.body d.scope (d.dvs K) (d.kws K) a fd := by
  unfold okA at c
  rw [Bool.and_eq_true] at c
  obtain ⟨kp, c2⟩ := c
  unfold fnWA at e
  cases q : K.lookup a with
  | none =>
    rw [q] at c2
    cases c2
  | some o =>
    obtain ⟨oc, od, dt, osl⟩ := o
    rw [q] at c2 e
    cases dt with
    | func fd =>
      obtain ⟨n1, n2, n3, n4, n5, n6, n7, n8, n9, n10, n11, n12, n13, n14, n15⟩ := fd
      have e2 : (some (n1, n2, n3, n4, n5, n6, n7, n15) : He.FnW) = some (d.name, d.qual, d.params, .stmts d.body, d.scope, mainGlobals, [], builtinsNs) := e
      simp only [Option.some.injEq, Prod.mk.injEq] at e2
      obtain ⟨h1, h2, h3, h4, h5, h6, h7, h8⟩ := e2
      subst h1 h2 h3 h4 h5 h6 h7 h8
      dsimp only at c2
      rw [Bool.and_eq_true, Bool.and_eq_true] at c2
      obtain ⟨k1, k3, k4⟩ := c2
      exact ⟨_, ⟨oc, od, n8, n9, n10, n11, n12, n13, n14, osl, rfl, q, k1, He.dflB_ok k3, He.kwdB_ok k4⟩, kp⟩
    | _ => cases c2
/-- what the module's names reach, code objects' own things left out -/
def growE (g : Addr → Option Obj) (as : List Addr) : List Addr := (as ++ as.flatMap fun a => match g a with
  | some o => (match o.cls with
    | .type c => if c = "code" then [] else He.refsD o
    | _ => He.refsD o)
  | none => []).eraseDups
def asE (g : Addr → Option Obj) : Nat → List Addr
  | 0 => [mainGlobals]
  | n + 1 => growE g (asE g n)
abbrev AlE : Type := He.AlT × List He.FnW × Bool
def obK (fa : List He.Fa) (fn : List He.DefD) (ts : List He.Tab) (gt : List He.DefD) (ex : PySem.W.Frag → Bool) (K : PySem.W.Frag) : AlE := (He.obsT fa fn ts K, gt.map (fun d => fnWA K (prA K d.at_)), ex K && gt.all fun d => okA K (prA K d.at_) d)
def obsE (n : Nat) (fa : List He.Fa) (fn : List He.DefD) (ts : List He.Tab) (gt : List He.DefD) (ex : PySem.W.Frag → Bool) (g : Addr → Option Obj) : AlE := obK fa fn ts gt ex (He.frG g (asE g n))
def valE (fn : List He.DefD) (ts : List He.Tab) (gt : List He.DefD) (w : World) : AlE := (He.valT fn ts w, gt.map He.DefD.val, true)
structure SaysE (fa : List He.Fa) (fn : List He.DefD) (ts : List He.Tab) (gt : List He.DefD) (ex : PySem.W.Frag → Bool) (w : World) (K : PySem.W.Frag) : Prop where
  t : He.SaysT fa fn ts w K
  g : gt.map (fun d => fnWA K (prA K d.at_)) = gt.map He.DefD.val
  x : ex K = true
  o : (gt.all fun d => okA K (prA K d.at_) d) = true
theorem saysE_of {fa : List He.Fa} {fn : List He.DefD} {ts : List He.Tab} {gt : List He.DefD} {ex : PySem.W.Frag → Bool} {w : World} {K : PySem.W.Frag} (e : obK fa fn ts gt ex K = valE fn ts gt w) : SaysE fa fn ts gt ex w K := by
  have h3 := Bool.and_eq_true_iff.mp (congrArg (fun z : AlE => z.2.2) e)
  exact ⟨congrArg (fun z : AlE => z.1) e, congrArg (fun z : AlE => z.2.1) e, h3.1, h3.2⟩
def hookE (n : Nat) (fa : List He.Fa) (fn : List He.DefD) (ts : List He.Tab) (gt : List He.DefD) (ex : PySem.W.Frag → Bool) : PySem.W.Hook where
  α := AlE
  obs := fun s => obsE n fa fn ts gt ex s.heap.get?
  val := fun w => valE fn ts gt w
  says := fun w h => ∃ K : PySem.W.Frag, K.In h ∧ SaysE fa fn ts gt ex w K
  of := fun _ _ e => ⟨_, He.frG_in, saysE_of e⟩
  keeps := fun _ _ _ ⟨K, hK, c⟩ k => ⟨K, PySem.W.Frag.In.keeps hK k, c⟩
theorem obsE_eq {n : Nat} {fa : List He.Fa} {fn : List He.DefD} {ts : List He.Tab} {gt : List He.DefD} {ex : PySem.W.Frag → Bool} {g : Addr → Option Obj} {s : Shared} (h : ∀ a, g a = s.heap.get? a) : obsE n fa fn ts gt ex g = (hookE n fa fn ts gt ex).obs s := by
  have e : g = s.heap.get? := funext h
  rw [e] <;> rfl
theorem SaysE.get {fa : List He.Fa} {fn : List He.DefD} {ts : List He.Tab} {gt : List He.DefD} {ex : PySem.W.Frag → Bool} {w : World} {K : PySem.W.Frag} (c : SaysE fa fn ts gt ex w K) (i : Nat) {d : He.DefD} (h : gt[i]? = some d := by rfl) : ∃ fd, FunD K d.name d.qual d.params d.body d.scope (d.dvs K) (d.kws K) (prA K d.at_) fd := by
  have e2 : (gt.map fun d => fnWA K (prA K d.at_))[i]? = (gt.map He.DefD.val)[i]? := by rw [c.g]
  rw [List.getElem?_map, List.getElem?_map, h] at e2
  exact funA (Option.some.inj e2) (List.all_eq_true.mp c.o d (List.mem_of_getElem? h))
/-! ### the classes' facts -/
def isfB (K : PySem.W.Frag) (c : Str) : Bool := (He.Fa.cls c).ok K && (He.eqO (PySem.W.findIn K (.ref (He.ga K c)) "__class__") (some (some (.builtin "object.__class__"))) && (He.eqO (PySem.W.specialIn K (.builtin "object.__class__") "__get__") (some (some (.builtin "getset_descriptor.__get__"))) &&
  (decide (PySem.W.takesIn K (.builtin "object.__class__") = some true) && decide (PySem.W.mroIn K (He.ga K c) (.type "object") = some true))))
theorem isfB_ok {K : PySem.W.Frag} {c : Str} (h : isfB K c = true) : IsF K (clsA K c) := by
  unfold isfB at h
  simp only [Bool.and_eq_true, decide_eq_true_eq] at h
  exact ⟨He.cls_ok h.1, He.eqO_ok h.2.1, He.eqO_ok h.2.2.1, h.2.2.2.1, h.2.2.2.2⟩
def propB (K : PySem.W.Frag) (c m : Str) : Bool := He.eqO (PySem.W.findIn K (.ref (He.ga K c)) m) (some (some (.ref (He.ma K (He.ga K c) m)))) && (He.eqO (PySem.W.specialIn K (.ref (He.ma K (He.ga K c) m)) "__get__") (some (some (.builtin "property.__get__"))) &&
  (decide (PySem.W.takesIn K (.ref (He.ma K (He.ga K c) m)) = some true) && (match PySem.W.recIn K (He.ma K (He.ga K c) m) "property" with
    | some (.ref _ :: _) => true
    | _ => false)))
theorem propB_ok {K : PySem.W.Frag} {c m : Str} (h : propB K c m = true) : PropOf K (clsA K c) m (He.ma K (He.ga K c) m) (prA K (c, some m)) := by
  unfold propB at h
  simp only [Bool.and_eq_true, decide_eq_true_eq] at h
  obtain ⟨h1, h2, h3, h4⟩ := h
  refine ⟨He.eqO_ok h1, He.eqO_ok h2, h3, ?_⟩
  unfold prA
  dsimp only
  split at h4
  · rename_i g rest e
    exact ⟨rest, e⟩
  · cases h4
def claB (K : PySem.W.Frag) (c : Str) (k : Cla) : Bool := isfB K c && (k.fld.all (fun f => (He.Fa.noat c f).ok K) && (k.mth.all (fun p => (He.Fa.meth c p.1).ok K) && (k.prp.all (fun p => propB K c p.1) && (!k.ini.isSome || ((He.Fa.mkr c).ok K && (He.Fa.glo c).ok K)))))
def clsB (K : PySem.W.Frag) (l : List (Str × Cla)) : Bool := l.all fun p => claB K p.1 p.2
/-- keys that a written dict has not -/
theorem ns_none {K : PySem.W.Frag} {P : Params} {a : Addr} {ks : List Str} {z : Str} (h : He.dicW K a = some (He.keysIn P ks)) (hz : z ∉ ks) : PySem.W.nsIn K a z = some none := by
  unfold He.dicW at h
  unfold PySem.W.nsIn
  split at h
  · rename_i c es n sl e
    split at h
    · have h := Option.some.inj h
      rw [e]
      have key : ∀ (l : List DictEntry) (ks : List Str), l.map He.keyOf = He.keysIn P ks → z ∉ ks → l.find? (·.key.isStr z) = none ∧ l.any (·.refKey) = false := by
        intro l
        induction l with
        | nil => intro ks _ _; exact ⟨rfl, rfl⟩
        | cons x r ih =>
          intro ks hk hz
          cases ks with
          | nil => cases hk
          | cons k ks =>
            have h1 : He.keyOf x :: r.map He.keyOf = some (k, PyData.keyHash P k) :: He.keysIn P ks := hk
            injection h1 with h2 h3
            obtain ⟨i1, i2⟩ := ih ks h3 (fun q => hz (List.mem_cons_of_mem _ q))
            unfold He.keyOf at h2
            split at h2
            · rename_i y t ey
              have hy : y = k := congrArg (fun q : Str × Int => q.1) (Option.some.inj h2)
              subst hy
              have hne : (y == z) = false := by
                rw [beq_eq_false_iff_ne]
                intro q
                exact hz (by rw [q]; exact List.mem_cons_self ..)
              refine ⟨?_, ?_⟩
              · rw [List.find?_cons]
                rw [ey]
                rw [show (Value.str y t).isStr z = (y == z) from rfl, hne]
                exact i1
              · rw [List.any_cons, i2]
                unfold DictEntry.refKey
                rw [ey]
                rfl
            · cases h2
      obtain ⟨k1, k2⟩ := key es.toList ks h hz
      dsimp only
      rw [k1, k2]
      rfl
    · cases h
  · cases h
def gdtB (l : List (Str × List (Str × D))) (K : PySem.W.Frag) : Bool := l.all fun p => (He.Fa.glo p.1).ok K && p.2.all fun q => match PySem.W.nsIn K (He.ga K p.1) q.1 with
  | some (some u) => datB K q.2 u
  | _ => false
def tabsOf (l : List (Str × List (Str × D))) : List He.Tab := l.map fun p => (fun K => He.ga K p.1, p.2.map (·.1))
theorem look_none {l : List (Str × D)} {z : Str} (h : l.lookup z = none) : z ∉ l.map (·.1) := by
  intro q
  induction l with
  | nil => cases q
  | cons p r ih =>
    rw [List.lookup_cons] at h
    cases e : (z == p.1) with
    | true => rw [e] at h; cases h
    | false =>
      rw [e] at h
      rcases List.mem_cons.mp q with q | q
      · rw [beq_eq_false_iff_ne] at e
        exact e q
      · exact ih h q
/-- the classes and dicts as they lie, by the checks -/
theorem clsL_of {K : PySem.W.Frag} {w : World} {h : Heap} {mg : Str → Option Value} {kwp : List (Str × Nat × List Str × List Nat)} {own glb cls gdt : List Str} {pg : Ev.Prog} {fa : List He.Fa} {fn : List He.DefD} (X : K.In h) (G : h.Ns mainGlobals mg)
    (hc : clsB K pg.cls = true) (hgd : gdtB pg.gdts K = true) (ht : He.SaysT fa fn (tabsOf pg.gdts) w K)
    (hm : ∀ p ∈ pg.cls, ∀ q ∈ p.2.mth, KeyL K kwp own glb cls gdt pg q.2 (He.ma K (He.ga K p.1) q.1)) (hp : ∀ p ∈ pg.cls, ∀ q ∈ p.2.prp, KeyL K kwp own glb cls gdt pg q.2 (prA K (p.1, some q.1)))
    (hi : ∀ p ∈ pg.cls, ∀ key, p.2.ini = some key → KeyL K kwp own glb cls gdt pg key (He.ma K (He.ga K p.1) "__init__"))
    (hcn : (cls.all fun c => ((gam pg 0 0).ini c).isSome) = true) (hgn : (gdt.all fun x => (pg.gdts.lookup x).isSome) = true) : ClsL K w mg kwp own glb cls gdt pg := by
  have cla : ∀ c k, pg.cls.lookup c = some k → (c, k) ∈ pg.cls ∧ claB K c k = true := fun c k e => ⟨mem_of_lookup e, List.all_eq_true.mp hc (c, k) (mem_of_lookup e)⟩
  have spl : ∀ c k, claB K c k = true → isfB K c = true ∧ (∀ f ∈ k.fld, (He.Fa.noat c f).ok K = true) ∧ (∀ p ∈ k.mth, (He.Fa.meth c p.1).ok K = true) ∧ (∀ p ∈ k.prp, propB K c p.1 = true) ∧ (k.ini.isSome = true → (He.Fa.mkr c).ok K = true ∧ (He.Fa.glo c).ok K = true) := fun c k e => by
    unfold claB at e
    simp only [Bool.and_eq_true, List.all_eq_true, Bool.or_eq_true] at e
    refine ⟨e.1, e.2.1, e.2.2.1, e.2.2.2.1, fun q => ?_⟩
    rcases e.2.2.2.2 with z | z
    · rw [q] at z; cases z
    · exact z
  have ini : ∀ c key, (gam pg 0 0).ini c = some key → ∃ k, (c, k) ∈ pg.cls ∧ claB K c k = true ∧ k.ini = some key := fun c key e => by
    unfold Gam.ini at e
    obtain ⟨k, e1, e2⟩ := Option.bind_eq_some_iff.mp e
    obtain ⟨m1, m2⟩ := cla c k e1
    exact ⟨k, m1, m2, e2⟩
  refine ⟨fun c f e => ?_, fun c m key e => ?_, fun c m key e => ?_, fun c key e => ?_, fun x l e => ?_, fun c key e => ?_, fun c hc2 => ?_, fun x hx => ?_⟩
  · unfold Gam.fld at e
    split at e
    · rename_i k e1
      obtain ⟨m1, m2⟩ := cla c k e1
      obtain ⟨s1, s2, _⟩ := spl c k m2
      exact ⟨(isfB_ok s1).cl, He.noat_ok (s2 f (by simpa using e))⟩
    · cases e
  · unfold Gam.mth at e
    obtain ⟨k, e1, e2⟩ := Option.bind_eq_some_iff.mp e
    obtain ⟨m1, m2⟩ := cla c k e1
    obtain ⟨s1, s2, s3, _⟩ := spl c k m2
    have mm := mem_of_lookup e2
    exact ⟨(isfB_ok s1).cl, _, He.meth_ok (s3 _ mm), hm _ m1 _ mm⟩
  · unfold Gam.prp at e
    obtain ⟨k, e1, e2⟩ := Option.bind_eq_some_iff.mp e
    obtain ⟨m1, m2⟩ := cla c k e1
    obtain ⟨s1, s2, s3, s4, _⟩ := spl c k m2
    have mm := mem_of_lookup e2
    exact ⟨(isfB_ok s1).cl, _, _, propB_ok (s4 _ mm), hp _ m1 _ mm⟩
  · obtain ⟨k, m1, m2, m3⟩ := ini c key e
    obtain ⟨s1, s2, s3, s4, s5⟩ := spl c k m2
    obtain ⟨t1, t2⟩ := s5 (by rw [m3]; rfl)
    exact ⟨He.glo_ok X G t2, _, He.mkr_ok t1, hi _ m1 key m3⟩
  · have mm := mem_of_lookup e
    obtain ⟨i, hi2, ei⟩ := List.mem_iff_getElem.mp mm
    have z := List.all_eq_true.mp hgd _ mm
    rw [Bool.and_eq_true] at z
    have tab : (tabsOf pg.gdts)[i]? = some ((fun K => He.ga K x, l.map (·.1)) : He.Tab) := by
      unfold tabsOf
      rw [List.getElem?_map, List.getElem?_eq_getElem hi2, ei]
      rfl
    obtain ⟨es, n, kd⟩ := ht.tab i tab
    have dw : He.dicW K (He.ga K x) = some (He.keysIn w.params (l.map (·.1))) := by
      have e1 : (tabsOf pg.gdts).map (fun t => He.dicW K (t.1 K)) = (tabsOf pg.gdts).map fun t => some (He.keysIn w.params t.2) := congrArg (fun z : He.AlT => z.2) ht
      have e2 : ((tabsOf pg.gdts).map fun t => He.dicW K (t.1 K))[i]? = ((tabsOf pg.gdts).map fun t => some (He.keysIn w.params t.2))[i]? := by rw [e1]
      rw [List.getElem?_map, List.getElem?_map, tab] at e2
      exact Option.some.inj e2
    refine ⟨He.ga K x, es, n, He.glo_ok X G z.1, kd, fun y hy => ns_none dw (look_none hy), fun y dv hy => ?_⟩
    have q := List.all_eq_true.mp z.2 _ (mem_of_lookup hy)
    dsimp only at q
    split at q
    · rename_i u hu
      obtain ⟨v, g1, g2⟩ := datB_ok q
      exact ⟨u, v, hu, g1, g2⟩
    · cases q
  · obtain ⟨k, m1, m2, m3⟩ := ini c key e
    exact isfB_ok (spl c k m2).1
  · have := List.all_eq_true.mp hcn c hc2
    exact Option.isSome_iff_exists.mp this
  · have := List.all_eq_true.mp hgn x hx
    exact Option.isSome_iff_exists.mp this
/-- a def as the head's fact tells it -/
theorem fun_of {K : PySem.W.Frag} {d : He.DefD} {f : Addr} {fd : FuncData} {dvs : List V} {kws : List (Str × V)} (F : FunD K d.name d.qual d.params d.body d.scope dvs kws f fd) :
    C8.Fun K d.name d.qual (.FunctionDef d.name d.params d.body [] none [] d.scope none d.name ⟨0, 0, 0, 0⟩) f fd := by
  obtain ⟨oc, od, dV, kV, doc, pm, an, cdv, ct, osl, e, lk, hcd, _, _⟩ := F.ex
  exact ⟨oc, od, dV, kV, doc, pm, an, cdv, ct, osl, e, lk, hcd⟩
theorem glbB_ok {K : PySem.W.Frag} {h : Heap} {mg : Str → Option Value} {l : List (Str × D)} {nm : List Str} (X : K.In h) (G : h.Ns mainGlobals mg) (c : glbB l K = true) : ∀ x ∈ nm, ∀ d, l.lookup x = some d → ∃ v u, mg x = some u ∧ RelV v u ∧ ∀ H M μ, Rep K H M μ d v := fun x _ d hd => by
  have z := List.all_eq_true.mp c (x, d) (mem_of_lookup hd)
  dsimp only at z
  split at z
  · rename_i u hu
    obtain ⟨v, g1, g2⟩ := datB_ok z
    exact ⟨v, u, PySem.W.mg_of X G hu, g1, g2⟩
  · cases z
theorem rep_script {K : PySem.W.Frag} {H : Hp} {M : Addr → Prop} {μ : List Addr} : ∀ ns : List Int, RepL K H M μ (ns.map D.int) (ns.map V.int)
  | [] => rfl
  | n :: r => ⟨.int n, _, rfl, rfl, rep_script r⟩
/-- the law holds where the evaluator answers True -/
theorem walkG {l : PySem.W.OpenLaw} {n k wf : Nat} {q : Program} {loose : List Str} {XP : (Str → Option Value) → Heap → Prop} {Y : World → Heap → Prop} {d : DefRec} {kwp : List (Str × Nat × List Str × List Nat)} {own glb cls gdt : List Str} {pg : Ev.Prog}
    (hn : l.most = some n) (hn2 : n ≤ sizeLine) (hdf : d.params.defaults = []) (hr : Room k callerA) (hlaw : d.name ∈ own)
    (F : ∀ (w : World) (h : Heap) (mg : Str → Option Value), Y w h → h.Ns mainGlobals mg → ∃ K : PySem.W.Frag, K.In h ∧ (∀ x ∈ own, ∃ d, pg.defs.lookup x = some d ∧ Lies K mg kwp own glb cls gdt x d) ∧ (∀ x ∈ bltNames, x ∉ own → mg x = none) ∧
      (∀ x ∈ glb, ∀ d, pg.glbs.lookup x = some d → ∃ v u, mg x = some u ∧ RelV v u ∧ ∀ H M μ, Rep K H M μ d v) ∧ ClsL K w mg kwp own glb cls gdt pg)
    (hs : ∀ ns : List Int, ns.length ≤ n → (∀ k ∈ ns, Builtin.Int.intBits k ≤ 1048576) → ∃ S, callN pg wf k d.name [.frl (ns.map D.int)] [] = .ok (.bl true) S) : PySem.W.WalkO q loose XP Y l.row.toRowW d [] (fun f vs => PySem.call f vs) := by
  refine Att.attach_callB hn hdf fun w s₀ s₁ mg mb fa o pm cd doc a vs ns G Yh ho hd hcd hmg hobj hints hlen hbits hg => ?_
  obtain ⟨K, KX, h1, h2, h3, h4⟩ := F w _ mg Yh G.T.g
  refine callG KX G.T.g G.T.b G.T.builtins G.T.nolimit hg hobj hints (Nat.le_trans hlen hn2) hr hmg (fun base => fnv_all (wf := wf) h1 h2 h3 h4 k d.name hlaw) fun H only sq => ?_
  obtain ⟨S, e⟩ := hs ns hlen hbits
  refine ⟨[.frl (ns.map D.int)], [], fun _ => False, [], ⟨rfl, by simp, by simp, fun _ z => False.elim z, fun n l e => by simp at e⟩, ⟨.ref a, [], rfl, ⟨a, _, rfl, sq.imp (fun z => ⟨z, id⟩) id, rep_script ns⟩, rfl⟩, ?_⟩
  rw [e]
  exact fun b H' M' μ' _ _ r => r
theorem no_kw {l : List (Str × Nat × List Str × List Nat)} {x : Str} {n : Nat} {ks : List Str} {perm : List Nat} (h : (l.all fun q => !decide (q.1 = x)) = true) : ¬ (x, n, ks, perm) ∈ l := fun z => by
  have := List.all_eq_true.mp h _ z
  simp at this
/-- a world, one of its readings told -/
def fixW (b : Bool) (w : World) : World := ⟨w.draws, { w.params with followText := fun r => if r = "special-get-raises" then b else w.params.followText r }⟩
theorem fixW_eq (w : World) : fixW (w.params.followText "special-get-raises") w = w := by
  obtain ⟨d, p⟩ := w
  cases p
  simp only [fixW]
  congr 2
  funext r
  split
  · rename_i h; rw [h]
  · rfl
theorem fix_run {T : World → Prop} (t : ∀ w, T (fixW true w)) (f : ∀ w, T (fixW false w)) (w : World) : T w := by
  have e := fixW_eq w
  cases h : w.params.followText "special-get-raises" with
  | true =>
    rw [h] at e
    rw [← e]
    exact t w
  | false =>
    rw [h] at e
    rw [← e]
    exact f w
end Ev

/-! What an evaluation comes to: weakest wishes. -/
namespace Ev
open PySem
def W {α : Type} (r : R α) (Q : α → Ev.Sto → Prop) : Prop :=
  match r with
  | .ok a S => Q a S
  | .err _ _ _ => False
  | .no => False
theorem W_ok {α : Type} {a : α} {S : Ev.Sto} {Q : α → Ev.Sto → Prop} : W (.ok a S) Q = Q a S := rfl
theorem W_no {α : Type} {Q : α → Ev.Sto → Prop} : W (.no : R α) Q = False := rfl
theorem W_bind {α β : Type} {r : R α} {k : α → Ev.Sto → R β} {Q : β → Ev.Sto → Prop} : W (r.bind k) Q = W r (fun a S => W (k a S) Q) := by
  cases r <;> rfl
theorem W_some {α : Type} {a : α} {S : Ev.Sto} {Q : α → Ev.Sto → Prop} : W (R.of (some a) S) Q = Q a S := rfl
theorem W_none {α : Type} {S : Ev.Sto} {Q : α → Ev.Sto → Prop} : W (R.of none S) Q = False := rfl
theorem W.mono {α : Type} {r : R α} {Q Q' : α → Ev.Sto → Prop} (h : W r Q) (i : ∀ a S, Q a S → Q' a S) : W r Q' := by
  cases r with
  | ok a S => exact i a S h
  | err _ _ _ => exact h
  | no => exact h
theorem W_ite {α : Type} {c : Prop} [Decidable c] {a b : R α} {Q : α → Ev.Sto → Prop} : W (if c then a else b) Q = if c then W a Q else W b Q := by
  split <;> rfl
theorem W_get {α : Type} {r : R α} {Q : α → Ev.Sto → Prop} (h : W r Q) : ∃ a S, r = .ok a S ∧ Q a S := by
  cases r with
  | ok a S => exact ⟨a, S, rfl, h⟩
  | err _ _ _ => exact False.elim h
  | no => exact False.elim h
theorem W_of {α : Type} {r : R α} {a : α} {S : Ev.Sto} {Q : α → Ev.Sto → Prop} (h : r = .ok a S) (q : Q a S) : W r Q := by rw [h]; exact q
/-! ### calls -/
def flV : Fl → Option D
  | .nx _ => some .non
  | .rt v => some v
  | _ => none
section
variable {pg : Prog} {wf n : Nat} {f : Str} {d : Def} {ds : List D} {S : Ev.Sto} {Q : D → Ev.Sto → Prop}
/-- a call that is given changing things -/
theorem call_gc (hl : pg.defs.lookup f = some d) (hb : belL 0 ds = false) (hn : ds.length = d.par)
    (h : W (evSs (gam pg wf n) d.body (ds.map some ++ List.replicate (d.loc - ds.length) none) S) fun fl S1 => ∃ v, flV fl = some v ∧ W (outGc d.keep S v S1) Q) (hs : d.sub = false := by rfl) : W (callN pg wf (n + 1) f ds S) Q := by
  rw [callN_succ]
  unfold stepN
  rw [hl]
  dsimp only
  rw [if_neg (by rw [hb]; decide), if_neg (by rw [hs]; simp)]
  unfold runDef
  rw [if_pos hn, W_bind, W_bind]
  refine h.mono fun fl S1 ⟨v, e, q⟩ => ?_
  cases fl <;> first | (cases e; exact q) | cases e
theorem rl_len {f : Nat → Nat} : ∀ l : List D, (renL f l).length = l.length
  | [] => rfl
  | _ :: r => by simp [renL, rl_len r]
/-- a call that sees what it is handed alone -/
theorem call_sub {idx : List Nat} (hl : pg.defs.lookup f = some d) (hb : belL 0 ds = false) (hs : d.sub = true) (hi : rch S 500 (locsL ds) [] = idx) (ho : subOk S ds idx = true) (hn : ds.length = d.par)
    (h : W (evSs (gam pg wf n) d.body ((renL (posN idx) ds).map some ++ List.replicate (d.loc - ds.length) none) (subSto S idx)) fun fl S1 => ∃ v, flV fl = some v ∧ W (outSub idx S v S1) Q) : W (callN pg wf (n + 1) f ds S) Q := by
  rw [callN_succ]
  unfold stepN
  rw [hl]
  dsimp only
  rw [if_neg (by rw [hb]; decide), hi, if_pos ⟨hs, ho⟩]
  unfold runDef
  rw [if_pos (by rw [rl_len]; exact hn), W_bind, W_bind, rl_len]
  refine h.mono fun fl S1 ⟨v, e, q⟩ => ?_
  cases fl <;> first | (cases e; exact q) | cases e
/-- a call that is given none -/
theorem call_pure (hl : pg.defs.lookup f = some d) (hb : belL 0 ds = true) (hn : ds.length = d.par)
    (h : W (evSs (gam pg wf n) d.body (ds.map some ++ List.replicate (d.loc - ds.length) none) []) fun fl S1 => ∃ v, flV fl = some v ∧ W (outPure d.keep S v S1) Q) : W (callN pg wf (n + 1) f ds S) Q := by
  rw [callN_succ]
  unfold stepN
  rw [hl]
  dsimp only
  rw [if_pos hb]
  unfold runDef
  rw [if_pos hn, W_bind, W_bind]
  refine h.mono fun fl S1 ⟨v, e, q⟩ => ?_
  cases fl <;> first | (cases e; exact q) | cases e
/-- .. and answers data -/
theorem call_data {v : D} (hl : pg.defs.lookup f = some d) (hb : belL 0 ds = true) (hn : ds.length = d.par) (hk : d.keep = false)
    (h : W (evSs (gam pg wf n) d.body (ds.map some ++ List.replicate (d.loc - ds.length) none) []) fun fl S1 => flV fl = some v) (hv : v.bel 0 = true) : callN pg wf (n + 1) f ds S = .ok v S := by
  have z : W (callN pg wf (n + 1) f ds S) fun a S1 => a = v ∧ S1 = S := call_pure hl hb hn (h.mono fun fl S1 e => ⟨v, e, by
    unfold outPure
    rw [hk, if_neg (by decide)]
    unfold gcv
    rw [if_pos hv]
    exact ⟨rfl, rfl⟩⟩)
  obtain ⟨a, S1, e, rfl, rfl⟩ := W_get z
  exact e
end
/-! ### comprehensions and loops -/
/-- a comprehension whose parts change nothing -/
theorem cmpL_map {one : D → Ev.Sto → R (Option D)} {f : D → D} {S : Ev.Sto} : ∀ {l acc : List D}, (∀ d ∈ l, one d S = .ok (some (f d)) S) → acc.length + l.length ≤ line → cmpL one [] l acc S = .ok (acc ++ l.map f) S
  | [], acc, _, _ => by simp [cmpL, grd]
  | d :: r, acc, h, hl => by
    simp only [List.length_cons] at hl
    unfold cmpL
    rw [if_pos (by simp [grd]), h d List.mem_cons_self]
    simp only [R.bind]
    rw [if_pos (by omega), cmpL_map (fun e he => h e (List.mem_cons_of_mem _ he)) (by simp; omega)]
    simp
theorem cmpL_filter {one : D → Ev.Sto → R (Option D)} {f : D → Option D} {S : Ev.Sto} : ∀ {l acc : List D}, (∀ d ∈ l, one d S = .ok (f d) S) → acc.length + l.length ≤ line → cmpL one [] l acc S = .ok (acc ++ l.filterMap f) S
  | [], acc, _, _ => by simp [cmpL, grd]
  | d :: r, acc, h, hl => by
    simp only [List.length_cons] at hl
    unfold cmpL
    rw [if_pos (by simp [grd]), h d List.mem_cons_self]
    simp only [R.bind]
    cases e : f d with
    | none =>
      rw [List.filterMap_cons_none e]
      exact cmpL_filter (fun e he => h e (List.mem_cons_of_mem _ he)) (by omega)
    | some y =>
      rw [List.filterMap_cons_some e]
      dsimp only
      rw [if_pos (by omega), cmpL_filter (fun e he => h e (List.mem_cons_of_mem _ he)) (by simp; omega)]
      simp
/-- in general: an invariant over what was made, and the store -/
theorem cmpL_w {one : D → Ev.Sto → R (Option D)} {g : List (Nat × List D)} (I : Nat → List D → Ev.Sto → Prop) {Q : List D → Ev.Sto → Prop} : ∀ {l acc : List D} {S : Ev.Sto} {i : Nat}, I i acc S → (∀ j acc S, I j acc S → grd g S = true) → acc.length + l.length ≤ line →
    (∀ j d acc S, l[j]? = some d → I (i + j) acc S → W (one d S) fun o S1 => I (i + j + 1) (match o with | none => acc | some y => acc ++ [y]) S1) → (∀ acc S, I (i + l.length) acc S → Q acc S) → W (cmpL one g l acc S) Q
  | [], acc, S, i, hI, hg, _, _, hQ => by
    unfold cmpL
    rw [if_pos (hg _ _ _ hI)]
    exact hQ acc S hI
  | d :: r, acc, S, i, hI, hg, hl, hs, hQ => by
    simp only [List.length_cons] at hl
    unfold cmpL
    rw [if_pos (hg _ _ _ hI), W_bind]
    refine (hs 0 d acc S rfl hI).mono fun o S1 h1 => ?_
    have rest : ∀ {acc' : List D}, acc'.length ≤ acc.length + 1 → I (i + 1) acc' S1 → W (cmpL one g r acc' S1) Q := fun {acc'} ha h1 =>
      cmpL_w I (i := i + 1) h1 hg (by omega) (fun j d acc S hj h => by
        have := hs (j + 1) d acc S hj (by rw [show i + (j + 1) = i + 1 + j by omega]; exact h)
        rw [show i + 1 + j + 1 = i + (j + 1) + 1 by omega]
        exact this) fun acc S h => hQ acc S (by rw [show i + (d :: r).length = i + 1 + r.length by simp; omega]; exact h)
    cases o with
    | none => exact rest (by omega) h1
    | some y =>
      dsimp only
      rw [if_pos (by omega)]
      exact rest (by simp) h1
/-- a loop: an invariant by the turn, what a turn may end with -/
theorem forL_w {bnd : D → Sl → Option Sl} {B : Sl → Ev.Sto → R Fl} {g : List (Nat × List D)} (I : Nat → Sl → Ev.Sto → Prop) {Q : Fl → Ev.Sto → Prop} : ∀ {l : List D} {σ : Sl} {S : Ev.Sto} {i : Nat}, I i σ S → (∀ j σ S, I j σ S → grd g S = true) →
    (∀ j d σ S, l[j]? = some d → I (i + j) σ S → ∃ σ1, bnd d σ = some σ1 ∧ W (B σ1 S) fun fl S1 => match fl with
      | .nx σ2 => I (i + j + 1) σ2 S1
      | .ct σ2 => I (i + j + 1) σ2 S1
      | .bk σ2 => Q (.nx σ2) S1
      | .rt v => Q (.rt v) S1) → (∀ σ S, I (i + l.length) σ S → Q (.nx σ) S) → W (forL bnd B g l σ S) Q
  | [], σ, S, i, hI, hg, _, hQ => by
    unfold forL
    rw [if_pos (hg _ _ _ hI)]
    exact hQ σ S hI
  | d :: r, σ, S, i, hI, hg, hs, hQ => by
    unfold forL
    rw [if_pos (hg _ _ _ hI)]
    obtain ⟨σ1, e, h⟩ := hs 0 d σ S rfl hI
    rw [e]
    dsimp only
    rw [W_bind]
    refine h.mono fun fl S1 h1 => ?_
    have rest : ∀ {σ2 : Sl}, I (i + 1) σ2 S1 → W (forL bnd B g r σ2 S1) Q := fun {σ2} h1 =>
      forL_w I (i := i + 1) h1 hg (fun j d σ S hj h => by
        obtain ⟨σ1, e, h2⟩ := hs (j + 1) d σ S hj (by rw [show i + (j + 1) = i + 1 + j by omega]; exact h)
        rw [show i + (j + 1) + 1 = i + 1 + j + 1 by omega] at h2
        exact ⟨σ1, e, h2⟩) fun σ S h => hQ σ S (by rw [show i + (d :: r).length = i + 1 + r.length by simp; omega]; exact h)
    cases fl with
    | nx σ2 => exact rest h1
    | ct σ2 => exact rest h1
    | bk σ2 => exact h1
    | rt v => exact h1
end Ev
namespace Ev
mutual
theorem bel_up {n : Nat} : ∀ {d : D}, d.bel 0 = true → d.bel n = true
  | .non, _ => rfl
  | .bl _, _ => rfl
  | .int _, _ => rfl
  | .str _, _ => rfl
  | .tup l, h => by
    simp only [D.bel] at h ⊢
    exact belL_up h
  | .frl l, h => by
    simp only [D.bel] at h ⊢
    exact belL_up h
  | .loc k, h => by simp [D.bel] at h
  | .emp, _ => rfl
theorem belL_up {n : Nat} : ∀ {l : List D}, belL 0 l = true → belL n l = true
  | [], _ => rfl
  | d :: r, h => by
    simp only [belL, Bool.and_eq_true] at h ⊢
    exact ⟨bel_up h.1, belL_up h.2⟩
end
theorem bel_mem {n : Nat} {d : D} : ∀ {l : List D}, belL n l = true → d ∈ l → d.bel n = true
  | [], _, h => by simp at h
  | x :: r, hb, h => by
    simp only [belL, Bool.and_eq_true] at hb
    rcases List.mem_cons.mp h with rfl | h
    · exact hb.1
    · exact bel_mem hb.2 h
theorem bel_of {n : Nat} : ∀ {l : List D}, (∀ d ∈ l, d.bel n = true) → belL n l = true
  | [], _ => rfl
  | x :: r, h => by
    simp only [belL, Bool.and_eq_true]
    exact ⟨h x List.mem_cons_self, bel_of fun d hd => h d (List.mem_cons_of_mem _ hd)⟩
/-- nothing within the store names a changing thing -/
def Cl (S : Ev.Sto) : Prop := ∀ o ∈ S, o.bel 0 = true
theorem Cl.up {S : Ev.Sto} (h : Cl S) (n : Nat) {o : O} (ho : o ∈ S) : o.bel n = true := by
  have := h o ho
  cases o with
  | lst l => exact belL_up this
  | ins c fs => exact belL_up this
  | dct l => exact belL_up this
theorem Cl.set {S : Ev.Sto} (h : Cl S) {p : Nat} {o : O} (ho : o.bel 0 = true) : Cl (S.set p o) := fun x hx => by
  rcases List.mem_or_eq_of_mem_set hx with z | rfl
  · exact h x z
  · exact ho
theorem Cl.app {S T : Ev.Sto} (h : Cl S) (h' : Cl T) : Cl (S ++ T) := fun x hx => (List.mem_append.mp hx).elim (h x) (h' x)
theorem Cl.take {S : Ev.Sto} (h : Cl S) (n : Nat) : Cl (S.take n) := fun x hx => h x (List.mem_of_mem_take hx)
theorem Cl.all {S : Ev.Sto} (h : Cl S) (n k : Nat) : ((S.take n).all (O.bel k)) = true := List.all_eq_true.mpr fun x hx => h.up k (List.mem_of_mem_take hx)
/-- what leaves a call that changed the pot alone -/
theorem W_out {S S1 : Ev.Sto} {v v' : D} {Q : D → Ev.Sto → Prop} (hc : Cl S1) (hg : gcv S.length S1 v = some v') (q : Q v' (S1.take S.length)) : W (outGc false S v S1) Q := by
  unfold outGc
  rw [if_neg (by decide), hg]
  dsimp only
  rw [if_pos (hc.all _ _)]
  exact q
theorem at5 {p0 p1 p2 p3 p4 B : Int} (h : (0 < p0 ∧ p0 < B) ∧ (0 < p1 ∧ p1 < B) ∧ (0 < p2 ∧ p2 < B) ∧ (0 < p3 ∧ p3 < B) ∧ 0 < p4 ∧ p4 < B) (k : Int) : ∃ pr, L2.atI [D.int p0, .int p1, .int p2, .int p3, .int p4] (k % 5) = some (.int pr) ∧ 0 < pr ∧ pr < B := by
  have h1 := Int.emod_nonneg k (show (5 : Int) ≠ 0 by decide)
  have h2 := Int.emod_lt_of_pos k (show (0 : Int) < 5 by decide)
  generalize k % 5 = j at h1 h2
  have : j = 0 ∨ j = 1 ∨ j = 2 ∨ j = 3 ∨ j = 4 := by omega
  rcases this with rfl | rfl | rfl | rfl | rfl
  · exact ⟨p0, rfl, h.1⟩
  · exact ⟨p1, rfl, h.2.1⟩
  · exact ⟨p2, rfl, h.2.2.1⟩
  · exact ⟨p3, rfl, h.2.2.2.1⟩
  · exact ⟨p4, rfl, h.2.2.2.2⟩
theorem sq_le {x : Int} (h0 : 0 ≤ x) (h : x ≤ 2 ^ 41) : 0 ≤ x * x ∧ x * x ≤ 2 ^ 82 := by
  refine ⟨Int.mul_nonneg h0 h0, ?_⟩
  have := Int.mul_le_mul h h h0 (by decide)
  exact Int.le_trans this (by decide)
theorem lg_lt {u : Int} {k : Nat} (h : u.natAbs < 2 ^ k) (hk : 0 < k) : u.natAbs.log2 < k := by
  by_cases h0 : u.natAbs = 0
  · rw [h0, Nat.log2_zero]; exact hk
  · exact (Nat.log2_lt h0).mpr h
theorem lg_u {u : Int} (h0 : 0 < u) (h : u < 2 ^ 60) : u.natAbs.log2 < 9000 := by
  have : u.natAbs.log2 < 60 := lg_lt (k := 60) (by omega) (by omega)
  omega
end Ev
namespace Ev
theorem pw_ok {X : Int} {e : Int} (h : X.natAbs < 2 ^ 300) (he : e ≤ 1000) (he0 : 0 ≤ e) : ((X.natAbs.log2 : Nat) + 1 : Int) * e ≤ 134217728 := by
  have : X.natAbs.log2 < 300 := lg_lt h (by decide)
  have h1 : ((X.natAbs.log2 : Nat) + 1 : Int) ≤ 300 := by omega
  have := Int.mul_le_mul h1 he he0 (by decide)
  omega
theorem quad {b x K k : Int} (hb : 0 ≤ b) (hb2 : b < 2 ^ 62) (hx : 0 ≤ x) (hx2 : x ≤ 2 ^ 41) (hK : 0 ≤ K) (hK2 : K < 2 ^ 62) (hk : 0 ≤ k) (hk2 : k < 2 ^ 62) : (b + K * x * x + k).natAbs < 2 ^ 300 := by
  obtain ⟨h1, h2⟩ := sq_le hx hx2
  rw [Int.mul_assoc]
  generalize x * x = y at h1 h2
  have h3 := Int.mul_le_mul (Int.le_of_lt hK2) h2 h1 (by decide)
  have h4 := Int.mul_nonneg hK h1
  have e : (2 : Int) ^ 62 * 2 ^ 82 = 2 ^ 144 := by decide
  rw [e] at h3
  generalize K * y = z at h3 h4
  have h5 : b + z + k < 2 ^ 300 := by
    have : (2 : Int) ^ 62 + 2 ^ 144 + 2 ^ 62 < 2 ^ 300 := by decide
    omega
  omega
end Ev
namespace Ev
theorem W_outi {S S1 : Ev.Sto} {i : Int} {Q : D → Ev.Sto → Prop} (hc : Cl S1) (q : Q (.int i) (S1.take S.length)) : W (outGc false S (.int i) S1) Q := W_out hc rfl q
end Ev
namespace Ev
theorem b_add {i j : Int} : intB .add i j = some (i + j) := rfl
theorem b_sub {i j : Int} : intB .sub i j = some (i - j) := rfl
theorem b_mul {i j : Int} (h : mulOk i j = true) : intB .mul i j = some (i * j) := if_pos h
theorem b_mod {i j : Int} (h : 0 < j) : intB .mod i j = some (i % j) := if_pos h
theorem b_fdiv {i j : Int} (h : 0 < j) (h2 : j.natAbs.log2 < 9000) : intB .fdiv i j = some (i / j) := if_pos ⟨h, h2⟩
theorem b_pow {X e : Int} (h : X.natAbs < 2 ^ 300) (he : e ≤ 1000) (he0 : 0 ≤ e) : ∃ z, intB .pow X e = some z := ⟨_, if_pos ⟨he0, by
  have h1 : X.natAbs.log2 < 300 := lg_lt h (by decide)
  have h2 : (X.natAbs.log2 + 1) * e.toNat ≤ 300 * 1000 := Nat.mul_le_mul (by omega) (by omega)
  exact Nat.le_trans h2 (by decide)⟩⟩
theorem mulL {i j : Int} (h : i.natAbs < 2 ^ 64) : mulOk i j = true := by simp [mulOk, h]
theorem mulR {i j : Int} (h : j.natAbs < 2 ^ 64) : mulOk i j = true := by simp [mulOk, h]
end Ev
namespace Ev
/-! ### the pot of a script's draws -/
abbrev pt (a b c : Int) : O := .lst [.int a, .int b, .int c]
/-- the store, but for the pot -/
def Pot (p : Nat) (m : Nat) (S0 S : Ev.Sto) : Prop := ∃ a b c : Int, S = S0.set p (pt a b c) ∧ p < S0.length ∧ 0 ≤ a ∧ 0 ≤ b ∧ b < 2 ^ 62 ∧ 0 ≤ c ∧ c ≤ m ∧ Cl S0
theorem Pot.at {p m : Nat} {S0 S : Ev.Sto} (h : Pot p m S0 S) : ∃ a b c : Int, S[p]? = some (pt a b c) ∧ 0 ≤ a ∧ 0 ≤ b ∧ b < 2 ^ 62 ∧ 0 ≤ c ∧ c ≤ m := by
  obtain ⟨a, b, c, rfl, h1, h2, h3, h4, h5, h6, h7⟩ := h
  exact ⟨a, b, c, List.getElem?_set_self h1, h2, h3, h4, h5, h6⟩
theorem Pot.cl {p m : Nat} {S0 S : Ev.Sto} (h : Pot p m S0 S) : Cl S := by
  obtain ⟨a, b, c, rfl, h1, h2, h3, h4, h5, h6, h7⟩ := h
  exact h7.set rfl
theorem Pot.trans {p m m' : Nat} {S0 S S' : Ev.Sto} (h : Pot p m S0 S) (h' : Pot p m' S S') : Pot p m' S0 S' := by
  obtain ⟨a, b, c, rfl, h1, h2, h3, h4, h5, h6, h7⟩ := h
  obtain ⟨a', b', c', rfl, g1, g2, g3, g4, g5, g6, g7⟩ := h'
  exact ⟨a', b', c', by rw [List.set_set], h1, g2, g3, g4, g5, g6, h7⟩
theorem Pot.mono {p m m' : Nat} {S0 S : Ev.Sto} (h : Pot p m S0 S) (hm : m ≤ m') : Pot p m' S0 S := by
  obtain ⟨a, b, c, e, h1, h2, h3, h4, h5, h6, h7⟩ := h
  exact ⟨a, b, c, e, h1, h2, h3, h4, h5, by omega, h7⟩
theorem Pot.self {p m : Nat} {S0 S : Ev.Sto} (h : Pot p m S0 S) : Pot p m S S := by
  have hc := h.cl
  obtain ⟨a, b, c, rfl, h1, h2, h3, h4, h5, h6, h7⟩ := h
  exact ⟨a, b, c, by rw [List.set_set], by simpa using h1, h2, h3, h4, h5, h6, hc⟩
theorem Pot.len {p m : Nat} {S0 S : Ev.Sto} (h : Pot p m S0 S) : S.length = S0.length := by
  obtain ⟨a, b, c, rfl, h1, h2⟩ := h
  simp
theorem Pot.lt {p m : Nat} {S0 S : Ev.Sto} (h : Pot p m S0 S) : p < S0.length := by
  obtain ⟨a, b, c, rfl, h1, h2⟩ := h
  exact h1
theorem Pot.ne {p m : Nat} {S0 S : Ev.Sto} (h : Pot p m S0 S) {k : Nat} (hk : k ≠ p) : S[k]? = S0[k]? := by
  obtain ⟨a, b, c, rfl, h1, h2⟩ := h
  exact List.getElem?_set_ne (Ne.symm hk)
/-- another thing is written -/
theorem Pot.set {p m : Nat} {S0 S : Ev.Sto} (h : Pot p m S0 S) {k : Nat} (hk : k ≠ p) {o : O} (ho : o.bel 0 = true) : Pot p m (S0.set k o) (S.set k o) := by
  obtain ⟨a, b, c, rfl, h1, h2, h3, h4, h5, h6, h7⟩ := h
  exact ⟨a, b, c, by rw [List.set_comm _ _ (Ne.symm hk)], by simpa using h1, h2, h3, h4, h5, h6, h7.set ho⟩
/-- new things -/
theorem Pot.app {p m : Nat} {S0 S : Ev.Sto} (h : Pot p m S0 S) {T : Ev.Sto} (hT : Cl T) : Pot p m (S0 ++ T) (S ++ T) := by
  obtain ⟨a, b, c, rfl, h1, h2, h3, h4, h5, h6, h7⟩ := h
  exact ⟨a, b, c, by rw [List.set_append_left _ _ h1], by simp; omega, h2, h3, h4, h5, h6, h7.app hT⟩
/-- .. forgotten -/
theorem Pot.take {p m : Nat} {S0 S T : Ev.Sto} (h : Pot p m (S0 ++ T) S) (hp : p < S0.length) : Pot p m S0 (S.take S0.length) := by
  obtain ⟨a, b, c, rfl, h1, h2, h3, h4, h5, h6, h7⟩ := h
  refine ⟨a, b, c, ?_, hp, h2, h3, h4, h5, h6, fun o ho => h7 o (List.mem_append_left _ ho)⟩
  rw [List.set_append_left _ _ hp, List.take_left' (by simp)]
end Ev
namespace Ev
theorem ln0 : (0 ≤ line) = True := eq_true (by decide)
theorem ln1 : (1 ≤ line) = True := eq_true (by decide)
theorem ln2 : (2 ≤ line) = True := eq_true (by decide)
theorem ln3 : (3 ≤ line) = True := eq_true (by decide)
theorem ln4 : (4 ≤ line) = True := eq_true (by decide)
theorem ln5 : (5 ≤ line) = True := eq_true (by decide)
theorem ln6 : (6 ≤ line) = True := eq_true (by decide)
theorem ln7 : (7 ≤ line) = True := eq_true (by decide)
theorem ln8 : (8 ≤ line) = True := eq_true (by decide)
theorem ln9 : (9 ≤ line) = True := eq_true (by decide)
theorem ln10 : (10 ≤ line) = True := eq_true (by decide)
theorem ln11 : (11 ≤ line) = True := eq_true (by decide)
theorem ln12 : (12 ≤ line) = True := eq_true (by decide)
theorem ln13 : (13 ≤ line) = True := eq_true (by decide)
theorem ln14 : (14 ≤ line) = True := eq_true (by decide)
theorem ln15 : (15 ≤ line) = True := eq_true (by decide)
theorem pop_get : ∀ {l : List D} {k : Nat} {d : D}, l[k]? = some d → (d :: l.eraseIdx k).Perm l
  | [], _, _, h => by simp at h
  | x :: r, 0, d, h => by
    have e : x = d := by simpa using h
    subst e
    exact .refl _
  | x :: r, k + 1, d, h => by
    have e : r[k]? = some d := by simpa using h
    exact (List.Perm.swap x d _).trans ((pop_get e).cons x)
theorem perm_bel {l m : List D} (h : l.Perm m) (hb : belL 0 m = true) : belL 0 l = true := bel_of fun d hd => bel_mem hb (h.mem_iff.mp hd)
theorem nd_mem {l : List D} {i : Int} (h0 : 0 ≤ i) (h1 : i < (l.length : Int)) : ∃ d, L2.atI l i = some d ∧ l[i.toNat]? = some d ∧ L2.ixN l.length i = some i.toNat := by
  have hl : i.toNat < l.length := by omega
  refine ⟨l[i.toNat], ?_, List.getElem?_eq_getElem hl, ?_⟩
  · unfold L2.atI L2.ixN
    rw [if_pos h0, if_pos h1]
    exact List.getElem?_eq_getElem hl
  · unfold L2.ixN
    rw [if_pos h0, if_pos h1]
end Ev
namespace Ev
theorem W_seq {Γ : Gam} {s : CS} {r : CSs} {σ : Sl} {S : Ev.Sto} {Q : Fl → Ev.Sto → Prop} (σ' : Sl) (S' : Ev.Sto) (h : W (evS Γ s σ S) fun fl S1 => fl = .nx σ' ∧ S1 = S') (h2 : W (evSs Γ r σ' S') Q) : W (evSs Γ (.cons s r) σ S) Q := by
  simp only [evSs, W_bind]
  refine h.mono fun fl S1 ⟨e1, e2⟩ => ?_
  subst e1 e2
  exact h2
/-- a statement that may end the body -/
theorem W_st {Γ : Gam} {s : CS} {r : CSs} {σ : Sl} {S : Ev.Sto} {Q : Fl → Ev.Sto → Prop} (h : W (evS Γ s σ S) fun fl S1 => match fl with
    | .nx σ2 => W (evSs Γ r σ2 S1) Q
    | f => Q f S1) : W (evSs Γ (.cons s r) σ S) Q := by
  simp only [evSs, W_bind]
  refine h.mono fun fl S1 q => ?_
  cases fl <;> exact q
theorem W_nil {Γ : Gam} {σ : Sl} {S : Ev.Sto} {Q : Fl → Ev.Sto → Prop} (h : Q (.nx σ) S) : W (evSs Γ .nil σ S) Q := h
end Ev
namespace Ev
theorem bind_assocR {α β γ : Type} (r : R α) (k : α → Ev.Sto → R β) (l : β → Ev.Sto → R γ) : (r.bind k).bind l = r.bind fun a S => (k a S).bind l := by
  cases r <;> rfl
end Ev

/-! Plain lists of words. -/
namespace Ev
open PySem
theorem bools_map (f : D → Bool) : ∀ l : List D, boolsD (l.map fun x => .bl (f x)) = some (l.map f)
  | [] => rfl
  | x :: r => by simp [boolsD, bools_map f r]
theorem any_id {f : D → Bool} {l : List D} : (l.map f).any id = l.any f := by
  rw [List.any_map]; rfl
theorem all_id {f : D → Bool} {l : List D} : (l.map f).all id = l.all f := by
  rw [List.all_map]; rfl
abbrev memD (l : List D) (x : D) : Bool := l.any fun z => PyData.eqv z.py x.py
/-- what a call that is given data answers does not hang on the store -/
theorem call_any {pg : Prog} {wf n : Nat} {f : Str} {ds : List D} {v : D} (hb : belL 0 ds = true) (hk : (pg.defs.lookup f).all (fun d => !d.keep) = true) (h : callN pg wf n f ds [] = .ok v []) (S : Ev.Sto) : callN pg wf n f ds S = .ok v S := by
  cases n with
  | zero => simp [callN] at h
  | succ n =>
    rw [callN_succ] at h ⊢
    unfold stepN at h ⊢
    cases hd : pg.defs.lookup f with
    | none => rw [hd] at h; cases h
    | some d =>
      rw [hd] at h hk
      have hk' : d.keep = false := by simpa using hk
      dsimp only at h ⊢
      rw [if_pos hb] at h ⊢
      cases hr : runDef (gam pg wf n) d ds [] with
      | ok a S1 =>
        rw [hr] at h
        simp only [R.bind, outPure, hk'] at h ⊢
        cases hg : gcv 0 S1 a with
        | none => rw [hg] at h; cases h
        | some u => rw [hg] at h; cases h; rfl
      | err _ _ _ => rw [hr] at h; cases h
      | no => rw [hr] at h; cases h
section
variable {k : Nat} {f : Fin k → D}
theorem of_words {ys xs : List D} (h : (ys ++ xs).Perm ((List.finRange k).map f)) : ∃ l : List (Fin k), ys = l.map f := by
  have : ∀ y ∈ ys, ∃ i, f i = y := fun y hy => by
    have := h.mem_iff.mp (List.mem_append_left xs hy)
    obtain ⟨i, _, e⟩ := List.mem_map.mp this
    exact ⟨i, e⟩
  clear h
  induction ys with
  | nil => exact ⟨[], rfl⟩
  | cons y r ih =>
    obtain ⟨i, e⟩ := this y List.mem_cons_self
    obtain ⟨l, e2⟩ := ih fun z hz => this z (List.mem_cons_of_mem _ hz)
    exact ⟨i :: l, by rw [e2, ← e]; rfl⟩
theorem sort_words {l : List (Fin k)} (hs : ∀ i, (f i).sh 60 = true) (ha : ∀ i j, PySem.W.alike (f i).py (f j).py = true) (hf : ∀ i, (match f i with | .tup _ => false | .non => false | _ => true) = true) (hl : l.length ≤ line) :
    sortD (l.map f) = some ((l.mergeSort fun i j => PySem.W.dataLe false D.py (f i) (f j)).map f) := by
  unfold sortD
  rw [msort_eq, List.map_mergeSort (r := fun i j => PySem.W.dataLe false D.py (f i) (f j)) (s := PySem.W.dataLe false D.py) (fun _ _ _ _ => rfl), if_pos]
  refine ⟨?_, by simpa using hl, ?_, .inr ?_⟩
  · induction l with
    | nil => rfl
    | cons i r ih =>
      simp only [List.map_cons, shL, Bool.and_eq_true]
      exact ⟨hs i, ih (by simp at hl; omega)⟩
  · simp only [List.all_map, List.all_eq_true]
    exact fun i _ => List.all_eq_true.mpr fun j _ => ha i j
  · simp only [List.all_map, List.all_eq_true]
    exact fun i _ => hf i
end
theorem zip_next {α : Type} {R : α → α → Prop} : ∀ {l : List α}, l.Pairwise R → ∀ p ∈ l.zip (l.drop 1), R p.1 p.2
  | [], _, p, hp => by simp at hp
  | [x], _, p, hp => by simp at hp
  | x :: y :: r, h, p, hp => by
    rw [List.drop_succ_cons, List.drop_zero, List.zip_cons_cons] at hp
    rcases List.mem_cons.mp hp with rfl | hp
    · exact (List.pairwise_cons.mp h).1 y List.mem_cons_self
    · exact zip_next (List.pairwise_cons.mp h).2 p (by simpa using hp)
section
variable {k : Nat} {f : Fin k → D}
/-- ascending lists of words -/
def Asc (f : Fin k → D) (ls : List D) : Prop := ∃ l : List (Fin k), l.Pairwise (· < ·) ∧ ls = l.map f ∧ l.length ≤ k
theorem sort_asc {ys xs : List D} (h : (ys ++ xs).Perm ((List.finRange k).map f)) (hk : k ≤ 1000) (hs : ∀ i, (f i).sh 60 = true) (ha : ∀ i j, PySem.W.alike (f i).py (f j).py = true) (hf : ∀ i, (match f i with | .tup _ => false | .non => false | _ => true) = true)
    (hle : ∀ i j, PySem.W.dataLe false D.py (f i) (f j) = decide (i ≤ j)) (inj : ∀ i j, f i = f j → i = j) : ∃ zs, sortD ys = some zs ∧ Asc f zs ∧ zs.length = ys.length := by
  obtain ⟨l, rfl⟩ := of_words h
  have len : l.length ≤ k := by
    have := h.length_eq
    simp at this
    omega
  have nd : ((l.map f) ++ xs).Nodup := by
    refine h.nodup_iff.mpr ?_
    exact List.pairwise_map.mpr ((List.nodup_finRange k).imp fun {a b} h e => h (inj a b e))
  have ndl : l.Nodup := by
    have := (List.nodup_append.mp nd).1
    exact (List.pairwise_map.mp this).imp fun {a b} h e => h (by rw [e])
  refine ⟨_, sort_words hs ha hf (by have : line = 16777216 := rfl; omega), ⟨_, ?_, rfl, by simpa using len⟩, by simp⟩
  have e : (fun i j => PySem.W.dataLe false D.py (f i) (f j)) = fun i j => decide (i ≤ j) := by
    funext i j; exact hle i j
  rw [e]
  have pw := List.pairwise_mergeSort (le := fun i j : Fin k => decide (i ≤ j)) (fun a b c h1 h2 => by simp at h1 h2 ⊢; exact Nat.le_trans h1 h2) (fun a b => by simp; exact Nat.le_total _ _) l
  have nd2 : (l.mergeSort fun i j => decide (i ≤ j)).Nodup := (List.mergeSort_perm l _).nodup_iff.mpr ndl
  refine (List.Pairwise.and pw nd2).imp fun {a b} ⟨h1, h2⟩ => ?_
  simp at h1
  have : a.val ≠ b.val := fun z => h2 (Fin.ext z)
  have h1 : a.val ≤ b.val := h1
  show a.val < b.val
  omega
theorem Asc.mem {ls : List D} (h : Asc f ls) : ∀ d ∈ ls, ∃ i, d = f i := fun d hd => by
  obtain ⟨l, _, rfl, _⟩ := h
  obtain ⟨i, _, e⟩ := List.mem_map.mp hd
  exact ⟨i, e.symm⟩
theorem Asc.pw {ls : List D} (h : Asc f ls) : ls.Pairwise fun x y => ∃ i j, i < j ∧ x = f i ∧ y = f j := by
  obtain ⟨l, p, rfl, _⟩ := h
  rw [List.pairwise_map]
  exact p.imp fun {a b} h => ⟨a, b, h, rfl, rfl⟩
end
end Ev
namespace Ev
section
variable {Γ : Gam} {σ : Sl} {S : Ev.Sto} {l m : List D} {e a b : CE} {t : CT} {i : CI} {ifs : CEs} {own : List Nat}
theorem ev_zipT (ha : evE Γ a σ S = .ok (.tup l) S) (hb : evE Γ b σ S = .ok (.tup m) S) : evI Γ (.zip a b) σ S = .ok (zipL l m, []) S := by
  simp only [evI, ha, hb, R.bind, deref]
theorem ev_seqT (ha : evE Γ a σ S = .ok (.tup l) S) : evI Γ (.seq a) σ S = .ok (l, []) S := by
  simp only [evI, ha, R.bind, seqD, deref, R.of, srcG]
theorem ev_seqF (ha : evE Γ a σ S = .ok (.frl l) S) : evI Γ (.seq a) σ S = .ok (l, []) S := by
  simp only [evI, ha, R.bind, seqD, deref, R.of, srcG]
theorem ev_enumT (ha : evE Γ a σ S = .ok (.tup l) S) : evI Γ (.enum a) σ S = .ok (enumL l, []) S := by
  simp only [evI, ha, R.bind, seqD, deref, R.of, srcG]
/-- a comprehension that changes nothing -/
theorem ev_comp {f : D → D} (hi : evI Γ i σ S = .ok (l, []) S) (hl : l.length ≤ line) (h : ∀ d ∈ l, ∃ σ2, bindT t d (wip σ own) = some σ2 ∧ evE Γ e σ2 S = .ok (f d) S) : evF Γ (.comp e t i .nil own) σ S = .ok (l.map f) S := by
  simp only [evF, hi, R.bind]
  rw [cmpL_map (f := f) (fun d hd => ?_) (by simpa using hl)]
  · rfl
  · obtain ⟨σ2, h1, h2⟩ := h d hd
    simp only [h1, evIf, h2, R.bind, if_true]
theorem ev_all {g : D → Bool} (hi : evI Γ i σ S = .ok (l, []) S) (hl : l.length ≤ line) (h : ∀ d ∈ l, ∃ σ2, bindT t d (wip σ own) = some σ2 ∧ evE Γ e σ2 S = .ok (.bl (g d)) S) : evE Γ (.blt .all (.cons (.fr (.comp e t i .nil own)) .nil)) σ S = .ok (.bl (l.all g)) S := by
  simp only [evE, evEs, ev_comp (f := fun d => .bl (g d)) hi hl h, R.bind, bltD, deref, bools_map, Option.map_some, R.of, all_id]
theorem ev_any {g : D → Bool} (hi : evI Γ i σ S = .ok (l, []) S) (hl : l.length ≤ line) (h : ∀ d ∈ l, ∃ σ2, bindT t d (wip σ own) = some σ2 ∧ evE Γ e σ2 S = .ok (.bl (g d)) S) : evE Γ (.blt .any (.cons (.fr (.comp e t i .nil own)) .nil)) σ S = .ok (.bl (l.any g)) S := by
  simp only [evE, evEs, ev_comp (f := fun d => .bl (g d)) hi hl h, R.bind, bltD, deref, bools_map, Option.map_some, R.of, any_id]
theorem all_true {g : D → Bool} (h : ∀ d ∈ l, g d = true) : l.all g = true := List.all_eq_true.mpr h
end
end Ev
namespace Ev
section
variable {Γ : Gam} {σ : Sl} {S S1 : Ev.Sto} {a b : CE} {r : CEs} {v : D} {Q : Fl → Ev.Sto → Prop} {x y : CSs}
theorem and_t (ha : evE Γ a σ S = .ok (.bl true) S1) : evAnd Γ (.cons a (.cons b r)) σ S = evAnd Γ (.cons b r) σ S1 := by
  simp only [evAnd, ha, R.bind, truD, deref, R.of, if_true]
theorem and_f (ha : evE Γ a σ S = .ok (.bl false) S1) : evAnd Γ (.cons a (.cons b r)) σ S = .ok (.bl false) S1 := by
  simp only [evAnd, ha, R.bind, truD, deref, R.of]
  rfl
theorem or_f (ha : evE Γ a σ S = .ok (.bl false) S1) : evOr Γ (.cons a (.cons b r)) σ S = evOr Γ (.cons b r) σ S1 := by
  simp only [evOr, ha, R.bind, truD, deref, R.of]
  rfl
theorem or_t (ha : evE Γ a σ S = .ok (.bl true) S1) : evOr Γ (.cons a (.cons b r)) σ S = .ok (.bl true) S1 := by
  simp only [evOr, ha, R.bind, truD, deref, R.of, if_true]
theorem and_1 (ha : evE Γ a σ S = .ok v S1) : evAnd Γ (.cons a .nil) σ S = .ok v S1 := by
  simp only [evAnd, ha]
theorem or_1 (ha : evE Γ a σ S = .ok v S1) : evOr Γ (.cons a .nil) σ S = .ok v S1 := by
  simp only [evOr, ha]
theorem E_and {l : CEs} (h : evAnd Γ l σ S = .ok v S1) : evE Γ (.and l) σ S = .ok v S1 := by
  simp only [evE, h]
theorem E_or {l : CEs} (h : evOr Γ l σ S = .ok v S1) : evE Γ (.or l) σ S = .ok v S1 := by
  simp only [evE, h]
/-- two in a row, as Booleans -/
theorem or_2 {p q : Bool} (ha : evE Γ a σ S = .ok (.bl p) S) (hb : evE Γ b σ S = .ok (.bl q) S) : evE Γ (.or (.cons a (.cons b .nil))) σ S = .ok (.bl (p || q)) S := by
  cases p with
  | true => exact E_or (or_t ha)
  | false => exact E_or ((or_f ha).trans (or_1 hb))
theorem and_2 {p q : Bool} (ha : evE Γ a σ S = .ok (.bl p) S) (hb : evE Γ b σ S = .ok (.bl q) S) : evE Γ (.and (.cons a (.cons b .nil))) σ S = .ok (.bl (p && q)) S := by
  cases p with
  | false => exact E_and (and_f ha)
  | true => exact E_and ((and_t ha).trans (and_1 hb))
theorem and_3 {c : CE} {p q s : Bool} (ha : evE Γ a σ S = .ok (.bl p) S) (hb : evE Γ b σ S = .ok (.bl q) S) (hc : evE Γ c σ S = .ok (.bl s) S) : evE Γ (.and (.cons a (.cons b (.cons c .nil)))) σ S = .ok (.bl (p && (q && s))) S := by
  cases p with
  | false => exact E_and (and_f ha)
  | true => cases q with
    | false => exact E_and ((and_t ha).trans (and_f hb))
    | true => exact E_and ((and_t ha).trans ((and_t hb).trans (and_1 hc)))
theorem E_not {p : Bool} (ha : evE Γ a σ S = .ok (.bl p) S1) : evE Γ (.not a) σ S = .ok (.bl (!p)) S1 := by
  simp only [evE, ha, R.bind, truD, deref, Option.map_some, R.of]
theorem W_ret {rest : CSs} (h : evE Γ a σ S = .ok v S1) (q : Q (.rt v) S1) : W (evSs Γ (.cons (.ret a) rest) σ S) Q := by
  simp only [evSs, evS, h, R.bind, W_ok]
  exact q
theorem T_bl {p : Bool} (h : evE Γ a σ S = .ok (.bl p) S1) : evT Γ a σ S = .ok p S1 := by
  simp only [evT, h, R.bind, truD, deref, R.of]
theorem W_if {rest : CSs} {p : Bool} (h : evE Γ a σ S = .ok (.bl p) S1) (ht : p = true → W (evSs Γ x σ S1) fun fl S2 => match fl with
    | .nx σ2 => W (evSs Γ rest σ2 S2) Q
    | f => Q f S2) (hf : p = false → W (evSs Γ y σ S1) fun fl S2 => match fl with
    | .nx σ2 => W (evSs Γ rest σ2 S2) Q
    | f => Q f S2) : W (evSs Γ (.cons (.ifs a x y) rest) σ S) Q := by
  refine W_st ?_
  simp only [evS, T_bl h, R.bind]
  cases p with
  | true => exact ht rfl
  | false => exact hf rfl
end
end Ev

/-! What repr tells of data, and how long it is. -/
namespace Ev
open PySem
mutual
def D.cost : D → Nat
  | .int _ => 1921
  | .bl _ => 5
  | .non => 4
  | .str s => 10 * s.length + 2
  | .tup l => costL l + 3
  | .frl l => costL l + 3
  | .loc _ => 0
  | .emp => 0
def costL : List D → Nat
  | [] => 0
  | d :: r => d.cost + 2 + costL r
end
mutual
def D.shw : D → Bool
  | .int i => decide (i.natAbs.log2 < 1920)
  | .bl _ => true
  | .non => true
  | .str s => PyData.strOk s
  | .tup l => shwL l
  | .frl l => shwL l
  | .loc _ => false
  | .emp => false
def shwL : List D → Bool
  | [] => true
  | d :: r => d.shw && shwL r
end
mutual
theorem shw_ok : ∀ d : D, d.shw = true → d.py.showable = true ∧ d.py.shown.length ≤ d.cost
  | .int i, h => by
    have h' : i.natAbs.log2 < 1920 := by simpa [D.shw] using h
    refine ⟨by simpa [D.py, PyData.showable] using h', ?_⟩
    simp only [D.py, PyData.shown, D.cost]
    exact PyProof.Rows.int_text_len_1921 h'
  | .bl b, h => by
    refine ⟨by simp [D.py, PyData.showable], ?_⟩
    cases b <;> decide +kernel
  | .non, h => ⟨by simp [D.py, PyData.showable], by decide +kernel⟩
  | .str s, h => by
    refine ⟨by simp [D.py, PyData.showable], ?_⟩
    simp only [D.py, PyData.shown, D.cost]
    refine StrLaws.reprText_len s fun c hc => ?_
    have h : PyData.strOk s = true := by simpa [D.shw] using h
    unfold PyData.strOk at h
    rw [Array.all_eq_true_iff_forall_mem] at h
    have := h c (by simpa using hc)
    have := of_decide_eq_true this
    omega
  | .tup l, h => by
    obtain ⟨h1, h2⟩ := shwL_ok l (by simpa [D.shw] using h)
    refine ⟨by simpa [D.py, PyData.showable] using h1, ?_⟩
    simp only [D.py, PyData.shown, D.cost]
    have h3 := tupleText_len_le (PyData.shownAll (pyL l))
    have h4 : (PyData.shownAll (pyL l)).length = l.length := by rw [PyData.shownAll_length]; exact pyL_len l
    omega
  | .frl l, h => by
    obtain ⟨h1, h2⟩ := shwL_ok l (by simpa [D.shw] using h)
    refine ⟨by simpa [D.py, PyData.showable] using h1, ?_⟩
    simp only [D.py, PyData.shown, D.cost]
    have h3 := listText_len_le (PyData.shownAll (pyL l))
    have h4 : (PyData.shownAll (pyL l)).length = l.length := by rw [PyData.shownAll_length]; exact pyL_len l
    omega
  | .loc n, h => by simp [D.shw] at h
  | .emp, h => by simp [D.shw] at h
theorem shwL_ok : ∀ l : List D, shwL l = true → PyData.showableAll (pyL l) = true ∧ ((PyData.shownAll (pyL l)).map (·.length)).sum + 2 * l.length ≤ costL l
  | [], _ => ⟨by simp [pyL, PyData.showableAll], by simp [pyL, PyData.shownAll, costL]⟩
  | d :: r, h => by
    simp only [shwL, Bool.and_eq_true] at h
    obtain ⟨h1, h2⟩ := shw_ok d h.1
    obtain ⟨h3, h4⟩ := shwL_ok r h.2
    refine ⟨by simp [pyL, PyData.showableAll, h1, h3], ?_⟩
    simp only [pyL, PyData.shownAll, List.map_cons, List.sum_cons, List.length_cons, costL]
    omega
theorem pyL_len : ∀ l : List D, (pyL l).length = l.length
  | [] => rfl
  | d :: r => by simp [pyL, pyL_len r]
end
theorem shwL_of {l : List D} (h : ∀ d ∈ l, d.shw = true) : shwL l = true := by
  induction l with
  | nil => rfl
  | cons d r ih => simp only [shwL, Bool.and_eq_true]; exact ⟨h d List.mem_cons_self, ih fun e he => h e (List.mem_cons_of_mem _ he)⟩
theorem shL_of {n : Nat} {l : List D} (h : ∀ d ∈ l, d.sh n = true) : shL n l = true := by
  induction l with
  | nil => rfl
  | cons d r ih => simp only [shL, Bool.and_eq_true]; exact ⟨h d List.mem_cons_self, ih fun e he => h e (List.mem_cons_of_mem _ he)⟩
theorem costL_of {c : Nat} {l : List D} (h : ∀ d ∈ l, d.cost ≤ c) : costL l ≤ l.length * (c + 2) := by
  induction l with
  | nil => simp [costL]
  | cons d r ih =>
    simp only [costL, List.length_cons, Nat.add_mul]
    have := h d List.mem_cons_self
    have := ih fun e he => h e (List.mem_cons_of_mem _ he)
    omega
/-- what may be told by repr -/
def Rp (x : D) : Prop := x.sh 60 = true ∧ x.shw = true ∧ x.cost ≤ line
theorem Rp.der {x : D} (h : Rp x) (S : Ev.Sto) : deref S x = x := by
  cases x with
  | loc n => simp [Rp, D.shw] at h
  | _ => rfl
theorem Rp.blt {x : D} (h : Rp x) (S : Ev.Sto) : bltD S .repr [x] = some (.str x.py.shown) := by
  have h1 := shw_ok x h.2.1
  unfold bltD
  simp only [h.der S]
  rw [if_pos ⟨h.1, h1.1, Nat.le_trans h1.2 h.2.2⟩]
section
variable {Γ : Gam} {σ : Sl} {S S1 S2 : Ev.Sto} {a b : CE} {x y : D}
theorem E_repr (h : Rp x) (ha : evE Γ a σ S = .ok x S1) : evE Γ (.blt .repr (.cons a .nil)) σ S = .ok (.str x.py.shown) S1 := by
  simp only [evE, evEs, ha, R.bind, h.blt, R.of]
/-- repr(a) != repr(b) where both are one -/
theorem repr_ne (h : Rp x) (ha : evE Γ a σ S = .ok x S1) (hb : evE Γ b σ S1 = .ok x S2) : evE Γ (.cmp .ne (.blt .repr (.cons a .nil)) (.blt .repr (.cons b .nil))) σ S = .ok (.bl false) S2 := by
  have e : evE Γ (.cmp .ne (.blt .repr (.cons a .nil)) (.blt .repr (.cons b .nil))) σ S = (evE Γ (.blt .repr (.cons a .nil)) σ S).bind fun x S1 => (evE Γ (.blt .repr (.cons b .nil)) σ S1).bind fun y S2 => R.of ((cmpD S2 .ne x y).map .bl) S2 := by simp only [evE]
  rw [e, E_repr h ha]
  simp only [R.bind]
  rw [E_repr h hb]
  simp [R.of, cmpD, eqD, deref]
theorem repr_eq (h : Rp x) (ha : evE Γ a σ S = .ok x S1) (hb : evE Γ b σ S1 = .ok x S2) : evE Γ (.cmp .eq (.blt .repr (.cons a .nil)) (.blt .repr (.cons b .nil))) σ S = .ok (.bl true) S2 := by
  have e : evE Γ (.cmp .eq (.blt .repr (.cons a .nil)) (.blt .repr (.cons b .nil))) σ S = (evE Γ (.blt .repr (.cons a .nil)) σ S).bind fun x S1 => (evE Γ (.blt .repr (.cons b .nil)) σ S1).bind fun y S2 => R.of ((cmpD S2 .eq x y).map .bl) S2 := by simp only [evE]
  rw [e, E_repr h ha]
  simp only [R.bind]
  rw [E_repr h hb]
  simp [R.of, cmpD, eqD, deref]
end
end Ev

/-! Numbers of walkers, lots, eras: plain lists of integers. -/
namespace Ev
open PySem
abbrev nums (l : List Int) : List D := l.map D.int
abbrev lotD (l : List Int) : D := .tup (nums l)
def evb (m : Int) : List Int := (List.range m.toNat).map fun j => ((j : Nat) : Int)
theorem rng_evb (m : Int) : rngL 0 m = nums (evb m) := by
  simp only [rngL, nums, evb, List.map_map, Int.sub_zero]
  refine List.map_congr_left fun j _ => ?_
  simp
theorem evb_mem {m i : Int} : i ∈ evb m ↔ 0 ≤ i ∧ i < m := by
  unfold evb
  rw [List.mem_map]
  constructor
  · rintro ⟨j, hj, rfl⟩
    have := List.mem_range.mp hj
    omega
  · rintro ⟨h0, h1⟩
    exact ⟨i.toNat, List.mem_range.mpr (by omega), by omega⟩
theorem evb_pw (m : Int) : (evb m).Pairwise (· < ·) := by
  unfold evb
  rw [List.pairwise_map]
  exact List.pairwise_lt_range.imp fun {a b} h => by omega
theorem evb_len (m : Int) : (evb m).length = m.toNat := by simp [evb]
theorem ints_bel (l : List Int) (n : Nat) : belL n (nums l) = true := bel_of fun d hd => by
  obtain ⟨i, _, rfl⟩ := List.mem_map.mp hd
  rfl
theorem ints_sh (l : List Int) {n : Nat} (h : 1 ≤ n := by decide) : shL n (nums l) = true := shL_of fun d hd => by
  obtain ⟨i, _, rfl⟩ := List.mem_map.mp hd
  obtain ⟨k, rfl⟩ : ∃ k, n = k + 1 := ⟨n - 1, by omega⟩
  rfl
theorem ints_has (l : List Int) (i : Int) : ((nums l).any fun z => PyData.eqv z.py (D.int i).py) = l.contains i := by
  induction l with
  | nil => rfl
  | cons x r ih =>
    simp only [List.map_cons, List.any_cons, ih, List.contains_cons]
    congr 1
    show (x == i) = (i == x)
    rw [Bool.eq_iff_iff]
    simp only [beq_iff_eq]
    exact eq_comm
theorem ints_in (S : Ev.Sto) (l : List Int) (i : Int) : inD S (.int i) (lotD l) = some (l.contains i) := by
  show (if (D.int i).sh 60 = true ∧ shL 60 (nums l) = true then some ((nums l).any fun z => PyData.eqv z.py (D.int i).py) else none) = _
  rw [if_pos ⟨rfl, ints_sh l⟩, ints_has]
theorem lot_nil (S : Ev.Sto) (l : List Int) : eqD S (lotD l) (.tup []) = some l.isEmpty := by
  have e : eqD S (lotD l) (.tup []) = if (lotD l).sh 60 = true ∧ (D.tup []).sh 60 = true then some (PyData.eqv (lotD l).py (D.tup []).py) else none := rfl
  rw [e, if_pos ⟨by simp only [D.sh]; exact ints_sh l, rfl⟩]
  cases l with
  | nil => decide
  | cons x r => simp [D.py, nums, pyL, PyData.eqv, PyData.eqvAll]
theorem intsj : ∀ {a c : List Int}, nums a = nums c → a = c
  | [], [], _ => rfl
  | [], _ :: _, h => by simp at h
  | _ :: _, [], h => by simp at h
  | x :: a, y :: c, h => by
    simp only [nums, List.map_cons, List.cons.injEq, D.int.injEq] at h
    rw [h.1, intsj h.2]
theorem ints_of {l : List Int} : ∀ {ys : List D}, (∀ y ∈ ys, y ∈ nums l) → ∃ l' : List Int, ys = nums l' ∧ ∀ t ∈ l', t ∈ l
  | [], _ => ⟨[], rfl, by simp⟩
  | y :: ys, h => by
    obtain ⟨t, ht, rfl⟩ := List.mem_map.mp (h y List.mem_cons_self)
    obtain ⟨l', rfl, h2⟩ := ints_of (ys := ys) fun z hz => h z (List.mem_cons_of_mem _ hz)
    exact ⟨t :: l', rfl, fun u hu => by
      rcases List.mem_cons.mp hu with rfl | hu
      · exact ht
      · exact h2 u hu⟩
theorem ints_nd {l : List Int} (h : l.Nodup) : (nums l).Nodup := List.pairwise_map.mpr (h.imp fun {a b} h e => h (D.int.inj e))
/-- drawn ones, without repetition -/
theorem drawn_ints {ys xs : List D} {l : List Int} (h : (ys ++ xs).Perm (nums l)) (nd : l.Nodup) : ∃ l' : List Int, ys = nums l' ∧ l'.Nodup ∧ ∀ t ∈ l', t ∈ l := by
  obtain ⟨l', rfl, h2⟩ := ints_of (l := l) (ys := ys) fun y hy => h.mem_iff.mp (List.mem_append_left _ hy)
  have nd2 := (List.nodup_append.mp (h.nodup_iff.mpr (ints_nd nd))).1
  exact ⟨l', rfl, (List.pairwise_map.mp nd2).imp fun {a b} h e => h (by rw [e]), h2⟩
theorem pw_nd {l : List Int} (h : l.Pairwise (· < ·)) : l.Nodup := h.imp fun {a b} h e => by omega
theorem le_int (a b : Int) : PySem.W.dataLe false D.py (.int a) (.int b) = decide (a ≤ b) := by
  have := congrFun (congrFun (PySem.W.dataLe_int (fun i : Int => i)) a) b
  exact this
def srt (l : List Int) : List Int := l.mergeSort fun a b => decide (a ≤ b)
theorem srt_perm (l : List Int) : (srt l).Perm l := List.mergeSort_perm _ _
theorem srt_pw {l : List Int} (nd : l.Nodup) : (srt l).Pairwise (· < ·) := by
  have pw := List.pairwise_mergeSort (le := fun a b : Int => decide (a ≤ b)) (fun a b c h1 h2 => by simp at h1 h2 ⊢; omega) (fun a b => by simp; omega) l
  have nd2 : (l.mergeSort fun a b => decide (a ≤ b)).Nodup := (List.mergeSort_perm l _).nodup_iff.mpr nd
  refine (List.Pairwise.and pw nd2).imp fun {a b} ⟨h1, h2⟩ => ?_
  simp at h1
  omega
theorem sort_srt {l : List Int} (hl : l.length ≤ 1000) : sortD (nums l) = some (nums (srt l)) := by
  have e : msort (nums l) (PySem.W.dataLe false D.py) = nums (srt l) := by
    rw [msort_eq]
    exact (List.map_mergeSort (f := D.int) (r := fun a b : Int => decide (a ≤ b)) (s := PySem.W.dataLe false D.py) (fun a _ b _ => (le_int a b).symm)).symm
  unfold sortD
  have : line = 16777216 := rfl
  rw [if_pos, e]
  refine ⟨ints_sh l, by simp; omega, ?_, .inr ?_⟩
  · refine List.all_eq_true.mpr fun x hx => List.all_eq_true.mpr fun y hy => ?_
    obtain ⟨t, _, rfl⟩ := List.mem_map.mp hx
    obtain ⟨u, _, rfl⟩ := List.mem_map.mp hy
    rfl
  · refine List.all_eq_true.mpr fun x hx => ?_
    obtain ⟨t, _, rfl⟩ := List.mem_map.mp hx
    rfl
theorem sort_ints {l : List Int} (nd : l.Nodup) (hl : l.length ≤ 1000) : ∃ z : List Int, sortD (nums l) = some (nums z) ∧ z.Pairwise (· < ·) ∧ z.Perm l := ⟨srt l, sort_srt hl, srt_pw nd, srt_perm l⟩
/-! ### ascending -/
def lt2 : D → Bool
  | .tup [.int a, .int b] => decide (a < b)
  | _ => false
def ascB (xs : List D) : Bool := (zipL xs (xs.drop 1)).all lt2
theorem asc_ints : ∀ {l : List Int}, ascB (nums l) = true ↔ l.Pairwise (· < ·)
  | [] => by simp [ascB, zipL]
  | [x] => by simp [ascB, zipL]
  | x :: y :: r => by
    have ih := asc_ints (l := y :: r)
    have e : ascB (nums (x :: y :: r)) = (decide (x < y) && ascB (nums (y :: r))) := rfl
    rw [e, Bool.and_eq_true, ih, decide_eq_true_eq]
    constructor
    · rintro ⟨h1, h2⟩
      refine List.pairwise_cons.mpr ⟨fun z hz => ?_, h2⟩
      rcases List.mem_cons.mp hz with rfl | hz
      · exact h1
      · have := (List.pairwise_cons.mp h2).1 z hz
        omega
    · intro h
      exact ⟨(List.pairwise_cons.mp h).1 y List.mem_cons_self, (List.pairwise_cons.mp h).2⟩
theorem asc_len2 {m : Int} : ∀ {l : List Int} {lo : Int}, l.Pairwise (· < ·) → (∀ i ∈ l, lo ≤ i ∧ i < m) → (l.length : Int) ≤ max 0 (m - lo)
  | [], _, _, _ => by simp; omega
  | x :: r, lo, h, hb => by
    have h1 := hb x List.mem_cons_self
    have := asc_len2 (l := r) (lo := x + 1) (List.pairwise_cons.mp h).2 fun i hi => ⟨by have := (List.pairwise_cons.mp h).1 i hi; omega, (hb i (List.mem_cons_of_mem _ hi)).2⟩
    simp only [List.length_cons]
    omega
/-! ### lots -/
/-- an integer from .. to -/
def whB (lo hi : Int) : D → Bool
  | .int i => decide (lo ≤ i) && decide (i ≤ hi)
  | _ => false
def lotB (m : Int) : D → Bool
  | .tup xs => !xs.isEmpty && (xs.all (whB 0 (m - 1)) && ascB xs)
  | _ => false
def lotsB (m : Int) : D → Bool
  | .tup xs => xs.all (lotB m)
  | _ => false
/-- a lot of so many -/
def Lt (m : Int) (l : List Int) : Prop := l ≠ [] ∧ (∀ i ∈ l, 0 ≤ i ∧ i < m) ∧ l.Pairwise (· < ·)
theorem whole_ints {lo hi : Int} : ∀ {xs : List D}, xs.all (whB lo hi) = true → ∃ l : List Int, xs = nums l ∧ ∀ i ∈ l, lo ≤ i ∧ i ≤ hi
  | [], _ => ⟨[], rfl, by simp⟩
  | x :: r, h => by
    simp only [List.all_cons, Bool.and_eq_true] at h
    obtain ⟨l, rfl, hl⟩ := whole_ints h.2
    cases x with
    | int i =>
      have h1 : lo ≤ i ∧ i ≤ hi := by simpa [whB] using h.1
      exact ⟨i :: l, rfl, fun j hj => by
        rcases List.mem_cons.mp hj with rfl | hj
        · exact h1
        · exact hl j hj⟩
    | _ => simp [whB] at h
theorem lot_ok {m : Int} {l : List Int} (h : Lt m l) : lotB m (lotD l) = true := by
  obtain ⟨h1, h2, h3⟩ := h
  show (!(nums l).isEmpty && ((nums l).all (whB 0 (m - 1)) && ascB (nums l))) = true
  rw [asc_ints.mpr h3, Bool.and_true, Bool.and_eq_true]
  refine ⟨by cases l with | nil => exact absurd rfl h1 | cons _ _ => rfl, List.all_eq_true.mpr fun x hx => ?_⟩
  obtain ⟨i, hi, rfl⟩ := List.mem_map.mp hx
  have := h2 i hi
  simp [whB]
  omega
theorem lot_is {m : Int} {x : D} (h : lotB m x = true) : ∃ l, x = lotD l ∧ Lt m l := by
  cases x with
  | tup xs =>
    simp only [lotB, Bool.and_eq_true] at h
    obtain ⟨h1, h2, h3⟩ := h
    obtain ⟨l, rfl, hl⟩ := whole_ints h2
    refine ⟨l, rfl, ?_, fun i hi => by have := hl i hi; omega, asc_ints.mp h3⟩
    rintro rfl
    simp at h1
  | _ => simp [lotB] at h
theorem lots_is {m : Int} : ∀ {xs : List D}, xs.all (lotB m) = true → ∃ ls : List (List Int), xs = ls.map lotD ∧ ∀ l ∈ ls, Lt m l
  | [], _ => ⟨[], rfl, by simp⟩
  | x :: r, h => by
    simp only [List.all_cons, Bool.and_eq_true] at h
    obtain ⟨l, rfl, hl⟩ := lot_is h.1
    obtain ⟨ls, rfl, hls⟩ := lots_is h.2
    exact ⟨l :: ls, rfl, fun j hj => by
      rcases List.mem_cons.mp hj with rfl | hj
      · exact hl
      · exact hls j hj⟩
theorem lots_ok {m : Int} {ls : List (List Int)} (h : ∀ l ∈ ls, Lt m l) : lotsB m (.tup (ls.map lotD)) = true := by
  refine List.all_eq_true.mpr fun x hx => ?_
  obtain ⟨l, hl, rfl⟩ := List.mem_map.mp hx
  exact lot_ok (h l hl)
theorem Lt.len {m : Int} {l : List Int} (h : Lt m l) (hm : 0 ≤ m) : 1 ≤ l.length ∧ (l.length : Int) ≤ m := by
  refine ⟨List.length_pos_iff.mpr h.1, ?_⟩
  have := asc_len2 (m := m) (lo := 0) h.2.2 h.2.1
  omega
theorem lots_bel (ls : List (List Int)) (n : Nat) : belL n (ls.map lotD) = true := bel_of fun d hd => by
  obtain ⟨l, _, rfl⟩ := List.mem_map.mp hd
  simp only [D.bel]
  exact ints_bel l n
/-! ### eras -/
def leftI (m : Int) (rest lot : List Int) : List Int :=
  if (rest.filter fun i => !lot.contains i).isEmpty = true then evb m else rest.filter fun i => !lot.contains i
/-- who is left behind these lots; none if they are no eras -/
def eraI (m : Int) : List Int → List (List Int) → Option (List Int)
  | rest, [] => some rest
  | rest, lot :: r => if (lot.all fun i => rest.contains i) = true then eraI m (leftI m rest lot) r else none
/-- who may be left -/
def Rs (m : Int) (rest : List Int) : Prop := rest ≠ [] ∧ (∀ i ∈ rest, 0 ≤ i ∧ i < m) ∧ rest.Pairwise (· < ·)
theorem evb_rs {m : Int} (hm : 1 ≤ m) : Rs m (evb m) := ⟨fun e => by have := (evb_mem (m := m) (i := 0)).mpr ⟨by omega, by omega⟩; rw [e] at this; simp at this, fun i hi => evb_mem.mp hi, evb_pw m⟩
theorem left_rs {m : Int} {rest lot : List Int} (hm : 1 ≤ m) (h : Rs m rest) : Rs m (leftI m rest lot) := by
  unfold leftI
  split
  · exact evb_rs hm
  · rename_i h2
    exact ⟨fun e => h2 (by rw [e]; rfl), fun i hi => h.2.1 i ((List.mem_filter.mp hi).1), h.2.2.filter _⟩
theorem Rs.len {m : Int} {l : List Int} (h : Rs m l) (hm : 0 ≤ m) : 1 ≤ l.length ∧ (l.length : Int) ≤ m := Lt.len h hm
theorem era_app {m : Int} : ∀ {a b : List (List Int)} {rest : List Int}, eraI m rest (a ++ b) = (eraI m rest a).bind fun r => eraI m r b
  | [], b, rest => rfl
  | x :: a, b, rest => by
    simp only [List.cons_append, eraI]
    split
    · exact era_app
    · rfl
/-! ### kinds -/
def kindB (k : Str) (m : Int) (ls : List (List Int)) : Bool :=
  if k = "full" then ls.all fun l => decide ((l.length : Int) = m)
  else if k = "one" then ls.all fun l => decide ((l.length : Int) = 1)
  else if k = "some" then true
  else (eraI m (evb m) ls).isSome
def unI : D → Int
  | .int i => i
  | _ => 0
def unL : D → List Int
  | .tup ys => ys.map unI
  | _ => []
/-- is_kind of any value -/
def isKind (k : Str) (m : Int) (v : D) : Bool :=
  lotsB m v && match v with
    | .tup xs => kindB k m (xs.map unL)
    | _ => false
theorem unlot1 (l : List Int) : unL (lotD l) = l := by
  show (nums l).map unI = l
  rw [nums, List.map_map]
  conv => rhs; rw [← List.map_id l]
  exact List.map_congr_left fun i _ => rfl
theorem unlot (ls : List (List Int)) : (ls.map lotD).map unL = ls := by
  rw [List.map_map]
  conv => rhs; rw [← List.map_id ls]
  exact List.map_congr_left fun l _ => unlot1 l
theorem isKind_lots {k : Str} {m : Int} {ls : List (List Int)} (h : ∀ l ∈ ls, Lt m l) : isKind k m (.tup (ls.map lotD)) = kindB k m ls := by
  unfold isKind
  rw [lots_ok h, Bool.true_and]
  simp only [unlot]
/-! ### slices -/
theorem cut_to {l : List D} {k : Int} (k0 : 0 ≤ k) (k1 : k ≤ l.length) (S : Ev.Sto) : slcD S (.tup l) none (some k) = some (.tup (l.take k.toNat)) := by
  simp only [slcD, deref, cutL, HT.sIx, Int.not_lt.mpr k0, if_false, List.drop_zero, Nat.sub_zero]
  rw [Nat.min_eq_left (by omega)]
theorem cut_from {l : List D} {k : Int} (k0 : 0 ≤ k) (k1 : k ≤ l.length) (S : Ev.Sto) : slcD S (.tup l) (some k) none = some (.tup (l.drop k.toNat)) := by
  simp only [slcD, deref, cutL, HT.sIx, Int.not_lt.mpr k0, if_false]
  rw [Nat.min_eq_left (by omega), List.take_of_length_le (by simp)]
theorem cut_mid {l : List D} {j k : Int} (j0 : 0 ≤ j) (k0 : j ≤ k) (k1 : k ≤ l.length) (S : Ev.Sto) : slcD S (.tup l) (some j) (some k) = some (.tup ((l.drop j.toNat).take (k.toNat - j.toNat))) := by
  simp only [slcD, deref, cutL, HT.sIx, Int.not_lt.mpr j0, Int.not_lt.mpr (Int.le_trans j0 k0), if_false]
  rw [Nat.min_eq_left (by omega), Nat.min_eq_left (by omega)]
theorem cut_1 (xs : List D) (S : Ev.Sto) : slcD S (.tup xs) (some 1) none = some (.tup (xs.drop 1)) := by
  cases xs with
  | nil => rfl
  | cons x r => exact cut_from (k := 1) (by decide) (by simp; omega) S
/-- a tuple so long -/
def tupB (lo hi : Int) : D → Bool
  | .tup xs => decide (lo ≤ (xs.length : Int)) && decide ((xs.length : Int) ≤ hi)
  | _ => false
/-! ### evaluations in one go -/
theorem S_app {Γ : Gam} {a b : CE} {σ : Sl} {S S1 S2 : Ev.Sto} {k : Nat} {y : D} {xs : List D} (ha : evE Γ a σ S = .ok (.loc k) S1) (hb : evE Γ b σ S1 = .ok y S2) (hL : isL S1 (.loc k) = true) (hk : S2[k]? = some (.lst xs)) (hl : xs.length < line) :
    evS Γ (.expr (.mth .append a (.cons b .nil))) σ S = .ok (.nx σ) (S2.set k (.lst (xs ++ [y]))) := by
  simp only [evS, evE, evEs, ha, R.bind, hb, hL, mthD, hk, hl, if_true]
theorem W_eq {Γ : Gam} {s : CS} {r : CSs} {σ σ' : Sl} {S S' : Ev.Sto} {Q : Fl → Ev.Sto → Prop} (h : evS Γ s σ S = .ok (.nx σ') S') (h2 : W (evSs Γ r σ' S') Q) : W (evSs Γ (.cons s r) σ S) Q := W_seq σ' S' (by rw [h]; exact ⟨rfl, rfl⟩) h2
theorem S_asg {Γ : Gam} {i : Nat} {e : CE} {σ : Sl} {S S1 : Ev.Sto} {v : D} (h : evE Γ e σ S = .ok v S1) : evS Γ (.asg (.nm i) e) σ S = .ok (.nx (σ.set i (some v))) S1 := by
  simp only [evS, h, R.bind, bindT, R.of]
theorem S_call {Γ : Gam} {e : CE} {σ : Sl} {S S1 : Ev.Sto} {v : D} (h : evE Γ e σ S = .ok v S1) : evS Γ (.expr e) σ S = .ok (.nx σ) S1 := by
  simp only [evS, h, R.bind]
theorem rng0_at {b : Int} {j : Nat} {d : D} (h : (rngL 0 b)[j]? = some d) : d = .int (j : Nat) ∧ ((j : Nat) : Int) < b := by
  have lt := (List.getElem?_eq_some_iff.mp h).1
  have lt' : j < b.toNat := by simpa [rngL] using lt
  unfold rngL at h
  rw [List.getElem?_map, List.getElem?_range (by omega)] at h
  have := Option.some.inj h
  exact ⟨by rw [← this]; simp, by omega⟩
end Ev

namespace Lw
open PySem PySem.Spec PyProof.Rows L2 Ev
/-! ### the text of the law -/
abbrev Rw : PySem.W.OpenRow := PySem.W.OpenLaw.row PySem.Challenge.rw_onestillview_k15_beats_by_hand
def top (i : Nat) : Stmt := PySem.Challenge.pw_onestillview_k15_beats_by_hand.main.body.getD i (.Pass ⟨0, 0, 0, 0⟩)
def ddOf : Stmt → He.DefD
  | .FunctionDef x a b _ _ _ sc _ _ _ => ⟨(x, none), x, x, a, b, sc, [], []⟩
  | _ => ⟨("law", none), "law", "law", ⟨[], [], none, [], [], none, []⟩, [], ⟨.function, [], false, false, []⟩, [], []⟩
def kwp : List (Str × Nat × List Str × List Nat) := []
def own : List Str := ("is_whole" :: "is_integer" :: "is_tuple" :: "is_said" :: "is_ascending" :: "is_floor" :: "check_floor" :: "is_sense" :: "is_stand" :: "is_standing" :: "check_standing" :: "is_lot" :: "check_lot" :: "is_lots" :: "check_lots" :: "whole_in" :: "integer_in" :: "place_at" :: "moved_to" :: "cell_of" :: "cells_of" :: "view_of" :: "expression_in" :: "is_free_name" :: "lines_in" :: "check_program" :: "sign_of" :: "thought_of" :: "beat_of" :: "run_of" :: "check_all" :: "beat" :: "run" :: "everybody" :: "left_of" :: "left_behind" :: "is_of_kind" :: "check_kind" :: "check_many" :: "check_of_kind" :: "eras" :: "left" :: "lots_of" :: "lots_next" :: "next_lots" :: "_law_pot" :: "_law_take" :: "_law_of" :: "_law_cells" :: "_law_are_steps_right" :: "_law_are_exchanges_right" :: "_law_are_lots_right" :: "_law_right" :: "law" :: [])
def glbs : List (Str × Ev.D) := ("RING", (.str "ring")) :: ("ROW", (.str "row")) :: ("MOST_PLACES", (.int 8)) :: ("LEAST_RING", (.int 3)) :: ("MOST_WALKERS", (.int 5)) :: ("MOST_MARKS", (.int 4)) :: ("PAIR_plain", (.int 2)) :: ("TRIPLE", (.int 3)) :: ("MINUS", (.str "-")) :: ("FIGURES", (.str "0123456789")) :: ("LEAST_INTEGER", (.int (-99))) :: ("MOST_INTEGER", (.int 99)) :: ("MOST_VALUE", (.int 999)) :: ("MOST_DEEP", (.int 10)) :: ("NUMBER", (.str "number")) :: ("LET_reckoning", (.str "let")) :: ("HALF", (.int 2)) :: ("PLAIN_WORDS", (.tup [(.str "mine"), (.str "others"), (.str "size"), (.str "ahead"), (.str "behind")])) :: ("FEED", (.str "\n")) :: ("BLANK", (.str " ")) :: ("MARKS", (.str "marks")) :: ("LET_texts", (.str "let")) :: ("STEP", (.str "step")) :: ("MARK", (.str "mark")) :: ("SMALL", (.str "abcdefghijklmnopqrstuvwxyz")) :: ("MOST_SIGNS", (.int 6)) :: ("MOST_WORDS", (.int 40)) :: ("MOST_LETS", (.int 6)) :: ("PAIR_texts", (.int 2)) :: ("FULL", (.str "full")) :: ("ONE", (.str "one")) :: ("SOME", (.str "some")) :: ("ERAS", (.str "eras")) :: ("KINDS", (.tup [(.str "full"), (.str "one"), (.str "some"), (.str "eras")])) :: []
def gnm : List Str := "RING" :: "ROW" :: "MOST_PLACES" :: "LEAST_RING" :: "MOST_WALKERS" :: "MOST_MARKS" :: "PAIR_plain" :: "TRIPLE" :: "MINUS" :: "FIGURES" :: "LEAST_INTEGER" :: "MOST_INTEGER" :: "MOST_VALUE" :: "MOST_DEEP" :: "NUMBER" :: "LET_reckoning" :: "HALF" :: "PLAIN_WORDS" :: "FEED" :: "BLANK" :: "MARKS" :: "LET_texts" :: "STEP" :: "MARK" :: "SMALL" :: "MOST_SIGNS" :: "MOST_WORDS" :: "MOST_LETS" :: "PAIR_texts" :: "FULL" :: "ONE" :: "SOME" :: "ERAS" :: "KINDS" :: []
def cbody : Stmt → List Stmt
  | .ClassDef _ _ _ b _ _ _ _ _ _ _ => b
  | _ => []
def mdOf (c m qual : Str) : Stmt → He.DefD
  | .FunctionDef x a b _ _ _ sc _ _ _ => ⟨(c, some m), x, qual, a, b, sc, [], []⟩
  | _ => ⟨("law", none), "law", "law", ⟨[], [], none, [], [], none, []⟩, [], ⟨.function, [], false, false, []⟩, [], []⟩
def mt (c m qual : Str) (i j : Nat) : He.DefD := mdOf c m qual ((cbody (top i)).getD j (.Pass ⟨0, 0, 0, 0⟩))
def gdts : List (Str × List (Str × Ev.D)) := ("SHAPES", [("count", (.int 1)), ("marked", (.int 2)), ("room", (.int 1)), ("plus", (.int 2)), ("less", (.int 2)), ("same", (.int 2)), ("half", (.int 1)), ("turn", (.int 1)), ("pick", (.int 3))]) :: []
def gdn : List Str := "SHAPES" :: []
def clsn : List Str := "Reader" :: "Sight" :: "Lines" :: "Program" :: []
def clsT : List (Str × Cla) := ("Reader", ⟨("read", "Reader.read") :: [], [], "own_names" :: "own_words" :: [], some "Reader.__init__"⟩) :: ("Sight", ⟨("cell", "Sight.cell") :: ("others", "Sight.others") :: ("nearest", "Sight.nearest") :: ("plain", "Sight.plain") :: ("worked", "Sight.worked") :: ("looked", "Sight.looked") :: [], [], "own_ahead" :: "own_behind" :: "own_floor" :: "own_here" :: "own_lets" :: "own_mark" :: [], some "Sight.__init__"⟩) :: ("Lines", ⟨("takes", "Lines.takes") :: ("takes_marks", "Lines.takes_marks") :: ("takes_let", "Lines.takes_let") :: [], [], "own_lets" :: "own_mark" :: "own_marks" :: "own_names" :: "own_step" :: [], some "Lines.__init__"⟩) :: ("Program", ⟨("__eq__", "Program.__eq__") :: [], ("text", "Program.text") :: ("marks", "Program.marks") :: [], "own_lets" :: "own_mark" :: "own_marks" :: "own_step" :: "own_text" :: [], some "Program.__init__"⟩) :: []
def b_Reader___init__ : CSs := (.cons (.sfld (.var 0) "own_words" (.var 1)) (.cons (.sfld (.var 0) "own_names" (.var 2)) .nil))
def N_Reader___init__ : List Str := ["self", "words", "names"]
abbrev d_Reader___init__ : Ev.Def := ⟨3, 3, b_Reader___init__, true, false⟩
abbrev md_Reader___init__ : He.DefD := mt "Reader" "__init__" "Reader.__init__" 54 0
def b_Reader_read : CSs := (.cons (.ifs (.or (.cons (.cmp .gt (.var 2) (.glb "MOST_DEEP")) (.cons (.cmp .ge (.var 1) (.blt .len (.cons (.fld (.var 0) "own_words") .nil))) .nil))) (.cons (.ret (.con .non)) .nil) .nil) (.cons (.asg (.nm 3) (.idx (.fld (.var 0) "own_words") (.var 1))) (.cons (.asg (.nm 4) (.call "integer_in" (.cons (.var 3) (.cons (.glb "LEAST_INTEGER") (.cons (.glb "MOST_INTEGER") .nil))))) (.cons (.ifs (.cmp .isn (.var 4) (.con .non)) (.cons (.ret (.tup (.cons false (.tup (.cons false (.glb "NUMBER") (.cons false (.var 4) .nil))) (.cons false (.bin .add (.var 1) (.con (.int 1))) .nil)))) .nil) .nil) (.cons (.ifs (.cmp .in_ (.var 3) (.fld (.var 0) "own_names")) (.cons (.ret (.tup (.cons false (.tup (.cons false (.glb "LET_reckoning") (.cons false (.sm .index (.fld (.var 0) "own_names") (.var 3)) .nil))) (.cons false (.bin .add (.var 1) (.con (.int 1))) .nil)))) .nil) .nil) (.cons (.ifs (.cmp .in_ (.var 3) (.glb "PLAIN_WORDS")) (.cons (.ret (.tup (.cons false (.tup (.cons false (.var 3) .nil)) (.cons false (.bin .add (.var 1) (.con (.int 1))) .nil)))) .nil) .nil) (.cons (.ifs (.dnG "SHAPES" (.var 3) true) (.cons (.ret (.con .non)) .nil) .nil) (.cons (.asg (.tp (.cons (.nm 5) (.cons (.nm 6) .nil))) (.tup (.cons false (.mu (.disp .nil)) (.cons false (.bin .add (.var 1) (.con (.int 1))) .nil)))) (.cons (.for_ (.nm 7) (.rng1 (.dgG "SHAPES" (.var 3))) (.cons (.asg (.nm 8) (.mcall "read" (.var 0) (.cons (.var 6) (.cons (.bin .add (.var 2) (.con (.int 1))) .nil)))) (.cons (.ifs (.cmp .is_ (.var 8) (.con .non)) (.cons (.ret (.con .non)) .nil) .nil) (.cons (.expr (.mth .append (.var 5) (.cons (.idx (.var 8) (.con (.int 0))) .nil))) (.cons (.asg (.nm 6) (.idx (.var 8) (.con (.int 1)))) .nil))))) (.cons (.ret (.tup (.cons false (.tup (.cons false (.var 3) (.cons true (.var 5) .nil))) (.cons false (.var 6) .nil)))) .nil))))))))))
def N_Reader_read : List Str := ["self", "at", "deep", "word", "number", "inner", "behind", "_", "told"]
abbrev d_Reader_read : Ev.Def := ⟨3, 9, b_Reader_read, false, false⟩
abbrev md_Reader_read : He.DefD := mt "Reader" "read" "Reader.read" 54 1
def b_Sight___init__ : CSs := (.cons (.sfld (.var 0) "own_floor" (.var 1)) (.cons (.unf 0 ["own_mark", "own_here", "own_ahead", "own_behind"] (.var 2)) (.cons (.sfld (.var 0) "own_lets" (.mu (.disp .nil))) .nil)))
def N_Sight___init__ : List Str := ["self", "floor", "view"]
abbrev d_Sight___init__ : Ev.Def := ⟨3, 3, b_Sight___init__, true, false⟩
abbrev md_Sight___init__ : He.DefD := mt "Sight" "__init__" "Sight.__init__" 56 0
def b_Sight_cell : CSs := (.cons (.ifs (.cmp .eq (.idx (.fld (.var 0) "own_floor") (.con (.int 0))) (.glb "RING")) (.cons (.asg (.nm 1) (.bin .mod (.var 1) (.idx (.fld (.var 0) "own_floor") (.con (.int 1))))) .nil) .nil) (.cons (.ifs (.cmp .eq (.var 1) (.con (.int 0))) (.cons (.ret (.fld (.var 0) "own_here")) .nil) .nil) (.cons (.asg (.nm 2) (.ite (.cmp .gt (.var 1) (.con (.int 0))) (.fld (.var 0) "own_ahead") (.fld (.var 0) "own_behind"))) (.cons (.ret (.ite (.cmp .le (.blt .abs (.cons (.var 1) .nil)) (.blt .len (.cons (.var 2) .nil))) (.idx (.var 2) (.bin .sub (.blt .abs (.cons (.var 1) .nil)) (.con (.int 1)))) (.con .non))) .nil))))
def N_Sight_cell : List Str := ["self", "steps", "cells"]
abbrev d_Sight_cell : Ev.Def := ⟨2, 3, b_Sight_cell, false, false⟩
abbrev md_Sight_cell : He.DefD := mt "Sight" "cell" "Sight.cell" 56 1
def b_Sight_others : CSs := (.cons (.asg (.nm 1) (.bin .add (.blt .len (.cons (.fld (.var 0) "own_here") .nil)) (.blt .sum (.cons (.fr (.comp (.blt .len (.cons (.var 3) .nil)) (.nm 3) (.seq (.fld (.var 0) "own_ahead")) .nil [2, 3])) .nil)))) (.cons (.ret (.ite (.cmp .eq (.idx (.fld (.var 0) "own_floor") (.con (.int 0))) (.glb "RING")) (.var 1) (.bin .add (.var 1) (.blt .sum (.cons (.fr (.comp (.blt .len (.cons (.var 3) .nil)) (.nm 3) (.seq (.fld (.var 0) "own_behind")) .nil [2, 3])) .nil))))) .nil))
def N_Sight_others : List Str := ["self", "many", ".0", "cell"]
abbrev d_Sight_others : Ev.Def := ⟨1, 4, b_Sight_others, false, false⟩
abbrev md_Sight_others : He.DefD := mt "Sight" "others" "Sight.others" 56 2
def b_Sight_nearest : CSs := (.cons (.asg (.nm 2) (.fr (.comp (.var 4) (.tp (.cons (.nm 4) (.cons (.nm 5) .nil))) (.enum (.var 1)) (.cons (.cmp .ne (.var 5) (.tup .nil)) .nil) [3, 4, 5]))) (.cons (.ret (.ite (.cmp .ne (.var 2) (.fr (.disp .nil))) (.bin .add (.idx (.var 2) (.con (.int 0))) (.con (.int 1))) (.con (.int 0)))) .nil))
def N_Sight_nearest : List Str := ["self", "cells", "some", ".0", "at", "cell"]
abbrev d_Sight_nearest : Ev.Def := ⟨2, 6, b_Sight_nearest, false, false⟩
abbrev md_Sight_nearest : He.DefD := mt "Sight" "nearest" "Sight.nearest" 56 3
def b_Sight_plain : CSs := (.cons (.ifs (.cmp .eq (.var 1) (.con (.str "mine"))) (.cons (.ret (.fld (.var 0) "own_mark")) .nil) .nil) (.cons (.ifs (.cmp .eq (.var 1) (.con (.str "others"))) (.cons (.ret (.mcall "others" (.var 0) .nil)) .nil) .nil) (.cons (.ifs (.cmp .eq (.var 1) (.con (.str "size"))) (.cons (.ret (.idx (.fld (.var 0) "own_floor") (.con (.int 1)))) .nil) .nil) (.cons (.ret (.mcall "nearest" (.var 0) (.cons (.ite (.cmp .eq (.var 1) (.con (.str "ahead"))) (.fld (.var 0) "own_ahead") (.fld (.var 0) "own_behind")) .nil))) .nil))))
def N_Sight_plain : List Str := ["self", "word"]
abbrev d_Sight_plain : Ev.Def := ⟨2, 2, b_Sight_plain, false, false⟩
abbrev md_Sight_plain : He.DefD := mt "Sight" "plain" "Sight.plain" 56 4
def b_Sight_worked : CSs := (.cons (.asg (.nm 2) (.idx (.var 1) (.con (.int 0)))) (.cons (.ifs (.cmp .eq (.var 2) (.glb "NUMBER")) (.cons (.ret (.idx (.var 1) (.con (.int 1)))) .nil) .nil) (.cons (.ifs (.cmp .eq (.var 2) (.glb "LET_reckoning")) (.cons (.ret (.idx (.fld (.var 0) "own_lets") (.idx (.var 1) (.con (.int 1))))) .nil) .nil) (.cons (.ifs (.cmp .in_ (.var 2) (.glb "PLAIN_WORDS")) (.cons (.ret (.mcall "plain" (.var 0) (.cons (.var 2) .nil))) .nil) .nil) (.cons (.ifs (.cmp .eq (.var 2) (.con (.str "pick"))) (.cons (.ret (.mcall "worked" (.var 0) (.cons (.idx (.var 1) (.ite (.cmp .eq (.mcall "worked" (.var 0) (.cons (.idx (.var 1) (.con (.int 1))) .nil)) (.con (.int 0))) (.con (.int 2)) (.con (.int 3)))) .nil))) .nil) .nil) (.cons (.asg (.nm 3) (.fr (.comp (.mcall "worked" (.var 0) (.cons (.var 5) .nil)) (.nm 5) (.seq (.slc (.var 1) (.so (.con (.int 1))) .no)) .nil [4, 5]))) (.cons (.ifs (.cmp .in_ (.var 2) (.tup (.cons false (.con (.str "count")) (.cons false (.con (.str "marked")) (.cons false (.con (.str "room")) .nil))))) (.cons (.ret (.mcall "looked" (.var 0) (.cons (.var 2) (.cons (.var 3) .nil)))) .nil) .nil) (.cons (.ifs (.cmp .eq (.var 2) (.con (.str "plus"))) (.cons (.ret (.blt .max (.cons (.neg (.glb "MOST_VALUE")) (.cons (.blt .min (.cons (.glb "MOST_VALUE") (.cons (.bin .add (.idx (.var 3) (.con (.int 0))) (.idx (.var 3) (.con (.int 1)))) .nil))) .nil)))) .nil) .nil) (.cons (.ifs (.cmp .eq (.var 2) (.con (.str "less"))) (.cons (.ret (.blt .int (.cons (.cmp .lt (.idx (.var 3) (.con (.int 0))) (.idx (.var 3) (.con (.int 1)))) .nil))) .nil) .nil) (.cons (.ifs (.cmp .eq (.var 2) (.con (.str "same"))) (.cons (.ret (.blt .int (.cons (.cmp .eq (.idx (.var 3) (.con (.int 0))) (.idx (.var 3) (.con (.int 1)))) .nil))) .nil) .nil) (.cons (.ret (.ite (.cmp .eq (.var 2) (.con (.str "half"))) (.bin .fdiv (.idx (.var 3) (.con (.int 0))) (.glb "HALF")) (.neg (.idx (.var 3) (.con (.int 0)))))) .nil)))))))))))
def N_Sight_worked : List Str := ["self", "expression", "word", "some", ".0", "inner"]
abbrev d_Sight_worked : Ev.Def := ⟨2, 6, b_Sight_worked, false, false⟩
abbrev md_Sight_worked : He.DefD := mt "Sight" "worked" "Sight.worked" 56 5
def b_Sight_looked : CSs := (.cons (.asg (.nm 3) (.mcall "cell" (.var 0) (.cons (.idx (.var 2) (.con (.int 0))) .nil))) (.cons (.ifs (.cmp .eq (.var 1) (.con (.str "room"))) (.cons (.ret (.blt .int (.cons (.cmp .isn (.var 3) (.con .non)) .nil))) .nil) .nil) (.cons (.ifs (.cmp .is_ (.var 3) (.con .non)) (.cons (.ret (.con (.int 0))) .nil) .nil) (.cons (.ret (.ite (.cmp .eq (.var 1) (.con (.str "count"))) (.blt .len (.cons (.var 3) .nil)) (.blt .len (.cons (.fr (.comp (.var 5) (.nm 5) (.seq (.var 3)) (.cons (.cmp .eq (.var 5) (.idx (.var 2) (.con (.int 1)))) .nil) [4, 5])) .nil)))) .nil))))
def N_Sight_looked : List Str := ["self", "word", "some", "cell", ".0", "mark"]
abbrev d_Sight_looked : Ev.Def := ⟨3, 6, b_Sight_looked, false, false⟩
abbrev md_Sight_looked : He.DefD := mt "Sight" "looked" "Sight.looked" 56 6
def b_Lines___init__ : CSs := (.cons (.sfld (.var 0) "own_marks" (.con .non)) (.cons (.sfld (.var 0) "own_names" (.mu (.disp .nil))) (.cons (.sfld (.var 0) "own_lets" (.mu (.disp .nil))) (.cons (.sfld (.var 0) "own_step" (.con .non)) (.cons (.sfld (.var 0) "own_mark" (.con .non)) .nil)))))
def N_Lines___init__ : List Str := ["self"]
abbrev d_Lines___init__ : Ev.Def := ⟨1, 1, b_Lines___init__, true, false⟩
abbrev md_Lines___init__ : He.DefD := mt "Lines" "__init__" "Lines.__init__" 70 0
def b_Lines_takes : CSs := (.cons (.asg (.nm 2) (.sm .split (.var 1) (.glb "BLANK"))) (.cons (.ifs (.or (.cons (.cmp .gt (.blt .len (.cons (.var 2) .nil)) (.glb "MOST_WORDS")) (.cons (.cmp .isn (.fld (.var 0) "own_mark") (.con .non)) .nil))) (.cons (.ret (.con (.bl false))) .nil) .nil) (.cons (.ifs (.cmp .is_ (.fld (.var 0) "own_marks") (.con .non)) (.cons (.ret (.mcall "takes_marks" (.var 0) (.cons (.var 2) .nil))) .nil) .nil) (.cons (.ifs (.and (.cons (.cmp .is_ (.fld (.var 0) "own_step") (.con .non)) (.cons (.cmp .eq (.idx (.var 2) (.con (.int 0))) (.glb "LET_texts")) .nil))) (.cons (.ret (.mcall "takes_let" (.var 0) (.cons (.var 2) .nil))) .nil) .nil) (.cons (.ifs (.cmp .is_ (.fld (.var 0) "own_step") (.con .non)) (.cons (.sfld (.var 0) "own_step" (.ite (.cmp .eq (.idx (.var 2) (.con (.int 0))) (.glb "STEP")) (.call "expression_in" (.cons (.var 2) (.cons (.con (.int 1)) (.cons (.fld (.var 0) "own_names") .nil)))) (.con .non))) (.cons (.ret (.cmp .isn (.fld (.var 0) "own_step") (.con .non))) .nil)) .nil) (.cons (.sfld (.var 0) "own_mark" (.ite (.cmp .eq (.idx (.var 2) (.con (.int 0))) (.glb "MARK")) (.call "expression_in" (.cons (.var 2) (.cons (.con (.int 1)) (.cons (.fld (.var 0) "own_names") .nil)))) (.con .non))) (.cons (.ret (.cmp .isn (.fld (.var 0) "own_mark") (.con .non))) .nil)))))))
def N_Lines_takes : List Str := ["self", "line", "words"]
abbrev d_Lines_takes : Ev.Def := ⟨2, 3, b_Lines_takes, false, false⟩
abbrev md_Lines_takes : He.DefD := mt "Lines" "takes" "Lines.takes" 70 1
def b_Lines_takes_marks : CSs := (.cons (.ifs (.or (.cons (.cmp .ne (.blt .len (.cons (.var 1) .nil)) (.glb "PAIR_texts")) (.cons (.cmp .ne (.idx (.var 1) (.con (.int 0))) (.glb "MARKS")) .nil))) (.cons (.ret (.con (.bl false))) .nil) .nil) (.cons (.sfld (.var 0) "own_marks" (.call "integer_in" (.cons (.idx (.var 1) (.con (.int 1))) (.cons (.con (.int 1)) (.cons (.glb "MOST_MARKS") .nil))))) (.cons (.ret (.cmp .isn (.fld (.var 0) "own_marks") (.con .non))) .nil)))
def N_Lines_takes_marks : List Str := ["self", "words"]
abbrev d_Lines_takes_marks : Ev.Def := ⟨2, 2, b_Lines_takes_marks, false, false⟩
abbrev md_Lines_takes_marks : He.DefD := mt "Lines" "takes_marks" "Lines.takes_marks" 70 2
def b_Lines_takes_let : CSs := (.cons (.ifs (.or (.cons (.cmp .le (.blt .len (.cons (.var 1) .nil)) (.glb "PAIR_texts")) (.cons (.not (.call "is_free_name" (.cons (.idx (.var 1) (.con (.int 1))) .nil))) (.cons (.cmp .in_ (.idx (.var 1) (.con (.int 1))) (.fld (.var 0) "own_names")) .nil)))) (.cons (.ret (.con (.bl false))) .nil) .nil) (.cons (.asg (.nm 2) (.call "expression_in" (.cons (.var 1) (.cons (.glb "PAIR_texts") (.cons (.fld (.var 0) "own_names") .nil))))) (.cons (.expr (.mth .append (.fld (.var 0) "own_names") (.cons (.idx (.var 1) (.con (.int 1))) .nil))) (.cons (.expr (.mth .append (.fld (.var 0) "own_lets") (.cons (.var 2) .nil))) (.cons (.ret (.and (.cons (.cmp .isn (.var 2) (.con .non)) (.cons (.cmp .le (.blt .len (.cons (.fld (.var 0) "own_lets") .nil)) (.glb "MOST_LETS")) .nil)))) .nil)))))
def N_Lines_takes_let : List Str := ["self", "words", "told"]
abbrev d_Lines_takes_let : Ev.Def := ⟨2, 3, b_Lines_takes_let, false, false⟩
abbrev md_Lines_takes_let : He.DefD := mt "Lines" "takes_let" "Lines.takes_let" 70 3
def b_Program___init__ : CSs := (.cons (.asg (.nm 2) (.call "lines_in" (.cons (.var 1) .nil))) (.cons (.sfld (.var 0) "own_text" (.var 1)) (.cons (.sfld (.var 0) "own_marks" (.fld (.var 2) "own_marks")) (.cons (.sfld (.var 0) "own_lets" (.fld (.var 2) "own_lets")) (.cons (.sfld (.var 0) "own_step" (.fld (.var 2) "own_step")) (.cons (.sfld (.var 0) "own_mark" (.fld (.var 2) "own_mark")) .nil))))))
def N_Program___init__ : List Str := ["self", "text", "lines"]
abbrev d_Program___init__ : Ev.Def := ⟨2, 3, b_Program___init__, true, false⟩
abbrev md_Program___init__ : He.DefD := mt "Program" "__init__" "Program.__init__" 72 0
def b_Program___eq__ : CSs := (.cons (.ret (.and (.cons (.isC (.var 1) "Program") (.cons (.cmp .eq (.fld (.var 0) "own_text") (.fld (.var 1) "own_text")) .nil)))) .nil)
def N_Program___eq__ : List Str := ["self", "other"]
abbrev d_Program___eq__ : Ev.Def := ⟨2, 2, b_Program___eq__, false, false⟩
abbrev md_Program___eq__ : He.DefD := mt "Program" "__eq__" "Program.__eq__" 72 3
def b_Program_text : CSs := (.cons (.ret (.fld (.var 0) "own_text")) .nil)
def N_Program_text : List Str := ["self"]
abbrev d_Program_text : Ev.Def := ⟨1, 1, b_Program_text, false, false⟩
abbrev md_Program_text : He.DefD := mt "Program" "text" "Program.text" 72 1
def b_Program_marks : CSs := (.cons (.ret (.fld (.var 0) "own_marks")) .nil)
def N_Program_marks : List Str := ["self"]
abbrev d_Program_marks : Ev.Def := ⟨1, 1, b_Program_marks, false, false⟩
abbrev md_Program_marks : He.DefD := mt "Program" "marks" "Program.marks" 72 2
/-- the text of the program that a def makes first of all -/
def litOf : Stmt → Str
  | .FunctionDef _ _ (.Assign _ (.Call _ [.Constant (.str s) _ _] _ _) _ :: _) _ _ _ _ _ _ _ => s
  | _ => ""
def lit__law_are_exchanges_right : Str := litOf (top 105)
def b_is_whole : CSs := (.cons (.ret (.and (.cons (.isi (.var 0) .int) (.cons (.not (.isi (.var 0) .bool)) .nil)))) .nil)
def N_is_whole : List Str := ["value"]
def b_is_integer : CSs := (.cons (.ret (.and (.cons (.call "is_whole" (.cons (.var 0) .nil)) (.cons (.chn .le .le (.var 1) (.var 0) (.var 2)) .nil)))) .nil)
def N_is_integer : List Str := ["value", "low", "high"]
def b_is_tuple : CSs := (.cons (.ret (.and (.cons (.isi (.var 0) .tuple) (.cons (.cmp .le (.var 1) (.blt .len (.cons (.var 0) .nil))) (.cons (.or (.cons (.cmp .is_ (.var 2) (.con .non)) (.cons (.cmp .le (.blt .len (.cons (.var 0) .nil)) (.var 2)) .nil))) .nil))))) .nil)
def N_is_tuple : List Str := ["value", "least", "most"]
def b_is_said : CSs := (.cons (.ret (.and (.cons (.isi (.var 0) .str) (.cons (.cmp .in_ (.var 0) (.var 1)) .nil)))) .nil)
def N_is_said : List Str := ["value", "words"]
def b_is_ascending : CSs := (.cons (.ret (.blt .all (.cons (.fr (.comp (.cmp .lt (.var 2) (.var 3)) (.tp (.cons (.nm 2) (.cons (.nm 3) .nil))) (.zip (.var 0) (.slc (.var 0) (.so (.con (.int 1))) .no)) .nil [1, 2, 3])) .nil))) .nil)
def N_is_ascending : List Str := ["some", ".0", "one", "other"]
def b_is_floor : CSs := (.cons (.ifs (.or (.cons (.not (.call "is_tuple" (.cons (.var 0) (.cons (.glb "PAIR_plain") (.cons (.glb "PAIR_plain") .nil))))) (.cons (.not (.call "is_said" (.cons (.idx (.var 0) (.con (.int 0))) (.cons (.tup (.cons false (.glb "RING") (.cons false (.glb "ROW") .nil))) .nil)))) .nil))) (.cons (.ret (.con (.bl false))) .nil) .nil) (.cons (.ret (.call "is_integer" (.cons (.idx (.var 0) (.con (.int 1))) (.cons (.ite (.cmp .eq (.idx (.var 0) (.con (.int 0))) (.glb "RING")) (.glb "LEAST_RING") (.con (.int 1))) (.cons (.glb "MOST_PLACES") .nil))))) .nil))
def N_is_floor : List Str := ["value"]
def b_check_floor : CSs := (.cons (.ifs (.not (.call "is_floor" (.cons (.var 0) .nil))) (.cons .bad .nil) .nil) .nil)
def N_check_floor : List Str := ["floor"]
def b_is_sense : CSs := (.cons (.ret (.and (.cons (.call "is_integer" (.cons (.var 0) (.cons (.neg (.con (.int 1))) (.cons (.con (.int 1)) .nil)))) (.cons (.cmp .ne (.var 0) (.con (.int 0))) .nil)))) .nil)
def N_is_sense : List Str := ["value"]
def b_is_stand : CSs := (.cons (.ifs (.or (.cons (.not (.call "is_tuple" (.cons (.var 2) (.cons (.glb "TRIPLE") (.cons (.glb "TRIPLE") .nil))))) (.cons (.not (.call "is_integer" (.cons (.idx (.var 2) (.con (.int 0))) (.cons (.con (.int 0)) (.cons (.bin .sub (.idx (.var 0) (.con (.int 1))) (.con (.int 1))) .nil))))) .nil))) (.cons (.ret (.con (.bl false))) .nil) .nil) (.cons (.ret (.and (.cons (.call "is_integer" (.cons (.idx (.var 2) (.con (.int 1))) (.cons (.con (.int 0)) (.cons (.bin .sub (.var 1) (.con (.int 1))) .nil)))) (.cons (.call "is_sense" (.cons (.idx (.var 2) (.neg (.con (.int 1)))) .nil)) .nil)))) .nil))
def N_is_stand : List Str := ["floor", "marks", "value"]
def b_is_standing : CSs := (.cons (.ret (.and (.cons (.call "is_tuple" (.cons (.var 2) (.cons (.con (.int 1)) (.cons (.glb "MOST_WALKERS") .nil)))) (.cons (.blt .all (.cons (.fr (.comp (.call "is_stand" (.cons (.var 0) (.cons (.var 1) (.cons (.var 4) .nil)))) (.nm 4) (.seq (.var 2)) .nil [3, 4])) .nil)) .nil)))) .nil)
def N_is_standing : List Str := ["floor", "marks", "value", ".0", "one"]
def b_check_standing : CSs := (.cons (.ifs (.not (.call "is_standing" (.cons (.var 0) (.cons (.var 1) (.cons (.var 2) .nil))))) (.cons .bad .nil) .nil) .nil)
def N_check_standing : List Str := ["floor", "marks", "standing"]
def b_is_lot : CSs := (.cons (.ret (.and (.cons (.call "is_tuple" (.cons (.var 1) (.cons (.con (.int 1)) (.cons (.var 0) .nil)))) (.cons (.blt .all (.cons (.fr (.comp (.call "is_integer" (.cons (.var 3) (.cons (.con (.int 0)) (.cons (.bin .sub (.var 0) (.con (.int 1))) .nil)))) (.nm 3) (.seq (.var 1)) .nil [2, 3])) .nil)) (.cons (.call "is_ascending" (.cons (.var 1) .nil)) .nil))))) .nil)
def N_is_lot : List Str := ["many", "value", ".0", "one"]
def b_check_lot : CSs := (.cons (.ifs (.not (.call "is_lot" (.cons (.var 0) (.cons (.var 1) .nil)))) (.cons .bad .nil) .nil) .nil)
def N_check_lot : List Str := ["many", "value"]
def b_is_lots : CSs := (.cons (.ret (.and (.cons (.isi (.var 1) .tuple) (.cons (.blt .all (.cons (.fr (.comp (.call "is_lot" (.cons (.var 0) (.cons (.var 3) .nil))) (.nm 3) (.seq (.var 1)) .nil [2, 3])) .nil)) .nil)))) .nil)
def N_is_lots : List Str := ["many", "value", ".0", "one"]
def b_check_lots : CSs := (.cons (.ifs (.not (.call "is_lots" (.cons (.var 0) (.cons (.var 1) .nil)))) (.cons .bad .nil) .nil) .nil)
def N_check_lots : List Str := ["many", "value"]
def b_whole_in : CSs := (.cons (.asg (.nm 1) (.ite (.cmp .eq (.slc (.var 0) .no (.so (.con (.int 1)))) (.glb "MINUS")) (.slc (.var 0) (.so (.con (.int 1))) .no) (.var 0))) (.cons (.ifs (.or (.cons (.cmp .eq (.var 1) (.con (.str ""))) (.cons (.not (.blt .all (.cons (.fr (.comp (.cmp .in_ (.var 2) (.glb "FIGURES")) (.nm 2) (.chars (.var 1)) .nil [4, 2])) .nil))) .nil))) (.cons (.ret (.con .non)) .nil) .nil) (.cons (.ifs (.and (.cons (.cmp .eq (.idx (.var 1) (.con (.int 0))) (.con (.str "0"))) (.cons (.cmp .ne (.var 0) (.con (.str "0"))) .nil))) (.cons (.ret (.con .non)) .nil) .nil) (.cons (.asg (.nm 3) (.con (.int 0))) (.cons (.for_ (.nm 2) (.chars (.var 1)) (.cons (.asg (.nm 3) (.bin .add (.bin .mul (.con (.int 10)) (.var 3)) (.sm .index (.glb "FIGURES") (.var 2)))) .nil)) (.cons (.ret (.ite (.cmp .eq (.var 1) (.var 0)) (.var 3) (.neg (.var 3)))) .nil))))))
def N_whole_in : List Str := ["word", "figures", "sign", "found", ".0"]
def b_integer_in : CSs := (.cons (.asg (.nm 3) (.call "whole_in" (.cons (.var 0) .nil))) (.cons (.ret (.ite (.and (.cons (.cmp .isn (.var 3) (.con .non)) (.cons (.chn .le .le (.var 1) (.var 3) (.var 2)) .nil))) (.var 3) (.con .non))) .nil))
def N_integer_in : List Str := ["word", "low", "high", "number"]
def b_place_at : CSs := (.cons (.asg (.nm 3) (.bin .add (.var 1) (.var 2))) (.cons (.ifs (.cmp .eq (.idx (.var 0) (.con (.int 0))) (.glb "RING")) (.cons (.ret (.bin .mod (.var 3) (.idx (.var 0) (.con (.int 1))))) .nil) .nil) (.cons (.ret (.ite (.chn .le .lt (.con (.int 0)) (.var 3) (.idx (.var 0) (.con (.int 1)))) (.var 3) (.con .non))) .nil)))
def N_place_at : List Str := ["floor", "place", "steps", "spot"]
def b_moved_to : CSs := (.cons (.asg (.nm 4) (.call "place_at" (.cons (.var 0) (.cons (.var 1) (.cons (.bin .mul (.var 2) (.var 3)) .nil))))) (.cons (.ret (.ite (.cmp .is_ (.var 4) (.con .non)) (.var 1) (.var 4))) .nil))
def N_moved_to : List Str := ["floor", "place", "sense", "step", "spot"]
def b_cell_of : CSs := (.cons (.asg (.nm 3) (.mu (.disp .nil))) (.cons (.for_ (.tp (.cons (.nm 4) (.cons (.tp (.cons (.nm 5) (.cons (.nm 6) (.cons (.nm 7) .nil)))) .nil))) (.enum (.var 0)) (.cons (.ifs (.and (.cons (.cmp .eq (.var 5) (.var 1)) (.cons (.cmp .ne (.var 4) (.var 2)) .nil))) (.cons (.expr (.mth .append (.var 3) (.cons (.var 6) .nil))) .nil) .nil) .nil)) (.cons (.ret (.blt .tuple (.cons (.fr (.sorted (.var 3))) .nil))) .nil)))
def N_cell_of : List Str := ["standing", "place", "walker", "found", "number", "its", "mark", "sense"]
def b_cells_of : CSs := (.cons (.asg (.tp (.cons (.nm 4) (.cons (.nm 5) .nil))) (.tup (.cons false (.mu (.disp .nil)) (.cons false (.idx (.idx (.var 1) (.var 2)) (.con (.int 0))) .nil)))) (.cons (.for_ (.nm 6) (.seq (.fr (.listI (.rng2 (.con (.int 1)) (.idx (.var 0) (.con (.int 1))))))) (.cons (.asg (.nm 7) (.call "place_at" (.cons (.var 0) (.cons (.var 5) (.cons (.bin .mul (.var 3) (.var 6)) .nil))))) (.cons (.ifs (.cmp .isn (.var 7) (.con .non)) (.cons (.expr (.mth .append (.var 4) (.cons (.call "cell_of" (.cons (.var 1) (.cons (.var 7) (.cons (.var 2) .nil)))) .nil))) .nil) .nil) .nil))) (.cons (.ret (.blt .tuple (.cons (.var 4) .nil))) .nil)))
def N_cells_of : List Str := ["floor", "standing", "walker", "way", "found", "place", "steps", "spot"]
def b_view_of : CSs := (.cons (.asg (.tp (.cons (.nm 3) (.cons (.nm 4) (.cons (.nm 5) .nil)))) (.idx (.var 1) (.var 2))) (.cons (.asg (.nm 6) (.call "cell_of" (.cons (.var 1) (.cons (.var 3) (.cons (.var 2) .nil))))) (.cons (.ret (.tup (.cons false (.var 4) (.cons false (.var 6) (.cons false (.call "cells_of" (.cons (.var 0) (.cons (.var 1) (.cons (.var 2) (.cons (.var 5) .nil))))) (.cons false (.call "cells_of" (.cons (.var 0) (.cons (.var 1) (.cons (.var 2) (.cons (.neg (.var 5)) .nil))))) .nil)))))) .nil)))
def N_view_of : List Str := ["floor", "standing", "walker", "place", "mark", "sense", "here"]
def b_expression_in : CSs := (.cons (.asg (.nm 3) (.mcall "read" (.mk "Reader" (.cons (.var 0) (.cons (.var 2) .nil))) (.cons (.var 1) (.cons (.con (.int 1)) .nil)))) (.cons (.ret (.ite (.and (.cons (.cmp .isn (.var 3) (.con .non)) (.cons (.cmp .eq (.idx (.var 3) (.con (.int 1))) (.blt .len (.cons (.var 0) .nil))) .nil))) (.idx (.var 3) (.con (.int 0))) (.con .non))) .nil))
def N_expression_in : List Str := ["words", "at", "names", "told"]
def b_is_free_name : CSs := (.cons (.ifs (.or (.cons (.not (.chn .le .le (.con (.int 1)) (.blt .len (.cons (.var 0) .nil)) (.glb "MOST_SIGNS"))) (.cons (.cmp .nin (.idx (.var 0) (.con (.int 0))) (.glb "SMALL")) .nil))) (.cons (.ret (.con (.bl false))) .nil) .nil) (.cons (.ifs (.not (.blt .all (.cons (.fr (.comp (.or (.cons (.cmp .in_ (.var 2) (.glb "SMALL")) (.cons (.cmp .in_ (.var 2) (.glb "FIGURES")) .nil))) (.nm 2) (.chars (.var 0)) .nil [1, 2])) .nil))) (.cons (.ret (.con (.bl false))) .nil) .nil) (.cons (.ret (.and (.cons (.cmp .nin (.var 0) (.glb "PLAIN_WORDS")) (.cons (.dnG "SHAPES" (.var 0) true) (.cons (.cmp .nin (.var 0) (.tup (.cons false (.glb "MARKS") (.cons false (.glb "LET_texts") (.cons false (.glb "STEP") (.cons false (.glb "MARK") .nil)))))) .nil))))) .nil)))
def N_is_free_name : List Str := ["word", ".0", "sign"]
def b_lines_in : CSs := (.cons (.ifs (.not (.isi (.var 0) .str)) (.cons .bad .nil) .nil) (.cons (.asg (.tp (.cons (.nm 1) (.cons (.nm 2) .nil))) (.tup (.cons false (.mk "Lines" .nil) (.cons false (.con (.int 0)) .nil)))) (.cons (.for_ (.nm 3) (.seq (.sm .split (.var 0) (.glb "FEED"))) (.cons (.aug 2 .add (.con (.int 1))) (.cons (.ifs (.not (.mcall "takes" (.var 1) (.cons (.var 3) .nil))) (.cons .bad .nil) .nil) .nil))) (.cons (.ifs (.cmp .is_ (.fld (.var 1) "own_mark") (.con .non)) (.cons .bad .nil) .nil) (.cons (.ret (.var 1)) .nil)))))
def N_lines_in : List Str := ["text", "found", "many", "line"]
def b_check_program : CSs := (.cons (.ifs (.not (.isC (.var 0) "Program")) (.cons .bad .nil) .nil) .nil)
def N_check_program : List Str := ["value"]
def b_sign_of : CSs := (.cons (.ret (.bin .sub (.blt .int (.cons (.cmp .gt (.var 0) (.con (.int 0))) .nil)) (.blt .int (.cons (.cmp .lt (.var 0) (.con (.int 0))) .nil)))) .nil)
def N_sign_of : List Str := ["value"]
def b_thought_of : CSs := (.cons (.asg (.nm 3) (.mk "Sight" (.cons (.var 1) (.cons (.var 2) .nil)))) (.cons (.for_ (.nm 4) (.seq (.fld (.var 0) "own_lets")) (.cons (.expr (.mth .append (.fld (.var 3) "own_lets") (.cons (.mcall "worked" (.var 3) (.cons (.var 4) .nil)) .nil))) .nil)) (.cons (.asg (.nm 5) (.mcall "worked" (.var 3) (.cons (.fld (.var 0) "own_mark") .nil))) (.cons (.ret (.tup (.cons false (.call "sign_of" (.cons (.mcall "worked" (.var 3) (.cons (.fld (.var 0) "own_step") .nil)) .nil)) (.cons false (.blt .max (.cons (.con (.int 0)) (.cons (.blt .min (.cons (.bin .sub (.fld (.var 0) "own_marks") (.con (.int 1))) (.cons (.var 5) .nil))) .nil))) .nil)))) .nil))))
def N_thought_of : List Str := ["program", "floor", "view", "sight", "told", "mark"]
def b_beat_of : CSs := (.cons (.asg (.nm 4) (.mu (.disp .nil))) (.cons (.for_ (.tp (.cons (.nm 5) (.cons (.tp (.cons (.nm 6) (.cons (.nm 7) (.cons (.nm 8) .nil)))) .nil))) (.enum (.var 2)) (.cons (.ifs (.cmp .in_ (.var 5) (.var 3)) (.cons (.asg (.tp (.cons (.nm 9) (.cons (.nm 10) .nil))) (.call "thought_of" (.cons (.var 0) (.cons (.var 1) (.cons (.call "view_of" (.cons (.var 1) (.cons (.var 2) (.cons (.var 5) .nil)))) .nil))))) (.cons (.expr (.mth .append (.var 4) (.cons (.tup (.cons false (.call "moved_to" (.cons (.var 1) (.cons (.var 6) (.cons (.var 8) (.cons (.var 9) .nil))))) (.cons false (.var 10) (.cons false (.var 8) .nil)))) .nil))) .nil)) (.cons (.expr (.mth .append (.var 4) (.cons (.tup (.cons false (.var 6) (.cons false (.var 7) (.cons false (.var 8) .nil)))) .nil))) .nil)) .nil)) (.cons (.ret (.blt .tuple (.cons (.var 4) .nil))) .nil)))
def N_beat_of : List Str := ["program", "floor", "standing", "lot", "found", "walker", "place", "mark", "sense", "step", "fresh"]
def b_run_of : CSs := (.cons (.asg (.nm 4) (.mu (.disp (.cons false (.var 2) .nil)))) (.cons (.for_ (.nm 5) (.seq (.var 3)) (.cons (.expr (.mth .append (.var 4) (.cons (.call "beat_of" (.cons (.var 0) (.cons (.var 1) (.cons (.idx (.var 4) (.neg (.con (.int 1)))) (.cons (.var 5) .nil))))) .nil))) .nil)) (.cons (.ret (.blt .tuple (.cons (.var 4) .nil))) .nil)))
def N_run_of : List Str := ["program", "floor", "standing", "lots", "found", "lot"]
def b_check_all : CSs := (.cons (.expr (.call "check_program" (.cons (.var 0) .nil))) (.cons (.expr (.call "check_floor" (.cons (.var 1) .nil))) (.cons (.expr (.call "check_standing" (.cons (.var 1) (.cons (.fld (.var 0) "own_marks") (.cons (.var 2) .nil))))) .nil)))
def N_check_all : List Str := ["program", "floor", "standing"]
def b_beat : CSs := (.cons (.expr (.call "check_all" (.cons (.var 0) (.cons (.var 1) (.cons (.var 2) .nil))))) (.cons (.expr (.call "check_lot" (.cons (.blt .len (.cons (.var 2) .nil)) (.cons (.var 3) .nil)))) (.cons (.ret (.call "beat_of" (.cons (.var 0) (.cons (.var 1) (.cons (.var 2) (.cons (.var 3) .nil)))))) .nil)))
def N_beat : List Str := ["program", "floor", "standing", "lot"]
def b_run : CSs := (.cons (.expr (.call "check_all" (.cons (.var 0) (.cons (.var 1) (.cons (.var 2) .nil))))) (.cons (.expr (.call "check_lots" (.cons (.blt .len (.cons (.var 2) .nil)) (.cons (.var 3) .nil)))) (.cons (.ret (.call "run_of" (.cons (.var 0) (.cons (.var 1) (.cons (.var 2) (.cons (.var 3) .nil)))))) .nil)))
def N_run : List Str := ["program", "floor", "standing", "lots"]
def b_everybody : CSs := (.cons (.ret (.blt .tuple (.cons (.fr (.comp (.var 2) (.nm 2) (.rng1 (.var 0)) .nil [1, 2])) .nil))) .nil)
def N_everybody : List Str := ["many", ".0", "walker"]
def b_left_of : CSs := (.cons (.asg (.nm 3) (.blt .tuple (.cons (.fr (.comp (.var 5) (.nm 5) (.seq (.var 1)) (.cons (.cmp .nin (.var 5) (.var 2)) .nil) [4, 5])) .nil))) (.cons (.ret (.ite (.cmp .ne (.var 3) (.tup .nil)) (.var 3) (.call "everybody" (.cons (.var 0) .nil)))) .nil))
def N_left_of : List Str := ["many", "rest", "lot", "found", ".0", "walker"]
def b_left_behind : CSs := (.cons (.asg (.nm 2) (.call "everybody" (.cons (.var 0) .nil))) (.cons (.for_ (.nm 3) (.seq (.var 1)) (.cons (.ifs (.not (.blt .all (.cons (.fr (.comp (.cmp .in_ (.var 5) (.var 2)) (.nm 5) (.seq (.var 3)) .nil [4, 5])) .nil))) (.cons (.ret (.con .non)) .nil) .nil) (.cons (.asg (.nm 2) (.call "left_of" (.cons (.var 0) (.cons (.var 2) (.cons (.var 3) .nil))))) .nil))) (.cons (.ret (.var 2)) .nil)))
def N_left_behind : List Str := ["many", "lots", "rest", "lot", ".0", "walker"]
def b_is_of_kind : CSs := (.cons (.ifs (.cmp .eq (.var 0) (.glb "FULL")) (.cons (.ret (.blt .all (.cons (.fr (.comp (.cmp .eq (.blt .len (.cons (.var 4) .nil)) (.var 1)) (.nm 4) (.seq (.var 2)) .nil [3, 4])) .nil))) .nil) .nil) (.cons (.ifs (.cmp .eq (.var 0) (.glb "ONE")) (.cons (.ret (.blt .all (.cons (.fr (.comp (.cmp .eq (.blt .len (.cons (.var 4) .nil)) (.con (.int 1))) (.nm 4) (.seq (.var 2)) .nil [3, 4])) .nil))) .nil) .nil) (.cons (.ret (.or (.cons (.cmp .eq (.var 0) (.glb "SOME")) (.cons (.cmp .isn (.call "left_behind" (.cons (.var 1) (.cons (.var 2) .nil))) (.con .non)) .nil)))) .nil)))
def N_is_of_kind : List Str := ["kind", "many", "lots", ".0", "lot"]
def b_check_kind : CSs := (.cons (.ifs (.not (.call "is_said" (.cons (.var 0) (.cons (.glb "KINDS") .nil)))) (.cons .bad .nil) .nil) .nil)
def N_check_kind : List Str := ["kind"]
def b_check_many : CSs := (.cons (.ifs (.not (.call "is_integer" (.cons (.var 0) (.cons (.con (.int 1)) (.cons (.glb "MOST_WALKERS") .nil))))) (.cons .bad .nil) .nil) .nil)
def N_check_many : List Str := ["many"]
def b_check_of_kind : CSs := (.cons (.ifs (.or (.cons (.not (.call "is_lots" (.cons (.var 1) (.cons (.var 2) .nil)))) (.cons (.not (.call "is_of_kind" (.cons (.var 0) (.cons (.var 1) (.cons (.var 2) .nil))))) .nil))) (.cons .bad .nil) .nil) .nil)
def N_check_of_kind : List Str := ["kind", "many", "lots"]
def b_eras : CSs := (.cons (.expr (.call "check_many" (.cons (.var 0) .nil))) (.cons (.expr (.call "check_of_kind" (.cons (.glb "ERAS") (.cons (.var 0) (.cons (.var 1) .nil))))) (.cons (.asg (.tp (.cons (.nm 2) (.cons (.nm 3) .nil))) (.tup (.cons false (.mu (.disp .nil)) (.cons false (.call "everybody" (.cons (.var 0) .nil)) .nil)))) (.cons (.for_ (.nm 4) (.seq (.var 1)) (.cons (.ifs (.cmp .eq (.var 3) (.call "everybody" (.cons (.var 0) .nil))) (.cons (.expr (.mth .append (.var 2) (.cons (.mu (.disp .nil)) .nil))) .nil) .nil) (.cons (.expr (.mth .append (.idx (.var 2) (.neg (.con (.int 1)))) (.cons (.var 4) .nil))) (.cons (.asg (.nm 3) (.call "left_of" (.cons (.var 0) (.cons (.var 3) (.cons (.var 4) .nil))))) .nil)))) (.cons (.ret (.blt .tuple (.cons (.mu (.comp (.blt .tuple (.cons (.var 6) .nil)) (.nm 6) (.seq (.var 2)) .nil [5, 6])) .nil))) .nil)))))
def N_eras : List Str := ["many", "lots", "found", "rest", "lot", ".0", "era"]
def b_left : CSs := (.cons (.expr (.call "check_many" (.cons (.var 0) .nil))) (.cons (.expr (.call "check_of_kind" (.cons (.glb "ERAS") (.cons (.var 0) (.cons (.var 1) .nil))))) (.cons (.ret (.call "left_behind" (.cons (.var 0) (.cons (.var 1) .nil)))) .nil)))
def N_left : List Str := ["many", "lots"]
def b_lots_of : CSs := (.cons (.asg (.nm 1) (.fr (.disp (.cons false (.tup .nil) .nil)))) (.cons (.for_ (.nm 2) (.seq (.var 0)) (.cons (.asg (.nm 1) (.fr (.disp (.cons true (.var 1) (.cons true (.fr (.comp (.tup (.cons true (.var 4) (.cons false (.var 2) .nil))) (.nm 4) (.seq (.var 1)) .nil [3, 4])) .nil))))) .nil)) (.cons (.ret (.blt .tuple (.cons (.fr (.sorted (.fr (.comp (.var 4) (.nm 4) (.seq (.var 1)) (.cons (.cmp .ne (.var 4) (.tup .nil)) .nil) [3, 4])))) .nil))) .nil)))
def N_lots_of : List Str := ["walkers", "found", "walker", ".0", "lot"]
def b_lots_next : CSs := (.cons (.ifs (.cmp .eq (.var 0) (.glb "FULL")) (.cons (.ret (.tup (.cons false (.call "everybody" (.cons (.var 1) .nil)) .nil))) .nil) .nil) (.cons (.ifs (.cmp .eq (.var 0) (.glb "ONE")) (.cons (.ret (.blt .tuple (.cons (.fr (.comp (.tup (.cons false (.var 4) .nil)) (.nm 4) (.rng1 (.var 1)) .nil [3, 4])) .nil))) .nil) .nil) (.cons (.ret (.call "lots_of" (.cons (.ite (.cmp .eq (.var 0) (.glb "ERAS")) (.var 2) (.call "everybody" (.cons (.var 1) .nil))) .nil))) .nil)))
def N_lots_next : List Str := ["kind", "many", "rest", ".0", "walker"]
def b_next_lots : CSs := (.cons (.expr (.call "check_kind" (.cons (.var 0) .nil))) (.cons (.expr (.call "check_many" (.cons (.var 1) .nil))) (.cons (.expr (.call "check_of_kind" (.cons (.var 0) (.cons (.var 1) (.cons (.var 2) .nil))))) (.cons (.asg (.nm 3) (.ite (.cmp .eq (.var 0) (.glb "ERAS")) (.call "left_behind" (.cons (.var 1) (.cons (.var 2) .nil))) (.call "everybody" (.cons (.var 1) .nil)))) (.cons (.ret (.call "lots_next" (.cons (.var 0) (.cons (.var 1) (.cons (.var 3) .nil))))) .nil)))))
def N_next_lots : List Str := ["kind", "many", "lots", "rest"]
def b__law_pot : CSs := (.cons (.asg (.nm 2) (.ite (.cmp .lt (.var 1) (.blt .len (.cons (.var 0) .nil))) (.idx (.var 0) (.var 1)) (.bin .add (.bin .add (.bin .mod (.blt .int (.cons (.blt .sum (.cons (.slc (.var 0) .no (.so (.con (.int 1)))) .nil)) .nil)) (.con (.int 1000003))) (.bin .mul (.con (.int 1451)) (.var 1))) (.con (.int 1121))))) (.cons (.asg (.nm 3) (.bin .mul (.bin .mod (.blt .int (.cons (.blt .abs (.cons (.var 2) .nil)) .nil)) (.bin .pow (.bin .pow (.con (.int 10)) (.con (.int 60))) (.con (.int 5)))) (.blt .int (.cons (.cmp .ge (.blt .abs (.cons (.var 2) .nil)) (.bin .pow (.con (.int 10)) (.con (.int 18)))) .nil)))) (.cons (.asg (.nm 4) (.bin .mod (.blt .int (.cons (.var 2) .nil)) (.con (.int 2305843009213693951)))) (.cons (.ret (.mu (.disp (.cons false (.var 3) (.cons false (.bin .mod (.blt .int (.cons (.bin .add (.bin .add (.bin .mul (.var 4) (.con (.int 85871))) (.bin .mul (.bin .mul (.con (.int 10081)) (.var 1)) (.var 1))) (.con (.int 609))) .nil)) (.con (.int 2305843009213693921))) (.cons false (.con (.int 0)) .nil)))))) .nil))))
def N__law_pot : List Str := ["script", "place", "cell", "own", "small"]
def b__law_take : CSs := (.cons (.ifs (.cmp .gt (.idx (.var 0) (.con (.int 0))) (.con (.int 0))) (.cons (.asg (.nm 2) (.bin .mod (.blt .int (.cons (.idx (.var 0) (.con (.int 0))) .nil)) (.var 1))) (.cons (.sub (.var 0) (.con (.int 0)) (.bin .fdiv (.idx (.var 0) (.con (.int 0))) (.var 1))) (.cons (.ret (.var 2)) .nil))) .nil) (.cons (.sub (.var 0) (.con (.int 2)) (.bin .add (.idx (.var 0) (.con (.int 2))) (.con (.int 1)))) (.cons (.asg (.nm 3) (.idx (.fr (.disp (.cons false (.con (.int 2147483647)) (.cons false (.con (.int 2147483629)) (.cons false (.con (.int 2147483587)) (.cons false (.con (.int 2147483579)) (.cons false (.con (.int 2147483563)) .nil))))))) (.bin .mod (.blt .int (.cons (.idx (.var 0) (.con (.int 2))) .nil)) (.con (.int 5))))) (.cons (.asg (.nm 4) (.bin .mod (.blt .int (.cons (.bin .pow (.blt .int (.cons (.bin .add (.bin .add (.idx (.var 0) (.con (.int 1))) (.bin .mul (.bin .mul (.con (.int 100389)) (.idx (.var 0) (.con (.int 2)))) (.idx (.var 0) (.con (.int 2))))) (.con (.int 1251))) .nil)) (.con (.int 3))) .nil)) (.var 3))) (.cons (.ret (.bin .mod (.blt .int (.cons (.bin .fdiv (.bin .mul (.var 4) (.bin .add (.bin .mod (.blt .int (.cons (.var 4) .nil)) (.con (.int 10967))) (.bin .mul (.con (.int 453)) (.idx (.var 0) (.con (.int 2)))))) (.con (.int 269))) .nil)) (.var 1))) .nil)))))
def N__law_take : List Str := ["pot", "upto", "digit", "prime", "blend"]
def b__law_of : CSs := (.cons (.ret (.idx (.var 1) (.call "_law_take" (.cons (.var 0) (.cons (.blt .len (.cons (.var 1) .nil)) .nil))))) .nil)
def N__law_of : List Str := ["pot", "some"]
def b__law_cells : CSs := (.cons (.ret (.fr (.listI (.rng1 (.blt .max (.cons (.con (.int 1)) (.cons (.blt .min (.cons (.var 1) (.cons (.blt .len (.cons (.var 0) .nil)) .nil))) .nil))))))) .nil)
def N__law_cells : List Str := ["script", "limit"]
def b__law_are_steps_right : CSs := (.cons (.asg (.tp (.cons (.nm 1) (.cons (.nm 2) .nil))) (.tup (.cons false (.mk "Program" (.cons (.con (.str "marks 2\nstep 1\nmark same mine 0")) .nil)) (.cons false (.bin .add (.con (.int 3)) (.call "_law_take" (.cons (.var 0) (.cons (.con (.int 6)) .nil)))) .nil)))) (.cons (.asg (.tp (.cons (.nm 3) (.cons (.nm 4) .nil))) (.tup (.cons false (.call "_law_take" (.cons (.var 0) (.cons (.var 2) .nil))) (.cons false (.call "_law_take" (.cons (.var 0) (.cons (.con (.int 2)) .nil))) .nil)))) (.cons (.asg (.tp (.cons (.nm 5) (.cons (.nm 6) .nil))) (.tup (.cons false (.tup (.cons false (.tup (.cons false (.var 3) (.cons false (.var 4) (.cons false (.con (.int 1)) .nil)))) .nil)) (.cons false (.tup (.cons false (.tup (.cons false (.var 3) (.cons false (.var 4) (.cons false (.neg (.con (.int 1))) .nil)))) .nil)) .nil)))) (.cons (.asg (.nm 7) (.tup (.cons false (.tup (.cons false (.tup (.cons false (.bin .mod (.bin .add (.var 3) (.con (.int 1))) (.var 2)) (.cons false (.bin .sub (.con (.int 1)) (.var 4)) (.cons false (.con (.int 1)) .nil)))) .nil)) (.cons false (.tup (.cons false (.tup (.cons false (.bin .mod (.bin .sub (.var 3) (.con (.int 1))) (.var 2)) (.cons false (.bin .sub (.con (.int 1)) (.var 4)) (.cons false (.neg (.con (.int 1))) .nil)))) .nil)) .nil)))) (.cons (.ifs (.cmp .ne (.blt .repr (.cons (.tup (.cons false (.call "beat" (.cons (.var 1) (.cons (.tup (.cons false (.con (.str "ring")) (.cons false (.var 2) .nil))) (.cons (.var 5) (.cons (.tup (.cons false (.con (.int 0)) .nil)) .nil))))) (.cons false (.call "beat" (.cons (.var 1) (.cons (.tup (.cons false (.con (.str "ring")) (.cons false (.var 2) .nil))) (.cons (.var 6) (.cons (.tup (.cons false (.con (.int 0)) .nil)) .nil))))) .nil))) .nil)) (.blt .repr (.cons (.var 7) .nil))) (.cons (.ret (.con (.bl false))) .nil) .nil) (.cons (.asg (.nm 8) (.call "run" (.cons (.var 1) (.cons (.tup (.cons false (.con (.str "row")) (.cons false (.var 2) .nil))) (.cons (.var 5) (.cons (.bin .mul (.tup (.cons false (.tup (.cons false (.con (.int 0)) .nil)) .nil)) (.var 2)) .nil)))))) (.cons (.asg (.nm 9) (.fr (.comp (.blt .min (.cons (.bin .sub (.var 2) (.con (.int 1))) (.cons (.bin .add (.var 3) (.var 11)) .nil))) (.nm 11) (.rng1 (.bin .add (.var 2) (.con (.int 1)))) .nil [10, 11]))) (.cons (.ifs (.or (.cons (.cmp .ne (.blt .repr (.cons (.fr (.comp (.idx (.idx (.var 12) (.con (.int 0))) (.con (.int 0))) (.nm 12) (.seq (.var 8)) .nil [10, 12])) .nil)) (.blt .repr (.cons (.var 9) .nil))) (.cons (.cmp .ne (.blt .repr (.cons (.idx (.var 8) (.neg (.con (.int 1)))) .nil)) (.blt .repr (.cons (.tup (.cons false (.tup (.cons false (.bin .sub (.var 2) (.con (.int 1))) (.cons false (.bin .mod (.bin .add (.var 4) (.var 2)) (.con (.int 2))) (.cons false (.con (.int 1)) .nil)))) .nil)) .nil))) .nil))) (.cons (.ret (.con (.bl false))) .nil) .nil) (.cons (.ret (.cmp .eq (.blt .repr (.cons (.call "beat" (.cons (.var 1) (.cons (.tup (.cons false (.con (.str "row")) (.cons false (.con (.int 1)) .nil))) (.cons (.tup (.cons false (.tup (.cons false (.con (.int 0)) (.cons false (.con (.int 0)) (.cons false (.neg (.con (.int 1))) .nil)))) .nil)) (.cons (.tup (.cons false (.con (.int 0)) .nil)) .nil))))) .nil)) (.blt .repr (.cons (.tup (.cons false (.tup (.cons false (.con (.int 0)) (.cons false (.con (.int 1)) (.cons false (.neg (.con (.int 1))) .nil)))) .nil)) .nil)))) .nil)))))))))
def N__law_are_steps_right : List Str := ["pot", "ahead", "size", "place", "mark", "forth", "back", "due", "told", "spots", ".0", "lap", "one"]
def b__law_are_exchanges_right : CSs := (.cons (.asg (.nm 1) (.mk "Program" (.cons (.con (.str lit__law_are_exchanges_right)) .nil))) (.cons (.asg (.tp (.cons (.nm 2) (.cons (.nm 3) .nil))) (.tup (.cons false (.bin .add (.con (.int 4)) (.call "_law_take" (.cons (.var 0) (.cons (.con (.int 5)) .nil)))) (.cons false (.call "_law_take" (.cons (.var 0) (.cons (.con (.int 3)) .nil))) .nil)))) (.cons (.asg (.nm 4) (.tup (.cons false (.tup (.cons false (.var 3) (.cons false (.con (.int 0)) (.cons false (.call "_law_of" (.cons (.var 0) (.cons (.fr (.disp (.cons false (.con (.int 1)) (.cons false (.neg (.con (.int 1))) .nil)))) .nil))) .nil)))) (.cons false (.tup (.cons false (.bin .add (.var 3) (.con (.int 1))) (.cons false (.con (.int 0)) (.cons false (.call "_law_of" (.cons (.var 0) (.cons (.fr (.disp (.cons false (.con (.int 1)) (.cons false (.neg (.con (.int 1))) .nil)))) .nil))) .nil)))) .nil)))) (.cons (.asg (.nm 5) (.tup (.cons false (.tup (.cons false (.bin .add (.var 3) (.con (.int 1))) (.cons false (.con (.int 0)) (.cons false (.idx (.idx (.var 4) (.con (.int 0))) (.con (.int 2))) .nil)))) (.cons false (.tup (.cons false (.var 3) (.cons false (.con (.int 0)) (.cons false (.idx (.idx (.var 4) (.con (.int 1))) (.con (.int 2))) .nil)))) .nil)))) (.cons (.ifs (.cmp .ne (.blt .repr (.cons (.call "beat" (.cons (.var 1) (.cons (.tup (.cons false (.con (.str "row")) (.cons false (.var 2) .nil))) (.cons (.var 4) (.cons (.tup (.cons false (.con (.int 0)) (.cons false (.con (.int 1)) .nil))) .nil))))) .nil)) (.blt .repr (.cons (.var 5) .nil))) (.cons (.ret (.con (.bl false))) .nil) .nil) (.cons (.asg (.nm 6) (.call "run" (.cons (.var 1) (.cons (.tup (.cons false (.con (.str "row")) (.cons false (.var 2) .nil))) (.cons (.var 4) (.cons (.tup (.cons false (.tup (.cons false (.con (.int 1)) .nil)) (.cons false (.tup (.cons false (.con (.int 0)) .nil)) .nil))) .nil)))))) (.cons (.asg (.nm 7) (.tup (.cons false (.idx (.var 4) (.con (.int 0))) (.cons false (.tup (.cons false (.var 3) (.cons false (.con (.int 0)) (.cons false (.idx (.idx (.var 4) (.con (.int 1))) (.con (.int 2))) .nil)))) .nil)))) (.cons (.ret (.cmp .eq (.blt .repr (.cons (.var 6) .nil)) (.blt .repr (.cons (.tup (.cons false (.var 4) (.cons false (.var 7) (.cons false (.var 7) .nil)))) .nil)))) .nil))))))))
def N__law_are_exchanges_right : List Str := ["pot", "near", "size", "place", "two", "both", "told", "met"]
def b__law_are_lots_right : CSs := (.cons (.asg (.nm 0) (.tup (.cons false (.tup (.cons false (.con (.int 1)) .nil)) (.cons false (.tup (.cons false (.con (.int 0)) (.cons false (.con (.int 2)) .nil))) (.cons false (.tup (.cons false (.con (.int 0)) (.cons false (.con (.int 1)) (.cons false (.con (.int 2)) .nil)))) (.cons false (.tup (.cons false (.con (.int 2)) .nil)) .nil)))))) (.cons (.ifs (.cmp .ne (.blt .repr (.cons (.tup (.cons false (.call "eras" (.cons (.con (.int 3)) (.cons (.var 0) .nil))) (.cons false (.call "left" (.cons (.con (.int 3)) (.cons (.var 0) .nil))) .nil))) .nil)) (.blt .repr (.cons (.tup (.cons false (.tup (.cons false (.tup (.cons false (.tup (.cons false (.con (.int 1)) .nil)) (.cons false (.tup (.cons false (.con (.int 0)) (.cons false (.con (.int 2)) .nil))) .nil))) (.cons false (.tup (.cons false (.tup (.cons false (.con (.int 0)) (.cons false (.con (.int 1)) (.cons false (.con (.int 2)) .nil)))) .nil)) (.cons false (.tup (.cons false (.tup (.cons false (.con (.int 2)) .nil)) .nil)) .nil)))) (.cons false (.tup (.cons false (.con (.int 0)) (.cons false (.con (.int 1)) .nil))) .nil))) .nil))) (.cons (.ret (.con (.bl false))) .nil) .nil) (.cons (.ret (.and (.cons (.cmp .eq (.blt .repr (.cons (.call "next_lots" (.cons (.con (.str "eras")) (.cons (.con (.int 3)) (.cons (.var 0) .nil)))) .nil)) (.con (.str "((0,), (0, 1), (1,))"))) (.cons (.cmp .eq (.blt .repr (.cons (.call "next_lots" (.cons (.con (.str "full")) (.cons (.con (.int 2)) (.cons (.tup .nil) .nil)))) .nil)) (.con (.str "((0, 1),)"))) .nil)))) .nil)))
def N__law_are_lots_right : List Str := ["lots"]
def b__law_right : CSs := (.cons (.ret (.and (.cons (.call "_law_are_steps_right" (.cons (.var 0) .nil)) (.cons (.call "_law_are_exchanges_right" (.cons (.var 0) .nil)) (.cons (.call "_law_are_lots_right" .nil) .nil))))) .nil)
def N__law_right : List Str := ["pot"]
def b_law : CSs := (.cons (.ret (.blt .all (.cons (.fr (.comp (.call "_law_right" (.cons (.call "_law_pot" (.cons (.var 0) (.cons (.var 2) .nil))) .nil)) (.nm 2) (.seq (.call "_law_cells" (.cons (.var 0) (.cons (.con (.int 2)) .nil)))) .nil [1, 2])) .nil))) .nil)
def N_law : List Str := ["script", ".0", "place"]
abbrev d_is_whole : Ev.Def := ⟨1, 1, b_is_whole, false, false⟩
abbrev d_is_integer : Ev.Def := ⟨3, 3, b_is_integer, false, false⟩
abbrev d_is_tuple : Ev.Def := ⟨3, 3, b_is_tuple, false, false⟩
abbrev d_is_said : Ev.Def := ⟨2, 2, b_is_said, false, false⟩
abbrev d_is_ascending : Ev.Def := ⟨1, 4, b_is_ascending, false, false⟩
abbrev d_is_floor : Ev.Def := ⟨1, 1, b_is_floor, false, false⟩
abbrev d_check_floor : Ev.Def := ⟨1, 1, b_check_floor, false, false⟩
abbrev d_is_sense : Ev.Def := ⟨1, 1, b_is_sense, false, false⟩
abbrev d_is_stand : Ev.Def := ⟨3, 3, b_is_stand, false, false⟩
abbrev d_is_standing : Ev.Def := ⟨3, 5, b_is_standing, false, false⟩
abbrev d_check_standing : Ev.Def := ⟨3, 3, b_check_standing, false, false⟩
abbrev d_is_lot : Ev.Def := ⟨2, 4, b_is_lot, false, false⟩
abbrev d_check_lot : Ev.Def := ⟨2, 2, b_check_lot, false, false⟩
abbrev d_is_lots : Ev.Def := ⟨2, 4, b_is_lots, false, false⟩
abbrev d_check_lots : Ev.Def := ⟨2, 2, b_check_lots, false, false⟩
abbrev d_whole_in : Ev.Def := ⟨1, 5, b_whole_in, false, false⟩
abbrev d_integer_in : Ev.Def := ⟨3, 4, b_integer_in, false, false⟩
abbrev d_place_at : Ev.Def := ⟨3, 4, b_place_at, false, false⟩
abbrev d_moved_to : Ev.Def := ⟨4, 5, b_moved_to, false, false⟩
abbrev d_cell_of : Ev.Def := ⟨3, 8, b_cell_of, false, false⟩
abbrev d_cells_of : Ev.Def := ⟨4, 8, b_cells_of, false, false⟩
abbrev d_view_of : Ev.Def := ⟨3, 7, b_view_of, false, false⟩
abbrev d_expression_in : Ev.Def := ⟨3, 4, b_expression_in, false, false⟩
abbrev d_is_free_name : Ev.Def := ⟨1, 3, b_is_free_name, false, false⟩
abbrev d_lines_in : Ev.Def := ⟨1, 4, b_lines_in, true, false⟩
abbrev d_check_program : Ev.Def := ⟨1, 1, b_check_program, false, false⟩
abbrev d_sign_of : Ev.Def := ⟨1, 1, b_sign_of, false, false⟩
abbrev d_thought_of : Ev.Def := ⟨3, 6, b_thought_of, false, false⟩
abbrev d_beat_of : Ev.Def := ⟨4, 11, b_beat_of, false, false⟩
abbrev d_run_of : Ev.Def := ⟨4, 6, b_run_of, false, false⟩
abbrev d_check_all : Ev.Def := ⟨3, 3, b_check_all, false, false⟩
abbrev d_beat : Ev.Def := ⟨4, 4, b_beat, false, false⟩
abbrev d_run : Ev.Def := ⟨4, 4, b_run, false, false⟩
abbrev d_everybody : Ev.Def := ⟨1, 3, b_everybody, false, false⟩
abbrev d_left_of : Ev.Def := ⟨3, 6, b_left_of, false, false⟩
abbrev d_left_behind : Ev.Def := ⟨2, 6, b_left_behind, false, false⟩
abbrev d_is_of_kind : Ev.Def := ⟨3, 5, b_is_of_kind, false, false⟩
abbrev d_check_kind : Ev.Def := ⟨1, 1, b_check_kind, false, false⟩
abbrev d_check_many : Ev.Def := ⟨1, 1, b_check_many, false, false⟩
abbrev d_check_of_kind : Ev.Def := ⟨3, 3, b_check_of_kind, false, false⟩
abbrev d_eras : Ev.Def := ⟨2, 7, b_eras, false, false⟩
abbrev d_left : Ev.Def := ⟨2, 2, b_left, false, false⟩
abbrev d_lots_of : Ev.Def := ⟨1, 5, b_lots_of, false, false⟩
abbrev d_lots_next : Ev.Def := ⟨3, 5, b_lots_next, false, false⟩
abbrev d_next_lots : Ev.Def := ⟨3, 4, b_next_lots, false, false⟩
abbrev d__law_pot : Ev.Def := ⟨2, 5, b__law_pot, true, false⟩
abbrev d__law_take : Ev.Def := ⟨2, 5, b__law_take, false, false⟩
abbrev d__law_of : Ev.Def := ⟨2, 2, b__law_of, false, false⟩
abbrev d__law_cells : Ev.Def := ⟨2, 2, b__law_cells, false, false⟩
abbrev d__law_are_steps_right : Ev.Def := ⟨1, 13, b__law_are_steps_right, false, false⟩
abbrev d__law_are_exchanges_right : Ev.Def := ⟨1, 8, b__law_are_exchanges_right, false, false⟩
abbrev d__law_are_lots_right : Ev.Def := ⟨0, 1, b__law_are_lots_right, false, false⟩
abbrev d__law_right : Ev.Def := ⟨1, 1, b__law_right, false, true⟩
abbrev d_law : Ev.Def := ⟨1, 3, b_law, false, false⟩
def pgd : List (Str × Ev.Def) := ("place_at", d_place_at) :: ("cell_of", d_cell_of) :: ("is_whole", d_is_whole) :: ("is_integer", d_is_integer) :: ("Sight.worked", d_Sight_worked) :: ("moved_to", d_moved_to) :: ("is_tuple", d_is_tuple) :: ("is_said", d_is_said) :: ("is_stand", d_is_stand) :: ("cells_of", d_cells_of) :: ("view_of", d_view_of) :: ("thought_of", d_thought_of) :: ("Sight.__init__", d_Sight___init__) :: ("is_sense", d_is_sense) :: ("is_standing", d_is_standing) :: ("sign_of", d_sign_of) :: ("check_program", d_check_program) :: ("check_floor", d_check_floor) :: ("is_floor", d_is_floor) :: ("check_standing", d_check_standing) :: ("beat_of", d_beat_of) :: ("is_ascending", d_is_ascending) :: ("is_lot", d_is_lot) :: ("Sight.plain", d_Sight_plain) :: ("Sight.nearest", d_Sight_nearest) :: ("Sight.others", d_Sight_others) :: ("check_all", d_check_all) :: ("check_lot", d_check_lot) :: ("is_lots", d_is_lots) :: ("check_lots", d_check_lots) :: ("whole_in", d_whole_in) :: ("integer_in", d_integer_in) :: ("expression_in", d_expression_in) :: ("is_free_name", d_is_free_name) :: ("lines_in", d_lines_in) :: ("run_of", d_run_of) :: ("beat", d_beat) :: ("run", d_run) :: ("everybody", d_everybody) :: ("left_of", d_left_of) :: ("left_behind", d_left_behind) :: ("is_of_kind", d_is_of_kind) :: ("check_kind", d_check_kind) :: ("check_many", d_check_many) :: ("check_of_kind", d_check_of_kind) :: ("eras", d_eras) :: ("left", d_left) :: ("lots_of", d_lots_of) :: ("lots_next", d_lots_next) :: ("next_lots", d_next_lots) :: ("_law_pot", d__law_pot) :: ("_law_take", d__law_take) :: ("_law_of", d__law_of) :: ("_law_cells", d__law_cells) :: ("_law_are_steps_right", d__law_are_steps_right) :: ("_law_are_exchanges_right", d__law_are_exchanges_right) :: ("_law_are_lots_right", d__law_are_lots_right) :: ("_law_right", d__law_right) :: ("law", d_law) :: ("Reader.__init__", d_Reader___init__) :: ("Reader.read", d_Reader_read) :: ("Sight.cell", d_Sight_cell) :: ("Sight.looked", d_Sight_looked) :: ("Lines.__init__", d_Lines___init__) :: ("Lines.takes", d_Lines_takes) :: ("Lines.takes_marks", d_Lines_takes_marks) :: ("Lines.takes_let", d_Lines_takes_let) :: ("Program.__init__", d_Program___init__) :: ("Program.__eq__", d_Program___eq__) :: ("Program.text", d_Program_text) :: ("Program.marks", d_Program_marks) :: []
def pg : Ev.Prog := ⟨pgd, glbs, clsT, gdts⟩
/-! ### the head -/
def fn : List He.DefD := ddOf (top 21) :: ddOf (top 22) :: ddOf (top 23) :: ddOf (top 24) :: ddOf (top 25) :: ddOf (top 26) :: ddOf (top 27) :: ddOf (top 28) :: ddOf (top 29) :: ddOf (top 30) :: ddOf (top 31) :: ddOf (top 32) :: ddOf (top 33) :: ddOf (top 34) :: ddOf (top 35) :: ddOf (top 36) :: ddOf (top 37) :: ddOf (top 39) :: ddOf (top 40) :: ddOf (top 41) :: ddOf (top 42) :: ddOf (top 43) :: ddOf (top 55) :: ddOf (top 69) :: ddOf (top 71) :: ddOf (top 73) :: ddOf (top 74) :: ddOf (top 75) :: ddOf (top 82) :: ddOf (top 83) :: ddOf (top 84) :: ddOf (top 85) :: ddOf (top 86) :: ddOf (top 87) :: ddOf (top 88) :: ddOf (top 89) :: ddOf (top 90) :: ddOf (top 91) :: ddOf (top 92) :: ddOf (top 93) :: ddOf (top 94) :: ddOf (top 95) :: ddOf (top 96) :: ddOf (top 97) :: ddOf (top 98) :: ddOf (top 100) :: ddOf (top 101) :: ddOf (top 102) :: ddOf (top 103) :: ddOf (top 104) :: ddOf (top 105) :: ddOf (top 106) :: ddOf (top 107) :: ddOf (top 108) :: md_Reader___init__ :: md_Reader_read :: md_Sight___init__ :: md_Sight_cell :: md_Sight_others :: md_Sight_nearest :: md_Sight_plain :: md_Sight_worked :: md_Sight_looked :: md_Lines___init__ :: md_Lines_takes :: md_Lines_takes_marks :: md_Lines_takes_let :: md_Program___init__ :: md_Program___eq__ :: []
def gt : List He.DefD := md_Program_text :: md_Program_marks :: []
def fa : List He.Fa := (own.map He.Fa.glo) ++ (bltNames.map He.Fa.free)
def ex (K : PySem.W.Frag) : Bool := glbB glbs K && (clsB K clsT && gdtB gdts K)
abbrev hk : PySem.W.Hook := hookE 5 fa fn (tabsOf gdts) gt ex
def ob (s : PySem.W.SharedT) : Ev.AlE := obsE 5 fa fn (tabsOf gdts) gt ex (HandSHeadRun.getT s)
theorem ob_eq (s : PySem.W.SharedT) : ob s = hk.obs s.abs := obsE_eq (HandSHeadRun.getT_eq s)
def loose0 : List Str := ["__name__", "WalkError", "NoProgram", "BadProgram", "BadFloor", "BadStanding", "BadLot", "BadLots", "BadKind", "BadMany", "RING", "ROW", "MOST_PLACES", "LEAST_RING", "MOST_WALKERS", "MOST_MARKS", "PAIR_plain", "TRIPLE", "MINUS", "FIGURES", "is_whole", "is_integer", "is_tuple", "is_said", "is_ascending", "is_floor", "check_floor", "is_sense", "is_stand", "is_standing"]
def loose1 : List Str := ["check_standing", "is_lot", "check_lot", "is_lots", "check_lots", "whole_in", "integer_in", "place_at", "moved_to", "cell_of", "cells_of", "view_of", "LEAST_INTEGER", "MOST_INTEGER", "MOST_VALUE", "MOST_DEEP", "NUMBER", "LET_reckoning", "HALF", "PLAIN_WORDS", "SHAPES", "Reader", "expression_in", "Sight", "FEED", "BLANK", "MARKS", "LET_texts", "STEP", "MARK"]
def loose2 : List Str := ["SMALL", "MOST_SIGNS", "MOST_WORDS", "MOST_LETS", "PAIR_texts", "is_free_name", "Lines", "lines_in", "Program", "check_program", "sign_of", "thought_of", "FULL", "ONE", "SOME", "ERAS", "KINDS", "beat_of", "run_of", "check_all", "beat", "run", "everybody", "left_of", "left_behind", "is_of_kind", "check_kind", "check_many", "check_of_kind", "eras"]
def loose3 : List Str := ["left", "lots_of", "lots_next", "next_lots", "_law_pot", "_law_take", "_law_of", "_law_cells", "_law_are_steps_right", "_law_are_exchanges_right", "_law_are_lots_right", "_law_right"]
def loose : List Str := loose0 ++ loose1 ++ loose2 ++ loose3
theorem run_true (w : World) : HandSHeadRun.RunEq Rw (PySem.W.view Rw.prog [108]) hk ob 20000 loose (fixW true w) := by
  intro os
  kernel_rfl
theorem run_false (w : World) : HandSHeadRun.RunEq Rw (PySem.W.view Rw.prog [108]) hk ob 20000 loose (fixW false w) := by
  intro os
  kernel_rfl
theorem run (w : World) : HandSHeadRun.RunEq Rw (PySem.W.view Rw.prog [108]) hk ob 20000 loose w := fix_run (T := fun w => HandSHeadRun.RunEq Rw (PySem.W.view Rw.prog [108]) hk ob 20000 loose w) run_true run_false w
/-! ### the defs -/
section
variable {K : PySem.W.Frag} {h : Heap} {mg : Str → Option Value}
theorem c_is_whole : cSs kwp 60 ⟨N_is_whole, (ddOf (top 21)).scope, own, gnm, [], false, false, false, clsn, gdn⟩ (ddOf (top 21)).body = some b_is_whole := by
  kernel_rfl
theorem l_is_whole (X : K.In h) (G : h.Ns mainGlobals mg) (c : He.SaysD fa fn K) : Lies K mg kwp own gnm clsn gdn "is_whole" d_is_whole := by
  obtain ⟨fd, F⟩ := c.def_ 0 (d := ddOf (top 21)) rfl
  have sc : FnScope N_is_whole ["value"] (ddOf (top 21)).scope := C8.fnScope_by (by decide +kernel)
  refine ⟨_, fd, ["value"], ⟨⟨_, _, _, N_is_whole, [], false, false, 60, fun_of F, sc, rfl, rfl, c_is_whole⟩, fun s us hl _ => FunD.bindsA (ps := ["value"]) F (fun _ _ _ _ _ _ us hl => ?_) s us hl⟩, He.glo_ok X G (c.fact 0 (f := .glo "is_whole") rfl), F.kp, fun n ks perm hin s us ws h1 h2 _ => ?_⟩
  · match us, hl with
    | [_], _ => rfl
  · exact absurd hin (no_kw (by decide +kernel))
theorem c_is_integer : cSs kwp 60 ⟨N_is_integer, (ddOf (top 22)).scope, own, gnm, [], false, false, false, clsn, gdn⟩ (ddOf (top 22)).body = some b_is_integer := by
  kernel_rfl
theorem l_is_integer (X : K.In h) (G : h.Ns mainGlobals mg) (c : He.SaysD fa fn K) : Lies K mg kwp own gnm clsn gdn "is_integer" d_is_integer := by
  obtain ⟨fd, F⟩ := c.def_ 1 (d := ddOf (top 22)) rfl
  have sc : FnScope N_is_integer ["value", "low", "high"] (ddOf (top 22)).scope := C8.fnScope_by (by decide +kernel)
  refine ⟨_, fd, ["value", "low", "high"], ⟨⟨_, _, _, N_is_integer, [], false, false, 60, fun_of F, sc, rfl, rfl, c_is_integer⟩, fun s us hl _ => FunD.bindsA (ps := ["value", "low", "high"]) F (fun _ _ _ _ _ _ us hl => ?_) s us hl⟩, He.glo_ok X G (c.fact 1 (f := .glo "is_integer") rfl), F.kp, fun n ks perm hin s us ws h1 h2 _ => ?_⟩
  · match us, hl with
    | [_, _, _], _ => rfl
  · exact absurd hin (no_kw (by decide +kernel))
theorem c_is_tuple : cSs kwp 60 ⟨N_is_tuple, (ddOf (top 23)).scope, own, gnm, [], false, false, false, clsn, gdn⟩ (ddOf (top 23)).body = some b_is_tuple := by
  kernel_rfl
theorem l_is_tuple (X : K.In h) (G : h.Ns mainGlobals mg) (c : He.SaysD fa fn K) : Lies K mg kwp own gnm clsn gdn "is_tuple" d_is_tuple := by
  obtain ⟨fd, F⟩ := c.def_ 2 (d := ddOf (top 23)) rfl
  have sc : FnScope N_is_tuple ["value", "least", "most"] (ddOf (top 23)).scope := C8.fnScope_by (by decide +kernel)
  refine ⟨_, fd, ["value", "least", "most"], ⟨⟨_, _, _, N_is_tuple, [], false, false, 60, fun_of F, sc, rfl, rfl, c_is_tuple⟩, fun s us hl _ => FunD.bindsA (ps := ["value", "least", "most"]) F (fun _ _ _ _ _ _ us hl => ?_) s us hl⟩, He.glo_ok X G (c.fact 2 (f := .glo "is_tuple") rfl), F.kp, fun n ks perm hin s us ws h1 h2 _ => ?_⟩
  · match us, hl with
    | [_, _, _], _ => rfl
  · exact absurd hin (no_kw (by decide +kernel))
theorem c_is_said : cSs kwp 60 ⟨N_is_said, (ddOf (top 24)).scope, own, gnm, [], false, false, false, clsn, gdn⟩ (ddOf (top 24)).body = some b_is_said := by
  kernel_rfl
theorem l_is_said (X : K.In h) (G : h.Ns mainGlobals mg) (c : He.SaysD fa fn K) : Lies K mg kwp own gnm clsn gdn "is_said" d_is_said := by
  obtain ⟨fd, F⟩ := c.def_ 3 (d := ddOf (top 24)) rfl
  have sc : FnScope N_is_said ["value", "words"] (ddOf (top 24)).scope := C8.fnScope_by (by decide +kernel)
  refine ⟨_, fd, ["value", "words"], ⟨⟨_, _, _, N_is_said, [], false, false, 60, fun_of F, sc, rfl, rfl, c_is_said⟩, fun s us hl _ => FunD.bindsA (ps := ["value", "words"]) F (fun _ _ _ _ _ _ us hl => ?_) s us hl⟩, He.glo_ok X G (c.fact 3 (f := .glo "is_said") rfl), F.kp, fun n ks perm hin s us ws h1 h2 _ => ?_⟩
  · match us, hl with
    | [_, _], _ => rfl
  · exact absurd hin (no_kw (by decide +kernel))
theorem c_is_ascending : cSs kwp 60 ⟨N_is_ascending, (ddOf (top 25)).scope, own, gnm, [], false, false, false, clsn, gdn⟩ (ddOf (top 25)).body = some b_is_ascending := by
  kernel_rfl
theorem l_is_ascending (X : K.In h) (G : h.Ns mainGlobals mg) (c : He.SaysD fa fn K) : Lies K mg kwp own gnm clsn gdn "is_ascending" d_is_ascending := by
  obtain ⟨fd, F⟩ := c.def_ 4 (d := ddOf (top 25)) rfl
  have sc : FnScope N_is_ascending ["some"] (ddOf (top 25)).scope := C8.fnScope_by (by decide +kernel)
  refine ⟨_, fd, ["some"], ⟨⟨_, _, _, N_is_ascending, [], false, false, 60, fun_of F, sc, rfl, rfl, c_is_ascending⟩, fun s us hl _ => FunD.bindsA (ps := ["some"]) F (fun _ _ _ _ _ _ us hl => ?_) s us hl⟩, He.glo_ok X G (c.fact 4 (f := .glo "is_ascending") rfl), F.kp, fun n ks perm hin s us ws h1 h2 _ => ?_⟩
  · match us, hl with
    | [_], _ => rfl
  · exact absurd hin (no_kw (by decide +kernel))
theorem c_is_floor : cSs kwp 60 ⟨N_is_floor, (ddOf (top 26)).scope, own, gnm, [], false, false, false, clsn, gdn⟩ (ddOf (top 26)).body = some b_is_floor := by
  kernel_rfl
theorem l_is_floor (X : K.In h) (G : h.Ns mainGlobals mg) (c : He.SaysD fa fn K) : Lies K mg kwp own gnm clsn gdn "is_floor" d_is_floor := by
  obtain ⟨fd, F⟩ := c.def_ 5 (d := ddOf (top 26)) rfl
  have sc : FnScope N_is_floor ["value"] (ddOf (top 26)).scope := C8.fnScope_by (by decide +kernel)
  refine ⟨_, fd, ["value"], ⟨⟨_, _, _, N_is_floor, [], false, false, 60, fun_of F, sc, rfl, rfl, c_is_floor⟩, fun s us hl _ => FunD.bindsA (ps := ["value"]) F (fun _ _ _ _ _ _ us hl => ?_) s us hl⟩, He.glo_ok X G (c.fact 5 (f := .glo "is_floor") rfl), F.kp, fun n ks perm hin s us ws h1 h2 _ => ?_⟩
  · match us, hl with
    | [_], _ => rfl
  · exact absurd hin (no_kw (by decide +kernel))
theorem c_check_floor : cSs kwp 60 ⟨N_check_floor, (ddOf (top 27)).scope, own, gnm, [], false, false, false, clsn, gdn⟩ (ddOf (top 27)).body = some b_check_floor := by
  kernel_rfl
theorem l_check_floor (X : K.In h) (G : h.Ns mainGlobals mg) (c : He.SaysD fa fn K) : Lies K mg kwp own gnm clsn gdn "check_floor" d_check_floor := by
  obtain ⟨fd, F⟩ := c.def_ 6 (d := ddOf (top 27)) rfl
  have sc : FnScope N_check_floor ["floor"] (ddOf (top 27)).scope := C8.fnScope_by (by decide +kernel)
  refine ⟨_, fd, ["floor"], ⟨⟨_, _, _, N_check_floor, [], false, false, 60, fun_of F, sc, rfl, rfl, c_check_floor⟩, fun s us hl _ => FunD.bindsA (ps := ["floor"]) F (fun _ _ _ _ _ _ us hl => ?_) s us hl⟩, He.glo_ok X G (c.fact 6 (f := .glo "check_floor") rfl), F.kp, fun n ks perm hin s us ws h1 h2 _ => ?_⟩
  · match us, hl with
    | [_], _ => rfl
  · exact absurd hin (no_kw (by decide +kernel))
theorem c_is_sense : cSs kwp 60 ⟨N_is_sense, (ddOf (top 28)).scope, own, gnm, [], false, false, false, clsn, gdn⟩ (ddOf (top 28)).body = some b_is_sense := by
  kernel_rfl
theorem l_is_sense (X : K.In h) (G : h.Ns mainGlobals mg) (c : He.SaysD fa fn K) : Lies K mg kwp own gnm clsn gdn "is_sense" d_is_sense := by
  obtain ⟨fd, F⟩ := c.def_ 7 (d := ddOf (top 28)) rfl
  have sc : FnScope N_is_sense ["value"] (ddOf (top 28)).scope := C8.fnScope_by (by decide +kernel)
  refine ⟨_, fd, ["value"], ⟨⟨_, _, _, N_is_sense, [], false, false, 60, fun_of F, sc, rfl, rfl, c_is_sense⟩, fun s us hl _ => FunD.bindsA (ps := ["value"]) F (fun _ _ _ _ _ _ us hl => ?_) s us hl⟩, He.glo_ok X G (c.fact 7 (f := .glo "is_sense") rfl), F.kp, fun n ks perm hin s us ws h1 h2 _ => ?_⟩
  · match us, hl with
    | [_], _ => rfl
  · exact absurd hin (no_kw (by decide +kernel))
theorem c_is_stand : cSs kwp 60 ⟨N_is_stand, (ddOf (top 29)).scope, own, gnm, [], false, false, false, clsn, gdn⟩ (ddOf (top 29)).body = some b_is_stand := by
  kernel_rfl
theorem l_is_stand (X : K.In h) (G : h.Ns mainGlobals mg) (c : He.SaysD fa fn K) : Lies K mg kwp own gnm clsn gdn "is_stand" d_is_stand := by
  obtain ⟨fd, F⟩ := c.def_ 8 (d := ddOf (top 29)) rfl
  have sc : FnScope N_is_stand ["floor", "marks", "value"] (ddOf (top 29)).scope := C8.fnScope_by (by decide +kernel)
  refine ⟨_, fd, ["floor", "marks", "value"], ⟨⟨_, _, _, N_is_stand, [], false, false, 60, fun_of F, sc, rfl, rfl, c_is_stand⟩, fun s us hl _ => FunD.bindsA (ps := ["floor", "marks", "value"]) F (fun _ _ _ _ _ _ us hl => ?_) s us hl⟩, He.glo_ok X G (c.fact 8 (f := .glo "is_stand") rfl), F.kp, fun n ks perm hin s us ws h1 h2 _ => ?_⟩
  · match us, hl with
    | [_, _, _], _ => rfl
  · exact absurd hin (no_kw (by decide +kernel))
theorem c_is_standing : cSs kwp 60 ⟨N_is_standing, (ddOf (top 30)).scope, own, gnm, [], false, false, false, clsn, gdn⟩ (ddOf (top 30)).body = some b_is_standing := by
  kernel_rfl
theorem l_is_standing (X : K.In h) (G : h.Ns mainGlobals mg) (c : He.SaysD fa fn K) : Lies K mg kwp own gnm clsn gdn "is_standing" d_is_standing := by
  obtain ⟨fd, F⟩ := c.def_ 9 (d := ddOf (top 30)) rfl
  have sc : FnScope N_is_standing ["floor", "marks", "value"] (ddOf (top 30)).scope := C8.fnScope_by (by decide +kernel)
  refine ⟨_, fd, ["floor", "marks", "value"], ⟨⟨_, _, _, N_is_standing, [], false, false, 60, fun_of F, sc, rfl, rfl, c_is_standing⟩, fun s us hl _ => FunD.bindsA (ps := ["floor", "marks", "value"]) F (fun _ _ _ _ _ _ us hl => ?_) s us hl⟩, He.glo_ok X G (c.fact 9 (f := .glo "is_standing") rfl), F.kp, fun n ks perm hin s us ws h1 h2 _ => ?_⟩
  · match us, hl with
    | [_, _, _], _ => rfl
  · exact absurd hin (no_kw (by decide +kernel))
theorem c_check_standing : cSs kwp 60 ⟨N_check_standing, (ddOf (top 31)).scope, own, gnm, [], false, false, false, clsn, gdn⟩ (ddOf (top 31)).body = some b_check_standing := by
  kernel_rfl
theorem l_check_standing (X : K.In h) (G : h.Ns mainGlobals mg) (c : He.SaysD fa fn K) : Lies K mg kwp own gnm clsn gdn "check_standing" d_check_standing := by
  obtain ⟨fd, F⟩ := c.def_ 10 (d := ddOf (top 31)) rfl
  have sc : FnScope N_check_standing ["floor", "marks", "standing"] (ddOf (top 31)).scope := C8.fnScope_by (by decide +kernel)
  refine ⟨_, fd, ["floor", "marks", "standing"], ⟨⟨_, _, _, N_check_standing, [], false, false, 60, fun_of F, sc, rfl, rfl, c_check_standing⟩, fun s us hl _ => FunD.bindsA (ps := ["floor", "marks", "standing"]) F (fun _ _ _ _ _ _ us hl => ?_) s us hl⟩, He.glo_ok X G (c.fact 10 (f := .glo "check_standing") rfl), F.kp, fun n ks perm hin s us ws h1 h2 _ => ?_⟩
  · match us, hl with
    | [_, _, _], _ => rfl
  · exact absurd hin (no_kw (by decide +kernel))
theorem c_is_lot : cSs kwp 60 ⟨N_is_lot, (ddOf (top 32)).scope, own, gnm, [], false, false, false, clsn, gdn⟩ (ddOf (top 32)).body = some b_is_lot := by
  kernel_rfl
theorem l_is_lot (X : K.In h) (G : h.Ns mainGlobals mg) (c : He.SaysD fa fn K) : Lies K mg kwp own gnm clsn gdn "is_lot" d_is_lot := by
  obtain ⟨fd, F⟩ := c.def_ 11 (d := ddOf (top 32)) rfl
  have sc : FnScope N_is_lot ["many", "value"] (ddOf (top 32)).scope := C8.fnScope_by (by decide +kernel)
  refine ⟨_, fd, ["many", "value"], ⟨⟨_, _, _, N_is_lot, [], false, false, 60, fun_of F, sc, rfl, rfl, c_is_lot⟩, fun s us hl _ => FunD.bindsA (ps := ["many", "value"]) F (fun _ _ _ _ _ _ us hl => ?_) s us hl⟩, He.glo_ok X G (c.fact 11 (f := .glo "is_lot") rfl), F.kp, fun n ks perm hin s us ws h1 h2 _ => ?_⟩
  · match us, hl with
    | [_, _], _ => rfl
  · exact absurd hin (no_kw (by decide +kernel))
theorem c_check_lot : cSs kwp 60 ⟨N_check_lot, (ddOf (top 33)).scope, own, gnm, [], false, false, false, clsn, gdn⟩ (ddOf (top 33)).body = some b_check_lot := by
  kernel_rfl
theorem l_check_lot (X : K.In h) (G : h.Ns mainGlobals mg) (c : He.SaysD fa fn K) : Lies K mg kwp own gnm clsn gdn "check_lot" d_check_lot := by
  obtain ⟨fd, F⟩ := c.def_ 12 (d := ddOf (top 33)) rfl
  have sc : FnScope N_check_lot ["many", "value"] (ddOf (top 33)).scope := C8.fnScope_by (by decide +kernel)
  refine ⟨_, fd, ["many", "value"], ⟨⟨_, _, _, N_check_lot, [], false, false, 60, fun_of F, sc, rfl, rfl, c_check_lot⟩, fun s us hl _ => FunD.bindsA (ps := ["many", "value"]) F (fun _ _ _ _ _ _ us hl => ?_) s us hl⟩, He.glo_ok X G (c.fact 12 (f := .glo "check_lot") rfl), F.kp, fun n ks perm hin s us ws h1 h2 _ => ?_⟩
  · match us, hl with
    | [_, _], _ => rfl
  · exact absurd hin (no_kw (by decide +kernel))
theorem c_is_lots : cSs kwp 60 ⟨N_is_lots, (ddOf (top 34)).scope, own, gnm, [], false, false, false, clsn, gdn⟩ (ddOf (top 34)).body = some b_is_lots := by
  kernel_rfl
theorem l_is_lots (X : K.In h) (G : h.Ns mainGlobals mg) (c : He.SaysD fa fn K) : Lies K mg kwp own gnm clsn gdn "is_lots" d_is_lots := by
  obtain ⟨fd, F⟩ := c.def_ 13 (d := ddOf (top 34)) rfl
  have sc : FnScope N_is_lots ["many", "value"] (ddOf (top 34)).scope := C8.fnScope_by (by decide +kernel)
  refine ⟨_, fd, ["many", "value"], ⟨⟨_, _, _, N_is_lots, [], false, false, 60, fun_of F, sc, rfl, rfl, c_is_lots⟩, fun s us hl _ => FunD.bindsA (ps := ["many", "value"]) F (fun _ _ _ _ _ _ us hl => ?_) s us hl⟩, He.glo_ok X G (c.fact 13 (f := .glo "is_lots") rfl), F.kp, fun n ks perm hin s us ws h1 h2 _ => ?_⟩
  · match us, hl with
    | [_, _], _ => rfl
  · exact absurd hin (no_kw (by decide +kernel))
theorem c_check_lots : cSs kwp 60 ⟨N_check_lots, (ddOf (top 35)).scope, own, gnm, [], false, false, false, clsn, gdn⟩ (ddOf (top 35)).body = some b_check_lots := by
  kernel_rfl
theorem l_check_lots (X : K.In h) (G : h.Ns mainGlobals mg) (c : He.SaysD fa fn K) : Lies K mg kwp own gnm clsn gdn "check_lots" d_check_lots := by
  obtain ⟨fd, F⟩ := c.def_ 14 (d := ddOf (top 35)) rfl
  have sc : FnScope N_check_lots ["many", "value"] (ddOf (top 35)).scope := C8.fnScope_by (by decide +kernel)
  refine ⟨_, fd, ["many", "value"], ⟨⟨_, _, _, N_check_lots, [], false, false, 60, fun_of F, sc, rfl, rfl, c_check_lots⟩, fun s us hl _ => FunD.bindsA (ps := ["many", "value"]) F (fun _ _ _ _ _ _ us hl => ?_) s us hl⟩, He.glo_ok X G (c.fact 14 (f := .glo "check_lots") rfl), F.kp, fun n ks perm hin s us ws h1 h2 _ => ?_⟩
  · match us, hl with
    | [_, _], _ => rfl
  · exact absurd hin (no_kw (by decide +kernel))
theorem c_whole_in : cSs kwp 60 ⟨N_whole_in, (ddOf (top 36)).scope, own, gnm, [], false, false, true, clsn, gdn⟩ (ddOf (top 36)).body = some b_whole_in := by
  kernel_rfl
theorem l_whole_in (X : K.In h) (G : h.Ns mainGlobals mg) (c : He.SaysD fa fn K) : Lies K mg kwp own gnm clsn gdn "whole_in" d_whole_in := by
  obtain ⟨fd, F⟩ := c.def_ 15 (d := ddOf (top 36)) rfl
  have sc : FnScope N_whole_in ["word"] (ddOf (top 36)).scope := C8.fnScope_by (by decide +kernel)
  refine ⟨_, fd, ["word"], ⟨⟨_, _, _, N_whole_in, [], false, true, 60, fun_of F, sc, rfl, rfl, c_whole_in⟩, fun s us hl _ => FunD.bindsA (ps := ["word"]) F (fun _ _ _ _ _ _ us hl => ?_) s us hl⟩, He.glo_ok X G (c.fact 15 (f := .glo "whole_in") rfl), F.kp, fun n ks perm hin s us ws h1 h2 _ => ?_⟩
  · match us, hl with
    | [_], _ => rfl
  · exact absurd hin (no_kw (by decide +kernel))
theorem c_integer_in : cSs kwp 60 ⟨N_integer_in, (ddOf (top 37)).scope, own, gnm, [], false, false, false, clsn, gdn⟩ (ddOf (top 37)).body = some b_integer_in := by
  kernel_rfl
theorem l_integer_in (X : K.In h) (G : h.Ns mainGlobals mg) (c : He.SaysD fa fn K) : Lies K mg kwp own gnm clsn gdn "integer_in" d_integer_in := by
  obtain ⟨fd, F⟩ := c.def_ 16 (d := ddOf (top 37)) rfl
  have sc : FnScope N_integer_in ["word", "low", "high"] (ddOf (top 37)).scope := C8.fnScope_by (by decide +kernel)
  refine ⟨_, fd, ["word", "low", "high"], ⟨⟨_, _, _, N_integer_in, [], false, false, 60, fun_of F, sc, rfl, rfl, c_integer_in⟩, fun s us hl _ => FunD.bindsA (ps := ["word", "low", "high"]) F (fun _ _ _ _ _ _ us hl => ?_) s us hl⟩, He.glo_ok X G (c.fact 16 (f := .glo "integer_in") rfl), F.kp, fun n ks perm hin s us ws h1 h2 _ => ?_⟩
  · match us, hl with
    | [_, _, _], _ => rfl
  · exact absurd hin (no_kw (by decide +kernel))
theorem c_place_at : cSs kwp 60 ⟨N_place_at, (ddOf (top 39)).scope, own, gnm, [], false, false, false, clsn, gdn⟩ (ddOf (top 39)).body = some b_place_at := by
  kernel_rfl
theorem l_place_at (X : K.In h) (G : h.Ns mainGlobals mg) (c : He.SaysD fa fn K) : Lies K mg kwp own gnm clsn gdn "place_at" d_place_at := by
  obtain ⟨fd, F⟩ := c.def_ 17 (d := ddOf (top 39)) rfl
  have sc : FnScope N_place_at ["floor", "place", "steps"] (ddOf (top 39)).scope := C8.fnScope_by (by decide +kernel)
  refine ⟨_, fd, ["floor", "place", "steps"], ⟨⟨_, _, _, N_place_at, [], false, false, 60, fun_of F, sc, rfl, rfl, c_place_at⟩, fun s us hl _ => FunD.bindsA (ps := ["floor", "place", "steps"]) F (fun _ _ _ _ _ _ us hl => ?_) s us hl⟩, He.glo_ok X G (c.fact 17 (f := .glo "place_at") rfl), F.kp, fun n ks perm hin s us ws h1 h2 _ => ?_⟩
  · match us, hl with
    | [_, _, _], _ => rfl
  · exact absurd hin (no_kw (by decide +kernel))
theorem c_moved_to : cSs kwp 60 ⟨N_moved_to, (ddOf (top 40)).scope, own, gnm, [], false, false, false, clsn, gdn⟩ (ddOf (top 40)).body = some b_moved_to := by
  kernel_rfl
theorem l_moved_to (X : K.In h) (G : h.Ns mainGlobals mg) (c : He.SaysD fa fn K) : Lies K mg kwp own gnm clsn gdn "moved_to" d_moved_to := by
  obtain ⟨fd, F⟩ := c.def_ 18 (d := ddOf (top 40)) rfl
  have sc : FnScope N_moved_to ["floor", "place", "sense", "step"] (ddOf (top 40)).scope := C8.fnScope_by (by decide +kernel)
  refine ⟨_, fd, ["floor", "place", "sense", "step"], ⟨⟨_, _, _, N_moved_to, [], false, false, 60, fun_of F, sc, rfl, rfl, c_moved_to⟩, fun s us hl _ => FunD.bindsA (ps := ["floor", "place", "sense", "step"]) F (fun _ _ _ _ _ _ us hl => ?_) s us hl⟩, He.glo_ok X G (c.fact 18 (f := .glo "moved_to") rfl), F.kp, fun n ks perm hin s us ws h1 h2 _ => ?_⟩
  · match us, hl with
    | [_, _, _, _], _ => rfl
  · exact absurd hin (no_kw (by decide +kernel))
theorem c_cell_of : cSs kwp 60 ⟨N_cell_of, (ddOf (top 41)).scope, own, gnm, ["found"], false, false, false, clsn, gdn⟩ (ddOf (top 41)).body = some b_cell_of := by
  kernel_rfl
theorem l_cell_of (X : K.In h) (G : h.Ns mainGlobals mg) (c : He.SaysD fa fn K) : Lies K mg kwp own gnm clsn gdn "cell_of" d_cell_of := by
  obtain ⟨fd, F⟩ := c.def_ 19 (d := ddOf (top 41)) rfl
  have sc : FnScope N_cell_of ["standing", "place", "walker"] (ddOf (top 41)).scope := C8.fnScope_by (by decide +kernel)
  refine ⟨_, fd, ["standing", "place", "walker"], ⟨⟨_, _, _, N_cell_of, ["found"], false, false, 60, fun_of F, sc, rfl, rfl, c_cell_of⟩, fun s us hl _ => FunD.bindsA (ps := ["standing", "place", "walker"]) F (fun _ _ _ _ _ _ us hl => ?_) s us hl⟩, He.glo_ok X G (c.fact 19 (f := .glo "cell_of") rfl), F.kp, fun n ks perm hin s us ws h1 h2 _ => ?_⟩
  · match us, hl with
    | [_, _, _], _ => rfl
  · exact absurd hin (no_kw (by decide +kernel))
theorem c_cells_of : cSs kwp 60 ⟨N_cells_of, (ddOf (top 42)).scope, own, gnm, ["found"], false, false, false, clsn, gdn⟩ (ddOf (top 42)).body = some b_cells_of := by
  kernel_rfl
theorem l_cells_of (X : K.In h) (G : h.Ns mainGlobals mg) (c : He.SaysD fa fn K) : Lies K mg kwp own gnm clsn gdn "cells_of" d_cells_of := by
  obtain ⟨fd, F⟩ := c.def_ 20 (d := ddOf (top 42)) rfl
  have sc : FnScope N_cells_of ["floor", "standing", "walker", "way"] (ddOf (top 42)).scope := C8.fnScope_by (by decide +kernel)
  refine ⟨_, fd, ["floor", "standing", "walker", "way"], ⟨⟨_, _, _, N_cells_of, ["found"], false, false, 60, fun_of F, sc, rfl, rfl, c_cells_of⟩, fun s us hl _ => FunD.bindsA (ps := ["floor", "standing", "walker", "way"]) F (fun _ _ _ _ _ _ us hl => ?_) s us hl⟩, He.glo_ok X G (c.fact 20 (f := .glo "cells_of") rfl), F.kp, fun n ks perm hin s us ws h1 h2 _ => ?_⟩
  · match us, hl with
    | [_, _, _, _], _ => rfl
  · exact absurd hin (no_kw (by decide +kernel))
theorem c_view_of : cSs kwp 60 ⟨N_view_of, (ddOf (top 43)).scope, own, gnm, [], false, false, false, clsn, gdn⟩ (ddOf (top 43)).body = some b_view_of := by
  kernel_rfl
theorem l_view_of (X : K.In h) (G : h.Ns mainGlobals mg) (c : He.SaysD fa fn K) : Lies K mg kwp own gnm clsn gdn "view_of" d_view_of := by
  obtain ⟨fd, F⟩ := c.def_ 21 (d := ddOf (top 43)) rfl
  have sc : FnScope N_view_of ["floor", "standing", "walker"] (ddOf (top 43)).scope := C8.fnScope_by (by decide +kernel)
  refine ⟨_, fd, ["floor", "standing", "walker"], ⟨⟨_, _, _, N_view_of, [], false, false, 60, fun_of F, sc, rfl, rfl, c_view_of⟩, fun s us hl _ => FunD.bindsA (ps := ["floor", "standing", "walker"]) F (fun _ _ _ _ _ _ us hl => ?_) s us hl⟩, He.glo_ok X G (c.fact 21 (f := .glo "view_of") rfl), F.kp, fun n ks perm hin s us ws h1 h2 _ => ?_⟩
  · match us, hl with
    | [_, _, _], _ => rfl
  · exact absurd hin (no_kw (by decide +kernel))
theorem c_expression_in : cSs kwp 60 ⟨N_expression_in, (ddOf (top 55)).scope, own, gnm, [], false, false, false, clsn, gdn⟩ (ddOf (top 55)).body = some b_expression_in := by
  kernel_rfl
theorem l_expression_in (X : K.In h) (G : h.Ns mainGlobals mg) (c : He.SaysD fa fn K) : Lies K mg kwp own gnm clsn gdn "expression_in" d_expression_in := by
  obtain ⟨fd, F⟩ := c.def_ 22 (d := ddOf (top 55)) rfl
  have sc : FnScope N_expression_in ["words", "at", "names"] (ddOf (top 55)).scope := C8.fnScope_by (by decide +kernel)
  refine ⟨_, fd, ["words", "at", "names"], ⟨⟨_, _, _, N_expression_in, [], false, false, 60, fun_of F, sc, rfl, rfl, c_expression_in⟩, fun s us hl _ => FunD.bindsA (ps := ["words", "at", "names"]) F (fun _ _ _ _ _ _ us hl => ?_) s us hl⟩, He.glo_ok X G (c.fact 22 (f := .glo "expression_in") rfl), F.kp, fun n ks perm hin s us ws h1 h2 _ => ?_⟩
  · match us, hl with
    | [_, _, _], _ => rfl
  · exact absurd hin (no_kw (by decide +kernel))
theorem c_is_free_name : cSs kwp 60 ⟨N_is_free_name, (ddOf (top 69)).scope, own, gnm, [], false, false, true, clsn, gdn⟩ (ddOf (top 69)).body = some b_is_free_name := by
  kernel_rfl
theorem l_is_free_name (X : K.In h) (G : h.Ns mainGlobals mg) (c : He.SaysD fa fn K) : Lies K mg kwp own gnm clsn gdn "is_free_name" d_is_free_name := by
  obtain ⟨fd, F⟩ := c.def_ 23 (d := ddOf (top 69)) rfl
  have sc : FnScope N_is_free_name ["word"] (ddOf (top 69)).scope := C8.fnScope_by (by decide +kernel)
  refine ⟨_, fd, ["word"], ⟨⟨_, _, _, N_is_free_name, [], false, true, 60, fun_of F, sc, rfl, rfl, c_is_free_name⟩, fun s us hl _ => FunD.bindsA (ps := ["word"]) F (fun _ _ _ _ _ _ us hl => ?_) s us hl⟩, He.glo_ok X G (c.fact 23 (f := .glo "is_free_name") rfl), F.kp, fun n ks perm hin s us ws h1 h2 _ => ?_⟩
  · match us, hl with
    | [_], _ => rfl
  · exact absurd hin (no_kw (by decide +kernel))
theorem c_lines_in : cSs kwp 60 ⟨N_lines_in, (ddOf (top 71)).scope, own, gnm, [], true, false, false, clsn, gdn⟩ (ddOf (top 71)).body = some b_lines_in := by
  kernel_rfl
theorem l_lines_in (X : K.In h) (G : h.Ns mainGlobals mg) (c : He.SaysD fa fn K) : Lies K mg kwp own gnm clsn gdn "lines_in" d_lines_in := by
  obtain ⟨fd, F⟩ := c.def_ 24 (d := ddOf (top 71)) rfl
  have sc : FnScope N_lines_in ["text"] (ddOf (top 71)).scope := C8.fnScope_by (by decide +kernel)
  refine ⟨_, fd, ["text"], ⟨⟨_, _, _, N_lines_in, [], false, false, 60, fun_of F, sc, rfl, rfl, c_lines_in⟩, fun s us hl _ => FunD.bindsA (ps := ["text"]) F (fun _ _ _ _ _ _ us hl => ?_) s us hl⟩, He.glo_ok X G (c.fact 24 (f := .glo "lines_in") rfl), F.kp, fun n ks perm hin s us ws h1 h2 _ => ?_⟩
  · match us, hl with
    | [_], _ => rfl
  · exact absurd hin (no_kw (by decide +kernel))
theorem c_check_program : cSs kwp 60 ⟨N_check_program, (ddOf (top 73)).scope, own, gnm, [], false, false, false, clsn, gdn⟩ (ddOf (top 73)).body = some b_check_program := by
  kernel_rfl
theorem l_check_program (X : K.In h) (G : h.Ns mainGlobals mg) (c : He.SaysD fa fn K) : Lies K mg kwp own gnm clsn gdn "check_program" d_check_program := by
  obtain ⟨fd, F⟩ := c.def_ 25 (d := ddOf (top 73)) rfl
  have sc : FnScope N_check_program ["value"] (ddOf (top 73)).scope := C8.fnScope_by (by decide +kernel)
  refine ⟨_, fd, ["value"], ⟨⟨_, _, _, N_check_program, [], false, false, 60, fun_of F, sc, rfl, rfl, c_check_program⟩, fun s us hl _ => FunD.bindsA (ps := ["value"]) F (fun _ _ _ _ _ _ us hl => ?_) s us hl⟩, He.glo_ok X G (c.fact 25 (f := .glo "check_program") rfl), F.kp, fun n ks perm hin s us ws h1 h2 _ => ?_⟩
  · match us, hl with
    | [_], _ => rfl
  · exact absurd hin (no_kw (by decide +kernel))
theorem c_sign_of : cSs kwp 60 ⟨N_sign_of, (ddOf (top 74)).scope, own, gnm, [], false, false, false, clsn, gdn⟩ (ddOf (top 74)).body = some b_sign_of := by
  kernel_rfl
theorem l_sign_of (X : K.In h) (G : h.Ns mainGlobals mg) (c : He.SaysD fa fn K) : Lies K mg kwp own gnm clsn gdn "sign_of" d_sign_of := by
  obtain ⟨fd, F⟩ := c.def_ 26 (d := ddOf (top 74)) rfl
  have sc : FnScope N_sign_of ["value"] (ddOf (top 74)).scope := C8.fnScope_by (by decide +kernel)
  refine ⟨_, fd, ["value"], ⟨⟨_, _, _, N_sign_of, [], false, false, 60, fun_of F, sc, rfl, rfl, c_sign_of⟩, fun s us hl _ => FunD.bindsA (ps := ["value"]) F (fun _ _ _ _ _ _ us hl => ?_) s us hl⟩, He.glo_ok X G (c.fact 26 (f := .glo "sign_of") rfl), F.kp, fun n ks perm hin s us ws h1 h2 _ => ?_⟩
  · match us, hl with
    | [_], _ => rfl
  · exact absurd hin (no_kw (by decide +kernel))
theorem c_thought_of : cSs kwp 60 ⟨N_thought_of, (ddOf (top 75)).scope, own, gnm, [], false, false, false, clsn, gdn⟩ (ddOf (top 75)).body = some b_thought_of := by
  kernel_rfl
theorem l_thought_of (X : K.In h) (G : h.Ns mainGlobals mg) (c : He.SaysD fa fn K) : Lies K mg kwp own gnm clsn gdn "thought_of" d_thought_of := by
  obtain ⟨fd, F⟩ := c.def_ 27 (d := ddOf (top 75)) rfl
  have sc : FnScope N_thought_of ["program", "floor", "view"] (ddOf (top 75)).scope := C8.fnScope_by (by decide +kernel)
  refine ⟨_, fd, ["program", "floor", "view"], ⟨⟨_, _, _, N_thought_of, [], false, false, 60, fun_of F, sc, rfl, rfl, c_thought_of⟩, fun s us hl _ => FunD.bindsA (ps := ["program", "floor", "view"]) F (fun _ _ _ _ _ _ us hl => ?_) s us hl⟩, He.glo_ok X G (c.fact 27 (f := .glo "thought_of") rfl), F.kp, fun n ks perm hin s us ws h1 h2 _ => ?_⟩
  · match us, hl with
    | [_, _, _], _ => rfl
  · exact absurd hin (no_kw (by decide +kernel))
theorem c_beat_of : cSs kwp 60 ⟨N_beat_of, (ddOf (top 82)).scope, own, gnm, ["found"], false, false, false, clsn, gdn⟩ (ddOf (top 82)).body = some b_beat_of := by
  kernel_rfl
theorem l_beat_of (X : K.In h) (G : h.Ns mainGlobals mg) (c : He.SaysD fa fn K) : Lies K mg kwp own gnm clsn gdn "beat_of" d_beat_of := by
  obtain ⟨fd, F⟩ := c.def_ 28 (d := ddOf (top 82)) rfl
  have sc : FnScope N_beat_of ["program", "floor", "standing", "lot"] (ddOf (top 82)).scope := C8.fnScope_by (by decide +kernel)
  refine ⟨_, fd, ["program", "floor", "standing", "lot"], ⟨⟨_, _, _, N_beat_of, ["found"], false, false, 60, fun_of F, sc, rfl, rfl, c_beat_of⟩, fun s us hl _ => FunD.bindsA (ps := ["program", "floor", "standing", "lot"]) F (fun _ _ _ _ _ _ us hl => ?_) s us hl⟩, He.glo_ok X G (c.fact 28 (f := .glo "beat_of") rfl), F.kp, fun n ks perm hin s us ws h1 h2 _ => ?_⟩
  · match us, hl with
    | [_, _, _, _], _ => rfl
  · exact absurd hin (no_kw (by decide +kernel))
theorem c_run_of : cSs kwp 60 ⟨N_run_of, (ddOf (top 83)).scope, own, gnm, ["found"], false, false, false, clsn, gdn⟩ (ddOf (top 83)).body = some b_run_of := by
  kernel_rfl
theorem l_run_of (X : K.In h) (G : h.Ns mainGlobals mg) (c : He.SaysD fa fn K) : Lies K mg kwp own gnm clsn gdn "run_of" d_run_of := by
  obtain ⟨fd, F⟩ := c.def_ 29 (d := ddOf (top 83)) rfl
  have sc : FnScope N_run_of ["program", "floor", "standing", "lots"] (ddOf (top 83)).scope := C8.fnScope_by (by decide +kernel)
  refine ⟨_, fd, ["program", "floor", "standing", "lots"], ⟨⟨_, _, _, N_run_of, ["found"], false, false, 60, fun_of F, sc, rfl, rfl, c_run_of⟩, fun s us hl _ => FunD.bindsA (ps := ["program", "floor", "standing", "lots"]) F (fun _ _ _ _ _ _ us hl => ?_) s us hl⟩, He.glo_ok X G (c.fact 29 (f := .glo "run_of") rfl), F.kp, fun n ks perm hin s us ws h1 h2 _ => ?_⟩
  · match us, hl with
    | [_, _, _, _], _ => rfl
  · exact absurd hin (no_kw (by decide +kernel))
theorem c_check_all : cSs kwp 60 ⟨N_check_all, (ddOf (top 84)).scope, own, gnm, [], false, false, false, clsn, gdn⟩ (ddOf (top 84)).body = some b_check_all := by
  kernel_rfl
theorem l_check_all (X : K.In h) (G : h.Ns mainGlobals mg) (c : He.SaysD fa fn K) : Lies K mg kwp own gnm clsn gdn "check_all" d_check_all := by
  obtain ⟨fd, F⟩ := c.def_ 30 (d := ddOf (top 84)) rfl
  have sc : FnScope N_check_all ["program", "floor", "standing"] (ddOf (top 84)).scope := C8.fnScope_by (by decide +kernel)
  refine ⟨_, fd, ["program", "floor", "standing"], ⟨⟨_, _, _, N_check_all, [], false, false, 60, fun_of F, sc, rfl, rfl, c_check_all⟩, fun s us hl _ => FunD.bindsA (ps := ["program", "floor", "standing"]) F (fun _ _ _ _ _ _ us hl => ?_) s us hl⟩, He.glo_ok X G (c.fact 30 (f := .glo "check_all") rfl), F.kp, fun n ks perm hin s us ws h1 h2 _ => ?_⟩
  · match us, hl with
    | [_, _, _], _ => rfl
  · exact absurd hin (no_kw (by decide +kernel))
theorem c_beat : cSs kwp 60 ⟨N_beat, (ddOf (top 85)).scope, own, gnm, [], false, false, false, clsn, gdn⟩ (ddOf (top 85)).body = some b_beat := by
  kernel_rfl
theorem l_beat (X : K.In h) (G : h.Ns mainGlobals mg) (c : He.SaysD fa fn K) : Lies K mg kwp own gnm clsn gdn "beat" d_beat := by
  obtain ⟨fd, F⟩ := c.def_ 31 (d := ddOf (top 85)) rfl
  have sc : FnScope N_beat ["program", "floor", "standing", "lot"] (ddOf (top 85)).scope := C8.fnScope_by (by decide +kernel)
  refine ⟨_, fd, ["program", "floor", "standing", "lot"], ⟨⟨_, _, _, N_beat, [], false, false, 60, fun_of F, sc, rfl, rfl, c_beat⟩, fun s us hl _ => FunD.bindsA (ps := ["program", "floor", "standing", "lot"]) F (fun _ _ _ _ _ _ us hl => ?_) s us hl⟩, He.glo_ok X G (c.fact 31 (f := .glo "beat") rfl), F.kp, fun n ks perm hin s us ws h1 h2 _ => ?_⟩
  · match us, hl with
    | [_, _, _, _], _ => rfl
  · exact absurd hin (no_kw (by decide +kernel))
theorem c_run : cSs kwp 60 ⟨N_run, (ddOf (top 86)).scope, own, gnm, [], false, false, false, clsn, gdn⟩ (ddOf (top 86)).body = some b_run := by
  kernel_rfl
theorem l_run (X : K.In h) (G : h.Ns mainGlobals mg) (c : He.SaysD fa fn K) : Lies K mg kwp own gnm clsn gdn "run" d_run := by
  obtain ⟨fd, F⟩ := c.def_ 32 (d := ddOf (top 86)) rfl
  have sc : FnScope N_run ["program", "floor", "standing", "lots"] (ddOf (top 86)).scope := C8.fnScope_by (by decide +kernel)
  refine ⟨_, fd, ["program", "floor", "standing", "lots"], ⟨⟨_, _, _, N_run, [], false, false, 60, fun_of F, sc, rfl, rfl, c_run⟩, fun s us hl _ => FunD.bindsA (ps := ["program", "floor", "standing", "lots"]) F (fun _ _ _ _ _ _ us hl => ?_) s us hl⟩, He.glo_ok X G (c.fact 32 (f := .glo "run") rfl), F.kp, fun n ks perm hin s us ws h1 h2 _ => ?_⟩
  · match us, hl with
    | [_, _, _, _], _ => rfl
  · exact absurd hin (no_kw (by decide +kernel))
theorem c_everybody : cSs kwp 60 ⟨N_everybody, (ddOf (top 87)).scope, own, gnm, [], false, false, false, clsn, gdn⟩ (ddOf (top 87)).body = some b_everybody := by
  kernel_rfl
theorem l_everybody (X : K.In h) (G : h.Ns mainGlobals mg) (c : He.SaysD fa fn K) : Lies K mg kwp own gnm clsn gdn "everybody" d_everybody := by
  obtain ⟨fd, F⟩ := c.def_ 33 (d := ddOf (top 87)) rfl
  have sc : FnScope N_everybody ["many"] (ddOf (top 87)).scope := C8.fnScope_by (by decide +kernel)
  refine ⟨_, fd, ["many"], ⟨⟨_, _, _, N_everybody, [], false, false, 60, fun_of F, sc, rfl, rfl, c_everybody⟩, fun s us hl _ => FunD.bindsA (ps := ["many"]) F (fun _ _ _ _ _ _ us hl => ?_) s us hl⟩, He.glo_ok X G (c.fact 33 (f := .glo "everybody") rfl), F.kp, fun n ks perm hin s us ws h1 h2 _ => ?_⟩
  · match us, hl with
    | [_], _ => rfl
  · exact absurd hin (no_kw (by decide +kernel))
theorem c_left_of : cSs kwp 60 ⟨N_left_of, (ddOf (top 88)).scope, own, gnm, [], false, false, false, clsn, gdn⟩ (ddOf (top 88)).body = some b_left_of := by
  kernel_rfl
theorem l_left_of (X : K.In h) (G : h.Ns mainGlobals mg) (c : He.SaysD fa fn K) : Lies K mg kwp own gnm clsn gdn "left_of" d_left_of := by
  obtain ⟨fd, F⟩ := c.def_ 34 (d := ddOf (top 88)) rfl
  have sc : FnScope N_left_of ["many", "rest", "lot"] (ddOf (top 88)).scope := C8.fnScope_by (by decide +kernel)
  refine ⟨_, fd, ["many", "rest", "lot"], ⟨⟨_, _, _, N_left_of, [], false, false, 60, fun_of F, sc, rfl, rfl, c_left_of⟩, fun s us hl _ => FunD.bindsA (ps := ["many", "rest", "lot"]) F (fun _ _ _ _ _ _ us hl => ?_) s us hl⟩, He.glo_ok X G (c.fact 34 (f := .glo "left_of") rfl), F.kp, fun n ks perm hin s us ws h1 h2 _ => ?_⟩
  · match us, hl with
    | [_, _, _], _ => rfl
  · exact absurd hin (no_kw (by decide +kernel))
theorem c_left_behind : cSs kwp 60 ⟨N_left_behind, (ddOf (top 89)).scope, own, gnm, [], false, false, false, clsn, gdn⟩ (ddOf (top 89)).body = some b_left_behind := by
  kernel_rfl
theorem l_left_behind (X : K.In h) (G : h.Ns mainGlobals mg) (c : He.SaysD fa fn K) : Lies K mg kwp own gnm clsn gdn "left_behind" d_left_behind := by
  obtain ⟨fd, F⟩ := c.def_ 35 (d := ddOf (top 89)) rfl
  have sc : FnScope N_left_behind ["many", "lots"] (ddOf (top 89)).scope := C8.fnScope_by (by decide +kernel)
  refine ⟨_, fd, ["many", "lots"], ⟨⟨_, _, _, N_left_behind, [], false, false, 60, fun_of F, sc, rfl, rfl, c_left_behind⟩, fun s us hl _ => FunD.bindsA (ps := ["many", "lots"]) F (fun _ _ _ _ _ _ us hl => ?_) s us hl⟩, He.glo_ok X G (c.fact 35 (f := .glo "left_behind") rfl), F.kp, fun n ks perm hin s us ws h1 h2 _ => ?_⟩
  · match us, hl with
    | [_, _], _ => rfl
  · exact absurd hin (no_kw (by decide +kernel))
theorem c_is_of_kind : cSs kwp 60 ⟨N_is_of_kind, (ddOf (top 90)).scope, own, gnm, [], false, false, false, clsn, gdn⟩ (ddOf (top 90)).body = some b_is_of_kind := by
  kernel_rfl
theorem l_is_of_kind (X : K.In h) (G : h.Ns mainGlobals mg) (c : He.SaysD fa fn K) : Lies K mg kwp own gnm clsn gdn "is_of_kind" d_is_of_kind := by
  obtain ⟨fd, F⟩ := c.def_ 36 (d := ddOf (top 90)) rfl
  have sc : FnScope N_is_of_kind ["kind", "many", "lots"] (ddOf (top 90)).scope := C8.fnScope_by (by decide +kernel)
  refine ⟨_, fd, ["kind", "many", "lots"], ⟨⟨_, _, _, N_is_of_kind, [], false, false, 60, fun_of F, sc, rfl, rfl, c_is_of_kind⟩, fun s us hl _ => FunD.bindsA (ps := ["kind", "many", "lots"]) F (fun _ _ _ _ _ _ us hl => ?_) s us hl⟩, He.glo_ok X G (c.fact 36 (f := .glo "is_of_kind") rfl), F.kp, fun n ks perm hin s us ws h1 h2 _ => ?_⟩
  · match us, hl with
    | [_, _, _], _ => rfl
  · exact absurd hin (no_kw (by decide +kernel))
theorem c_check_kind : cSs kwp 60 ⟨N_check_kind, (ddOf (top 91)).scope, own, gnm, [], false, false, false, clsn, gdn⟩ (ddOf (top 91)).body = some b_check_kind := by
  kernel_rfl
theorem l_check_kind (X : K.In h) (G : h.Ns mainGlobals mg) (c : He.SaysD fa fn K) : Lies K mg kwp own gnm clsn gdn "check_kind" d_check_kind := by
  obtain ⟨fd, F⟩ := c.def_ 37 (d := ddOf (top 91)) rfl
  have sc : FnScope N_check_kind ["kind"] (ddOf (top 91)).scope := C8.fnScope_by (by decide +kernel)
  refine ⟨_, fd, ["kind"], ⟨⟨_, _, _, N_check_kind, [], false, false, 60, fun_of F, sc, rfl, rfl, c_check_kind⟩, fun s us hl _ => FunD.bindsA (ps := ["kind"]) F (fun _ _ _ _ _ _ us hl => ?_) s us hl⟩, He.glo_ok X G (c.fact 37 (f := .glo "check_kind") rfl), F.kp, fun n ks perm hin s us ws h1 h2 _ => ?_⟩
  · match us, hl with
    | [_], _ => rfl
  · exact absurd hin (no_kw (by decide +kernel))
theorem c_check_many : cSs kwp 60 ⟨N_check_many, (ddOf (top 92)).scope, own, gnm, [], false, false, false, clsn, gdn⟩ (ddOf (top 92)).body = some b_check_many := by
  kernel_rfl
theorem l_check_many (X : K.In h) (G : h.Ns mainGlobals mg) (c : He.SaysD fa fn K) : Lies K mg kwp own gnm clsn gdn "check_many" d_check_many := by
  obtain ⟨fd, F⟩ := c.def_ 38 (d := ddOf (top 92)) rfl
  have sc : FnScope N_check_many ["many"] (ddOf (top 92)).scope := C8.fnScope_by (by decide +kernel)
  refine ⟨_, fd, ["many"], ⟨⟨_, _, _, N_check_many, [], false, false, 60, fun_of F, sc, rfl, rfl, c_check_many⟩, fun s us hl _ => FunD.bindsA (ps := ["many"]) F (fun _ _ _ _ _ _ us hl => ?_) s us hl⟩, He.glo_ok X G (c.fact 38 (f := .glo "check_many") rfl), F.kp, fun n ks perm hin s us ws h1 h2 _ => ?_⟩
  · match us, hl with
    | [_], _ => rfl
  · exact absurd hin (no_kw (by decide +kernel))
theorem c_check_of_kind : cSs kwp 60 ⟨N_check_of_kind, (ddOf (top 93)).scope, own, gnm, [], false, false, false, clsn, gdn⟩ (ddOf (top 93)).body = some b_check_of_kind := by
  kernel_rfl
theorem l_check_of_kind (X : K.In h) (G : h.Ns mainGlobals mg) (c : He.SaysD fa fn K) : Lies K mg kwp own gnm clsn gdn "check_of_kind" d_check_of_kind := by
  obtain ⟨fd, F⟩ := c.def_ 39 (d := ddOf (top 93)) rfl
  have sc : FnScope N_check_of_kind ["kind", "many", "lots"] (ddOf (top 93)).scope := C8.fnScope_by (by decide +kernel)
  refine ⟨_, fd, ["kind", "many", "lots"], ⟨⟨_, _, _, N_check_of_kind, [], false, false, 60, fun_of F, sc, rfl, rfl, c_check_of_kind⟩, fun s us hl _ => FunD.bindsA (ps := ["kind", "many", "lots"]) F (fun _ _ _ _ _ _ us hl => ?_) s us hl⟩, He.glo_ok X G (c.fact 39 (f := .glo "check_of_kind") rfl), F.kp, fun n ks perm hin s us ws h1 h2 _ => ?_⟩
  · match us, hl with
    | [_, _, _], _ => rfl
  · exact absurd hin (no_kw (by decide +kernel))
theorem c_eras : cSs kwp 60 ⟨N_eras, (ddOf (top 94)).scope, own, gnm, ["found"], false, true, false, clsn, gdn⟩ (ddOf (top 94)).body = some b_eras := by
  kernel_rfl
theorem l_eras (X : K.In h) (G : h.Ns mainGlobals mg) (c : He.SaysD fa fn K) : Lies K mg kwp own gnm clsn gdn "eras" d_eras := by
  obtain ⟨fd, F⟩ := c.def_ 40 (d := ddOf (top 94)) rfl
  have sc : FnScope N_eras ["many", "lots"] (ddOf (top 94)).scope := C8.fnScope_by (by decide +kernel)
  refine ⟨_, fd, ["many", "lots"], ⟨⟨_, _, _, N_eras, ["found"], true, false, 60, fun_of F, sc, rfl, rfl, c_eras⟩, fun s us hl _ => FunD.bindsA (ps := ["many", "lots"]) F (fun _ _ _ _ _ _ us hl => ?_) s us hl⟩, He.glo_ok X G (c.fact 40 (f := .glo "eras") rfl), F.kp, fun n ks perm hin s us ws h1 h2 _ => ?_⟩
  · match us, hl with
    | [_, _], _ => rfl
  · exact absurd hin (no_kw (by decide +kernel))
theorem c_left : cSs kwp 60 ⟨N_left, (ddOf (top 95)).scope, own, gnm, [], false, false, false, clsn, gdn⟩ (ddOf (top 95)).body = some b_left := by
  kernel_rfl
theorem l_left (X : K.In h) (G : h.Ns mainGlobals mg) (c : He.SaysD fa fn K) : Lies K mg kwp own gnm clsn gdn "left" d_left := by
  obtain ⟨fd, F⟩ := c.def_ 41 (d := ddOf (top 95)) rfl
  have sc : FnScope N_left ["many", "lots"] (ddOf (top 95)).scope := C8.fnScope_by (by decide +kernel)
  refine ⟨_, fd, ["many", "lots"], ⟨⟨_, _, _, N_left, [], false, false, 60, fun_of F, sc, rfl, rfl, c_left⟩, fun s us hl _ => FunD.bindsA (ps := ["many", "lots"]) F (fun _ _ _ _ _ _ us hl => ?_) s us hl⟩, He.glo_ok X G (c.fact 41 (f := .glo "left") rfl), F.kp, fun n ks perm hin s us ws h1 h2 _ => ?_⟩
  · match us, hl with
    | [_, _], _ => rfl
  · exact absurd hin (no_kw (by decide +kernel))
theorem c_lots_of : cSs kwp 60 ⟨N_lots_of, (ddOf (top 96)).scope, own, gnm, [], false, false, false, clsn, gdn⟩ (ddOf (top 96)).body = some b_lots_of := by
  kernel_rfl
theorem l_lots_of (X : K.In h) (G : h.Ns mainGlobals mg) (c : He.SaysD fa fn K) : Lies K mg kwp own gnm clsn gdn "lots_of" d_lots_of := by
  obtain ⟨fd, F⟩ := c.def_ 42 (d := ddOf (top 96)) rfl
  have sc : FnScope N_lots_of ["walkers"] (ddOf (top 96)).scope := C8.fnScope_by (by decide +kernel)
  refine ⟨_, fd, ["walkers"], ⟨⟨_, _, _, N_lots_of, [], false, false, 60, fun_of F, sc, rfl, rfl, c_lots_of⟩, fun s us hl _ => FunD.bindsA (ps := ["walkers"]) F (fun _ _ _ _ _ _ us hl => ?_) s us hl⟩, He.glo_ok X G (c.fact 42 (f := .glo "lots_of") rfl), F.kp, fun n ks perm hin s us ws h1 h2 _ => ?_⟩
  · match us, hl with
    | [_], _ => rfl
  · exact absurd hin (no_kw (by decide +kernel))
theorem c_lots_next : cSs kwp 60 ⟨N_lots_next, (ddOf (top 97)).scope, own, gnm, [], false, false, false, clsn, gdn⟩ (ddOf (top 97)).body = some b_lots_next := by
  kernel_rfl
theorem l_lots_next (X : K.In h) (G : h.Ns mainGlobals mg) (c : He.SaysD fa fn K) : Lies K mg kwp own gnm clsn gdn "lots_next" d_lots_next := by
  obtain ⟨fd, F⟩ := c.def_ 43 (d := ddOf (top 97)) rfl
  have sc : FnScope N_lots_next ["kind", "many", "rest"] (ddOf (top 97)).scope := C8.fnScope_by (by decide +kernel)
  refine ⟨_, fd, ["kind", "many", "rest"], ⟨⟨_, _, _, N_lots_next, [], false, false, 60, fun_of F, sc, rfl, rfl, c_lots_next⟩, fun s us hl _ => FunD.bindsA (ps := ["kind", "many", "rest"]) F (fun _ _ _ _ _ _ us hl => ?_) s us hl⟩, He.glo_ok X G (c.fact 43 (f := .glo "lots_next") rfl), F.kp, fun n ks perm hin s us ws h1 h2 _ => ?_⟩
  · match us, hl with
    | [_, _, _], _ => rfl
  · exact absurd hin (no_kw (by decide +kernel))
theorem c_next_lots : cSs kwp 60 ⟨N_next_lots, (ddOf (top 98)).scope, own, gnm, [], false, false, false, clsn, gdn⟩ (ddOf (top 98)).body = some b_next_lots := by
  kernel_rfl
theorem l_next_lots (X : K.In h) (G : h.Ns mainGlobals mg) (c : He.SaysD fa fn K) : Lies K mg kwp own gnm clsn gdn "next_lots" d_next_lots := by
  obtain ⟨fd, F⟩ := c.def_ 44 (d := ddOf (top 98)) rfl
  have sc : FnScope N_next_lots ["kind", "many", "lots"] (ddOf (top 98)).scope := C8.fnScope_by (by decide +kernel)
  refine ⟨_, fd, ["kind", "many", "lots"], ⟨⟨_, _, _, N_next_lots, [], false, false, 60, fun_of F, sc, rfl, rfl, c_next_lots⟩, fun s us hl _ => FunD.bindsA (ps := ["kind", "many", "lots"]) F (fun _ _ _ _ _ _ us hl => ?_) s us hl⟩, He.glo_ok X G (c.fact 44 (f := .glo "next_lots") rfl), F.kp, fun n ks perm hin s us ws h1 h2 _ => ?_⟩
  · match us, hl with
    | [_, _, _], _ => rfl
  · exact absurd hin (no_kw (by decide +kernel))
theorem c__law_pot : cSs kwp 60 ⟨N__law_pot, (ddOf (top 100)).scope, own, gnm, [], true, false, false, clsn, gdn⟩ (ddOf (top 100)).body = some b__law_pot := by
  kernel_rfl
theorem l__law_pot (X : K.In h) (G : h.Ns mainGlobals mg) (c : He.SaysD fa fn K) : Lies K mg kwp own gnm clsn gdn "_law_pot" d__law_pot := by
  obtain ⟨fd, F⟩ := c.def_ 45 (d := ddOf (top 100)) rfl
  have sc : FnScope N__law_pot ["script", "place"] (ddOf (top 100)).scope := C8.fnScope_by (by decide +kernel)
  refine ⟨_, fd, ["script", "place"], ⟨⟨_, _, _, N__law_pot, [], false, false, 60, fun_of F, sc, rfl, rfl, c__law_pot⟩, fun s us hl _ => FunD.bindsA (ps := ["script", "place"]) F (fun _ _ _ _ _ _ us hl => ?_) s us hl⟩, He.glo_ok X G (c.fact 45 (f := .glo "_law_pot") rfl), F.kp, fun n ks perm hin s us ws h1 h2 _ => ?_⟩
  · match us, hl with
    | [_, _], _ => rfl
  · exact absurd hin (no_kw (by decide +kernel))
theorem c__law_take : cSs kwp 60 ⟨N__law_take, (ddOf (top 101)).scope, own, gnm, ["pot"], false, false, false, clsn, gdn⟩ (ddOf (top 101)).body = some b__law_take := by
  kernel_rfl
theorem l__law_take (X : K.In h) (G : h.Ns mainGlobals mg) (c : He.SaysD fa fn K) : Lies K mg kwp own gnm clsn gdn "_law_take" d__law_take := by
  obtain ⟨fd, F⟩ := c.def_ 46 (d := ddOf (top 101)) rfl
  have sc : FnScope N__law_take ["pot", "upto"] (ddOf (top 101)).scope := C8.fnScope_by (by decide +kernel)
  refine ⟨_, fd, ["pot", "upto"], ⟨⟨_, _, _, N__law_take, ["pot"], false, false, 60, fun_of F, sc, rfl, rfl, c__law_take⟩, fun s us hl _ => FunD.bindsA (ps := ["pot", "upto"]) F (fun _ _ _ _ _ _ us hl => ?_) s us hl⟩, He.glo_ok X G (c.fact 46 (f := .glo "_law_take") rfl), F.kp, fun n ks perm hin s us ws h1 h2 _ => ?_⟩
  · match us, hl with
    | [_, _], _ => rfl
  · exact absurd hin (no_kw (by decide +kernel))
theorem c__law_of : cSs kwp 60 ⟨N__law_of, (ddOf (top 102)).scope, own, gnm, [], false, false, false, clsn, gdn⟩ (ddOf (top 102)).body = some b__law_of := by
  kernel_rfl
theorem l__law_of (X : K.In h) (G : h.Ns mainGlobals mg) (c : He.SaysD fa fn K) : Lies K mg kwp own gnm clsn gdn "_law_of" d__law_of := by
  obtain ⟨fd, F⟩ := c.def_ 47 (d := ddOf (top 102)) rfl
  have sc : FnScope N__law_of ["pot", "some"] (ddOf (top 102)).scope := C8.fnScope_by (by decide +kernel)
  refine ⟨_, fd, ["pot", "some"], ⟨⟨_, _, _, N__law_of, [], false, false, 60, fun_of F, sc, rfl, rfl, c__law_of⟩, fun s us hl _ => FunD.bindsA (ps := ["pot", "some"]) F (fun _ _ _ _ _ _ us hl => ?_) s us hl⟩, He.glo_ok X G (c.fact 47 (f := .glo "_law_of") rfl), F.kp, fun n ks perm hin s us ws h1 h2 _ => ?_⟩
  · match us, hl with
    | [_, _], _ => rfl
  · exact absurd hin (no_kw (by decide +kernel))
theorem c__law_cells : cSs kwp 60 ⟨N__law_cells, (ddOf (top 103)).scope, own, gnm, [], false, false, false, clsn, gdn⟩ (ddOf (top 103)).body = some b__law_cells := by
  kernel_rfl
theorem l__law_cells (X : K.In h) (G : h.Ns mainGlobals mg) (c : He.SaysD fa fn K) : Lies K mg kwp own gnm clsn gdn "_law_cells" d__law_cells := by
  obtain ⟨fd, F⟩ := c.def_ 48 (d := ddOf (top 103)) rfl
  have sc : FnScope N__law_cells ["script", "limit"] (ddOf (top 103)).scope := C8.fnScope_by (by decide +kernel)
  refine ⟨_, fd, ["script", "limit"], ⟨⟨_, _, _, N__law_cells, [], false, false, 60, fun_of F, sc, rfl, rfl, c__law_cells⟩, fun s us hl _ => FunD.bindsA (ps := ["script", "limit"]) F (fun _ _ _ _ _ _ us hl => ?_) s us hl⟩, He.glo_ok X G (c.fact 48 (f := .glo "_law_cells") rfl), F.kp, fun n ks perm hin s us ws h1 h2 _ => ?_⟩
  · match us, hl with
    | [_, _], _ => rfl
  · exact absurd hin (no_kw (by decide +kernel))
theorem c__law_are_steps_right : cSs kwp 60 ⟨N__law_are_steps_right, (ddOf (top 104)).scope, own, gnm, [], false, false, false, clsn, gdn⟩ (ddOf (top 104)).body = some b__law_are_steps_right := by
  kernel_rfl
theorem l__law_are_steps_right (X : K.In h) (G : h.Ns mainGlobals mg) (c : He.SaysD fa fn K) : Lies K mg kwp own gnm clsn gdn "_law_are_steps_right" d__law_are_steps_right := by
  obtain ⟨fd, F⟩ := c.def_ 49 (d := ddOf (top 104)) rfl
  have sc : FnScope N__law_are_steps_right ["pot"] (ddOf (top 104)).scope := C8.fnScope_by (by decide +kernel)
  refine ⟨_, fd, ["pot"], ⟨⟨_, _, _, N__law_are_steps_right, [], false, false, 60, fun_of F, sc, rfl, rfl, c__law_are_steps_right⟩, fun s us hl _ => FunD.bindsA (ps := ["pot"]) F (fun _ _ _ _ _ _ us hl => ?_) s us hl⟩, He.glo_ok X G (c.fact 49 (f := .glo "_law_are_steps_right") rfl), F.kp, fun n ks perm hin s us ws h1 h2 _ => ?_⟩
  · match us, hl with
    | [_], _ => rfl
  · exact absurd hin (no_kw (by decide +kernel))
theorem c__law_are_exchanges_right : cSs kwp 60 ⟨N__law_are_exchanges_right, (ddOf (top 105)).scope, own, gnm, [], false, false, false, clsn, gdn⟩ (ddOf (top 105)).body = some b__law_are_exchanges_right := by
  kernel_rfl
theorem l__law_are_exchanges_right (X : K.In h) (G : h.Ns mainGlobals mg) (c : He.SaysD fa fn K) : Lies K mg kwp own gnm clsn gdn "_law_are_exchanges_right" d__law_are_exchanges_right := by
  obtain ⟨fd, F⟩ := c.def_ 50 (d := ddOf (top 105)) rfl
  have sc : FnScope N__law_are_exchanges_right ["pot"] (ddOf (top 105)).scope := C8.fnScope_by (by decide +kernel)
  refine ⟨_, fd, ["pot"], ⟨⟨_, _, _, N__law_are_exchanges_right, [], false, false, 60, fun_of F, sc, rfl, rfl, c__law_are_exchanges_right⟩, fun s us hl _ => FunD.bindsA (ps := ["pot"]) F (fun _ _ _ _ _ _ us hl => ?_) s us hl⟩, He.glo_ok X G (c.fact 50 (f := .glo "_law_are_exchanges_right") rfl), F.kp, fun n ks perm hin s us ws h1 h2 _ => ?_⟩
  · match us, hl with
    | [_], _ => rfl
  · exact absurd hin (no_kw (by decide +kernel))
theorem c__law_are_lots_right : cSs kwp 60 ⟨N__law_are_lots_right, (ddOf (top 106)).scope, own, gnm, [], false, false, false, clsn, gdn⟩ (ddOf (top 106)).body = some b__law_are_lots_right := by
  kernel_rfl
theorem l__law_are_lots_right (X : K.In h) (G : h.Ns mainGlobals mg) (c : He.SaysD fa fn K) : Lies K mg kwp own gnm clsn gdn "_law_are_lots_right" d__law_are_lots_right := by
  obtain ⟨fd, F⟩ := c.def_ 51 (d := ddOf (top 106)) rfl
  have sc : FnScope N__law_are_lots_right [] (ddOf (top 106)).scope := C8.fnScope_by (by decide +kernel)
  refine ⟨_, fd, [], ⟨⟨_, _, _, N__law_are_lots_right, [], false, false, 60, fun_of F, sc, rfl, rfl, c__law_are_lots_right⟩, fun s us hl _ => FunD.bindsA (ps := []) F (fun _ _ _ _ _ _ us hl => ?_) s us hl⟩, He.glo_ok X G (c.fact 51 (f := .glo "_law_are_lots_right") rfl), F.kp, fun n ks perm hin s us ws h1 h2 _ => ?_⟩
  · match us, hl with
    | [], _ => rfl
  · exact absurd hin (no_kw (by decide +kernel))
theorem c__law_right : cSs kwp 60 ⟨N__law_right, (ddOf (top 107)).scope, own, gnm, [], false, false, false, clsn, gdn⟩ (ddOf (top 107)).body = some b__law_right := by
  kernel_rfl
theorem l__law_right (X : K.In h) (G : h.Ns mainGlobals mg) (c : He.SaysD fa fn K) : Lies K mg kwp own gnm clsn gdn "_law_right" d__law_right := by
  obtain ⟨fd, F⟩ := c.def_ 52 (d := ddOf (top 107)) rfl
  have sc : FnScope N__law_right ["pot"] (ddOf (top 107)).scope := C8.fnScope_by (by decide +kernel)
  refine ⟨_, fd, ["pot"], ⟨⟨_, _, _, N__law_right, [], false, false, 60, fun_of F, sc, rfl, rfl, c__law_right⟩, fun s us hl _ => FunD.bindsA (ps := ["pot"]) F (fun _ _ _ _ _ _ us hl => ?_) s us hl⟩, He.glo_ok X G (c.fact 52 (f := .glo "_law_right") rfl), F.kp, fun n ks perm hin s us ws h1 h2 _ => ?_⟩
  · match us, hl with
    | [_], _ => rfl
  · exact absurd hin (no_kw (by decide +kernel))
theorem c_law : cSs kwp 60 ⟨N_law, (ddOf (top 108)).scope, own, gnm, [], false, false, false, clsn, gdn⟩ (ddOf (top 108)).body = some b_law := by
  kernel_rfl
theorem l_law (X : K.In h) (G : h.Ns mainGlobals mg) (c : He.SaysD fa fn K) : Lies K mg kwp own gnm clsn gdn "law" d_law := by
  obtain ⟨fd, F⟩ := c.def_ 53 (d := ddOf (top 108)) rfl
  have sc : FnScope N_law ["script"] (ddOf (top 108)).scope := C8.fnScope_by (by decide +kernel)
  refine ⟨_, fd, ["script"], ⟨⟨_, _, _, N_law, [], false, false, 60, fun_of F, sc, rfl, rfl, c_law⟩, fun s us hl _ => FunD.bindsA (ps := ["script"]) F (fun _ _ _ _ _ _ us hl => ?_) s us hl⟩, He.glo_ok X G (c.fact 53 (f := .glo "law") rfl), F.kp, fun n ks perm hin s us ws h1 h2 _ => ?_⟩
  · match us, hl with
    | [_], _ => rfl
  · exact absurd hin (no_kw (by decide +kernel))
theorem c_Reader___init__ : cSs kwp 60 ⟨N_Reader___init__, md_Reader___init__.scope, own, gnm, [], true, false, false, clsn, gdn⟩ md_Reader___init__.body = some b_Reader___init__ := by
  kernel_rfl
theorem l_Reader___init__ (c : He.SaysD fa fn K) : KeyL K kwp own gnm clsn gdn pg "Reader.__init__" (He.ma K (He.ga K "Reader") "__init__") := by
  obtain ⟨fd, F⟩ := c.def_ 54 (d := md_Reader___init__) rfl
  have sc : FnScope N_Reader___init__ ["self", "words", "names"] md_Reader___init__.scope := C8.fnScope_by (by decide +kernel)
  refine ⟨d_Reader___init__, fd, ["self", "words", "names"], by kernel_rfl, ⟨⟨_, _, _, N_Reader___init__, [], false, false, 60, fun_of F, sc, rfl, rfl, c_Reader___init__⟩, fun s us hl _ => FunD.bindsA (ps := ["self", "words", "names"]) F (fun _ _ _ _ _ _ us hl => ?_) s us hl⟩⟩
  match us, hl with
  | [_, _, _], _ => rfl
theorem c_Reader_read : cSs kwp 60 ⟨N_Reader_read, md_Reader_read.scope, own, gnm, ["inner"], false, false, false, clsn, gdn⟩ md_Reader_read.body = some b_Reader_read := by
  kernel_rfl
theorem l_Reader_read (c : He.SaysD fa fn K) : KeyL K kwp own gnm clsn gdn pg "Reader.read" (He.ma K (He.ga K "Reader") "read") := by
  obtain ⟨fd, F⟩ := c.def_ 55 (d := md_Reader_read) rfl
  have sc : FnScope N_Reader_read ["self", "at", "deep"] md_Reader_read.scope := C8.fnScope_by (by decide +kernel)
  refine ⟨d_Reader_read, fd, ["self", "at", "deep"], by kernel_rfl, ⟨⟨_, _, _, N_Reader_read, ["inner"], false, false, 60, fun_of F, sc, rfl, rfl, c_Reader_read⟩, fun s us hl _ => FunD.bindsA (ps := ["self", "at", "deep"]) F (fun _ _ _ _ _ _ us hl => ?_) s us hl⟩⟩
  match us, hl with
  | [_, _, _], _ => rfl
theorem c_Sight___init__ : cSs kwp 60 ⟨N_Sight___init__, md_Sight___init__.scope, own, gnm, [], true, false, false, clsn, gdn⟩ md_Sight___init__.body = some b_Sight___init__ := by
  kernel_rfl
theorem l_Sight___init__ (c : He.SaysD fa fn K) : KeyL K kwp own gnm clsn gdn pg "Sight.__init__" (He.ma K (He.ga K "Sight") "__init__") := by
  obtain ⟨fd, F⟩ := c.def_ 56 (d := md_Sight___init__) rfl
  have sc : FnScope N_Sight___init__ ["self", "floor", "view"] md_Sight___init__.scope := C8.fnScope_by (by decide +kernel)
  refine ⟨d_Sight___init__, fd, ["self", "floor", "view"], by kernel_rfl, ⟨⟨_, _, _, N_Sight___init__, [], false, false, 60, fun_of F, sc, rfl, rfl, c_Sight___init__⟩, fun s us hl _ => FunD.bindsA (ps := ["self", "floor", "view"]) F (fun _ _ _ _ _ _ us hl => ?_) s us hl⟩⟩
  match us, hl with
  | [_, _, _], _ => rfl
theorem c_Sight_cell : cSs kwp 60 ⟨N_Sight_cell, md_Sight_cell.scope, own, gnm, [], false, false, false, clsn, gdn⟩ md_Sight_cell.body = some b_Sight_cell := by
  kernel_rfl
theorem l_Sight_cell (c : He.SaysD fa fn K) : KeyL K kwp own gnm clsn gdn pg "Sight.cell" (He.ma K (He.ga K "Sight") "cell") := by
  obtain ⟨fd, F⟩ := c.def_ 57 (d := md_Sight_cell) rfl
  have sc : FnScope N_Sight_cell ["self", "steps"] md_Sight_cell.scope := C8.fnScope_by (by decide +kernel)
  refine ⟨d_Sight_cell, fd, ["self", "steps"], by kernel_rfl, ⟨⟨_, _, _, N_Sight_cell, [], false, false, 60, fun_of F, sc, rfl, rfl, c_Sight_cell⟩, fun s us hl _ => FunD.bindsA (ps := ["self", "steps"]) F (fun _ _ _ _ _ _ us hl => ?_) s us hl⟩⟩
  match us, hl with
  | [_, _], _ => rfl
theorem c_Sight_others : cSs kwp 60 ⟨N_Sight_others, md_Sight_others.scope, own, gnm, [], false, false, false, clsn, gdn⟩ md_Sight_others.body = some b_Sight_others := by
  kernel_rfl
theorem l_Sight_others (c : He.SaysD fa fn K) : KeyL K kwp own gnm clsn gdn pg "Sight.others" (He.ma K (He.ga K "Sight") "others") := by
  obtain ⟨fd, F⟩ := c.def_ 58 (d := md_Sight_others) rfl
  have sc : FnScope N_Sight_others ["self"] md_Sight_others.scope := C8.fnScope_by (by decide +kernel)
  refine ⟨d_Sight_others, fd, ["self"], by kernel_rfl, ⟨⟨_, _, _, N_Sight_others, [], false, false, 60, fun_of F, sc, rfl, rfl, c_Sight_others⟩, fun s us hl _ => FunD.bindsA (ps := ["self"]) F (fun _ _ _ _ _ _ us hl => ?_) s us hl⟩⟩
  match us, hl with
  | [_], _ => rfl
theorem c_Sight_nearest : cSs kwp 60 ⟨N_Sight_nearest, md_Sight_nearest.scope, own, gnm, [], false, false, false, clsn, gdn⟩ md_Sight_nearest.body = some b_Sight_nearest := by
  kernel_rfl
theorem l_Sight_nearest (c : He.SaysD fa fn K) : KeyL K kwp own gnm clsn gdn pg "Sight.nearest" (He.ma K (He.ga K "Sight") "nearest") := by
  obtain ⟨fd, F⟩ := c.def_ 59 (d := md_Sight_nearest) rfl
  have sc : FnScope N_Sight_nearest ["self", "cells"] md_Sight_nearest.scope := C8.fnScope_by (by decide +kernel)
  refine ⟨d_Sight_nearest, fd, ["self", "cells"], by kernel_rfl, ⟨⟨_, _, _, N_Sight_nearest, [], false, false, 60, fun_of F, sc, rfl, rfl, c_Sight_nearest⟩, fun s us hl _ => FunD.bindsA (ps := ["self", "cells"]) F (fun _ _ _ _ _ _ us hl => ?_) s us hl⟩⟩
  match us, hl with
  | [_, _], _ => rfl
theorem c_Sight_plain : cSs kwp 60 ⟨N_Sight_plain, md_Sight_plain.scope, own, gnm, [], false, false, false, clsn, gdn⟩ md_Sight_plain.body = some b_Sight_plain := by
  kernel_rfl
theorem l_Sight_plain (c : He.SaysD fa fn K) : KeyL K kwp own gnm clsn gdn pg "Sight.plain" (He.ma K (He.ga K "Sight") "plain") := by
  obtain ⟨fd, F⟩ := c.def_ 60 (d := md_Sight_plain) rfl
  have sc : FnScope N_Sight_plain ["self", "word"] md_Sight_plain.scope := C8.fnScope_by (by decide +kernel)
  refine ⟨d_Sight_plain, fd, ["self", "word"], by kernel_rfl, ⟨⟨_, _, _, N_Sight_plain, [], false, false, 60, fun_of F, sc, rfl, rfl, c_Sight_plain⟩, fun s us hl _ => FunD.bindsA (ps := ["self", "word"]) F (fun _ _ _ _ _ _ us hl => ?_) s us hl⟩⟩
  match us, hl with
  | [_, _], _ => rfl
theorem c_Sight_worked : cSs kwp 60 ⟨N_Sight_worked, md_Sight_worked.scope, own, gnm, [], false, false, false, clsn, gdn⟩ md_Sight_worked.body = some b_Sight_worked := by
  kernel_rfl
theorem l_Sight_worked (c : He.SaysD fa fn K) : KeyL K kwp own gnm clsn gdn pg "Sight.worked" (He.ma K (He.ga K "Sight") "worked") := by
  obtain ⟨fd, F⟩ := c.def_ 61 (d := md_Sight_worked) rfl
  have sc : FnScope N_Sight_worked ["self", "expression"] md_Sight_worked.scope := C8.fnScope_by (by decide +kernel)
  refine ⟨d_Sight_worked, fd, ["self", "expression"], by kernel_rfl, ⟨⟨_, _, _, N_Sight_worked, [], false, false, 60, fun_of F, sc, rfl, rfl, c_Sight_worked⟩, fun s us hl _ => FunD.bindsA (ps := ["self", "expression"]) F (fun _ _ _ _ _ _ us hl => ?_) s us hl⟩⟩
  match us, hl with
  | [_, _], _ => rfl
theorem c_Sight_looked : cSs kwp 60 ⟨N_Sight_looked, md_Sight_looked.scope, own, gnm, [], false, false, false, clsn, gdn⟩ md_Sight_looked.body = some b_Sight_looked := by
  kernel_rfl
theorem l_Sight_looked (c : He.SaysD fa fn K) : KeyL K kwp own gnm clsn gdn pg "Sight.looked" (He.ma K (He.ga K "Sight") "looked") := by
  obtain ⟨fd, F⟩ := c.def_ 62 (d := md_Sight_looked) rfl
  have sc : FnScope N_Sight_looked ["self", "word", "some"] md_Sight_looked.scope := C8.fnScope_by (by decide +kernel)
  refine ⟨d_Sight_looked, fd, ["self", "word", "some"], by kernel_rfl, ⟨⟨_, _, _, N_Sight_looked, [], false, false, 60, fun_of F, sc, rfl, rfl, c_Sight_looked⟩, fun s us hl _ => FunD.bindsA (ps := ["self", "word", "some"]) F (fun _ _ _ _ _ _ us hl => ?_) s us hl⟩⟩
  match us, hl with
  | [_, _, _], _ => rfl
theorem c_Lines___init__ : cSs kwp 60 ⟨N_Lines___init__, md_Lines___init__.scope, own, gnm, [], true, false, false, clsn, gdn⟩ md_Lines___init__.body = some b_Lines___init__ := by
  kernel_rfl
theorem l_Lines___init__ (c : He.SaysD fa fn K) : KeyL K kwp own gnm clsn gdn pg "Lines.__init__" (He.ma K (He.ga K "Lines") "__init__") := by
  obtain ⟨fd, F⟩ := c.def_ 63 (d := md_Lines___init__) rfl
  have sc : FnScope N_Lines___init__ ["self"] md_Lines___init__.scope := C8.fnScope_by (by decide +kernel)
  refine ⟨d_Lines___init__, fd, ["self"], by kernel_rfl, ⟨⟨_, _, _, N_Lines___init__, [], false, false, 60, fun_of F, sc, rfl, rfl, c_Lines___init__⟩, fun s us hl _ => FunD.bindsA (ps := ["self"]) F (fun _ _ _ _ _ _ us hl => ?_) s us hl⟩⟩
  match us, hl with
  | [_], _ => rfl
theorem c_Lines_takes : cSs kwp 60 ⟨N_Lines_takes, md_Lines_takes.scope, own, gnm, [], false, false, false, clsn, gdn⟩ md_Lines_takes.body = some b_Lines_takes := by
  kernel_rfl
theorem l_Lines_takes (c : He.SaysD fa fn K) : KeyL K kwp own gnm clsn gdn pg "Lines.takes" (He.ma K (He.ga K "Lines") "takes") := by
  obtain ⟨fd, F⟩ := c.def_ 64 (d := md_Lines_takes) rfl
  have sc : FnScope N_Lines_takes ["self", "line"] md_Lines_takes.scope := C8.fnScope_by (by decide +kernel)
  refine ⟨d_Lines_takes, fd, ["self", "line"], by kernel_rfl, ⟨⟨_, _, _, N_Lines_takes, [], false, false, 60, fun_of F, sc, rfl, rfl, c_Lines_takes⟩, fun s us hl _ => FunD.bindsA (ps := ["self", "line"]) F (fun _ _ _ _ _ _ us hl => ?_) s us hl⟩⟩
  match us, hl with
  | [_, _], _ => rfl
theorem c_Lines_takes_marks : cSs kwp 60 ⟨N_Lines_takes_marks, md_Lines_takes_marks.scope, own, gnm, [], false, false, false, clsn, gdn⟩ md_Lines_takes_marks.body = some b_Lines_takes_marks := by
  kernel_rfl
theorem l_Lines_takes_marks (c : He.SaysD fa fn K) : KeyL K kwp own gnm clsn gdn pg "Lines.takes_marks" (He.ma K (He.ga K "Lines") "takes_marks") := by
  obtain ⟨fd, F⟩ := c.def_ 65 (d := md_Lines_takes_marks) rfl
  have sc : FnScope N_Lines_takes_marks ["self", "words"] md_Lines_takes_marks.scope := C8.fnScope_by (by decide +kernel)
  refine ⟨d_Lines_takes_marks, fd, ["self", "words"], by kernel_rfl, ⟨⟨_, _, _, N_Lines_takes_marks, [], false, false, 60, fun_of F, sc, rfl, rfl, c_Lines_takes_marks⟩, fun s us hl _ => FunD.bindsA (ps := ["self", "words"]) F (fun _ _ _ _ _ _ us hl => ?_) s us hl⟩⟩
  match us, hl with
  | [_, _], _ => rfl
theorem c_Lines_takes_let : cSs kwp 60 ⟨N_Lines_takes_let, md_Lines_takes_let.scope, own, gnm, [], false, false, false, clsn, gdn⟩ md_Lines_takes_let.body = some b_Lines_takes_let := by
  kernel_rfl
theorem l_Lines_takes_let (c : He.SaysD fa fn K) : KeyL K kwp own gnm clsn gdn pg "Lines.takes_let" (He.ma K (He.ga K "Lines") "takes_let") := by
  obtain ⟨fd, F⟩ := c.def_ 66 (d := md_Lines_takes_let) rfl
  have sc : FnScope N_Lines_takes_let ["self", "words"] md_Lines_takes_let.scope := C8.fnScope_by (by decide +kernel)
  refine ⟨d_Lines_takes_let, fd, ["self", "words"], by kernel_rfl, ⟨⟨_, _, _, N_Lines_takes_let, [], false, false, 60, fun_of F, sc, rfl, rfl, c_Lines_takes_let⟩, fun s us hl _ => FunD.bindsA (ps := ["self", "words"]) F (fun _ _ _ _ _ _ us hl => ?_) s us hl⟩⟩
  match us, hl with
  | [_, _], _ => rfl
theorem c_Program___init__ : cSs kwp 60 ⟨N_Program___init__, md_Program___init__.scope, own, gnm, [], true, false, false, clsn, gdn⟩ md_Program___init__.body = some b_Program___init__ := by
  kernel_rfl
theorem l_Program___init__ (c : He.SaysD fa fn K) : KeyL K kwp own gnm clsn gdn pg "Program.__init__" (He.ma K (He.ga K "Program") "__init__") := by
  obtain ⟨fd, F⟩ := c.def_ 67 (d := md_Program___init__) rfl
  have sc : FnScope N_Program___init__ ["self", "text"] md_Program___init__.scope := C8.fnScope_by (by decide +kernel)
  refine ⟨d_Program___init__, fd, ["self", "text"], by kernel_rfl, ⟨⟨_, _, _, N_Program___init__, [], false, false, 60, fun_of F, sc, rfl, rfl, c_Program___init__⟩, fun s us hl _ => FunD.bindsA (ps := ["self", "text"]) F (fun _ _ _ _ _ _ us hl => ?_) s us hl⟩⟩
  match us, hl with
  | [_, _], _ => rfl
theorem c_Program___eq__ : cSs kwp 60 ⟨N_Program___eq__, md_Program___eq__.scope, own, gnm, [], false, false, false, clsn, gdn⟩ md_Program___eq__.body = some b_Program___eq__ := by
  kernel_rfl
theorem l_Program___eq__ (c : He.SaysD fa fn K) : KeyL K kwp own gnm clsn gdn pg "Program.__eq__" (He.ma K (He.ga K "Program") "__eq__") := by
  obtain ⟨fd, F⟩ := c.def_ 68 (d := md_Program___eq__) rfl
  have sc : FnScope N_Program___eq__ ["self", "other"] md_Program___eq__.scope := C8.fnScope_by (by decide +kernel)
  refine ⟨d_Program___eq__, fd, ["self", "other"], by kernel_rfl, ⟨⟨_, _, _, N_Program___eq__, [], false, false, 60, fun_of F, sc, rfl, rfl, c_Program___eq__⟩, fun s us hl _ => FunD.bindsA (ps := ["self", "other"]) F (fun _ _ _ _ _ _ us hl => ?_) s us hl⟩⟩
  match us, hl with
  | [_, _], _ => rfl
theorem c_Program_text : cSs kwp 60 ⟨N_Program_text, md_Program_text.scope, own, gnm, [], false, false, false, clsn, gdn⟩ md_Program_text.body = some b_Program_text := by
  kernel_rfl
theorem l_Program_text {w : World} (c : SaysE fa fn (tabsOf gdts) gt ex w K) : KeyL K kwp own gnm clsn gdn pg "Program.text" (prA K ("Program", some "text")) := by
  obtain ⟨fd, F⟩ := c.get 0 (d := md_Program_text) rfl
  have sc : FnScope N_Program_text ["self"] md_Program_text.scope := C8.fnScope_by (by decide +kernel)
  refine ⟨d_Program_text, fd, ["self"], by kernel_rfl, ⟨⟨_, _, _, N_Program_text, [], false, false, 60, fun_of F, sc, rfl, rfl, c_Program_text⟩, fun s us hl _ => FunD.bindsA (ps := ["self"]) F (fun _ _ _ _ _ _ us hl => ?_) s us hl⟩⟩
  match us, hl with
  | [_], _ => rfl
theorem c_Program_marks : cSs kwp 60 ⟨N_Program_marks, md_Program_marks.scope, own, gnm, [], false, false, false, clsn, gdn⟩ md_Program_marks.body = some b_Program_marks := by
  kernel_rfl
theorem l_Program_marks {w : World} (c : SaysE fa fn (tabsOf gdts) gt ex w K) : KeyL K kwp own gnm clsn gdn pg "Program.marks" (prA K ("Program", some "marks")) := by
  obtain ⟨fd, F⟩ := c.get 1 (d := md_Program_marks) rfl
  have sc : FnScope N_Program_marks ["self"] md_Program_marks.scope := C8.fnScope_by (by decide +kernel)
  refine ⟨d_Program_marks, fd, ["self"], by kernel_rfl, ⟨⟨_, _, _, N_Program_marks, [], false, false, 60, fun_of F, sc, rfl, rfl, c_Program_marks⟩, fun s us hl _ => FunD.bindsA (ps := ["self"]) F (fun _ _ _ _ _ _ us hl => ?_) s us hl⟩⟩
  match us, hl with
  | [_], _ => rfl
theorem lm {w : World} (c : SaysE fa fn (tabsOf gdts) gt ex w K) : ∀ p ∈ pg.cls, ∀ q ∈ p.2.mth, KeyL K kwp own gnm clsn gdn pg q.2 (He.ma K (He.ga K p.1) q.1) := by
  show ∀ p ∈ clsT, _
  unfold clsT
  refine List.forall_mem_cons.mpr ⟨List.forall_mem_cons.mpr ⟨l_Reader_read c.t.d, fun _ h => absurd h (by simp)⟩, ?_⟩
  refine List.forall_mem_cons.mpr ⟨List.forall_mem_cons.mpr ⟨l_Sight_cell c.t.d, List.forall_mem_cons.mpr ⟨l_Sight_others c.t.d, List.forall_mem_cons.mpr ⟨l_Sight_nearest c.t.d, List.forall_mem_cons.mpr ⟨l_Sight_plain c.t.d, List.forall_mem_cons.mpr ⟨l_Sight_worked c.t.d, List.forall_mem_cons.mpr ⟨l_Sight_looked c.t.d, fun _ h => absurd h (by simp)⟩⟩⟩⟩⟩⟩, ?_⟩
  refine List.forall_mem_cons.mpr ⟨List.forall_mem_cons.mpr ⟨l_Lines_takes c.t.d, List.forall_mem_cons.mpr ⟨l_Lines_takes_marks c.t.d, List.forall_mem_cons.mpr ⟨l_Lines_takes_let c.t.d, fun _ h => absurd h (by simp)⟩⟩⟩, ?_⟩
  refine List.forall_mem_cons.mpr ⟨List.forall_mem_cons.mpr ⟨l_Program___eq__ c.t.d, fun _ h => absurd h (by simp)⟩, ?_⟩
  exact fun _ h => absurd h (by simp)
theorem lp {w : World} (c : SaysE fa fn (tabsOf gdts) gt ex w K) : ∀ p ∈ pg.cls, ∀ q ∈ p.2.prp, KeyL K kwp own gnm clsn gdn pg q.2 (prA K (p.1, some q.1)) := by
  show ∀ p ∈ clsT, _
  unfold clsT
  refine List.forall_mem_cons.mpr ⟨fun _ h => absurd h (by simp), ?_⟩
  refine List.forall_mem_cons.mpr ⟨fun _ h => absurd h (by simp), ?_⟩
  refine List.forall_mem_cons.mpr ⟨fun _ h => absurd h (by simp), ?_⟩
  refine List.forall_mem_cons.mpr ⟨List.forall_mem_cons.mpr ⟨l_Program_text c, List.forall_mem_cons.mpr ⟨l_Program_marks c, fun _ h => absurd h (by simp)⟩⟩, ?_⟩
  exact fun _ h => absurd h (by simp)
theorem li {w : World} (c : SaysE fa fn (tabsOf gdts) gt ex w K) : ∀ p ∈ pg.cls, ∀ key, p.2.ini = some key → KeyL K kwp own gnm clsn gdn pg key (He.ma K (He.ga K p.1) "__init__") := by
  show ∀ p ∈ clsT, _
  unfold clsT
  refine List.forall_mem_cons.mpr ⟨fun key e => by cases e; exact l_Reader___init__ c.t.d, ?_⟩
  refine List.forall_mem_cons.mpr ⟨fun key e => by cases e; exact l_Sight___init__ c.t.d, ?_⟩
  refine List.forall_mem_cons.mpr ⟨fun key e => by cases e; exact l_Lines___init__ c.t.d, ?_⟩
  refine List.forall_mem_cons.mpr ⟨fun key e => by cases e; exact l_Program___init__ c.t.d, ?_⟩
  exact fun _ h => absurd h (by simp)
theorem cls_lie {w : World} (X : K.In h) (G : h.Ns mainGlobals mg) (c : SaysE fa fn (tabsOf gdts) gt ex w K) : ClsL K w mg kwp own gnm clsn gdn pg := by
  have e := Bool.and_eq_true_iff.mp c.x
  have e2 := Bool.and_eq_true_iff.mp e.2
  exact clsL_of (fa := fa) (fn := fn) X G e2.1 e2.2 c.t (lm c) (lp c) (li c) (by kernel_rfl) (by kernel_rfl)
theorem all_lie (X : K.In h) (G : h.Ns mainGlobals mg) (c : He.SaysD fa fn K) : ∀ x ∈ own, ∃ d, pg.defs.lookup x = some d ∧ Lies K mg kwp own gnm clsn gdn x d := by
  unfold own
  refine List.forall_mem_cons.mpr ⟨⟨d_is_whole, by kernel_rfl, l_is_whole X G c⟩, ?_⟩
  refine List.forall_mem_cons.mpr ⟨⟨d_is_integer, by kernel_rfl, l_is_integer X G c⟩, ?_⟩
  refine List.forall_mem_cons.mpr ⟨⟨d_is_tuple, by kernel_rfl, l_is_tuple X G c⟩, ?_⟩
  refine List.forall_mem_cons.mpr ⟨⟨d_is_said, by kernel_rfl, l_is_said X G c⟩, ?_⟩
  refine List.forall_mem_cons.mpr ⟨⟨d_is_ascending, by kernel_rfl, l_is_ascending X G c⟩, ?_⟩
  refine List.forall_mem_cons.mpr ⟨⟨d_is_floor, by kernel_rfl, l_is_floor X G c⟩, ?_⟩
  refine List.forall_mem_cons.mpr ⟨⟨d_check_floor, by kernel_rfl, l_check_floor X G c⟩, ?_⟩
  refine List.forall_mem_cons.mpr ⟨⟨d_is_sense, by kernel_rfl, l_is_sense X G c⟩, ?_⟩
  refine List.forall_mem_cons.mpr ⟨⟨d_is_stand, by kernel_rfl, l_is_stand X G c⟩, ?_⟩
  refine List.forall_mem_cons.mpr ⟨⟨d_is_standing, by kernel_rfl, l_is_standing X G c⟩, ?_⟩
  refine List.forall_mem_cons.mpr ⟨⟨d_check_standing, by kernel_rfl, l_check_standing X G c⟩, ?_⟩
  refine List.forall_mem_cons.mpr ⟨⟨d_is_lot, by kernel_rfl, l_is_lot X G c⟩, ?_⟩
  refine List.forall_mem_cons.mpr ⟨⟨d_check_lot, by kernel_rfl, l_check_lot X G c⟩, ?_⟩
  refine List.forall_mem_cons.mpr ⟨⟨d_is_lots, by kernel_rfl, l_is_lots X G c⟩, ?_⟩
  refine List.forall_mem_cons.mpr ⟨⟨d_check_lots, by kernel_rfl, l_check_lots X G c⟩, ?_⟩
  refine List.forall_mem_cons.mpr ⟨⟨d_whole_in, by kernel_rfl, l_whole_in X G c⟩, ?_⟩
  refine List.forall_mem_cons.mpr ⟨⟨d_integer_in, by kernel_rfl, l_integer_in X G c⟩, ?_⟩
  refine List.forall_mem_cons.mpr ⟨⟨d_place_at, by kernel_rfl, l_place_at X G c⟩, ?_⟩
  refine List.forall_mem_cons.mpr ⟨⟨d_moved_to, by kernel_rfl, l_moved_to X G c⟩, ?_⟩
  refine List.forall_mem_cons.mpr ⟨⟨d_cell_of, by kernel_rfl, l_cell_of X G c⟩, ?_⟩
  refine List.forall_mem_cons.mpr ⟨⟨d_cells_of, by kernel_rfl, l_cells_of X G c⟩, ?_⟩
  refine List.forall_mem_cons.mpr ⟨⟨d_view_of, by kernel_rfl, l_view_of X G c⟩, ?_⟩
  refine List.forall_mem_cons.mpr ⟨⟨d_expression_in, by kernel_rfl, l_expression_in X G c⟩, ?_⟩
  refine List.forall_mem_cons.mpr ⟨⟨d_is_free_name, by kernel_rfl, l_is_free_name X G c⟩, ?_⟩
  refine List.forall_mem_cons.mpr ⟨⟨d_lines_in, by kernel_rfl, l_lines_in X G c⟩, ?_⟩
  refine List.forall_mem_cons.mpr ⟨⟨d_check_program, by kernel_rfl, l_check_program X G c⟩, ?_⟩
  refine List.forall_mem_cons.mpr ⟨⟨d_sign_of, by kernel_rfl, l_sign_of X G c⟩, ?_⟩
  refine List.forall_mem_cons.mpr ⟨⟨d_thought_of, by kernel_rfl, l_thought_of X G c⟩, ?_⟩
  refine List.forall_mem_cons.mpr ⟨⟨d_beat_of, by kernel_rfl, l_beat_of X G c⟩, ?_⟩
  refine List.forall_mem_cons.mpr ⟨⟨d_run_of, by kernel_rfl, l_run_of X G c⟩, ?_⟩
  refine List.forall_mem_cons.mpr ⟨⟨d_check_all, by kernel_rfl, l_check_all X G c⟩, ?_⟩
  refine List.forall_mem_cons.mpr ⟨⟨d_beat, by kernel_rfl, l_beat X G c⟩, ?_⟩
  refine List.forall_mem_cons.mpr ⟨⟨d_run, by kernel_rfl, l_run X G c⟩, ?_⟩
  refine List.forall_mem_cons.mpr ⟨⟨d_everybody, by kernel_rfl, l_everybody X G c⟩, ?_⟩
  refine List.forall_mem_cons.mpr ⟨⟨d_left_of, by kernel_rfl, l_left_of X G c⟩, ?_⟩
  refine List.forall_mem_cons.mpr ⟨⟨d_left_behind, by kernel_rfl, l_left_behind X G c⟩, ?_⟩
  refine List.forall_mem_cons.mpr ⟨⟨d_is_of_kind, by kernel_rfl, l_is_of_kind X G c⟩, ?_⟩
  refine List.forall_mem_cons.mpr ⟨⟨d_check_kind, by kernel_rfl, l_check_kind X G c⟩, ?_⟩
  refine List.forall_mem_cons.mpr ⟨⟨d_check_many, by kernel_rfl, l_check_many X G c⟩, ?_⟩
  refine List.forall_mem_cons.mpr ⟨⟨d_check_of_kind, by kernel_rfl, l_check_of_kind X G c⟩, ?_⟩
  refine List.forall_mem_cons.mpr ⟨⟨d_eras, by kernel_rfl, l_eras X G c⟩, ?_⟩
  refine List.forall_mem_cons.mpr ⟨⟨d_left, by kernel_rfl, l_left X G c⟩, ?_⟩
  refine List.forall_mem_cons.mpr ⟨⟨d_lots_of, by kernel_rfl, l_lots_of X G c⟩, ?_⟩
  refine List.forall_mem_cons.mpr ⟨⟨d_lots_next, by kernel_rfl, l_lots_next X G c⟩, ?_⟩
  refine List.forall_mem_cons.mpr ⟨⟨d_next_lots, by kernel_rfl, l_next_lots X G c⟩, ?_⟩
  refine List.forall_mem_cons.mpr ⟨⟨d__law_pot, by kernel_rfl, l__law_pot X G c⟩, ?_⟩
  refine List.forall_mem_cons.mpr ⟨⟨d__law_take, by kernel_rfl, l__law_take X G c⟩, ?_⟩
  refine List.forall_mem_cons.mpr ⟨⟨d__law_of, by kernel_rfl, l__law_of X G c⟩, ?_⟩
  refine List.forall_mem_cons.mpr ⟨⟨d__law_cells, by kernel_rfl, l__law_cells X G c⟩, ?_⟩
  refine List.forall_mem_cons.mpr ⟨⟨d__law_are_steps_right, by kernel_rfl, l__law_are_steps_right X G c⟩, ?_⟩
  refine List.forall_mem_cons.mpr ⟨⟨d__law_are_exchanges_right, by kernel_rfl, l__law_are_exchanges_right X G c⟩, ?_⟩
  refine List.forall_mem_cons.mpr ⟨⟨d__law_are_lots_right, by kernel_rfl, l__law_are_lots_right X G c⟩, ?_⟩
  refine List.forall_mem_cons.mpr ⟨⟨d__law_right, by kernel_rfl, l__law_right X G c⟩, ?_⟩
  refine List.forall_mem_cons.mpr ⟨⟨d_law, by kernel_rfl, l_law X G c⟩, ?_⟩
  exact fun _ h => absurd h (by simp)
theorem names_free (X : K.In h) (G : h.Ns mainGlobals mg) (c : He.SaysD fa fn K) : ∀ x ∈ bltNames, x ∉ own → mg x = none := fun x hx _ =>
  He.free_ok X G (c.facts (f := .free x) (List.mem_append_right _ (List.mem_map.mpr ⟨x, hx, rfl⟩)))
theorem glb_ok (X : K.In h) (G : h.Ns mainGlobals mg) (c : ex K = true) : ∀ x ∈ gnm, ∀ d, pg.glbs.lookup x = some d → ∃ v u, mg x = some u ∧ RelV v u ∧ ∀ H M μ, Rep K H M μ d v := glbB_ok X G (Bool.and_eq_true_iff.mp c).1
end
end Lw
section
open PySem PySem.W PySem.Calls PyProof.Rows
/-- the row, from the evaluator's answer -/
theorem hold_of (hs : ∀ ns : List Int, ns.length ≤ 63 → (∀ k ∈ ns, Builtin.Int.intBits k ≤ 1048576) → ∃ S, Ev.callN Lw.pg 1000 40 "law" [.frl (ns.map Ev.D.int)] [] = .ok (.bl true) S) : PySem.Challenge.rw_onestillview_k15_beats_by_hand.Holds := by
  w_on; o_law
  refine HandSHeadRun.head_any (r := OpenLaw.row PySem.Challenge.rw_onestillview_k15_beats_by_hand) (q := view (OpenLaw.row PySem.Challenge.rw_onestillview_k15_beats_by_hand).prog [108]) (H := Lw.hk) (ob := Lw.ob) (M := 20000) (loose := Lw.loose) (d := HandSHeadRun.topDef (OpenLaw.row PySem.Challenge.rw_onestillview_k15_beats_by_hand).prog 108) (kwd := []) Lw.ob_eq
    (by kernel_rfl) (fun s => by kernel_rfl) Lw.run (by kernel_rfl) (by kernel_rfl) (by kernel_rfl) (by rfl) (by first | assumption | decide +kernel) (by decide +kernel) ⟨rfl, rfl, rfl, rfl, rfl, by decide +kernel⟩ ?hw ?hc
  case hw => w_witness2
  case hc =>
    refine Ev.walkG (l := PySem.Challenge.rw_onestillview_k15_beats_by_hand) (n := 63) (kwp := Lw.kwp) (own := Lw.own) (pg := Lw.pg) (wf := 1000) (glb := Lw.gnm) (cls := Lw.clsn) (gdt := Lw.gdn) (k := 40) rfl (by decide) (by kernel_rfl) ⟨rfl, by decide, by decide⟩ (by decide +kernel) ?F hs
    intro w h mg Y G
    obtain ⟨K, KX, c⟩ := Y
    exact ⟨K, KX, Lw.all_lie KX G c.t.d, Lw.names_free KX G c.t.d, Lw.glb_ok KX G c.x, Lw.cls_lie KX G c⟩
end

namespace Lw
open PySem Ev
variable {n : Nat} {S : Ev.Sto}
theorem all_set {S : Ev.Sto} {o : O} {p k : Nat} (h : S.all (O.bel k) = true) (ho : o.bel k = true) : (S.set p o).all (O.bel k) = true := by
  rw [List.all_eq_true] at h ⊢
  intro x hx
  rcases List.mem_or_eq_of_mem_set hx with z | rfl
  · exact h x z
  · exact ho
theorem W_outg {S S1 : Ev.Sto} {i : Int} {Q : Ev.D → Ev.Sto → Prop} (hl : S1.length = S.length) (hg : S1.all (O.bel S.length) = true) (q : Q (.int i) S1) : W (outGc false S (.int i) S1) Q := by
  have e : S1.take S.length = S1 := List.take_of_length_le (by omega)
  have g : gcv S.length S1 (.int i) = some (.int i) := rfl
  unfold outGc
  rw [if_neg (by decide), g]
  dsimp only
  rw [e, if_pos hg]
  exact q
/-- a body's end, told -/
def fin (l : Nat) (r : R Fl) : Option (Ev.D × Ev.Sto) := match r with
  | .ok (.rt v) S => some (v, S.take l)
  | _ => none
theorem W_fin {S : Ev.Sto} {r : R Fl} {v : Ev.D} {S' : Ev.Sto} {Q : Ev.D → Ev.Sto → Prop} (h : fin S.length r = some (v, S')) (hv : v.bel 0 = true) (hS : S'.all (O.bel S.length) = true) (q : Q v S') : W r fun fl S1 => ∃ v, flV fl = some v ∧ W (outGc false S v S1) Q := by
  unfold fin at h
  split at h
  · rename_i w S1
    have h := Option.some.inj h
    have h1 : w = v := congrArg (·.1) h
    have h2 : S1.take S.length = S' := congrArg (·.2) h
    subst h1 h2
    refine ⟨w, rfl, ?_⟩
    have g : gcv S.length S1 w = some w := by
      unfold gcv
      rw [if_pos (bel_up hv)]
    unfold outGc
    rw [if_neg (by decide), g]
    dsimp only
    rw [if_pos hS]
    exact q
  · cases h
theorem W_eq {Γ : Gam} {s : CS} {r : CSs} {σ σ' : Sl} {S S' : Ev.Sto} {Q : Fl → Ev.Sto → Prop} (h : evS Γ s σ S = .ok (.nx σ') S') (h2 : W (evSs Γ r σ' S') Q) : W (evSs Γ (.cons s r) σ S) Q := W_seq σ' S' (by rw [h]; exact ⟨rfl, rfl⟩) h2
/-- a pot fit to draw from, so many draws on -/
def Pt (m : Nat) (a b c : Int) : Prop := 0 ≤ a ∧ 0 ≤ b ∧ b < 2 ^ 62 ∧ 0 ≤ c ∧ c ≤ m
theorem Pt.mono {m k : Nat} {a b c : Int} (h : Pt m a b c) (hm : m ≤ k) : Pt k a b c := ⟨h.1, h.2.1, h.2.2.1, h.2.2.2.1, by have := h.2.2.2.2; omega⟩
theorem take_w {p : Nat} {a b c u : Int} (hC : S.all (O.bel S.length) = true) (hS : S[p]? = some (pt a b c)) (ha : 0 ≤ a) (hb : 0 ≤ b) (hb2 : b < 2 ^ 62) (hc : 0 ≤ c) (hc2 : c < 2 ^ 40) (hu : 0 < u) (hu2 : u < 2 ^ 60) :
    W (callN pg 1000 (n + 1) "_law_take" [.loc p, .int u] S) fun v S' => ∃ a' c' i : Int, v = .int i ∧ 0 ≤ i ∧ i < u ∧ S' = S.set p (pt a' b c') ∧ 0 ≤ a' ∧ 0 ≤ c' ∧ c' ≤ c + 1 := by
  refine call_gc (d := d__law_take) (by kernel_rfl) rfl rfl ?_
  have e0 : ∀ x y z : Ev.D, L2.atI [x, y, z] 0 = some x := fun _ _ _ => rfl
  have e1 : ∀ x y z : Ev.D, L2.atI [x, y, z] 1 = some y := fun _ _ _ => rfl
  have e2 : ∀ x y z : Ev.D, L2.atI [x, y, z] 2 = some z := fun _ _ _ => rfl
  have hp : p < S.length := (List.getElem?_eq_some_iff.mp hS).1
  have hs : ∀ o, (S.set p o)[p]? = some o := fun o => List.getElem?_set_self hp
  have hl := lg_u hu hu2
  have l5 : 5 ≤ line := by decide
  have i0 : L2.ixN 3 0 = some 0 := rfl
  have i2 : L2.ixN 3 2 = some 2 := rfl
  by_cases h : 0 < a
  · simp only [b__law_take, List.replicate, List.map, List.cons_append, List.nil_append, List.getElem?_cons_zero, List.getElem?_cons_succ, List.set_cons_zero, List.set_cons_succ, List.length_cons, List.length_nil, evSs, evS, evT, evE, evEs, evAs, evF, evO, R.bind, R.of, W_ok, idxD, ixD, deref, Option.map_some, cmpD, truD, bltD, binD, bindT, bindTs, setD, flV, Option.some.injEq, exists_eq_left', exists_eq_left, if_true, if_false, ite_true, ite_false, reduceIte, decide_true, decide_false, reduceCtorEq, Nat.reduceAdd, Nat.reduceSub, hS, e0, i0, h, b_mod hu, b_fdiv hu hl]
    refine W_outg (by simp) (all_set hC rfl) ⟨a / u, c, a % u, rfl, Int.emod_nonneg _ (by omega), Int.emod_lt_of_pos _ hu, rfl, Int.ediv_nonneg ha (by omega), hc, by omega⟩
  · obtain ⟨pr, hpr, hpr0, hprB⟩ := at5 (p0 := 2147483647) (p1 := 2147483629) (p2 := 2147483587) (p3 := 2147483579) (p4 := 2147483563) (B := 2 ^ 62) (by decide) (c + 1)
    have hX := quad (K := 100389) (k := 1251) (x := c + 1) hb hb2 (by omega) (by omega) (by decide) (by decide) (by decide) (by decide)
    obtain ⟨Z, hZ⟩ := b_pow (e := 3) hX (by decide) (by decide)
    have hY : (Z % pr).natAbs < 2 ^ 64 := by
      have h1 := Int.emod_nonneg Z (show pr ≠ 0 by omega)
      have h2 := Int.emod_lt_of_pos Z hpr0
      omega
    have m1 : ∀ x, intB .mul 100389 x = some (100389 * x) := fun x => b_mul (mulL (by decide))
    have m2 : ∀ x, intB .mul x (c + 1) = some (x * (c + 1)) := fun x => b_mul (mulR (by omega))
    have m3 : ∀ x, intB .mul 453 x = some (453 * x) := fun x => b_mul (mulL (by decide))
    have m4 : ∀ x, intB .mul (Z % pr) x = some (Z % pr * x) := fun x => b_mul (mulL hY)
    have d5 : ∀ x, intB .mod x 5 = some (x % 5) := fun x => b_mod (by decide)
    have d6 : ∀ x, intB .mod x 10967 = some (x % 10967) := fun x => b_mod (by decide)
    have d7 : ∀ x, intB .fdiv x 269 = some (x / 269) := fun x => b_fdiv (by decide) (by decide +kernel)
    simp only [b__law_take, List.replicate, List.map, List.cons_append, List.nil_append, List.getElem?_cons_zero, List.getElem?_cons_succ, List.set_cons_zero, List.set_cons_succ, List.length_cons, List.length_nil, evSs, evS, evT, evE, evEs, evAs, evF, evO, R.bind, R.of, W_ok, idxD, ixD, deref, Option.map_some, cmpD, truD, bltD, binD, bindT, bindTs, setD, flV, Option.some.injEq, exists_eq_left', exists_eq_left, if_true, if_false, ite_true, ite_false, reduceIte, decide_true, decide_false, reduceCtorEq, Nat.reduceAdd, Nat.reduceSub, l5, hS, hs, e0, e1, e2, i0, i2, h, hpr, hZ, b_add, b_mod hu, b_mod hpr0, m1, m2, m3, m4, d5, d6, d7]
    refine W_outg (by simp) (all_set hC rfl) ⟨a, c + 1, _, rfl, Int.emod_nonneg _ (by omega), Int.emod_lt_of_pos _ hu, rfl, ha, by omega, by omega⟩
theorem take_k {p m : Nat} {a b c u : Int} (hC : S.all (O.bel S.length) = true) (hS : S[p]? = some (pt a b c)) (h : Pt m a b c) (hm : m < 2 ^ 30) (hu : 0 < u) (hu2 : u < 2 ^ 60) :
    ∃ a' c' i : Int, callN pg 1000 (n + 1) "_law_take" [.loc p, .int u] S = .ok (.int i) (S.set p (pt a' b c')) ∧ 0 ≤ i ∧ i < u ∧ Pt (m + 1) a' b c' := by
  obtain ⟨h1, h2, h3, h4, h5⟩ := h
  obtain ⟨v, S1, e, a', c', i, rfl, i0, i1, rfl, q1, q2, q3⟩ := W_get (take_w (n := n) hC hS h1 h2 h3 h4 (by omega) hu hu2)
  exact ⟨a', c', i, e, i0, i1, q1, h2, h3, q2, by omega⟩
theorem of_k {p m : Nat} {a b c : Int} {l : List Ev.D} (hC : S.all (O.bel S.length) = true) (hS : S[p]? = some (pt a b c)) (h : Pt m a b c) (hm : m < 2 ^ 30) (hl : 0 < l.length) (hl2 : l.length < 2 ^ 30) (hb : belL 0 l = true) :
    ∃ (a' c' : Int) (d : Ev.D), callN pg 1000 (n + 2) "_law_of" [.loc p, .frl l] S = .ok d (S.set p (pt a' b c')) ∧ d ∈ l ∧ Pt (m + 1) a' b c' := by
  obtain ⟨a', c', i, e, i0, i1, h'⟩ := take_k (n := n) (u := (l.length : Int)) hC hS h hm (by omega) (by omega)
  obtain ⟨d, e1, e2, _⟩ := nd_mem i0 i1
  have hd : d ∈ l := List.mem_of_getElem? e2
  have hdb : d.bel 0 = true := bel_mem hb hd
  have q : W (callN pg 1000 (n + 2) "_law_of" [.loc p, .frl l] S) fun v S' => v = d ∧ S' = S.set p (pt a' b c') := by
    refine call_gc (d := d__law_of) (by kernel_rfl) (by simp [belL, Ev.D.bel]) rfl ?_
    simp only [b__law_of, List.replicate, List.map, List.cons_append, List.nil_append, List.getElem?_cons_zero, List.getElem?_cons_succ, List.set_cons_zero, List.set_cons_succ, List.length_cons, List.length_nil, List.append, evSs, evS, evT, evE, evEs, evAs, evF, evO, evI, evIf, evAnd, evOr, W_bind, W_ok, W_some, idxD, ixD, deref, Option.map_some, cmpD, truD, bltD, binD, tyD, bindT, bindTs, setD, flV, Option.some.injEq, exists_eq_left', exists_eq_left, if_true, if_false, ite_true, ite_false, reduceIte, decide_true, decide_false, reduceCtorEq, Nat.reduceAdd, Nat.reduceSub, Bool.not_true, Bool.not_false, Bool.false_eq_true, or_true, or_false, and_true, true_and, false_or, true_or, List.length_append, ln0, ln1, ln2, ln3, ln4, ln5, ln6, ln7, ln8, ln9, ln10, ln11, ln12, ln13, ln14, ln15, e, e1]
    unfold outGc
    have g : gcv S.length (S.set p (pt a' b c')) d = some d := by
      unfold gcv
      rw [if_pos (bel_up hdb)]
    rw [if_neg (by decide), g]
    dsimp only
    rw [List.take_of_length_le (by simp), if_pos (all_set hC rfl)]
    exact ⟨rfl, rfl⟩
  obtain ⟨v, S1, e3, rfl, rfl⟩ := W_get q
  exact ⟨a', c', v, e3, hd, h'⟩
/-- what a law may assume of the pot -/
theorem pot_p {ns : List Int} {pl : Nat} (hp : pl < ns.length ∨ ns = [] ∧ pl = 0) (hpl : pl < 1000) :
    W (callN pg 1000 (n + 1) "_law_pot" [.frl (ns.map Ev.D.int), .int pl] S) fun v S' => v = .loc S.length ∧ ∃ a b : Int, Pt 0 a b 0 ∧ S' = S ++ [pt a b 0] := by
  have hb : belL 0 (ns.map Ev.D.int) = true := bel_of fun d hd => by
    obtain ⟨k, _, rfl⟩ := List.mem_map.mp hd
    rfl
  refine call_pure (d := d__law_pot) (by kernel_rfl) (by simp [belL, Ev.D.bel, hb]) rfl ?_
  obtain ⟨A, B, C, pw1, pw2, big, pw3⟩ : ∃ A B C : Int, intB .pow 10 60 = some A ∧ intB .pow A 5 = some B ∧ 0 < B ∧ intB .pow 10 18 = some C := ⟨10 ^ 60, 10 ^ 300, 10 ^ 18, by decide +kernel, by decide +kernel, by decide +kernel, by decide +kernel⟩
  have d1 : ∀ x, intB .mod x 1000003 = some (x % 1000003) := fun x => b_mod (by decide)
  have d2 : ∀ x, intB .mod x B = some (x % B) := fun x => b_mod big
  have d3 : ∀ x, intB .mod x 2305843009213693951 = some (x % 2305843009213693951) := fun x => b_mod (by decide)
  have d4 : ∀ x, intB .mod x 2305843009213693921 = some (x % 2305843009213693921) := fun x => b_mod (by decide)
  have m1 : ∀ x y : Int, y.natAbs < 2 ^ 64 → intB .mul x y = some (x * y) := fun x y h => b_mul (mulR h)
  have mp : ∀ x : Int, intB .mul x (pl : Int) = some (x * (pl : Int)) := fun x => m1 _ _ (by omega)
  have mq : ∀ x : Int, intB .mul x 85871 = some (x * 85871) := fun x => m1 _ _ (by decide)
  have mr : ∀ (x : Int) (b : Bool), intB .mul x (if b = true then 1 else 0) = some (x * (if b = true then 1 else 0)) := fun x b => m1 _ _ (by cases b <;> decide)
  have fin : ∀ (a c : Int), 0 ≤ a → W (outPure true S (.loc 0) [O.lst [.int a, .int (c % 2305843009213693921), .int 0]]) fun v S' => v = .loc S.length ∧ ∃ a b : Int, Pt 0 a b 0 ∧ S' = S ++ [pt a b 0] := fun a c q0 => by
    unfold outPure
    rw [if_pos rfl]
    have q1 := Int.emod_nonneg c (show (2305843009213693921 : Int) ≠ 0 by decide)
    have q2 := Int.emod_lt_of_pos c (show (0 : Int) < 2305843009213693921 by decide)
    generalize c % 2305843009213693921 = c' at q1 q2
    exact ⟨by simp [Ev.D.shf], a, c', ⟨q0, q1, by omega, by decide, by decide⟩, by simp [O.shf, shfL, Ev.D.shf]⟩
  obtain ⟨z, hz⟩ : ∃ z : Int, (L2.atI (ns.map Ev.D.int) (pl : Int) = some (.int z) ∧ decide ((pl : Int) < ((ns.map Ev.D.int).length : Nat)) = true) ∨ (ns = [] ∧ pl = 0 ∧ z = 0 % 1000003 + 1451 * ((0 : Nat) : Int) + 1121) := by
    rcases hp with hp | ⟨h1, h2⟩
    · obtain ⟨d, e1, e2, _⟩ := nd_mem (l := ns.map Ev.D.int) (i := (pl : Int)) (by omega) (by simp; omega)
      obtain ⟨z, _, rfl⟩ := List.mem_map.mp (List.mem_of_getElem? e2)
      exact ⟨z, .inl ⟨e1, decide_eq_true (by simp; omega)⟩⟩
    · exact ⟨_, .inr ⟨h1, h2, rfl⟩⟩

  simp only [b__law_pot, List.map, List.length_cons, List.length_nil, Nat.reduceAdd, Nat.reduceSub, List.replicate, List.cons_append, List.nil_append]
  refine W_seq [some (.frl (ns.map Ev.D.int)), some (.int pl), some (.int z), none, none] [] ?_ ?_
  · rcases hz with ⟨e1, lt⟩ | ⟨rfl, rfl, e1⟩
    · simp only [List.replicate, List.map, List.cons_append, List.nil_append, List.getElem?_cons_zero, List.getElem?_cons_succ, List.set_cons_zero, List.set_cons_succ, List.length_cons, List.length_nil, List.append, evSs, evS, evT, evE, evEs, evAs, evF, evO, evI, evIf, evAnd, evOr, W_bind, W_ok, W_some, idxD, ixD, deref, Option.map_some, cmpD, truD, bltD, binD, tyD, bindT, bindTs, setD, flV, Option.some.injEq, exists_eq_left', exists_eq_left, if_true, if_false, ite_true, ite_false, reduceIte, decide_true, decide_false, reduceCtorEq, Nat.reduceAdd, Nat.reduceSub, Bool.not_true, Bool.not_false, Bool.false_eq_true, or_true, or_false, and_true, true_and, false_or, true_or, List.length_append, ln0, ln1, ln2, ln3, ln4, ln5, ln6, ln7, ln8, ln9, ln10, ln11, ln12, ln13, ln14, ln15, ltD, lt, e1]
    · have lt0 : decide (((0 : Nat) : Int) < ((0 : Nat) : Int)) = false := by decide
      have sl0 : slcD [] (.frl []) none (some 1) = some (.frl []) := rfl
      have is0 : intsD [] = some [] := rfl
      simp only [List.replicate, List.map, List.cons_append, List.nil_append, List.getElem?_cons_zero, List.getElem?_cons_succ, List.set_cons_zero, List.set_cons_succ, List.length_cons, List.length_nil, List.append, evSs, evS, evT, evE, evEs, evAs, evF, evO, evI, evIf, evAnd, evOr, W_bind, W_ok, W_some, idxD, ixD, deref, Option.map_some, cmpD, truD, bltD, binD, tyD, bindT, bindTs, setD, flV, Option.some.injEq, exists_eq_left', exists_eq_left, if_true, if_false, ite_true, ite_false, reduceIte, decide_true, decide_false, reduceCtorEq, Nat.reduceAdd, Nat.reduceSub, Bool.not_true, Bool.not_false, Bool.false_eq_true, or_true, or_false, and_true, true_and, false_or, true_or, List.length_append, ln0, ln1, ln2, ln3, ln4, ln5, ln6, ln7, ln8, ln9, ln10, ln11, ln12, ln13, ln14, ln15, ltD, lt0, sl0, is0, List.sum_nil, d1, mp, m1, b_add]
      rw [e1]
  obtain ⟨a, ha⟩ : ∃ a : Int, a = (if z < 0 then -z else z) := ⟨_, rfl⟩
  refine W_seq [some (.frl (ns.map Ev.D.int)), some (.int pl), some (.int z), some (.int (a % B * (if decide (C ≤ a) = true then 1 else 0))), none] [] ?_ ?_
  · simp only [List.replicate, List.map, List.cons_append, List.nil_append, List.getElem?_cons_zero, List.getElem?_cons_succ, List.set_cons_zero, List.set_cons_succ, List.length_cons, List.length_nil, List.append, evSs, evS, evT, evE, evEs, evAs, evF, evO, evI, evIf, evAnd, evOr, W_bind, W_ok, W_some, idxD, ixD, deref, Option.map_some, cmpD, truD, bltD, binD, tyD, bindT, bindTs, setD, flV, Option.some.injEq, exists_eq_left', exists_eq_left, if_true, if_false, ite_true, ite_false, reduceIte, decide_true, decide_false, reduceCtorEq, Nat.reduceAdd, Nat.reduceSub, Bool.not_true, Bool.not_false, Bool.false_eq_true, or_true, or_false, and_true, true_and, false_or, true_or, List.length_append, ln0, ln1, ln2, ln3, ln4, ln5, ln6, ln7, ln8, ln9, ln10, ln11, ln12, ln13, ln14, ln15, pw1, pw2, pw3, d2, mr, ← ha]
  have q0 : 0 ≤ a % B * (if decide (C ≤ a) = true then 1 else 0) := Int.mul_nonneg (Int.emod_nonneg _ (Int.ne_of_gt big)) (by cases decide (C ≤ a) <;> decide)
  generalize a % B * (if decide (C ≤ a) = true then 1 else 0) = own at q0
  refine W_seq [some (.frl (ns.map Ev.D.int)), some (.int pl), some (.int z), some (.int own), some (.int (z % 2305843009213693951))] [] ?_ ?_
  · simp only [List.replicate, List.map, List.cons_append, List.nil_append, List.getElem?_cons_zero, List.getElem?_cons_succ, List.set_cons_zero, List.set_cons_succ, List.length_cons, List.length_nil, List.append, evSs, evS, evT, evE, evEs, evAs, evF, evO, evI, evIf, evAnd, evOr, W_bind, W_ok, W_some, idxD, ixD, deref, Option.map_some, cmpD, truD, bltD, binD, tyD, bindT, bindTs, setD, flV, Option.some.injEq, exists_eq_left', exists_eq_left, if_true, if_false, ite_true, ite_false, reduceIte, decide_true, decide_false, reduceCtorEq, Nat.reduceAdd, Nat.reduceSub, Bool.not_true, Bool.not_false, Bool.false_eq_true, or_true, or_false, and_true, true_and, false_or, true_or, List.length_append, ln0, ln1, ln2, ln3, ln4, ln5, ln6, ln7, ln8, ln9, ln10, ln11, ln12, ln13, ln14, ln15, d3]
  generalize z % 2305843009213693951 = w
  simp only [List.replicate, List.map, List.cons_append, List.nil_append, List.getElem?_cons_zero, List.getElem?_cons_succ, List.set_cons_zero, List.set_cons_succ, List.length_cons, List.length_nil, List.append, evSs, evS, evT, evE, evEs, evAs, evF, evO, evI, evIf, evAnd, evOr, W_bind, W_ok, W_some, idxD, ixD, deref, Option.map_some, cmpD, truD, bltD, binD, tyD, bindT, bindTs, setD, flV, Option.some.injEq, exists_eq_left', exists_eq_left, if_true, if_false, ite_true, ite_false, reduceIte, decide_true, decide_false, reduceCtorEq, Nat.reduceAdd, Nat.reduceSub, Bool.not_true, Bool.not_false, Bool.false_eq_true, or_true, or_false, and_true, true_and, false_or, true_or, List.length_append, ln0, ln1, ln2, ln3, ln4, ln5, ln6, ln7, ln8, ln9, ln10, ln11, ln12, ln13, ln14, ln15, d4, mp, mq, m1, b_add]
  exact fin _ _ q0
theorem cells_p {ns : List Int} (hn : ns.length ≤ 63) : ∃ k : Nat, 1 ≤ k ∧ k ≤ 2 ∧ (k ≤ ns.length ∨ ns = [] ∧ k = 1) ∧ callN pg 1000 (n + 1) "_law_cells" [.frl (ns.map Ev.D.int), .int 2] S = .ok (.frl (rngL 0 k)) S := by
  have hb : belL 0 (ns.map Ev.D.int) = true := bel_of fun d hd => by
    obtain ⟨k, _, rfl⟩ := List.mem_map.mp hd
    rfl
  have arith : ∀ L : Nat, ∃ k : Nat, (k : Int) = (if (if (L : Int) < 2 then (L : Int) else 2) > 1 then (if (L : Int) < 2 then (L : Int) else 2) else 1) ∧ 1 ≤ k ∧ k ≤ 2 ∧ (k ≤ L ∨ L = 0 ∧ k = 1) := fun L => by
    refine ⟨max 1 (min 2 L), ?_, by omega, by omega, by omega⟩
    by_cases h : (L : Int) < 2
    · rw [if_pos h]
      by_cases h1 : (L : Int) > 1
      · rw [if_pos h1]; omega
      · rw [if_neg h1]; omega
    · rw [if_neg h, if_pos (by decide)]; omega
  obtain ⟨k, e, h1, h2, h3⟩ := arith (ns.map Ev.D.int).length
  rw [List.length_map] at h3
  have h3 : k ≤ ns.length ∨ ns = [] ∧ k = 1 := h3.imp id fun h => ⟨List.length_eq_zero_iff.mp h.1, h.2⟩
  refine ⟨k, h1, h2, h3, ?_⟩
  have rg : rngOk 0 (k : Int) = true := by
    unfold rngOk
    simp only [Bool.and_eq_true, decide_eq_true_eq]
    refine ⟨⟨by decide, by omega⟩, by omega⟩
  refine call_data (d := d__law_cells) (by kernel_rfl) (by simp [belL, Ev.D.bel, hb]) rfl rfl ?_ ?_
  · simp only [b__law_cells, List.replicate, List.map, List.cons_append, List.nil_append, List.getElem?_cons_zero, List.getElem?_cons_succ, List.set_cons_zero, List.set_cons_succ, List.length_cons, List.length_nil, List.append, evSs, evS, evT, evE, evEs, evAs, evF, evO, evI, evIf, evAnd, evOr, W_bind, W_ok, W_some, idxD, ixD, deref, Option.map_some, cmpD, truD, bltD, binD, tyD, bindT, bindTs, setD, flV, Option.some.injEq, exists_eq_left', exists_eq_left, if_true, if_false, ite_true, ite_false, reduceIte, decide_true, decide_false, reduceCtorEq, Nat.reduceAdd, Nat.reduceSub, Bool.not_true, Bool.not_false, Bool.false_eq_true, or_true, or_false, and_true, true_and, false_or, true_or, List.length_append, ln0, ln1, ln2, ln3, ln4, ln5, ln6, ln7, ln8, ln9, ln10, ln11, ln12, ln13, ln14, ln15, ← e, rg]
  · show belL 0 _ = true
    refine bel_of fun d hd => ?_
    obtain ⟨j, _, rfl⟩ := List.mem_map.mp hd
    rfl
/-- pots of the cells before -/
def Pots (j : Nat) (S : Ev.Sto) : Prop := S.length = j ∧ ∀ o ∈ S, ∃ a b c : Int, o = pt a b c
/-- one cell's check sees its own pot alone -/
theorem right_sub {S : Ev.Sto} {f : PySem.Str} {d : Ev.Def} {a b c a' b' c' : Int} {j : Nat} (hP : Pots j S) (hl : pg.defs.lookup f = some d) (hs : d.sub = true) (hn : d.par = 1)
    (h : W (evSs (gam pg 1000 n) d.body (some (.loc 0) :: List.replicate (d.loc - 1) none) [pt a b c]) fun fl S1 => flV fl = some (.bl true) ∧ S1 = [pt a' b' c']) : W (callN pg 1000 (n + 1) f [.loc j] (S ++ [pt a b c])) fun v S' => v = .bl true ∧ S' = S ++ [pt a' b' c'] := by
  have hj : S.length = j := hP.1
  have g : (S ++ [pt a b c])[j]? = some (pt a b c) := by rw [← hj]; simp
  have r : rch (S ++ [pt a b c]) 500 (locsL [.loc j]) [] = [j] := by
    simp [rch, locsL, Ev.D.locs, g, O.ds]
  refine call_sub (idx := [j]) hl rfl hs r ?_ (by rw [hn]; rfl) ?_
  · simp [subOk, ndN, fitL, Ev.D.fit, g, O.ds]
  · have s : subSto (S ++ [pt a b c]) [j] = [pt a b c] := by
      simp [subSto, g, O.ren, renL, Ev.D.ren]
    rw [s]
    have z : (renL (posN [j]) [Ev.D.loc j]).map some = [some (.loc 0)] := by simp [renL, Ev.D.ren, posN]
    rw [z]
    refine h.mono fun fl S1 ⟨e1, e2⟩ => ⟨.bl true, e1, ?_⟩
    subst e2
    unfold outSub
    have gv : gcv [j].length [pt a' b' c'] (.bl true) = some (.bl true) := rfl
    rw [gv]
    dsimp only
    rw [if_pos (by rfl)]
    refine ⟨rfl, ?_⟩
    show (S ++ [pt a b c]).set j _ = _
    rw [List.set_append_right _ _ (by omega), hj]
    simp [O.ren, renL, Ev.D.ren]
theorem law_k {lev : Nat} (right : ∀ (S : Ev.Sto) (a b : Int) (j : Nat), Pots j S → Pt 0 a b 0 → ∃ a' b' c', callN pg 1000 (lev + 1) "_law_right" [.loc j] (S ++ [pt a b 0]) = .ok (.bl true) (S ++ [pt a' b' c'])) {ns : List Int} (hn : ns.length ≤ 63) :
    ∃ S, callN pg 1000 (lev + 2) "law" [.frl (ns.map Ev.D.int)] [] = .ok (.bl true) S := by
  have hb : belL 0 (ns.map Ev.D.int) = true := bel_of fun d hd => by
    obtain ⟨k, _, rfl⟩ := List.mem_map.mp hd
    rfl
  obtain ⟨k, k1, k2, k3, hc⟩ := cells_p (n := lev) (S := []) hn
  refine ⟨[], call_data (d := d_law) (by kernel_rfl) (by simp [belL, hb, Ev.D.bel]) rfl rfl ?_ rfl⟩
  simp only [b_law, List.replicate, List.map, List.cons_append, List.nil_append, List.getElem?_cons_zero, List.getElem?_cons_succ, List.set_cons_zero, List.set_cons_succ, List.length_cons, List.length_nil, List.append, evSs, evS, evT, evE, evEs, evAs, evF, evO, evI, evIf, evAnd, evOr, W_bind, W_ok, W_some, idxD, ixD, deref, Option.map_some, cmpD, truD, bltD, binD, tyD, bindT, bindTs, setD, flV, Option.some.injEq, exists_eq_left', exists_eq_left, if_true, if_false, ite_true, ite_false, reduceIte, decide_true, decide_false, reduceCtorEq, Nat.reduceAdd, Nat.reduceSub, Bool.not_true, Bool.not_false, Bool.false_eq_true, or_true, or_false, and_true, true_and, false_or, true_or, List.length_append, ln0, ln1, ln2, ln3, ln4, ln5, ln6, ln7, ln8, ln9, ln10, ln11, ln12, ln13, ln14, ln15, hc, seqD, srcG]
  refine cmpL_w (fun j acc S => Pots j S ∧ acc = List.replicate j (.bl true)) (i := 0) ⟨⟨rfl, fun o ho => by simp at ho⟩, rfl⟩ (fun _ _ _ _ => rfl) (by simp [rngL, line]; omega) ?_ ?_
  · rintro j d acc S hj ⟨hC, rfl⟩
    rw [Nat.zero_add] at hC ⊢
    have hjk : j < k := by
      have := (List.getElem?_eq_some_iff.mp hj).1
      simpa [rngL] using this
    have ed : d = .int (j : Nat) := by
      have : (rngL 0 k)[j]? = some (.int (j : Nat)) := by
        unfold rngL
        rw [List.getElem?_map, List.getElem?_range (by omega)]
        simp
      rw [this] at hj
      exact (Option.some.inj hj).symm
    subst ed
    simp only [List.replicate, List.map, List.cons_append, List.nil_append, List.getElem?_cons_zero, List.getElem?_cons_succ, List.set_cons_zero, List.set_cons_succ, List.length_cons, List.length_nil, List.append, evSs, evS, evT, evE, evEs, evAs, evF, evO, evI, evIf, evAnd, evOr, W_bind, W_ok, W_some, idxD, ixD, deref, Option.map_some, cmpD, truD, bltD, binD, tyD, bindT, bindTs, setD, flV, Option.some.injEq, exists_eq_left', exists_eq_left, if_true, if_false, ite_true, ite_false, reduceIte, decide_true, decide_false, reduceCtorEq, Nat.reduceAdd, Nat.reduceSub, Bool.not_true, Bool.not_false, Bool.false_eq_true, or_true, or_false, and_true, true_and, false_or, true_or, List.length_append, ln0, ln1, ln2, ln3, ln4, ln5, ln6, ln7, ln8, ln9, ln10, ln11, ln12, ln13, ln14, ln15, wip]
    refine (pot_p (n := lev) (ns := ns) (pl := j) (k3.elim (fun h => .inl (by omega)) fun h => .inr ⟨h.1, by omega⟩) (by omega)).mono ?_
    rintro v S1 ⟨rfl, a, b, hP, rfl⟩
    obtain ⟨a', b', c', e⟩ := right S a b j hC hP
    rw [hC.1, e]
    refine ⟨⟨by simp [hC.1], fun o ho => ?_⟩, by rw [← List.replicate_succ', List.replicate_succ]⟩
    rcases List.mem_append.mp ho with h | h
    · exact hC.2 o h
    · exact ⟨a', b', c', by simpa using h⟩
  · rintro acc S ⟨_, rfl⟩
    have : ∀ m, boolsD (List.replicate m (.bl true)) = some (List.replicate m true) := fun m => by
      induction m with
      | zero => rfl
      | succ m ih => simp [List.replicate_succ, boolsD, ih]
    have al : ∀ m, (List.replicate m true).all id = true := fun m => List.all_eq_true.mpr fun b hb => by simpa using (List.eq_of_mem_replicate hb)
    simp only [List.replicate, List.map, List.cons_append, List.nil_append, List.getElem?_cons_zero, List.getElem?_cons_succ, List.set_cons_zero, List.set_cons_succ, List.length_cons, List.length_nil, List.append, evSs, evS, evT, evE, evEs, evAs, evF, evO, evI, evIf, evAnd, evOr, W_bind, W_ok, W_some, idxD, ixD, deref, Option.map_some, cmpD, truD, bltD, binD, tyD, bindT, bindTs, setD, flV, Option.some.injEq, exists_eq_left', exists_eq_left, if_true, if_false, ite_true, ite_false, reduceIte, decide_true, decide_false, reduceCtorEq, Nat.reduceAdd, Nat.reduceSub, Bool.not_true, Bool.not_false, Bool.false_eq_true, or_true, or_false, and_true, true_and, false_or, true_or, List.length_append, ln0, ln1, ln2, ln3, ln4, ln5, ln6, ln7, ln8, ln9, ln10, ln11, ln12, ln13, ln14, ln15, this, al]
end Lw

namespace Lw
open PySem Ev
def hdS : CSs → CS
  | .cons s _ => s
  | .nil => .pas
def tlS : CSs → CSs
  | .cons _ r => r
  | .nil => .nil
theorem W_hd {Γ : Gam} {b : CSs} {σ σ' : Sl} {S S' : Ev.Sto} {Q : Fl → Ev.Sto → Prop} (e : b = .cons (hdS b) (tlS b)) (h : evS Γ (hdS b) σ S = .ok (.nx σ') S') (h2 : W (evSs Γ (tlS b) σ' S') Q) : W (evSs Γ b σ S) Q := by
  rw [e]
  exact W_eq h h2

def T1_0 : Ev.Sto := [.ins "Program" [("own_text", .str "marks 2\nstep 1\nmark same mine 0"), ("own_marks", .int 2), ("own_lets", .loc 4), ("own_step", .tup [.str "number", .int 1]), ("own_mark", .tup [.str "same", .tup [.str "mine"], .tup [.str "number", .int 0]])], .ins "Lines" [("own_marks", .int 2), ("own_names", .loc 3), ("own_lets", .loc 4), ("own_step", .tup [.str "number", .int 1]), ("own_mark", .tup [.str "same", .tup [.str "mine"], .tup [.str "number", .int 0]])], .lst [], .lst []]
def T2_0 : Ev.Sto := [.ins "Program" [("own_text", .str lit__law_are_exchanges_right), ("own_marks", .int 1), ("own_lets", .loc 4), ("own_step", .tup [.str "pick", .tup [.str "same", .tup [.str "ahead"], .tup [.str "number", .int 1]], .tup [.str "pick", .tup [.str "same", .tup [.str "behind"], .tup [.str "number", .int 1]], .tup [.str "number", .int 0], .tup [.str "number", .int (-1)]], .tup [.str "number", .int 1]]), ("own_mark", .tup [.str "number", .int 0])], .ins "Lines" [("own_marks", .int 1), ("own_names", .loc 3), ("own_lets", .loc 4), ("own_step", .tup [.str "pick", .tup [.str "same", .tup [.str "ahead"], .tup [.str "number", .int 1]], .tup [.str "pick", .tup [.str "same", .tup [.str "behind"], .tup [.str "number", .int 1]], .tup [.str "number", .int 0], .tup [.str "number", .int (-1)]], .tup [.str "number", .int 1]]), ("own_mark", .tup [.str "number", .int 0])], .lst [], .lst []]
theorem s0_rest0_0_0 {x y z a b c : Int} :
    fin 1 (evSs (gam pg 1000 37) (tlS (tlS b__law_are_steps_right)) [some (.loc 0), some (.loc 1), some (.int (3 + 0)), some (.int 0), some (.int 0), none, none, none, none, none, none, none, none] (pt a b c :: T1_0)) = some (.bl true, [pt a b c]) := by
  kernel_rfl
theorem s0_rest0_0_1 {x y z a b c : Int} :
    fin 1 (evSs (gam pg 1000 37) (tlS (tlS b__law_are_steps_right)) [some (.loc 0), some (.loc 1), some (.int (3 + 0)), some (.int 0), some (.int 1), none, none, none, none, none, none, none, none] (pt a b c :: T1_0)) = some (.bl true, [pt a b c]) := by
  kernel_rfl
theorem s0_rest0_0 {x y z a b c k : Int} (k0 : 0 ≤ k) (k1 : k < 2) :
    fin 1 (evSs (gam pg 1000 37) (tlS (tlS b__law_are_steps_right)) [some (.loc 0), some (.loc 1), some (.int (3 + 0)), some (.int 0), some (.int k), none, none, none, none, none, none, none, none] (pt a b c :: T1_0)) = some (.bl true, [pt a b c]) := by
  have hk : k = 0 ∨ k = 1 := by omega
  rcases hk with rfl | rfl
  · exact s0_rest0_0_0 (x := x) (y := y) (z := z)
  · exact s0_rest0_0_1 (x := x) (y := y) (z := z)
theorem s0_rest0_1_0 {x y z a b c : Int} :
    fin 1 (evSs (gam pg 1000 37) (tlS (tlS b__law_are_steps_right)) [some (.loc 0), some (.loc 1), some (.int (3 + 0)), some (.int 1), some (.int 0), none, none, none, none, none, none, none, none] (pt a b c :: T1_0)) = some (.bl true, [pt a b c]) := by
  kernel_rfl
theorem s0_rest0_1_1 {x y z a b c : Int} :
    fin 1 (evSs (gam pg 1000 37) (tlS (tlS b__law_are_steps_right)) [some (.loc 0), some (.loc 1), some (.int (3 + 0)), some (.int 1), some (.int 1), none, none, none, none, none, none, none, none] (pt a b c :: T1_0)) = some (.bl true, [pt a b c]) := by
  kernel_rfl
theorem s0_rest0_1 {x y z a b c k : Int} (k0 : 0 ≤ k) (k1 : k < 2) :
    fin 1 (evSs (gam pg 1000 37) (tlS (tlS b__law_are_steps_right)) [some (.loc 0), some (.loc 1), some (.int (3 + 0)), some (.int 1), some (.int k), none, none, none, none, none, none, none, none] (pt a b c :: T1_0)) = some (.bl true, [pt a b c]) := by
  have hk : k = 0 ∨ k = 1 := by omega
  rcases hk with rfl | rfl
  · exact s0_rest0_1_0 (x := x) (y := y) (z := z)
  · exact s0_rest0_1_1 (x := x) (y := y) (z := z)
theorem s0_rest0_2_0 {x y z a b c : Int} :
    fin 1 (evSs (gam pg 1000 37) (tlS (tlS b__law_are_steps_right)) [some (.loc 0), some (.loc 1), some (.int (3 + 0)), some (.int 2), some (.int 0), none, none, none, none, none, none, none, none] (pt a b c :: T1_0)) = some (.bl true, [pt a b c]) := by
  kernel_rfl
theorem s0_rest0_2_1 {x y z a b c : Int} :
    fin 1 (evSs (gam pg 1000 37) (tlS (tlS b__law_are_steps_right)) [some (.loc 0), some (.loc 1), some (.int (3 + 0)), some (.int 2), some (.int 1), none, none, none, none, none, none, none, none] (pt a b c :: T1_0)) = some (.bl true, [pt a b c]) := by
  kernel_rfl
theorem s0_rest0_2 {x y z a b c k : Int} (k0 : 0 ≤ k) (k1 : k < 2) :
    fin 1 (evSs (gam pg 1000 37) (tlS (tlS b__law_are_steps_right)) [some (.loc 0), some (.loc 1), some (.int (3 + 0)), some (.int 2), some (.int k), none, none, none, none, none, none, none, none] (pt a b c :: T1_0)) = some (.bl true, [pt a b c]) := by
  have hk : k = 0 ∨ k = 1 := by omega
  rcases hk with rfl | rfl
  · exact s0_rest0_2_0 (x := x) (y := y) (z := z)
  · exact s0_rest0_2_1 (x := x) (y := y) (z := z)
theorem s0_rest0 {x y z a b c j k : Int} (j0 : 0 ≤ j) (j1 : j < 3 + 0) (k0 : 0 ≤ k) (k1 : k < 2) :
    fin 1 (evSs (gam pg 1000 37) (tlS (tlS b__law_are_steps_right)) [some (.loc 0), some (.loc 1), some (.int (3 + 0)), some (.int j), some (.int k), none, none, none, none, none, none, none, none] (pt a b c :: T1_0)) = some (.bl true, [pt a b c]) := by
  have hj : j = 0 ∨ j = 1 ∨ j = 2 := by omega
  rcases hj with rfl | rfl | rfl
  · exact s0_rest0_0 (x := x) (y := y) (z := z) k0 k1
  · exact s0_rest0_1 (x := x) (y := y) (z := z) k0 k1
  · exact s0_rest0_2 (x := x) (y := y) (z := z) k0 k1
theorem s0_rest1_0_0 {x y z a b c : Int} :
    fin 1 (evSs (gam pg 1000 37) (tlS (tlS b__law_are_steps_right)) [some (.loc 0), some (.loc 1), some (.int (3 + 1)), some (.int 0), some (.int 0), none, none, none, none, none, none, none, none] (pt a b c :: T1_0)) = some (.bl true, [pt a b c]) := by
  kernel_rfl
theorem s0_rest1_0_1 {x y z a b c : Int} :
    fin 1 (evSs (gam pg 1000 37) (tlS (tlS b__law_are_steps_right)) [some (.loc 0), some (.loc 1), some (.int (3 + 1)), some (.int 0), some (.int 1), none, none, none, none, none, none, none, none] (pt a b c :: T1_0)) = some (.bl true, [pt a b c]) := by
  kernel_rfl
theorem s0_rest1_0 {x y z a b c k : Int} (k0 : 0 ≤ k) (k1 : k < 2) :
    fin 1 (evSs (gam pg 1000 37) (tlS (tlS b__law_are_steps_right)) [some (.loc 0), some (.loc 1), some (.int (3 + 1)), some (.int 0), some (.int k), none, none, none, none, none, none, none, none] (pt a b c :: T1_0)) = some (.bl true, [pt a b c]) := by
  have hk : k = 0 ∨ k = 1 := by omega
  rcases hk with rfl | rfl
  · exact s0_rest1_0_0 (x := x) (y := y) (z := z)
  · exact s0_rest1_0_1 (x := x) (y := y) (z := z)
theorem s0_rest1_1_0 {x y z a b c : Int} :
    fin 1 (evSs (gam pg 1000 37) (tlS (tlS b__law_are_steps_right)) [some (.loc 0), some (.loc 1), some (.int (3 + 1)), some (.int 1), some (.int 0), none, none, none, none, none, none, none, none] (pt a b c :: T1_0)) = some (.bl true, [pt a b c]) := by
  kernel_rfl
theorem s0_rest1_1_1 {x y z a b c : Int} :
    fin 1 (evSs (gam pg 1000 37) (tlS (tlS b__law_are_steps_right)) [some (.loc 0), some (.loc 1), some (.int (3 + 1)), some (.int 1), some (.int 1), none, none, none, none, none, none, none, none] (pt a b c :: T1_0)) = some (.bl true, [pt a b c]) := by
  kernel_rfl
theorem s0_rest1_1 {x y z a b c k : Int} (k0 : 0 ≤ k) (k1 : k < 2) :
    fin 1 (evSs (gam pg 1000 37) (tlS (tlS b__law_are_steps_right)) [some (.loc 0), some (.loc 1), some (.int (3 + 1)), some (.int 1), some (.int k), none, none, none, none, none, none, none, none] (pt a b c :: T1_0)) = some (.bl true, [pt a b c]) := by
  have hk : k = 0 ∨ k = 1 := by omega
  rcases hk with rfl | rfl
  · exact s0_rest1_1_0 (x := x) (y := y) (z := z)
  · exact s0_rest1_1_1 (x := x) (y := y) (z := z)
theorem s0_rest1_2_0 {x y z a b c : Int} :
    fin 1 (evSs (gam pg 1000 37) (tlS (tlS b__law_are_steps_right)) [some (.loc 0), some (.loc 1), some (.int (3 + 1)), some (.int 2), some (.int 0), none, none, none, none, none, none, none, none] (pt a b c :: T1_0)) = some (.bl true, [pt a b c]) := by
  kernel_rfl
theorem s0_rest1_2_1 {x y z a b c : Int} :
    fin 1 (evSs (gam pg 1000 37) (tlS (tlS b__law_are_steps_right)) [some (.loc 0), some (.loc 1), some (.int (3 + 1)), some (.int 2), some (.int 1), none, none, none, none, none, none, none, none] (pt a b c :: T1_0)) = some (.bl true, [pt a b c]) := by
  kernel_rfl
theorem s0_rest1_2 {x y z a b c k : Int} (k0 : 0 ≤ k) (k1 : k < 2) :
    fin 1 (evSs (gam pg 1000 37) (tlS (tlS b__law_are_steps_right)) [some (.loc 0), some (.loc 1), some (.int (3 + 1)), some (.int 2), some (.int k), none, none, none, none, none, none, none, none] (pt a b c :: T1_0)) = some (.bl true, [pt a b c]) := by
  have hk : k = 0 ∨ k = 1 := by omega
  rcases hk with rfl | rfl
  · exact s0_rest1_2_0 (x := x) (y := y) (z := z)
  · exact s0_rest1_2_1 (x := x) (y := y) (z := z)
theorem s0_rest1_3_0 {x y z a b c : Int} :
    fin 1 (evSs (gam pg 1000 37) (tlS (tlS b__law_are_steps_right)) [some (.loc 0), some (.loc 1), some (.int (3 + 1)), some (.int 3), some (.int 0), none, none, none, none, none, none, none, none] (pt a b c :: T1_0)) = some (.bl true, [pt a b c]) := by
  kernel_rfl
theorem s0_rest1_3_1 {x y z a b c : Int} :
    fin 1 (evSs (gam pg 1000 37) (tlS (tlS b__law_are_steps_right)) [some (.loc 0), some (.loc 1), some (.int (3 + 1)), some (.int 3), some (.int 1), none, none, none, none, none, none, none, none] (pt a b c :: T1_0)) = some (.bl true, [pt a b c]) := by
  kernel_rfl
theorem s0_rest1_3 {x y z a b c k : Int} (k0 : 0 ≤ k) (k1 : k < 2) :
    fin 1 (evSs (gam pg 1000 37) (tlS (tlS b__law_are_steps_right)) [some (.loc 0), some (.loc 1), some (.int (3 + 1)), some (.int 3), some (.int k), none, none, none, none, none, none, none, none] (pt a b c :: T1_0)) = some (.bl true, [pt a b c]) := by
  have hk : k = 0 ∨ k = 1 := by omega
  rcases hk with rfl | rfl
  · exact s0_rest1_3_0 (x := x) (y := y) (z := z)
  · exact s0_rest1_3_1 (x := x) (y := y) (z := z)
theorem s0_rest1 {x y z a b c j k : Int} (j0 : 0 ≤ j) (j1 : j < 3 + 1) (k0 : 0 ≤ k) (k1 : k < 2) :
    fin 1 (evSs (gam pg 1000 37) (tlS (tlS b__law_are_steps_right)) [some (.loc 0), some (.loc 1), some (.int (3 + 1)), some (.int j), some (.int k), none, none, none, none, none, none, none, none] (pt a b c :: T1_0)) = some (.bl true, [pt a b c]) := by
  have hj : j = 0 ∨ j = 1 ∨ j = 2 ∨ j = 3 := by omega
  rcases hj with rfl | rfl | rfl | rfl
  · exact s0_rest1_0 (x := x) (y := y) (z := z) k0 k1
  · exact s0_rest1_1 (x := x) (y := y) (z := z) k0 k1
  · exact s0_rest1_2 (x := x) (y := y) (z := z) k0 k1
  · exact s0_rest1_3 (x := x) (y := y) (z := z) k0 k1
theorem s0_rest2_0_0 {x y z a b c : Int} :
    fin 1 (evSs (gam pg 1000 37) (tlS (tlS b__law_are_steps_right)) [some (.loc 0), some (.loc 1), some (.int (3 + 2)), some (.int 0), some (.int 0), none, none, none, none, none, none, none, none] (pt a b c :: T1_0)) = some (.bl true, [pt a b c]) := by
  kernel_rfl
theorem s0_rest2_0_1 {x y z a b c : Int} :
    fin 1 (evSs (gam pg 1000 37) (tlS (tlS b__law_are_steps_right)) [some (.loc 0), some (.loc 1), some (.int (3 + 2)), some (.int 0), some (.int 1), none, none, none, none, none, none, none, none] (pt a b c :: T1_0)) = some (.bl true, [pt a b c]) := by
  kernel_rfl
theorem s0_rest2_0 {x y z a b c k : Int} (k0 : 0 ≤ k) (k1 : k < 2) :
    fin 1 (evSs (gam pg 1000 37) (tlS (tlS b__law_are_steps_right)) [some (.loc 0), some (.loc 1), some (.int (3 + 2)), some (.int 0), some (.int k), none, none, none, none, none, none, none, none] (pt a b c :: T1_0)) = some (.bl true, [pt a b c]) := by
  have hk : k = 0 ∨ k = 1 := by omega
  rcases hk with rfl | rfl
  · exact s0_rest2_0_0 (x := x) (y := y) (z := z)
  · exact s0_rest2_0_1 (x := x) (y := y) (z := z)
theorem s0_rest2_1_0 {x y z a b c : Int} :
    fin 1 (evSs (gam pg 1000 37) (tlS (tlS b__law_are_steps_right)) [some (.loc 0), some (.loc 1), some (.int (3 + 2)), some (.int 1), some (.int 0), none, none, none, none, none, none, none, none] (pt a b c :: T1_0)) = some (.bl true, [pt a b c]) := by
  kernel_rfl
theorem s0_rest2_1_1 {x y z a b c : Int} :
    fin 1 (evSs (gam pg 1000 37) (tlS (tlS b__law_are_steps_right)) [some (.loc 0), some (.loc 1), some (.int (3 + 2)), some (.int 1), some (.int 1), none, none, none, none, none, none, none, none] (pt a b c :: T1_0)) = some (.bl true, [pt a b c]) := by
  kernel_rfl
theorem s0_rest2_1 {x y z a b c k : Int} (k0 : 0 ≤ k) (k1 : k < 2) :
    fin 1 (evSs (gam pg 1000 37) (tlS (tlS b__law_are_steps_right)) [some (.loc 0), some (.loc 1), some (.int (3 + 2)), some (.int 1), some (.int k), none, none, none, none, none, none, none, none] (pt a b c :: T1_0)) = some (.bl true, [pt a b c]) := by
  have hk : k = 0 ∨ k = 1 := by omega
  rcases hk with rfl | rfl
  · exact s0_rest2_1_0 (x := x) (y := y) (z := z)
  · exact s0_rest2_1_1 (x := x) (y := y) (z := z)
theorem s0_rest2_2_0 {x y z a b c : Int} :
    fin 1 (evSs (gam pg 1000 37) (tlS (tlS b__law_are_steps_right)) [some (.loc 0), some (.loc 1), some (.int (3 + 2)), some (.int 2), some (.int 0), none, none, none, none, none, none, none, none] (pt a b c :: T1_0)) = some (.bl true, [pt a b c]) := by
  kernel_rfl
theorem s0_rest2_2_1 {x y z a b c : Int} :
    fin 1 (evSs (gam pg 1000 37) (tlS (tlS b__law_are_steps_right)) [some (.loc 0), some (.loc 1), some (.int (3 + 2)), some (.int 2), some (.int 1), none, none, none, none, none, none, none, none] (pt a b c :: T1_0)) = some (.bl true, [pt a b c]) := by
  kernel_rfl
theorem s0_rest2_2 {x y z a b c k : Int} (k0 : 0 ≤ k) (k1 : k < 2) :
    fin 1 (evSs (gam pg 1000 37) (tlS (tlS b__law_are_steps_right)) [some (.loc 0), some (.loc 1), some (.int (3 + 2)), some (.int 2), some (.int k), none, none, none, none, none, none, none, none] (pt a b c :: T1_0)) = some (.bl true, [pt a b c]) := by
  have hk : k = 0 ∨ k = 1 := by omega
  rcases hk with rfl | rfl
  · exact s0_rest2_2_0 (x := x) (y := y) (z := z)
  · exact s0_rest2_2_1 (x := x) (y := y) (z := z)
theorem s0_rest2_3_0 {x y z a b c : Int} :
    fin 1 (evSs (gam pg 1000 37) (tlS (tlS b__law_are_steps_right)) [some (.loc 0), some (.loc 1), some (.int (3 + 2)), some (.int 3), some (.int 0), none, none, none, none, none, none, none, none] (pt a b c :: T1_0)) = some (.bl true, [pt a b c]) := by
  kernel_rfl
theorem s0_rest2_3_1 {x y z a b c : Int} :
    fin 1 (evSs (gam pg 1000 37) (tlS (tlS b__law_are_steps_right)) [some (.loc 0), some (.loc 1), some (.int (3 + 2)), some (.int 3), some (.int 1), none, none, none, none, none, none, none, none] (pt a b c :: T1_0)) = some (.bl true, [pt a b c]) := by
  kernel_rfl
theorem s0_rest2_3 {x y z a b c k : Int} (k0 : 0 ≤ k) (k1 : k < 2) :
    fin 1 (evSs (gam pg 1000 37) (tlS (tlS b__law_are_steps_right)) [some (.loc 0), some (.loc 1), some (.int (3 + 2)), some (.int 3), some (.int k), none, none, none, none, none, none, none, none] (pt a b c :: T1_0)) = some (.bl true, [pt a b c]) := by
  have hk : k = 0 ∨ k = 1 := by omega
  rcases hk with rfl | rfl
  · exact s0_rest2_3_0 (x := x) (y := y) (z := z)
  · exact s0_rest2_3_1 (x := x) (y := y) (z := z)
theorem s0_rest2_4_0 {x y z a b c : Int} :
    fin 1 (evSs (gam pg 1000 37) (tlS (tlS b__law_are_steps_right)) [some (.loc 0), some (.loc 1), some (.int (3 + 2)), some (.int 4), some (.int 0), none, none, none, none, none, none, none, none] (pt a b c :: T1_0)) = some (.bl true, [pt a b c]) := by
  kernel_rfl
theorem s0_rest2_4_1 {x y z a b c : Int} :
    fin 1 (evSs (gam pg 1000 37) (tlS (tlS b__law_are_steps_right)) [some (.loc 0), some (.loc 1), some (.int (3 + 2)), some (.int 4), some (.int 1), none, none, none, none, none, none, none, none] (pt a b c :: T1_0)) = some (.bl true, [pt a b c]) := by
  kernel_rfl
theorem s0_rest2_4 {x y z a b c k : Int} (k0 : 0 ≤ k) (k1 : k < 2) :
    fin 1 (evSs (gam pg 1000 37) (tlS (tlS b__law_are_steps_right)) [some (.loc 0), some (.loc 1), some (.int (3 + 2)), some (.int 4), some (.int k), none, none, none, none, none, none, none, none] (pt a b c :: T1_0)) = some (.bl true, [pt a b c]) := by
  have hk : k = 0 ∨ k = 1 := by omega
  rcases hk with rfl | rfl
  · exact s0_rest2_4_0 (x := x) (y := y) (z := z)
  · exact s0_rest2_4_1 (x := x) (y := y) (z := z)
theorem s0_rest2 {x y z a b c j k : Int} (j0 : 0 ≤ j) (j1 : j < 3 + 2) (k0 : 0 ≤ k) (k1 : k < 2) :
    fin 1 (evSs (gam pg 1000 37) (tlS (tlS b__law_are_steps_right)) [some (.loc 0), some (.loc 1), some (.int (3 + 2)), some (.int j), some (.int k), none, none, none, none, none, none, none, none] (pt a b c :: T1_0)) = some (.bl true, [pt a b c]) := by
  have hj : j = 0 ∨ j = 1 ∨ j = 2 ∨ j = 3 ∨ j = 4 := by omega
  rcases hj with rfl | rfl | rfl | rfl | rfl
  · exact s0_rest2_0 (x := x) (y := y) (z := z) k0 k1
  · exact s0_rest2_1 (x := x) (y := y) (z := z) k0 k1
  · exact s0_rest2_2 (x := x) (y := y) (z := z) k0 k1
  · exact s0_rest2_3 (x := x) (y := y) (z := z) k0 k1
  · exact s0_rest2_4 (x := x) (y := y) (z := z) k0 k1
theorem s0_rest3_0_0 {x y z a b c : Int} :
    fin 1 (evSs (gam pg 1000 37) (tlS (tlS b__law_are_steps_right)) [some (.loc 0), some (.loc 1), some (.int (3 + 3)), some (.int 0), some (.int 0), none, none, none, none, none, none, none, none] (pt a b c :: T1_0)) = some (.bl true, [pt a b c]) := by
  kernel_rfl
theorem s0_rest3_0_1 {x y z a b c : Int} :
    fin 1 (evSs (gam pg 1000 37) (tlS (tlS b__law_are_steps_right)) [some (.loc 0), some (.loc 1), some (.int (3 + 3)), some (.int 0), some (.int 1), none, none, none, none, none, none, none, none] (pt a b c :: T1_0)) = some (.bl true, [pt a b c]) := by
  kernel_rfl
theorem s0_rest3_0 {x y z a b c k : Int} (k0 : 0 ≤ k) (k1 : k < 2) :
    fin 1 (evSs (gam pg 1000 37) (tlS (tlS b__law_are_steps_right)) [some (.loc 0), some (.loc 1), some (.int (3 + 3)), some (.int 0), some (.int k), none, none, none, none, none, none, none, none] (pt a b c :: T1_0)) = some (.bl true, [pt a b c]) := by
  have hk : k = 0 ∨ k = 1 := by omega
  rcases hk with rfl | rfl
  · exact s0_rest3_0_0 (x := x) (y := y) (z := z)
  · exact s0_rest3_0_1 (x := x) (y := y) (z := z)
theorem s0_rest3_1_0 {x y z a b c : Int} :
    fin 1 (evSs (gam pg 1000 37) (tlS (tlS b__law_are_steps_right)) [some (.loc 0), some (.loc 1), some (.int (3 + 3)), some (.int 1), some (.int 0), none, none, none, none, none, none, none, none] (pt a b c :: T1_0)) = some (.bl true, [pt a b c]) := by
  kernel_rfl
theorem s0_rest3_1_1 {x y z a b c : Int} :
    fin 1 (evSs (gam pg 1000 37) (tlS (tlS b__law_are_steps_right)) [some (.loc 0), some (.loc 1), some (.int (3 + 3)), some (.int 1), some (.int 1), none, none, none, none, none, none, none, none] (pt a b c :: T1_0)) = some (.bl true, [pt a b c]) := by
  kernel_rfl
theorem s0_rest3_1 {x y z a b c k : Int} (k0 : 0 ≤ k) (k1 : k < 2) :
    fin 1 (evSs (gam pg 1000 37) (tlS (tlS b__law_are_steps_right)) [some (.loc 0), some (.loc 1), some (.int (3 + 3)), some (.int 1), some (.int k), none, none, none, none, none, none, none, none] (pt a b c :: T1_0)) = some (.bl true, [pt a b c]) := by
  have hk : k = 0 ∨ k = 1 := by omega
  rcases hk with rfl | rfl
  · exact s0_rest3_1_0 (x := x) (y := y) (z := z)
  · exact s0_rest3_1_1 (x := x) (y := y) (z := z)
theorem s0_rest3_2_0 {x y z a b c : Int} :
    fin 1 (evSs (gam pg 1000 37) (tlS (tlS b__law_are_steps_right)) [some (.loc 0), some (.loc 1), some (.int (3 + 3)), some (.int 2), some (.int 0), none, none, none, none, none, none, none, none] (pt a b c :: T1_0)) = some (.bl true, [pt a b c]) := by
  kernel_rfl
theorem s0_rest3_2_1 {x y z a b c : Int} :
    fin 1 (evSs (gam pg 1000 37) (tlS (tlS b__law_are_steps_right)) [some (.loc 0), some (.loc 1), some (.int (3 + 3)), some (.int 2), some (.int 1), none, none, none, none, none, none, none, none] (pt a b c :: T1_0)) = some (.bl true, [pt a b c]) := by
  kernel_rfl
theorem s0_rest3_2 {x y z a b c k : Int} (k0 : 0 ≤ k) (k1 : k < 2) :
    fin 1 (evSs (gam pg 1000 37) (tlS (tlS b__law_are_steps_right)) [some (.loc 0), some (.loc 1), some (.int (3 + 3)), some (.int 2), some (.int k), none, none, none, none, none, none, none, none] (pt a b c :: T1_0)) = some (.bl true, [pt a b c]) := by
  have hk : k = 0 ∨ k = 1 := by omega
  rcases hk with rfl | rfl
  · exact s0_rest3_2_0 (x := x) (y := y) (z := z)
  · exact s0_rest3_2_1 (x := x) (y := y) (z := z)
theorem s0_rest3_3_0 {x y z a b c : Int} :
    fin 1 (evSs (gam pg 1000 37) (tlS (tlS b__law_are_steps_right)) [some (.loc 0), some (.loc 1), some (.int (3 + 3)), some (.int 3), some (.int 0), none, none, none, none, none, none, none, none] (pt a b c :: T1_0)) = some (.bl true, [pt a b c]) := by
  kernel_rfl
theorem s0_rest3_3_1 {x y z a b c : Int} :
    fin 1 (evSs (gam pg 1000 37) (tlS (tlS b__law_are_steps_right)) [some (.loc 0), some (.loc 1), some (.int (3 + 3)), some (.int 3), some (.int 1), none, none, none, none, none, none, none, none] (pt a b c :: T1_0)) = some (.bl true, [pt a b c]) := by
  kernel_rfl
theorem s0_rest3_3 {x y z a b c k : Int} (k0 : 0 ≤ k) (k1 : k < 2) :
    fin 1 (evSs (gam pg 1000 37) (tlS (tlS b__law_are_steps_right)) [some (.loc 0), some (.loc 1), some (.int (3 + 3)), some (.int 3), some (.int k), none, none, none, none, none, none, none, none] (pt a b c :: T1_0)) = some (.bl true, [pt a b c]) := by
  have hk : k = 0 ∨ k = 1 := by omega
  rcases hk with rfl | rfl
  · exact s0_rest3_3_0 (x := x) (y := y) (z := z)
  · exact s0_rest3_3_1 (x := x) (y := y) (z := z)
theorem s0_rest3_4_0 {x y z a b c : Int} :
    fin 1 (evSs (gam pg 1000 37) (tlS (tlS b__law_are_steps_right)) [some (.loc 0), some (.loc 1), some (.int (3 + 3)), some (.int 4), some (.int 0), none, none, none, none, none, none, none, none] (pt a b c :: T1_0)) = some (.bl true, [pt a b c]) := by
  kernel_rfl
theorem s0_rest3_4_1 {x y z a b c : Int} :
    fin 1 (evSs (gam pg 1000 37) (tlS (tlS b__law_are_steps_right)) [some (.loc 0), some (.loc 1), some (.int (3 + 3)), some (.int 4), some (.int 1), none, none, none, none, none, none, none, none] (pt a b c :: T1_0)) = some (.bl true, [pt a b c]) := by
  kernel_rfl
theorem s0_rest3_4 {x y z a b c k : Int} (k0 : 0 ≤ k) (k1 : k < 2) :
    fin 1 (evSs (gam pg 1000 37) (tlS (tlS b__law_are_steps_right)) [some (.loc 0), some (.loc 1), some (.int (3 + 3)), some (.int 4), some (.int k), none, none, none, none, none, none, none, none] (pt a b c :: T1_0)) = some (.bl true, [pt a b c]) := by
  have hk : k = 0 ∨ k = 1 := by omega
  rcases hk with rfl | rfl
  · exact s0_rest3_4_0 (x := x) (y := y) (z := z)
  · exact s0_rest3_4_1 (x := x) (y := y) (z := z)
theorem s0_rest3_5_0 {x y z a b c : Int} :
    fin 1 (evSs (gam pg 1000 37) (tlS (tlS b__law_are_steps_right)) [some (.loc 0), some (.loc 1), some (.int (3 + 3)), some (.int 5), some (.int 0), none, none, none, none, none, none, none, none] (pt a b c :: T1_0)) = some (.bl true, [pt a b c]) := by
  kernel_rfl
theorem s0_rest3_5_1 {x y z a b c : Int} :
    fin 1 (evSs (gam pg 1000 37) (tlS (tlS b__law_are_steps_right)) [some (.loc 0), some (.loc 1), some (.int (3 + 3)), some (.int 5), some (.int 1), none, none, none, none, none, none, none, none] (pt a b c :: T1_0)) = some (.bl true, [pt a b c]) := by
  kernel_rfl
theorem s0_rest3_5 {x y z a b c k : Int} (k0 : 0 ≤ k) (k1 : k < 2) :
    fin 1 (evSs (gam pg 1000 37) (tlS (tlS b__law_are_steps_right)) [some (.loc 0), some (.loc 1), some (.int (3 + 3)), some (.int 5), some (.int k), none, none, none, none, none, none, none, none] (pt a b c :: T1_0)) = some (.bl true, [pt a b c]) := by
  have hk : k = 0 ∨ k = 1 := by omega
  rcases hk with rfl | rfl
  · exact s0_rest3_5_0 (x := x) (y := y) (z := z)
  · exact s0_rest3_5_1 (x := x) (y := y) (z := z)
theorem s0_rest3 {x y z a b c j k : Int} (j0 : 0 ≤ j) (j1 : j < 3 + 3) (k0 : 0 ≤ k) (k1 : k < 2) :
    fin 1 (evSs (gam pg 1000 37) (tlS (tlS b__law_are_steps_right)) [some (.loc 0), some (.loc 1), some (.int (3 + 3)), some (.int j), some (.int k), none, none, none, none, none, none, none, none] (pt a b c :: T1_0)) = some (.bl true, [pt a b c]) := by
  have hj : j = 0 ∨ j = 1 ∨ j = 2 ∨ j = 3 ∨ j = 4 ∨ j = 5 := by omega
  rcases hj with rfl | rfl | rfl | rfl | rfl | rfl
  · exact s0_rest3_0 (x := x) (y := y) (z := z) k0 k1
  · exact s0_rest3_1 (x := x) (y := y) (z := z) k0 k1
  · exact s0_rest3_2 (x := x) (y := y) (z := z) k0 k1
  · exact s0_rest3_3 (x := x) (y := y) (z := z) k0 k1
  · exact s0_rest3_4 (x := x) (y := y) (z := z) k0 k1
  · exact s0_rest3_5 (x := x) (y := y) (z := z) k0 k1
theorem s0_rest4_0_0 {x y z a b c : Int} :
    fin 1 (evSs (gam pg 1000 37) (tlS (tlS b__law_are_steps_right)) [some (.loc 0), some (.loc 1), some (.int (3 + 4)), some (.int 0), some (.int 0), none, none, none, none, none, none, none, none] (pt a b c :: T1_0)) = some (.bl true, [pt a b c]) := by
  kernel_rfl
theorem s0_rest4_0_1 {x y z a b c : Int} :
    fin 1 (evSs (gam pg 1000 37) (tlS (tlS b__law_are_steps_right)) [some (.loc 0), some (.loc 1), some (.int (3 + 4)), some (.int 0), some (.int 1), none, none, none, none, none, none, none, none] (pt a b c :: T1_0)) = some (.bl true, [pt a b c]) := by
  kernel_rfl
theorem s0_rest4_0 {x y z a b c k : Int} (k0 : 0 ≤ k) (k1 : k < 2) :
    fin 1 (evSs (gam pg 1000 37) (tlS (tlS b__law_are_steps_right)) [some (.loc 0), some (.loc 1), some (.int (3 + 4)), some (.int 0), some (.int k), none, none, none, none, none, none, none, none] (pt a b c :: T1_0)) = some (.bl true, [pt a b c]) := by
  have hk : k = 0 ∨ k = 1 := by omega
  rcases hk with rfl | rfl
  · exact s0_rest4_0_0 (x := x) (y := y) (z := z)
  · exact s0_rest4_0_1 (x := x) (y := y) (z := z)
theorem s0_rest4_1_0 {x y z a b c : Int} :
    fin 1 (evSs (gam pg 1000 37) (tlS (tlS b__law_are_steps_right)) [some (.loc 0), some (.loc 1), some (.int (3 + 4)), some (.int 1), some (.int 0), none, none, none, none, none, none, none, none] (pt a b c :: T1_0)) = some (.bl true, [pt a b c]) := by
  kernel_rfl
theorem s0_rest4_1_1 {x y z a b c : Int} :
    fin 1 (evSs (gam pg 1000 37) (tlS (tlS b__law_are_steps_right)) [some (.loc 0), some (.loc 1), some (.int (3 + 4)), some (.int 1), some (.int 1), none, none, none, none, none, none, none, none] (pt a b c :: T1_0)) = some (.bl true, [pt a b c]) := by
  kernel_rfl
theorem s0_rest4_1 {x y z a b c k : Int} (k0 : 0 ≤ k) (k1 : k < 2) :
    fin 1 (evSs (gam pg 1000 37) (tlS (tlS b__law_are_steps_right)) [some (.loc 0), some (.loc 1), some (.int (3 + 4)), some (.int 1), some (.int k), none, none, none, none, none, none, none, none] (pt a b c :: T1_0)) = some (.bl true, [pt a b c]) := by
  have hk : k = 0 ∨ k = 1 := by omega
  rcases hk with rfl | rfl
  · exact s0_rest4_1_0 (x := x) (y := y) (z := z)
  · exact s0_rest4_1_1 (x := x) (y := y) (z := z)
theorem s0_rest4_2_0 {x y z a b c : Int} :
    fin 1 (evSs (gam pg 1000 37) (tlS (tlS b__law_are_steps_right)) [some (.loc 0), some (.loc 1), some (.int (3 + 4)), some (.int 2), some (.int 0), none, none, none, none, none, none, none, none] (pt a b c :: T1_0)) = some (.bl true, [pt a b c]) := by
  kernel_rfl
theorem s0_rest4_2_1 {x y z a b c : Int} :
    fin 1 (evSs (gam pg 1000 37) (tlS (tlS b__law_are_steps_right)) [some (.loc 0), some (.loc 1), some (.int (3 + 4)), some (.int 2), some (.int 1), none, none, none, none, none, none, none, none] (pt a b c :: T1_0)) = some (.bl true, [pt a b c]) := by
  kernel_rfl
theorem s0_rest4_2 {x y z a b c k : Int} (k0 : 0 ≤ k) (k1 : k < 2) :
    fin 1 (evSs (gam pg 1000 37) (tlS (tlS b__law_are_steps_right)) [some (.loc 0), some (.loc 1), some (.int (3 + 4)), some (.int 2), some (.int k), none, none, none, none, none, none, none, none] (pt a b c :: T1_0)) = some (.bl true, [pt a b c]) := by
  have hk : k = 0 ∨ k = 1 := by omega
  rcases hk with rfl | rfl
  · exact s0_rest4_2_0 (x := x) (y := y) (z := z)
  · exact s0_rest4_2_1 (x := x) (y := y) (z := z)
theorem s0_rest4_3_0 {x y z a b c : Int} :
    fin 1 (evSs (gam pg 1000 37) (tlS (tlS b__law_are_steps_right)) [some (.loc 0), some (.loc 1), some (.int (3 + 4)), some (.int 3), some (.int 0), none, none, none, none, none, none, none, none] (pt a b c :: T1_0)) = some (.bl true, [pt a b c]) := by
  kernel_rfl
theorem s0_rest4_3_1 {x y z a b c : Int} :
    fin 1 (evSs (gam pg 1000 37) (tlS (tlS b__law_are_steps_right)) [some (.loc 0), some (.loc 1), some (.int (3 + 4)), some (.int 3), some (.int 1), none, none, none, none, none, none, none, none] (pt a b c :: T1_0)) = some (.bl true, [pt a b c]) := by
  kernel_rfl
theorem s0_rest4_3 {x y z a b c k : Int} (k0 : 0 ≤ k) (k1 : k < 2) :
    fin 1 (evSs (gam pg 1000 37) (tlS (tlS b__law_are_steps_right)) [some (.loc 0), some (.loc 1), some (.int (3 + 4)), some (.int 3), some (.int k), none, none, none, none, none, none, none, none] (pt a b c :: T1_0)) = some (.bl true, [pt a b c]) := by
  have hk : k = 0 ∨ k = 1 := by omega
  rcases hk with rfl | rfl
  · exact s0_rest4_3_0 (x := x) (y := y) (z := z)
  · exact s0_rest4_3_1 (x := x) (y := y) (z := z)
theorem s0_rest4_4_0 {x y z a b c : Int} :
    fin 1 (evSs (gam pg 1000 37) (tlS (tlS b__law_are_steps_right)) [some (.loc 0), some (.loc 1), some (.int (3 + 4)), some (.int 4), some (.int 0), none, none, none, none, none, none, none, none] (pt a b c :: T1_0)) = some (.bl true, [pt a b c]) := by
  kernel_rfl
theorem s0_rest4_4_1 {x y z a b c : Int} :
    fin 1 (evSs (gam pg 1000 37) (tlS (tlS b__law_are_steps_right)) [some (.loc 0), some (.loc 1), some (.int (3 + 4)), some (.int 4), some (.int 1), none, none, none, none, none, none, none, none] (pt a b c :: T1_0)) = some (.bl true, [pt a b c]) := by
  kernel_rfl
theorem s0_rest4_4 {x y z a b c k : Int} (k0 : 0 ≤ k) (k1 : k < 2) :
    fin 1 (evSs (gam pg 1000 37) (tlS (tlS b__law_are_steps_right)) [some (.loc 0), some (.loc 1), some (.int (3 + 4)), some (.int 4), some (.int k), none, none, none, none, none, none, none, none] (pt a b c :: T1_0)) = some (.bl true, [pt a b c]) := by
  have hk : k = 0 ∨ k = 1 := by omega
  rcases hk with rfl | rfl
  · exact s0_rest4_4_0 (x := x) (y := y) (z := z)
  · exact s0_rest4_4_1 (x := x) (y := y) (z := z)
theorem s0_rest4_5_0 {x y z a b c : Int} :
    fin 1 (evSs (gam pg 1000 37) (tlS (tlS b__law_are_steps_right)) [some (.loc 0), some (.loc 1), some (.int (3 + 4)), some (.int 5), some (.int 0), none, none, none, none, none, none, none, none] (pt a b c :: T1_0)) = some (.bl true, [pt a b c]) := by
  kernel_rfl
theorem s0_rest4_5_1 {x y z a b c : Int} :
    fin 1 (evSs (gam pg 1000 37) (tlS (tlS b__law_are_steps_right)) [some (.loc 0), some (.loc 1), some (.int (3 + 4)), some (.int 5), some (.int 1), none, none, none, none, none, none, none, none] (pt a b c :: T1_0)) = some (.bl true, [pt a b c]) := by
  kernel_rfl
theorem s0_rest4_5 {x y z a b c k : Int} (k0 : 0 ≤ k) (k1 : k < 2) :
    fin 1 (evSs (gam pg 1000 37) (tlS (tlS b__law_are_steps_right)) [some (.loc 0), some (.loc 1), some (.int (3 + 4)), some (.int 5), some (.int k), none, none, none, none, none, none, none, none] (pt a b c :: T1_0)) = some (.bl true, [pt a b c]) := by
  have hk : k = 0 ∨ k = 1 := by omega
  rcases hk with rfl | rfl
  · exact s0_rest4_5_0 (x := x) (y := y) (z := z)
  · exact s0_rest4_5_1 (x := x) (y := y) (z := z)
theorem s0_rest4_6_0 {x y z a b c : Int} :
    fin 1 (evSs (gam pg 1000 37) (tlS (tlS b__law_are_steps_right)) [some (.loc 0), some (.loc 1), some (.int (3 + 4)), some (.int 6), some (.int 0), none, none, none, none, none, none, none, none] (pt a b c :: T1_0)) = some (.bl true, [pt a b c]) := by
  kernel_rfl
theorem s0_rest4_6_1 {x y z a b c : Int} :
    fin 1 (evSs (gam pg 1000 37) (tlS (tlS b__law_are_steps_right)) [some (.loc 0), some (.loc 1), some (.int (3 + 4)), some (.int 6), some (.int 1), none, none, none, none, none, none, none, none] (pt a b c :: T1_0)) = some (.bl true, [pt a b c]) := by
  kernel_rfl
theorem s0_rest4_6 {x y z a b c k : Int} (k0 : 0 ≤ k) (k1 : k < 2) :
    fin 1 (evSs (gam pg 1000 37) (tlS (tlS b__law_are_steps_right)) [some (.loc 0), some (.loc 1), some (.int (3 + 4)), some (.int 6), some (.int k), none, none, none, none, none, none, none, none] (pt a b c :: T1_0)) = some (.bl true, [pt a b c]) := by
  have hk : k = 0 ∨ k = 1 := by omega
  rcases hk with rfl | rfl
  · exact s0_rest4_6_0 (x := x) (y := y) (z := z)
  · exact s0_rest4_6_1 (x := x) (y := y) (z := z)
theorem s0_rest4 {x y z a b c j k : Int} (j0 : 0 ≤ j) (j1 : j < 3 + 4) (k0 : 0 ≤ k) (k1 : k < 2) :
    fin 1 (evSs (gam pg 1000 37) (tlS (tlS b__law_are_steps_right)) [some (.loc 0), some (.loc 1), some (.int (3 + 4)), some (.int j), some (.int k), none, none, none, none, none, none, none, none] (pt a b c :: T1_0)) = some (.bl true, [pt a b c]) := by
  have hj : j = 0 ∨ j = 1 ∨ j = 2 ∨ j = 3 ∨ j = 4 ∨ j = 5 ∨ j = 6 := by omega
  rcases hj with rfl | rfl | rfl | rfl | rfl | rfl | rfl
  · exact s0_rest4_0 (x := x) (y := y) (z := z) k0 k1
  · exact s0_rest4_1 (x := x) (y := y) (z := z) k0 k1
  · exact s0_rest4_2 (x := x) (y := y) (z := z) k0 k1
  · exact s0_rest4_3 (x := x) (y := y) (z := z) k0 k1
  · exact s0_rest4_4 (x := x) (y := y) (z := z) k0 k1
  · exact s0_rest4_5 (x := x) (y := y) (z := z) k0 k1
  · exact s0_rest4_6 (x := x) (y := y) (z := z) k0 k1
theorem s0_rest5_0_0 {x y z a b c : Int} :
    fin 1 (evSs (gam pg 1000 37) (tlS (tlS b__law_are_steps_right)) [some (.loc 0), some (.loc 1), some (.int (3 + 5)), some (.int 0), some (.int 0), none, none, none, none, none, none, none, none] (pt a b c :: T1_0)) = some (.bl true, [pt a b c]) := by
  kernel_rfl
theorem s0_rest5_0_1 {x y z a b c : Int} :
    fin 1 (evSs (gam pg 1000 37) (tlS (tlS b__law_are_steps_right)) [some (.loc 0), some (.loc 1), some (.int (3 + 5)), some (.int 0), some (.int 1), none, none, none, none, none, none, none, none] (pt a b c :: T1_0)) = some (.bl true, [pt a b c]) := by
  kernel_rfl
theorem s0_rest5_0 {x y z a b c k : Int} (k0 : 0 ≤ k) (k1 : k < 2) :
    fin 1 (evSs (gam pg 1000 37) (tlS (tlS b__law_are_steps_right)) [some (.loc 0), some (.loc 1), some (.int (3 + 5)), some (.int 0), some (.int k), none, none, none, none, none, none, none, none] (pt a b c :: T1_0)) = some (.bl true, [pt a b c]) := by
  have hk : k = 0 ∨ k = 1 := by omega
  rcases hk with rfl | rfl
  · exact s0_rest5_0_0 (x := x) (y := y) (z := z)
  · exact s0_rest5_0_1 (x := x) (y := y) (z := z)
theorem s0_rest5_1_0 {x y z a b c : Int} :
    fin 1 (evSs (gam pg 1000 37) (tlS (tlS b__law_are_steps_right)) [some (.loc 0), some (.loc 1), some (.int (3 + 5)), some (.int 1), some (.int 0), none, none, none, none, none, none, none, none] (pt a b c :: T1_0)) = some (.bl true, [pt a b c]) := by
  kernel_rfl
theorem s0_rest5_1_1 {x y z a b c : Int} :
    fin 1 (evSs (gam pg 1000 37) (tlS (tlS b__law_are_steps_right)) [some (.loc 0), some (.loc 1), some (.int (3 + 5)), some (.int 1), some (.int 1), none, none, none, none, none, none, none, none] (pt a b c :: T1_0)) = some (.bl true, [pt a b c]) := by
  kernel_rfl
theorem s0_rest5_1 {x y z a b c k : Int} (k0 : 0 ≤ k) (k1 : k < 2) :
    fin 1 (evSs (gam pg 1000 37) (tlS (tlS b__law_are_steps_right)) [some (.loc 0), some (.loc 1), some (.int (3 + 5)), some (.int 1), some (.int k), none, none, none, none, none, none, none, none] (pt a b c :: T1_0)) = some (.bl true, [pt a b c]) := by
  have hk : k = 0 ∨ k = 1 := by omega
  rcases hk with rfl | rfl
  · exact s0_rest5_1_0 (x := x) (y := y) (z := z)
  · exact s0_rest5_1_1 (x := x) (y := y) (z := z)
theorem s0_rest5_2_0 {x y z a b c : Int} :
    fin 1 (evSs (gam pg 1000 37) (tlS (tlS b__law_are_steps_right)) [some (.loc 0), some (.loc 1), some (.int (3 + 5)), some (.int 2), some (.int 0), none, none, none, none, none, none, none, none] (pt a b c :: T1_0)) = some (.bl true, [pt a b c]) := by
  kernel_rfl
theorem s0_rest5_2_1 {x y z a b c : Int} :
    fin 1 (evSs (gam pg 1000 37) (tlS (tlS b__law_are_steps_right)) [some (.loc 0), some (.loc 1), some (.int (3 + 5)), some (.int 2), some (.int 1), none, none, none, none, none, none, none, none] (pt a b c :: T1_0)) = some (.bl true, [pt a b c]) := by
  kernel_rfl
theorem s0_rest5_2 {x y z a b c k : Int} (k0 : 0 ≤ k) (k1 : k < 2) :
    fin 1 (evSs (gam pg 1000 37) (tlS (tlS b__law_are_steps_right)) [some (.loc 0), some (.loc 1), some (.int (3 + 5)), some (.int 2), some (.int k), none, none, none, none, none, none, none, none] (pt a b c :: T1_0)) = some (.bl true, [pt a b c]) := by
  have hk : k = 0 ∨ k = 1 := by omega
  rcases hk with rfl | rfl
  · exact s0_rest5_2_0 (x := x) (y := y) (z := z)
  · exact s0_rest5_2_1 (x := x) (y := y) (z := z)
theorem s0_rest5_3_0 {x y z a b c : Int} :
    fin 1 (evSs (gam pg 1000 37) (tlS (tlS b__law_are_steps_right)) [some (.loc 0), some (.loc 1), some (.int (3 + 5)), some (.int 3), some (.int 0), none, none, none, none, none, none, none, none] (pt a b c :: T1_0)) = some (.bl true, [pt a b c]) := by
  kernel_rfl
theorem s0_rest5_3_1 {x y z a b c : Int} :
    fin 1 (evSs (gam pg 1000 37) (tlS (tlS b__law_are_steps_right)) [some (.loc 0), some (.loc 1), some (.int (3 + 5)), some (.int 3), some (.int 1), none, none, none, none, none, none, none, none] (pt a b c :: T1_0)) = some (.bl true, [pt a b c]) := by
  kernel_rfl
theorem s0_rest5_3 {x y z a b c k : Int} (k0 : 0 ≤ k) (k1 : k < 2) :
    fin 1 (evSs (gam pg 1000 37) (tlS (tlS b__law_are_steps_right)) [some (.loc 0), some (.loc 1), some (.int (3 + 5)), some (.int 3), some (.int k), none, none, none, none, none, none, none, none] (pt a b c :: T1_0)) = some (.bl true, [pt a b c]) := by
  have hk : k = 0 ∨ k = 1 := by omega
  rcases hk with rfl | rfl
  · exact s0_rest5_3_0 (x := x) (y := y) (z := z)
  · exact s0_rest5_3_1 (x := x) (y := y) (z := z)
theorem s0_rest5_4_0 {x y z a b c : Int} :
    fin 1 (evSs (gam pg 1000 37) (tlS (tlS b__law_are_steps_right)) [some (.loc 0), some (.loc 1), some (.int (3 + 5)), some (.int 4), some (.int 0), none, none, none, none, none, none, none, none] (pt a b c :: T1_0)) = some (.bl true, [pt a b c]) := by
  kernel_rfl
theorem s0_rest5_4_1 {x y z a b c : Int} :
    fin 1 (evSs (gam pg 1000 37) (tlS (tlS b__law_are_steps_right)) [some (.loc 0), some (.loc 1), some (.int (3 + 5)), some (.int 4), some (.int 1), none, none, none, none, none, none, none, none] (pt a b c :: T1_0)) = some (.bl true, [pt a b c]) := by
  kernel_rfl
theorem s0_rest5_4 {x y z a b c k : Int} (k0 : 0 ≤ k) (k1 : k < 2) :
    fin 1 (evSs (gam pg 1000 37) (tlS (tlS b__law_are_steps_right)) [some (.loc 0), some (.loc 1), some (.int (3 + 5)), some (.int 4), some (.int k), none, none, none, none, none, none, none, none] (pt a b c :: T1_0)) = some (.bl true, [pt a b c]) := by
  have hk : k = 0 ∨ k = 1 := by omega
  rcases hk with rfl | rfl
  · exact s0_rest5_4_0 (x := x) (y := y) (z := z)
  · exact s0_rest5_4_1 (x := x) (y := y) (z := z)
theorem s0_rest5_5_0 {x y z a b c : Int} :
    fin 1 (evSs (gam pg 1000 37) (tlS (tlS b__law_are_steps_right)) [some (.loc 0), some (.loc 1), some (.int (3 + 5)), some (.int 5), some (.int 0), none, none, none, none, none, none, none, none] (pt a b c :: T1_0)) = some (.bl true, [pt a b c]) := by
  kernel_rfl
theorem s0_rest5_5_1 {x y z a b c : Int} :
    fin 1 (evSs (gam pg 1000 37) (tlS (tlS b__law_are_steps_right)) [some (.loc 0), some (.loc 1), some (.int (3 + 5)), some (.int 5), some (.int 1), none, none, none, none, none, none, none, none] (pt a b c :: T1_0)) = some (.bl true, [pt a b c]) := by
  kernel_rfl
theorem s0_rest5_5 {x y z a b c k : Int} (k0 : 0 ≤ k) (k1 : k < 2) :
    fin 1 (evSs (gam pg 1000 37) (tlS (tlS b__law_are_steps_right)) [some (.loc 0), some (.loc 1), some (.int (3 + 5)), some (.int 5), some (.int k), none, none, none, none, none, none, none, none] (pt a b c :: T1_0)) = some (.bl true, [pt a b c]) := by
  have hk : k = 0 ∨ k = 1 := by omega
  rcases hk with rfl | rfl
  · exact s0_rest5_5_0 (x := x) (y := y) (z := z)
  · exact s0_rest5_5_1 (x := x) (y := y) (z := z)
theorem s0_rest5_6_0 {x y z a b c : Int} :
    fin 1 (evSs (gam pg 1000 37) (tlS (tlS b__law_are_steps_right)) [some (.loc 0), some (.loc 1), some (.int (3 + 5)), some (.int 6), some (.int 0), none, none, none, none, none, none, none, none] (pt a b c :: T1_0)) = some (.bl true, [pt a b c]) := by
  kernel_rfl
theorem s0_rest5_6_1 {x y z a b c : Int} :
    fin 1 (evSs (gam pg 1000 37) (tlS (tlS b__law_are_steps_right)) [some (.loc 0), some (.loc 1), some (.int (3 + 5)), some (.int 6), some (.int 1), none, none, none, none, none, none, none, none] (pt a b c :: T1_0)) = some (.bl true, [pt a b c]) := by
  kernel_rfl
theorem s0_rest5_6 {x y z a b c k : Int} (k0 : 0 ≤ k) (k1 : k < 2) :
    fin 1 (evSs (gam pg 1000 37) (tlS (tlS b__law_are_steps_right)) [some (.loc 0), some (.loc 1), some (.int (3 + 5)), some (.int 6), some (.int k), none, none, none, none, none, none, none, none] (pt a b c :: T1_0)) = some (.bl true, [pt a b c]) := by
  have hk : k = 0 ∨ k = 1 := by omega
  rcases hk with rfl | rfl
  · exact s0_rest5_6_0 (x := x) (y := y) (z := z)
  · exact s0_rest5_6_1 (x := x) (y := y) (z := z)
theorem s0_rest5_7_0 {x y z a b c : Int} :
    fin 1 (evSs (gam pg 1000 37) (tlS (tlS b__law_are_steps_right)) [some (.loc 0), some (.loc 1), some (.int (3 + 5)), some (.int 7), some (.int 0), none, none, none, none, none, none, none, none] (pt a b c :: T1_0)) = some (.bl true, [pt a b c]) := by
  kernel_rfl
theorem s0_rest5_7_1 {x y z a b c : Int} :
    fin 1 (evSs (gam pg 1000 37) (tlS (tlS b__law_are_steps_right)) [some (.loc 0), some (.loc 1), some (.int (3 + 5)), some (.int 7), some (.int 1), none, none, none, none, none, none, none, none] (pt a b c :: T1_0)) = some (.bl true, [pt a b c]) := by
  kernel_rfl
theorem s0_rest5_7 {x y z a b c k : Int} (k0 : 0 ≤ k) (k1 : k < 2) :
    fin 1 (evSs (gam pg 1000 37) (tlS (tlS b__law_are_steps_right)) [some (.loc 0), some (.loc 1), some (.int (3 + 5)), some (.int 7), some (.int k), none, none, none, none, none, none, none, none] (pt a b c :: T1_0)) = some (.bl true, [pt a b c]) := by
  have hk : k = 0 ∨ k = 1 := by omega
  rcases hk with rfl | rfl
  · exact s0_rest5_7_0 (x := x) (y := y) (z := z)
  · exact s0_rest5_7_1 (x := x) (y := y) (z := z)
theorem s0_rest5 {x y z a b c j k : Int} (j0 : 0 ≤ j) (j1 : j < 3 + 5) (k0 : 0 ≤ k) (k1 : k < 2) :
    fin 1 (evSs (gam pg 1000 37) (tlS (tlS b__law_are_steps_right)) [some (.loc 0), some (.loc 1), some (.int (3 + 5)), some (.int j), some (.int k), none, none, none, none, none, none, none, none] (pt a b c :: T1_0)) = some (.bl true, [pt a b c]) := by
  have hj : j = 0 ∨ j = 1 ∨ j = 2 ∨ j = 3 ∨ j = 4 ∨ j = 5 ∨ j = 6 ∨ j = 7 := by omega
  rcases hj with rfl | rfl | rfl | rfl | rfl | rfl | rfl | rfl
  · exact s0_rest5_0 (x := x) (y := y) (z := z) k0 k1
  · exact s0_rest5_1 (x := x) (y := y) (z := z) k0 k1
  · exact s0_rest5_2 (x := x) (y := y) (z := z) k0 k1
  · exact s0_rest5_3 (x := x) (y := y) (z := z) k0 k1
  · exact s0_rest5_4 (x := x) (y := y) (z := z) k0 k1
  · exact s0_rest5_5 (x := x) (y := y) (z := z) k0 k1
  · exact s0_rest5_6 (x := x) (y := y) (z := z) k0 k1
  · exact s0_rest5_7 (x := x) (y := y) (z := z) k0 k1
theorem s0_rest {x y z a b c i j k : Int} (i0 : 0 ≤ i) (i1 : i < 6) (j0 : 0 ≤ j) (j1 : j < 3 + i) (k0 : 0 ≤ k) (k1 : k < 2) :
    fin 1 (evSs (gam pg 1000 37) (tlS (tlS b__law_are_steps_right)) [some (.loc 0), some (.loc 1), some (.int (3 + i)), some (.int j), some (.int k), none, none, none, none, none, none, none, none] (pt a b c :: T1_0)) = some (.bl true, [pt a b c]) := by
  have hi : i = 0 ∨ i = 1 ∨ i = 2 ∨ i = 3 ∨ i = 4 ∨ i = 5 := by omega
  rcases hi with rfl | rfl | rfl | rfl | rfl | rfl
  · exact s0_rest0 (x := x) (y := y) (z := z) j0 j1 k0 k1
  · exact s0_rest1 (x := x) (y := y) (z := z) j0 j1 k0 k1
  · exact s0_rest2 (x := x) (y := y) (z := z) j0 j1 k0 k1
  · exact s0_rest3 (x := x) (y := y) (z := z) j0 j1 k0 k1
  · exact s0_rest4 (x := x) (y := y) (z := z) j0 j1 k0 k1
  · exact s0_rest5 (x := x) (y := y) (z := z) j0 j1 k0 k1
theorem s0_ok {x y z a b c : Int} {m : Nat} (h : Pt m a b c) (hm : m < 100) : ∃ a' c', callN pg 1000 38 "_law_are_steps_right" [.loc 0] [pt a b c] = .ok (.bl true) ([pt a' b c']) ∧ Pt (m + 3) a' b c' := by
  have mk : mkR (gam pg 1000 37) "Program" [.str "marks 2\nstep 1\nmark same mine 0"] [pt a b c] = .ok (.loc 1) (pt a b c :: T1_0) := by kernel_rfl
  obtain ⟨a1, c1, i, e1, i0, i1, h1⟩ := take_k (n := 36) (p := 0) (u := 6) (S := (pt a b c :: T1_0)) (by kernel_rfl) rfl h (by omega) (by decide) (by decide)
  simp only [List.set_cons_zero, List.set_cons_succ] at e1
  obtain ⟨a2, c2, j, e2, j0, j1, h2⟩ := take_k (n := 36) (p := 0) (u := 3 + i) (S := (pt a1 b c1 :: T1_0)) (by kernel_rfl) rfl h1 (by omega) (by omega) (by omega)
  simp only [List.set_cons_zero, List.set_cons_succ] at e2
  obtain ⟨a3, c3, k, e3, k0, k1, h3⟩ := take_k (n := 36) (p := 0) (u := 2) (S := (pt a2 b c2 :: T1_0)) (by kernel_rfl) rfl h2 (by omega) (by decide) (by decide)
  simp only [List.set_cons_zero, List.set_cons_succ] at e3
  have q : W (callN pg 1000 38 "_law_are_steps_right" [.loc 0] [pt a b c]) fun v S' => v = .bl true ∧ S' = [pt a3 b c3] := by
    refine call_gc (d := d__law_are_steps_right) (by kernel_rfl) rfl rfl ?_
    refine W_hd (σ' := [some (.loc 0), some (.loc 1), some (.int (3 + i)), none, none, none, none, none, none, none, none, none, none]) (S' := (pt a1 b c1 :: T1_0)) rfl ?_ ?_
    · simp only [hdS, b__law_are_steps_right, List.replicate, List.map, List.cons_append, List.nil_append, List.getElem?_cons_zero, List.getElem?_cons_succ, List.set_cons_zero, List.set_cons_succ, List.length_cons, List.length_nil, List.append, evSs, evS, evT, evE, evEs, evAs, evF, evO, evI, evIf, evAnd, evOr, W_bind, W_ok, W_some, idxD, ixD, deref, Option.map_some, cmpD, truD, bltD, binD, tyD, bindT, bindTs, setD, flV, Option.some.injEq, exists_eq_left', exists_eq_left, if_true, if_false, ite_true, ite_false, reduceIte, decide_true, decide_false, reduceCtorEq, Nat.reduceAdd, Nat.reduceSub, Bool.not_true, Bool.not_false, Bool.false_eq_true, or_true, or_false, and_true, true_and, false_or, true_or, List.length_append, ln0, ln1, ln2, ln3, ln4, ln5, ln6, ln7, ln8, ln9, ln10, ln11, ln12, ln13, ln14, ln15, R.bind, R.of, mk, e1, b_add]
    refine W_hd (σ' := [some (.loc 0), some (.loc 1), some (.int (3 + i)), some (.int j), some (.int k), none, none, none, none, none, none, none, none]) (S' := (pt a3 b c3 :: T1_0)) rfl ?_ ?_
    · simp only [hdS, tlS, b__law_are_steps_right, List.replicate, List.map, List.cons_append, List.nil_append, List.getElem?_cons_zero, List.getElem?_cons_succ, List.set_cons_zero, List.set_cons_succ, List.length_cons, List.length_nil, List.append, evSs, evS, evT, evE, evEs, evAs, evF, evO, evI, evIf, evAnd, evOr, W_bind, W_ok, W_some, idxD, ixD, deref, Option.map_some, cmpD, truD, bltD, binD, tyD, bindT, bindTs, setD, flV, Option.some.injEq, exists_eq_left', exists_eq_left, if_true, if_false, ite_true, ite_false, reduceIte, decide_true, decide_false, reduceCtorEq, Nat.reduceAdd, Nat.reduceSub, Bool.not_true, Bool.not_false, Bool.false_eq_true, or_true, or_false, and_true, true_and, false_or, true_or, List.length_append, ln0, ln1, ln2, ln3, ln4, ln5, ln6, ln7, ln8, ln9, ln10, ln11, ln12, ln13, ln14, ln15, R.bind, R.of, e2, e3]
    exact W_fin (v := .bl true) (S' := [pt a3 b c3]) (s0_rest (x := x) (y := y) (z := z) i0 i1 j0 j1 k0 k1) rfl rfl ⟨rfl, rfl⟩
  obtain ⟨v, S1, e, rfl, rfl⟩ := W_get q
  exact ⟨a3, c3, e, h3⟩
theorem x0_rest0_0_pp {x y z a b c : Int} :
    fin 1 (evSs (gam pg 1000 37) (tlS (tlS (tlS b__law_are_exchanges_right))) [some (.loc 0), some (.loc 1), some (.int (4 + 0)), some (.int 0), some (.tup [.tup [.int 0, .int 0, .int (1)], .tup [.int (0 + 1), .int 0, .int (1)]]), none, none, none] (pt a b c :: T2_0)) = some (.bl true, [pt a b c]) := by
  kernel_rfl
theorem x0_rest0_0_pm {x y z a b c : Int} :
    fin 1 (evSs (gam pg 1000 37) (tlS (tlS (tlS b__law_are_exchanges_right))) [some (.loc 0), some (.loc 1), some (.int (4 + 0)), some (.int 0), some (.tup [.tup [.int 0, .int 0, .int (1)], .tup [.int (0 + 1), .int 0, .int (-1)]]), none, none, none] (pt a b c :: T2_0)) = some (.bl true, [pt a b c]) := by
  kernel_rfl
theorem x0_rest0_0_mp {x y z a b c : Int} :
    fin 1 (evSs (gam pg 1000 37) (tlS (tlS (tlS b__law_are_exchanges_right))) [some (.loc 0), some (.loc 1), some (.int (4 + 0)), some (.int 0), some (.tup [.tup [.int 0, .int 0, .int (-1)], .tup [.int (0 + 1), .int 0, .int (1)]]), none, none, none] (pt a b c :: T2_0)) = some (.bl true, [pt a b c]) := by
  kernel_rfl
theorem x0_rest0_0_mm {x y z a b c : Int} :
    fin 1 (evSs (gam pg 1000 37) (tlS (tlS (tlS b__law_are_exchanges_right))) [some (.loc 0), some (.loc 1), some (.int (4 + 0)), some (.int 0), some (.tup [.tup [.int 0, .int 0, .int (-1)], .tup [.int (0 + 1), .int 0, .int (-1)]]), none, none, none] (pt a b c :: T2_0)) = some (.bl true, [pt a b c]) := by
  kernel_rfl
theorem x0_rest0_0 {x y z a b c d e : Int} (hd : d = 1 ∨ d = -1) (he : e = 1 ∨ e = -1) :
    fin 1 (evSs (gam pg 1000 37) (tlS (tlS (tlS b__law_are_exchanges_right))) [some (.loc 0), some (.loc 1), some (.int (4 + 0)), some (.int 0), some (.tup [.tup [.int 0, .int 0, .int d], .tup [.int (0 + 1), .int 0, .int e]]), none, none, none] (pt a b c :: T2_0)) = some (.bl true, [pt a b c]) := by
  rcases hd with rfl | rfl <;> rcases he with rfl | rfl
  · exact x0_rest0_0_pp (x := x) (y := y) (z := z)
  · exact x0_rest0_0_pm (x := x) (y := y) (z := z)
  · exact x0_rest0_0_mp (x := x) (y := y) (z := z)
  · exact x0_rest0_0_mm (x := x) (y := y) (z := z)
theorem x0_rest0_1_pp {x y z a b c : Int} :
    fin 1 (evSs (gam pg 1000 37) (tlS (tlS (tlS b__law_are_exchanges_right))) [some (.loc 0), some (.loc 1), some (.int (4 + 0)), some (.int 1), some (.tup [.tup [.int 1, .int 0, .int (1)], .tup [.int (1 + 1), .int 0, .int (1)]]), none, none, none] (pt a b c :: T2_0)) = some (.bl true, [pt a b c]) := by
  kernel_rfl
theorem x0_rest0_1_pm {x y z a b c : Int} :
    fin 1 (evSs (gam pg 1000 37) (tlS (tlS (tlS b__law_are_exchanges_right))) [some (.loc 0), some (.loc 1), some (.int (4 + 0)), some (.int 1), some (.tup [.tup [.int 1, .int 0, .int (1)], .tup [.int (1 + 1), .int 0, .int (-1)]]), none, none, none] (pt a b c :: T2_0)) = some (.bl true, [pt a b c]) := by
  kernel_rfl
theorem x0_rest0_1_mp {x y z a b c : Int} :
    fin 1 (evSs (gam pg 1000 37) (tlS (tlS (tlS b__law_are_exchanges_right))) [some (.loc 0), some (.loc 1), some (.int (4 + 0)), some (.int 1), some (.tup [.tup [.int 1, .int 0, .int (-1)], .tup [.int (1 + 1), .int 0, .int (1)]]), none, none, none] (pt a b c :: T2_0)) = some (.bl true, [pt a b c]) := by
  kernel_rfl
theorem x0_rest0_1_mm {x y z a b c : Int} :
    fin 1 (evSs (gam pg 1000 37) (tlS (tlS (tlS b__law_are_exchanges_right))) [some (.loc 0), some (.loc 1), some (.int (4 + 0)), some (.int 1), some (.tup [.tup [.int 1, .int 0, .int (-1)], .tup [.int (1 + 1), .int 0, .int (-1)]]), none, none, none] (pt a b c :: T2_0)) = some (.bl true, [pt a b c]) := by
  kernel_rfl
theorem x0_rest0_1 {x y z a b c d e : Int} (hd : d = 1 ∨ d = -1) (he : e = 1 ∨ e = -1) :
    fin 1 (evSs (gam pg 1000 37) (tlS (tlS (tlS b__law_are_exchanges_right))) [some (.loc 0), some (.loc 1), some (.int (4 + 0)), some (.int 1), some (.tup [.tup [.int 1, .int 0, .int d], .tup [.int (1 + 1), .int 0, .int e]]), none, none, none] (pt a b c :: T2_0)) = some (.bl true, [pt a b c]) := by
  rcases hd with rfl | rfl <;> rcases he with rfl | rfl
  · exact x0_rest0_1_pp (x := x) (y := y) (z := z)
  · exact x0_rest0_1_pm (x := x) (y := y) (z := z)
  · exact x0_rest0_1_mp (x := x) (y := y) (z := z)
  · exact x0_rest0_1_mm (x := x) (y := y) (z := z)
theorem x0_rest0_2_pp {x y z a b c : Int} :
    fin 1 (evSs (gam pg 1000 37) (tlS (tlS (tlS b__law_are_exchanges_right))) [some (.loc 0), some (.loc 1), some (.int (4 + 0)), some (.int 2), some (.tup [.tup [.int 2, .int 0, .int (1)], .tup [.int (2 + 1), .int 0, .int (1)]]), none, none, none] (pt a b c :: T2_0)) = some (.bl true, [pt a b c]) := by
  kernel_rfl
theorem x0_rest0_2_pm {x y z a b c : Int} :
    fin 1 (evSs (gam pg 1000 37) (tlS (tlS (tlS b__law_are_exchanges_right))) [some (.loc 0), some (.loc 1), some (.int (4 + 0)), some (.int 2), some (.tup [.tup [.int 2, .int 0, .int (1)], .tup [.int (2 + 1), .int 0, .int (-1)]]), none, none, none] (pt a b c :: T2_0)) = some (.bl true, [pt a b c]) := by
  kernel_rfl
theorem x0_rest0_2_mp {x y z a b c : Int} :
    fin 1 (evSs (gam pg 1000 37) (tlS (tlS (tlS b__law_are_exchanges_right))) [some (.loc 0), some (.loc 1), some (.int (4 + 0)), some (.int 2), some (.tup [.tup [.int 2, .int 0, .int (-1)], .tup [.int (2 + 1), .int 0, .int (1)]]), none, none, none] (pt a b c :: T2_0)) = some (.bl true, [pt a b c]) := by
  kernel_rfl
theorem x0_rest0_2_mm {x y z a b c : Int} :
    fin 1 (evSs (gam pg 1000 37) (tlS (tlS (tlS b__law_are_exchanges_right))) [some (.loc 0), some (.loc 1), some (.int (4 + 0)), some (.int 2), some (.tup [.tup [.int 2, .int 0, .int (-1)], .tup [.int (2 + 1), .int 0, .int (-1)]]), none, none, none] (pt a b c :: T2_0)) = some (.bl true, [pt a b c]) := by
  kernel_rfl
theorem x0_rest0_2 {x y z a b c d e : Int} (hd : d = 1 ∨ d = -1) (he : e = 1 ∨ e = -1) :
    fin 1 (evSs (gam pg 1000 37) (tlS (tlS (tlS b__law_are_exchanges_right))) [some (.loc 0), some (.loc 1), some (.int (4 + 0)), some (.int 2), some (.tup [.tup [.int 2, .int 0, .int d], .tup [.int (2 + 1), .int 0, .int e]]), none, none, none] (pt a b c :: T2_0)) = some (.bl true, [pt a b c]) := by
  rcases hd with rfl | rfl <;> rcases he with rfl | rfl
  · exact x0_rest0_2_pp (x := x) (y := y) (z := z)
  · exact x0_rest0_2_pm (x := x) (y := y) (z := z)
  · exact x0_rest0_2_mp (x := x) (y := y) (z := z)
  · exact x0_rest0_2_mm (x := x) (y := y) (z := z)
theorem x0_rest0 {x y z a b c j d e : Int} (j0 : 0 ≤ j) (j1 : j < 3) (hd : d = 1 ∨ d = -1) (he : e = 1 ∨ e = -1) :
    fin 1 (evSs (gam pg 1000 37) (tlS (tlS (tlS b__law_are_exchanges_right))) [some (.loc 0), some (.loc 1), some (.int (4 + 0)), some (.int j), some (.tup [.tup [.int j, .int 0, .int d], .tup [.int (j + 1), .int 0, .int e]]), none, none, none] (pt a b c :: T2_0)) = some (.bl true, [pt a b c]) := by
  have hj : j = 0 ∨ j = 1 ∨ j = 2 := by omega
  rcases hj with rfl | rfl | rfl
  · exact x0_rest0_0 (x := x) (y := y) (z := z) hd he
  · exact x0_rest0_1 (x := x) (y := y) (z := z) hd he
  · exact x0_rest0_2 (x := x) (y := y) (z := z) hd he
theorem x0_rest1_0_pp {x y z a b c : Int} :
    fin 1 (evSs (gam pg 1000 37) (tlS (tlS (tlS b__law_are_exchanges_right))) [some (.loc 0), some (.loc 1), some (.int (4 + 1)), some (.int 0), some (.tup [.tup [.int 0, .int 0, .int (1)], .tup [.int (0 + 1), .int 0, .int (1)]]), none, none, none] (pt a b c :: T2_0)) = some (.bl true, [pt a b c]) := by
  kernel_rfl
theorem x0_rest1_0_pm {x y z a b c : Int} :
    fin 1 (evSs (gam pg 1000 37) (tlS (tlS (tlS b__law_are_exchanges_right))) [some (.loc 0), some (.loc 1), some (.int (4 + 1)), some (.int 0), some (.tup [.tup [.int 0, .int 0, .int (1)], .tup [.int (0 + 1), .int 0, .int (-1)]]), none, none, none] (pt a b c :: T2_0)) = some (.bl true, [pt a b c]) := by
  kernel_rfl
theorem x0_rest1_0_mp {x y z a b c : Int} :
    fin 1 (evSs (gam pg 1000 37) (tlS (tlS (tlS b__law_are_exchanges_right))) [some (.loc 0), some (.loc 1), some (.int (4 + 1)), some (.int 0), some (.tup [.tup [.int 0, .int 0, .int (-1)], .tup [.int (0 + 1), .int 0, .int (1)]]), none, none, none] (pt a b c :: T2_0)) = some (.bl true, [pt a b c]) := by
  kernel_rfl
theorem x0_rest1_0_mm {x y z a b c : Int} :
    fin 1 (evSs (gam pg 1000 37) (tlS (tlS (tlS b__law_are_exchanges_right))) [some (.loc 0), some (.loc 1), some (.int (4 + 1)), some (.int 0), some (.tup [.tup [.int 0, .int 0, .int (-1)], .tup [.int (0 + 1), .int 0, .int (-1)]]), none, none, none] (pt a b c :: T2_0)) = some (.bl true, [pt a b c]) := by
  kernel_rfl
theorem x0_rest1_0 {x y z a b c d e : Int} (hd : d = 1 ∨ d = -1) (he : e = 1 ∨ e = -1) :
    fin 1 (evSs (gam pg 1000 37) (tlS (tlS (tlS b__law_are_exchanges_right))) [some (.loc 0), some (.loc 1), some (.int (4 + 1)), some (.int 0), some (.tup [.tup [.int 0, .int 0, .int d], .tup [.int (0 + 1), .int 0, .int e]]), none, none, none] (pt a b c :: T2_0)) = some (.bl true, [pt a b c]) := by
  rcases hd with rfl | rfl <;> rcases he with rfl | rfl
  · exact x0_rest1_0_pp (x := x) (y := y) (z := z)
  · exact x0_rest1_0_pm (x := x) (y := y) (z := z)
  · exact x0_rest1_0_mp (x := x) (y := y) (z := z)
  · exact x0_rest1_0_mm (x := x) (y := y) (z := z)
theorem x0_rest1_1_pp {x y z a b c : Int} :
    fin 1 (evSs (gam pg 1000 37) (tlS (tlS (tlS b__law_are_exchanges_right))) [some (.loc 0), some (.loc 1), some (.int (4 + 1)), some (.int 1), some (.tup [.tup [.int 1, .int 0, .int (1)], .tup [.int (1 + 1), .int 0, .int (1)]]), none, none, none] (pt a b c :: T2_0)) = some (.bl true, [pt a b c]) := by
  kernel_rfl
theorem x0_rest1_1_pm {x y z a b c : Int} :
    fin 1 (evSs (gam pg 1000 37) (tlS (tlS (tlS b__law_are_exchanges_right))) [some (.loc 0), some (.loc 1), some (.int (4 + 1)), some (.int 1), some (.tup [.tup [.int 1, .int 0, .int (1)], .tup [.int (1 + 1), .int 0, .int (-1)]]), none, none, none] (pt a b c :: T2_0)) = some (.bl true, [pt a b c]) := by
  kernel_rfl
theorem x0_rest1_1_mp {x y z a b c : Int} :
    fin 1 (evSs (gam pg 1000 37) (tlS (tlS (tlS b__law_are_exchanges_right))) [some (.loc 0), some (.loc 1), some (.int (4 + 1)), some (.int 1), some (.tup [.tup [.int 1, .int 0, .int (-1)], .tup [.int (1 + 1), .int 0, .int (1)]]), none, none, none] (pt a b c :: T2_0)) = some (.bl true, [pt a b c]) := by
  kernel_rfl
theorem x0_rest1_1_mm {x y z a b c : Int} :
    fin 1 (evSs (gam pg 1000 37) (tlS (tlS (tlS b__law_are_exchanges_right))) [some (.loc 0), some (.loc 1), some (.int (4 + 1)), some (.int 1), some (.tup [.tup [.int 1, .int 0, .int (-1)], .tup [.int (1 + 1), .int 0, .int (-1)]]), none, none, none] (pt a b c :: T2_0)) = some (.bl true, [pt a b c]) := by
  kernel_rfl
theorem x0_rest1_1 {x y z a b c d e : Int} (hd : d = 1 ∨ d = -1) (he : e = 1 ∨ e = -1) :
    fin 1 (evSs (gam pg 1000 37) (tlS (tlS (tlS b__law_are_exchanges_right))) [some (.loc 0), some (.loc 1), some (.int (4 + 1)), some (.int 1), some (.tup [.tup [.int 1, .int 0, .int d], .tup [.int (1 + 1), .int 0, .int e]]), none, none, none] (pt a b c :: T2_0)) = some (.bl true, [pt a b c]) := by
  rcases hd with rfl | rfl <;> rcases he with rfl | rfl
  · exact x0_rest1_1_pp (x := x) (y := y) (z := z)
  · exact x0_rest1_1_pm (x := x) (y := y) (z := z)
  · exact x0_rest1_1_mp (x := x) (y := y) (z := z)
  · exact x0_rest1_1_mm (x := x) (y := y) (z := z)
theorem x0_rest1_2_pp {x y z a b c : Int} :
    fin 1 (evSs (gam pg 1000 37) (tlS (tlS (tlS b__law_are_exchanges_right))) [some (.loc 0), some (.loc 1), some (.int (4 + 1)), some (.int 2), some (.tup [.tup [.int 2, .int 0, .int (1)], .tup [.int (2 + 1), .int 0, .int (1)]]), none, none, none] (pt a b c :: T2_0)) = some (.bl true, [pt a b c]) := by
  kernel_rfl
theorem x0_rest1_2_pm {x y z a b c : Int} :
    fin 1 (evSs (gam pg 1000 37) (tlS (tlS (tlS b__law_are_exchanges_right))) [some (.loc 0), some (.loc 1), some (.int (4 + 1)), some (.int 2), some (.tup [.tup [.int 2, .int 0, .int (1)], .tup [.int (2 + 1), .int 0, .int (-1)]]), none, none, none] (pt a b c :: T2_0)) = some (.bl true, [pt a b c]) := by
  kernel_rfl
theorem x0_rest1_2_mp {x y z a b c : Int} :
    fin 1 (evSs (gam pg 1000 37) (tlS (tlS (tlS b__law_are_exchanges_right))) [some (.loc 0), some (.loc 1), some (.int (4 + 1)), some (.int 2), some (.tup [.tup [.int 2, .int 0, .int (-1)], .tup [.int (2 + 1), .int 0, .int (1)]]), none, none, none] (pt a b c :: T2_0)) = some (.bl true, [pt a b c]) := by
  kernel_rfl
theorem x0_rest1_2_mm {x y z a b c : Int} :
    fin 1 (evSs (gam pg 1000 37) (tlS (tlS (tlS b__law_are_exchanges_right))) [some (.loc 0), some (.loc 1), some (.int (4 + 1)), some (.int 2), some (.tup [.tup [.int 2, .int 0, .int (-1)], .tup [.int (2 + 1), .int 0, .int (-1)]]), none, none, none] (pt a b c :: T2_0)) = some (.bl true, [pt a b c]) := by
  kernel_rfl
theorem x0_rest1_2 {x y z a b c d e : Int} (hd : d = 1 ∨ d = -1) (he : e = 1 ∨ e = -1) :
    fin 1 (evSs (gam pg 1000 37) (tlS (tlS (tlS b__law_are_exchanges_right))) [some (.loc 0), some (.loc 1), some (.int (4 + 1)), some (.int 2), some (.tup [.tup [.int 2, .int 0, .int d], .tup [.int (2 + 1), .int 0, .int e]]), none, none, none] (pt a b c :: T2_0)) = some (.bl true, [pt a b c]) := by
  rcases hd with rfl | rfl <;> rcases he with rfl | rfl
  · exact x0_rest1_2_pp (x := x) (y := y) (z := z)
  · exact x0_rest1_2_pm (x := x) (y := y) (z := z)
  · exact x0_rest1_2_mp (x := x) (y := y) (z := z)
  · exact x0_rest1_2_mm (x := x) (y := y) (z := z)
theorem x0_rest1 {x y z a b c j d e : Int} (j0 : 0 ≤ j) (j1 : j < 3) (hd : d = 1 ∨ d = -1) (he : e = 1 ∨ e = -1) :
    fin 1 (evSs (gam pg 1000 37) (tlS (tlS (tlS b__law_are_exchanges_right))) [some (.loc 0), some (.loc 1), some (.int (4 + 1)), some (.int j), some (.tup [.tup [.int j, .int 0, .int d], .tup [.int (j + 1), .int 0, .int e]]), none, none, none] (pt a b c :: T2_0)) = some (.bl true, [pt a b c]) := by
  have hj : j = 0 ∨ j = 1 ∨ j = 2 := by omega
  rcases hj with rfl | rfl | rfl
  · exact x0_rest1_0 (x := x) (y := y) (z := z) hd he
  · exact x0_rest1_1 (x := x) (y := y) (z := z) hd he
  · exact x0_rest1_2 (x := x) (y := y) (z := z) hd he
theorem x0_rest2_0_pp {x y z a b c : Int} :
    fin 1 (evSs (gam pg 1000 37) (tlS (tlS (tlS b__law_are_exchanges_right))) [some (.loc 0), some (.loc 1), some (.int (4 + 2)), some (.int 0), some (.tup [.tup [.int 0, .int 0, .int (1)], .tup [.int (0 + 1), .int 0, .int (1)]]), none, none, none] (pt a b c :: T2_0)) = some (.bl true, [pt a b c]) := by
  kernel_rfl
theorem x0_rest2_0_pm {x y z a b c : Int} :
    fin 1 (evSs (gam pg 1000 37) (tlS (tlS (tlS b__law_are_exchanges_right))) [some (.loc 0), some (.loc 1), some (.int (4 + 2)), some (.int 0), some (.tup [.tup [.int 0, .int 0, .int (1)], .tup [.int (0 + 1), .int 0, .int (-1)]]), none, none, none] (pt a b c :: T2_0)) = some (.bl true, [pt a b c]) := by
  kernel_rfl
theorem x0_rest2_0_mp {x y z a b c : Int} :
    fin 1 (evSs (gam pg 1000 37) (tlS (tlS (tlS b__law_are_exchanges_right))) [some (.loc 0), some (.loc 1), some (.int (4 + 2)), some (.int 0), some (.tup [.tup [.int 0, .int 0, .int (-1)], .tup [.int (0 + 1), .int 0, .int (1)]]), none, none, none] (pt a b c :: T2_0)) = some (.bl true, [pt a b c]) := by
  kernel_rfl
theorem x0_rest2_0_mm {x y z a b c : Int} :
    fin 1 (evSs (gam pg 1000 37) (tlS (tlS (tlS b__law_are_exchanges_right))) [some (.loc 0), some (.loc 1), some (.int (4 + 2)), some (.int 0), some (.tup [.tup [.int 0, .int 0, .int (-1)], .tup [.int (0 + 1), .int 0, .int (-1)]]), none, none, none] (pt a b c :: T2_0)) = some (.bl true, [pt a b c]) := by
  kernel_rfl
theorem x0_rest2_0 {x y z a b c d e : Int} (hd : d = 1 ∨ d = -1) (he : e = 1 ∨ e = -1) :
    fin 1 (evSs (gam pg 1000 37) (tlS (tlS (tlS b__law_are_exchanges_right))) [some (.loc 0), some (.loc 1), some (.int (4 + 2)), some (.int 0), some (.tup [.tup [.int 0, .int 0, .int d], .tup [.int (0 + 1), .int 0, .int e]]), none, none, none] (pt a b c :: T2_0)) = some (.bl true, [pt a b c]) := by
  rcases hd with rfl | rfl <;> rcases he with rfl | rfl
  · exact x0_rest2_0_pp (x := x) (y := y) (z := z)
  · exact x0_rest2_0_pm (x := x) (y := y) (z := z)
  · exact x0_rest2_0_mp (x := x) (y := y) (z := z)
  · exact x0_rest2_0_mm (x := x) (y := y) (z := z)
theorem x0_rest2_1_pp {x y z a b c : Int} :
    fin 1 (evSs (gam pg 1000 37) (tlS (tlS (tlS b__law_are_exchanges_right))) [some (.loc 0), some (.loc 1), some (.int (4 + 2)), some (.int 1), some (.tup [.tup [.int 1, .int 0, .int (1)], .tup [.int (1 + 1), .int 0, .int (1)]]), none, none, none] (pt a b c :: T2_0)) = some (.bl true, [pt a b c]) := by
  kernel_rfl
theorem x0_rest2_1_pm {x y z a b c : Int} :
    fin 1 (evSs (gam pg 1000 37) (tlS (tlS (tlS b__law_are_exchanges_right))) [some (.loc 0), some (.loc 1), some (.int (4 + 2)), some (.int 1), some (.tup [.tup [.int 1, .int 0, .int (1)], .tup [.int (1 + 1), .int 0, .int (-1)]]), none, none, none] (pt a b c :: T2_0)) = some (.bl true, [pt a b c]) := by
  kernel_rfl
theorem x0_rest2_1_mp {x y z a b c : Int} :
    fin 1 (evSs (gam pg 1000 37) (tlS (tlS (tlS b__law_are_exchanges_right))) [some (.loc 0), some (.loc 1), some (.int (4 + 2)), some (.int 1), some (.tup [.tup [.int 1, .int 0, .int (-1)], .tup [.int (1 + 1), .int 0, .int (1)]]), none, none, none] (pt a b c :: T2_0)) = some (.bl true, [pt a b c]) := by
  kernel_rfl
theorem x0_rest2_1_mm {x y z a b c : Int} :
    fin 1 (evSs (gam pg 1000 37) (tlS (tlS (tlS b__law_are_exchanges_right))) [some (.loc 0), some (.loc 1), some (.int (4 + 2)), some (.int 1), some (.tup [.tup [.int 1, .int 0, .int (-1)], .tup [.int (1 + 1), .int 0, .int (-1)]]), none, none, none] (pt a b c :: T2_0)) = some (.bl true, [pt a b c]) := by
  kernel_rfl
theorem x0_rest2_1 {x y z a b c d e : Int} (hd : d = 1 ∨ d = -1) (he : e = 1 ∨ e = -1) :
    fin 1 (evSs (gam pg 1000 37) (tlS (tlS (tlS b__law_are_exchanges_right))) [some (.loc 0), some (.loc 1), some (.int (4 + 2)), some (.int 1), some (.tup [.tup [.int 1, .int 0, .int d], .tup [.int (1 + 1), .int 0, .int e]]), none, none, none] (pt a b c :: T2_0)) = some (.bl true, [pt a b c]) := by
  rcases hd with rfl | rfl <;> rcases he with rfl | rfl
  · exact x0_rest2_1_pp (x := x) (y := y) (z := z)
  · exact x0_rest2_1_pm (x := x) (y := y) (z := z)
  · exact x0_rest2_1_mp (x := x) (y := y) (z := z)
  · exact x0_rest2_1_mm (x := x) (y := y) (z := z)
theorem x0_rest2_2_pp {x y z a b c : Int} :
    fin 1 (evSs (gam pg 1000 37) (tlS (tlS (tlS b__law_are_exchanges_right))) [some (.loc 0), some (.loc 1), some (.int (4 + 2)), some (.int 2), some (.tup [.tup [.int 2, .int 0, .int (1)], .tup [.int (2 + 1), .int 0, .int (1)]]), none, none, none] (pt a b c :: T2_0)) = some (.bl true, [pt a b c]) := by
  kernel_rfl
theorem x0_rest2_2_pm {x y z a b c : Int} :
    fin 1 (evSs (gam pg 1000 37) (tlS (tlS (tlS b__law_are_exchanges_right))) [some (.loc 0), some (.loc 1), some (.int (4 + 2)), some (.int 2), some (.tup [.tup [.int 2, .int 0, .int (1)], .tup [.int (2 + 1), .int 0, .int (-1)]]), none, none, none] (pt a b c :: T2_0)) = some (.bl true, [pt a b c]) := by
  kernel_rfl
theorem x0_rest2_2_mp {x y z a b c : Int} :
    fin 1 (evSs (gam pg 1000 37) (tlS (tlS (tlS b__law_are_exchanges_right))) [some (.loc 0), some (.loc 1), some (.int (4 + 2)), some (.int 2), some (.tup [.tup [.int 2, .int 0, .int (-1)], .tup [.int (2 + 1), .int 0, .int (1)]]), none, none, none] (pt a b c :: T2_0)) = some (.bl true, [pt a b c]) := by
  kernel_rfl
theorem x0_rest2_2_mm {x y z a b c : Int} :
    fin 1 (evSs (gam pg 1000 37) (tlS (tlS (tlS b__law_are_exchanges_right))) [some (.loc 0), some (.loc 1), some (.int (4 + 2)), some (.int 2), some (.tup [.tup [.int 2, .int 0, .int (-1)], .tup [.int (2 + 1), .int 0, .int (-1)]]), none, none, none] (pt a b c :: T2_0)) = some (.bl true, [pt a b c]) := by
  kernel_rfl
theorem x0_rest2_2 {x y z a b c d e : Int} (hd : d = 1 ∨ d = -1) (he : e = 1 ∨ e = -1) :
    fin 1 (evSs (gam pg 1000 37) (tlS (tlS (tlS b__law_are_exchanges_right))) [some (.loc 0), some (.loc 1), some (.int (4 + 2)), some (.int 2), some (.tup [.tup [.int 2, .int 0, .int d], .tup [.int (2 + 1), .int 0, .int e]]), none, none, none] (pt a b c :: T2_0)) = some (.bl true, [pt a b c]) := by
  rcases hd with rfl | rfl <;> rcases he with rfl | rfl
  · exact x0_rest2_2_pp (x := x) (y := y) (z := z)
  · exact x0_rest2_2_pm (x := x) (y := y) (z := z)
  · exact x0_rest2_2_mp (x := x) (y := y) (z := z)
  · exact x0_rest2_2_mm (x := x) (y := y) (z := z)
theorem x0_rest2 {x y z a b c j d e : Int} (j0 : 0 ≤ j) (j1 : j < 3) (hd : d = 1 ∨ d = -1) (he : e = 1 ∨ e = -1) :
    fin 1 (evSs (gam pg 1000 37) (tlS (tlS (tlS b__law_are_exchanges_right))) [some (.loc 0), some (.loc 1), some (.int (4 + 2)), some (.int j), some (.tup [.tup [.int j, .int 0, .int d], .tup [.int (j + 1), .int 0, .int e]]), none, none, none] (pt a b c :: T2_0)) = some (.bl true, [pt a b c]) := by
  have hj : j = 0 ∨ j = 1 ∨ j = 2 := by omega
  rcases hj with rfl | rfl | rfl
  · exact x0_rest2_0 (x := x) (y := y) (z := z) hd he
  · exact x0_rest2_1 (x := x) (y := y) (z := z) hd he
  · exact x0_rest2_2 (x := x) (y := y) (z := z) hd he
theorem x0_rest3_0_pp {x y z a b c : Int} :
    fin 1 (evSs (gam pg 1000 37) (tlS (tlS (tlS b__law_are_exchanges_right))) [some (.loc 0), some (.loc 1), some (.int (4 + 3)), some (.int 0), some (.tup [.tup [.int 0, .int 0, .int (1)], .tup [.int (0 + 1), .int 0, .int (1)]]), none, none, none] (pt a b c :: T2_0)) = some (.bl true, [pt a b c]) := by
  kernel_rfl
theorem x0_rest3_0_pm {x y z a b c : Int} :
    fin 1 (evSs (gam pg 1000 37) (tlS (tlS (tlS b__law_are_exchanges_right))) [some (.loc 0), some (.loc 1), some (.int (4 + 3)), some (.int 0), some (.tup [.tup [.int 0, .int 0, .int (1)], .tup [.int (0 + 1), .int 0, .int (-1)]]), none, none, none] (pt a b c :: T2_0)) = some (.bl true, [pt a b c]) := by
  kernel_rfl
theorem x0_rest3_0_mp {x y z a b c : Int} :
    fin 1 (evSs (gam pg 1000 37) (tlS (tlS (tlS b__law_are_exchanges_right))) [some (.loc 0), some (.loc 1), some (.int (4 + 3)), some (.int 0), some (.tup [.tup [.int 0, .int 0, .int (-1)], .tup [.int (0 + 1), .int 0, .int (1)]]), none, none, none] (pt a b c :: T2_0)) = some (.bl true, [pt a b c]) := by
  kernel_rfl
theorem x0_rest3_0_mm {x y z a b c : Int} :
    fin 1 (evSs (gam pg 1000 37) (tlS (tlS (tlS b__law_are_exchanges_right))) [some (.loc 0), some (.loc 1), some (.int (4 + 3)), some (.int 0), some (.tup [.tup [.int 0, .int 0, .int (-1)], .tup [.int (0 + 1), .int 0, .int (-1)]]), none, none, none] (pt a b c :: T2_0)) = some (.bl true, [pt a b c]) := by
  kernel_rfl
theorem x0_rest3_0 {x y z a b c d e : Int} (hd : d = 1 ∨ d = -1) (he : e = 1 ∨ e = -1) :
    fin 1 (evSs (gam pg 1000 37) (tlS (tlS (tlS b__law_are_exchanges_right))) [some (.loc 0), some (.loc 1), some (.int (4 + 3)), some (.int 0), some (.tup [.tup [.int 0, .int 0, .int d], .tup [.int (0 + 1), .int 0, .int e]]), none, none, none] (pt a b c :: T2_0)) = some (.bl true, [pt a b c]) := by
  rcases hd with rfl | rfl <;> rcases he with rfl | rfl
  · exact x0_rest3_0_pp (x := x) (y := y) (z := z)
  · exact x0_rest3_0_pm (x := x) (y := y) (z := z)
  · exact x0_rest3_0_mp (x := x) (y := y) (z := z)
  · exact x0_rest3_0_mm (x := x) (y := y) (z := z)
theorem x0_rest3_1_pp {x y z a b c : Int} :
    fin 1 (evSs (gam pg 1000 37) (tlS (tlS (tlS b__law_are_exchanges_right))) [some (.loc 0), some (.loc 1), some (.int (4 + 3)), some (.int 1), some (.tup [.tup [.int 1, .int 0, .int (1)], .tup [.int (1 + 1), .int 0, .int (1)]]), none, none, none] (pt a b c :: T2_0)) = some (.bl true, [pt a b c]) := by
  kernel_rfl
theorem x0_rest3_1_pm {x y z a b c : Int} :
    fin 1 (evSs (gam pg 1000 37) (tlS (tlS (tlS b__law_are_exchanges_right))) [some (.loc 0), some (.loc 1), some (.int (4 + 3)), some (.int 1), some (.tup [.tup [.int 1, .int 0, .int (1)], .tup [.int (1 + 1), .int 0, .int (-1)]]), none, none, none] (pt a b c :: T2_0)) = some (.bl true, [pt a b c]) := by
  kernel_rfl
theorem x0_rest3_1_mp {x y z a b c : Int} :
    fin 1 (evSs (gam pg 1000 37) (tlS (tlS (tlS b__law_are_exchanges_right))) [some (.loc 0), some (.loc 1), some (.int (4 + 3)), some (.int 1), some (.tup [.tup [.int 1, .int 0, .int (-1)], .tup [.int (1 + 1), .int 0, .int (1)]]), none, none, none] (pt a b c :: T2_0)) = some (.bl true, [pt a b c]) := by
  kernel_rfl
theorem x0_rest3_1_mm {x y z a b c : Int} :
    fin 1 (evSs (gam pg 1000 37) (tlS (tlS (tlS b__law_are_exchanges_right))) [some (.loc 0), some (.loc 1), some (.int (4 + 3)), some (.int 1), some (.tup [.tup [.int 1, .int 0, .int (-1)], .tup [.int (1 + 1), .int 0, .int (-1)]]), none, none, none] (pt a b c :: T2_0)) = some (.bl true, [pt a b c]) := by
  kernel_rfl
theorem x0_rest3_1 {x y z a b c d e : Int} (hd : d = 1 ∨ d = -1) (he : e = 1 ∨ e = -1) :
    fin 1 (evSs (gam pg 1000 37) (tlS (tlS (tlS b__law_are_exchanges_right))) [some (.loc 0), some (.loc 1), some (.int (4 + 3)), some (.int 1), some (.tup [.tup [.int 1, .int 0, .int d], .tup [.int (1 + 1), .int 0, .int e]]), none, none, none] (pt a b c :: T2_0)) = some (.bl true, [pt a b c]) := by
  rcases hd with rfl | rfl <;> rcases he with rfl | rfl
  · exact x0_rest3_1_pp (x := x) (y := y) (z := z)
  · exact x0_rest3_1_pm (x := x) (y := y) (z := z)
  · exact x0_rest3_1_mp (x := x) (y := y) (z := z)
  · exact x0_rest3_1_mm (x := x) (y := y) (z := z)
theorem x0_rest3_2_pp {x y z a b c : Int} :
    fin 1 (evSs (gam pg 1000 37) (tlS (tlS (tlS b__law_are_exchanges_right))) [some (.loc 0), some (.loc 1), some (.int (4 + 3)), some (.int 2), some (.tup [.tup [.int 2, .int 0, .int (1)], .tup [.int (2 + 1), .int 0, .int (1)]]), none, none, none] (pt a b c :: T2_0)) = some (.bl true, [pt a b c]) := by
  kernel_rfl
theorem x0_rest3_2_pm {x y z a b c : Int} :
    fin 1 (evSs (gam pg 1000 37) (tlS (tlS (tlS b__law_are_exchanges_right))) [some (.loc 0), some (.loc 1), some (.int (4 + 3)), some (.int 2), some (.tup [.tup [.int 2, .int 0, .int (1)], .tup [.int (2 + 1), .int 0, .int (-1)]]), none, none, none] (pt a b c :: T2_0)) = some (.bl true, [pt a b c]) := by
  kernel_rfl
theorem x0_rest3_2_mp {x y z a b c : Int} :
    fin 1 (evSs (gam pg 1000 37) (tlS (tlS (tlS b__law_are_exchanges_right))) [some (.loc 0), some (.loc 1), some (.int (4 + 3)), some (.int 2), some (.tup [.tup [.int 2, .int 0, .int (-1)], .tup [.int (2 + 1), .int 0, .int (1)]]), none, none, none] (pt a b c :: T2_0)) = some (.bl true, [pt a b c]) := by
  kernel_rfl
theorem x0_rest3_2_mm {x y z a b c : Int} :
    fin 1 (evSs (gam pg 1000 37) (tlS (tlS (tlS b__law_are_exchanges_right))) [some (.loc 0), some (.loc 1), some (.int (4 + 3)), some (.int 2), some (.tup [.tup [.int 2, .int 0, .int (-1)], .tup [.int (2 + 1), .int 0, .int (-1)]]), none, none, none] (pt a b c :: T2_0)) = some (.bl true, [pt a b c]) := by
  kernel_rfl
theorem x0_rest3_2 {x y z a b c d e : Int} (hd : d = 1 ∨ d = -1) (he : e = 1 ∨ e = -1) :
    fin 1 (evSs (gam pg 1000 37) (tlS (tlS (tlS b__law_are_exchanges_right))) [some (.loc 0), some (.loc 1), some (.int (4 + 3)), some (.int 2), some (.tup [.tup [.int 2, .int 0, .int d], .tup [.int (2 + 1), .int 0, .int e]]), none, none, none] (pt a b c :: T2_0)) = some (.bl true, [pt a b c]) := by
  rcases hd with rfl | rfl <;> rcases he with rfl | rfl
  · exact x0_rest3_2_pp (x := x) (y := y) (z := z)
  · exact x0_rest3_2_pm (x := x) (y := y) (z := z)
  · exact x0_rest3_2_mp (x := x) (y := y) (z := z)
  · exact x0_rest3_2_mm (x := x) (y := y) (z := z)
theorem x0_rest3 {x y z a b c j d e : Int} (j0 : 0 ≤ j) (j1 : j < 3) (hd : d = 1 ∨ d = -1) (he : e = 1 ∨ e = -1) :
    fin 1 (evSs (gam pg 1000 37) (tlS (tlS (tlS b__law_are_exchanges_right))) [some (.loc 0), some (.loc 1), some (.int (4 + 3)), some (.int j), some (.tup [.tup [.int j, .int 0, .int d], .tup [.int (j + 1), .int 0, .int e]]), none, none, none] (pt a b c :: T2_0)) = some (.bl true, [pt a b c]) := by
  have hj : j = 0 ∨ j = 1 ∨ j = 2 := by omega
  rcases hj with rfl | rfl | rfl
  · exact x0_rest3_0 (x := x) (y := y) (z := z) hd he
  · exact x0_rest3_1 (x := x) (y := y) (z := z) hd he
  · exact x0_rest3_2 (x := x) (y := y) (z := z) hd he
theorem x0_rest4_0_pp {x y z a b c : Int} :
    fin 1 (evSs (gam pg 1000 37) (tlS (tlS (tlS b__law_are_exchanges_right))) [some (.loc 0), some (.loc 1), some (.int (4 + 4)), some (.int 0), some (.tup [.tup [.int 0, .int 0, .int (1)], .tup [.int (0 + 1), .int 0, .int (1)]]), none, none, none] (pt a b c :: T2_0)) = some (.bl true, [pt a b c]) := by
  kernel_rfl
theorem x0_rest4_0_pm {x y z a b c : Int} :
    fin 1 (evSs (gam pg 1000 37) (tlS (tlS (tlS b__law_are_exchanges_right))) [some (.loc 0), some (.loc 1), some (.int (4 + 4)), some (.int 0), some (.tup [.tup [.int 0, .int 0, .int (1)], .tup [.int (0 + 1), .int 0, .int (-1)]]), none, none, none] (pt a b c :: T2_0)) = some (.bl true, [pt a b c]) := by
  kernel_rfl
theorem x0_rest4_0_mp {x y z a b c : Int} :
    fin 1 (evSs (gam pg 1000 37) (tlS (tlS (tlS b__law_are_exchanges_right))) [some (.loc 0), some (.loc 1), some (.int (4 + 4)), some (.int 0), some (.tup [.tup [.int 0, .int 0, .int (-1)], .tup [.int (0 + 1), .int 0, .int (1)]]), none, none, none] (pt a b c :: T2_0)) = some (.bl true, [pt a b c]) := by
  kernel_rfl
theorem x0_rest4_0_mm {x y z a b c : Int} :
    fin 1 (evSs (gam pg 1000 37) (tlS (tlS (tlS b__law_are_exchanges_right))) [some (.loc 0), some (.loc 1), some (.int (4 + 4)), some (.int 0), some (.tup [.tup [.int 0, .int 0, .int (-1)], .tup [.int (0 + 1), .int 0, .int (-1)]]), none, none, none] (pt a b c :: T2_0)) = some (.bl true, [pt a b c]) := by
  kernel_rfl
theorem x0_rest4_0 {x y z a b c d e : Int} (hd : d = 1 ∨ d = -1) (he : e = 1 ∨ e = -1) :
    fin 1 (evSs (gam pg 1000 37) (tlS (tlS (tlS b__law_are_exchanges_right))) [some (.loc 0), some (.loc 1), some (.int (4 + 4)), some (.int 0), some (.tup [.tup [.int 0, .int 0, .int d], .tup [.int (0 + 1), .int 0, .int e]]), none, none, none] (pt a b c :: T2_0)) = some (.bl true, [pt a b c]) := by
  rcases hd with rfl | rfl <;> rcases he with rfl | rfl
  · exact x0_rest4_0_pp (x := x) (y := y) (z := z)
  · exact x0_rest4_0_pm (x := x) (y := y) (z := z)
  · exact x0_rest4_0_mp (x := x) (y := y) (z := z)
  · exact x0_rest4_0_mm (x := x) (y := y) (z := z)
theorem x0_rest4_1_pp {x y z a b c : Int} :
    fin 1 (evSs (gam pg 1000 37) (tlS (tlS (tlS b__law_are_exchanges_right))) [some (.loc 0), some (.loc 1), some (.int (4 + 4)), some (.int 1), some (.tup [.tup [.int 1, .int 0, .int (1)], .tup [.int (1 + 1), .int 0, .int (1)]]), none, none, none] (pt a b c :: T2_0)) = some (.bl true, [pt a b c]) := by
  kernel_rfl
theorem x0_rest4_1_pm {x y z a b c : Int} :
    fin 1 (evSs (gam pg 1000 37) (tlS (tlS (tlS b__law_are_exchanges_right))) [some (.loc 0), some (.loc 1), some (.int (4 + 4)), some (.int 1), some (.tup [.tup [.int 1, .int 0, .int (1)], .tup [.int (1 + 1), .int 0, .int (-1)]]), none, none, none] (pt a b c :: T2_0)) = some (.bl true, [pt a b c]) := by
  kernel_rfl
theorem x0_rest4_1_mp {x y z a b c : Int} :
    fin 1 (evSs (gam pg 1000 37) (tlS (tlS (tlS b__law_are_exchanges_right))) [some (.loc 0), some (.loc 1), some (.int (4 + 4)), some (.int 1), some (.tup [.tup [.int 1, .int 0, .int (-1)], .tup [.int (1 + 1), .int 0, .int (1)]]), none, none, none] (pt a b c :: T2_0)) = some (.bl true, [pt a b c]) := by
  kernel_rfl
theorem x0_rest4_1_mm {x y z a b c : Int} :
    fin 1 (evSs (gam pg 1000 37) (tlS (tlS (tlS b__law_are_exchanges_right))) [some (.loc 0), some (.loc 1), some (.int (4 + 4)), some (.int 1), some (.tup [.tup [.int 1, .int 0, .int (-1)], .tup [.int (1 + 1), .int 0, .int (-1)]]), none, none, none] (pt a b c :: T2_0)) = some (.bl true, [pt a b c]) := by
  kernel_rfl
theorem x0_rest4_1 {x y z a b c d e : Int} (hd : d = 1 ∨ d = -1) (he : e = 1 ∨ e = -1) :
    fin 1 (evSs (gam pg 1000 37) (tlS (tlS (tlS b__law_are_exchanges_right))) [some (.loc 0), some (.loc 1), some (.int (4 + 4)), some (.int 1), some (.tup [.tup [.int 1, .int 0, .int d], .tup [.int (1 + 1), .int 0, .int e]]), none, none, none] (pt a b c :: T2_0)) = some (.bl true, [pt a b c]) := by
  rcases hd with rfl | rfl <;> rcases he with rfl | rfl
  · exact x0_rest4_1_pp (x := x) (y := y) (z := z)
  · exact x0_rest4_1_pm (x := x) (y := y) (z := z)
  · exact x0_rest4_1_mp (x := x) (y := y) (z := z)
  · exact x0_rest4_1_mm (x := x) (y := y) (z := z)
theorem x0_rest4_2_pp {x y z a b c : Int} :
    fin 1 (evSs (gam pg 1000 37) (tlS (tlS (tlS b__law_are_exchanges_right))) [some (.loc 0), some (.loc 1), some (.int (4 + 4)), some (.int 2), some (.tup [.tup [.int 2, .int 0, .int (1)], .tup [.int (2 + 1), .int 0, .int (1)]]), none, none, none] (pt a b c :: T2_0)) = some (.bl true, [pt a b c]) := by
  kernel_rfl
theorem x0_rest4_2_pm {x y z a b c : Int} :
    fin 1 (evSs (gam pg 1000 37) (tlS (tlS (tlS b__law_are_exchanges_right))) [some (.loc 0), some (.loc 1), some (.int (4 + 4)), some (.int 2), some (.tup [.tup [.int 2, .int 0, .int (1)], .tup [.int (2 + 1), .int 0, .int (-1)]]), none, none, none] (pt a b c :: T2_0)) = some (.bl true, [pt a b c]) := by
  kernel_rfl
theorem x0_rest4_2_mp {x y z a b c : Int} :
    fin 1 (evSs (gam pg 1000 37) (tlS (tlS (tlS b__law_are_exchanges_right))) [some (.loc 0), some (.loc 1), some (.int (4 + 4)), some (.int 2), some (.tup [.tup [.int 2, .int 0, .int (-1)], .tup [.int (2 + 1), .int 0, .int (1)]]), none, none, none] (pt a b c :: T2_0)) = some (.bl true, [pt a b c]) := by
  kernel_rfl
theorem x0_rest4_2_mm {x y z a b c : Int} :
    fin 1 (evSs (gam pg 1000 37) (tlS (tlS (tlS b__law_are_exchanges_right))) [some (.loc 0), some (.loc 1), some (.int (4 + 4)), some (.int 2), some (.tup [.tup [.int 2, .int 0, .int (-1)], .tup [.int (2 + 1), .int 0, .int (-1)]]), none, none, none] (pt a b c :: T2_0)) = some (.bl true, [pt a b c]) := by
  kernel_rfl
theorem x0_rest4_2 {x y z a b c d e : Int} (hd : d = 1 ∨ d = -1) (he : e = 1 ∨ e = -1) :
    fin 1 (evSs (gam pg 1000 37) (tlS (tlS (tlS b__law_are_exchanges_right))) [some (.loc 0), some (.loc 1), some (.int (4 + 4)), some (.int 2), some (.tup [.tup [.int 2, .int 0, .int d], .tup [.int (2 + 1), .int 0, .int e]]), none, none, none] (pt a b c :: T2_0)) = some (.bl true, [pt a b c]) := by
  rcases hd with rfl | rfl <;> rcases he with rfl | rfl
  · exact x0_rest4_2_pp (x := x) (y := y) (z := z)
  · exact x0_rest4_2_pm (x := x) (y := y) (z := z)
  · exact x0_rest4_2_mp (x := x) (y := y) (z := z)
  · exact x0_rest4_2_mm (x := x) (y := y) (z := z)
theorem x0_rest4 {x y z a b c j d e : Int} (j0 : 0 ≤ j) (j1 : j < 3) (hd : d = 1 ∨ d = -1) (he : e = 1 ∨ e = -1) :
    fin 1 (evSs (gam pg 1000 37) (tlS (tlS (tlS b__law_are_exchanges_right))) [some (.loc 0), some (.loc 1), some (.int (4 + 4)), some (.int j), some (.tup [.tup [.int j, .int 0, .int d], .tup [.int (j + 1), .int 0, .int e]]), none, none, none] (pt a b c :: T2_0)) = some (.bl true, [pt a b c]) := by
  have hj : j = 0 ∨ j = 1 ∨ j = 2 := by omega
  rcases hj with rfl | rfl | rfl
  · exact x0_rest4_0 (x := x) (y := y) (z := z) hd he
  · exact x0_rest4_1 (x := x) (y := y) (z := z) hd he
  · exact x0_rest4_2 (x := x) (y := y) (z := z) hd he
theorem x0_rest {x y z a b c i j d e : Int} (i0 : 0 ≤ i) (i1 : i < 5) (j0 : 0 ≤ j) (j1 : j < 3) (hd : d = 1 ∨ d = -1) (he : e = 1 ∨ e = -1) :
    fin 1 (evSs (gam pg 1000 37) (tlS (tlS (tlS b__law_are_exchanges_right))) [some (.loc 0), some (.loc 1), some (.int (4 + i)), some (.int j), some (.tup [.tup [.int j, .int 0, .int d], .tup [.int (j + 1), .int 0, .int e]]), none, none, none] (pt a b c :: T2_0)) = some (.bl true, [pt a b c]) := by
  have hi : i = 0 ∨ i = 1 ∨ i = 2 ∨ i = 3 ∨ i = 4 := by omega
  rcases hi with rfl | rfl | rfl | rfl | rfl
  · exact x0_rest0 (x := x) (y := y) (z := z) j0 j1 hd he
  · exact x0_rest1 (x := x) (y := y) (z := z) j0 j1 hd he
  · exact x0_rest2 (x := x) (y := y) (z := z) j0 j1 hd he
  · exact x0_rest3 (x := x) (y := y) (z := z) j0 j1 hd he
  · exact x0_rest4 (x := x) (y := y) (z := z) j0 j1 hd he
theorem x0_ok {x y z a b c : Int} {m : Nat} (h : Pt m a b c) (hm : m < 100) : ∃ a' c', callN pg 1000 38 "_law_are_exchanges_right" [.loc 0] [pt a b c] = .ok (.bl true) ([pt a' b c']) ∧ Pt (m + 4) a' b c' := by
  have mk : mkR (gam pg 1000 37) "Program" [.str lit__law_are_exchanges_right] [pt a b c] = .ok (.loc 1) (pt a b c :: T2_0) := by kernel_rfl
  obtain ⟨a1, c1, i, e1, i0, i1, h1⟩ := take_k (n := 36) (p := 0) (u := 5) (S := (pt a b c :: T2_0)) (by kernel_rfl) rfl h (by omega) (by decide) (by decide)
  simp only [List.set_cons_zero, List.set_cons_succ] at e1
  obtain ⟨a2, c2, j, e2, j0, j1, h2⟩ := take_k (n := 36) (p := 0) (u := 3) (S := (pt a1 b c1 :: T2_0)) (by kernel_rfl) rfl h1 (by omega) (by decide) (by decide)
  simp only [List.set_cons_zero, List.set_cons_succ] at e2
  obtain ⟨a3, c3, d, e3, hd, h3⟩ := of_k (n := 35) (p := 0) (l := [.int 1, .int (-1)]) (S := (pt a2 b c2 :: T2_0)) (by kernel_rfl) rfl h2 (by omega) (by decide) (by decide) rfl
  simp only [List.set_cons_zero, List.set_cons_succ] at e3
  obtain ⟨a4, c4, d', e4, hd', h4⟩ := of_k (n := 35) (p := 0) (l := [.int 1, .int (-1)]) (S := (pt a3 b c3 :: T2_0)) (by kernel_rfl) rfl h3 (by omega) (by decide) (by decide) rfl
  simp only [List.set_cons_zero, List.set_cons_succ] at e4
  have one : ∀ d ∈ [Ev.D.int 1, .int (-1)], ∃ u : Int, d = .int u ∧ (u = 1 ∨ u = -1) := by
    intro d hd
    simp at hd
    rcases hd with rfl | rfl
    · exact ⟨1, rfl, .inl rfl⟩
    · exact ⟨-1, rfl, .inr rfl⟩
  obtain ⟨u, rfl, hu⟩ := one d hd
  obtain ⟨v, rfl, hv⟩ := one d' hd'
  have ng : (-(1 : Int)) = -1 := rfl
  have q : W (callN pg 1000 38 "_law_are_exchanges_right" [.loc 0] [pt a b c]) fun v S' => v = .bl true ∧ S' = [pt a4 b c4] := by
    refine call_gc (d := d__law_are_exchanges_right) (by kernel_rfl) rfl rfl ?_
    refine W_hd (σ' := [some (.loc 0), some (.loc 1), none, none, none, none, none, none]) (S' := (pt a b c :: T2_0)) rfl ?_ ?_
    · simp only [hdS, b__law_are_exchanges_right, List.replicate, List.map, List.cons_append, List.nil_append, List.getElem?_cons_zero, List.getElem?_cons_succ, List.set_cons_zero, List.set_cons_succ, List.length_cons, List.length_nil, List.append, evSs, evS, evT, evE, evEs, evAs, evF, evO, evI, evIf, evAnd, evOr, W_bind, W_ok, W_some, idxD, ixD, deref, Option.map_some, cmpD, truD, bltD, binD, tyD, bindT, bindTs, setD, flV, Option.some.injEq, exists_eq_left', exists_eq_left, if_true, if_false, ite_true, ite_false, reduceIte, decide_true, decide_false, reduceCtorEq, Nat.reduceAdd, Nat.reduceSub, Bool.not_true, Bool.not_false, Bool.false_eq_true, or_true, or_false, and_true, true_and, false_or, true_or, List.length_append, ln0, ln1, ln2, ln3, ln4, ln5, ln6, ln7, ln8, ln9, ln10, ln11, ln12, ln13, ln14, ln15, R.bind, R.of, mk]
    refine W_hd (σ' := [some (.loc 0), some (.loc 1), some (.int (4 + i)), some (.int j), none, none, none, none]) (S' := (pt a2 b c2 :: T2_0)) rfl ?_ ?_
    · simp only [hdS, tlS, b__law_are_exchanges_right, List.replicate, List.map, List.cons_append, List.nil_append, List.getElem?_cons_zero, List.getElem?_cons_succ, List.set_cons_zero, List.set_cons_succ, List.length_cons, List.length_nil, List.append, evSs, evS, evT, evE, evEs, evAs, evF, evO, evI, evIf, evAnd, evOr, W_bind, W_ok, W_some, idxD, ixD, deref, Option.map_some, cmpD, truD, bltD, binD, tyD, bindT, bindTs, setD, flV, Option.some.injEq, exists_eq_left', exists_eq_left, if_true, if_false, ite_true, ite_false, reduceIte, decide_true, decide_false, reduceCtorEq, Nat.reduceAdd, Nat.reduceSub, Bool.not_true, Bool.not_false, Bool.false_eq_true, or_true, or_false, and_true, true_and, false_or, true_or, List.length_append, ln0, ln1, ln2, ln3, ln4, ln5, ln6, ln7, ln8, ln9, ln10, ln11, ln12, ln13, ln14, ln15, R.bind, R.of, e1, e2, b_add]
    refine W_hd (σ' := [some (.loc 0), some (.loc 1), some (.int (4 + i)), some (.int j), some (.tup [.tup [.int j, .int 0, .int u], .tup [.int (j + 1), .int 0, .int v]]), none, none, none]) (S' := (pt a4 b c4 :: T2_0)) rfl ?_ ?_
    · simp only [hdS, tlS, b__law_are_exchanges_right, List.replicate, List.map, List.cons_append, List.nil_append, List.getElem?_cons_zero, List.getElem?_cons_succ, List.set_cons_zero, List.set_cons_succ, List.length_cons, List.length_nil, List.append, evSs, evS, evT, evE, evEs, evAs, evF, evO, evI, evIf, evAnd, evOr, W_bind, W_ok, W_some, idxD, ixD, deref, Option.map_some, cmpD, truD, bltD, binD, tyD, bindT, bindTs, setD, flV, Option.some.injEq, exists_eq_left', exists_eq_left, if_true, if_false, ite_true, ite_false, reduceIte, decide_true, decide_false, reduceCtorEq, Nat.reduceAdd, Nat.reduceSub, Bool.not_true, Bool.not_false, Bool.false_eq_true, or_true, or_false, and_true, true_and, false_or, true_or, List.length_append, ln0, ln1, ln2, ln3, ln4, ln5, ln6, ln7, ln8, ln9, ln10, ln11, ln12, ln13, ln14, ln15, R.bind, R.of, e3, e4, b_add, negD]
    exact W_fin (v := .bl true) (S' := [pt a4 b c4]) (x0_rest (x := x) (y := y) (z := z) i0 i1 j0 j1 hu hv) rfl rfl ⟨rfl, rfl⟩
  obtain ⟨v, S1, e, rfl, rfl⟩ := W_get q
  exact ⟨a4, c4, e, h4⟩
theorem right_ok (S : Ev.Sto) (a b : Int) (j : Nat) (hP : Pots j S) (h : Pt 0 a b 0) : ∃ a' b' c', callN pg 1000 39 "_law_right" [.loc j] (S ++ [pt a b 0]) = .ok (.bl true) (S ++ [pt a' b' c']) := by
  obtain ⟨a1, c1, e1, h1⟩ := s0_ok (x := 0) (y := 0) (z := 0) h (by decide)
  obtain ⟨a2, c2, e2, h2⟩ := x0_ok (x := 0) (y := 0) (z := 0) h1 (by decide)
  have e3 : callN pg 1000 38 "_law_are_lots_right" [] [pt a2 b c2] = .ok (.bl true) [pt a2 b c2] := by kernel_rfl
  have q : W (callN pg 1000 39 "_law_right" [.loc j] (S ++ [pt a b 0])) fun v S' => v = .bl true ∧ S' = S ++ [pt a2 b c2] := right_sub hP (d := d__law_right) (by kernel_rfl) rfl rfl (by
    simp only [b__law_right, List.replicate, List.map, List.cons_append, List.nil_append, List.getElem?_cons_zero, List.getElem?_cons_succ, List.set_cons_zero, List.set_cons_succ, List.length_cons, List.length_nil, List.append, evSs, evS, evT, evE, evEs, evAs, evF, evO, evI, evIf, evAnd, evOr, W_bind, W_ok, W_some, idxD, ixD, deref, Option.map_some, cmpD, truD, bltD, binD, tyD, bindT, bindTs, setD, flV, Option.some.injEq, exists_eq_left', exists_eq_left, if_true, if_false, ite_true, ite_false, reduceIte, decide_true, decide_false, reduceCtorEq, Nat.reduceAdd, Nat.reduceSub, Bool.not_true, Bool.not_false, Bool.false_eq_true, or_true, or_false, and_true, true_and, false_or, true_or, List.length_append, ln0, ln1, ln2, ln3, ln4, ln5, ln6, ln7, ln8, ln9, ln10, ln11, ln12, ln13, ln14, ln15, e1, e2, e3])
  obtain ⟨v, S1, e, rfl, rfl⟩ := W_get q
  exact ⟨a2, b, c2, e⟩
theorem all_ok (ns : List Int) (hn : ns.length ≤ 63) : ∃ S, callN pg 1000 40 "law" [.frl (ns.map Ev.D.int)] [] = .ok (.bl true) S := law_k (lev := 38) right_ok hn
end Lw
theorem PySem.Challenge.cw_onestillview_k15_beats_by_hand_holds : PySem.Challenge.rw_onestillview_k15_beats_by_hand.Holds := by
  exact hold_of fun ns h _ => Lw.all_ok ns h

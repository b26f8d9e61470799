import PyProof.Rows.All
import Wide.All
import OpenK.AllK
import Wide.FinOn
import KE.KStateDown
import HandS.ForMost
import HandS.More
import HandS.Defaults
import HandS.IsInst
import HandS.Style
import HandS.TupAny
import HandS.TupMul
import HandS.Deep
import HandS.Walk
import HandS.Zip
import HandS.CallLocal
import KE.KDictKeyed
import HandS.SortInts
import HandS.Wide
import HandS.Small
import PyProof.StrOps2
import HandS.Head0
import HandS.Head1
import HandS.Head2
import HandS.HeadEnd
import HandS.HeadHook1
import HandS.HeadHook2
import HandS.HeadHook3
import HandS.HeadHook4
import PySem.Challenge.RW_wishlane_k69_whole_papers_spoilt_anywher
import HandS.DictTup
import HandS.TupSets
import HandS.DictComp
import HandS.TupLen
import PyProof.CollectIter
import PyProof.WalksMore
import HandS.RaiseMore
import PyProof.ReprReads
import HandS.Ends
import HandS.Flow
set_option Elab.async false
set_option linter.all false
set_option maxRecDepth 100000
set_option maxHeartbeats 4000000
/-! DL0: tuples whose very object is kept; sorted(tuple), text * int, tuple * int. -/
namespace HT
open PySem PySem.Spec PyProof.Rows L2
section
variable {prog : Program} {w : World} {A : Around} {E : Value → Shared → Prop} {s : Shared}
theorem fm_congr {α β : Type} {f g : α → Option β} : ∀ {l : List α}, (∀ a ∈ l, f a = g a) → l.filterMap f = l.filterMap g
  | [], _ => rfl
  | a :: l, h => by rw [List.filterMap_cons, List.filterMap_cons, h a List.mem_cons_self, fm_congr fun b hb => h b (List.mem_cons_of_mem _ hb)]
theorem pick_rev (xs : Array Value) : ((List.range xs.size).filterMap fun (m : Nat) => xs[((xs.size : Int) - 1 + (m : Int) * (-1)).toNat]?).toArray = xs.toList.reverse.toArray := by
  congr 1
  have e : ∀ m ∈ List.range xs.size, (fun (m : Nat) => xs[((xs.size : Int) - 1 + (m : Int) * (-1)).toNat]?) m = (fun m => xs[xs.size - 1 - m]?) m := by
    intro m hm
    have hm := List.mem_range.mp hm
    show xs[((xs.size : Int) - 1 + (m : Int) * (-1)).toNat]? = xs[xs.size - 1 - m]?
    have : ((xs.size : Int) - 1 + (m : Int) * (-1)).toNat = xs.size - 1 - m := by omega
    rw [this]
  rw [fm_congr e]
  have e2 : (fun m => xs[xs.size - 1 - m]?) = (xs[·]?) ∘ fun m => xs.size - 1 - m := rfl
  rw [e2, ← List.filterMap_map, PySem.W.krv_range, List.filterMap_reverse, PySem.W.krv_all]
theorem sliceApplied_rev {sl : Addr} {vs : Value} {n : Nat} {Q : Int × Int × Nat → Shared → Prop} (hs : s.heap.IsSliceOf sl .none .none vs) (ps : IsPart vs (some (-1)))
    (h : Q ((n : Int) - 1, -1, n) s) : wpAny (model prog w) A (Builtin.Slice.sliceApplied (.ref sl) (pure (n : Int))) Q E s := by
  obtain ⟨os, hos, hcs, hds⟩ := id hs
  unfold Builtin.Slice.sliceApplied Builtin.Slice.sliceFields
  refine wpAny_bind (wpAny_bind (wpAny_field hos hds (x := .none) rfl (wpAny_bind (wpAny_field hos hds (x := .none) rfl (wpAny_bind (wpAny_field hos hds (x := vs) rfl (wpAny_pure ?_)))))))
  refine wpAny_bind (slicePart_ ps ?_)
  show wpAny _ _ (if ((-1 : Int) == 0) = true then _ else _) _ _ s
  rw [if_neg (by decide)]
  refine wpAny_bind (slicePart_none (wpAny_bind (slicePart_none (wpAny_bind (wpAny_pure ?_)))))
  have e1 : Builtin.Slice.sliceAdjust none none (-1) (n : Int) = ((n : Int) - 1, -1) := by
    unfold Builtin.Slice.sliceAdjust
    simp
  have e2 : Builtin.Slice.slicePlaces ((n : Int) - 1) (-1) (-1) = n := by
    unfold Builtin.Slice.slicePlaces
    simp
    split <;> omega
  show wpAny _ _ (match Builtin.Slice.sliceAdjust none none (-1) (n : Int) with | (lo, hi) => pure (lo, (-1 : Int), Builtin.Slice.slicePlaces lo hi (-1))) _ _ s
  rw [e1]
  show wpAny _ _ (pure ((n : Int) - 1, (-1 : Int), Builtin.Slice.slicePlaces ((n : Int) - 1) (-1) (-1))) _ _ s
  rw [e2]
  exact wpAny_pure h
theorem getItem_tuple_rev {t sl : Addr} {items : Array Value} {vs : Value} {Q : Value → Shared → Prop} (ht : IsTup s.heap t items) (hs : s.heap.IsSliceOf sl .none .none vs) (ps : IsPart vs (some (-1)))
    (h : Q (.ref s.heap.objs.size) { s with heap := s.heap.push { cls := .type "tuple", data := .seq items.toList.reverse.toArray } })
    (hsz : items.size ≤ sizeLine) : wpAny (model prog w) A (getItem (.ref t) (.ref sl)) Q E s := by
  have htake : sizeOk (.seq items.toList.reverse.toArray) := by
    show items.toList.reverse.toArray.size ≤ sizeLine
    rw [List.size_toArray, List.length_reverse, Array.length_toList]
    exact hsz
  obtain ⟨os, hos, hcs, hds⟩ := id hs
  have hTs : s.TypeIs (.ref sl) "slice" := ⟨os, hos, hcs⟩
  unfold getItem
  try with_reducible refine wpAny_holding ?_
  first | refine wpAny_bind (wpAny_pure ?_) | skip
  refine wpAny_bind (wpAny_sequenceKey ht.typeIs (by decide) ?_)
  refine wpAny_bind (wpAny_callSpecial?_slot (name := Str.ofString "__getitem__") ht.typeIs PyProof.Rows.slot_tuple_getitem
    (wpAny_call_entry PyProof.Rows.slot_tuple_getitem ht.typeIs entry_tuple_getitem ?_ (args_tuple_getitem _ _)))
  show wpAny _ _ (Builtin.Tuple.tupleItemsOf (.ref t) >>= _) _ _ s
  refine wpAny_bind (tupleItemsOf_ ht ?_)
  refine wpAny_bind (wpAny_typeOf hTs ?_)
  rw [if_pos (by decide)]
  refine wpAny_bind (sliceApplied_rev hs ps ?_)
  have hno : ¬ ((((items.size : Int) - 1) == 0 && (-1 : Int) == 1 && items.size == items.size) = true) := by simp
  show wpAny _ _ (if (((items.size : Int) - 1) == 0 && (-1 : Int) == 1 && items.size == items.size) = true then _ else _) _ _ s
  rw [if_neg hno, pick_rev]
  first
    | exact wpAny_bind (m := Builtin.Tuple.tupleExact _) (wpAny_newObj_type (wpAny_pure ⟨_, rfl, wpAny_pure h⟩) htake)
    | exact wpAny_bind (m := Builtin.Tuple.tupleExact _) (wpAny_newObj_type (wpAny_bind (wpAny_pure (wpAny_pure ⟨_, rfl, wpAny_pure h⟩))) htake)
    | exact wpAny_bind (wpAny_bind (m := Builtin.Tuple.tupleExact _) (wpAny_newObj_type (wpAny_pure (wpAny_pure ⟨_, rfl, wpAny_pure h⟩)) htake))
    | exact wpAny_bind (wpAny_bind (m := Builtin.Tuple.tupleExact _) (wpAny_newObj_type (wpAny_pure ⟨_, rfl, wpAny_pure h⟩) htake))
end
end HT
namespace PyProof.Rows
open PySem PySem.Spec SrtO
section
variable {prog : Program} {w : World} {A : Around} {E : Value → Shared → Prop} {s : Shared}
/-- collect of a tuple -/
theorem collect_tup {l : Addr} {vs : List Value} {Q : List Value → Shared → Prop} (hl : IsTup s.heap l vs.toArray)
    (h : Q vs { s with heap := (s.heap.push (seqObj "list" #[] 0)).update s.heap.objs.size (Obj.mapSeq (· ++ vs.toArray)) }) (hsz : vs.length ≤ sizeLine := by size_fits) :
    wpAny (model prog w) A (collect (.ref l)) Q E s := by
  obtain ⟨o, ho, hc, n, hd⟩ := id hl
  unfold collect
  refine wpAny_bind (wpAny_runValue (codeAny_builtin entry_proto_collect' ?_))
  show wpAny _ _ (do again (.builtin "list.__iadd__" ⟨[← newList [], .ref l], []⟩)) _ _ s
  refine wpAny_bind (wpAny_newList (wpAny_pure ⟨Code.quiet_builtin _ (by decide +kernel), codeAny_builtin entry_list_iadd' ?_⟩))
  show wpAny _ _ (Builtin.List.listExtendWith (.ref s.heap.objs.size) (.ref l) (.ref s.heap.objs.size)) _ _ { s with heap := s.heap.push (seqObj "list" #[] 0) }
  unfold Builtin.List.listExtendWith
  have ho' : (s.heap.push (seqObj "list" #[] 0)).get? l = some o := Heap.get?_push_of_some _ ho
  refine wpAny_bind (wpAny_typeOf (T := "tuple") ⟨o, ho', hc⟩ ?_)
  have ht : (Value.type "tuple" == Value.type "tuple") = true := by rfl
  rw [if_pos (by rw [ht]; simp)]
  refine wpAny_bind (listItems_at ho' hd ?_)
  refine wpAny_bind (listItems_at (xs := #[]) (n := 0) (Heap.get?_push_size _ rfl) rfl ?_)
  rw [if_neg (by simp)]
  refine wpAny_bind (listUpdate_at (xs := #[]) (n := 0) (Heap.get?_push_size _ rfl) rfl ?_ (Nat.zero_le _) (by show (#[] ++ vs.toArray).size ≤ sizeLine + 1; simp only [Array.size_append, List.size_toArray, List.length_nil]; omega))
  refine wpAny_pure ?_
  show wpAny (model prog w) A (do
      let o ← load s.heap.objs.size
      match o.data with
      | .seq xs _ => pure xs.toList
      | _ => unsupported "internal:collect") Q E { s with heap := (s.heap.push (seqObj "list" #[] 0)).update s.heap.objs.size (Obj.mapSeq (· ++ vs.toArray)) }
  refine wpAny_bind (wpAny_load (get?_update_seq (Heap.get?_push_size _ rfl) _) ?_)
  show wpAny _ _ (pure ((#[] : Array Value) ++ vs.toArray).toList) Q E _
  rw [show ((#[] : Array Value) ++ vs.toArray).toList = vs by simp]
  exact wpAny_pure h
theorem sorted_ordT {l : Addr} {vs : List Value} {ltv : Value → Value → Bool} {Q : Value → Shared → Prop} (O : Swo ltv) (hl : IsTup s.heap l vs.toArray) (hz : vs.length ≤ sizeLine)
    (hS : 2 ≤ vs.length → ∀ (h₁ : Heap) (a : Addr), h₁.get? a = some (seqObj "list" vs.toArray 0) → (∀ b o, s.heap.get? b = some o → b ≠ a ∧ h₁.get? b = some o) → SortableO prog w A.in1.in1 { s with heap := h₁ } a vs ltv)
    (h : ∀ out : List Value, Srtd ltv out → Stb ltv out vs → Q (.ref (s.heap.objs.size + 1)) { s with heap := sortedAll s.heap vs out.toArray }) :
    wpAny (model prog w) A (call (.builtin "sorted") [.ref l]) Q E s := by
  refine Calls.call_function_entry kind_sorted plain_sorted entry_sorted (args_sorted1 _) ?_
  unfold Builtin.«sorted»
  refine wpAny_bind (m := checkCount "sorted" 1 1 _) (wpAny_pure ?_)
  refine wpAny_bind (collect_tup hl ?_ hz)
  refine wpAny_bind (wpAny_newList ?_ hz)
  have hsz : ((s.heap.push (seqObj "list" #[] 0)).update s.heap.objs.size (Obj.mapSeq (· ++ vs.toArray))).objs.size = s.heap.objs.size + 1 := by
    rw [Heap.size_update, size_push']
  have hoL : (((s.heap.push (seqObj "list" #[] 0)).update s.heap.objs.size (Obj.mapSeq (· ++ vs.toArray))).push (seqObj "list" vs.toArray 0)).get? (s.heap.objs.size + 1) = some (seqObj "list" vs.toArray 0) := by
    rw [← hsz]; exact Heap.get?_push_size _ rfl
  have keep : ∀ b o, s.heap.get? b = some o → b ≠ s.heap.objs.size + 1 ∧ (((s.heap.push (seqObj "list" #[] 0)).update s.heap.objs.size (Obj.mapSeq (· ++ vs.toArray))).push (seqObj "list" vs.toArray 0)).get? b = some o := fun b o q => by
    have hlt : b < s.heap.objs.size := Heap.lt_size q
    refine ⟨Nat.ne_of_lt (Nat.lt_succ_of_lt hlt), Heap.get?_push_of_some _ ?_⟩
    rw [Heap.get?_update_ne _ _ _ _ (Nat.ne_of_lt hlt)]
    exact Heap.get?_push_of_some _ q
  show wpAny _ _ _ _ _ { s with heap := ((s.heap.push (seqObj "list" #[] 0)).update s.heap.objs.size (Obj.mapSeq (· ++ vs.toArray))).push (seqObj "list" vs.toArray 0) }
  rw [hsz]
  refine wpAny_bind (wpAny_holding (wpAny_call_entry slot_list_sort ⟨_, hoL, rfl⟩ entry_list_sort (list_sort_ord O hoL hz (fun h2 => hS h2 _ _ hoL keep) fun out hs hb => ⟨_, rfl, ?_⟩) (args_list_sort _)))
  exact wpAny_pure ⟨_, rfl, h out hs hb⟩
end
end PyProof.Rows
namespace L2
open PySem PySem.Spec PyProof.Rows
def rSortedIT (K : PySem.W.Frag) : List V → Hp → VK → Prop := fun vs H Q => ∃ (a : Addr) (ns : List Int), vs = [V.ref a] ∧ SqT K H a (ns.map V.int) ∧
  ∀ (ns' : List Int) (p : Addr), ns'.Perm ns → ns'.Pairwise (· ≤ ·) → H p = none → Q (.ref p) (upd H p (.lst (ns'.map V.int)))
def tRevB (K : PySem.W.Frag) (te : TE) : TE := fun σ H Q => te σ H fun x H1 => (∃ a xs, x = .ref a ∧ SqL K H1 a xs ∧ ∀ p, H1 p = none → Q (.ref p) (upd H1 p (.lst xs.reverse))) ∨
  ∃ a xs, x = .ref a ∧ SqT K H1 a xs ∧ ∀ p ob, H1 p = none → ob.dict = none → Q (.ref p) (upd H1 p (.frz ob (.tup xs.reverse)))
section
variable {X : Cx}
theorem cr_sortedIT : CallR X (.builtin "sorted") (rSortedIT X.K) := by
  intro pins s σ H vs us Q I r h
  obtain ⟨a, ns, rfl, hs, q⟩ := h
  obtain ⟨its, rv, hl, hz⟩ := I.tuple hs
  rw [Vals.ref1 r]
  have hi := rv.ints
  refine sorted_ordT SrtO.swo_int hl (by rw [← rv.length]; exact hz) (fun h2 h₁ a' _ _ => SrtO.ints_sortable hi h2) fun out h1 h2 => ?_
  obtain ⟨k1, k2, k3⟩ := SrtO.ints_out hi h1 h2
  obtain ⟨ep, he'⟩ := PyProof.Rows.sortedAll_at s.heap its out.toArray
  have hlen : ((out.map SrtO.iv).map V.int).length ≤ sizeLine := by
    rw [List.length_map, k2.length_eq]
    rw [List.length_map] at hz
    exact hz
  exact ⟨.ref _, upd H (s.heap.objs.size + 1) (.lst ((out.map SrtO.iv).map V.int)), I.laid (t' := s.toks) (fun _ _ => PyProof.Rows.sortedAll_old) (Nat.le_succ _) ⟨hlen, out, ep, vals_of_ints k1, he'⟩, rfl, q _ _ k2 k3 (I.hok.fresh (Nat.le_succ _))⟩
theorem pe_revB {e : Expr} {te : TE} {k : Nat} {p1 p2 p3 pos : Pos} (he : PE X e te) : PE X (.Subscript e (.Slice none none (some (.UnaryOp .USub (.Constant (.int 1) k p1) p2)) p3) pos) (tRevB X.K te) := by
  refine ⟨fun pins s σ H Q I h => ?_⟩
  refine Subscript_ (thn (he.run pins s σ H _ I h) fun v s1 ⟨x, H1, I1, r1, q1⟩ => ?_)
  rcases q1 with ⟨a, xs, ex, hx, q⟩ | ⟨a, xs, ex, hx, q⟩
  · subst ex
    cases r1
    have hst : PO X (some (.UnaryOp .USub (.Constant (.int 1) k p1) p2)) (tPart (tUn (rU fun i => .int (-i)) (tC (.int 1)))) := po_some (pe_un un_neg pe_int)
    refine wpAny_Slice (thn (po_none.run pins s1 σ H1 (fun o H2 => o = none ∧ H2 = H1) I1 ⟨rfl, rfl⟩) fun vl s2 ⟨l, H2, I2, pl, el, e2⟩ => ?_)
    subst el e2
    refine thn (po_none.run pins s2 σ H2 (fun o H3 => o = none ∧ H3 = H2) I2 ⟨rfl, rfl⟩) fun vu s3 ⟨u, H3, I3, pu, eu, e3⟩ => ?_
    subst eu e3
    refine thn (hst.run pins s3 σ H3 (fun o H4 => o = some (-1) ∧ H4 = H3) I3 ⟨1, rfl, -1, rfl, rfl, rfl⟩) fun vs s4 ⟨o, H4, I4, ps, eo, e4⟩ => ?_
    subst eo e4
    have I5 : Inv X pins σ H4 { s4 with heap := s4.heap.push { cls := .type "slice", data := .fields #[vl, vu, vs] } } := I4.kept (t' := s4.toks) fun b ob q => Heap.get?_push_of_some _ q
    obtain ⟨its, r, ht, hz⟩ := I5.list hx
    have hlen := r.length
    show wpAny (model X.prog X.w) X.A (subscriptTail e (.Slice none none (some (.UnaryOp .USub (.Constant (.int 1) k p1) p2)) p3) (.ref a) (.ref s4.heap.objs.size)) (EP X pins σ Q) X.xe { s4 with heap := s4.heap.push { cls := .type "slice", data := .fields #[vl, vu, vs] } }
    refine tail_any (ops := [.ref a, .ref s4.heap.objs.size]) ht.isList.typeIs (PySem.slot_list_getitem.lookup) ?_ (by with_unfolding_all rfl)
    refine wpAny_getItem_list_slice ht.isList (Heap.IsSliceOf.new _ vl vu vs) pl pu ps (by decide) ?_ (by rw [List.size_toArray]; omega)
    rw [PySem.W.krv_pick]
    refine ⟨.ref _, _, I5.laid (t' := s4.toks) (o := .lst xs.reverse) (fun b ob q => Heap.get?_push_of_some _ q) (Nat.le_refl _) ?_, rfl, q _ (I5.hok.fresh (Nat.le_refl _))⟩
    exact ⟨by rw [List.length_reverse]; exact hz, _, 0, r.reverse, Heap.get?_push_size _ rfl⟩
  · subst ex
    cases r1
    have hst : PO X (some (.UnaryOp .USub (.Constant (.int 1) k p1) p2)) (tPart (tUn (rU fun i => .int (-i)) (tC (.int 1)))) := po_some (pe_un un_neg pe_int)
    refine wpAny_Slice (thn (po_none.run pins s1 σ H1 (fun o H2 => o = none ∧ H2 = H1) I1 ⟨rfl, rfl⟩) fun vl s2 ⟨l, H2, I2, pl, el, e2⟩ => ?_)
    subst el e2
    refine thn (po_none.run pins s2 σ H2 (fun o H3 => o = none ∧ H3 = H2) I2 ⟨rfl, rfl⟩) fun vu s3 ⟨u, H3, I3, pu, eu, e3⟩ => ?_
    subst eu e3
    refine thn (hst.run pins s3 σ H3 (fun o H4 => o = some (-1) ∧ H4 = H3) I3 ⟨1, rfl, -1, rfl, rfl, rfl⟩) fun vs s4 ⟨o, H4, I4, ps, eo, e4⟩ => ?_
    subst eo e4
    cases pl
    cases pu
    have I5 : Inv X pins σ H4 { s4 with heap := s4.heap.push { cls := .type "slice", data := .fields #[.none, .none, vs] } } := I4.kept (t' := s4.toks) fun b ob q => Heap.get?_push_of_some _ q
    obtain ⟨its, r, ht, hz⟩ := I5.tuple hx
    have hlen := r.length
    show wpAny (model X.prog X.w) X.A (subscriptTail e (.Slice none none (some (.UnaryOp .USub (.Constant (.int 1) k p1) p2)) p3) (.ref a) (.ref s4.heap.objs.size)) (EP X pins σ Q) X.xe { s4 with heap := s4.heap.push { cls := .type "slice", data := .fields #[.none, .none, vs] } }
    refine tail_any (ops := [.ref a, .ref s4.heap.objs.size]) ht.typeIs (PyProof.Rows.slot_tuple_getitem.lookup) ?_ (by with_unfolding_all rfl)
    refine HT.getItem_tuple_rev ht (Heap.IsSliceOf.new _ .none .none vs) ps ?_ (by rw [List.size_toArray]; omega)
    refine ⟨.ref _, _, I5.laid (t' := s4.toks) (o := .frz { cls := .type "tuple", data := .seq its.toArray.toList.reverse.toArray } (.tup xs.reverse)) (fun b ob q => Heap.get?_push_of_some _ q) (Nat.le_refl _) ?_, rfl, q _ _ (I5.hok.fresh (Nat.le_refl _)) rfl⟩
    exact ⟨Heap.get?_push_size _ rfl, by rw [List.length_reverse]; exact hz, _, r.reverse, IsTup.new _ _⟩
/-- one sign * int -/
def rStrMul : R2 := fun x y H Q => ∃ (c : Nat) (n : Int), x = .str ⟨#[c]⟩ ∧ y = .int n ∧ 0 ≤ n ∧ n ≤ 1000 ∧ Q (.str ⟨(List.replicate n.toNat c).toArray⟩) H
theorem rep_go (c : Nat) : ∀ (m : Nat) (acc : Array Nat), List.foldl (fun x1 x2 => x1 ++ x2) acc (List.replicate m (#[c] : Array Nat)) = acc ++ (List.replicate m c).toArray
  | 0, acc => by simp
  | m + 1, acc => by
    rw [List.replicate_succ, List.foldl_cons, rep_go c m, List.replicate_succ]
    apply Array.ext'
    simp
theorem rep_one (c : Nat) (m : Nat) : (List.foldl (fun x1 x2 => x1 ++ x2) #[] (List.replicate m (#[c] : Array Nat))) = (List.replicate m c).toArray := by
  rw [rep_go]; simp
theorem op_strMul : OpR X (binaryOp .Mult) rStrMul := by
  intro pins s σ H x y v u Q I rx ry h
  obtain ⟨c, n, rfl, rfl, h0, h1, q⟩ := h
  obtain ⟨t, rfl⟩ := rx
  obtain ⟨t2, rfl⟩ := ry
  have hl : (⟨#[c]⟩ : Str).length = 1 := rfl
  refine PySem.P.mul_str (by rw [decide_eq_false (by omega), decide_eq_false (by omega)]; rfl) (fun h2 _ h3 => ?_) (fun _ _ => ?_) ?_
  · have : (2 ^ 63 - 1) / n ≥ (2 ^ 63 - 1) / 1000 := by
      have := Int.le_ediv_of_mul_le (a := (2 ^ 63 - 1) / 1000) (b := 2 ^ 63 - 1) (c := n) (by omega) (by
        have : (2 ^ 63 - 1) / 1000 * n ≤ (2 ^ 63 - 1) / 1000 * 1000 := Int.mul_le_mul_of_nonneg_left h1 (by decide)
        omega)
      exact this
    rw [hl] at h3
    omega
  · unfold Builtin.Str.tooLong
    rw [hl, sizeLine_eq]
    exact decide_eq_false (by omega)
  · by_cases h2 : n < 1
    · have e : n = 0 := by omega
      subst e
      rw [if_pos h2]
      exact ⟨by decide, .str _, H, I.tok _, ⟨_, rfl⟩, q⟩
    · rw [if_neg h2]
      by_cases h3 : n = 1
      · subst h3
        rw [if_pos (by simp)]
        exact ⟨.str _, H, I.tok _, ⟨_, rfl⟩, q⟩
      · rw [if_neg (by rw [hl]; simp [h3])]
        rw [rep_one]
        refine ⟨?_, .str _, H, I.tok _, ⟨_, rfl⟩, q⟩
        show (List.replicate n.toNat c).toArray.size ≤ sizeLine
        rw [List.size_toArray, List.length_replicate, sizeLine_eq]
        omega
/-- () * int -/
theorem tuple_mulE (l : Addr) (n : Nat) (dd : Option Addr) (sl : Array (Option Value)) (x : Int) (u : Tok) (c0 : (decide (x < -(2 ^ 63)) || decide (x ≥ 2 ^ 63)) = false) :
    Meets (Builtin.«tuple.__mul__» ⟨[.ref l, .int x u], []⟩) (fun _ R s => s.heap.get? l = some { cls := .type "tuple", dict := dd, data := .seq #[] n, slots := sl } ∧ R (.ok (.ret (Value.ref l))) s) :=
  .of_wp fun prog w A R s h => by
    obtain ⟨hp, g, d, tk, os⟩ := s
    obtain ⟨hl, h⟩ := h
    have f1 := AutoSeq1.idx_int
    have c1 : ((#[] : Array Value).isEmpty || x == 1) = true := rfl
    wp_walk using wpAny_loadPart' hl
    repeat (first
      | (refine wpAny_ite_false (decide_eq_false (by rw [c0]; exact Bool.false_ne_true)) ?_; wp_walk using wpAny_loadPart' hl)
      | (refine wpAny_ite_true (decide_eq_true c1) ?_; wp_walk using wpAny_loadPart' hl))
    exact ⟨_, rfl, h⟩
theorem op_repT0 : OpR X (binaryOp .Mult) (fun x y H Q => ∃ l k, x = .ref l ∧ y = .int k ∧ SqT X.K H l [] ∧ 2 ≤ k ∧ k ≤ 1000 ∧ Q (.ref l) H) := by
  intro pins s σ H x y v u Q I rx ry h
  obtain ⟨l, k, rfl, rfl, hT, h1, h2, q⟩ := h
  cases rx
  obtain ⟨t, rfl⟩ := ry
  obtain ⟨its, r, ⟨⟨cls, dd, data, sl⟩, ho, hc, n, hd⟩, hs⟩ := I.tuple hT
  simp only at hc hd
  subst hc hd
  cases r
  have c0 : (decide (k < -(2 ^ 63)) || decide (k ≥ 2 ^ 63)) = false := by
    rw [decide_eq_false (by omega), decide_eq_false (by omega)] <;> rfl
  exact wpAny_binaryOp_repeat_ref (T := "tuple") (U := "int") (by decide) ⟨_, ho, rfl⟩ (fun s' => typeIs_int s' k t) noFill_tuple_mul F.fills_int_mul F.slot_int_rmul repeat_tuple F.slot_int_index.lookup
    (call_meets F.slot_int_rmul (typeIs_int s k t) F.entry_int_rmul (F.args_int_rmul_2 _ _) (int_rmul_tuple k t l _ n dd sl)
      ⟨ho, rfl, ⟨_, ho, rfl⟩, call_meets F.slot_tuple_mul ⟨_, ho, rfl⟩ F.entry_tuple_mul (F.args_tuple_mul_2 _ _) (tuple_mulE l n dd sl k t c0) ⟨ho, .ref l, H, I, rfl, q⟩⟩)
/-! ### the makers of tuples, the object kept -/
def tTupF (t : TA) : TE := fun σ H Q => t σ H fun xs H1 => xs.length ≤ sizeLine ∧ ∀ p ob, H1 p = none → ob.dict = none → Q (.ref p) (upd H1 p (.frz ob (.tup xs)))
theorem pe_tupF {es : List Expr} {t : TA} {pos : Pos} {x1} (h : PA X es t) : PE X (.Tuple es x1 pos) (tTupF t) := by
  refine ⟨fun pins s σ H Q I hq => ?_⟩
  refine wpAny_Tuple_spliced (thn (h.run pos pins s σ H _ I hq) fun us s1 ⟨xs, H1, I1, r, z, q⟩ => ⟨by rw [← r.length]; exact z, ?_⟩)
  have hf : H1 s1.heap.objs.size = none := I1.hok.fresh (Nat.le_refl _)
  refine ⟨.ref s1.heap.objs.size, upd H1 s1.heap.objs.size (.frz { cls := .type "tuple", data := .seq us.toArray } (.tup xs)), I1.laid (t' := s1.toks) (fun b u e => Heap.get?_push_of_some _ e) (Nat.le_refl _) ?_, rfl, q _ _ hf rfl⟩
  exact ⟨Heap.get?_push_size _ rfl, z, us, r, IsTup.new _ _⟩
def rTupCF (K : PySem.W.Frag) : List V → Hp → VK → Prop := fun xs H Q => ∃ p ys, xs = [.ref p] ∧ ((SqL K H p ys ∧ ∀ l ob, H l = none → ob.dict = none → Q (.ref l) (upd H l (.frz ob (.tup ys)))) ∨ (SqT K H p ys ∧ Q (.ref p) H))
theorem call_tuple_ofF : CallR X (.type "tuple") (rTupCF X.K) := by
  intro pins s σ H xs us Q I r h
  obtain ⟨p, ys, rfl, h⟩ := h
  obtain ⟨u, rfl, rx⟩ := vals1 r
  cases rx
  rcases h with ⟨hq, q⟩ | ⟨hq, q⟩
  · obtain ⟨its, r', pl, hz⟩ := I.list hq
    have hlen := r'.length
    refine call_tuple_list pl.isList (fun h' kp => ?_) (by simp only [List.size_toArray] <;> omega)
    have I1 : Inv X pins σ H { s with heap := h' } := I.kept (t' := s.toks) kp
    have I2 : Inv X pins σ (upd H h'.objs.size (.frz { cls := .type "tuple", data := .seq its.toArray } (.tup ys))) { s with heap := h'.push { cls := .type "tuple", data := .seq its.toArray } } :=
      I1.laid (t' := s.toks) (fun b o e => Heap.get?_push_of_some _ e) (Nat.le_refl _) (show ObjOk X.prog X.w _ _ _ (.frz _ (.tup ys)) from ⟨Heap.get?_push_size _ rfl, hz, its, r', IsTup.new _ _⟩)
    exact ⟨.ref h'.objs.size, _, I2, rfl, q _ _ (I1.hok.fresh (Nat.le_refl _)) rfl⟩
  · obtain ⟨its, r', pl, hz⟩ := I.tuple hq
    exact call_tuple_same pl ⟨.ref p, H, I, rfl, q⟩
def rCatF (K : PySem.W.Frag) : R2 := fun x y H Q => ∃ a b xs ys, x = .ref a ∧ y = .ref b ∧ SqT K H a xs ∧ SqT K H b ys ∧ xs.length + ys.length ≤ sizeLine ∧
  (xs = [] → Q (.ref b) H) ∧ (xs ≠ [] → ys = [] → Q (.ref a) H) ∧ (xs ≠ [] → ys ≠ [] → ∀ p ob, H p = none → ob.dict = none → Q (.ref p) (upd H p (.frz ob (.tup (xs ++ ys)))))
theorem op_catF : OpR X (binaryOp .Add) (rCatF X.K) := by
  intro pins s σ H x y v u Q I rx ry h
  obtain ⟨a, b, xs, ys, rfl, rfl, ha, hb, hz, q0, q1, q2⟩ := h
  cases rx
  cases ry
  obtain ⟨its, r1, p1, _⟩ := I.tuple ha
  obtain ⟨its2, r2, p2, _⟩ := I.tuple hb
  by_cases hx : xs = []
  · subst hx
    cases r1
    exact cat_tup0 p1 p2 ⟨.ref b, H, I, rfl, q0 rfl⟩
  · refine HT.cat_tup p1 p2 (fun z => hx (r1.nil_iff.mp z)) (fun z => ⟨.ref a, H, I, rfl, q1 hx (r2.nil_iff.mp z)⟩) (fun z => ?_) (by rw [← r1.length, ← r2.length]; exact hz)
    refine ⟨.ref s.heap.objs.size, _, I.laid (t' := s.toks) (o := .frz { cls := .type "tuple", data := .seq (its ++ its2).toArray } (.tup (xs ++ ys))) (fun b ob q => Heap.get?_push_of_some _ q) (Nat.le_refl _) ?_, rfl, q2 hx (fun w => z (r2.nil_iff.mpr w)) _ _ (I.hok.fresh (Nat.le_refl _)) rfl⟩
    exact ⟨Heap.get?_push_size _ rfl, by rw [List.length_append]; exact hz, _, r1.append r2, IsTup.new _ _⟩
def rSlF (K : PySem.W.Frag) : V → Option Int → Option Int → Hp → VK → Prop := fun x lo hi H Q => ∃ a xs, x = .ref a ∧ SqT K H a xs ∧
  (HT.sIx xs.length 0 lo = 0 ∧ HT.sIx xs.length xs.length hi = xs.length → Q (.ref a) H) ∧ (¬ (HT.sIx xs.length 0 lo = 0 ∧ HT.sIx xs.length xs.length hi = xs.length) → ∀ p ob, H p = none → ob.dict = none → Q (.ref p) (upd H p (.frz ob (.tup (cutV xs lo hi)))))
theorem sl_tupF : SlR X (rSlF X.K) := by
  intro pins s σ H x v vl vu lo hi sl Q I rx hs pl pu h
  obtain ⟨a, xs, rfl, hx, q1, q2⟩ := h
  cases rx
  obtain ⟨its, r, ht, hz⟩ := I.tuple hx
  have hlen : its.toArray.size = xs.length := by rw [List.size_toArray]; exact r.length.symm
  refine ⟨"tuple", _, PyProof.Rows.slot_tuple_getitem.lookup, ht.typeIs, ?_⟩
  by_cases hw : HT.sIx xs.length 0 lo = 0 ∧ HT.sIx xs.length xs.length hi = xs.length
  · exact getItem_tuple_whole ht hs pl pu (by rw [hlen]; exact hw) ⟨.ref a, H, I, rfl, q1 hw⟩
  · refine HT.getItem_tuple_cut ht hs pl pu (by rw [hlen]; exact hw) ?_ (by rw [hlen]; exact hz)
    rw [hlen]
    refine ⟨.ref s.heap.objs.size, _, I.laid (t' := s.toks) (o := .frz { cls := .type "tuple", data := .seq ((its.toArray.toList.drop (HT.sIx xs.length 0 lo)).take (HT.sIx xs.length xs.length hi - HT.sIx xs.length 0 lo)).toArray } (.tup (cutV xs lo hi))) (fun b ob q => Heap.get?_push_of_some _ q) (Nat.le_refl _) ?_, rfl, q2 hw _ _ (I.hok.fresh (Nat.le_refl _)) rfl⟩
    exact ⟨Heap.get?_push_size _ rfl, Nat.le_trans (cutV_length xs lo hi) hz, _, (r.drop (HT.sIx xs.length 0 lo)).take (HT.sIx xs.length xs.length hi - HT.sIx xs.length 0 lo), IsTup.new _ _⟩
def rRepF (K : PySem.W.Frag) : R2 := fun x y H Q => ∃ l k xs, x = .ref l ∧ y = .int k ∧ SqT K H l xs ∧ xs ≠ [] ∧ 2 ≤ k ∧ k ≤ 1000 ∧ xs.length ≤ 1000 ∧ ∀ p ob, H p = none → ob.dict = none → Q (.ref p) (upd H p (.frz ob (.tup (List.replicate k.toNat xs).flatten)))
theorem op_repF : OpR X (binaryOp .Mult) (rRepF X.K) := by
  intro pins s σ H x y v u Q I rx ry h
  obtain ⟨l, k, xs, rfl, rfl, hT, hne, h1, h2, hz, q⟩ := h
  cases rx
  obtain ⟨t, rfl⟩ := ry
  obtain ⟨its, r, ⟨⟨cls, dd, data, sl⟩, ho, hc, n, hd⟩, hs⟩ := I.tuple hT
  simp only at hc hd
  subst hc hd
  have hle : its.length = xs.length := r.length.symm
  have hn : its ≠ [] := fun e => hne (by
    rw [e] at hle
    exact List.eq_nil_of_length_eq_zero hle.symm)
  have hi : its.toArray.isEmpty = false := by
    cases its with
    | nil => exact absurd rfl hn
    | cons a b => rfl
  have hsz0 : its.toArray.size = xs.length := by rw [List.size_toArray, hle]
  have hm : ((its.toArray.size : Nat) : Int) * k ≤ 1000000 := by
    rw [hsz0]
    have a1 : ((xs.length : Nat) : Int) * k ≤ 1000 * k := Int.mul_le_mul_of_nonneg_right (by omega) (by omega)
    omega
  have flen : (List.replicate k.toNat its).flatten.length ≤ sizeLine := by
    rw [PyProof.Rows.lm_len_rep_flat, hle, sizeLine_eq]
    have a1 : k.toNat * xs.length ≤ 1000 * 1000 := Nat.mul_le_mul (by omega) hz
    omega
  have c0 : (decide (k < -(2 ^ 63)) || decide (k ≥ 2 ^ 63)) = false := by
    rw [decide_eq_false (by omega), decide_eq_false (by omega)] <;> rfl
  have c1 : (its.toArray.isEmpty || k == 1) = false := by
    rw [hi, Bool.false_or]
    exact beq_eq_false_iff_ne.mpr (by omega)
  have c2 : (decide (k ≤ 0) || its.toArray.isEmpty) = false := by
    rw [hi, Bool.or_false]
    exact decide_eq_false (by omega)
  have c4 : Builtin.Tuple.tupleTooMany (((its.toArray.size : Nat) : Int) * k) = false := by
    unfold Builtin.Tuple.tupleTooMany
    rw [sizeLine_eq]
    exact decide_eq_false (by omega)
  refine wpAny_binaryOp_repeat_ref (T := "tuple") (U := "int") (by decide) ⟨_, ho, rfl⟩ (fun s' => typeIs_int s' k t) noFill_tuple_mul F.fills_int_mul F.slot_int_rmul repeat_tuple F.slot_int_index.lookup
    (call_meets F.slot_int_rmul (typeIs_int s k t) F.entry_int_rmul (F.args_int_rmul_2 _ _) (int_rmul_tuple k t l its.toArray n dd sl)
      ⟨ho, rfl, ⟨_, ho, rfl⟩, call_meets F.slot_tuple_mul ⟨_, ho, rfl⟩ F.entry_tuple_mul (F.args_tuple_mul_2 _ _) (tuple_mulW l its.toArray n dd sl k t c0 c1 c2 (by omega) c4 (by rw [size_rep, List.size_toArray]; exact flen)) ⟨ho, ?_⟩⟩)
  rw [size_rep]
  refine ⟨.ref s.heap.objs.size, _, I.laid (t' := s.toks) (o := .frz { cls := .type "tuple", data := .seq (List.replicate k.toNat its).flatten.toArray } (.tup (List.replicate k.toNat xs).flatten)) (fun b ob q => Heap.get?_push_of_some _ q) (Nat.le_refl _) ?_, rfl, q _ _ (I.hok.fresh (Nat.le_refl _)) rfl⟩
  exact ⟨Heap.get?_push_size _ rfl, by rw [PyProof.Rows.lm_len_rep_flat, sizeLine_eq]; have a1 : k.toNat * xs.length ≤ 1000 * 1000 := Nat.mul_le_mul (by omega) hz; omega, _, r.rep k.toNat, IsTup.new _ _⟩
end
end L2
set_option Elab.async false
set_option linter.all false
set_option maxRecDepth 100000
set_option maxHeartbeats 4000000
/-! DL1: values without a heap, the ghost of frozen data, what an expression is worth. -/
namespace DL
open PySem PySem.Spec L2

/-- the world, what K holds -/
structure Wk where
  w : World
  K : PySem.W.Frag
abbrev wkOf (X : Cx) : Wk := ⟨X.w, X.K⟩
/-- a tuple, its very object kept -/
def TupF (F : Hp) (a : Addr) (xs : List V) : Prop := ∃ ob, F a = some (.frz ob (.tup xs)) ∧ ob.dict = none
theorem TupF.sq {K : PySem.W.Frag} {F H : Hp} {a : Addr} {xs : List V} (h : TupF F a xs) (e : Same F H) : SqT K H a xs := let ⟨ob, h1, _⟩ := h; .inl (.inr ⟨ob, e _ _ h1⟩)
theorem TupF.mono {F H : Hp} {a : Addr} {xs : List V} (h : TupF F a xs) (e : Same F H) : TupF H a xs := let ⟨ob, h1, h2⟩ := h; ⟨ob, e _ _ h1, h2⟩
theorem TupF.new {F : Hp} {a : Addr} {xs : List V} {ob : Obj} (h : ob.dict = none) : TupF (upd F a (.frz ob (.tup xs))) a xs := ⟨ob, upd_same, h⟩

mutual
/-- data: every list and tuple of it is frozen -/
inductive Dq (F : Hp) : V → PyData → Prop
  | non : Dq F .non .none
  | bl (b : Bool) : Dq F (.bl b) (.bool b)
  | int (i : Int) : Dq F (.int i) (.int i)
  | str (x : Str) : Dq F (.str x) (.str x)
  | lst {a : Addr} {xs : List V} {ds : List PyData} : F a = some (.lst xs) → DqAll F xs ds → Dq F (.ref a) (.list ds)
  | tup {a : Addr} {xs : List V} {ds : List PyData} : TupF F a xs → DqAll F xs ds → Dq F (.ref a) (.tuple ds)
inductive DqAll (F : Hp) : List V → List PyData → Prop
  | nil : DqAll F [] []
  | cons {v : V} {vs : List V} {d : PyData} {ds : List PyData} : Dq F v d → DqAll F vs ds → DqAll F (v :: vs) (d :: ds)
end
mutual
theorem dp_mono {F G : Hp} (e : Same F G) : ∀ (d : PyData) (v : V), Dq F v d → Dq G v d
  | _, _, .non => .non
  | _, _, .bl b => .bl b
  | _, _, .int i => .int i
  | _, _, .str x => .str x
  | .list ds, _, .lst h t => .lst (e _ _ h) (dp_monoA e ds _ t)
  | .tuple ds, _, .tup h t => .tup (h.mono e) (dp_monoA e ds _ t)
theorem dp_monoA {F G : Hp} (e : Same F G) : ∀ (ds : List PyData) (vs : List V), DqAll F vs ds → DqAll G vs ds
  | _, _, .nil => .nil
  | d :: ds, _, .cons h t => .cons (dp_mono e d _ h) (dp_monoA e ds _ t)
end
mutual
theorem dq_dp {K : PySem.W.Frag} {F H : Hp} (e : Same F H) : ∀ (d : PyData) (v : V), Dq F v d → Dp K H v d
  | _, _, .non => .non
  | _, _, .bl b => .bl b
  | _, _, .int i => .int i
  | _, _, .str x => .str x
  | .list ds, _, .lst h t => .lst (SqL.of (e _ _ h)) (dq_dpA e ds _ t)
  | .tuple ds, _, .tup h t => .tup (h.sq e) (dq_dpA e ds _ t)
theorem dq_dpA {K : PySem.W.Frag} {F H : Hp} (e : Same F H) : ∀ (ds : List PyData) (vs : List V), DqAll F vs ds → DpAll K H vs ds
  | _, _, .nil => .nil
  | d :: ds, _, .cons h t => .cons (dq_dp e d _ h) (dq_dpA e ds _ t)
end

theorem dpa_len {F : Hp} : ∀ {vs : List V} {ds : List PyData}, DqAll F vs ds → vs.length = ds.length
  | _, _, .nil => rfl
  | _, _, .cons _ t => by simp [dpa_len t]
theorem dpa_get {F : Hp} : ∀ {vs : List V} {ds : List PyData} {i : Nat} {d : PyData}, DqAll F vs ds → ds[i]? = some d → ∃ v, vs[i]? = some v ∧ Dq F v d
  | _, _, _, _, .nil, e => by simp at e
  | _, _, 0, _, .cons h _, e => by simp at e; subst e; exact ⟨_, rfl, h⟩
  | _, _, i + 1, _, .cons _ t, e => by simpa using dpa_get t (by simpa using e)
theorem dpa_app {F : Hp} : ∀ {vs : List V} {ds : List PyData} {us : List V} {es : List PyData}, DqAll F vs ds → DqAll F us es → DqAll F (vs ++ us) (ds ++ es)
  | _, _, _, _, .nil, s => s
  | _, _, _, _, .cons h t, s => .cons h (dpa_app t s)
theorem dpa_take {F : Hp} : ∀ {vs : List V} {ds : List PyData} (n : Nat), DqAll F vs ds → DqAll F (vs.take n) (ds.take n)
  | _, _, 0, _ => .nil
  | _, _, _ + 1, .nil => .nil
  | _, _, n + 1, .cons h t => .cons h (dpa_take n t)
theorem dpa_drop {F : Hp} : ∀ {vs : List V} {ds : List PyData} (n : Nat), DqAll F vs ds → DqAll F (vs.drop n) (ds.drop n)
  | _, _, 0, h => h
  | _, _, _ + 1, .nil => .nil
  | _, _, n + 1, .cons _ t => dpa_drop n t
theorem dpa_set {F : Hp} {v : V} {d : PyData} (h : Dq F v d) : ∀ {vs : List V} {ds : List PyData} (i : Nat), DqAll F vs ds → DqAll F (vs.set i v) (ds.set i d)
  | _, _, _, .nil => .nil
  | _, _, 0, .cons _ t => .cons h t
  | _, _, i + 1, .cons q t => .cons q (dpa_set h i t)
theorem dpa_rev {F : Hp} : ∀ {vs : List V} {ds : List PyData}, DqAll F vs ds → DqAll F vs.reverse ds.reverse
  | _, _, .nil => .nil
  | _, _, .cons h t => by rw [List.reverse_cons, List.reverse_cons]; exact dpa_app (dpa_rev t) (.cons h .nil)

/-- a value of the layer -/
inductive W where
  | dat (d : PyData)
  | box
  | scr (ns : List Int)
  | fn (f : Addr)
  | ty (n : String)
  | dic (kvs : List (Key × PyData))
  | ins (C : Addr) (fs : List (Str × PyData))
  | olst (p : Addr) (ds : List PyData)
  | odic (p : Addr) (kvs : List (Key × PyData))
  | onst (p : Addr) (ks : List NestedKey)
  | oins (p C : Addr) (fs : List (Str × PyData))
abbrev Rho := List (Option W)

def KD (F : Hp) (vs : List (Key × V)) (ks : List (Key × PyData)) : Prop := Paired (fun (a : Key × V) (b : Key × PyData) => a.1 = b.1 ∧ Dq F a.2 b.2) vs ks
def FD (F : Hp) (vs : List (Str × V)) (ks : List (Str × PyData)) : Prop := Paired (fun (a : Str × V) (b : Str × PyData) => a.1 = b.1 ∧ Dq F a.2 b.2) vs ks
/-- the ghost of a dict whose keys are nested tuples: its very object, the keys' places -/
def NstO (p : Addr) (o : Obj) : HO := .ext fun h => h.get? p = some o

def BoxAt (H : Hp) (a : Addr) (n : Nat) : Prop := ∃ x y z : Int, H a = some (.lst [.int x, .int y, .int z]) ∧ 0 ≤ y ∧ y < 2 ^ 62 ∧ 0 ≤ z ∧ z ≤ n
def BoxOk (b : Option Addr) (F H : Hp) (n : Nat) : Prop := ∀ a, b = some a → F a = none ∧ BoxAt H a n

theorem paired_mono {α β : Type} {G G' : α → β → Prop} : ∀ {l : List α} {m : List β}, Paired G l m → (∀ a b, G a b → G' a b) → Paired G' l m
  | _, _, .nil, _ => .nil
  | _, _, .cons r t, f => .cons (f _ _ r) (paired_mono t f)
theorem kd_mono {F G : Hp} (e : Same F G) {vs : List (Key × V)} {ks : List (Key × PyData)} (h : KD F vs ks) : KD G vs ks := paired_mono h fun _ _ x => ⟨x.1, dp_mono e _ _ x.2⟩
theorem fd_mono {F G : Hp} (e : Same F G) {vs : List (Str × V)} {ks : List (Str × PyData)} (h : FD F vs ks) : FD G vs ks := paired_mono h fun _ _ x => ⟨x.1, dp_mono e _ _ x.2⟩

/-- at p the very object o, a dict whose keys are tuples, read as ks; its values True -/
def NstAt (w : Wk) (F H : Hp) (p : Addr) (ks : List NestedKey) : Prop := ∃ (o : Obj) (es : Array DictEntry) (ep : Nat) (xs : List (NestedKey × Addr × Value)), H p = some (NstO p o) ∧ o.ExactDict ∧ o.data = .dict es ep ∧
  es.toList = xs.map (fun x => (⟨NestedKey.hash w.w x.1, .ref x.2.1, x.2.2⟩ : DictEntry)) ∧ (p == sysModules) = false ∧ (∀ x ∈ xs, Dq F (.ref x.2.1) x.1.data ∧ x.1.depth ≤ 8 ∧ x.2.2 = .bool true) ∧ ks = xs.map (·.1) ∧ ks.Nodup ∧ ks.length ≤ sizeLine

/-- a value stands for a value of the layer -/
def RelW (w : Wk) (b : Option Addr) (F H : Hp) (v : V) : W → Prop
  | .dat d => Dq F v d
  | .box => ∃ a, b = some a ∧ v = .ref a
  | .scr ns => ∃ a, v = .ref a ∧ ((∃ o, F a = some (.frz o (.lst (ns.map V.int)))) ∨ SqL w.K (fun _ => none) a (ns.map V.int))
  | .fn f => v = .ref f
  | .ty n => v = .ty n
  | .dic kvs => ∃ p o vs, v = .ref p ∧ F p = some (.frz o (.dK vs)) ∧ KD F vs kvs
  | .ins C fs => ∃ p dx vs, v = .ref p ∧ F p = some (.ins C dx vs) ∧ FD F vs fs
  | .olst p ds => v = .ref p ∧ some p ≠ b ∧ F p = none ∧ ∃ vs, H p = some (.lst vs) ∧ DqAll F vs ds
  | .odic p kvs => v = .ref p ∧ some p ≠ b ∧ F p = none ∧ ∃ vs, H p = some (.dK vs) ∧ KD F vs kvs
  | .onst p ks => v = .ref p ∧ some p ≠ b ∧ F p = none ∧ NstAt w F H p ks
  | .oins p C fs => v = .ref p ∧ some p ≠ b ∧ F p = none ∧ ∃ dx vs, H p = some (.ins C dx vs) ∧ FD F vs fs

/-- from (F, H) to (F', H'): nothing that stood is changed but the box; what is newly frozen is new -/
structure Step (b : Option Addr) (F H F' H' : Hp) : Prop where
  ex : Same F F'
  fr : Same F' H'
  keep : ∀ a o, H a = some o → some a ≠ b → H' a = some o
  new : ∀ a, F a = none → F' a ≠ none → H a = none
  bx : ∀ a, b = some a → F' a = none
theorem Step.trans {b : Option Addr} {F H F' H' F'' H'' : Hp} (s : Step b F H F' H') (t : Step b F' H' F'' H'') : Step b F H F'' H'' := by
  refine ⟨s.ex.trans t.ex, t.fr, fun a o h n => t.keep a o (s.keep a o h n) n, fun a h h' => ?_, t.bx⟩
  by_cases e : F' a = none
  · have e1 := t.new a e h'
    cases e2 : H a with
    | none => rfl
    | some o =>
      by_cases n : some a = b
      · exact absurd (t.bx a n.symm) h'
      · rw [s.keep a o e2 n] at e1; cases e1
  · exact s.new a h e
theorem Step.refl {b : Option Addr} {F H : Hp} (h : Same F H) (bx : ∀ a, b = some a → F a = none) : Step b F H F H := ⟨Same.refl F, h, fun _ _ e _ => e, fun a h h' => absurd h h', bx⟩
theorem Step.own {b : Option Addr} {F H F' H' : Hp} (s : Step b F H F' H') {p : Addr} {o : HO} (n : some p ≠ b) (hF : F p = none) (hH : H p = some o) : F' p = none ∧ H' p = some o := by
  refine ⟨?_, s.keep p o hH n⟩
  cases e : F' p with
  | none => rfl
  | some u => rw [s.new p hF (by rw [e]; simp)] at hH; cases hH
theorem RelW.mono {w : Wk} {b : Option Addr} {F H F' H' : Hp} (s : Step b F H F' H') {v : V} : ∀ {x : W}, RelW w b F H v x → RelW w b F' H' v x
  | .dat _, h => dp_mono s.ex _ _ h
  | .box, h => h
  | .scr _, ⟨a, h1, h2⟩ => ⟨a, h1, h2.elim (fun ⟨o, h⟩ => .inl ⟨o, s.ex _ _ h⟩) .inr⟩
  | .fn _, h => h
  | .ty _, h => h
  | .dic _, ⟨p, o, vs, h1, h2, h3⟩ => ⟨p, o, vs, h1, s.ex _ _ h2, kd_mono s.ex h3⟩
  | .ins _ _, ⟨p, dx, vs, h1, h2, h3⟩ => ⟨p, dx, vs, h1, s.ex _ _ h2, fd_mono s.ex h3⟩
  | .olst _ _, ⟨h1, n, hF, vs, hH, h3⟩ => ⟨h1, n, (s.own n hF hH).1, vs, (s.own n hF hH).2, dp_monoA s.ex _ _ h3⟩
  | .odic _ _, ⟨h1, n, hF, vs, hH, h3⟩ => ⟨h1, n, (s.own n hF hH).1, vs, (s.own n hF hH).2, kd_mono s.ex h3⟩
  | .onst _ _, ⟨h1, n, hF, o, es, ep, as, hH, x1, x2, x3, x4, x5, x6, x7⟩ => ⟨h1, n, (s.own n hF hH).1, o, es, ep, as, (s.own n hF hH).2, x1, x2, x3, x4, fun x hx => ⟨dp_mono s.ex _ _ (x5 x hx).1, (x5 x hx).2⟩, x6, x7⟩
  | .oins _ _ _, ⟨h1, n, hF, dx, vs, hH, h3⟩ => ⟨h1, n, (s.own n hF hH).1, dx, vs, (s.own n hF hH).2, fd_mono s.ex h3⟩

/-- the address of what is owned -/
@[simp] def W.own : W → Option Addr
  | .olst p _ => some p
  | .odic p _ => some p
  | .onst p _ => some p
  | .oins p _ _ => some p
  | _ => none
theorem own_at {w : Wk} {b : Option Addr} {F H : Hp} {v : V} {x : W} {p : Addr} (r : RelW w b F H v x) (e : x.own = some p) : some p ≠ b ∧ F p = none ∧ ∃ o, H p = some o := by
  cases x with
  | olst q ds => cases e; obtain ⟨_, n, hF, vs, hH, _⟩ := r; exact ⟨n, hF, _, hH⟩
  | odic q ds => cases e; obtain ⟨_, n, hF, vs, hH, _⟩ := r; exact ⟨n, hF, _, hH⟩
  | onst q ds => cases e; obtain ⟨_, n, hF, o, es, ep, as, hH, _⟩ := r; exact ⟨n, hF, _, hH⟩
  | oins q C ds => cases e; obtain ⟨_, n, hF, dx, vs, hH, _⟩ := r; exact ⟨n, hF, _, hH⟩
  | _ => cases e

/-- what is fixed while a def's body runs: the box's place, the frozen part and the heap at the entry -/
structure Fx where
  w : Wk
  b : Option Addr
  F_0 : Hp
  H_0 : Hp
structure Ok (g : Fx) (F H : Hp) (n : Nat) (σ : L2.St) (ρ : Rho) : Prop where
  st : Step g.b g.F_0 g.H_0 F H
  box : BoxOk g.b F H n
  len : σ.length = ρ.length
  slot : ∀ (i : Nat) x, ρ[i]? = some (some x) → ∃ v, σ[i]? = some (some v) ∧ RelW g.w g.b F H v x
  own : ∀ (i : Nat) x p, ρ[i]? = some (some x) → x.own = some p → g.H_0 p = none
  nod : ∀ (i j : Nat) x y p, ρ[i]? = some (some x) → ρ[j]? = some (some y) → x.own = some p → y.own = some p → i = j
theorem Ok.step {g : Fx} {F H F' H' : Hp} {n m : Nat} {σ : L2.St} {ρ : Rho} (k : Ok g F H n σ ρ) (s : Step g.b F H F' H') (bx : BoxOk g.b F' H' m) : Ok g F' H' m σ ρ :=
  ⟨k.st.trans s, bx, k.len, fun i x e => let ⟨v, h1, h2⟩ := k.slot i x e; ⟨v, h1, h2.mono s⟩, k.own, k.nod⟩
theorem Ok.self {g : Fx} {F H : Hp} {n : Nat} {σ : L2.St} {ρ : Rho} (k : Ok g F H n σ ρ) : Step g.b F H F H := Step.refl k.st.fr k.st.bx

/-- what an expression is worth: the slots, the box's bound, what is wanted -/
abbrev TD := Nat → Rho → (W → Nat → Prop) → Prop
def GE (w : Wk) (t : TE) (f : TD) : Prop := ∀ (g : Fx) (F H : Hp) (n : Nat) (σ : L2.St) (ρ : Rho) (P : W → Nat → Prop) (Q : VK), g.w = w → Ok g F H n σ ρ → f n ρ P →
  (∀ v F' H' m x, Step g.b F H F' H' → BoxOk g.b F' H' m → RelW w g.b F' H' v x → P x m → Q v H') → t σ H Q
def DE (X : Cx) (e : Expr) (f : TD) : Prop := ∃ t, PE X e t ∧ GE (wkOf X) t f
/-- a test -/
abbrev TDt := Nat → Rho → (Bool → Nat → Prop) → Prop
def GT (w : Wk) (t : TT) (f : TDt) : Prop := ∀ (g : Fx) (F H : Hp) (n : Nat) (σ : L2.St) (ρ : Rho) (P : Bool → Nat → Prop) (Q : Bool → Hp → Prop), g.w = w → Ok g F H n σ ρ → f n ρ P →
  (∀ c F' H' m, Step g.b F H F' H' → BoxOk g.b F' H' m → P c m → Q c H') → t σ H Q
def DT (X : Cx) (e : Expr) (f : TDt) : Prop := ∃ t, PT X e t ∧ GT (wkOf X) t f
def DTw (X : Cx) (e : Expr) (f : TDt) : Prop := ∃ t, PW X e t ∧ GT (wkOf X) t f
/-- arguments -/
abbrev TDa := Nat → Rho → (List W → Nat → Prop) → Prop
def RelA (w : Wk) (b : Option Addr) (F H : Hp) (vs : List V) (xs : List W) : Prop := Paired (RelW w b F H) vs xs
theorem RelA.mono {w : Wk} {b : Option Addr} {F H F' H' : Hp} (s : Step b F H F' H') {vs : List V} {xs : List W} (h : RelA w b F H vs xs) : RelA w b F' H' vs xs := paired_mono h fun _ _ z => z.mono s
def GA (w : Wk) (t : TA) (f : TDa) : Prop := ∀ (g : Fx) (F H : Hp) (n : Nat) (σ : L2.St) (ρ : Rho) (P : List W → Nat → Prop) (Q : List V → Hp → Prop), g.w = w → Ok g F H n σ ρ → f n ρ P →
  (∀ vs F' H' m xs, Step g.b F H F' H' → BoxOk g.b F' H' m → RelA w g.b F' H' vs xs → P xs m → Q vs H') → t σ H Q
def DA (X : Cx) (es : List Expr) (f : TDa) : Prop := ∃ t, PA X es t ∧ GA (wkOf X) t f
end DL
set_option Elab.async false
set_option linter.all false
set_option maxRecDepth 100000
set_option maxHeartbeats 4000000
/-! DL2: expressions. -/
namespace DL
open PySem PySem.Spec L2

section
variable {w : Wk} {b : Option Addr} {F H : Hp} {n : Nat}
/-- a new object, frozen at once -/
theorem fresh_step {p : Addr} {o : HO} (hf : Same F H) (bx : BoxOk b F H n) (hp : H p = none) : Step b F H (upd F p o) (upd H p o) ∧ BoxOk b (upd F p o) (upd H p o) n := by
  have hF : F p = none := hf.free hp
  have nb : ∀ a, b = some a → a ≠ p := fun a e z => by
    obtain ⟨_, x, y, q, h, _⟩ := bx a e
    rw [z, hp] at h; cases h
  refine ⟨⟨fun a u e => by rw [upd_ne (ne_of_none e hF)]; exact e, fun a u e => ?_, fun a u e _ => by rw [upd_ne (ne_of_none e hp)]; exact e, fun a e h => ?_, fun a e => by rw [upd_ne (nb a e)]; exact (bx a e).1⟩, fun a e => ?_⟩
  · by_cases z : a = p
    · subst z; rw [upd_same] at e ⊢; exact e
    · rw [upd_ne z] at e ⊢; exact hf a u e
  · by_cases z : a = p
    · subst z; exact hp
    · rw [upd_ne z] at h; exact absurd e h
  · obtain ⟨h1, x, y, q, h2, h3⟩ := bx a e
    exact ⟨by rw [upd_ne (nb a e)]; exact h1, x, y, q, by rw [upd_ne (nb a e)]; exact h2, h3⟩
/-- a new object, not frozen -/
theorem new_step {p : Addr} {o : HO} (hf : Same F H) (bx : BoxOk b F H n) (hp : H p = none) : Step b F H F (upd H p o) ∧ BoxOk b F (upd H p o) n ∧ F p = none ∧ some p ≠ b := by
  have hF : F p = none := hf.free hp
  have nb : ∀ a, b = some a → a ≠ p := fun a e z => by
    obtain ⟨_, x, y, q, h, _⟩ := bx a e
    rw [z, hp] at h; cases h
  refine ⟨⟨Same.refl F, fun a u e => by rw [upd_ne (ne_of_none e hF)]; exact hf a u e, fun a u e _ => by rw [upd_ne (ne_of_none e hp)]; exact e, fun a e h => absurd e h, fun a e => (bx a e).1⟩, fun a e => ?_, hF, fun z => nb p z.symm rfl⟩
  obtain ⟨h1, x, y, q, h2, h3⟩ := bx a e
  exact ⟨h1, x, y, q, by rw [upd_ne (nb a e)]; exact h2, h3⟩
end

/-! ### names, constants -/
@[simp] def dVar (i : Nat) : TD := fun n ρ P => ∃ x, ρ[i]? = some (some x) ∧ P x n
@[simp] def dC (x : W) : TD := fun n _ P => P x n
section
variable {w : Wk}
theorem ge_var {i : Nat} : GE w (tVar i) (dVar i) := by
  intro g F H n σ ρ P Q hw k h q
  obtain ⟨x, e, h⟩ := h
  obtain ⟨v, h1, h2⟩ := k.slot i x e
  subst hw
  exact ⟨v, h1, q v F H n x k.self k.box h2 h⟩
theorem ge_c {v : V} {x : W} (r : ∀ b F H, RelW w b F H v x) : GE w (tC v) (dC x) := by
  intro g F H n σ ρ P Q hw k h q
  subst hw
  exact q v F H n x k.self k.box (r _ _ _) h
end
section
variable {X : Cx} {pos : Pos}
theorem de_v (i : Nat) {x : Str} (hN : X.N[i]? = some x := by rfl) (hv : Vis X.env.scope x := by first | exact Or.inl rfl | exact Or.inr (Or.inl rfl) | exact Or.inr (Or.inr rfl)) (hd : (x == ("__debug__" : Str)) = false := by decide)
    (hcd : (x == ("__classdict__" : Str)) = false := by decide) : DE X (.Name x pos) (dVar i) := ⟨_, pe_var hN hv hd hcd, ge_var⟩
theorem de_int {i : Int} {j} : DE X (.Constant (.int i) j pos) (dC (.dat (.int i))) := ⟨_, pe_int, ge_c fun _ _ _ => .int i⟩
theorem de_bl {c : Bool} {j} : DE X (.Constant (.bool c) j pos) (dC (.dat (.bool c))) := ⟨_, pe_bl, ge_c fun _ _ _ => .bl c⟩
theorem de_non {j} : DE X (.Constant .none j pos) (dC (.dat .none)) := ⟨_, pe_non, ge_c fun _ _ _ => .non⟩
theorem de_str {x : Str} {j} : DE X (.Constant (.str x) j pos) (dC (.dat (.str x))) := ⟨_, pe_str, ge_c fun _ _ _ => .str x⟩
theorem de_gstr {x z : Str} {t : Tok} (hg : Gl X x) (hm : X.mg x = some (.str z t)) (hd : (x == ("__debug__" : Str)) = false := by decide) : DE X (.Name x pos) (dC (.dat (.str z))) := ⟨_, pe_glob hg hm (v := .str z) ⟨_, rfl⟩ hd, ge_c fun _ _ _ => .str z⟩
theorem de_gint {x : Str} {z : Int} {t : Tok} (hg : Gl X x) (hm : X.mg x = some (.int z t)) (hd : (x == ("__debug__" : Str)) = false := by decide) : DE X (.Name x pos) (dC (.dat (.int z))) := ⟨_, pe_glob hg hm (v := .int z) ⟨_, rfl⟩ hd, ge_c fun _ _ _ => .int z⟩
/-- a built-in class as a value -/
theorem de_ty {x : Str} {m : String} (hg : Gl X x) (hm : X.mg x = none) (hv : bootBuiltins x = some (.type m)) (hn : x ≠ "__name__" := by decide) (hd : (x == ("__debug__" : Str)) = false := by decide) : DE X (.Name x pos) (dC (.ty m)) := ⟨_, pe_bltn hg hm hv (v := .ty m) rfl hn hd, ge_c fun _ _ _ => rfl⟩
end

/-! ### arguments, displays -/
@[simp] def dNil : TDa := fun n _ P => P [] n
@[simp] def dCons (f : TD) (r : TDa) : TDa := fun n ρ P => f n ρ fun x m => r m ρ fun xs k => P (x :: xs) k
@[simp] def dats : List W → Option (List PyData)
  | [] => some []
  | .dat d :: r => (dats r).map (d :: ·)
  | _ :: _ => none
theorem dats_rel {w : Wk} {b : Option Addr} {F H : Hp} : ∀ {vs : List V} {xs : List W} {ds : List PyData}, RelA w b F H vs xs → dats xs = some ds → DqAll F vs ds
  | _, _, _, .nil, e => by simp [dats] at e; subst e; exact .nil
  | _, x :: xs, ds, .cons r t, e => by
    cases x with
    | dat d =>
      simp only [dats, Option.map_eq_some_iff] at e
      obtain ⟨ds', e1, e2⟩ := e
      subst e2
      exact .cons r (dats_rel t e1)
    | _ => simp [dats] at e
@[simp] def dTup (f : TDa) : TD := fun n ρ P => f n ρ fun xs m => ∃ ds, dats xs = some ds ∧ ds.length ≤ 16777216 ∧ P (.dat (.tuple ds)) m
@[simp] def dLst (f : TDa) : TD := fun n ρ P => f n ρ fun xs m => ∃ ds, dats xs = some ds ∧ ds.length ≤ 16777216 ∧ P (.dat (.list ds)) m
theorem line_eq {n : Nat} (h : n ≤ 16777216) : n ≤ sizeLine := by rw [sizeLine_eq]; exact h
section
variable {w : Wk}
theorem ga_nil : GA w tNil dNil := by
  intro g F H n σ ρ P Q hw k h q
  exact q [] F H n [] k.self k.box .nil h
theorem ga_cons {te : TE} {tr : TA} {f : TD} {r : TDa} (h1 : GE w te f) (h2 : GA w tr r) : GA w (tCons te tr) (dCons f r) := by
  intro g F H n σ ρ P Q hw k h q
  refine h1 g F H n σ ρ _ _ hw k h fun v F1 H1 m x s1 b1 r1 hx => ?_
  refine h2 g F1 H1 m σ ρ _ _ hw (k.step s1 b1) hx fun vs F2 H2 m2 xs s2 b2 r2 hxs => ?_
  exact q (v :: vs) F2 H2 m2 (x :: xs) (s1.trans s2) b2 (.cons (r1.mono s2) r2) hxs
theorem ge_tup {ta : TA} {f : TDa} (h1 : GA w ta f) : GE w (tTupF ta) (dTup f) := by
  intro g F H n σ ρ P Q hw k h q
  refine h1 g F H n σ ρ _ _ hw k h fun vs F1 H1 m xs s1 b1 r1 hx => ?_
  obtain ⟨ds, e, hl, hP⟩ := hx
  have ra := dats_rel r1 e
  refine ⟨by rw [dpa_len ra]; exact line_eq hl, fun p ob hp hd => ?_⟩
  obtain ⟨s2, b2⟩ := fresh_step (o := .frz ob (.tup vs)) s1.fr b1 hp
  exact q _ _ _ m (.dat (.tuple ds)) (s1.trans s2) b2 (Dq.tup (TupF.new hd) (dp_monoA s2.ex _ _ ra)) hP
theorem ge_lst {ta : TA} {f : TDa} (h1 : GA w ta f) : GE w (tLst ta) (dLst f) := by
  intro g F H n σ ρ P Q hw k h q
  refine h1 g F H n σ ρ _ _ hw k h fun vs F1 H1 m xs s1 b1 r1 hx => ?_
  obtain ⟨ds, e, hl, hP⟩ := hx
  have ra := dats_rel r1 e
  refine ⟨by rw [dpa_len ra]; exact line_eq hl, fun p hp => ?_⟩
  obtain ⟨s2, b2⟩ := fresh_step (o := .lst vs) s1.fr b1 hp
  exact q _ _ _ m (.dat (.list ds)) (s1.trans s2) b2 (Dq.lst upd_same (dp_monoA s2.ex _ _ ra)) hP
end
section
variable {X : Cx} {pos : Pos} {e : Expr} {es : List Expr} {f : TD} {fa : TDa}
theorem da_nil : DA X [] dNil := ⟨_, pa_nil, ga_nil⟩
theorem da_cons (h : DE X e f) (r : DA X es fa) (hs : starEach (e :: es) X.env = (false, eval e X.env) :: starEach es X.env := by rfl) : DA X (e :: es) (dCons f fa) := by
  obtain ⟨t, p, g⟩ := h
  obtain ⟨u, p2, g2⟩ := r
  exact ⟨_, pa_cons p p2 hs, ga_cons g g2⟩
theorem de_tup {x1} (h : DA X es fa) : DE X (.Tuple es x1 pos) (dTup fa) := by
  obtain ⟨t, p, g⟩ := h
  exact ⟨_, pe_tupF p, ge_tup g⟩
theorem de_lst (h : DA X es fa) : DE X (.List es pos) (dLst fa) := by
  obtain ⟨t, p, g⟩ := h
  exact ⟨_, pe_lst p, ge_lst g⟩
end

/-! ### operations on values -/
/-- r gives what op tells -/
def GR (w : Wk) (r : R2) (op : W → W → Option W) : Prop := ∀ (b : Option Addr) (F H : Hp) (n : Nat) (x y : V) (a c z : W) (Q : VK), Same F H → BoxOk b F H n → RelW w b F H x a → RelW w b F H y c → op a c = some z →
  (∀ v F' H', Step b F H F' H' → BoxOk b F' H' n → RelW w b F' H' v z → Q v H') → r x y H Q
@[simp] def dOp (op : W → W → Option W) (f h : TD) : TD := fun n ρ P => f n ρ fun x m => h m ρ fun y k => ∃ z, op x y = some z ∧ P z k
theorem ge_op {w : Wk} {ta tb : TE} {f h : TD} {r : R2} {op : W → W → Option W} (h1 : GE w ta f) (h2 : GE w tb h) (hr : GR w r op) : GE w (tOp r ta tb) (dOp op f h) := by
  intro g F H n σ ρ P Q hw k hh q
  refine h1 g F H n σ ρ _ _ hw k hh fun v F1 H1 m x s1 b1 r1 hx => ?_
  refine h2 g F1 H1 m σ ρ _ _ hw (k.step s1 b1) hx fun u F2 H2 m2 y s2 b2 r2 hy => ?_
  obtain ⟨z, e, hz⟩ := hy
  exact hr g.b F2 H2 m2 v u x y z Q s2.fr b2 (r1.mono s2) r2 e fun v' F3 H3 s3 b3 r3 => q v' F3 H3 m2 z ((s1.trans s2).trans s3) b3 r3 hz
theorem de_op {X : Cx} {a c : Expr} {pos : Pos} {o : Operator} {f h : TD} {r : R2} {op : W → W → Option W} (ho : OpR X (binaryOp o) r) (hr : GR (wkOf X) r op) (h1 : DE X a f) (h2 : DE X c h) : DE X (.BinOp a o c pos) (dOp op f h) := by
  obtain ⟨t, p, g⟩ := h1
  obtain ⟨u, p2, g2⟩ := h2
  exact ⟨_, pe_op ho p p2, ge_op g g2 hr⟩
/-- where nothing is made: the value itself -/
theorem gr_val {w : Wk} {r : R2} {op : W → W → Option W} (h : ∀ b F H x y a c z, Same F H → RelW w b F H x a → RelW w b F H y c → op a c = some z → ∃ v, RelW w b F H v z ∧ ∀ Q : VK, Q v H → r x y H Q) : GR w r op := by
  intro b F H n x y a c z Q hf bx ra rc e q
  obtain ⟨v, rv, hq⟩ := h b F H x y a c z hf ra rc e
  exact hq Q (q v F H (Step.refl hf fun a e => (bx a e).1) bx rv)

/-- two ints -/
@[simp] def intsW (C : Int → Int → Bool) (k : Int → Int → PyData) : W → W → Option W
  | .dat (.int i), .dat (.int j) => if C i j then some (.dat (k i j)) else none
  | _, _ => none
theorem dq_int {F : Hp} {v : V} {i : Int} (h : Dq F v (.int i)) : v = .int i := by cases h; rfl
theorem dq_str {F : Hp} {v : V} {i : Str} (h : Dq F v (.str i)) : v = .str i := by cases h; rfl
theorem dq_bl {F : Hp} {v : V} {i : Bool} (h : Dq F v (.bool i)) : v = .bl i := by cases h; rfl
theorem dq_non {F : Hp} {v : V} (h : Dq F v .none) : v = .non := by cases h; rfl
theorem intsW_some {C : Int → Int → Bool} {k : Int → Int → PyData} {a c z : W} (e : intsW C k a c = some z) : ∃ i j, a = .dat (.int i) ∧ c = .dat (.int j) ∧ C i j = true ∧ z = .dat (k i j) := by
  unfold intsW at e
  split at e
  · rename_i i j
    split at e
    · rename_i hc
      cases e
      exact ⟨i, j, rfl, rfl, hc, rfl⟩
    · cases e
  · cases e
theorem gr_ints {w : Wk} {C : Int → Int → Bool} {k : Int → Int → Int} {r : R2} (h : ∀ i j H (Q : VK), C i j = true → Q (.int (k i j)) H → r (.int i) (.int j) H Q) : GR w r (intsW C fun i j => .int (k i j)) := gr_val fun b F H x y a c z hf ra rc e => by
  obtain ⟨i, j, rfl, rfl, hc, rfl⟩ := intsW_some e
  obtain rfl := dq_int ra
  obtain rfl := dq_int rc
  exact ⟨.int (k i j), .int _, fun Q q => h i j H Q hc q⟩
theorem gr_intsB {w : Wk} {C : Int → Int → Bool} {k : Int → Int → Bool} {r : R2} (h : ∀ i j H (Q : VK), C i j = true → Q (.bl (k i j)) H → r (.int i) (.int j) H Q) : GR w r (intsW C fun i j => .bool (k i j)) := gr_val fun b F H x y a c z hf ra rc e => by
  obtain ⟨i, j, rfl, rfl, hc, rfl⟩ := intsW_some e
  obtain rfl := dq_int ra
  obtain rfl := dq_int rc
  exact ⟨.bl (k i j), .bl _, fun Q q => h i j H Q hc q⟩
section
variable {X : Cx} {a c : Expr} {pos : Pos} {f h : TD}
abbrev yes2 : Int → Int → Bool := fun _ _ => true
abbrev subW := intsW yes2 fun i j => .int (i - j)
theorem de_sub (h1 : DE X a f) (h2 : DE X c h) : DE X (.BinOp a .Sub c pos) (dOp subW f h) := de_op op_sub (gr_ints (C := yes2) (k := fun i j => i - j) fun i j H Q _ q => ⟨i, j, rfl, rfl, q⟩) h1 h2
abbrev mulW := intsW (fun i j => decide ((-(2 ^ 64) < i ∧ i < 2 ^ 64) ∨ (-(2 ^ 64) < j ∧ j < 2 ^ 64))) fun i j => .int (i * j)
theorem de_mul (h1 : DE X a f) (h2 : DE X c h) : DE X (.BinOp a .Mult c pos) (dOp mulW f h) := de_op op_mul (gr_ints (C := fun i j => decide ((-(2 ^ 64) < i ∧ i < 2 ^ 64) ∨ (-(2 ^ 64) < j ∧ j < 2 ^ 64))) (k := fun i j => i * j) fun i j H Q hc q => by
  have z : (-(2 ^ 64) < i ∧ i < 2 ^ 64) ∨ (-(2 ^ 64) < j ∧ j < 2 ^ 64) := of_decide_eq_true hc
  exact ⟨i, j, rfl, rfl, z, q⟩) h1 h2
abbrev modW := intsW (fun _ j => decide (0 < j)) fun i j => .int (i % j)
theorem de_mod (h1 : DE X a f) (h2 : DE X c h) : DE X (.BinOp a .Mod c pos) (dOp modW f h) := de_op op_mod (gr_ints (C := fun _ j => decide (0 < j)) (k := fun i j => i % j) fun i j H Q hc q => ⟨i, j, rfl, rfl, of_decide_eq_true hc, q⟩) h1 h2
abbrev fdivW := intsW (fun _ j => decide (0 < j ∧ j < 1000000000000)) fun i j => .int (i / j)
theorem log_small {j : Int} (h0 : 0 < j) (h : j < 1000000000000) : j.natAbs.log2 < 9000 := by
  have h2 : j.natAbs < 2 ^ 40 := by omega
  exact Nat.lt_of_lt_of_le (PySem.Flt.log2_lt_of (by decide) h2) (by decide)
theorem de_fdiv (h1 : DE X a f) (h2 : DE X c h) : DE X (.BinOp a .FloorDiv c pos) (dOp fdivW f h) := de_op op_fdivW (gr_ints (C := fun _ j => decide (0 < j ∧ j < 1000000000000)) (k := fun i j => i / j) fun i j H Q hc q => ⟨i, j, rfl, rfl, ⟨(of_decide_eq_true hc).1, log_small (of_decide_eq_true hc).1 (of_decide_eq_true hc).2⟩, q⟩) h1 h2
abbrev powW := intsW (fun i j => decide (0 ≤ j ∧ j ≤ 1000 ∧ i.natAbs < 2 ^ 64)) fun i j => .int (i ^ j.toNat)
theorem de_pow (h1 : DE X a f) (h2 : DE X c h) : DE X (.BinOp a .Pow c pos) (dOp powW f h) := de_op op_pow (gr_ints (C := fun i j => decide (0 ≤ j ∧ j ≤ 1000 ∧ i.natAbs < 2 ^ 64)) (k := fun i j => i ^ j.toNat) fun i j H Q hc q => by
  have z := of_decide_eq_true hc
  exact ⟨i, j, rfl, rfl, ⟨z.1, by omega, z.2.2⟩, q⟩) h1 h2
end
end DL
set_option Elab.async false
set_option linter.all false
set_option maxRecDepth 100000
set_option maxHeartbeats 4000000
/-! DL3: operations, comparisons, tests, subscripts, slices. -/
namespace DL
open PySem PySem.Spec L2

theorem dq_lst {F : Hp} {v : V} {ds : List PyData} (h : Dq F v (.list ds)) : ∃ a xs, v = .ref a ∧ F a = some (.lst xs) ∧ DqAll F xs ds := by cases h with | lst h t => exact ⟨_, _, rfl, h, t⟩
theorem dq_tup {F : Hp} {v : V} {ds : List PyData} (h : Dq F v (.tuple ds)) : ∃ a xs, v = .ref a ∧ TupF F a xs ∧ DqAll F xs ds := by cases h with | tup h t => exact ⟨_, _, rfl, h, t⟩
theorem dpa_nil {F : Hp} {xs : List V} (h : DqAll F xs []) : xs = [] := by cases h; rfl
theorem dpa_nil' {F : Hp} {ds : List PyData} (h : DqAll F [] ds) : ds = [] := by cases h; rfl

@[simp] def addW : W → W → Option W
  | .dat (.int i), .dat (.int j) => some (.dat (.int (i + j)))
  | .dat (.str x), .dat (.str y) => if x.length + y.length ≤ 16777216 then some (.dat (.str (x ++ y))) else none
  | .dat (.tuple x), .dat (.tuple y) => if x.length + y.length ≤ 16777216 then some (.dat (.tuple (x ++ y))) else none
  | .dat (.list x), .dat (.list y) => if x.length + y.length ≤ 16777216 then some (.dat (.list (x ++ y))) else none
  | _, _ => none
abbrev rStrAdd : R2 := fun x y H Q => ∃ i j, x = .str i ∧ y = .str j ∧ i.length + j.length ≤ sizeLine ∧ Q (.str (i ++ j)) H
theorem gr_add {w : Wk} {K : PySem.W.Frag} : GR w (fun x y H Q => rI0 (fun i j => .int (i + j)) x y H Q ∨ (rStrAdd x y H Q ∨ (rCatF K x y H Q ∨ rCat x y H Q))) addW := by
  intro b F H n x y a c z Q hf bx ra rc e q
  have val : ∀ v, RelW w b F H v z → Q v H := fun v rv => q v F H (Step.refl hf fun a e => (bx a e).1) bx rv
  unfold addW at e
  split at e
  · rename_i i j
    cases e
    obtain rfl := dq_int ra
    obtain rfl := dq_int rc
    exact .inl ⟨i, j, rfl, rfl, val _ (Dq.int _)⟩
  · rename_i i j
    split at e
    · rename_i hl
      cases e
      obtain rfl := dq_str ra
      obtain rfl := dq_str rc
      exact .inr (.inl ⟨i, j, rfl, rfl, line_eq hl, val _ (Dq.str _)⟩)
    · cases e
  · rename_i xs ys
    split at e
    · rename_i hl
      cases e
      obtain ⟨p1, us, rfl, h1, t1⟩ := dq_tup ra
      obtain ⟨p2, vs, rfl, h2, t2⟩ := dq_tup rc
      refine .inr (.inr (.inl ⟨p1, p2, us, vs, rfl, rfl, h1.sq hf, h2.sq hf, by rw [dpa_len t1, dpa_len t2]; exact line_eq hl, fun e => ?_, fun _ e => ?_, fun _ _ p ob hp hd => ?_⟩))
      · subst e
        obtain rfl := dpa_nil' t1
        exact val _ rc
      · subst e
        obtain rfl := dpa_nil' t2
        refine val _ ?_
        rw [List.append_nil]
        exact ra
      · obtain ⟨s2, b2⟩ := fresh_step (o := .frz ob (.tup (us ++ vs))) hf bx hp
        exact q _ _ _ s2 b2 (Dq.tup (TupF.new hd) (dp_monoA s2.ex _ _ (dpa_app t1 t2)))
    · cases e
  · rename_i xs ys
    split at e
    · rename_i hl
      cases e
      obtain ⟨p1, us, rfl, h1, t1⟩ := dq_lst ra
      obtain ⟨p2, vs, rfl, h2, t2⟩ := dq_lst rc
      refine .inr (.inr (.inr ⟨p1, p2, us, vs, rfl, rfl, hf _ _ h1, hf _ _ h2, by rw [dpa_len t1, dpa_len t2]; exact line_eq hl, fun p hp => ?_⟩))
      obtain ⟨s2, b2⟩ := fresh_step (o := .lst (us ++ vs)) hf bx hp
      exact q _ _ _ s2 b2 (Dq.lst upd_same (dp_monoA s2.ex _ _ (dpa_app t1 t2)))
    · cases e
  · cases e
section
variable {X : Cx} {a c : Expr} {pos : Pos} {f h : TD}
theorem de_add (h1 : DE X a f) (h2 : DE X c h) : DE X (.BinOp a .Add c pos) (dOp addW f h) := de_op (op_add.or (op_add_str.or (op_catF.or op_cat))) gr_add h1 h2
end

/-! ### comparisons -/
@[simp] def eqW : W → W → Option W
  | .dat (.str x), .dat (.str y) => some (.dat (.bool (decide (x = y))))
  | .dat (.int x), .dat (.int y) => some (.dat (.bool (decide (x = y))))
  | .dat (.bool x), .dat (.bool y) => some (.dat (.bool (decide (x = y))))
  | .dat d, .dat e => if (SeqAt.shaped d && SeqAt.shaped e) = true then some (.dat (.bool (PyData.eqv d e))) else none
  | _, _ => none
@[simp] def neW : W → W → Option W
  | .dat (.str x), .dat (.str y) => some (.dat (.bool (!decide (x = y))))
  | .dat (.int x), .dat (.int y) => some (.dat (.bool (!decide (x = y))))
  | .dat (.bool x), .dat (.bool y) => some (.dat (.bool (!decide (x = y))))
  | .dat d, .dat e => if (SeqAt.shaped d && SeqAt.shaped e) = true then some (.dat (.bool (!PyData.eqv d e))) else none
  | _, _ => none
theorem dec_v {α : Type} [DecidableEq α] (f : α → V) (hf : ∀ a b, f a = f b → a = b) (a b : α) : decide (f a = f b) = decide (a = b) := by
  by_cases e : a = b
  · subst e; simp
  · rw [decide_eq_false e, decide_eq_false fun z => e (hf _ _ z)]
theorem gr_eq {w : Wk} {K : PySem.W.Frag} : GR w (fun x y H Q => rEq x y H Q ∨ rEqD K x y H Q) eqW := gr_val fun b F H x y a c z hf ra rc e => by
  unfold eqW at e
  split at e
  · rename_i i j
    cases e
    obtain rfl := dq_str ra
    obtain rfl := dq_str rc
    exact ⟨.bl _, Dq.bl _, fun Q q => .inl ⟨rfl, by rw [dec_v V.str (fun _ _ => V.str.inj)]; exact q⟩⟩
  · rename_i i j
    cases e
    obtain rfl := dq_int ra
    obtain rfl := dq_int rc
    exact ⟨.bl _, Dq.bl _, fun Q q => .inl ⟨rfl, by rw [dec_v V.int (fun _ _ => V.int.inj)]; exact q⟩⟩
  · rename_i i j
    cases e
    obtain rfl := dq_bl ra
    obtain rfl := dq_bl rc
    exact ⟨.bl _, Dq.bl _, fun Q q => .inl ⟨rfl, by rw [dec_v V.bl (fun _ _ => V.bl.inj)]; exact q⟩⟩
  · rename_i d e' _ _ _
    split at e
    · rename_i hs
      cases e
      obtain ⟨h1, h2⟩ := Bool.and_eq_true_iff.mp hs
      exact ⟨.bl _, Dq.bl _, fun Q q => .inr ⟨d, e', dq_dp hf _ _ ra, dq_dp hf _ _ rc, h1, h2, q⟩⟩
    · cases e
  · cases e
theorem gr_ne {w : Wk} {K : PySem.W.Frag} : GR w (fun x y H Q => rNe x y H Q ∨ rNeD K x y H Q) neW := gr_val fun b F H x y a c z hf ra rc e => by
  unfold neW at e
  split at e
  · rename_i i j
    cases e
    obtain rfl := dq_str ra
    obtain rfl := dq_str rc
    exact ⟨.bl _, Dq.bl _, fun Q q => .inl ⟨rfl, by rw [dec_v V.str (fun _ _ => V.str.inj)]; exact q⟩⟩
  · rename_i i j
    cases e
    obtain rfl := dq_int ra
    obtain rfl := dq_int rc
    exact ⟨.bl _, Dq.bl _, fun Q q => .inl ⟨rfl, by rw [dec_v V.int (fun _ _ => V.int.inj)]; exact q⟩⟩
  · rename_i i j
    cases e
    obtain rfl := dq_bl ra
    obtain rfl := dq_bl rc
    exact ⟨.bl _, Dq.bl _, fun Q q => .inl ⟨rfl, by rw [dec_v V.bl (fun _ _ => V.bl.inj)]; exact q⟩⟩
  · rename_i d e' _ _ _
    split at e
    · rename_i hs
      cases e
      obtain ⟨h1, h2⟩ := Bool.and_eq_true_iff.mp hs
      exact ⟨.bl _, Dq.bl _, fun Q q => .inr ⟨d, e', dq_dp hf _ _ ra, dq_dp hf _ _ rc, h1, h2, q⟩⟩
    · cases e
  · cases e

@[simp] def ltW : W → W → Option W
  | .dat (.int x), .dat (.int y) => some (.dat (.bool (decide (x < y))))
  | .dat (.str x), .dat (.str y) => some (.dat (.bool (decide (x.cps.toList < y.cps.toList))))
  | _, _ => none
@[simp] def leW : W → W → Option W
  | .dat (.int x), .dat (.int y) => some (.dat (.bool (decide (x ≤ y))))
  | .dat (.str x), .dat (.str y) => some (.dat (.bool (!decide (y.cps.toList < x.cps.toList))))
  | _, _ => none
abbrev gtW := intsW yes2 fun i j => .bool (decide (j < i))
abbrev geW := intsW yes2 fun i j => .bool (decide (j ≤ i))
abbrev rLtS : R2 := fun x y H Q => ∃ i j, x = .str i ∧ y = .str j ∧ Q (.bl (decide (i.cps.toList < j.cps.toList))) H
abbrev rLeS : R2 := fun x y H Q => ∃ i j, x = .str i ∧ y = .str j ∧ Q (.bl (!decide (j.cps.toList < i.cps.toList))) H
theorem gr_lt {w : Wk} : GR w (fun x y H Q => rI0 (fun i j => .bl (decide (i < j))) x y H Q ∨ rLtS x y H Q) ltW := gr_val fun b F H x y a c z hf ra rc e => by
  unfold ltW at e
  split at e
  · rename_i i j
    cases e
    obtain rfl := dq_int ra
    obtain rfl := dq_int rc
    exact ⟨.bl _, Dq.bl _, fun Q q => .inl ⟨i, j, rfl, rfl, q⟩⟩
  · rename_i i j
    cases e
    obtain rfl := dq_str ra
    obtain rfl := dq_str rc
    exact ⟨.bl _, Dq.bl _, fun Q q => .inr ⟨i, j, rfl, rfl, q⟩⟩
  · cases e
theorem gr_le {w : Wk} : GR w (fun x y H Q => rI0 (fun i j => .bl (decide (i ≤ j))) x y H Q ∨ rLeS x y H Q) leW := gr_val fun b F H x y a c z hf ra rc e => by
  unfold leW at e
  split at e
  · rename_i i j
    cases e
    obtain rfl := dq_int ra
    obtain rfl := dq_int rc
    exact ⟨.bl _, Dq.bl _, fun Q q => .inl ⟨i, j, rfl, rfl, q⟩⟩
  · rename_i i j
    cases e
    obtain rfl := dq_str ra
    obtain rfl := dq_str rc
    exact ⟨.bl _, Dq.bl _, fun Q q => .inr ⟨i, j, rfl, rfl, q⟩⟩
  · cases e
theorem gr_gt {w : Wk} : GR w (rI0 fun i j => .bl (decide (j < i))) gtW := gr_intsB (C := yes2) (k := fun i j => decide (j < i)) fun i j H Q _ q => ⟨i, j, rfl, rfl, q⟩
theorem gr_ge {w : Wk} : GR w (rI0 fun i j => .bl (decide (j ≤ i))) geW := gr_intsB (C := yes2) (k := fun i j => decide (j ≤ i)) fun i j H Q _ q => ⟨i, j, rfl, rfl, q⟩
/-- is None -/
@[simp] def isNone : PyData → Bool
  | .none => true
  | _ => false
@[simp] def isnW : W → W → Option W
  | .dat d, .dat .none => some (.dat (.bool (isNone d)))
  | _, _ => none
@[simp] def notnW : W → W → Option W
  | .dat d, .dat .none => some (.dat (.bool (!isNone d)))
  | _, _ => none
theorem dec_non {F : Hp} {x : V} {d : PyData} (h : Dq F x d) : decide (x = V.non) = isNone d := by cases h <;> simp [isNone]
abbrev rIsN : R2 := fun x y H Q => y = .non ∧ Q (.bl (decide (x = .non))) H
abbrev rNotN : R2 := fun x y H Q => y = .non ∧ Q (.bl (!decide (x = .non))) H
theorem gr_isn {w : Wk} : GR w rIsN isnW := gr_val fun b F H x y a c z hf ra rc e => by
  unfold isnW at e
  split at e
  · rename_i d
    cases e
    obtain rfl := dq_non rc
    exact ⟨.bl _, Dq.bl _, fun Q q => ⟨rfl, by rw [dec_non ra]; exact q⟩⟩
  · cases e
theorem gr_notn {w : Wk} : GR w rNotN notnW := gr_val fun b F H x y a c z hf ra rc e => by
  unfold notnW at e
  split at e
  · rename_i d
    cases e
    obtain rfl := dq_non rc
    exact ⟨.bl _, Dq.bl _, fun Q q => ⟨rfl, by rw [dec_non ra]; exact q⟩⟩
  · cases e

/-! ### what a dict holds -/
def valD {κ : Type} [DecidableEq κ] (kvs : List (κ × PyData)) (k : κ) : Option PyData := (kvs.find? fun kv => decide (kv.1 = k)).map (·.2)
def putD {κ : Type} [DecidableEq κ] (kvs : List (κ × PyData)) (k : κ) (v : PyData) : List (κ × PyData) :=
  if (kvs.any fun kv => decide (kv.1 = k)) = true then kvs.map (fun kv => if kv.1 = k then (kv.1, v) else kv) else kvs ++ [(k, v)]
def dropD {κ : Type} [DecidableEq κ] (kvs : List (κ × PyData)) (k : κ) : List (κ × PyData) := kvs.filter fun kv => decide (kv.1 ≠ k)
theorem kd_val {F : Hp} {k : Key} : ∀ {vs : List (Key × V)} {ks : List (Key × PyData)}, KD F vs ks → (∃ v d, valV vs k = some v ∧ valD ks k = some d ∧ Dq F v d) ∨ (valV vs k = none ∧ valD ks k = none)
  | _, _, .nil => .inr ⟨rfl, rfl⟩
  | (k1, v1) :: vs, (k2, d2) :: ks, .cons r t => by
    obtain ⟨e, rd⟩ := r
    have e : k1 = k2 := e
    subst e
    by_cases h : k1 = k
    · subst h
      exact .inl ⟨v1, d2, by simp [valV], by simp [valD], rd⟩
    · have e1 : valV ((k1, v1) :: vs) k = valV vs k := by simp [valV, h]
      have e2 : valD ((k1, d2) :: ks) k = valD ks k := by simp [valD, h]
      rw [e1, e2]
      exact kd_val t
theorem kd_any {F : Hp} {k : Key} : ∀ {vs : List (Key × V)} {ks : List (Key × PyData)}, KD F vs ks → (vs.any fun kv => decide (kv.1 = k)) = ks.any fun kv => decide (kv.1 = k)
  | _, _, .nil => rfl
  | (k1, v1) :: vs, (k2, d2) :: ks, .cons r t => by
    have e : k1 = k2 := r.1
    subst e
    simp only [List.any_cons, kd_any t]
theorem kd_len {F : Hp} : ∀ {vs : List (Key × V)} {ks : List (Key × PyData)}, KD F vs ks → vs.length = ks.length
  | _, _, .nil => rfl
  | _, _, .cons _ t => by simp [kd_len t]
theorem kd_app {F : Hp} : ∀ {vs us : List (Key × V)} {ks ls : List (Key × PyData)}, KD F vs ks → KD F us ls → KD F (vs ++ us) (ks ++ ls)
  | _, _, _, _, .nil, s => s
  | _, _, _, _, .cons r t, s => .cons r (kd_app t s)
theorem kd_put {F : Hp} {k : Key} {v : V} {d : PyData} (h : Dq F v d) {vs : List (Key × V)} {ks : List (Key × PyData)} (r : KD F vs ks) : KD F (putK vs k v) (putD ks k d) := by
  have m : KD F (vs.map fun kv => if kv.1 = k then (kv.1, v) else kv) (ks.map fun kv => if kv.1 = k then (kv.1, d) else kv) := by
    induction r with
    | nil => exact .nil
    | @cons a c l l' r t ih =>
      obtain ⟨a1, a2⟩ := a
      obtain ⟨c1, c2⟩ := c
      have e : a1 = c1 := r.1
      subst e
      refine .cons ?_ ih
      by_cases z : a1 = k
      · show (if a1 = k then (a1, v) else (a1, a2)).1 = (if a1 = k then (a1, d) else (a1, c2)).1 ∧ Dq F (if a1 = k then (a1, v) else (a1, a2)).2 (if a1 = k then (a1, d) else (a1, c2)).2
        rw [if_pos z, if_pos z]; exact ⟨rfl, h⟩
      · show (if a1 = k then (a1, v) else (a1, a2)).1 = (if a1 = k then (a1, d) else (a1, c2)).1 ∧ Dq F (if a1 = k then (a1, v) else (a1, a2)).2 (if a1 = k then (a1, d) else (a1, c2)).2
        rw [if_neg z, if_neg z]; exact r
  unfold putK putD
  rw [kd_any r]
  split
  · exact m
  · exact kd_app r (.cons ⟨rfl, h⟩ .nil)
theorem kd_drop {F : Hp} {k : Key} : ∀ {vs : List (Key × V)} {ks : List (Key × PyData)}, KD F vs ks → KD F (dropK vs k) (dropD ks k)
  | _, _, .nil => .nil
  | (k1, v1) :: vs, (k2, d2) :: ks, .cons r t => by
    have e : k1 = k2 := r.1
    subst e
    unfold dropK dropD
    by_cases z : k1 = k
    · simp only [List.filter_cons, z, ne_eq, not_true_eq_false, decide_false, Bool.false_eq_true, if_false]
      exact kd_drop t
    · simp only [List.filter_cons, z, ne_eq, not_false_eq_true, decide_true, if_true]
      exact .cons r (kd_drop t)
/-- the key that a datum is -/
@[simp] def keyOf : PyData → Option Key
  | .int i => some (.inl i)
  | .str x => some (.inr x)
  | _ => none
theorem keyOf_v {F : Hp} {v : V} {d : PyData} {k : Key} (h : Dq F v d) (e : keyOf d = some k) : v = kV k := by
  cases h <;> simp [keyOf] at e <;> subst e <;> rfl

/-! ### in -/
def intsOf : List PyData → Option (List Int)
  | [] => some []
  | .int i :: r => (intsOf r).map (i :: ·)
  | _ :: _ => none
theorem intsOf_v {F : Hp} : ∀ {vs : List V} {ds : List PyData} {ns : List Int}, DqAll F vs ds → intsOf ds = some ns → vs = ns.map V.int
  | _, _, _, .nil, e => by simp [intsOf] at e; subst e; rfl
  | _, d :: ds, ns, .cons r t, e => by
    cases d with
    | int i =>
      simp only [intsOf, Option.map_eq_some_iff] at e
      obtain ⟨ns', e1, e2⟩ := e
      subst e2
      obtain rfl := dq_int r
      rw [intsOf_v t e1]; rfl
    | _ => simp [intsOf] at e
theorem flat_ints : ∀ ns : List Int, (ns.map V.int).all flatV = true
  | [] => rfl
  | n :: r => by rw [List.map_cons, List.all_cons, flat_ints r]; rfl
theorem inV_ints (i : Int) : ∀ ns : List Int, inV (.int i) (ns.map V.int) = decide (i ∈ ns)
  | [] => rfl
  | n :: r => by
    have ih := inV_ints i r
    unfold inV at ih ⊢
    rw [List.map_cons, List.any_cons, ih]
    have e : eqV (.int n) (.int i) = decide (n = i) := by
      show (n == i) = decide (n = i)
      by_cases z : n = i
      · subst z; simp
      · simp [z]
    rw [e]
    by_cases z : n = i
    · subst z; simp
    · simp [z, Ne.symm z]
def inW : W → W → Option Bool
  | .dat (.int i), .dat (.tuple ds) => (intsOf ds).map fun ns => decide (i ∈ ns)
  | .dat (.int i), .olst _ ds => (intsOf ds).map fun ns => decide (i ∈ ns)
  | .dat d, .dat (.list ds) => if (SeqAt.shaped d && SeqAt.shaped (.list ds)) = true then some (ds.any fun z => PyData.eqv z d) else none
  | .dat (.str x), .dat (.str z) => match x with | ⟨⟨[c]⟩⟩ => some (decide (c ∈ z.cps.toList)) | _ => none
  | .dat d, .dic kvs => (keyOf d).map fun k => (valD kvs k).isSome
  | .dat d, .odic _ kvs => (keyOf d).map fun k => (valD kvs k).isSome
  | _, _ => none
abbrev rInSign (neg : Bool) : R2 := fun x y H Q => ∃ (c : Nat) (z : Str), x = .str ⟨#[c]⟩ ∧ y = .str z ∧ Q (.bl (if neg then !decide (c ∈ z.cps.toList) else decide (c ∈ z.cps.toList))) H
abbrev rInDict (neg : Bool) : R2 := fun x y H Q => ∃ a o, y = .ref a ∧ DGet H a x o ∧ Q (.bl (if neg then !o.isSome else o.isSome)) H
abbrev rInDeep (K : PySem.W.Frag) (neg : Bool) : R2 := fun x y H Q => ∃ d ds, Dp K H x d ∧ Dp K H y (.list ds) ∧ SeqAt.shaped d = true ∧ SeqAt.shaped (.list ds) = true ∧ Q (.bl (if neg then !ds.any fun z => PyData.eqv z d else ds.any fun z => PyData.eqv z d)) H
abbrev rInAll (K : PySem.W.Frag) (neg : Bool) : R2 := fun x y H Q => rIn K neg x y H Q ∨ (rInDeep K neg x y H Q ∨ (rInSign neg x y H Q ∨ rInDict neg x y H Q))
@[simp] def inWd (neg : Bool) : W → W → Option W := fun a c => (inW a c).map fun r => .dat (.bool (if neg then !r else r))
theorem rd_mono {F H : Hp} (e : Same F H) {a : Addr} {u : HO} {o : Obj} (h : F a = some (.frz o u)) : Rd H a u := .inr ⟨o, e _ _ h⟩
theorem gr_in {w : Wk} {K : PySem.W.Frag} (neg : Bool) : GR w (rInAll K neg) (inWd neg) := gr_val fun b F H x y a c z hf ra rc e0 => by
  obtain ⟨r, e, ez⟩ := Option.map_eq_some_iff.mp e0
  subst ez
  refine ⟨.bl (if neg then !r else r), Dq.bl _, fun Q q => ?_⟩
  clear e0
  unfold inW at e
  split at e
  · rename_i i ds
    obtain ⟨ns, e1, e2⟩ := Option.map_eq_some_iff.mp e
    subst e2
    obtain rfl := dq_int ra
    obtain ⟨p, vs, rfl, h1, t1⟩ := dq_tup rc
    obtain rfl := intsOf_v t1 e1
    exact .inl ⟨p, _, rfl, .inr (h1.sq hf), rfl, flat_ints ns, by rw [inV_ints]; exact q⟩
  · rename_i i p ds
    obtain ⟨ns, e1, e2⟩ := Option.map_eq_some_iff.mp e
    subst e2
    obtain rfl := dq_int ra
    obtain ⟨rfl, _, _, vs, h1, t1⟩ := rc
    obtain rfl := intsOf_v t1 e1
    exact .inl ⟨p, _, rfl, .inl (SqL.of h1), rfl, flat_ints ns, by rw [inV_ints]; exact q⟩
  · rename_i d ds
    split at e
    · rename_i hs
      cases e
      obtain ⟨h1, h2⟩ := Bool.and_eq_true_iff.mp hs
      exact .inr (.inl ⟨d, ds, dq_dp hf _ _ ra, dq_dp hf _ _ rc, h1, h2, q⟩)
    · cases e
  · rename_i x' z'
    split at e
    · rename_i c
      cases e
      obtain rfl := dq_str ra
      obtain rfl := dq_str rc
      exact .inr (.inr (.inl ⟨c, z', rfl, rfl, q⟩))
    · cases e
  · rename_i d kvs
    obtain ⟨k, e1, e2⟩ := Option.map_eq_some_iff.mp e
    subst e2
    obtain rfl := keyOf_v ra e1
    obtain ⟨p, o, vs, rfl, hp, hk⟩ := rc
    refine .inr (.inr (.inr ⟨p, valV vs k, rfl, .inl ⟨vs, k, rd_mono hf hp, rfl, rfl⟩, ?_⟩))
    have e3 : (valV vs k).isSome = (valD kvs k).isSome := by
      rcases kd_val (k := k) hk with ⟨v, d', g1, g2, _⟩ | ⟨g1, g2⟩ <;> rw [g1, g2] <;> rfl
    rw [e3]; exact q
  · rename_i d p kvs
    obtain ⟨k, e1, e2⟩ := Option.map_eq_some_iff.mp e
    subst e2
    obtain rfl := keyOf_v ra e1
    obtain ⟨rfl, _, _, vs, hp, hk⟩ := rc
    refine .inr (.inr (.inr ⟨p, valV vs k, rfl, .inl ⟨vs, k, .inl hp, rfl, rfl⟩, ?_⟩))
    have e3 : (valV vs k).isSome = (valD kvs k).isSome := by
      rcases kd_val (k := k) hk with ⟨v, d', g1, g2, _⟩ | ⟨g1, g2⟩ <;> rw [g1, g2] <;> rfl
    rw [e3]; exact q
  · cases e
theorem op_inDict {X : Cx} (hu : X.A.units + 1 < cLine) : OpR X (compareOp .In) (rInDict false) := by
  intro pins s σ H x y v u Q I rx ry h
  obtain ⟨a, o, rfl, g, q⟩ := h
  cases ry
  exact d_in hu I g rx fun s' I' => ⟨.bl _, H, I', rfl, q⟩
theorem op_notinDict {X : Cx} (hu : X.A.units + 1 < cLine) : OpR X (compareOp .NotIn) (rInDict true) := by
  intro pins s σ H x y v u Q I rx ry h
  obtain ⟨a, o, rfl, g, q⟩ := h
  cases ry
  exact d_notIn hu I g rx fun s' I' => ⟨.bl _, H, I', rfl, q⟩
theorem op_inAll {X : Cx} {k : Nat} (hr : Room k X.A) : OpR X (compareOp .In) (rInAll X.K false) := op_in_seq.or ((op_inD (by have := hr.un; omega)).or (op_in_sign.or (op_inDict (hu_of hr))))
theorem op_notinAll {X : Cx} {k : Nat} (hr : Room k X.A) : OpR X (compareOp .NotIn) (rInAll X.K true) := op_notIn_seq.or ((op_notInD (by have := hr.un; omega)).or (op_notIn_sign.or (op_notinDict (hu_of hr))))
end DL
set_option Elab.async false
set_option linter.all false
set_option maxRecDepth 100000
set_option maxHeartbeats 4000000
/-! DL4: comparisons as values and tests, and or not, if, subscripts, slices. -/
namespace DL
open PySem PySem.Spec L2

/-- a truth as a test -/
@[simp] def dtst (f : TD) : TDt := fun n ρ P => f n ρ fun x m => ∃ c, x = .dat (.bool c) ∧ P c m
theorem gt_tst {w : Wk} {t : TE} {f : TD} (h : GE w t f) : GT w (tTest t) (dtst f) := by
  intro g F H n σ ρ P Q hw k hh q
  refine h g F H n σ ρ _ _ hw k hh fun v F1 H1 m x s1 b1 r1 hx => ?_
  obtain ⟨c, rfl, hP⟩ := hx
  obtain rfl := dq_bl r1
  exact ⟨c, rfl, q c F1 H1 m s1 b1 hP⟩
section
variable {X : Cx} {a c : Expr} {pos : Pos} {f h : TD}
theorem de_cmp {o : CmpOp} {r : R2} {op : W → W → Option W} (ho : OpR X (compareOp o) r) (hr : GR (wkOf X) r op) (h1 : DE X a f) (h2 : DE X c h) (hm : behindInMarks o c = false) : DE X (.Compare a [o] [c] pos) (dOp op f h) := by
  obtain ⟨t, p, g⟩ := h1
  obtain ⟨u, p2, g2⟩ := h2
  exact ⟨_, pe_cmpR ho p p2 hm, ge_op g g2 hr⟩
theorem dt_cmp {o : CmpOp} {r : R2} {op : W → W → Option W} (ho : OpR X (compareOp o) r) (hr : GR (wkOf X) r op) (h1 : DE X a f) (h2 : DE X c h) (hm : behindInMarks o c = false) : DT X (.Compare a [o] [c] pos) (dtst (dOp op f h)) := by
  obtain ⟨t, p, g⟩ := h1
  obtain ⟨u, p2, g2⟩ := h2
  exact ⟨_, pt_cmpR ho p p2 hm, gt_tst (ge_op g g2 hr)⟩
/-- any expression that is a truth, as a test (a call, a name) -/
theorem dt_val (h1 : DE X a f) (he : ∀ whole, isTrue a X.env whole = (do let v ← whole; standAt a.pos; holding [v] (truthy v)) := by intro _; rfl) : DT X a (dtst f) := by
  obtain ⟨t, p, g⟩ := h1
  exact ⟨_, pt_val p he, gt_tst g⟩
variable {k : Nat}
theorem de_eq (hr : Room k X.A) (h1 : DE X a f) (h2 : DE X c h) : DE X (.Compare a [.Eq] [c] pos) (dOp eqW f h) := de_cmp (op_eq.or (op_eqD hr.units)) gr_eq h1 h2 (nomark _)
theorem de_ne (hr : Room k X.A) (h1 : DE X a f) (h2 : DE X c h) : DE X (.Compare a [.NotEq] [c] pos) (dOp neW f h) := de_cmp (op_ne.or (op_neD hr.units)) gr_ne h1 h2 (nomark _)
theorem de_lt (h1 : DE X a f) (h2 : DE X c h) : DE X (.Compare a [.Lt] [c] pos) (dOp ltW f h) := de_cmp (op_lt.or op_lt_str) gr_lt h1 h2 (nomark _)
theorem de_le (h1 : DE X a f) (h2 : DE X c h) : DE X (.Compare a [.LtE] [c] pos) (dOp leW f h) := de_cmp (op_le.or op_le_str) gr_le h1 h2 (nomark _)
theorem de_gt (h1 : DE X a f) (h2 : DE X c h) : DE X (.Compare a [.Gt] [c] pos) (dOp gtW f h) := de_cmp op_gt gr_gt h1 h2 (nomark _)
theorem de_ge (h1 : DE X a f) (h2 : DE X c h) : DE X (.Compare a [.GtE] [c] pos) (dOp geW f h) := de_cmp op_ge gr_ge h1 h2 (nomark _)
theorem de_is (h1 : DE X a f) (h2 : DE X c h) : DE X (.Compare a [.Is] [c] pos) (dOp isnW f h) := de_cmp op_isN gr_isn h1 h2 (nomark _)
theorem de_isnot (h1 : DE X a f) (h2 : DE X c h) : DE X (.Compare a [.IsNot] [c] pos) (dOp notnW f h) := de_cmp op_notN gr_notn h1 h2 (nomark _)
theorem de_in (hr : Room k X.A) (h1 : DE X a f) (h2 : DE X c h) (hm : behindInMarks .In c = false := by rfl) : DE X (.Compare a [.In] [c] pos) (dOp (inWd false) f h) := de_cmp (op_inAll hr) (gr_in false) h1 h2 hm
theorem de_notin (hr : Room k X.A) (h1 : DE X a f) (h2 : DE X c h) (hm : behindInMarks .NotIn c = false := by rfl) : DE X (.Compare a [.NotIn] [c] pos) (dOp (inWd true) f h) := de_cmp (op_notinAll hr) (gr_in true) h1 h2 hm
theorem dt_eq (hr : Room k X.A) (h1 : DE X a f) (h2 : DE X c h) : DT X (.Compare a [.Eq] [c] pos) (dtst (dOp eqW f h)) := dt_cmp (op_eq.or (op_eqD hr.units)) gr_eq h1 h2 (nomark _)
theorem dt_ne (hr : Room k X.A) (h1 : DE X a f) (h2 : DE X c h) : DT X (.Compare a [.NotEq] [c] pos) (dtst (dOp neW f h)) := dt_cmp (op_ne.or (op_neD hr.units)) gr_ne h1 h2 (nomark _)
theorem dt_lt (h1 : DE X a f) (h2 : DE X c h) : DT X (.Compare a [.Lt] [c] pos) (dtst (dOp ltW f h)) := dt_cmp (op_lt.or op_lt_str) gr_lt h1 h2 (nomark _)
theorem dt_le (h1 : DE X a f) (h2 : DE X c h) : DT X (.Compare a [.LtE] [c] pos) (dtst (dOp leW f h)) := dt_cmp (op_le.or op_le_str) gr_le h1 h2 (nomark _)
theorem dt_gt (h1 : DE X a f) (h2 : DE X c h) : DT X (.Compare a [.Gt] [c] pos) (dtst (dOp gtW f h)) := dt_cmp op_gt gr_gt h1 h2 (nomark _)
theorem dt_ge (h1 : DE X a f) (h2 : DE X c h) : DT X (.Compare a [.GtE] [c] pos) (dtst (dOp geW f h)) := dt_cmp op_ge gr_ge h1 h2 (nomark _)
theorem dt_is (h1 : DE X a f) (h2 : DE X c h) : DT X (.Compare a [.Is] [c] pos) (dtst (dOp isnW f h)) := dt_cmp op_isN gr_isn h1 h2 (nomark _)
theorem dt_isnot (h1 : DE X a f) (h2 : DE X c h) : DT X (.Compare a [.IsNot] [c] pos) (dtst (dOp notnW f h)) := dt_cmp op_notN gr_notn h1 h2 (nomark _)
theorem dt_in (hr : Room k X.A) (h1 : DE X a f) (h2 : DE X c h) (hm : behindInMarks .In c = false := by rfl) : DT X (.Compare a [.In] [c] pos) (dtst (dOp (inWd false) f h)) := dt_cmp (op_inAll hr) (gr_in false) h1 h2 hm
theorem dt_notin (hr : Room k X.A) (h1 : DE X a f) (h2 : DE X c h) (hm : behindInMarks .NotIn c = false := by rfl) : DT X (.Compare a [.NotIn] [c] pos) (dtst (dOp (inWd true) f h)) := dt_cmp (op_notinAll hr) (gr_in true) h1 h2 hm
end

/-! ### a op b op' c -/
@[simp] def dChain (op op' : W → W → Option W) (f h l : TD) : TD := fun n ρ P => f n ρ fun x m => h m ρ fun y k => ∃ c, op x y = some (.dat (.bool c)) ∧ (if c = true then l k ρ fun u j => ∃ z, op' y u = some z ∧ P z j else P (.dat (.bool false)) k)
theorem ge_chain {w : Wk} {ta tb tc : TE} {f h l : TD} {r r' : R2} {op op' : W → W → Option W} (h1 : GE w ta f) (h2 : GE w tb h) (h3 : GE w tc l) (hr : GR w r op) (hr' : GR w r' op') : GE w (tChain r r' ta tb tc) (dChain op op' f h l) := by
  intro g F H n σ ρ P Q hw k hh q
  refine h1 g F H n σ ρ _ _ hw k hh fun v F1 H1 m x s1 b1 r1 hx => ?_
  have k1 := k.step s1 b1
  refine h2 g F1 H1 m σ ρ _ _ hw k1 hx fun u F2 H2 m2 y s2 b2 r2 hy => ?_
  have k2 := k1.step s2 b2
  obtain ⟨c, e, hc⟩ := hy
  refine hr g.b F2 H2 m2 v u x y _ _ s2.fr b2 (r1.mono s2) r2 e fun v' F3 H3 s3 b3 r3 => ?_
  obtain rfl := dq_bl r3
  refine ⟨c, rfl, ?_⟩
  cases c with
  | false => exact q _ F3 H3 m2 (.dat (.bool false)) ((s1.trans s2).trans s3) b3 r3 hc
  | true =>
    have k3 := k2.step s3 b3
    refine h3 g F3 H3 m2 σ ρ _ _ hw k3 hc fun v4 F4 H4 m4 x4 s4 b4 r4 hx4 => ?_
    obtain ⟨z, ez, hP⟩ := hx4
    exact hr' g.b F4 H4 m4 u v4 y x4 z Q s4.fr b4 ((r2.mono s3).mono s4) r4 ez fun v5 F5 H5 s5 b5 r5 => q v5 F5 H5 m4 z ((((s1.trans s2).trans s3).trans s4).trans s5) b5 r5 hP
section
variable {X : Cx} {a b c : Expr} {pos : Pos} {f h l : TD}
theorem de_chain {o o' : CmpOp} {r r' : R2} {op op' : W → W → Option W} (ho : OpR X (compareOp o) r) (ho' : OpR X (compareOp o') r') (hr : GR (wkOf X) r op) (hr' : GR (wkOf X) r' op') (h1 : DE X a f) (h2 : DE X b h) (h3 : DE X c l)
    (hm : lastMarks [o, o'] [b, c] = false := by with_unfolding_all rfl) : DE X (.Compare a [o, o'] [b, c] pos) (dChain op op' f h l) := by
  obtain ⟨t, p, g⟩ := h1
  obtain ⟨u, p2, g2⟩ := h2
  obtain ⟨u', p3, g3⟩ := h3
  exact ⟨_, pe_chain ho ho' p p2 p3 hm, ge_chain g g2 g3 hr hr'⟩
theorem dt_chain {o o' : CmpOp} {r r' : R2} {op op' : W → W → Option W} (ho : OpR X (compareOp o) r) (ho' : OpR X (compareOp o') r') (hr : GR (wkOf X) r op) (hr' : GR (wkOf X) r' op') (h1 : DE X a f) (h2 : DE X b h) (h3 : DE X c l)
    (hm : lastMarks [o, o'] [b, c] = false := by with_unfolding_all rfl) : DT X (.Compare a [o, o'] [b, c] pos) (dtst (dChain op op' f h l)) := by
  obtain ⟨t, p, g⟩ := h1
  obtain ⟨u, p2, g2⟩ := h2
  obtain ⟨u', p3, g3⟩ := h3
  exact ⟨_, pt_chain ho ho' p p2 p3 hm, gt_tst (ge_chain g g2 g3 hr hr')⟩
theorem de_lele (h1 : DE X a f) (h2 : DE X b h) (h3 : DE X c l) (hm : lastMarks [.LtE, .LtE] [b, c] = false := by with_unfolding_all rfl) : DE X (.Compare a [.LtE, .LtE] [b, c] pos) (dChain leW leW f h l) := de_chain (op_le.or op_le_str) (op_le.or op_le_str) gr_le gr_le h1 h2 h3 hm
theorem dt_lele (h1 : DE X a f) (h2 : DE X b h) (h3 : DE X c l) (hm : lastMarks [.LtE, .LtE] [b, c] = false := by with_unfolding_all rfl) : DT X (.Compare a [.LtE, .LtE] [b, c] pos) (dtst (dChain leW leW f h l)) := dt_chain (op_le.or op_le_str) (op_le.or op_le_str) gr_le gr_le h1 h2 h3 hm
theorem de_lelt (h1 : DE X a f) (h2 : DE X b h) (h3 : DE X c l) (hm : lastMarks [.LtE, .Lt] [b, c] = false := by with_unfolding_all rfl) : DE X (.Compare a [.LtE, .Lt] [b, c] pos) (dChain leW ltW f h l) := de_chain (op_le.or op_le_str) (op_lt.or op_lt_str) gr_le gr_lt h1 h2 h3 hm
theorem dt_lelt (h1 : DE X a f) (h2 : DE X b h) (h3 : DE X c l) (hm : lastMarks [.LtE, .Lt] [b, c] = false := by with_unfolding_all rfl) : DT X (.Compare a [.LtE, .Lt] [b, c] pos) (dtst (dChain leW ltW f h l)) := dt_chain (op_le.or op_le_str) (op_lt.or op_lt_str) gr_le gr_lt h1 h2 h3 hm
theorem de_ltlt (h1 : DE X a f) (h2 : DE X b h) (h3 : DE X c l) (hm : lastMarks [.Lt, .Lt] [b, c] = false := by with_unfolding_all rfl) : DE X (.Compare a [.Lt, .Lt] [b, c] pos) (dChain ltW ltW f h l) := de_chain (op_lt.or op_lt_str) (op_lt.or op_lt_str) gr_lt gr_lt h1 h2 h3 hm
end

/-! ### and, or, not -/
@[simp] def dAnd (f h : TD) : TD := fun n ρ P => f n ρ fun x m => ∃ c, x = .dat (.bool c) ∧ (if c = true then h m ρ P else P (.dat (.bool false)) m)
@[simp] def dOr (f h : TD) : TD := fun n ρ P => f n ρ fun x m => ∃ c, x = .dat (.bool c) ∧ (if c = true then P (.dat (.bool true)) m else h m ρ P)
@[simp] def dNot (f : TD) : TD := fun n ρ P => f n ρ fun x m => ∃ c, x = .dat (.bool c) ∧ P (.dat (.bool (!c))) m
@[simp] def dtAnd (f h : TDt) : TDt := fun n ρ P => f n ρ fun c m => if c = true then h m ρ P else P false m
@[simp] def dtOr (f h : TDt) : TDt := fun n ρ P => f n ρ fun c m => if c = true then P true m else h m ρ P
@[simp] def dtNot (f : TDt) : TDt := fun n ρ P => f n ρ fun c m => P (!c) m
@[simp] def dIf (t : TDt) (f h : TD) : TD := fun n ρ P => t n ρ fun c m => if c = true then f m ρ P else h m ρ P
section
variable {w : Wk} {ta tb : TE} {t u : TT} {f h : TD} {ft fu : TDt}
theorem ge_and (h1 : GE w ta f) (h2 : GE w tb h) : GE w (tAndV ta tb) (dAnd f h) := by
  intro g F H n σ ρ P Q hw k hh q
  refine h1 g F H n σ ρ _ _ hw k hh fun v F1 H1 m x s1 b1 r1 hx => ?_
  obtain ⟨c, rfl, hc⟩ := hx
  obtain rfl := dq_bl r1
  refine ⟨c, rfl, ?_⟩
  cases c with
  | true => exact h2 g F1 H1 m σ ρ _ _ hw (k.step s1 b1) hc fun v F2 H2 m2 x s2 b2 r2 hP => q v F2 H2 m2 x (s1.trans s2) b2 r2 hP
  | false => exact q _ F1 H1 m (.dat (.bool false)) s1 b1 (Dq.bl _) hc
theorem ge_or (h1 : GE w ta f) (h2 : GE w tb h) : GE w (tOrV ta tb) (dOr f h) := by
  intro g F H n σ ρ P Q hw k hh q
  refine h1 g F H n σ ρ _ _ hw k hh fun v F1 H1 m x s1 b1 r1 hx => ?_
  obtain ⟨c, rfl, hc⟩ := hx
  obtain rfl := dq_bl r1
  refine ⟨c, rfl, ?_⟩
  cases c with
  | false => exact h2 g F1 H1 m σ ρ _ _ hw (k.step s1 b1) hc fun v F2 H2 m2 x s2 b2 r2 hP => q v F2 H2 m2 x (s1.trans s2) b2 r2 hP
  | true => exact q _ F1 H1 m (.dat (.bool true)) s1 b1 (Dq.bl _) hc
theorem ge_not (h1 : GE w ta f) : GE w (tNotV ta) (dNot f) := by
  intro g F H n σ ρ P Q hw k hh q
  refine h1 g F H n σ ρ _ _ hw k hh fun v F1 H1 m x s1 b1 r1 hx => ?_
  obtain ⟨c, rfl, hc⟩ := hx
  obtain rfl := dq_bl r1
  exact ⟨c, rfl, q _ F1 H1 m (.dat (.bool (!c))) s1 b1 (Dq.bl _) hc⟩
theorem gt_and (h1 : GT w t ft) (h2 : GT w u fu) : GT w (tAnd t u) (dtAnd ft fu) := by
  intro g F H n σ ρ P Q hw k hh q
  refine h1 g F H n σ ρ _ _ hw k hh fun c F1 H1 m s1 b1 hc => ?_
  cases c with
  | true => exact h2 g F1 H1 m σ ρ _ _ hw (k.step s1 b1) hc fun c F2 H2 m2 s2 b2 hP => q c F2 H2 m2 (s1.trans s2) b2 hP
  | false => exact q false F1 H1 m s1 b1 hc
theorem gt_or (h1 : GT w t ft) (h2 : GT w u fu) : GT w (tOr t u) (dtOr ft fu) := by
  intro g F H n σ ρ P Q hw k hh q
  refine h1 g F H n σ ρ _ _ hw k hh fun c F1 H1 m s1 b1 hc => ?_
  cases c with
  | false => exact h2 g F1 H1 m σ ρ _ _ hw (k.step s1 b1) hc fun c F2 H2 m2 s2 b2 hP => q c F2 H2 m2 (s1.trans s2) b2 hP
  | true => exact q true F1 H1 m s1 b1 hc
theorem gt_not (h1 : GT w t ft) : GT w (tNot t) (dtNot ft) := by
  intro g F H n σ ρ P Q hw k hh q
  exact h1 g F H n σ ρ _ _ hw k hh fun c F1 H1 m s1 b1 hc => q (!c) F1 H1 m s1 b1 hc
theorem ge_if (h1 : GT w t ft) (h2 : GE w ta f) (h3 : GE w tb h) : GE w (tIf t ta tb) (dIf ft f h) := by
  intro g F H n σ ρ P Q hw k hh q
  refine h1 g F H n σ ρ _ _ hw k hh fun c F1 H1 m s1 b1 hc => ?_
  cases c with
  | true => exact h2 g F1 H1 m σ ρ _ _ hw (k.step s1 b1) hc fun v F2 H2 m2 x s2 b2 r2 hP => q v F2 H2 m2 x (s1.trans s2) b2 r2 hP
  | false => exact h3 g F1 H1 m σ ρ _ _ hw (k.step s1 b1) hc fun v F2 H2 m2 x s2 b2 r2 hP => q v F2 H2 m2 x (s1.trans s2) b2 r2 hP
end
section
variable {X : Cx} {a b c : Expr} {rest : List Expr} {pos : Pos} {f h : TD} {ft fu : TDt}
theorem de_one {op} (h1 : DE X a f) : DE X (.BoolOp op [a] pos) f := by
  obtain ⟨t, p, g⟩ := h1
  exact ⟨_, pe_one p, g⟩
theorem de_and (h1 : DE X a f) (h2 : DE X (.BoolOp .And (b :: rest) pos) h) : DE X (.BoolOp .And (a :: b :: rest) pos) (dAnd f h) := by
  obtain ⟨t, p, g⟩ := h1
  obtain ⟨u, p2, g2⟩ := h2
  exact ⟨_, pe_and p p2, ge_and g g2⟩
theorem de_or (h1 : DE X a f) (h2 : DE X (.BoolOp .Or (b :: rest) pos) h) : DE X (.BoolOp .Or (a :: b :: rest) pos) (dOr f h) := by
  obtain ⟨t, p, g⟩ := h1
  obtain ⟨u, p2, g2⟩ := h2
  exact ⟨_, pe_or p p2, ge_or g g2⟩
theorem de_not (h1 : DE X a f) : DE X (.UnaryOp .Not a pos) (dNot f) := by
  obtain ⟨t, p, g⟩ := h1
  exact ⟨_, pe_not p, ge_not g⟩
theorem dw_and1 (h1 : DT X a ft) : DTw X (.BoolOp .And [a] pos) ft := by
  obtain ⟨t, p, g⟩ := h1
  exact ⟨_, pw_and1 p, g⟩
theorem dw_or1 (h1 : DT X a ft) : DTw X (.BoolOp .Or [a] pos) ft := by
  obtain ⟨t, p, g⟩ := h1
  exact ⟨_, pw_or1 p, g⟩
theorem dw_and (h1 : DT X a ft) (h2 : DTw X (.BoolOp .And (b :: rest) pos) fu) : DTw X (.BoolOp .And (a :: b :: rest) pos) (dtAnd ft fu) := by
  obtain ⟨t, p, g⟩ := h1
  obtain ⟨u, p2, g2⟩ := h2
  exact ⟨_, pw_and p p2, gt_and g g2⟩
theorem dw_or (h1 : DT X a ft) (h2 : DTw X (.BoolOp .Or (b :: rest) pos) fu) : DTw X (.BoolOp .Or (a :: b :: rest) pos) (dtOr ft fu) := by
  obtain ⟨t, p, g⟩ := h1
  obtain ⟨u, p2, g2⟩ := h2
  exact ⟨_, pw_or p p2, gt_or g g2⟩
theorem dt_w (h1 : DTw X a ft) : DT X a ft := by
  obtain ⟨t, p, g⟩ := h1
  exact ⟨_, p.pt, g⟩
theorem dt_not (h1 : DT X a ft) : DT X (.UnaryOp .Not a pos) (dtNot ft) := by
  obtain ⟨t, p, g⟩ := h1
  exact ⟨_, pt_not p, gt_not g⟩
theorem de_ifExp (h1 : DT X c ft) (h2 : DE X a f) (h3 : DE X b h) : DE X (.IfExp c a b pos) (dIf ft f h) := by
  obtain ⟨t, p, g⟩ := h1
  obtain ⟨u, p2, g2⟩ := h2
  obtain ⟨u', p3, g3⟩ := h3
  exact ⟨_, pe_ifExp p p2 p3, ge_if g g2 g3⟩
end

/-! ### subscripts -/
@[simp] def idxW : W → W → Option W
  | .dat (.list ds), .dat (.int i) => (atI ds i).map .dat
  | .olst _ ds, .dat (.int i) => (atI ds i).map .dat
  | .dat (.tuple ds), .dat (.int i) => (atI ds i).map .dat
  | .dat (.str z), .dat (.int i) => if z.length ≤ 16777216 then (atI z.cps.toList i).map fun c => .dat (.str ⟨#[c]⟩) else none
  | _, _ => none
theorem dpa_at {F : Hp} {vs : List V} {ds : List PyData} {i : Int} {d : PyData} (h : DqAll F vs ds) (e : atI ds i = some d) : ∃ v, atI vs i = some v ∧ Dq F v d := by
  unfold atI at e ⊢
  rw [dpa_len h]
  cases hx : ixN ds.length i with
  | none => rw [hx] at e; cases e
  | some j =>
    rw [hx] at e
    exact dpa_get h e
theorem gr_idx {w : Wk} {K : PySem.W.Frag} : GR w (rIx K) idxW := gr_val fun b F H x y a c z hf ra rc e => by
  unfold idxW at e
  split at e
  · rename_i ds i
    obtain ⟨d, e1, e2⟩ := Option.map_eq_some_iff.mp e
    subst e2
    obtain ⟨p, vs, rfl, h1, t1⟩ := dq_lst ra
    obtain rfl := dq_int rc
    obtain ⟨v, hv, rv⟩ := dpa_at t1 e1
    exact ⟨v, rv, fun Q q => .inl ⟨p, vs, i, v, rfl, rfl, SqL.of (hf _ _ h1), hv, q⟩⟩
  · rename_i p ds i
    obtain ⟨d, e1, e2⟩ := Option.map_eq_some_iff.mp e
    subst e2
    obtain ⟨rfl, _, _, vs, h1, t1⟩ := ra
    obtain rfl := dq_int rc
    obtain ⟨v, hv, rv⟩ := dpa_at t1 e1
    exact ⟨v, rv, fun Q q => .inl ⟨p, vs, i, v, rfl, rfl, SqL.of h1, hv, q⟩⟩
  · rename_i ds i
    obtain ⟨d, e1, e2⟩ := Option.map_eq_some_iff.mp e
    subst e2
    obtain ⟨p, vs, rfl, h1, t1⟩ := dq_tup ra
    obtain rfl := dq_int rc
    obtain ⟨v, hv, rv⟩ := dpa_at t1 e1
    exact ⟨v, rv, fun Q q => .inr (.inl ⟨p, vs, i, v, rfl, rfl, h1.sq hf, hv, q⟩)⟩
  · rename_i s i
    split at e
    · rename_i hl
      obtain ⟨d, e1, e2⟩ := Option.map_eq_some_iff.mp e
      subst e2
      obtain rfl := dq_str ra
      obtain rfl := dq_int rc
      exact ⟨_, Dq.str _, fun Q q => .inr (.inr ⟨s, i, d, rfl, rfl, line_eq hl, e1, q⟩)⟩
    · cases e
  · cases e
/-- d[k], the key there -/
@[simp] def dgetW : W → W → Option W
  | .dic kvs, .dat d => (keyOf d).bind fun k => (valD kvs k).map .dat
  | .odic _ kvs, .dat d => (keyOf d).bind fun k => (valD kvs k).map .dat
  | _, _ => none
abbrev rDGet : R2 := fun x y H Q => ∃ a v, x = .ref a ∧ DGet H a y (some v) ∧ Q v H
theorem gr_dget {w : Wk} : GR w rDGet dgetW := gr_val fun b F H x y a c z hf ra rc e => by
  unfold dgetW at e
  split at e
  · rename_i kvs d
    obtain ⟨k, e1, e2⟩ := Option.bind_eq_some_iff.mp e
    obtain ⟨d', e3, e4⟩ := Option.map_eq_some_iff.mp e2
    subst e4
    obtain rfl := keyOf_v rc e1
    obtain ⟨p, o, vs, rfl, hp, hk⟩ := ra
    rcases kd_val (k := k) hk with ⟨v, d2, g1, g2, g3⟩ | ⟨g1, g2⟩
    · rw [e3] at g2; cases g2
      exact ⟨v, g3, fun Q q => ⟨p, v, rfl, .inl ⟨vs, k, rd_mono hf hp, rfl, g1.symm⟩, q⟩⟩
    · rw [e3] at g2; cases g2
  · rename_i p kvs d
    obtain ⟨k, e1, e2⟩ := Option.bind_eq_some_iff.mp e
    obtain ⟨d', e3, e4⟩ := Option.map_eq_some_iff.mp e2
    subst e4
    obtain rfl := keyOf_v rc e1
    obtain ⟨rfl, _, _, vs, hp, hk⟩ := ra
    rcases kd_val (k := k) hk with ⟨v, d2, g1, g2, g3⟩ | ⟨g1, g2⟩
    · rw [e3] at g2; cases g2
      exact ⟨v, g3, fun Q q => ⟨p, v, rfl, .inl ⟨vs, k, .inl hp, rfl, g1.symm⟩, q⟩⟩
    · rw [e3] at g2; cases g2
  · cases e
section
variable {X : Cx} {a c : Expr} {pos p2 : Pos} {f h : TD} {k : Nat}
theorem de_ix (h1 : DE X a f) (h2 : DE X c h) (hs : PlainIx c := by exact fun _ _ => rfl) : DE X (.Subscript a c pos) (dOp idxW f h) := by
  obtain ⟨t, p, g⟩ := h1
  obtain ⟨u, p2, g2⟩ := h2
  exact ⟨_, pe_ix ix_seq p p2 hs, ge_op g g2 gr_idx⟩
theorem de_dget (hr : Room k X.A) (h1 : DE X a f) (h2 : DE X c h) (hs : NoSl c := by exact fun _ _ => rfl) : DE X (.Subscript a c pos) (dOp dgetW f h) := by
  obtain ⟨t, p, g⟩ := h1
  obtain ⟨u, p2, g2⟩ := h2
  exact ⟨_, pe_dget (hu_of hr) p p2 hs, ge_op (r := rDGet) g g2 gr_dget⟩
end

/-! ### slices -/
def cutD {α : Type} (xs : List α) (lo hi : Option Int) : List α := (xs.drop (HT.sIx xs.length 0 lo)).take (HT.sIx xs.length xs.length hi - HT.sIx xs.length 0 lo)
theorem dpa_cut {F : Hp} {vs : List V} {ds : List PyData} (lo hi : Option Int) (h : DqAll F vs ds) : DqAll F (cutV vs lo hi) (cutD ds lo hi) := by
  unfold cutV cutD
  rw [dpa_len h]
  exact dpa_take _ (dpa_drop _ h)
@[simp] def slW (x : W) (lo hi : Option Int) : Option W := match x with
  | .dat (.list ds) => some (.dat (.list (cutD ds lo hi)))
  | .dat (.tuple ds) => some (.dat (.tuple (cutD ds lo hi)))
  | .scr ns => some (.dat (.list ((cutD ns lo hi).map .int)))
  | _ => none
theorem scr_sq {w : Wk} {b : Option Addr} {F H : Hp} {v : V} {ns : List Int} (hf : Same F H) (r : RelW w b F H v (.scr ns)) : ∃ a, v = .ref a ∧ SqL w.K H a (ns.map V.int) := by
  obtain ⟨a, h1, h2⟩ := r
  refine ⟨a, h1, ?_⟩
  rcases h2 with ⟨o, h⟩ | h
  · exact .inl (.inr ⟨o, hf _ _ h⟩)
  · rcases h with (h | ⟨o, h⟩) | h
    · cases h
    · cases h
    · exact .inr h
theorem cut_map {α β : Type} (f : α → β) (xs : List α) (lo hi : Option Int) : cutD (xs.map f) lo hi = (cutD xs lo hi).map f := by
  unfold cutD
  rw [List.length_map, List.map_take, List.map_drop]
theorem dqi {F : Hp} : ∀ ns : List Int, DqAll F (ns.map V.int) (ns.map PyData.int)
  | [] => .nil
  | n :: ns => .cons (.int n) (dqi ns)
abbrev rSlLT (K : PySem.W.Frag) : V → Option Int → Option Int → Hp → VK → Prop := fun x lo hi H Q => rSlL K x lo hi H Q ∨ rSlF K x lo hi H Q
abbrev TDo := Nat → Rho → (Option Int → Nat → Prop) → Prop
def GO (w : Wk) (t : TO) (f : TDo) : Prop := ∀ (g : Fx) (F H : Hp) (n : Nat) (σ : L2.St) (ρ : Rho) (P : Option Int → Nat → Prop) (Q : Option Int → Hp → Prop), g.w = w → Ok g F H n σ ρ → f n ρ P →
  (∀ o F' H' m, Step g.b F H F' H' → BoxOk g.b F' H' m → P o m → Q o H') → t σ H Q
def DO (X : Cx) (e : Option Expr) (f : TDo) : Prop := ∃ t, PO X e t ∧ GO (wkOf X) t f
@[simp] def dNoPart : TDo := fun n _ P => P none n
@[simp] def dPart (f : TD) : TDo := fun n ρ P => f n ρ fun x m => ∃ i, x = .dat (.int i) ∧ P (some i) m
@[simp] def dSl (f : TD) (l u : TDo) : TD := fun n ρ P => f n ρ fun x m => l m ρ fun lo k => u k ρ fun hi j => ∃ z, slW x lo hi = some z ∧ P z j
section
variable {X : Cx} {e : Expr} {lo hi : Option Expr} {pos p2 : Pos} {f : TD} {fl fu : TDo}
theorem do_none : DO X none dNoPart := ⟨_, po_none, fun g F H n σ ρ P Q hw k hh q => q none F H n k.self k.box hh⟩
theorem do_some (h : DE X e f) : DO X (some e) (dPart f) := by
  obtain ⟨t, p, h1⟩ := h
  refine ⟨_, po_some p, fun g F H n σ ρ P Q hw k hh q => ?_⟩
  refine h1 g F H n σ ρ _ _ hw k hh fun v F1 H1 m x s1 b1 r1 hx => ?_
  obtain ⟨i, rfl, hP⟩ := hx
  obtain rfl := dq_int r1
  exact ⟨i, rfl, q (some i) F1 H1 m s1 b1 hP⟩
theorem cut_whole {α : Type} {xs : List α} {lo hi : Option Int} (h : HT.sIx xs.length 0 lo = 0 ∧ HT.sIx xs.length xs.length hi = xs.length) : cutD xs lo hi = xs := by
  unfold cutD
  rw [h.1, h.2, List.drop_zero, Nat.sub_zero, List.take_length]
theorem de_slice (h : DE X e f) (hl : DO X lo fl) (hu : DO X hi fu) : DE X (.Subscript e (.Slice lo hi none p2) pos) (dSl f fl fu) := by
  obtain ⟨t, p, h1⟩ := h
  obtain ⟨tl, pl, h2⟩ := hl
  obtain ⟨tu, pu, h3⟩ := hu
  refine ⟨_, pe_slice (sl_list.or sl_tupF) p pl pu, fun g F H n σ ρ P Q hw k hh q => ?_⟩
  refine h1 g F H n σ ρ _ _ hw k hh fun v F1 H1 m x s1 b1 r1 hx => ?_
  have k1 := k.step s1 b1
  refine h2 g F1 H1 m σ ρ _ _ hw k1 hx fun o F2 H2 m2 s2 b2 hx2 => ?_
  have k2 := k1.step s2 b2
  refine h3 g F2 H2 m2 σ ρ _ _ hw k2 hx2 fun o' F3 H3 m3 s3 b3 hx3 => ?_
  obtain ⟨z, e, hP⟩ := hx3
  have r3 := (r1.mono s2).mono s3
  have st := (s1.trans s2).trans s3
  unfold slW at e
  split at e
  · rename_i ds
    cases e
    obtain ⟨a, vs, rfl, ha, ta⟩ := dq_lst r3
    refine .inl ⟨a, vs, rfl, SqL.of (s3.fr _ _ ha), fun p hp => ?_⟩
    obtain ⟨s4, b4⟩ := fresh_step (o := .lst (cutV vs o o')) s3.fr b3 hp
    exact q _ _ _ m3 (.dat (.list _)) (st.trans s4) b4 (Dq.lst upd_same (dp_monoA s4.ex _ _ (dpa_cut o o' ta))) hP
  · rename_i ds
    cases e
    obtain ⟨a, vs, rfl, ha, ta⟩ := dq_tup r3
    refine .inr ⟨a, vs, rfl, ha.sq s3.fr, fun hc => ?_, fun _ p ob hp hd => ?_⟩
    · refine q _ F3 H3 m3 (.dat (.tuple _)) st b3 ?_ hP
      have hc' : HT.sIx ds.length 0 o = 0 ∧ HT.sIx ds.length ds.length o' = ds.length := by rw [← dpa_len ta]; exact hc
      rw [cut_whole hc']
      exact r3
    · obtain ⟨s4, b4⟩ := fresh_step (o := .frz ob (.tup (cutV vs o o'))) s3.fr b3 hp
      exact q _ _ _ m3 (.dat (.tuple _)) (st.trans s4) b4 (Dq.tup (TupF.new hd) (dp_monoA s4.ex _ _ (dpa_cut o o' ta))) hP
  · rename_i ns
    cases e
    obtain ⟨a, rfl, sq⟩ := scr_sq s3.fr r3
    refine .inl ⟨a, _, rfl, sq, fun p hp => ?_⟩
    obtain ⟨s4, b4⟩ := fresh_step (o := .lst (cutV (ns.map V.int) o o')) s3.fr b3 hp
    refine q _ _ _ m3 (.dat (.list ((cutD ns o o').map .int))) (st.trans s4) b4 (Dq.lst upd_same ?_) hP
    rw [show cutV (ns.map V.int) o o' = cutD (ns.map V.int) o o' from rfl, cut_map]
    exact dqi _
  · cases e
/-- xs[::-1] -/
@[simp] def revW : W → Option W
  | .dat (.list ds) => some (.dat (.list ds.reverse))
  | .dat (.tuple ds) => some (.dat (.tuple ds.reverse))
  | _ => none
@[simp] def dRev (f : TD) : TD := fun n ρ P => f n ρ fun x m => ∃ z, revW x = some z ∧ P z m
theorem de_rev {k : Nat} {p1 p3 p4 : Pos} (h : DE X e f) : DE X (.Subscript e (.Slice none none (some (.UnaryOp .USub (.Constant (.int 1) k p1) p3)) p4) pos) (dRev f) := by
  obtain ⟨t, p, h1⟩ := h
  refine ⟨_, pe_revB p, fun g F H n σ ρ P Q hw k hh q => ?_⟩
  refine h1 g F H n σ ρ _ _ hw k hh fun v F1 H1 m x s1 b1 r1 hx => ?_
  obtain ⟨z, e, hP⟩ := hx
  unfold revW at e
  split at e
  · rename_i ds
    cases e
    obtain ⟨a, vs, rfl, ha, ta⟩ := dq_lst r1
    refine .inl ⟨a, vs, rfl, SqL.of (s1.fr _ _ ha), fun p hp => ?_⟩
    obtain ⟨s4, b4⟩ := fresh_step (o := .lst vs.reverse) s1.fr b1 hp
    exact q _ _ _ m (.dat (.list ds.reverse)) (s1.trans s4) b4 (Dq.lst upd_same (dp_monoA s4.ex _ _ (dpa_rev ta))) hP
  · rename_i ds
    cases e
    obtain ⟨a, vs, rfl, ha, ta⟩ := dq_tup r1
    refine .inr ⟨a, vs, rfl, ha.sq s1.fr, fun p ob hp hd => ?_⟩
    obtain ⟨s4, b4⟩ := fresh_step (o := .frz ob (.tup vs.reverse)) s1.fr b1 hp
    exact q _ _ _ m (.dat (.tuple ds.reverse)) (s1.trans s4) b4 (Dq.tup (TupF.new hd) (dp_monoA s4.ex _ _ (dpa_rev ta))) hP
  · cases e
end
end DL
set_option Elab.async false
set_option linter.all false
set_option maxRecDepth 100000
set_option maxHeartbeats 4000000
/-! DL5: statements, patterns, loops, comprehensions. -/
namespace DL
open PySem PySem.Spec L2

structure EndsD where
  nx : Nat → Rho → Prop
  rt : W → Nat → Prop
  bk : Nat → Rho → Prop := fun _ _ => False
  ct : Nat → Rho → Prop := fun _ _ => False
abbrev TSd := EndsD → Nat → Rho → Prop
/-- what is wanted below follows from what is wanted above -/
structure Lk (g : Fx) (F : Hp) (D : Ends) (E : EndsD) : Prop where
  nx : ∀ F' H' m σ ρ, Same F F' → Ok g F' H' m σ ρ → E.nx m ρ → D.nx σ H'
  rt : ∀ v F' H' m x, Step g.b g.F_0 g.H_0 F' H' → BoxOk g.b F' H' m → RelW g.w g.b F' H' v x → x.own = none → E.rt x m → D.rt v H'
  bk : ∀ F' H' m σ ρ, Same F F' → Ok g F' H' m σ ρ → E.bk m ρ → D.bk σ H'
  ct : ∀ F' H' m σ ρ, Same F F' → Ok g F' H' m σ ρ → E.ct m ρ → D.ct σ H'
theorem Lk.mono {g : Fx} {F F' : Hp} {D : Ends} {E : EndsD} (l : Lk g F D E) (s : Same F F') : Lk g F' D E :=
  ⟨fun G H m σ ρ h => l.nx G H m σ ρ (s.trans h), l.rt, fun G H m σ ρ h => l.bk G H m σ ρ (s.trans h), fun G H m σ ρ h => l.ct G H m σ ρ (s.trans h)⟩
def GS (w : Wk) (t : TS) (f : TSd) : Prop := ∀ (g : Fx) (F H : Hp) (n : Nat) (σ : L2.St) (ρ : Rho) (D : Ends) (E : EndsD), g.w = w → Ok g F H n σ ρ → Lk g F D E → f E n ρ → t D σ H
def DS (X : Cx) (st : Stmt) (f : TSd) : Prop := ∃ t, PS X st t ∧ GS (wkOf X) t f
def DSs (X : Cx) (st : List Stmt) (f : TSd) : Prop := ∃ t, PSs X st t ∧ GS (wkOf X) t f

@[simp] def dNext : TSd := fun E n ρ => E.nx n ρ
@[simp] def dSeq (f h : TSd) : TSd := fun E n ρ => f { E with nx := h E } n ρ
theorem gs_next {w : Wk} : GS w tNext dNext := fun g F H n σ ρ D E hw k l h => l.nx F H n σ ρ (Same.refl F) k h
theorem gs_seq {w : Wk} {t u : TS} {f h : TSd} (h1 : GS w t f) (h2 : GS w u h) : GS w (tSeq t u) (dSeq f h) := fun g F H n σ ρ D E hw k l hh =>
  h1 g F H n σ ρ _ { E with nx := h E } hw k ⟨fun F' H' m σ' ρ' s k' q => h2 g F' H' m σ' ρ' D E hw k' (l.mono s) q, l.rt, l.bk, l.ct⟩ hh
section
variable {X : Cx} {st : Stmt} {rest : List Stmt} {f h : TSd} {pos : Pos} {e : Expr} {fe : TD}
theorem ds_nil : DSs X [] dNext := ⟨_, pss_nil, gs_next⟩
theorem ds_cons (h1 : DS X st f) (h2 : DSs X rest h) : DSs X (st :: rest) (dSeq f h) := by
  obtain ⟨t, p, g⟩ := h1
  obtain ⟨u, p2, g2⟩ := h2
  exact ⟨_, pss_cons p p2, gs_seq g g2⟩
theorem ds_end (h1 : DS X st f) : DSs X [st] f := by
  obtain ⟨t, p, g⟩ := h1
  exact ⟨_, pss_one p, g⟩
/-- return e -/
@[simp] def dRet (f : TD) : TSd := fun E n ρ => f n ρ fun x m => x.own = none ∧ E.rt x m
theorem ds_ret (h1 : DE X e fe) : DS X (.Return (some e) pos) (dRet fe) := by
  obtain ⟨t, p, g1⟩ := h1
  refine ⟨_, ps_ret p, fun g F H n σ ρ D E hw k l hh => ?_⟩
  refine g1 g F H n σ ρ _ _ hw k hh fun v F1 H1 m x s1 b1 r1 hx => ?_
  exact l.rt v F1 H1 m x (k.st.trans s1) b1 (by rw [hw]; exact r1) hx.1 hx.2
/-- if -/
@[simp] def dIfS (t : TDt) (f h : TSd) : TSd := fun E n ρ => t n ρ fun c m => if c = true then f E m ρ else h E m ρ
theorem ds_if {c : Expr} {body orelse : List Stmt} {ft : TDt} (h1 : DT X c ft) (h2 : DSs X body f) (h3 : DSs X orelse h) : DS X (.If c body orelse pos) (dIfS ft f h) := by
  obtain ⟨t, p, g1⟩ := h1
  obtain ⟨u, p2, g2⟩ := h2
  obtain ⟨u', p3, g3⟩ := h3
  refine ⟨_, ps_if p p2 p3, fun g F H n σ ρ D E hw k l hh => ?_⟩
  refine g1 g F H n σ ρ _ _ hw k hh fun c F1 H1 m s1 b1 hc => ?_
  cases c with
  | true => exact g2 g F1 H1 m σ ρ D E hw (k.step s1 b1) (l.mono s1.ex) hc
  | false => exact g3 g F1 H1 m σ ρ D E hw (k.step s1 b1) (l.mono s1.ex) hc
/-- an expression alone -/
@[simp] def dDrop (f : TD) : TSd := fun E n ρ => f n ρ fun _ m => E.nx m ρ
theorem ds_expr (h1 : DE X e fe) (hs : swapsWith e none pos.line X.env = pure false := by rfl) : DS X (.Expr e pos) (dDrop fe) := by
  obtain ⟨t, p, g1⟩ := h1
  refine ⟨_, ps_expr p hs, fun g F H n σ ρ D E hw k l hh => ?_⟩
  exact g1 g F H n σ ρ _ _ hw k hh fun v F1 H1 m x s1 b1 r1 hx => l.nx F1 H1 m σ ρ s1.ex (k.step s1 b1) hx
end

/-! ### a slot is stored -/
theorem Ok.put {g : Fx} {F H : Hp} {n : Nat} {σ : L2.St} {ρ : Rho} (k : Ok g F H n σ ρ) {i : Nat} {v : V} {x : W} (r : RelW g.w g.b F H v x)
    (ho : ∀ p, x.own = some p → g.H_0 p = none ∧ ∀ (j : Nat) y, ρ[j]? = some (some y) → y.own ≠ some p) : Ok g F H n (σ.set i (some v)) (ρ.set i (some x)) := by
  refine ⟨k.st, k.box, by rw [List.length_set, List.length_set]; exact k.len, fun j y e => ?_, fun j y p e hp => ?_, fun j j' y y' p e e' hp hp' => ?_⟩
  · rw [List.getElem?_set] at e
    split at e
    · rename_i hij
      subst hij
      split at e
      · rename_i hl
        cases e
        exact ⟨v, by rw [List.getElem?_set_self (by rw [k.len]; exact hl)], r⟩
      · cases e
    · rename_i hij
      obtain ⟨u, h1, h2⟩ := k.slot j y e
      exact ⟨u, by rw [List.getElem?_set_ne hij]; exact h1, h2⟩
  · rw [List.getElem?_set] at e
    split at e
    · split at e
      · cases e; exact (ho p hp).1
      · cases e
    · exact k.own j y p e hp
  · rw [List.getElem?_set] at e e'
    split at e
    · rename_i h1
      split at e
      · cases e
        split at e'
        · rename_i h2; omega
        · exact absurd hp' ((ho p hp).2 j' y' e')
      · cases e
    · split at e'
      · split at e'
        · cases e'
          exact absurd hp ((ho p hp').2 j y e)
        · cases e'
      · exact k.nod j j' y y' p e e' hp hp'
theorem Ok.putD {g : Fx} {F H : Hp} {n : Nat} {σ : L2.St} {ρ : Rho} (k : Ok g F H n σ ρ) {i : Nat} {v : V} {x : W} (r : RelW g.w g.b F H v x) (ho : x.own = none) : Ok g F H n (σ.set i (some v)) (ρ.set i (some x)) :=
  k.put r fun p e => by rw [ho] at e; cases e
/-- a new object that a slot comes to own -/
theorem Ok.fresh {g : Fx} {F H : Hp} {n : Nat} {σ : L2.St} {ρ : Rho} (k : Ok g F H n σ ρ) {p : Addr} (hp : H p = none) : g.H_0 p = none ∧ ∀ (j : Nat) y, ρ[j]? = some (some y) → y.own ≠ some p := by
  refine ⟨?_, fun j y e z => ?_⟩
  · cases e : g.H_0 p with
    | none => rfl
    | some o =>
      by_cases z : some p = g.b
      · obtain ⟨_, x, y, q, h, _⟩ := k.box p z.symm
        rw [hp] at h; cases h
      · rw [k.st.keep p o e z] at hp; cases hp
  · obtain ⟨v, _, r⟩ := k.slot j y e
    obtain ⟨_, _, o, h⟩ := own_at r z
    rw [hp] at h; cases h
theorem Ok.putN {g : Fx} {F H : Hp} {n : Nat} {σ : L2.St} {ρ : Rho} (k : Ok g F H n σ ρ) {i : Nat} {p : Addr} {o : HO} {x : W} (hp : H p = none) (r : RelW g.w g.b F (upd H p o) (.ref p) x) (hx : x.own = some p) : Ok g F (upd H p o) n (σ.set i (some (.ref p))) (ρ.set i (some x)) := by
  obtain ⟨s1, b1, _, _⟩ := new_step (o := o) k.st.fr k.box hp
  refine (k.step s1 b1).put r fun p' e => ?_
  rw [hx] at e; cases e
  exact k.fresh hp
section
variable {X : Cx} {pos pos' : Pos} {e : Expr} {fe : TD}
@[simp] def dSet (i : Nat) (f : TD) : TSd := fun E n ρ => f n ρ fun x m => x.own = none ∧ E.nx m (ρ.set i (some x))
theorem gs_set {w : Wk} {t : TE} {i : Nat} (g1 : GE w t fe) : GS w (tAsg t (gName i)) (dSet i fe) := fun g F H n σ ρ D E hw k l hh =>
  g1 g F H n σ ρ _ _ hw k hh fun v F1 H1 m x s1 b1 r1 hx => l.nx F1 H1 m _ _ s1.ex ((k.step s1 b1).putD (by rw [hw]; exact r1) hx.1) hx.2
theorem ds_set (i : Nat) {x : Str} (hN : X.N.Nodup) (h1 : DE X e fe) (hi : X.N[i]? = some x := by rfl) (hx : Loc X.env.scope x := by first | exact Or.inl rfl | exact Or.inr rfl) (hs : swapsWith e (some (.Name x pos')) pos.line X.env = pure false := by rfl) (hf : X.fn x = true ∨ X.env.scope.names.lookup x = some .local := by first | exact .inl rfl | exact .inr rfl | assumption) :
    DS X (.Assign [.Name x pos'] e pos) (dSet i fe) := by
  obtain ⟨t, p, g1⟩ := h1
  exact ⟨_, ps_set hN hi hx p hs hf, gs_set g1⟩
/-- name = [] -/
@[simp] def dNewL (i : Nat) : TSd := fun E n ρ => ∀ p, E.nx n (ρ.set i (some (.olst p [])))
theorem ds_newL (i : Nat) {x : Str} {p0 : Pos} (hN : X.N.Nodup) (hi : X.N[i]? = some x := by rfl) (hx : Loc X.env.scope x := by first | exact Or.inl rfl | exact Or.inr rfl) (hs : swapsWith (.List [] p0) (some (.Name x pos')) pos.line X.env = pure false := by rfl) (hf : X.fn x = true ∨ X.env.scope.names.lookup x = some .local := by first | exact .inl rfl | exact .inr rfl | assumption) :
    DS X (.Assign [.Name x pos'] (.List [] p0) pos) (dNewL i) := by
  refine ⟨_, ps_set hN hi hx (pe_lst pa_nil) hs hf, fun g F H n σ ρ D E hw k l hh => ?_⟩
  refine ⟨Nat.zero_le _, fun p hp => ?_⟩
  obtain ⟨s1, b1, hF, hb⟩ := new_step (o := .lst []) k.st.fr k.box hp
  exact l.nx F _ n _ _ (Same.refl F) (k.putN hp (x := .olst p []) ⟨rfl, hb, hF, [], upd_same, .nil⟩ rfl) (hh p)
/-- name = {} (keys ints and texts) -/
@[simp] def dNewK (i : Nat) : TSd := fun E n ρ => ∀ p, E.nx n (ρ.set i (some (.odic p [])))
theorem ds_newK (i : Nat) {x : Str} {p0 : Pos} (hN : X.N.Nodup) (hi : X.N[i]? = some x := by rfl) (hx : Loc X.env.scope x := by first | exact Or.inl rfl | exact Or.inr rfl) (hs : swapsWith (.Dict [] [] p0) (some (.Name x pos')) pos.line X.env = pure false := by rfl) (hf : X.fn x = true ∨ X.env.scope.names.lookup x = some .local := by first | exact .inl rfl | exact .inr rfl | assumption) :
    DS X (.Assign [.Name x pos'] (.Dict [] [] p0) pos) (dNewK i) := by
  refine ⟨_, ps_set hN hi hx pe_dnewK hs hf, fun g F H n σ ρ D E hw k l hh => ?_⟩
  intro p hp
  obtain ⟨s1, b1, hF, hb⟩ := new_step (o := .dK []) k.st.fr k.box hp
  exact l.nx F _ n _ _ (Same.refl F) (k.putN hp (x := .odic p []) ⟨rfl, hb, hF, [], upd_same, .nil⟩ rfl) (hh p)
end

/-! ### patterns -/
abbrev TGd := PyData → Rho → (Rho → Prop) → Prop
/-- an item of a walk: data, or (lo) a new tuple that is not kept -/
def ItR (lo : Bool) (F H : Hp) (x : V) (d : PyData) : Prop := Dq F x d ∨ (lo = true ∧ ∃ T us ds, x = .ref T ∧ d = .tuple ds ∧ H T = some (.tup us) ∧ DqAll F us ds)
/-- the slots of vs alone may change -/
def GG (lo : Bool) (t : TG) (vs : List Nat) (f : TGd) : Prop := ∀ (g : Fx) (F H : Hp) (n : Nat) (σ : L2.St) (ρ : Rho) (v : V) (d : PyData) (P : Rho → Prop) (Q : L2.St → Hp → Prop), Ok g F H n σ ρ → ItR lo F H v d → f d ρ P →
  (∀ σ' ρ', Ok g F H n σ' ρ' → wipe σ' vs = wipe σ vs → P ρ' → Q σ' H) → t v σ H Q
def DG (lo : Bool) (X : Cx) (e : Expr) (vs : List Nat) (f : TGd) : Prop := ∃ t, PG X e t ∧ GG lo t vs f
abbrev TGds := List PyData → Rho → (Rho → Prop) → Prop
def GGs (t : TGs) (vs : List Nat) (f : TGds) : Prop := ∀ (g : Fx) (F H : Hp) (n : Nat) (σ : L2.St) (ρ : Rho) (us : List V) (ds : List PyData) (P : Rho → Prop) (Q : L2.St → Hp → Prop), Ok g F H n σ ρ → DqAll F us ds → f ds ρ P →
  (∀ σ' ρ', Ok g F H n σ' ρ' → wipe σ' vs = wipe σ vs → P ρ' → Q σ' H) → t us σ H Q
def DGs (X : Cx) (es : List Expr) (vs : List Nat) (f : TGds) : Prop := ∃ t, PGs X es t ∧ GGs t vs f
theorem wipe_set {σ : L2.St} {i : Nat} {v : Option V} : ∀ {vs : List Nat}, i ∈ vs → wipe (σ.set i v) vs = wipe σ vs
  | j :: vs, h => by
    unfold wipe
    by_cases e : i ∈ vs
    · rw [wipe_set e]
    · have e2 : i = j := by rcases List.mem_cons.mp h with h | h; exact h; exact absurd h e
      subst e2
      have q : ∀ (l : List Nat) (τ : L2.St), (wipe (τ.set i v) l).set i none = (wipe τ l).set i none := by
        intro l
        induction l with
        | nil => intro τ; simp [wipe]
        | cons a l ih =>
          intro τ
          unfold wipe
          by_cases ea : a = i
          · subst ea; simp; exact ih τ
          · rw [List.set_comm _ _ ea, ih τ, List.set_comm _ _ (Ne.symm ea)]
      exact q vs σ
@[simp] def pName (i : Nat) : TGd := fun d ρ P => P (ρ.set i (some (.dat d)))
@[simp] def pNil : TGds := fun ds ρ P => ds = [] ∧ P ρ
@[simp] def pCons (f : TGd) (r : TGds) : TGds := fun ds ρ P => ∃ d t, ds = d :: t ∧ f d ρ fun ρ' => r t ρ' P
@[simp] def pTup (n : Nat) (f : TGds) : TGd := fun d ρ P => ∃ ds, d = .tuple ds ∧ ds.length = n ∧ f ds ρ P
section
variable {X : Cx} {pos : Pos} {e : Expr} {es : List Expr} {vs : List Nat} {f : TGd} {r : TGds}
theorem dg_name (i : Nat) {x : Str} (hN : X.N.Nodup) (hv : i ∈ vs := by decide) (hi : X.N[i]? = some x := by rfl) (hx : Loc X.env.scope x := by first | exact Or.inl rfl | exact Or.inr rfl) (hf : X.fn x = true ∨ X.env.scope.names.lookup x = some .local := by first | exact .inl rfl | exact .inr rfl | assumption) : DG false X (.Name x pos) vs (pName i) :=
  ⟨_, pg_name hN hi hx hf, fun g F H n σ ρ v d P Q k r h q => q _ _ (k.putD (x := .dat d) (r.elim id fun z => nomatch z.1) rfl) (wipe_set hv) h⟩
theorem dg_nil : DGs X [] vs pNil := ⟨_, pgs_nil, fun g F H n σ ρ us ds P Q k r h q => by
  obtain ⟨rfl, hP⟩ := h
  cases r
  exact ⟨rfl, q σ ρ k rfl hP⟩⟩
theorem dg_cons (h1 : DG false X e vs f) (h2 : DGs X es vs r) (hs : (assignEach (e :: es) X.env).map (·.2) = assign e X.env :: (assignEach es X.env).map (·.2) := by rfl) : DGs X (e :: es) vs (pCons f r) := by
  obtain ⟨t, p, g1⟩ := h1
  obtain ⟨u, p2, g2⟩ := h2
  refine ⟨_, pgs_cons p p2 hs, fun g F H n σ ρ us ds P Q k ra h q => ?_⟩
  obtain ⟨d, tl, rfl, h⟩ := h
  cases ra with
  | cons r1 r2 =>
    refine ⟨_, _, rfl, ?_⟩
    refine g1 g F H n σ ρ _ d _ _ k (.inl r1) h fun σ1 ρ1 k1 w1 h1 => ?_
    exact g2 g F H n σ1 ρ1 _ tl _ _ k1 r2 h1 fun σ2 ρ2 k2 w2 h2 => q σ2 ρ2 k2 (w2.trans w1) h2
theorem dg_tup {lo : Bool} {kk n : Nat} (hc : X.calm = true) (h1 : DGs X es vs r) (hn : (assignEach es X.env).length = n := by rfl) (hst : (assignEach es X.env).findIdx? (·.1) = none := by rfl) : DG lo X (.Tuple es kk pos) vs (pTup n r) := by
  obtain ⟨t, p, g1⟩ := h1
  refine ⟨_, pg_tup hc p hn hst, fun g F H n σ ρ v d P Q k ra h q => ?_⟩
  obtain ⟨ds, rfl, hl, h⟩ := h
  rcases ra with ra | ⟨_, T, us, ds', rfl, e, hT, ta⟩
  · obtain ⟨a, us, rfl, ha, ta⟩ := dq_tup ra
    exact ⟨a, us, rfl, ha.sq k.st.fr, by rw [dpa_len ta]; exact hl, g1 g F H n σ ρ us ds P Q k ta h q⟩
  · cases e
    exact ⟨T, us, rfl, SqT.of hT, by rw [dpa_len ta]; exact hl, g1 g F H n σ ρ us ds P Q k ta h q⟩
/-- pattern = data -/
@[simp] def dAsg (f : TD) (p : TGd) : TSd := fun E n ρ => f n ρ fun x m => ∃ d, x = .dat d ∧ p d ρ fun ρ' => E.nx m ρ'
theorem ds_asg {tg e : Expr} {fe : TD} (h1 : DE X e fe) (h2 : DG false X tg vs f) (hs : swapsWithSole [tg] e pos.line X.env = pure false := by rfl) (hw : swappedStores [tg] e X.env = pure none := by rfl)
    (ha : (assignEach [tg] X.env).map (·.2) = [assign tg X.env] := by rfl) : DS X (.Assign [tg] e pos) (dAsg fe f) := by
  obtain ⟨t, p, g1⟩ := h1
  obtain ⟨u, p2, g2⟩ := h2
  refine ⟨_, ps_asg p p2 hs hw ha, fun g F H n σ ρ D E hw k l hh => ?_⟩
  refine g1 g F H n σ ρ _ _ hw k hh fun v F1 H1 m x s1 b1 r1 hx => ?_
  obtain ⟨d, rfl, hp⟩ := hx
  exact g2 g F1 H1 m σ ρ v d _ _ (k.step s1 b1) (.inl r1) hp fun σ' ρ' k' _ h' => l.nx F1 H1 m σ' ρ' s1.ex k' h'
end

/-! ### walks -/
abbrev TId := Nat → Rho → (List PyData → Nat → Prop) → Prop
def WalkD (lo : Bool) (b : Option Addr) (J : It) (F : Hp) (ds : List PyData) : Prop := ∃ (G : Hp → Prop) (Y : Nat → Hp → V → Hp → Prop), Walk J ds.length G Y ∧ (∀ H, Same F H → G H) ∧
  ∀ i F1 H n x H', i < ds.length → Same F F1 → Same F1 H → BoxOk b F1 H n → Y i H x H' → ∃ F2 d, Step b F1 H F2 H' ∧ BoxOk b F2 H' n ∧ ds[i]? = some d ∧ ItR lo F2 H' x d
def GI (lo : Bool) (w : Wk) (wi : TI) (f : TId) : Prop := ∀ (g : Fx) (F H : Hp) (n : Nat) (σ : L2.St) (ρ : Rho) (P : List PyData → Nat → Prop) (R : It → Hp → Prop), g.w = w → Ok g F H n σ ρ → f n ρ P →
  (∀ J F' H' m ds, Step g.b F H F' H' → BoxOk g.b F' H' m → WalkD lo g.b J F' ds → P ds m → R J H') → wi σ H R
def DI (lo : Bool) (X : Cx) (tg iter : Expr) (f : TId) : Prop := ∃ wi, PI X tg iter wi ∧ GI lo (wkOf X) wi f
theorem walkD_at {b : Option Addr} {J : It} {F : Hp} {vs : List V} {ds : List PyData} {G : Hp → Prop} (w : Walk J vs.length G (YAt vs)) (hG : ∀ H, Same F H → G H) (h : DqAll F vs ds) : WalkD false b J F ds := by
  refine ⟨G, YAt vs, by rw [← dpa_len h]; exact w, hG, fun i F1 H n x H' hi s1 s2 bx y => ?_⟩
  obtain ⟨rfl, e⟩ := y
  obtain ⟨v, e1, r⟩ := dpa_get (i := i) (d := ds[i]) h (by simp [hi])
  rw [e] at e1; cases e1
  exact ⟨F1, ds[i], Step.refl s2 fun a e => (bx a e).1, bx, by simp [hi], .inl (dp_mono s1 _ _ r)⟩
def seqOf : W → Option (List PyData)
  | .dat (.list ds) => some ds
  | _ => none
@[simp] def iSeq (f : TD) : TId := fun n ρ P => f n ρ fun x m => ∃ ds, x = .dat (.list ds) ∧ P ds m
@[simp] def iTupD (f : TD) : TId := fun n ρ P => f n ρ fun x m => ∃ ds, x = .dat (.tuple ds) ∧ P ds m
def strD (z : Str) : List PyData := z.cps.toList.map fun c => .str ⟨#[c]⟩
@[simp] def iStrD (f : TD) : TId := fun n ρ P => f n ρ fun x m => ∃ z, x = .dat (.str z) ∧ P (strD z) m
def rngD (n : Nat) : List PyData := (List.range n).map fun (i : Nat) => .int (i : Int)
@[simp] def iRngD (f : TDa) : TId := fun n ρ P => f n ρ fun xs m => ∃ j : Int, xs = [.dat (.int j)] ∧ -(2 ^ 62) ≤ j ∧ j < 2 ^ 62 ∧ P (rngD j.toNat) m
def enumD (ds : List PyData) : List PyData := ds.zipIdx.map fun p => .tuple [.int (p.2 : Int), p.1]
@[simp] def iEnumD (f : TDa) : TId := fun n ρ P => f n ρ fun xs m => ∃ ds, xs = [.dat (.list ds)] ∧ P (enumD ds) m
def zipD (ds es : List PyData) : List PyData := (ds.zip es).map fun p => .tuple [p.1, p.2]
@[simp] def iZipD (f : TDa) : TId := fun n ρ P => f n ρ fun xs m => ∃ ds es, xs = [.dat (.tuple ds), .dat (.tuple es)] ∧ P (zipD ds es) m
@[simp] def iValsD (f : TD) : TId := fun n ρ P => f n ρ fun x m => ∃ kvs, x = .dic kvs ∧ P (kvs.map (·.2)) m
theorem walkD_pair {b : Option Addr} {J : It} {F : Hp} {ds : List PyData} {G : Hp → Prop} {xs ys : Nat → Option V} (w : Walk J ds.length G (YPair xs ys)) (hG : ∀ H, Same F H → G H)
    (h : ∀ i, i < ds.length → ∀ x y, xs i = some x → ys i = some y → ∃ d e, ds[i]? = some (.tuple [d, e]) ∧ Dq F x d ∧ Dq F y e) : WalkD true b J F ds := by
  refine ⟨G, YPair xs ys, w, hG, fun i F1 H n v H' hi s1 s2 bx y => ?_⟩
  obtain ⟨T, x, y, rfl, hT, rfl, hx, hy⟩ := y
  obtain ⟨d, e, h1, h2, h3⟩ := h i hi x y hx hy
  obtain ⟨st, b2, _, _⟩ := new_step (o := .tup [x, y]) s2 bx hT
  exact ⟨_, _, st, b2, h1, .inr ⟨rfl, T, _, _, rfl, rfl, upd_same, .cons (dp_mono s1 _ _ h2) (.cons (dp_mono s1 _ _ h3) .nil)⟩⟩
section
variable {X : Cx} {tg e : Expr} {f : TD} {pos p : Pos}
theorem di_list (h : DE X e f) : DI false X tg e (iSeq f) := by
  obtain ⟨t, p, g1⟩ := h
  refine ⟨_, pi_list p, fun g F H n σ ρ P R hw k hh q => ?_⟩
  refine g1 g F H n σ ρ _ _ hw k hh fun v F1 H1 m x s1 b1 r1 hx => ?_
  obtain ⟨ds, rfl, hP⟩ := hx
  obtain ⟨a, vs, rfl, ha, ta⟩ := dq_lst r1
  exact ⟨a, rfl, ⟨vs, SqL.of (s1.fr _ _ ha)⟩, q _ F1 H1 m ds s1 b1 (walkD_at (walk_list (K := X.K) (a := a) (xs := vs)) (fun H s => SqL.of (s _ _ ha)) ta) hP⟩
theorem di_tup (h : DE X e f) : DI false X tg e (iTupD f) := by
  obtain ⟨t, p, g1⟩ := h
  refine ⟨_, pi_tup p, fun g F H n σ ρ P R hw k hh q => ?_⟩
  refine g1 g F H n σ ρ _ _ hw k hh fun v F1 H1 m x s1 b1 r1 hx => ?_
  obtain ⟨ds, rfl, hP⟩ := hx
  obtain ⟨a, vs, rfl, ha, ta⟩ := dq_tup r1
  exact ⟨a, rfl, ⟨vs, ha.sq s1.fr⟩, q _ F1 H1 m ds s1 b1 (walkD_at (walk_tup (K := X.K) (a := a) (xs := vs)) (fun H s => ha.sq s) ta) hP⟩
theorem di_str (h : DE X e f) : DI false X tg e (iStrD f) := by
  obtain ⟨t, p, g1⟩ := h
  refine ⟨_, pi_str p, fun g F H n σ ρ P R hw k hh q => ?_⟩
  refine g1 g F H n σ ρ _ _ hw k hh fun v F1 H1 m x s1 b1 r1 hx => ?_
  obtain ⟨z, rfl, hP⟩ := hx
  obtain rfl := dq_str r1
  have hl : z.cps.size = (strD z).length := by simp [strD]
  refine ⟨z, rfl, q _ F1 H1 m _ s1 b1 ⟨_, _, by rw [← hl]; exact walk_str, fun _ _ => trivial, fun i F1 H n x H' hi s1 s2 bx y => ?_⟩ hP⟩
  obtain ⟨rfl, c, e1, rfl⟩ := y
  exact ⟨F1, _, Step.refl s2 fun a e => (bx a e).1, bx, by simp [strD, e1], .inl (Dq.str _)⟩
theorem di_range {fa : TDa} (hg : Gl X "range") (hm : X.mg "range" = none) (h : DA X [e] fa) (hs : starEach [e] X.env = [(false, eval e X.env)] := by rfl) : DI false X tg (.Call (.Name "range" p) [e] [] pos) (iRngD fa) := by
  obtain ⟨t, p, g1⟩ := h
  refine ⟨_, pi_range1 hg hm p hs, fun g F H n σ ρ P R hw k hh q => ?_⟩
  refine g1 g F H n σ ρ _ _ hw k hh fun vs F1 H1 m xs s1 b1 r1 hx => ?_
  obtain ⟨j, rfl, h1, h2, hP⟩ := hx
  obtain ⟨v, rfl, rv⟩ : ∃ v, vs = [v] ∧ Dq F1 v (.int j) := by
    cases r1 with
    | cons a c => cases c; exact ⟨_, rfl, a⟩
  obtain rfl := dq_int rv
  have hl : (rngD j.toNat).length = j.toNat := by simp [rngD]
  refine ⟨j, rfl, h1, h2, q _ F1 H1 m _ s1 b1 ⟨_, _, by rw [hl]; exact walk_range, fun _ _ => trivial, fun i F1 H n x H' hi s1 s2 bx y => ?_⟩ hP⟩
  obtain ⟨rfl, rfl⟩ := y
  rw [hl] at hi
  refine ⟨F1, .int (i : Int), Step.refl s2 fun a e => (bx a e).1, bx, by simp [rngD, hi], .inl ?_⟩
  show Dq F1 (.int (0 + (i : Int))) (.int (i : Int))
  rw [Int.zero_add]
  exact Dq.int _
theorem di_enum {fa : TDa} {tpos : Pos} {elts : List Expr} {kk : Nat} (hg : Gl X "enumerate") (hm : X.mg "enumerate" = none) (h : DA X [e] fa) (hs : starEach [e] X.env = [(false, eval e X.env)] := by rfl) : DI true X (.Tuple elts kk tpos) (.Call (.Name "enumerate" p) [e] [] pos) (iEnumD fa) := by
  obtain ⟨t, p, g1⟩ := h
  refine ⟨_, pi_enum hg hm p hs, fun g F H n σ ρ P R hw k hh q => ?_⟩
  refine g1 g F H n σ ρ _ _ hw k hh fun vs F1 H1 m xs s1 b1 r1 hx => ?_
  obtain ⟨ds, rfl, hP⟩ := hx
  obtain ⟨v, rfl, rv⟩ : ∃ v, vs = [v] ∧ Dq F1 v (.list ds) := by
    cases r1 with
    | cons a c => cases c; exact ⟨_, rfl, a⟩
  obtain ⟨a, us, rfl, ha, ta⟩ := dq_lst rv
  have hl : (enumD ds).length = us.length := by simp [enumD, dpa_len ta]
  refine ⟨a, us, rfl, SqL.of (s1.fr _ _ ha), q _ F1 H1 m _ s1 b1 (walkD_pair (xs := fun i => some (.int (i : Nat))) (ys := fun i => us[i]?) (by rw [hl]; exact walk_enum (K := X.K) (a := a)) (fun H s => SqL.of (s _ _ ha)) fun i hi x y hx hy => ?_) hP⟩
  cases hx
  rw [hl, dpa_len ta] at hi
  obtain ⟨v, e1, r⟩ := dpa_get (i := i) (d := ds[i]) ta (by simp [hi])
  have hy : us[i]? = some y := hy
  rw [hy] at e1; cases e1
  exact ⟨_, _, by simp [enumD, hi], Dq.int _, r⟩
theorem walk_zipT {K : PySem.W.Frag} {a b : Addr} {xs ys : List V} {n : Nat} (hn : n = min xs.length ys.length) : Walk (RZ.ItzT K a b) n (fun H => SqT K H a xs ∧ SqT K H b ys) (YPair (fun i => xs[i]?) (fun i => ys[i]?)) := by
  subst hn
  refine ⟨fun i _ hi q => ?_, fun _ q => ⟨xs, ys, q.1, q.2, by omega⟩, fun i H v H' _ q y => ?_⟩
  · have h1 : i < xs.length := by omega
    have h2 : i < ys.length := by omega
    exact ⟨xs, ys, xs[i], ys[i], q.1, q.2, by simp [h1], by simp [h2]⟩
  · obtain ⟨T, x, z, h1, h2, h3, h4, h5⟩ := y
    exact ⟨T, x, z, h1, h2, h3, h4 xs q.1, h5 ys q.2⟩
theorem di_zip {e2 : Expr} {fa : TDa} {tpos : Pos} {elts : List Expr} {kk : Nat} (hg : Gl X "zip") (hm : X.mg "zip" = none) (h : DA X [e, e2] fa)
    (hs : starEach [e, e2] X.env = (false, eval e X.env) :: starEach [e2] X.env := by rfl) (hpl : (backTo pos (starEach [e2] X.env)).any (·.1) = false := by rfl) : DI true X (.Tuple elts kk tpos) (.Call (.Name "zip" p) [e, e2] [] pos) (iZipD fa) := by
  obtain ⟨t, p, g1⟩ := h
  refine ⟨_, RZ.pi_zipA hg hm p hs hpl, fun g F H n σ ρ P R hw k hh q => ?_⟩
  refine g1 g F H n σ ρ _ _ hw k hh fun vs F1 H1 m xs s1 b1 r1 hx => ?_
  obtain ⟨ds, es, rfl, hP⟩ := hx
  obtain ⟨v, u, rfl, rv, ru⟩ : ∃ v u, vs = [v, u] ∧ Dq F1 v (.tuple ds) ∧ Dq F1 u (.tuple es) := by
    cases r1 with
    | cons a c =>
      cases c with
      | cons c c' => cases c'; exact ⟨_, _, rfl, a, c⟩
  obtain ⟨a, us, rfl, ha, ta⟩ := dq_tup rv
  obtain ⟨b, us2, rfl, hb, tb⟩ := dq_tup ru
  have hl : (zipD ds es).length = min us.length us2.length := by simp [zipD, dpa_len ta, dpa_len tb]
  refine ⟨a, b, us, us2, rfl, .inr ⟨ha.sq s1.fr, hb.sq s1.fr, q _ F1 H1 m _ s1 b1 (walkD_pair (xs := fun i => us[i]?) (ys := fun i => us2[i]?) (walk_zipT (K := X.K) (a := a) (b := b) hl) (fun H s => ⟨ha.sq s, hb.sq s⟩) fun i hi x y hx hy => ?_) hP⟩⟩
  have hi1 : i < ds.length := by rw [hl, dpa_len ta, dpa_len tb] at hi; omega
  have hi2 : i < es.length := by rw [hl, dpa_len ta, dpa_len tb] at hi; omega
  obtain ⟨v, e1, r⟩ := dpa_get (i := i) (d := ds[i]) ta (by simp [hi1])
  obtain ⟨v2, e2, r2⟩ := dpa_get (i := i) (d := es[i]) tb (by simp [hi2])
  have hx : us[i]? = some x := hx
  have hy : us2[i]? = some y := hy
  rw [hx] at e1; cases e1
  rw [hy] at e2; cases e2
  refine ⟨_, _, ?_, r, r2⟩
  simp [zipD, List.getElem?_zip_eq_some, hi1, hi2]
theorem di_vals {apos cpos : Pos} (h : DE X e f) (hbase : attributeBase e "values" X.env (eval e X.env) = eval e X.env := by rfl) (hline : (apos.endLine == cpos.line) = true := by rfl) : DI false X tg (.Call (.Attribute e "values" apos) [] [] cpos) (iValsD f) := by
  obtain ⟨t, p, g1⟩ := h
  refine ⟨_, pi_values p hbase hline, fun g F H n σ ρ P R hw k hh q => ?_⟩
  refine g1 g F H n σ ρ _ _ hw k hh fun v F1 H1 m x s1 b1 r1 hx => ?_
  obtain ⟨kvs, rfl, hP⟩ := hx
  obtain ⟨d, o, vs, rfl, hd, hk⟩ := r1
  have hl : (kvs.map (·.2)).length = vs.length := by rw [List.length_map, kd_len hk]
  refine ⟨d, o, vs, rfl, s1.fr _ _ hd, q _ F1 H1 m _ s1 b1 ⟨_, _, by rw [hl]; exact walk_values (d := d) (o := o), fun H s => s _ _ hd, fun i F2 H2 n2 x H' hi s2 s3 bx y => ?_⟩ hP⟩
  obtain ⟨rfl, key, e1⟩ := y
  refine ⟨F2, (kvs.map (·.2))[i], Step.refl s3 fun a e => (bx a e).1, bx, List.getElem?_eq_getElem hi, .inl ?_⟩
  have q : ∀ {vs : List (Key × V)} {ks : List (Key × PyData)} {i : Nat} {kx : Key × V} (hi : i < (ks.map (·.2)).length), KD F1 vs ks → vs[i]? = some kx → Dq F1 kx.2 (ks.map (·.2))[i] := by
    intro vs ks i kx hi h
    induction h generalizing i with
    | nil => simp at hi
    | cons r t ih =>
      intro e
      cases i with
      | zero => simp at e; subst e; exact r.2
      | succ i =>
        have z := ih (i := i) (by simpa using hi) (by simpa using e)
        simp only [List.getElem_map] at z ⊢
        exact z
  exact dp_mono s2 _ _ (q hi hk e1)
end
end DL
set_option Elab.async false
set_option linter.all false
set_option maxRecDepth 100000
set_option maxHeartbeats 4000000
/-! DL6: loops, comprehensions, calls, defs. -/
namespace DL
open PySem PySem.Spec L2

/-! ### for -/
def dLoop (p : TGd) (body : TSd) (E : EndsD) : List PyData → Nat → Rho → Prop
  | [], n, ρ => E.nx n ρ
  | d :: ds, n, ρ => p d ρ fun ρ' => body { nx := dLoop p body E ds, rt := E.rt, bk := E.nx, ct := dLoop p body E ds } n ρ'
@[simp] def dFor (fi : TId) (p : TGd) (body : TSd) : TSd := fun E n ρ => fi n ρ fun ds m => dLoop p body E ds m ρ
section
variable {X : Cx} {tg iter : Expr} {body : List Stmt} {pos : Pos} {vs : List Nat} {fi : TId} {p : TGd} {fb : TSd} {lo : Bool}
theorem ds_for (hc : X.calm = true) (h1 : DI lo X tg iter fi) (h2 : DG lo X tg vs p) (h3 : DSs X body fb) (hp : PassesOwn (model X.prog X.w) X.A X.env X.xe) (hs : ∀ x, foldedSetIterable iter X.env x = pure x := by intro _; rfl) : DS X (.For tg iter body [] pos) (dFor fi p fb) := by
  obtain ⟨wi, q1, g1⟩ := h1
  obtain ⟨t, q2, g2⟩ := h2
  obtain ⟨u, q3, g3⟩ := h3
  refine ⟨_, ps_for hp hc q1 q2 q3 hs, fun g F H n σ ρ D E hw k l hh => ?_⟩
  refine g1 g F H n σ ρ _ _ hw k hh fun J F1 H1 m ds s1 b1 wd hL => ?_
  obtain ⟨G, Y, wk, hG, hY⟩ := wd
  refine for_it wk (fun i σ' H' => ∃ F' n' ρ', Same F1 F' ∧ Ok g F' H' n' σ' ρ' ∧ dLoop p fb E (ds.drop i) n' ρ') ⟨F1, m, ρ, Same.refl F1, k.step s1 b1, hL⟩ (fun i σ' H' _ ⟨F', n', ρ', s, k', _⟩ => hG H' (s.trans k'.st.fr)) ?_ ?_
  · rintro i x σ' H' H2 hi ⟨F', n', ρ', s, k', hl⟩ y
    obtain ⟨F2, d, s2, b2, e, rd⟩ := hY i F' H' n' x H2 hi s k'.st.fr k'.box y
    have e2 : ds.drop i = d :: ds.drop (i + 1) := by
      have := List.drop_eq_getElem_cons hi
      rw [this]
      have e3 : ds[i] = d := by rw [List.getElem?_eq_getElem hi] at e; exact Option.some.inj e
      rw [e3]
    rw [e2] at hl
    refine g2 g F2 H2 n' σ' ρ' x d _ _ (k'.step s2 b2) rd hl fun σ3 ρ3 k3 _ h3 => ?_
    refine g3 g F2 H2 n' σ3 ρ3 _ { nx := dLoop p fb E (ds.drop (i + 1)), rt := E.rt, bk := E.nx, ct := dLoop p fb E (ds.drop (i + 1)) } hw k3 ⟨fun F4 H4 m4 σ4 ρ4 s4 k4 q4 => ⟨F4, m4, ρ4, (s.trans s2.ex).trans s4, k4, q4⟩, l.rt, fun F4 H4 m4 σ4 ρ4 s4 k4 q4 => ?_, fun F4 H4 m4 σ4 ρ4 s4 k4 q4 => ⟨F4, m4, ρ4, (s.trans s2.ex).trans s4, k4, q4⟩⟩ h3
    exact l.nx F4 H4 m4 σ4 ρ4 ((s1.ex.trans (s.trans s2.ex)).trans s4) k4 q4
  · rintro σ' H' ⟨F', n', ρ', s, k', hl⟩
    rw [List.drop_length] at hl
    exact l.nx F' H' n' σ' ρ' (s1.ex.trans s) k' hl
end

/-! ### while -/
def dWhile (c : TDt) (body : TSd) : TSd := fun E n ρ => ∃ Z : Nat → Nat → Rho → Prop, (∃ m, Z m n ρ) ∧ ∀ m n ρ, Z m n ρ →
  c n ρ fun b n' => if b = true then ∃ N : Nat → Rho → Prop, (∀ n ρ, N n ρ → ∃ m', m' < m ∧ Z m' n ρ) ∧ body { E with nx := N, ct := N, bk := E.nx } n' ρ else E.nx n' ρ
theorem ds_while {X : Cx} {c : Expr} {body : List Stmt} {pos : Pos} {fc : TDt} {fb : TSd} (h1 : DT X c fc) (h2 : DSs X body fb) (hp : PassesOwn (model X.prog X.w) X.A X.env X.xe) : DS X (.While c body [] pos) (dWhile fc fb) := by
  obtain ⟨t, q1, g1⟩ := h1
  obtain ⟨u, q2, g2⟩ := h2
  refine ⟨_, ps_while hp q1 q2, fun g F H n σ ρ D E hw k l hh => ?_⟩
  obtain ⟨Z, ⟨m0, z0⟩, hz⟩ := hh
  refine ⟨fun m σ' H' => ∃ F' n' ρ', Same F F' ∧ Ok g F' H' n' σ' ρ' ∧ Z m n' ρ', ⟨m0, F, n, ρ, Same.refl F, k, z0⟩, ?_⟩
  rintro m σ' H' ⟨F', n', ρ', s, k', zz⟩
  refine g1 g F' H' n' σ' ρ' _ _ hw k' (hz m n' ρ' zz) fun b F1 H1 m1 s1 b1 hb => ?_
  cases b with
  | true =>
    obtain ⟨N, hN, hb⟩ := hb
    refine ⟨fun σ2 H2 => ∃ F2 n2 ρ2, Same F F2 ∧ Ok g F2 H2 n2 σ2 ρ2 ∧ N n2 ρ2, ?_, ?_⟩
    · rintro σ2 H2 ⟨F2, n2, ρ2, s2, k2, x2⟩
      obtain ⟨m', hm, z'⟩ := hN n2 ρ2 x2
      exact ⟨m', hm, F2, n2, ρ2, s2, k2, z'⟩
    · refine g2 g F1 H1 m1 σ' ρ' _ { E with nx := N, ct := N, bk := E.nx } hw (k'.step s1 b1) ⟨fun F4 H4 m4 σ4 ρ4 s4 k4 q4 => ⟨F4, m4, ρ4, (s.trans s1.ex).trans s4, k4, q4⟩, l.rt, fun F4 H4 m4 σ4 ρ4 s4 k4 q4 => ?_, fun F4 H4 m4 σ4 ρ4 s4 k4 q4 => ⟨F4, m4, ρ4, (s.trans s1.ex).trans s4, k4, q4⟩⟩ hb
      exact l.nx F4 H4 m4 σ4 ρ4 ((s.trans s1.ex).trans s4) k4 q4
  | false => exact l.nx F1 H1 m1 σ' ρ' (s.trans s1.ex) (k'.step s1 b1) hb

/-! ### comprehensions -/
@[simp] def wipeR (ρ : Rho) : List Nat → Rho
  | [] => ρ
  | v :: vs => (wipeR ρ vs).set v none
theorem Ok.wipe {g : Fx} {F H : Hp} {n : Nat} {σ : L2.St} {ρ : Rho} (k : Ok g F H n σ ρ) : ∀ vs : List Nat, Ok g F H n (wipe σ vs) (wipeR ρ vs)
  | [] => k
  | v :: vs => by
    have q := k.wipe vs
    unfold L2.wipe wipeR
    refine ⟨q.st, q.box, by rw [List.length_set, List.length_set]; exact q.len, fun j y e => ?_, fun j y p e hp => ?_, fun j j' y y' p e e' hp hp' => ?_⟩
    · rw [List.getElem?_set] at e
      split at e
      · split at e <;> cases e
      · rename_i hij
        obtain ⟨u, h1, h2⟩ := q.slot j y e
        exact ⟨u, by rw [List.getElem?_set_ne hij]; exact h1, h2⟩
    · rw [List.getElem?_set] at e
      split at e
      · split at e <;> cases e
      · exact q.own j y p e hp
    · rw [List.getElem?_set] at e e'
      split at e
      · split at e <;> cases e
      · split at e'
        · split at e' <;> cases e'
        · exact q.nod j j' y y' p e e' hp hp'
/-- the tests of a comprehension, all -/
@[simp] def dYes : TDt := fun n _ P => P true n
def dlc (p : TGd) (ft : TDt) (fe : TD) (ρ : Rho) : List PyData → List PyData → Nat → (List PyData → Nat → Prop) → Prop
  | [], acc, n, P => P acc n
  | d :: ds, acc, n, P => p d ρ fun ρ' => ft n ρ' fun c m => if c = true then fe m ρ' fun x j => ∃ y, x = .dat y ∧ acc.length < 16777216 ∧ dlc p ft fe ρ ds (acc ++ [y]) j P else dlc p ft fe ρ ds acc m P
@[simp] def dLc (fi : TId) (p : TGd) (ft : TDt) (fe : TD) (vs : List Nat) : TD := fun n ρ P => fi n ρ fun ds m => dlc p ft fe (wipeR ρ vs) ds [] m fun acc j => P (.dat (.list acc)) j
def GTs (X : Cx) (ifs : List Expr) (f : TDt) : Prop := ∃ t, PTs X ifs t ∧ GT (wkOf X) t f
theorem ge_lc {w : Wk} {wi : TI} {tg : TG} {tt : TT} {te : TE} {vs : List Nat} {fi : TId} {p : TGd} {ft : TDt} {fe : TD} {lo : Bool} (g1 : GI lo w wi fi) (g2 : GG lo tg vs p) (g3 : GT w tt ft) (g4 : GE w te fe) : GE w (tLc wi tg tt te vs) (dLc fi p ft fe vs) := by
  intro g F H n σ ρ P Q hw k hh q
  refine g1 g F H n σ ρ _ _ hw k hh fun J F1 H1 m ds s1 b1 wd hL => ?_
  obtain ⟨G, Y, wk, hG, hY⟩ := wd
  intro Dl hD
  have hb : some Dl ≠ g.b := fun e => by
    obtain ⟨_, x, y, z, h, _⟩ := b1 Dl e.symm
    rw [hD] at h; cases h
  have k1 := k.step s1 b1
  -- what holds at each turn
  refine lc_it wk (fun i H' => ∃ F' m' us acc, Step g.b F1 H1 F' H' ∧ BoxOk g.b F' H' m' ∧ F' Dl = none ∧ H' Dl = some (.lst us) ∧ DqAll F' us acc ∧ dlc p ft fe (wipeR ρ vs) (ds.drop i) acc m' fun acc j => P (.dat (.list acc)) j) ?_ ?_ ?_ ?_
  · obtain ⟨s2, b2, hF, _⟩ := new_step (o := .lst []) s1.fr b1 hD
    exact ⟨F1, m, [], [], s2, b2, hF, upd_same, .nil, hL⟩
  · rintro i H' _ ⟨F', m', us, acc, s, _⟩
    exact hG H' (s.ex.trans s.fr)
  · rintro i x H' H2 hi ⟨F', m', us, acc, s, bx, hF, hH, ra, hl⟩ y
    obtain ⟨F2, d, s2, b2, e, rd⟩ := hY i F' H' m' x H2 hi s.ex s.fr bx y
    have e2 : ds.drop i = d :: ds.drop (i + 1) := by
      rw [List.drop_eq_getElem_cons hi]
      have e3 : ds[i] = d := by rw [List.getElem?_eq_getElem hi] at e; exact Option.some.inj e
      rw [e3]
    rw [e2] at hl
    have k2 := (k1.step (s.trans s2) b2).wipe vs
    refine g2 g F2 H2 m' _ _ x d _ _ k2 rd hl fun σ3 ρ3 k3 w3 h3 => ⟨?_, ?_⟩
    · rw [w3]
      have idem : ∀ (l : List Nat) (τ : L2.St) (l0 : List Nat), (∀ i ∈ l, i ∈ l0) → wipe (wipe τ l0) l = wipe τ l0 := by
        intro l
        induction l with
        | nil => intro τ l0 _; rfl
        | cons a l ih =>
          intro τ l0 hs
          have q1 : ∀ (l0 : List Nat) (τ : L2.St), a ∈ l0 → (wipe τ l0).set a none = wipe τ l0 := by
            intro l0
            induction l0 with
            | nil => intro τ h; cases h
            | cons c l0 ih0 =>
              intro τ h
              unfold L2.wipe
              by_cases eac : a = c
              · subst eac; simp
              · rw [List.set_comm _ _ (Ne.symm eac), ih0 τ (by rcases List.mem_cons.mp h with h | h; exact absurd h eac; exact h)]
          show (wipe (wipe τ l0) l).set a none = wipe τ l0
          rw [ih τ l0 fun i hi => hs i (List.mem_cons_of_mem _ hi)]
          exact q1 l0 τ (hs a List.mem_cons_self)
      exact idem vs σ vs fun _ h => h
    · refine g3 g F2 H2 m' σ3 ρ3 _ _ hw k3 h3 fun c F4 H4 m4 s4 b4 hc => ?_
      have own2 := s2.own hb hF hH
      have own4 := s4.own hb own2.1 own2.2
      cases c with
      | false => exact ⟨F4, m4, us, acc, (s.trans s2).trans s4, b4, own4.1, own4.2, dp_monoA (s2.ex.trans s4.ex) _ _ ra, hc⟩
      | true =>
        refine g4 g F4 H4 m4 σ3 ρ3 _ _ hw (k3.step s4 b4) hc fun v F5 H5 m5 x5 s5 b5 r5 hx => ?_
        obtain ⟨y, rfl, hlen, hn⟩ := hx
        have own5 := s5.own hb own4.1 own4.2
        have ra5 := dp_monoA ((s2.ex.trans s4.ex).trans s5.ex) _ _ ra
        refine ⟨us, own5.2, by rw [dpa_len ra5, sizeLine_eq]; exact hlen, F5, m5, us ++ [v], acc ++ [y], ?_, ?_, own5.1, upd_same, dpa_app ra5 (.cons r5 .nil), hn⟩
        · have st := ((s.trans s2).trans s4).trans s5
          refine ⟨st.ex, fun a o e => ?_, fun a o e nb => ?_, st.new, st.bx⟩
          · rw [upd_ne (ne_of_none e own5.1)]; exact st.fr a o e
          · rw [upd_ne (ne_of_none e hD)]; exact st.keep a o e nb
        · intro a e
          obtain ⟨z1, x1, x2, x3, z2, z3⟩ := b5 a e
          exact ⟨z1, x1, x2, x3, by rw [upd_ne (fun z => hb (by rw [← z, e]))]; exact z2, z3⟩
  · rintro H' ⟨F', m', us, acc, s, bx, hF, hH, ra, hl⟩
    rw [List.drop_length] at hl
    have sf : Step g.b F1 H1 (upd F' Dl (.lst us)) H' := ⟨s.ex.trans fun a o e => by rw [upd_ne (ne_of_none e hF)]; exact e, fun a o e => by
        by_cases z : a = Dl
        · subst z; rw [upd_same] at e; cases e; exact hH
        · rw [upd_ne z] at e; exact s.fr a o e, s.keep, fun a e h => by
        by_cases z : a = Dl
        · subst z; exact hD
        · rw [upd_ne z] at h; exact s.new a e h, fun a e => by rw [upd_ne (fun z => hb (by rw [← z, e]))]; exact s.bx a e⟩
    refine q (.ref Dl) _ H' m' (.dat (.list acc)) (s1.trans sf) (fun a e => ⟨sf.bx a e, (bx a e).2⟩) (Dq.lst upd_same (dp_monoA (fun a o e => by rw [upd_ne (ne_of_none e hF)]; exact e) _ _ ra)) hl
/-! the reading that a worth has by itself -/
def tD (w : Wk) (f : TD) : TE := fun σ H Q => ∃ (g : Fx) (F : Hp) (n : Nat) (ρ : Rho) (P : W → Nat → Prop), g.w = w ∧ Ok g F H n σ ρ ∧ f n ρ P ∧ ∀ v F' H' m x, Step g.b F H F' H' → BoxOk g.b F' H' m → RelW w g.b F' H' v x → P x m → Q v H'
def tDt (w : Wk) (f : TDt) : TT := fun σ H Q => ∃ (g : Fx) (F : Hp) (n : Nat) (ρ : Rho) (P : Bool → Nat → Prop), g.w = w ∧ Ok g F H n σ ρ ∧ f n ρ P ∧ ∀ c F' H' m, Step g.b F H F' H' → BoxOk g.b F' H' m → P c m → Q c H'
def tDg (lo : Bool) (vs : List Nat) (f : TGd) : TG := fun v σ H Q => ∃ (g : Fx) (F : Hp) (n : Nat) (ρ : Rho) (d : PyData) (P : Rho → Prop), Ok g F H n σ ρ ∧ ItR lo F H v d ∧ f d ρ P ∧ ∀ σ' ρ', Ok g F H n σ' ρ' → wipe σ' vs = wipe σ vs → P ρ' → Q σ' H
theorem ge_can {w : Wk} {f : TD} : GE w (tD w f) f := fun g F H n σ ρ P Q hw k h q => ⟨g, F, n, ρ, P, hw, k, h, q⟩
theorem gt_can {w : Wk} {f : TDt} : GT w (tDt w f) f := fun g F H n σ ρ P Q hw k h q => ⟨g, F, n, ρ, P, hw, k, h, q⟩
theorem gg_can {lo : Bool} {vs : List Nat} {f : TGd} : GG lo (tDg lo vs f) vs f := fun g F H n σ ρ v d P Q k r h q => ⟨g, F, n, ρ, d, P, k, r, h, q⟩
theorem DE.can {X : Cx} {e : Expr} {f : TD} (h : DE X e f) : PE X e (tD (wkOf X) f) := by
  obtain ⟨t, p, g1⟩ := h
  refine ⟨fun pins s σ H Q I hq => ?_⟩
  obtain ⟨g, F, n, ρ, P, hw, k, hh, q⟩ := hq
  exact p.run pins s σ H Q I (g1 g F H n σ ρ P Q hw k hh q)
section
variable {X : Cx} {elt tg iter : Expr} {ifs : List Expr} {scope : Scope} {own : List (Str × Nat)} {pos : Pos} {fi : TId} {p : TGd} {ft : TDt} {fe : TD}
theorem GTs.can (h : GTs X ifs ft) : PTs X ifs (tDt (wkOf X) ft) := by
  obtain ⟨t, p, g1⟩ := h
  refine ⟨fun pins s σ H Q I hq => ?_⟩
  obtain ⟨g, F, n, ρ, P, hw, k, hh, q⟩ := hq
  exact p.run pins s σ H Q I (g1 g F H n σ ρ P Q hw k hh q)
theorem DG.can {lo : Bool} {vs : List Nat} (h : DG lo X tg vs p) : PG X tg (tDg lo vs p) := by
  obtain ⟨t, p, g1⟩ := h
  refine ⟨fun pins s σ H v u Q I r hq => ?_⟩
  obtain ⟨g, F, n, ρ, d, P, k, rd, hh, q⟩ := hq
  exact p.run pins s σ H v u Q I r (g1 g F H n σ ρ v d P Q k rd hh q)
theorem dts_nil : GTs X [] dYes := ⟨_, pts_nil, fun g F H n σ ρ P Q hw k hh q => q true F H n k.self k.box hh⟩
theorem dts_one {e : Expr} (h : DT X e ft) : GTs X [e] ft := by
  obtain ⟨t, q, g1⟩ := h
  exact ⟨_, pts_one q, g1⟩
theorem de_lc {lo : Bool} (hc : X.calm = true) (hN : X.N.Nodup) (h1 : DI lo X tg iter fi) (ok : BlkOk X.N X.env.scope scope own)
    (h2 : ∀ (s : Shared) (H : Hp) (C : Addr) (cl : List (Str × Addr)) (fp : List Addr), DG lo (X.blk s H scope (compEnvC scope cl C X.env) fp) tg (own.map (·.2)) p)
    (h3 : ∀ (s : Shared) (H : Hp) (C : Addr) (cl : List (Str × Addr)) (fp : List Addr), GTs (X.blk s H scope (compEnvC scope cl C X.env) fp) ifs ft)
    (h4 : ∀ (s : Shared) (H : Hp) (C : Addr) (cl : List (Str × Addr)) (fp : List Addr), DE (X.blk s H scope (compEnvC scope cl C X.env) fp) elt fe) (hs : ∀ x, foldedSetIterable iter X.env x = pure x := by intro _; rfl) :
    DE X (.ListComp elt [⟨tg, iter, ifs, 0⟩] scope pos) (dLc fi p ft fe (own.map (·.2))) := by
  obtain ⟨wi, q1, g1⟩ := h1
  exact ⟨_, pe_lc hc hN q1 ok (fun s H C cl fp => (h2 s H C cl fp).can) (fun s H C cl fp => (h3 s H C cl fp).can) (fun s H C cl fp => (h4 s H C cl fp).can) hs, ge_lc g1 gg_can gt_can ge_can⟩
/-- name = [..] -/
theorem ds_setLc (i : Nat) {y : Str} {py spos : Pos} {lo : Bool} (hc : X.calm = true) (hN : X.N.Nodup) (h1 : DI lo X tg iter fi) (ok : BlkOk X.N X.env.scope scope own)
    (h2 : ∀ (s : Shared) (H : Hp) (C : Addr) (cl : List (Str × Addr)) (fp : List Addr), DG lo (X.blk s H scope (compEnvC scope cl C X.env) fp) tg (own.map (·.2)) p)
    (h3 : ∀ (s : Shared) (H : Hp) (C : Addr) (cl : List (Str × Addr)) (fp : List Addr), GTs (X.blk s H scope (compEnvC scope cl C X.env) fp) ifs ft)
    (h4 : ∀ (s : Shared) (H : Hp) (C : Addr) (cl : List (Str × Addr)) (fp : List Addr), DE (X.blk s H scope (compEnvC scope cl C X.env) fp) elt fe)
    (hsw : swapsWith (.ListComp elt [⟨tg, iter, ifs, 0⟩] scope pos) (some (.Name y py)) spos.line X.env = pure true) (hy : X.N[i]? = some y := by rfl) (hyl : X.env.scope.names.lookup y = some .local := by rfl) (hs : ∀ x, foldedSetIterable iter X.env x = pure x := by intro _; rfl) :
    DS X (.Assign [.Name y py] (.ListComp elt [⟨tg, iter, ifs, 0⟩] scope pos) spos) (dSet i (dLc fi p ft fe (own.map (·.2)))) := by
  obtain ⟨wi, q1, g1⟩ := h1
  exact ⟨_, ps_setLc hc hN hy hyl hsw q1 ok (fun s H C cl fp => (h2 s H C cl fp).can) (fun s H C cl fp => (h3 s H C cl fp).can) (fun s H C cl fp => (h4 s H C cl fp).can) hs, gs_set (ge_lc g1 gg_can gt_can ge_can)⟩
end

/-! ### defs -/
abbrev SpD := List W → Nat → (W → Nat → Prop) → Prop
@[simp] def free (ws : List W) : Bool := ws.all fun x => x.own.isNone
/-- a def's promise -/
def spD (w : Wk) (s : SpD) : Sp := fun vs H Q _ => ∃ (b : Option Addr) (F : Hp) (n : Nat) (ws : List W) (P : W → Nat → Prop), Same F H ∧ BoxOk b F H n ∧ RelA w b F H vs ws ∧ free ws = true ∧ s ws n P ∧
  ∀ v F' H' m x, Step b F H F' H' → BoxOk b F' H' m → RelW w b F' H' v x → x.own = none → P x m → Q v H'
@[simp] def startD (N : List Str) (ws : List W) : Rho := ws.map some ++ List.replicate (N.length - ws.length) none
theorem rela_len {w : Wk} {b : Option Addr} {F H : Hp} {vs : List V} {ws : List W} (r : RelA w b F H vs ws) : vs.length = ws.length := Paired.length r
theorem start_ok {w : Wk} {b : Option Addr} {F H : Hp} {n : Nat} {vs : List V} {ws : List W} {N : List Str} (hf : Same F H) (bx : BoxOk b F H n) (r : RelA w b F H vs ws) (fr : free ws = true) : Ok ⟨w, b, F, H⟩ F H n (L2.start N vs) (startD N ws) := by
  have hl := rela_len r
  have at_ : ∀ (i : Nat) x, (startD N ws)[i]? = some (some x) → ws[i]? = some x := fun i x e => by
    unfold startD at e
    rw [List.getElem?_append] at e
    split at e
    · rw [List.getElem?_map] at e
      cases h : ws[i]? with
      | none => rw [h] at e; cases e
      | some y => rw [h] at e; simpa using e
    · rw [List.getElem?_replicate] at e
      split at e <;> cases e
  have noown : ∀ (i : Nat) x p, (startD N ws)[i]? = some (some x) → x.own ≠ some p := fun i x p e z => by
    have h1 := at_ i x e
    have h2 := List.all_eq_true.mp fr x (List.mem_of_getElem? h1)
    rw [z] at h2; cases h2
  refine ⟨Step.refl hf fun a e => (bx a e).1, bx, by simp [L2.start, startD, hl], fun i x e => ?_, fun i x p e z => absurd z (noown i x p e), fun i j x y p e _ z _ => absurd z (noown i x p e)⟩
  have h1 := at_ i x e
  have q : ∀ {vs : List V} {ws : List W} {i : Nat} {x : W}, RelA w b F H vs ws → ws[i]? = some x → ∃ v, vs[i]? = some v ∧ RelW w b F H v x := by
    intro vs ws i x h
    induction h generalizing i with
    | nil => intro e; simp at e
    | cons r t ih =>
      intro e
      cases i with
      | zero => simp at e; subst e; exact ⟨_, rfl, r⟩
      | succ i => simpa using ih (by simpa using e)
  obtain ⟨v, e1, rv⟩ := q r h1
  refine ⟨v, ?_, rv⟩
  unfold L2.start
  have hi : i < vs.length := (List.getElem?_eq_some_iff.mp e1).1
  rw [List.getElem?_append_left (by simpa using hi), List.getElem?_map, e1]
  rfl
section
variable {P : Program} {w : World} {K : PySem.W.Frag} {mg : Str → Option Value} {base : Heap} {x qual : Str} {params : Arguments} {body : List Stmt} {scope : Scope} {dvs : List V} {kws : List (Str × V)} {f : Addr} {fd : FuncData} {N ps : List Str} {k : Nat} {s : SpD} {g : TSd}
/-- THE RULE for a def -/
theorem fn_d (F : FunD K x qual params body scope dvs kws f fd) (S : FnScope N ps scope) (len : ∀ ws n Q, s ws n Q → ws.length = ps.length)
    (hbody : ∀ (cdv : Value) (A : Around) (outer : List Env) (st : Shared) (H : Hp) (E : XK), Room k (A.deeper (PyProof.Rows.envOfC qual scope st.heap.objs.size f cdv)) → DSs (cxOf CX0 P w K mg base N qual scope f cdv A outer st H E).nox body g)
    (hpf : ∀ ws n Q, s ws n Q → g { nx := fun m _ => Q (.dat .none) m, rt := Q } n (startD N ws)) : FnOk P w K mg base CX0 (k + 1) f fd ps (spD ⟨w, K⟩ s) := by
  refine F.ok S (fun vs H Q E h => ?_) (fun cdv A outer st H vs Q E hr h => ?_)
  · obtain ⟨b, F, n, ws, P, _, _, r, _, hs, _⟩ := h
    rw [rela_len r]
    exact len ws n P hs
  · obtain ⟨b, F, n, ws, P, hf, bx, r, fr, hs, q⟩ := h
    obtain ⟨t, p, g1⟩ := hbody cdv A outer st H E hr
    refine ⟨t, PSs.nox p, ?_⟩
    refine g1 ⟨⟨w, K⟩, b, F, H⟩ F H n _ _ _ _ rfl (start_ok (N := N) hf bx r fr) ⟨fun F' H' m σ ρ _ k' h' => ?_, fun v F' H' m x' s1 b1 r1 ho h' => q v F' H' m x' s1 b1 r1 ho h', fun _ _ _ _ _ _ _ h' => (show False from h').elim, fun _ _ _ _ _ _ _ h' => (show False from h').elim⟩ (hpf ws n P hs)
    exact q .non F' H' m (.dat .none) k'.st k'.box Dq.non rfl h'
end
/-- f(e, ..) -/
@[simp] def dCall (s : SpD) (fa : TDa) : TD := fun n ρ P => fa n ρ fun xs m => free xs = true ∧ s xs m P
section
variable {X : Cx} {k : Nat} {f C : Addr} {fd : FuncData} {ps : List Str} {s : SpD} {x m : Str} {p pos apos : Pos} {e o : Expr} {es : List Expr} {fa : TDa} {fo : TD}
theorem de_call (F : FnOk X.prog X.w X.K X.mg X.base CX0 k f fd ps (spD (wkOf X) s)) (hr : Room k X.A) (hg : Gl X x) (hm : X.mg x = some (.ref f)) (hk : PySem.W.keepIn X.K (.ref f) = true) (hb : Binds X.K fd ps []) (ha : DA X (e :: es) fa)
    (hdb : (x == ("__debug__" : Str)) = false := by decide) (he : starEach (e :: es) X.env = (false, eval e X.env) :: starEach es X.env := by rfl) (hpl : (backTo pos (starEach es X.env)).any (·.1) = false := by rfl) :
    DE X (.Call (.Name x p) (e :: es) [] pos) (dCall s fa) := by
  obtain ⟨t, q1, g1⟩ := ha
  refine ⟨_, pe_call F hr hg hm hk hb .nil (E := E0) pass0 q1 hdb he hpl, fun g F0 H n σ ρ P Q hw k0 hh q => ?_⟩
  refine g1 g F0 H n σ ρ _ _ hw k0 hh fun vs F1 H1 m xs s1 b1 r1 hx => ?_
  rw [List.append_nil]
  exact ⟨g.b, F1, m, xs, P, s1.fr, b1, r1, hx.1, hx.2, fun v F' H' j y s2 b2 r2 _ hy => q v F' H' j y (s1.trans s2) b2 r2 hy⟩
/-- o.m(e, ..) -/
@[simp] def dMeth (C : Addr) (m : Str) (s : SpD) (fo : TD) (fa : TDa) : TD := fun n ρ P => fo n ρ fun x k => ∃ fs, x = .ins C fs ∧ fs.lookup m = none ∧ fa k ρ fun xs j => free xs = true ∧ s (x :: xs) j P
theorem fd_none {F : Hp} {m : Str} : ∀ {vs : List (Str × V)} {fs : List (Str × PyData)}, FD F vs fs → fs.lookup m = none → vs.lookup m = none
  | _, _, .nil, _ => rfl
  | (a, v) :: vs, (c, d) :: fs, .cons r t, h => by
    have e : a = c := r.1
    subst e
    rw [List.lookup_cons] at h ⊢
    split at h
    · cases h
    · exact fd_none t h
theorem de_meth (ho : DE X o fo) (c : Cls X.K C) (hm : Meth X.K C m f) (F : FnOk X.prog X.w X.K X.mg X.base CX0 k f fd ps (spD (wkOf X) s)) (hr : Room k X.A) (hb : Binds X.K fd ps []) (ha : DA X (e :: es) fa) {pl : Sem Bool}
    (hst : starEach (e :: es) X.env = (false, eval e X.env) :: starEach es X.env := by rfl) (hpl : (backTo pos (starEach es X.env)).any (·.1) = false := by rfl)
    (ht : eval (.Call (.Attribute o m apos) (e :: es) [] pos) X.env = (do
      let ov ← eval o X.env
      standAt apos.atName
      let (f, first) ← holding [ov] (getMethod ov m pl)
      callWith pos f first (backTo pos (starEach (e :: es) X.env)) (backToKw pos (keywordEach [] X.env))) := by rfl) :
    DE X (.Call (.Attribute o m apos) (e :: es) [] pos) (dMeth C m s fo fa) := by
  obtain ⟨t0, q0, g0⟩ := ho
  obtain ⟨t, q1, g1⟩ := ha
  refine ⟨_, pe_meth q0 c hm F hr hb .nil (E := E0) pass0 q1 hst hpl ht, fun g F0 H n σ ρ P Q hw k0 hh q => ?_⟩
  refine g0 g F0 H n σ ρ _ _ hw k0 hh fun v F1 H1 j x s1 b1 r1 hx => ?_
  obtain ⟨fs, rfl, hl, hx⟩ := hx
  obtain ⟨a, dx, vs0, rfl, ha, hfd⟩ := id r1
  refine ⟨a, dx, vs0, rfl, s1.fr _ _ ha, fd_none hfd hl, ?_⟩
  refine g1 g F1 H1 j σ ρ _ _ hw (k0.step s1 b1) hx fun vs F2 H2 m2 xs s2 b2 r2 hx2 => ?_
  rw [List.append_nil]
  exact ⟨g.b, F2, m2, _, P, s2.fr, b2, .cons (r1.mono s2) r2, by simp only [free, List.all_cons]; exact hx2.1, hx2.2, fun v F' H' j y s3 b3 r3 _ hy => q v F' H' j y ((s1.trans s2).trans s3) b3 r3 hy⟩
/-- o.f -/
def dFld (f : Str) (fo : TD) : TD := fun n ρ P => fo n ρ fun x k => ∃ C fs d, x = .ins C fs ∧ fs.lookup f = some d ∧ P (.dat d) k
theorem fd_some {F : Hp} {m : Str} {d : PyData} : ∀ {vs : List (Str × V)} {fs : List (Str × PyData)}, FD F vs fs → fs.lookup m = some d → ∃ v, vs.lookup m = some v ∧ Dq F v d
  | _, _, .nil, h => by cases h
  | (a, v) :: vs, (c, d') :: fs, .cons r t, h => by
    have e : a = c := r.1
    subst e
    rw [List.lookup_cons] at h ⊢
    split at h
    · cases h
      exact ⟨v, rfl, r.2⟩
    · exact fd_some t h
end
end DL
set_option Elab.async false
set_option linter.all false
set_option maxRecDepth 100000
set_option maxHeartbeats 4000000
/-! DL7: built-ins. -/
namespace DL
open PySem PySem.Spec L2

def GC (w : Wk) (r : List V → Hp → VK → Prop) (op : List W → Option W) : Prop := ∀ (b : Option Addr) (F H : Hp) (n : Nat) (vs : List V) (xs : List W) (z : W) (Q : VK), Same F H → BoxOk b F H n → RelA w b F H vs xs → op xs = some z →
  (∀ v F' H', Step b F H F' H' → BoxOk b F' H' n → RelW w b F' H' v z → Q v H') → r vs H Q
@[simp] def dB (op : List W → Option W) (fa : TDa) : TD := fun n ρ P => fa n ρ fun xs m => ∃ z, op xs = some z ∧ P z m
theorem ge_cb {w : Wk} {r : List V → Hp → VK → Prop} {op : List W → Option W} {t : TA} {fa : TDa} (hr : GC w r op) (g1 : GA w t fa) : GE w (tCB r t) (dB op fa) := by
  intro g F H n σ ρ P Q hw k hh q
  refine g1 g F H n σ ρ _ _ hw k hh fun vs F1 H1 m xs s1 b1 r1 hx => ?_
  obtain ⟨z, e, hP⟩ := hx
  exact hr g.b F1 H1 m vs xs z Q s1.fr b1 r1 e fun v F' H' s2 b2 r2 => q v F' H' m z (s1.trans s2) b2 r2 hP
theorem gc_val {w : Wk} {r : List V → Hp → VK → Prop} {op : List W → Option W} (h : ∀ b F H vs xs z, Same F H → RelA w b F H vs xs → op xs = some z → ∃ v, RelW w b F H v z ∧ ∀ Q : VK, Q v H → r vs H Q) : GC w r op := by
  intro b F H n vs xs z Q hf bx ra e q
  obtain ⟨v, rv, hq⟩ := h b F H vs xs z hf ra e
  exact hq Q (q v F H (Step.refl hf fun a e => (bx a e).1) bx rv)
theorem rel1 {w : Wk} {b : Option Addr} {F H : Hp} {vs : List V} {x : W} (r : RelA w b F H vs [x]) : ∃ v, vs = [v] ∧ RelW w b F H v x := by
  cases r with
  | cons a c => cases c; exact ⟨_, rfl, a⟩
theorem rel2 {w : Wk} {b : Option Addr} {F H : Hp} {vs : List V} {x y : W} (r : RelA w b F H vs [x, y]) : ∃ v u, vs = [v, u] ∧ RelW w b F H v x ∧ RelW w b F H u y := by
  cases r with
  | cons a c =>
    cases c with
    | cons a' c' => cases c'; exact ⟨_, _, rfl, a, a'⟩
section
variable {X : Cx} {x : Str} {p pos : Pos} {e : Expr} {es : List Expr} {fa : TDa} {id T : String} {r : List V → Hp → VK → Prop} {op : List W → Option W}
theorem de_cb (hc : CallR X (.builtin id) r) (hr : GC (wkOf X) r op) (hv : bootBuiltins x = some (.builtin id)) (hg : Gl X x) (hm : X.mg x = none) (h : DA X (e :: es) fa) (he : starEach (e :: es) X.env = (false, eval e X.env) :: starEach es X.env) (hpl : (backTo pos (starEach es X.env)).any (·.1) = false) (hn : x ≠ "__name__" := by decide) (hdb : (x == ("__debug__" : Str)) = false := by decide) : DE X (.Call (.Name x p) (e :: es) [] pos) (dB op fa) := by
  obtain ⟨t, q1, g1⟩ := h
  exact ⟨_, pe_callB hc hg hm hv q1 hn hdb he hpl, ge_cb hr g1⟩
theorem de_ct (hc : CallR X (.type T) r) (hr : GC (wkOf X) r op) (hv : bootBuiltins x = some (.type T)) (hg : Gl X x) (hm : X.mg x = none) (h : DA X (e :: es) fa) (he : starEach (e :: es) X.env = (false, eval e X.env) :: starEach es X.env) (hpl : (backTo pos (starEach es X.env)).any (·.1) = false) (hn : x ≠ "__name__" := by decide) (hdb : (x == ("__debug__" : Str)) = false := by decide) : DE X (.Call (.Name x p) (e :: es) [] pos) (dB op fa) := by
  obtain ⟨t, q1, g1⟩ := h
  exact ⟨_, pe_callTy hc hg hm hv q1 hn hdb he hpl, ge_cb hr g1⟩
end

/-! ### isinstance -/
def tyN : PyData → String
  | .none => "NoneType"
  | .bool _ => "bool"
  | .int _ => "int"
  | .str _ => "str"
  | .list _ => "list"
  | .tuple _ => "tuple"
  | .dict _ => "dict"
@[simp] def isi (d : PyData) (T : String) : Option Bool := match d, T with
  | .bool _, "bool" => some true
  | .bool _, "int" => some true
  | .int _, "int" => some true
  | .str _, "str" => some true
  | .list _, "list" => some true
  | .tuple _, "tuple" => some true
  | .none, "bool" => some false | .none, "int" => some false | .none, "str" => some false | .none, "list" => some false | .none, "tuple" => some false
  | .bool _, "str" => some false | .bool _, "list" => some false | .bool _, "tuple" => some false
  | .int _, "bool" => some false | .int _, "str" => some false | .int _, "list" => some false | .int _, "tuple" => some false
  | .str _, "bool" => some false | .str _, "int" => some false | .str _, "list" => some false | .str _, "tuple" => some false
  | .list _, "bool" => some false | .list _, "int" => some false | .list _, "str" => some false | .list _, "tuple" => some false
  | .tuple _, "bool" => some false | .tuple _, "int" => some false | .tuple _, "str" => some false | .tuple _, "list" => some false
  | _, _ => none
theorem kits : ∀ d ∈ ["NoneType", "bool", "int", "str", "list", "tuple"], ∀ T ∈ ["bool", "int", "str", "list", "tuple"], kitB d T = some (d == T || (d == "bool" && T == "int")) := by decide +kernel
theorem isi_kit {d : PyData} {T : String} {r : Bool} (h : isi d T = some r) : kitB (tyN d) T = some r := by
  unfold isi at h
  split at h <;> cases h <;> (refine (kits _ ?_ _ ?_).trans ?_ <;> simp [tyN])
@[simp] def isiW : List W → Option W
  | [.dat d, .ty T] => (isi d T).map fun r => .dat (.bool r)
  | _ => none
theorem dq_ty {K : PySem.W.Frag} {F H : Hp} (e : Same F H) {v : V} {d : PyData} (h : Dq F v d) : TyX K H v (.type (tyN d)) := by
  cases h with
  | non => exact .base (.non)
  | bl c => exact .base (.bl c)
  | int i => exact .base (.int i)
  | str x => exact .base (.str x)
  | lst h _ => exact .base (.lst (e _ _ h))
  | tup h _ => obtain ⟨ob, h, _⟩ := h; exact .fTuple (e _ _ h)
theorem gc_isi {w : Wk} {K : PySem.W.Frag} : GC w (rIsi K) isiW := gc_val fun b F H vs xs z hf ra e => by
  unfold isiW at e
  split at e
  · rename_i d T
    obtain ⟨r, e1, e2⟩ := Option.map_eq_some_iff.mp e
    subst e2
    obtain ⟨v, u, rfl, r1, r2⟩ := rel2 ra
    have r2 : u = .ty T := r2
    subst r2
    exact ⟨.bl r, Dq.bl r, fun Q q => ⟨v, .ty T, _, _, r, rfl, .ty T, dq_ty hf r1, kit_ty (isi_kit e1), q⟩⟩
  · cases e
theorem boot_isi : bootBuiltins "isinstance" = some (.builtin "isinstance") := by decide +kernel
theorem boot_intT : bootBuiltins "int" = some (.type "int") := by decide +kernel
theorem boot_boolT : bootBuiltins "bool" = some (.type "bool") := by decide +kernel
theorem boot_strT : bootBuiltins "str" = some (.type "str") := by decide +kernel
theorem boot_listT : bootBuiltins "list" = some (.type "list") := by decide +kernel
theorem boot_tupleT : bootBuiltins "tuple" = some (.type "tuple") := by decide +kernel
theorem boot_dictT : bootBuiltins "dict" = some (.type "dict") := by decide +kernel
theorem boot_setT : bootBuiltins "set" = some (.type "set") := by decide +kernel
theorem boot_lenB : bootBuiltins "len" = some (.builtin "len") := by decide +kernel
theorem boot_allB : bootBuiltins "all" = some (.builtin "all") := by decide +kernel
theorem boot_anyB : bootBuiltins "any" = some (.builtin "any") := by decide +kernel
theorem boot_absB : bootBuiltins "abs" = some (.builtin "abs") := by decide +kernel
theorem boot_maxB : bootBuiltins "max" = some (.builtin "max") := by decide +kernel
theorem boot_sortedB : bootBuiltins "sorted" = some (.builtin "sorted") := by decide +kernel
theorem boot_reprB : bootBuiltins "repr" = some (.builtin "repr") := by decide +kernel
theorem boot_divmodB : bootBuiltins "divmod" = some (.builtin "divmod") := by decide +kernel

/-! ### len, all, any -/
@[simp] def lenW : List W → Option W
  | [.dat (.str z)] => if z.length ≤ 16777216 then some (.dat (.int (z.length : Int))) else none
  | [.dat (.list ds)] => some (.dat (.int (ds.length : Int)))
  | [.dat (.tuple ds)] => some (.dat (.int (ds.length : Int)))
  | [.olst _ ds] => some (.dat (.int (ds.length : Int)))
  | [.odic _ ks] => some (.dat (.int (ks.length : Int)))
  | _ => none
abbrev rLenA (K : PySem.W.Frag) : List V → Hp → VK → Prop := fun xs H Q => (∃ x n, xs = [x] ∧ LenV K x H n ∧ Q (.int n) H) ∨ (∃ a kvs, xs = [V.ref a] ∧ H a = some (.dK kvs) ∧ Q (.int kvs.length) H)
theorem gc_len {w : Wk} {K : PySem.W.Frag} : GC w (rLenA K) lenW := gc_val fun b F H vs xs z hf ra e => by
  unfold lenW at e
  split at e
  · rename_i s
    split at e
    · rename_i hl
      cases e
      obtain ⟨v, rfl, r1⟩ := rel1 ra
      obtain rfl := dq_str r1
      exact ⟨.int _, Dq.int _, fun Q q => .inl ⟨_, s.length, rfl, ⟨line_eq hl, rfl⟩, q⟩⟩
    · cases e
  · rename_i ds
    cases e
    obtain ⟨v, rfl, r1⟩ := rel1 ra
    obtain ⟨a, us, rfl, ha, ta⟩ := dq_lst r1
    exact ⟨.int _, Dq.int _, fun Q q => .inl ⟨_, us.length, rfl, .inl ⟨us, SqL.of (hf _ _ ha), rfl⟩, by rw [dpa_len ta]; exact q⟩⟩
  · rename_i ds
    cases e
    obtain ⟨v, rfl, r1⟩ := rel1 ra
    obtain ⟨a, us, rfl, ha, ta⟩ := dq_tup r1
    exact ⟨.int _, Dq.int _, fun Q q => .inl ⟨_, us.length, rfl, .inr ⟨us, ha.sq hf, rfl⟩, by rw [dpa_len ta]; exact q⟩⟩
  · rename_i p ds
    cases e
    obtain ⟨v, rfl, r1⟩ := rel1 ra
    obtain ⟨rfl, _, _, us, ha, ta⟩ := r1
    exact ⟨.int _, Dq.int _, fun Q q => .inl ⟨_, us.length, rfl, .inl ⟨us, SqL.of ha, rfl⟩, by rw [dpa_len ta]; exact q⟩⟩
  · rename_i p ks
    cases e
    obtain ⟨v, rfl, r1⟩ := rel1 ra
    obtain ⟨rfl, _, _, us, ha, ta⟩ := r1
    exact ⟨.int _, Dq.int _, fun Q q => .inr ⟨p, us, rfl, ha, by rw [kd_len ta]; exact q⟩⟩
  · cases e
def boolsOf : List PyData → Option (List Bool)
  | [] => some []
  | .bool c :: r => (boolsOf r).map (c :: ·)
  | _ :: _ => none
theorem boolsOf_v {F : Hp} : ∀ {vs : List V} {ds : List PyData} {bs : List Bool}, DqAll F vs ds → boolsOf ds = some bs → vs = bs.map V.bl
  | _, _, _, .nil, e => by simp [boolsOf] at e; subst e; rfl
  | _, d :: ds, bs, .cons r t, e => by
    cases d with
    | bool c =>
      simp only [boolsOf, Option.map_eq_some_iff] at e
      obtain ⟨bs', e1, e2⟩ := e
      subst e2
      obtain rfl := dq_bl r
      rw [boolsOf_v t e1]; rfl
    | _ => simp [boolsOf] at e
@[simp] def allW : List W → Option W
  | [.dat (.list ds)] => (boolsOf ds).map fun bs => .dat (.bool (bs.all id))
  | _ => none
@[simp] def anyW : List W → Option W
  | [.dat (.list ds)] => (boolsOf ds).map fun bs => .dat (.bool (bs.any id))
  | _ => none
theorem gc_all {w : Wk} {K : PySem.W.Frag} : GC w (rAll K) allW := gc_val fun b F H vs xs z hf ra e => by
  unfold allW at e
  split at e
  · rename_i ds
    obtain ⟨bs, e1, e2⟩ := Option.map_eq_some_iff.mp e
    subst e2
    obtain ⟨v, rfl, r1⟩ := rel1 ra
    obtain ⟨a, us, rfl, ha, ta⟩ := dq_lst r1
    obtain rfl := boolsOf_v ta e1
    exact ⟨.bl _, Dq.bl _, fun Q q => ⟨a, bs, rfl, SqL.of (hf _ _ ha), q⟩⟩
  · cases e
theorem gc_any {w : Wk} {K : PySem.W.Frag} : GC w (rAny K) anyW := gc_val fun b F H vs xs z hf ra e => by
  unfold anyW at e
  split at e
  · rename_i ds
    obtain ⟨bs, e1, e2⟩ := Option.map_eq_some_iff.mp e
    subst e2
    obtain ⟨v, rfl, r1⟩ := rel1 ra
    obtain ⟨a, us, rfl, ha, ta⟩ := dq_lst r1
    obtain rfl := boolsOf_v ta e1
    exact ⟨.bl _, Dq.bl _, fun Q q => ⟨a, bs, rfl, SqL.of (hf _ _ ha), q⟩⟩
  · cases e
section
variable {X : Cx} {p pos : Pos} {e : Expr} {es : List Expr} {fa : TDa}
theorem de_isi (hg : Gl X "isinstance") (hm : X.mg "isinstance" = none) (h : DA X (e :: es) fa) (he : starEach (e :: es) X.env = (false, eval e X.env) :: starEach es X.env := by rfl) (hpl : (backTo pos (starEach es X.env)).any (·.1) = false := by rfl) : DE X (.Call (.Name "isinstance" p) (e :: es) [] pos) (dB isiW fa) := de_cb call_isi gc_isi boot_isi hg hm h he hpl
theorem de_len (hg : Gl X "len") (hm : X.mg "len" = none) (h : DA X (e :: es) fa) (he : starEach (e :: es) X.env = (false, eval e X.env) :: starEach es X.env := by rfl) (hpl : (backTo pos (starEach es X.env)).any (·.1) = false := by rfl) : DE X (.Call (.Name "len" p) (e :: es) [] pos) (dB lenW fa) := de_cb (call_len.or call_lenD) gc_len boot_lenB hg hm h he hpl
theorem de_all (hc : X.calm = true) (hg : Gl X "all") (hm : X.mg "all" = none) (h : DA X (e :: es) fa) (he : starEach (e :: es) X.env = (false, eval e X.env) :: starEach es X.env := by rfl) (hpl : (backTo pos (starEach es X.env)).any (·.1) = false := by rfl) : DE X (.Call (.Name "all" p) (e :: es) [] pos) (dB allW fa) := de_cb (cr_all hc) gc_all boot_allB hg hm h he hpl
theorem de_any (hc : X.calm = true) (hg : Gl X "any") (hm : X.mg "any" = none) (h : DA X (e :: es) fa) (he : starEach (e :: es) X.env = (false, eval e X.env) :: starEach es X.env := by rfl) (hpl : (backTo pos (starEach es X.env)).any (·.1) = false := by rfl) : DE X (.Call (.Name "any" p) (e :: es) [] pos) (dB anyW fa) := de_cb (cr_any hc) gc_any boot_anyB hg hm h he hpl
end

/-! ### tuple, list -/
@[simp] def tupW : List W → Option W
  | [.dat (.list ds)] => some (.dat (.tuple ds))
  | [.dat (.tuple ds)] => some (.dat (.tuple ds))
  | _ => none
@[simp] def lstW : List W → Option W
  | [.dat (.list ds)] => some (.dat (.list ds))
  | [.dat (.tuple ds)] => some (.dat (.list ds))
  | _ => none
abbrev rTupC (K : PySem.W.Frag) : List V → Hp → VK → Prop := rTupCF K
abbrev rLstC (K : PySem.W.Frag) : List V → Hp → VK → Prop := fun xs H Q => ∃ p ys, xs = [.ref p] ∧ (SqL K H p ys ∨ SqT K H p ys) ∧ ∀ l, H l = none → Q (.ref l) (upd H l (.lst ys))
theorem gc_tup {w : Wk} {K : PySem.W.Frag} : GC w (rTupC K) tupW := by
  intro b F H n vs xs z Q hf bx ra e q
  unfold tupW at e
  split at e
  · cases e
    obtain ⟨v, rfl, r1⟩ := rel1 ra
    obtain ⟨a, us, rfl, ha, ta⟩ := dq_lst r1
    refine ⟨a, us, rfl, .inl ⟨SqL.of (hf _ _ ha), fun l ob hl hd => ?_⟩⟩
    obtain ⟨s2, b2⟩ := fresh_step (o := .frz ob (.tup us)) hf bx hl
    exact q _ _ _ s2 b2 (Dq.tup (TupF.new hd) (dp_monoA s2.ex _ _ ta))
  · cases e
    obtain ⟨v, rfl, r1⟩ := rel1 ra
    obtain ⟨a, us, rfl, ha, ta⟩ := dq_tup r1
    exact ⟨a, us, rfl, .inr ⟨ha.sq hf, q _ F H (Step.refl hf fun a e => (bx a e).1) bx r1⟩⟩
  · cases e
theorem gc_lst {w : Wk} {K : PySem.W.Frag} : GC w (rLstC K) lstW := by
  intro b F H n vs xs z Q hf bx ra e q
  unfold lstW at e
  split at e
  · cases e
    obtain ⟨v, rfl, r1⟩ := rel1 ra
    obtain ⟨a, us, rfl, ha, ta⟩ := dq_lst r1
    refine ⟨a, us, rfl, .inl (SqL.of (hf _ _ ha)), fun l hl => ?_⟩
    obtain ⟨s2, b2⟩ := fresh_step (o := .lst us) hf bx hl
    exact q _ _ _ s2 b2 (Dq.lst upd_same (dp_monoA s2.ex _ _ ta))
  · cases e
    obtain ⟨v, rfl, r1⟩ := rel1 ra
    obtain ⟨a, us, rfl, ha, ta⟩ := dq_tup r1
    refine ⟨a, us, rfl, .inr (ha.sq hf), fun l hl => ?_⟩
    obtain ⟨s2, b2⟩ := fresh_step (o := .lst us) hf bx hl
    exact q _ _ _ s2 b2 (Dq.lst upd_same (dp_monoA s2.ex _ _ ta))
  · cases e

/-! ### scalars -/
@[simp] def absW : List W → Option W
  | [.dat (.int i)] => some (.dat (.int (if i < 0 then -i else i)))
  | _ => none
theorem gc_abs {w : Wk} : GC w (fun xs H Q => ∃ i, xs = [.int i] ∧ Q (.int (if i < 0 then -i else i)) H) absW := gc_val fun b F H vs xs z hf ra e => by
  unfold absW at e
  split at e
  · cases e
    obtain ⟨v, rfl, r1⟩ := rel1 ra
    obtain rfl := dq_int r1
    exact ⟨.int _, Dq.int _, fun Q q => ⟨_, rfl, q⟩⟩
  · cases e
@[simp] def intW : List W → Option W
  | [.dat (.int i)] => some (.dat (.int i))
  | [.dat (.bool k)] => some (.dat (.int (if k then 1 else 0)))
  | _ => none
theorem gc_int {w : Wk} : GC w (fun xs H Q => (∃ i, xs = [.int i] ∧ Q (.int i) H) ∨ ∃ k, xs = [.bl k] ∧ Q (.int (if k then 1 else 0)) H) intW := gc_val fun b F H vs xs z hf ra e => by
  unfold intW at e
  split at e
  · cases e
    obtain ⟨v, rfl, r1⟩ := rel1 ra
    obtain rfl := dq_int r1
    exact ⟨.int _, Dq.int _, fun Q q => .inl ⟨_, rfl, q⟩⟩
  · cases e
    obtain ⟨v, rfl, r1⟩ := rel1 ra
    obtain rfl := dq_bl r1
    exact ⟨.int _, Dq.int _, fun Q q => .inr ⟨_, rfl, q⟩⟩
  · cases e
@[simp] def maxW : List W → Option W
  | [.dat (.int i), .dat (.int j)] => some (.dat (.int (if j > i then j else i)))
  | _ => none
theorem gc_max {w : Wk} : GC w (fun xs H Q => ∃ i j, xs = [.int i, .int j] ∧ Q (.int (if j > i then j else i)) H) maxW := gc_val fun b F H vs xs z hf ra e => by
  unfold maxW at e
  split at e
  · cases e
    obtain ⟨v, u, rfl, r1, r2⟩ := rel2 ra
    obtain rfl := dq_int r1
    obtain rfl := dq_int r2
    exact ⟨.int _, Dq.int _, fun Q q => ⟨_, _, rfl, q⟩⟩
  · cases e
@[simp] def strW : List W → Option W
  | [.dat (.int i)] => if i.natAbs < 1000000 then some (.dat (.str (toString i))) else none
  | _ => none
theorem small_log {i : Int} (h : i.natAbs < 1000000) : i.natAbs.log2 < 1920 := by
  have h2 : i.natAbs < 2 ^ 20 := by omega
  exact Nat.lt_of_lt_of_le (PySem.Flt.log2_lt_of (by decide) h2) (by decide)
theorem gc_str {w : Wk} : GC w (fun xs H Q => ∃ i, xs = [.int i] ∧ i.natAbs.log2 < 1920 ∧ Q (.str (toString i)) H) strW := gc_val fun b F H vs xs z hf ra e => by
  unfold strW at e
  split at e
  · split at e
    · rename_i hl
      cases e
      obtain ⟨v, rfl, r1⟩ := rel1 ra
      obtain rfl := dq_int r1
      exact ⟨.str _, Dq.str _, fun Q q => ⟨_, rfl, small_log hl, q⟩⟩
    · cases e
  · cases e
section
variable {X : Cx} {p pos : Pos} {e : Expr} {es : List Expr} {fa : TDa}
theorem de_tuple (hg : Gl X "tuple") (hm : X.mg "tuple" = none) (h : DA X (e :: es) fa) (he : starEach (e :: es) X.env = (false, eval e X.env) :: starEach es X.env := by rfl) (hpl : (backTo pos (starEach es X.env)).any (·.1) = false := by rfl) : DE X (.Call (.Name "tuple" p) (e :: es) [] pos) (dB tupW fa) := de_ct call_tuple_ofF gc_tup boot_tupleT hg hm h he hpl
theorem de_list (hg : Gl X "list") (hm : X.mg "list" = none) (h : DA X (e :: es) fa) (he : starEach (e :: es) X.env = (false, eval e X.env) :: starEach es X.env := by rfl) (hpl : (backTo pos (starEach es X.env)).any (·.1) = false := by rfl) : DE X (.Call (.Name "list" p) (e :: es) [] pos) (dB lstW fa) := de_ct call_list_of gc_lst boot_listT hg hm h he hpl
theorem de_abs (hg : Gl X "abs") (hm : X.mg "abs" = none) (h : DA X (e :: es) fa) (he : starEach (e :: es) X.env = (false, eval e X.env) :: starEach es X.env := by rfl) (hpl : (backTo pos (starEach es X.env)).any (·.1) = false := by rfl) : DE X (.Call (.Name "abs" p) (e :: es) [] pos) (dB absW fa) := de_cb call_abs gc_abs boot_absB hg hm h he hpl
theorem de_intB (hg : Gl X "int") (hm : X.mg "int" = none) (h : DA X (e :: es) fa) (he : starEach (e :: es) X.env = (false, eval e X.env) :: starEach es X.env := by rfl) (hpl : (backTo pos (starEach es X.env)).any (·.1) = false := by rfl) : DE X (.Call (.Name "int" p) (e :: es) [] pos) (dB intW fa) := de_ct call_int1 gc_int boot_intT hg hm h he hpl
theorem de_strB (hg : Gl X "str") (hm : X.mg "str" = none) (h : DA X (e :: es) fa) (he : starEach (e :: es) X.env = (false, eval e X.env) :: starEach es X.env := by rfl) (hpl : (backTo pos (starEach es X.env)).any (·.1) = false := by rfl) : DE X (.Call (.Name "str" p) (e :: es) [] pos) (dB strW fa) := de_ct call_str_int gc_str boot_strT hg hm h he hpl
theorem de_max (hc : X.calm = true) (hg : Gl X "max") (hm : X.mg "max" = none) (h : DA X (e :: es) fa) (he : starEach (e :: es) X.env = (false, eval e X.env) :: starEach es X.env := by rfl) (hpl : (backTo pos (starEach es X.env)).any (·.1) = false := by rfl) : DE X (.Call (.Name "max" p) (e :: es) [] pos) (dB maxW fa) := de_cb (call_max2 hc) gc_max boot_maxB hg hm h he hpl
end
end DL
set_option Elab.async false
set_option linter.all false
set_option maxRecDepth 100000
set_option maxHeartbeats 0
namespace WL
open PySem PySem.Spec PyProof.Rows L2
def top (i : Nat) : Stmt := PySem.Challenge.pw_wishlane_k69_whole_papers_spoilt_anywher.main.body.getD i (.Pass ⟨0, 0, 0, 0⟩)
abbrev s_is_number : Stmt := top 7
abbrev s_is_below : Stmt := top 8
abbrev s_is_name : Stmt := top 9
abbrev s_is_tuple_of : Stmt := top 10
abbrev s_is_row : Stmt := top 17
abbrev s_is_state : Stmt := top 18
abbrev s_begun : Stmt := top 19
abbrev s_counted : Stmt := top 20
abbrev s_piled : Stmt := top 21
abbrev s_queued : Stmt := top 22
abbrev s_tabled : Stmt := top 23
abbrev s_done : Stmt := top 25
abbrev s_wishes_in : Stmt := top 28
abbrev s_is_same : Stmt := top 30
abbrev s_first_spot : Stmt := top 31
abbrev s_Tale_init : Stmt := inClass (top 32) 0
abbrev s_Tale_is_all : Stmt := inClass (top 32) 1
abbrev s_Tale_behind : Stmt := inClass (top 32) 2
abbrev s_Tale_is_spot : Stmt := inClass (top 32) 3
abbrev s_shows_unlined : Stmt := top 34
abbrev s_shows_order : Stmt := top 36
abbrev s_law_cells : Stmt := top 38
abbrev s_law_box : Stmt := top 39
abbrev s_law_take : Stmt := top 40
abbrev s_law_one_of : Stmt := top 41
abbrev s_law_number : Stmt := top 42
abbrev s_law_keys : Stmt := top 43
abbrev s_law_wish : Stmt := top 44
abbrev s_law_origin : Stmt := top 45
abbrev s_law_did : Stmt := top 46
abbrev s_law_tale : Stmt := top 47
abbrev s_law_rows : Stmt := top 48
abbrev s_law_ahead : Stmt := top 49
abbrev s_law_fits : Stmt := top 50
abbrev s_law_after : Stmt := top 51
abbrev s_law_is_all : Stmt := top 52
abbrev s_law_is_order : Stmt := top 53
abbrev s_law_other_answer : Stmt := top 54
abbrev s_law_bent : Stmt := top 55
abbrev s_law_is_spot : Stmt := top 56
abbrev s_law_is_number : Stmt := top 57
abbrev s_law_is_name : Stmt := top 58
abbrev s_law_is_state : Stmt := top 59
abbrev s_law_is_unlined : Stmt := top 60
abbrev s_law_closed : Stmt := top 61
abbrev s_law_odd : Stmt := top 62
abbrev s_law_state_bent : Stmt := top 63
abbrev s_law_counts_bent : Stmt := top 64
abbrev s_law_unlined_bent : Stmt := top 65
abbrev s_law_row_bent : Stmt := top 66
abbrev s_law_things : Stmt := top 67
abbrev s_law_right : Stmt := top 68
abbrev s_law_two_sorts : Stmt := top 69
abbrev s_law : Stmt := top 70
def d_is_number : He.DefD := ⟨("is_number", none), "is_number", "is_number", defArgs s_is_number, defBody s_is_number, defScope s_is_number, [], []⟩
def d_is_below : He.DefD := ⟨("is_below", none), "is_below", "is_below", defArgs s_is_below, defBody s_is_below, defScope s_is_below, [], []⟩
def d_is_name : He.DefD := ⟨("is_name", none), "is_name", "is_name", defArgs s_is_name, defBody s_is_name, defScope s_is_name, [], []⟩
def d_is_tuple_of : He.DefD := ⟨("is_tuple_of", none), "is_tuple_of", "is_tuple_of", defArgs s_is_tuple_of, defBody s_is_tuple_of, defScope s_is_tuple_of, [], []⟩
def d_is_row : He.DefD := ⟨("is_row", none), "is_row", "is_row", defArgs s_is_row, defBody s_is_row, defScope s_is_row, [], []⟩
def d_is_state : He.DefD := ⟨("is_state", none), "is_state", "is_state", defArgs s_is_state, defBody s_is_state, defScope s_is_state, [], []⟩
def d_begun : He.DefD := ⟨("begun", none), "begun", "begun", defArgs s_begun, defBody s_begun, defScope s_begun, [], []⟩
def d_counted : He.DefD := ⟨("counted", none), "counted", "counted", defArgs s_counted, defBody s_counted, defScope s_counted, [], []⟩
def d_piled : He.DefD := ⟨("piled", none), "piled", "piled", defArgs s_piled, defBody s_piled, defScope s_piled, [], []⟩
def d_queued : He.DefD := ⟨("queued", none), "queued", "queued", defArgs s_queued, defBody s_queued, defScope s_queued, [], []⟩
def d_tabled : He.DefD := ⟨("tabled", none), "tabled", "tabled", defArgs s_tabled, defBody s_tabled, defScope s_tabled, [], []⟩
def d_done : He.DefD := ⟨("done", none), "done", "done", defArgs s_done, defBody s_done, defScope s_done, [], []⟩
def d_wishes_in : He.DefD := ⟨("wishes_in", none), "wishes_in", "wishes_in", defArgs s_wishes_in, defBody s_wishes_in, defScope s_wishes_in, [], []⟩
def d_is_same : He.DefD := ⟨("is_same", none), "is_same", "is_same", defArgs s_is_same, defBody s_is_same, defScope s_is_same, [], []⟩
def d_first_spot : He.DefD := ⟨("first_spot", none), "first_spot", "first_spot", defArgs s_first_spot, defBody s_first_spot, defScope s_first_spot, [], []⟩
def d_Tale_init : He.DefD := ⟨("Tale", some "__init__"), "__init__", "Tale.__init__", defArgs s_Tale_init, defBody s_Tale_init, defScope s_Tale_init, [], []⟩
def d_Tale_is_all : He.DefD := ⟨("Tale", some "is_all"), "is_all", "Tale.is_all", defArgs s_Tale_is_all, defBody s_Tale_is_all, defScope s_Tale_is_all, [], []⟩
def d_Tale_behind : He.DefD := ⟨("Tale", some "behind"), "behind", "Tale.behind", defArgs s_Tale_behind, defBody s_Tale_behind, defScope s_Tale_behind, [], []⟩
def d_Tale_is_spot : He.DefD := ⟨("Tale", some "is_spot"), "is_spot", "Tale.is_spot", defArgs s_Tale_is_spot, defBody s_Tale_is_spot, defScope s_Tale_is_spot, [], []⟩
def d_shows_unlined : He.DefD := ⟨("shows_unlined", none), "shows_unlined", "shows_unlined", defArgs s_shows_unlined, defBody s_shows_unlined, defScope s_shows_unlined, [], [("first", .non)]⟩
def d_shows_order : He.DefD := ⟨("shows_order", none), "shows_order", "shows_order", defArgs s_shows_order, defBody s_shows_order, defScope s_shows_order, [], [("first", .non)]⟩
def d_law_cells : He.DefD := ⟨("_law_cells", none), "_law_cells", "_law_cells", defArgs s_law_cells, defBody s_law_cells, defScope s_law_cells, [], []⟩
def d_law_box : He.DefD := ⟨("_law_box", none), "_law_box", "_law_box", defArgs s_law_box, defBody s_law_box, defScope s_law_box, [], []⟩
def d_law_take : He.DefD := ⟨("_law_take", none), "_law_take", "_law_take", defArgs s_law_take, defBody s_law_take, defScope s_law_take, [], []⟩
def d_law_one_of : He.DefD := ⟨("_law_one_of", none), "_law_one_of", "_law_one_of", defArgs s_law_one_of, defBody s_law_one_of, defScope s_law_one_of, [], []⟩
def d_law_number : He.DefD := ⟨("_law_number", none), "_law_number", "_law_number", defArgs s_law_number, defBody s_law_number, defScope s_law_number, [], []⟩
def d_law_keys : He.DefD := ⟨("_law_keys", none), "_law_keys", "_law_keys", defArgs s_law_keys, defBody s_law_keys, defScope s_law_keys, [], []⟩
def d_law_wish : He.DefD := ⟨("_law_wish", none), "_law_wish", "_law_wish", defArgs s_law_wish, defBody s_law_wish, defScope s_law_wish, [], []⟩
def d_law_origin : He.DefD := ⟨("_law_origin", none), "_law_origin", "_law_origin", defArgs s_law_origin, defBody s_law_origin, defScope s_law_origin, [], []⟩
def d_law_did : He.DefD := ⟨("_law_did", none), "_law_did", "_law_did", defArgs s_law_did, defBody s_law_did, defScope s_law_did, [], []⟩
def d_law_tale : He.DefD := ⟨("_law_tale", none), "_law_tale", "_law_tale", defArgs s_law_tale, defBody s_law_tale, defScope s_law_tale, [], []⟩
def d_law_rows : He.DefD := ⟨("_law_rows", none), "_law_rows", "_law_rows", defArgs s_law_rows, defBody s_law_rows, defScope s_law_rows, [], []⟩
def d_law_ahead : He.DefD := ⟨("_law_ahead", none), "_law_ahead", "_law_ahead", defArgs s_law_ahead, defBody s_law_ahead, defScope s_law_ahead, [], []⟩
def d_law_fits : He.DefD := ⟨("_law_fits", none), "_law_fits", "_law_fits", defArgs s_law_fits, defBody s_law_fits, defScope s_law_fits, [], []⟩
def d_law_after : He.DefD := ⟨("_law_after", none), "_law_after", "_law_after", defArgs s_law_after, defBody s_law_after, defScope s_law_after, [], []⟩
def d_law_is_all : He.DefD := ⟨("_law_is_all", none), "_law_is_all", "_law_is_all", defArgs s_law_is_all, defBody s_law_is_all, defScope s_law_is_all, [], []⟩
def d_law_is_order : He.DefD := ⟨("_law_is_order", none), "_law_is_order", "_law_is_order", defArgs s_law_is_order, defBody s_law_is_order, defScope s_law_is_order, [], []⟩
def d_law_other_answer : He.DefD := ⟨("_law_other_answer", none), "_law_other_answer", "_law_other_answer", defArgs s_law_other_answer, defBody s_law_other_answer, defScope s_law_other_answer, [], []⟩
def d_law_bent : He.DefD := ⟨("_law_bent", none), "_law_bent", "_law_bent", defArgs s_law_bent, defBody s_law_bent, defScope s_law_bent, [], []⟩
def d_law_is_spot : He.DefD := ⟨("_law_is_spot", none), "_law_is_spot", "_law_is_spot", defArgs s_law_is_spot, defBody s_law_is_spot, defScope s_law_is_spot, [], []⟩
def d_law_is_number : He.DefD := ⟨("_law_is_number", none), "_law_is_number", "_law_is_number", defArgs s_law_is_number, defBody s_law_is_number, defScope s_law_is_number, [], []⟩
def d_law_is_name : He.DefD := ⟨("_law_is_name", none), "_law_is_name", "_law_is_name", defArgs s_law_is_name, defBody s_law_is_name, defScope s_law_is_name, [], []⟩
def d_law_is_state : He.DefD := ⟨("_law_is_state", none), "_law_is_state", "_law_is_state", defArgs s_law_is_state, defBody s_law_is_state, defScope s_law_is_state, [], []⟩
def d_law_is_unlined : He.DefD := ⟨("_law_is_unlined", none), "_law_is_unlined", "_law_is_unlined", defArgs s_law_is_unlined, defBody s_law_is_unlined, defScope s_law_is_unlined, [], []⟩
def d_law_closed : He.DefD := ⟨("_law_closed", none), "_law_closed", "_law_closed", defArgs s_law_closed, defBody s_law_closed, defScope s_law_closed, [], []⟩
def d_law_odd : He.DefD := ⟨("_law_odd", none), "_law_odd", "_law_odd", defArgs s_law_odd, defBody s_law_odd, defScope s_law_odd, [], []⟩
def d_law_state_bent : He.DefD := ⟨("_law_state_bent", none), "_law_state_bent", "_law_state_bent", defArgs s_law_state_bent, defBody s_law_state_bent, defScope s_law_state_bent, [], []⟩
def d_law_counts_bent : He.DefD := ⟨("_law_counts_bent", none), "_law_counts_bent", "_law_counts_bent", defArgs s_law_counts_bent, defBody s_law_counts_bent, defScope s_law_counts_bent, [], []⟩
def d_law_unlined_bent : He.DefD := ⟨("_law_unlined_bent", none), "_law_unlined_bent", "_law_unlined_bent", defArgs s_law_unlined_bent, defBody s_law_unlined_bent, defScope s_law_unlined_bent, [], []⟩
def d_law_row_bent : He.DefD := ⟨("_law_row_bent", none), "_law_row_bent", "_law_row_bent", defArgs s_law_row_bent, defBody s_law_row_bent, defScope s_law_row_bent, [], []⟩
def d_law_things : He.DefD := ⟨("_law_things", none), "_law_things", "_law_things", defArgs s_law_things, defBody s_law_things, defScope s_law_things, [], []⟩
def d_law_right : He.DefD := ⟨("_law_right", none), "_law_right", "_law_right", defArgs s_law_right, defBody s_law_right, defScope s_law_right, [], []⟩
def d_law_two_sorts : He.DefD := ⟨("_law_two_sorts", none), "_law_two_sorts", "_law_two_sorts", defArgs s_law_two_sorts, defBody s_law_two_sorts, defScope s_law_two_sorts, [], []⟩
def d_law : He.DefD := ⟨("law", none), "law", "law", defArgs s_law, defBody s_law, defScope s_law, [], []⟩
def fnL : List He.DefD := [d_is_number, d_is_below, d_is_name, d_is_tuple_of, d_is_row, d_is_state, d_begun, d_counted, d_piled, d_queued, d_tabled, d_done, d_wishes_in, d_is_same, d_first_spot, d_Tale_init, d_Tale_is_all, d_Tale_behind, d_Tale_is_spot, d_shows_unlined, d_shows_order, d_law_cells, d_law_box, d_law_take, d_law_one_of, d_law_number, d_law_keys, d_law_wish, d_law_origin, d_law_did, d_law_tale, d_law_rows, d_law_ahead, d_law_fits, d_law_after, d_law_is_all, d_law_is_order, d_law_other_answer, d_law_bent, d_law_is_spot, d_law_is_number, d_law_is_name, d_law_is_state, d_law_is_unlined, d_law_closed, d_law_odd, d_law_state_bent, d_law_counts_bent, d_law_unlined_bent, d_law_row_bent, d_law_things, d_law_right, d_law_two_sorts, d_law]
def faL : List He.Fa := [.glo "is_number", .glo "is_below", .glo "is_name", .glo "is_tuple_of", .glo "is_row", .glo "is_state", .glo "begun", .glo "counted", .glo "piled", .glo "queued", .glo "tabled", .glo "done", .glo "wishes_in", .glo "is_same", .glo "first_spot", .glo "shows_unlined", .glo "shows_order", .glo "_law_cells", .glo "_law_box", .glo "_law_take", .glo "_law_one_of", .glo "_law_number", .glo "_law_keys", .glo "_law_wish", .glo "_law_origin", .glo "_law_did", .glo "_law_tale", .glo "_law_rows", .glo "_law_ahead", .glo "_law_fits", .glo "_law_after", .glo "_law_is_all", .glo "_law_is_order", .glo "_law_other_answer", .glo "_law_bent", .glo "_law_is_spot", .glo "_law_is_number", .glo "_law_is_name", .glo "_law_is_state", .glo "_law_is_unlined", .glo "_law_closed", .glo "_law_odd", .glo "_law_state_bent", .glo "_law_counts_bent", .glo "_law_unlined_bent", .glo "_law_row_bent", .glo "_law_things", .glo "_law_right", .glo "_law_two_sorts", .glo "law", .str "COUNTER" "counter", .str "PILE" "pile", .str "QUEUE" "queue", .str "TABLE" "table", .str "SMALL_SIGNS" "abcdefghijklmnopqrstuvwxyz", .int "MOST_SIGNS" 8, .str "ADD" "add", .str "LIFT" "lift", .str "PUT" "put", .str "SET" "set", .str "DROP" "drop", .glo "DOERS", .str "BEGIN" "begin", .glo "Tale", .cls "Tale", .mkr "Tale", .meth "Tale" "is_all", .meth "Tale" "behind", .meth "Tale" "is_spot", .noat "Tale" "kind", .noat "Tale" "rows", .noat "Tale" "said", .noat "Tale" "ended", .noat "Tale" "aheads", .free "isinstance", .free "int", .free "bool", .free "str", .free "tuple", .free "list", .free "len", .free "all", .free "any", .free "zip", .free "dict", .free "sorted", .free "max", .free "abs", .free "divmod", .free "range", .free "enumerate", .free "repr", .free "set"]
def tsL : List He.Tab := [(fun K => He.ga K "DOERS", ["counter", "pile", "queue", "table"])]
def exL (K : PySem.W.Frag) : Bool := He.valsB K (He.ga K "DOERS") [("counter", .glo "counted"), ("pile", .glo "piled"), ("queue", .glo "queued"), ("table", .glo "tabled")]
def lo1 : List PySem.Str := ["COUNTER", "PILE", "QUEUE", "TABLE", "SMALL_SIGNS", "MOST_SIGNS", "is_number", "is_below", "is_name", "is_tuple_of", "ADD", "LIFT", "PUT", "SET", "DROP", "is_row", "is_state", "begun", "counted", "piled"]
def lo2 : List PySem.Str := ["queued", "tabled", "DOERS", "done", "BEGIN", "wishes_in", "is_same", "first_spot", "Tale", "shows_unlined", "shows_order", "_law_cells", "_law_box", "_law_take", "_law_one_of", "_law_number", "_law_keys", "_law_wish", "_law_origin", "_law_did"]
def lo3 : List PySem.Str := ["_law_tale", "_law_rows", "_law_ahead", "_law_fits", "_law_after", "_law_is_all", "_law_is_order", "_law_other_answer", "_law_bent", "_law_is_spot", "_law_is_number", "_law_is_name", "_law_is_state", "_law_is_unlined", "_law_closed", "_law_odd", "_law_state_bent", "_law_counts_bent", "_law_unlined_bent", "_law_row_bent"]
def lo4 : List PySem.Str := ["_law_things", "_law_right", "_law_two_sorts"]
def loL : List PySem.Str := lo1 ++ (lo2 ++ (lo3 ++ lo4))
abbrev RW : PySem.W.OpenRow := PySem.W.OpenLaw.row PySem.Challenge.rw_wishlane_k69_whole_papers_spoilt_anywher
abbrev hk : PySem.W.Hook := He.hookX 4 faL fnL tsL [] exL
def ob (s : PySem.W.SharedT) : He.AlX := He.obsX 4 faL fnL tsL [] exL (HandSHeadRun.getT s)
theorem ob_eq (s : PySem.W.SharedT) : ob s = hk.obs s.abs := He.obsX_eq (HandSHeadRun.getT_eq s)
theorem run0 (w : World) : HandSHeadRun.RunEq RW (PySem.W.view RW.prog [70]) hk ob 3000 loL (w.withFollow "special-get-raises" false) := by
  intro os
  kernel_rfl
theorem run1 (w : World) : HandSHeadRun.RunEq RW (PySem.W.view RW.prog [70]) hk ob 3000 loL (w.withFollow "special-get-raises" true) := by
  intro os
  kernel_rfl
theorem run (w : World) : HandSHeadRun.RunEq RW (PySem.W.view RW.prog [70]) hk ob 3000 loL w :=
  PySem.W.byRow2 "special-get-raises" (P := fun w => HandSHeadRun.RunEq RW (PySem.W.view RW.prog [70]) hk ob 3000 loL w) run0 run1 w
end WL
set_option Elab.async false
set_option linter.all false
set_option maxRecDepth 100000
set_option maxHeartbeats 4000000
/-! what stands behind the top, by names -/
namespace DL
open PySem PySem.Spec L2
section
variable {X : Cx} {pos : Pos} {j k : Nat} {x m : Str} {ps : List Str} {s : SpD} {e o : Expr} {es : List Expr} {fa : TDa} {fo f : TD}
theorem de_gstrE {z : Str} (hg : Gl X x) (hm : ∃ t, X.mg x = some (.str z t)) (hd : (x == ("__debug__" : Str)) = false := by decide) : DE X (.Name x pos) (dC (.dat (.str z))) := hm.elim fun t hm => de_gstr hg hm hd
theorem de_gintE {z : Int} (hg : Gl X x) (hm : ∃ t, X.mg x = some (.int z t)) (hd : (x == ("__debug__" : Str)) = false := by decide) : DE X (.Name x pos) (dC (.dat (.int z))) := hm.elim fun t hm => de_gint hg hm hd
@[simp] def dNeg (f : TD) : TD := fun n ρ P => f n ρ fun x m => ∃ i, x = .dat (.int i) ∧ P (.dat (.int (-i))) m
theorem de_neg (h : DE X e f) : DE X (.UnaryOp .USub e pos) (dNeg f) := by
  obtain ⟨t, p, h1⟩ := h
  refine ⟨_, pe_un un_neg p, fun g F H n σ ρ P Q hw k hh q => ?_⟩
  refine h1 g F H n σ ρ _ _ hw k hh fun v F1 H1 m x s1 b1 r1 hx => ?_
  obtain ⟨i, rfl, hP⟩ := hx
  obtain rfl := dq_int r1
  exact ⟨i, rfl, q _ F1 H1 m (.dat (.int (-i))) s1 b1 (Dq.int _) hP⟩
/-- a def as it stands -/
structure Def (P : Program) (w : World) (K : PySem.W.Frag) (mg : Str → Option Value) (base : Heap) (k : Nat) (x : Str) (ps : List Str) (s : SpD) : Prop where
  ex : ∃ fd, FnOk P w K mg base CX0 k (He.ga K x) fd ps (spD ⟨w, K⟩ s) ∧ Binds K fd ps []
  at_ : mg x = some (.ref (He.ga K x))
  kp : PySem.W.keepIn K (.ref (He.ga K x)) = true
theorem de_callD (D : Def X.prog X.w X.K X.mg X.base j x ps s) (hr : Room k X.A) (ha : DA X (e :: es) fa) (hg : Gl X x := by rfl) (hj : j ≤ k := by first | assumption | decide)
    (hdb : (x == ("__debug__" : Str)) = false := by decide) (he : starEach (e :: es) X.env = (false, eval e X.env) :: starEach es X.env := by rfl) (hpl : (backTo pos (starEach es X.env)).any (·.1) = false := by rfl) {p : Pos} :
    DE X (.Call (.Name x p) (e :: es) [] pos) (dCall s fa) := by
  obtain ⟨fd, F, b⟩ := D.ex
  exact de_call F (hr.mono hj) hg D.at_ D.kp b ha hdb he hpl
/-- a method as it stands -/
structure MDef (P : Program) (w : World) (K : PySem.W.Frag) (mg : Str → Option Value) (base : Heap) (k : Nat) (C : Addr) (m : Str) (ps : List Str) (s : SpD) : Prop where
  ex : ∃ fd, FnOk P w K mg base CX0 k (He.ma K C m) fd ps (spD ⟨w, K⟩ s) ∧ Binds K fd ps []
  cls : Cls K C
  met : Meth K C m (He.ma K C m)
theorem de_methD {apos : Pos} {C : Addr} (ho : DE X o fo) (D : MDef X.prog X.w X.K X.mg X.base j C m ps s) (hr : Room k X.A) (ha : DA X (e :: es) fa) (hj : j ≤ k := by first | assumption | decide) {pl : Sem Bool}
    (hst : starEach (e :: es) X.env = (false, eval e X.env) :: starEach es X.env := by rfl) (hpl : (backTo pos (starEach es X.env)).any (·.1) = false := by rfl)
    (ht : eval (.Call (.Attribute o m apos) (e :: es) [] pos) X.env = (do
      let ov ← eval o X.env
      standAt apos.atName
      let (f, first) ← holding [ov] (getMethod ov m pl)
      callWith pos f first (backTo pos (starEach (e :: es) X.env)) (backToKw pos (keywordEach [] X.env))) := by rfl) :
    DE X (.Call (.Attribute o m apos) (e :: es) [] pos) (dMeth C m s fo fa) := by
  obtain ⟨fd, F, b⟩ := D.ex
  exact de_meth ho D.cls D.met F (hr.mono hj) b ha hst hpl ht
/-- a field of an instance -/
@[simp] def dFld2 (C : Addr) (m : Str) (fo : TD) : TD := fun n ρ P => fo n ρ fun x k => ∃ fs d, x = .ins C fs ∧ fs.lookup m = some d ∧ P (.dat d) k
theorem de_fld {C : Addr} (ho : DE X e fo) (c : Cls X.K C) (hn : NoAttr X.K C m) (hb : attributeBase e m X.env (eval e X.env) = eval e X.env := by rfl) : DE X (.Attribute e m pos) (dFld2 C m fo) := by
  obtain ⟨t, p, h1⟩ := ho
  refine ⟨_, pe_fld p hb, fun g F H n σ ρ P Q hw k hh q => ?_⟩
  refine h1 g F H n σ ρ _ _ hw k hh fun v F1 H1 m' x s1 b1 r1 hx => ?_
  obtain ⟨fs, d, rfl, hl, hP⟩ := hx
  obtain ⟨a, dx, vs, rfl, ha, hfd⟩ := r1
  obtain ⟨v, e1, rv⟩ := fd_some hfd hl
  exact ⟨a, C, dx, vs, v, rfl, s1.fr _ _ ha, c, hn, e1, q _ F1 H1 m' (.dat d) s1 b1 rv hP⟩
end
end DL
namespace WL
open PySem PySem.Spec PyProof.Rows L2 DL
structure Bn (K : PySem.W.Frag) (mg : Str → Option Value) : Prop where
  ex : ∃ h : Heap, K.In h ∧ h.Ns mainGlobals mg
  says : He.SaysD faL fnL K
  more : exL K = true
namespace Bn
variable {K : PySem.W.Frag} {mg : Str → Option Value} (B : Bn K mg)
include B
theorem g_is_number : mg "is_number" = some (.ref (He.ga K "is_number")) := let ⟨_, X, G⟩ := B.ex; He.glo_ok X G (B.says.fact 0 (f := .glo "is_number") rfl)
theorem g_is_below : mg "is_below" = some (.ref (He.ga K "is_below")) := let ⟨_, X, G⟩ := B.ex; He.glo_ok X G (B.says.fact 1 (f := .glo "is_below") rfl)
theorem g_is_name : mg "is_name" = some (.ref (He.ga K "is_name")) := let ⟨_, X, G⟩ := B.ex; He.glo_ok X G (B.says.fact 2 (f := .glo "is_name") rfl)
theorem g_is_tuple_of : mg "is_tuple_of" = some (.ref (He.ga K "is_tuple_of")) := let ⟨_, X, G⟩ := B.ex; He.glo_ok X G (B.says.fact 3 (f := .glo "is_tuple_of") rfl)
theorem g_is_row : mg "is_row" = some (.ref (He.ga K "is_row")) := let ⟨_, X, G⟩ := B.ex; He.glo_ok X G (B.says.fact 4 (f := .glo "is_row") rfl)
theorem g_is_state : mg "is_state" = some (.ref (He.ga K "is_state")) := let ⟨_, X, G⟩ := B.ex; He.glo_ok X G (B.says.fact 5 (f := .glo "is_state") rfl)
theorem g_begun : mg "begun" = some (.ref (He.ga K "begun")) := let ⟨_, X, G⟩ := B.ex; He.glo_ok X G (B.says.fact 6 (f := .glo "begun") rfl)
theorem g_counted : mg "counted" = some (.ref (He.ga K "counted")) := let ⟨_, X, G⟩ := B.ex; He.glo_ok X G (B.says.fact 7 (f := .glo "counted") rfl)
theorem g_piled : mg "piled" = some (.ref (He.ga K "piled")) := let ⟨_, X, G⟩ := B.ex; He.glo_ok X G (B.says.fact 8 (f := .glo "piled") rfl)
theorem g_queued : mg "queued" = some (.ref (He.ga K "queued")) := let ⟨_, X, G⟩ := B.ex; He.glo_ok X G (B.says.fact 9 (f := .glo "queued") rfl)
theorem g_tabled : mg "tabled" = some (.ref (He.ga K "tabled")) := let ⟨_, X, G⟩ := B.ex; He.glo_ok X G (B.says.fact 10 (f := .glo "tabled") rfl)
theorem g_done : mg "done" = some (.ref (He.ga K "done")) := let ⟨_, X, G⟩ := B.ex; He.glo_ok X G (B.says.fact 11 (f := .glo "done") rfl)
theorem g_wishes_in : mg "wishes_in" = some (.ref (He.ga K "wishes_in")) := let ⟨_, X, G⟩ := B.ex; He.glo_ok X G (B.says.fact 12 (f := .glo "wishes_in") rfl)
theorem g_is_same : mg "is_same" = some (.ref (He.ga K "is_same")) := let ⟨_, X, G⟩ := B.ex; He.glo_ok X G (B.says.fact 13 (f := .glo "is_same") rfl)
theorem g_first_spot : mg "first_spot" = some (.ref (He.ga K "first_spot")) := let ⟨_, X, G⟩ := B.ex; He.glo_ok X G (B.says.fact 14 (f := .glo "first_spot") rfl)
theorem g_shows_unlined : mg "shows_unlined" = some (.ref (He.ga K "shows_unlined")) := let ⟨_, X, G⟩ := B.ex; He.glo_ok X G (B.says.fact 15 (f := .glo "shows_unlined") rfl)
theorem g_shows_order : mg "shows_order" = some (.ref (He.ga K "shows_order")) := let ⟨_, X, G⟩ := B.ex; He.glo_ok X G (B.says.fact 16 (f := .glo "shows_order") rfl)
theorem g_law_cells : mg "_law_cells" = some (.ref (He.ga K "_law_cells")) := let ⟨_, X, G⟩ := B.ex; He.glo_ok X G (B.says.fact 17 (f := .glo "_law_cells") rfl)
theorem g_law_box : mg "_law_box" = some (.ref (He.ga K "_law_box")) := let ⟨_, X, G⟩ := B.ex; He.glo_ok X G (B.says.fact 18 (f := .glo "_law_box") rfl)
theorem g_law_take : mg "_law_take" = some (.ref (He.ga K "_law_take")) := let ⟨_, X, G⟩ := B.ex; He.glo_ok X G (B.says.fact 19 (f := .glo "_law_take") rfl)
theorem g_law_one_of : mg "_law_one_of" = some (.ref (He.ga K "_law_one_of")) := let ⟨_, X, G⟩ := B.ex; He.glo_ok X G (B.says.fact 20 (f := .glo "_law_one_of") rfl)
theorem g_law_number : mg "_law_number" = some (.ref (He.ga K "_law_number")) := let ⟨_, X, G⟩ := B.ex; He.glo_ok X G (B.says.fact 21 (f := .glo "_law_number") rfl)
theorem g_law_keys : mg "_law_keys" = some (.ref (He.ga K "_law_keys")) := let ⟨_, X, G⟩ := B.ex; He.glo_ok X G (B.says.fact 22 (f := .glo "_law_keys") rfl)
theorem g_law_wish : mg "_law_wish" = some (.ref (He.ga K "_law_wish")) := let ⟨_, X, G⟩ := B.ex; He.glo_ok X G (B.says.fact 23 (f := .glo "_law_wish") rfl)
theorem g_law_origin : mg "_law_origin" = some (.ref (He.ga K "_law_origin")) := let ⟨_, X, G⟩ := B.ex; He.glo_ok X G (B.says.fact 24 (f := .glo "_law_origin") rfl)
theorem g_law_did : mg "_law_did" = some (.ref (He.ga K "_law_did")) := let ⟨_, X, G⟩ := B.ex; He.glo_ok X G (B.says.fact 25 (f := .glo "_law_did") rfl)
theorem g_law_tale : mg "_law_tale" = some (.ref (He.ga K "_law_tale")) := let ⟨_, X, G⟩ := B.ex; He.glo_ok X G (B.says.fact 26 (f := .glo "_law_tale") rfl)
theorem g_law_rows : mg "_law_rows" = some (.ref (He.ga K "_law_rows")) := let ⟨_, X, G⟩ := B.ex; He.glo_ok X G (B.says.fact 27 (f := .glo "_law_rows") rfl)
theorem g_law_ahead : mg "_law_ahead" = some (.ref (He.ga K "_law_ahead")) := let ⟨_, X, G⟩ := B.ex; He.glo_ok X G (B.says.fact 28 (f := .glo "_law_ahead") rfl)
theorem g_law_fits : mg "_law_fits" = some (.ref (He.ga K "_law_fits")) := let ⟨_, X, G⟩ := B.ex; He.glo_ok X G (B.says.fact 29 (f := .glo "_law_fits") rfl)
theorem g_law_after : mg "_law_after" = some (.ref (He.ga K "_law_after")) := let ⟨_, X, G⟩ := B.ex; He.glo_ok X G (B.says.fact 30 (f := .glo "_law_after") rfl)
theorem g_law_is_all : mg "_law_is_all" = some (.ref (He.ga K "_law_is_all")) := let ⟨_, X, G⟩ := B.ex; He.glo_ok X G (B.says.fact 31 (f := .glo "_law_is_all") rfl)
theorem g_law_is_order : mg "_law_is_order" = some (.ref (He.ga K "_law_is_order")) := let ⟨_, X, G⟩ := B.ex; He.glo_ok X G (B.says.fact 32 (f := .glo "_law_is_order") rfl)
theorem g_law_other_answer : mg "_law_other_answer" = some (.ref (He.ga K "_law_other_answer")) := let ⟨_, X, G⟩ := B.ex; He.glo_ok X G (B.says.fact 33 (f := .glo "_law_other_answer") rfl)
theorem g_law_bent : mg "_law_bent" = some (.ref (He.ga K "_law_bent")) := let ⟨_, X, G⟩ := B.ex; He.glo_ok X G (B.says.fact 34 (f := .glo "_law_bent") rfl)
theorem g_law_is_spot : mg "_law_is_spot" = some (.ref (He.ga K "_law_is_spot")) := let ⟨_, X, G⟩ := B.ex; He.glo_ok X G (B.says.fact 35 (f := .glo "_law_is_spot") rfl)
theorem g_law_is_number : mg "_law_is_number" = some (.ref (He.ga K "_law_is_number")) := let ⟨_, X, G⟩ := B.ex; He.glo_ok X G (B.says.fact 36 (f := .glo "_law_is_number") rfl)
theorem g_law_is_name : mg "_law_is_name" = some (.ref (He.ga K "_law_is_name")) := let ⟨_, X, G⟩ := B.ex; He.glo_ok X G (B.says.fact 37 (f := .glo "_law_is_name") rfl)
theorem g_law_is_state : mg "_law_is_state" = some (.ref (He.ga K "_law_is_state")) := let ⟨_, X, G⟩ := B.ex; He.glo_ok X G (B.says.fact 38 (f := .glo "_law_is_state") rfl)
theorem g_law_is_unlined : mg "_law_is_unlined" = some (.ref (He.ga K "_law_is_unlined")) := let ⟨_, X, G⟩ := B.ex; He.glo_ok X G (B.says.fact 39 (f := .glo "_law_is_unlined") rfl)
theorem g_law_closed : mg "_law_closed" = some (.ref (He.ga K "_law_closed")) := let ⟨_, X, G⟩ := B.ex; He.glo_ok X G (B.says.fact 40 (f := .glo "_law_closed") rfl)
theorem g_law_odd : mg "_law_odd" = some (.ref (He.ga K "_law_odd")) := let ⟨_, X, G⟩ := B.ex; He.glo_ok X G (B.says.fact 41 (f := .glo "_law_odd") rfl)
theorem g_law_state_bent : mg "_law_state_bent" = some (.ref (He.ga K "_law_state_bent")) := let ⟨_, X, G⟩ := B.ex; He.glo_ok X G (B.says.fact 42 (f := .glo "_law_state_bent") rfl)
theorem g_law_counts_bent : mg "_law_counts_bent" = some (.ref (He.ga K "_law_counts_bent")) := let ⟨_, X, G⟩ := B.ex; He.glo_ok X G (B.says.fact 43 (f := .glo "_law_counts_bent") rfl)
theorem g_law_unlined_bent : mg "_law_unlined_bent" = some (.ref (He.ga K "_law_unlined_bent")) := let ⟨_, X, G⟩ := B.ex; He.glo_ok X G (B.says.fact 44 (f := .glo "_law_unlined_bent") rfl)
theorem g_law_row_bent : mg "_law_row_bent" = some (.ref (He.ga K "_law_row_bent")) := let ⟨_, X, G⟩ := B.ex; He.glo_ok X G (B.says.fact 45 (f := .glo "_law_row_bent") rfl)
theorem g_law_things : mg "_law_things" = some (.ref (He.ga K "_law_things")) := let ⟨_, X, G⟩ := B.ex; He.glo_ok X G (B.says.fact 46 (f := .glo "_law_things") rfl)
theorem g_law_right : mg "_law_right" = some (.ref (He.ga K "_law_right")) := let ⟨_, X, G⟩ := B.ex; He.glo_ok X G (B.says.fact 47 (f := .glo "_law_right") rfl)
theorem g_law_two_sorts : mg "_law_two_sorts" = some (.ref (He.ga K "_law_two_sorts")) := let ⟨_, X, G⟩ := B.ex; He.glo_ok X G (B.says.fact 48 (f := .glo "_law_two_sorts") rfl)
theorem g_law : mg "law" = some (.ref (He.ga K "law")) := let ⟨_, X, G⟩ := B.ex; He.glo_ok X G (B.says.fact 49 (f := .glo "law") rfl)
theorem s_COUNTER : ∃ t, mg "COUNTER" = some (.str "counter" t) := let ⟨_, X, G⟩ := B.ex; He.str_ok X G (B.says.fact 50 (f := .str "COUNTER" "counter") rfl)
theorem s_PILE : ∃ t, mg "PILE" = some (.str "pile" t) := let ⟨_, X, G⟩ := B.ex; He.str_ok X G (B.says.fact 51 (f := .str "PILE" "pile") rfl)
theorem s_QUEUE : ∃ t, mg "QUEUE" = some (.str "queue" t) := let ⟨_, X, G⟩ := B.ex; He.str_ok X G (B.says.fact 52 (f := .str "QUEUE" "queue") rfl)
theorem s_TABLE : ∃ t, mg "TABLE" = some (.str "table" t) := let ⟨_, X, G⟩ := B.ex; He.str_ok X G (B.says.fact 53 (f := .str "TABLE" "table") rfl)
theorem s_SMALL_SIGNS : ∃ t, mg "SMALL_SIGNS" = some (.str "abcdefghijklmnopqrstuvwxyz" t) := let ⟨_, X, G⟩ := B.ex; He.str_ok X G (B.says.fact 54 (f := .str "SMALL_SIGNS" "abcdefghijklmnopqrstuvwxyz") rfl)
theorem i_MOST_SIGNS : ∃ t, mg "MOST_SIGNS" = some (.int 8 t) := let ⟨_, X, G⟩ := B.ex; He.int_ok X G (B.says.fact 55 (f := .int "MOST_SIGNS" 8) rfl)
theorem s_ADD : ∃ t, mg "ADD" = some (.str "add" t) := let ⟨_, X, G⟩ := B.ex; He.str_ok X G (B.says.fact 56 (f := .str "ADD" "add") rfl)
theorem s_LIFT : ∃ t, mg "LIFT" = some (.str "lift" t) := let ⟨_, X, G⟩ := B.ex; He.str_ok X G (B.says.fact 57 (f := .str "LIFT" "lift") rfl)
theorem s_PUT : ∃ t, mg "PUT" = some (.str "put" t) := let ⟨_, X, G⟩ := B.ex; He.str_ok X G (B.says.fact 58 (f := .str "PUT" "put") rfl)
theorem s_SET : ∃ t, mg "SET" = some (.str "set" t) := let ⟨_, X, G⟩ := B.ex; He.str_ok X G (B.says.fact 59 (f := .str "SET" "set") rfl)
theorem s_DROP : ∃ t, mg "DROP" = some (.str "drop" t) := let ⟨_, X, G⟩ := B.ex; He.str_ok X G (B.says.fact 60 (f := .str "DROP" "drop") rfl)
theorem g_DOERS : mg "DOERS" = some (.ref (He.ga K "DOERS")) := let ⟨_, X, G⟩ := B.ex; He.glo_ok X G (B.says.fact 61 (f := .glo "DOERS") rfl)
theorem s_BEGIN : ∃ t, mg "BEGIN" = some (.str "begin" t) := let ⟨_, X, G⟩ := B.ex; He.str_ok X G (B.says.fact 62 (f := .str "BEGIN" "begin") rfl)
theorem g_Tale : mg "Tale" = some (.ref (He.ga K "Tale")) := let ⟨_, X, G⟩ := B.ex; He.glo_ok X G (B.says.fact 63 (f := .glo "Tale") rfl)
theorem cls : Cls K (He.ga K "Tale") := He.cls_ok (B.says.fact 64 (f := .cls "Tale") rfl)
theorem mkr : Mk K (He.ga K "Tale") (He.ma K (He.ga K "Tale") "__init__") := He.mkr_ok (B.says.fact 65 (f := .mkr "Tale") rfl)
theorem m_is_all : Meth K (He.ga K "Tale") "is_all" (He.ma K (He.ga K "Tale") "is_all") := He.meth_ok (B.says.fact 66 (f := .meth "Tale" "is_all") rfl)
theorem m_behind : Meth K (He.ga K "Tale") "behind" (He.ma K (He.ga K "Tale") "behind") := He.meth_ok (B.says.fact 67 (f := .meth "Tale" "behind") rfl)
theorem m_is_spot : Meth K (He.ga K "Tale") "is_spot" (He.ma K (He.ga K "Tale") "is_spot") := He.meth_ok (B.says.fact 68 (f := .meth "Tale" "is_spot") rfl)
theorem a_kind : NoAttr K (He.ga K "Tale") "kind" := He.noat_ok (B.says.fact 69 (f := .noat "Tale" "kind") rfl)
theorem a_rows : NoAttr K (He.ga K "Tale") "rows" := He.noat_ok (B.says.fact 70 (f := .noat "Tale" "rows") rfl)
theorem a_said : NoAttr K (He.ga K "Tale") "said" := He.noat_ok (B.says.fact 71 (f := .noat "Tale" "said") rfl)
theorem a_ended : NoAttr K (He.ga K "Tale") "ended" := He.noat_ok (B.says.fact 72 (f := .noat "Tale" "ended") rfl)
theorem a_aheads : NoAttr K (He.ga K "Tale") "aheads" := He.noat_ok (B.says.fact 73 (f := .noat "Tale" "aheads") rfl)
theorem n_isinstance : mg "isinstance" = none := let ⟨_, X, G⟩ := B.ex; He.free_ok X G (B.says.fact 74 (f := .free "isinstance") rfl)
theorem n_int : mg "int" = none := let ⟨_, X, G⟩ := B.ex; He.free_ok X G (B.says.fact 75 (f := .free "int") rfl)
theorem n_bool : mg "bool" = none := let ⟨_, X, G⟩ := B.ex; He.free_ok X G (B.says.fact 76 (f := .free "bool") rfl)
theorem n_str : mg "str" = none := let ⟨_, X, G⟩ := B.ex; He.free_ok X G (B.says.fact 77 (f := .free "str") rfl)
theorem n_tuple : mg "tuple" = none := let ⟨_, X, G⟩ := B.ex; He.free_ok X G (B.says.fact 78 (f := .free "tuple") rfl)
theorem n_list : mg "list" = none := let ⟨_, X, G⟩ := B.ex; He.free_ok X G (B.says.fact 79 (f := .free "list") rfl)
theorem n_len : mg "len" = none := let ⟨_, X, G⟩ := B.ex; He.free_ok X G (B.says.fact 80 (f := .free "len") rfl)
theorem n_all : mg "all" = none := let ⟨_, X, G⟩ := B.ex; He.free_ok X G (B.says.fact 81 (f := .free "all") rfl)
theorem n_any : mg "any" = none := let ⟨_, X, G⟩ := B.ex; He.free_ok X G (B.says.fact 82 (f := .free "any") rfl)
theorem n_zip : mg "zip" = none := let ⟨_, X, G⟩ := B.ex; He.free_ok X G (B.says.fact 83 (f := .free "zip") rfl)
theorem n_dict : mg "dict" = none := let ⟨_, X, G⟩ := B.ex; He.free_ok X G (B.says.fact 84 (f := .free "dict") rfl)
theorem n_sorted : mg "sorted" = none := let ⟨_, X, G⟩ := B.ex; He.free_ok X G (B.says.fact 85 (f := .free "sorted") rfl)
theorem n_max : mg "max" = none := let ⟨_, X, G⟩ := B.ex; He.free_ok X G (B.says.fact 86 (f := .free "max") rfl)
theorem n_abs : mg "abs" = none := let ⟨_, X, G⟩ := B.ex; He.free_ok X G (B.says.fact 87 (f := .free "abs") rfl)
theorem n_divmod : mg "divmod" = none := let ⟨_, X, G⟩ := B.ex; He.free_ok X G (B.says.fact 88 (f := .free "divmod") rfl)
theorem n_range : mg "range" = none := let ⟨_, X, G⟩ := B.ex; He.free_ok X G (B.says.fact 89 (f := .free "range") rfl)
theorem n_enumerate : mg "enumerate" = none := let ⟨_, X, G⟩ := B.ex; He.free_ok X G (B.says.fact 90 (f := .free "enumerate") rfl)
theorem n_repr : mg "repr" = none := let ⟨_, X, G⟩ := B.ex; He.free_ok X G (B.says.fact 91 (f := .free "repr") rfl)
theorem n_set : mg "set" = none := let ⟨_, X, G⟩ := B.ex; He.free_ok X G (B.says.fact 92 (f := .free "set") rfl)
end Bn
section
variable {P : Program} {w : World} {K : PySem.W.Frag} {mg : Str → Option Value} {base : Heap}
theorem mkDef (B : Bn K mg) (i : Nat) {x : Str} {s : Stmt} {ps : List Str} {sp : SpD} {k : Nat} (hi : fnL[i]? = some ⟨(x, none), x, x, defArgs s, defBody s, defScope s, [], []⟩) (hm : mg x = some (.ref (He.ga K x)))
    (hb : ∀ fd, FunD K x x (defArgs s) (defBody s) (defScope s) [] [] (He.ga K x) fd → Binds K fd ps []) (h : ∀ fd, FunD K x x (defArgs s) (defBody s) (defScope s) [] [] (He.ga K x) fd → FnOk P w K mg base CX0 k (He.ga K x) fd ps (spD ⟨w, K⟩ sp)) : Def P w K mg base k x ps sp := by
  obtain ⟨fd, F⟩ := B.says.def_ i hi
  exact ⟨⟨fd, h fd F, hb fd F⟩, hm, F.kp⟩
end
end WL
set_option Elab.async false
set_option linter.all false
set_option maxRecDepth 100000
set_option maxHeartbeats 4000000
/-! DL8: what a def owns while it runs. -/
namespace DL
open PySem PySem.Spec L2

theorem RelW.chg {w : Wk} {b : Option Addr} {F H F' H' : Hp} {v : V} {y : W} {p : Addr} (s : Same F F') (hF : ∀ q, q ≠ p → F q = none → F' q = none) (hH : ∀ q, q ≠ p → H' q = H q) (hy : y.own ≠ some p) (r : RelW w b F H v y) : RelW w b F' H' v y := by
  have ne : ∀ q, y.own = some q → q ≠ p := fun q e z => hy (by rw [e, z])
  cases y with
  | dat d => exact dp_mono s _ _ r
  | box => exact r
  | scr ns => obtain ⟨a, h1, h2⟩ := r; exact ⟨a, h1, h2.elim (fun ⟨o, h⟩ => .inl ⟨o, s _ _ h⟩) .inr⟩
  | fn f => exact r
  | ty n => exact r
  | dic kvs => obtain ⟨p, o, vs, h1, h2, h3⟩ := r; exact ⟨p, o, vs, h1, s _ _ h2, kd_mono s h3⟩
  | ins C fs => obtain ⟨p, dx, vs, h1, h2, h3⟩ := r; exact ⟨p, dx, vs, h1, s _ _ h2, fd_mono s h3⟩
  | olst q ds => obtain ⟨h1, n, h2, vs, h3, h4⟩ := r; exact ⟨h1, n, hF q (ne q rfl) h2, vs, (hH q (ne q rfl)).trans h3, dp_monoA s _ _ h4⟩
  | odic q ds => obtain ⟨h1, n, h2, vs, h3, h4⟩ := r; exact ⟨h1, n, hF q (ne q rfl) h2, vs, (hH q (ne q rfl)).trans h3, kd_mono s h4⟩
  | onst q ks => obtain ⟨h1, n, h2, o, es, ep, as, h3, x1, x2, x3, x4, x5, x6, x7⟩ := r; exact ⟨h1, n, hF q (ne q rfl) h2, o, es, ep, as, (hH q (ne q rfl)).trans h3, x1, x2, x3, x4, fun x hx => ⟨dp_mono s _ _ (x5 x hx).1, (x5 x hx).2⟩, x6, x7⟩
  | oins q C fs => obtain ⟨h1, n, h2, dx, vs, h3, h4⟩ := r; exact ⟨h1, n, hF q (ne q rfl) h2, dx, vs, (hH q (ne q rfl)).trans h3, fd_mono s h4⟩

/-- what is owned in slot i is written -/
theorem Ok.wr {g : Fx} {F H F' H' : Hp} {n : Nat} {σ : L2.St} {ρ : Rho} (k : Ok g F H n σ ρ) {i : Nat} {p : Addr} {x x' : W} (e : ρ[i]? = some (some x)) (ho : x.own = some p) (s : Same F F') (hF : ∀ q, q ≠ p → F' q = F q) (hH : ∀ q, q ≠ p → H' q = H q) (hs : Same F' H')
    (r : ∀ v, σ[i]? = some (some v) → RelW g.w g.b F H v x → RelW g.w g.b F' H' v x') (ho' : x'.own = some p ∨ x'.own = none) : Ok g F' H' n σ (ρ.set i (some x')) := by
  obtain ⟨v0, hv0, r0⟩ := k.slot i x e
  obtain ⟨nb, hFp, o0, hHp⟩ := own_at r0 ho
  have h0 := k.own i x p e ho
  have hlt : i < ρ.length := (List.getElem?_eq_some_iff.mp e).1
  have other : ∀ (j : Nat) y, i ≠ j → ρ[j]? = some (some y) → y.own ≠ some p := fun j y hij ej z => hij (k.nod i j x y p e ej ho z)
  refine ⟨⟨k.st.ex.trans s, hs, fun a o ea na => ?_, fun a ea ha => ?_, fun a ea => ?_⟩, fun a ea => ?_, by rw [List.length_set]; exact k.len, fun j y ej => ?_, fun j y q ej hq => ?_, fun j j' y y' q ej ej' hq hq' => ?_⟩
  · have ne : a ≠ p := fun z => by rw [z, h0] at ea; cases ea
    rw [hH a ne]; exact k.st.keep a o ea na
  · by_cases z : a = p
    · rw [z]; exact h0
    · rw [hF a z] at ha; exact k.st.new a ea ha
  · have ne : a ≠ p := fun z => nb (by rw [← z, ea])
    rw [hF a ne]; exact k.st.bx a ea
  · have ne : a ≠ p := fun z => nb (by rw [← z, ea])
    obtain ⟨z1, a1, a2, a3, z2, z3⟩ := k.box a ea
    exact ⟨by rw [hF a ne]; exact z1, a1, a2, a3, by rw [hH a ne]; exact z2, z3⟩
  · rw [List.getElem?_set] at ej
    split at ej
    · rename_i hij
      subst hij
      cases ej
      exact ⟨v0, hv0, r v0 hv0 r0⟩
    · rename_i hij
      obtain ⟨v, h1, h2⟩ := k.slot j y ej
      exact ⟨v, h1, h2.chg s (fun q nq eq => (hF q nq).trans eq) hH (other j y hij ej)⟩
  · rw [List.getElem?_set] at ej
    split at ej
    · cases ej
      rcases ho' with z | z
      · rw [z] at hq; cases hq; exact h0
      · rw [z] at hq; cases hq
    · exact k.own j y q ej hq
  · rw [List.getElem?_set] at ej ej'
    split at ej
    · rename_i h1
      cases ej
      rcases ho' with z | z
      · rw [z] at hq; cases hq
        split at ej'
        · rename_i h2; omega
        · rename_i h2
          exact absurd hq' (other j' y' h2 ej')
      · rw [z] at hq; cases hq
    · rename_i h1
      split at ej'
      · cases ej'
        rcases ho' with z | z
        · rw [z] at hq'; cases hq'
          exact absurd hq (other j y h1 ej)
        · rw [z] at hq'; cases hq'
      · exact k.nod j j' y y' q ej ej' hq hq'
theorem same_upd {F H : Hp} {p : Addr} {o : HO} (hs : Same F H) (hp : F p = none) : Same F (upd H p o) := fun a u e => by rw [upd_ne (ne_of_none e hp)]; exact hs a u e
/-- slot i's object changed, still owned -/
theorem Ok.mut {g : Fx} {F H : Hp} {n : Nat} {σ : L2.St} {ρ : Rho} (k : Ok g F H n σ ρ) {i : Nat} {p : Addr} {o : HO} {x x' : W} (e : ρ[i]? = some (some x)) (ho : x.own = some p) (r : RelW g.w g.b F (upd H p o) (.ref p) x') (hv : ∀ v, RelW g.w g.b F H v x → v = .ref p) (ho' : x'.own = some p) : Ok g F (upd H p o) n σ (ρ.set i (some x')) := by
  obtain ⟨v0, hv0, r0⟩ := k.slot i x e
  obtain ⟨nb, hFp, o0, hHp⟩ := own_at r0 ho
  exact k.wr e ho (Same.refl F) (fun _ _ => rfl) (fun q nq => upd_ne nq) (same_upd k.st.fr hFp) (fun v _ rv => by rw [hv v rv]; exact r) (.inl ho')
theorem upd_id {H : Hp} {p : Addr} {o : HO} (e : H p = some o) : upd H p o = H := by
  funext a
  by_cases z : a = p
  · subst z; rw [upd_same, e]
  · rw [upd_ne z]

/-! ### freezing -/
def frzW : W → Option W
  | .olst _ ds => some (.dat (.list ds))
  | .odic _ kvs => some (.dic kvs)
  | _ => none
/-- slot i's list is frozen from here on -/
@[simp] def dFzL (i : Nat) (f : TSd) : TSd := fun E n ρ => ∃ p ds, ρ[i]? = some (some (.olst p ds)) ∧ f E n (ρ.set i (some (.dat (.list ds))))
@[simp] def dFzK (i : Nat) (f : TSd) : TSd := fun E n ρ => ∃ p ks, ρ[i]? = some (some (.odic p ks)) ∧ f E n (ρ.set i (some (.dic ks)))
section
variable {X : Cx} {st : Stmt} {f : TSd}
theorem ps_frz {t : TS} (h : PS X st t) : PS X st (fun D σ H => ∃ d u, H d = some u ∧ Mut (some u) ∧ ∀ od, t D σ (upd H d (.frz od u))) := by
  refine ⟨fun pins s σ H D I hw => ?_⟩
  obtain ⟨d, u, hd, mu, hw⟩ := hw
  obtain ⟨od, I1⟩ := I.lock hd mu
  exact h.run pins s σ _ _ I1 (hw od)
theorem ds_fzL (i : Nat) (h : DS X st f) : DS X st (dFzL i f) := by
  obtain ⟨t, p, g1⟩ := h
  refine ⟨t, p, fun g F H n σ ρ D E hw k l hh => ?_⟩
  obtain ⟨p, ds, e, hh⟩ := hh
  obtain ⟨v0, hv0, r0⟩ := k.slot i _ e
  obtain ⟨rfl, nb, hFp, vs, hHp, ra⟩ := r0
  have s : Same F (upd F p (.lst vs)) := same_upd (Same.refl F) hFp
  have k' : Ok g (upd F p (.lst vs)) H n σ (ρ.set i (some (.dat (.list ds)))) := k.wr e rfl s (fun q nq => upd_ne nq) (fun _ _ => rfl)
    (fun a o ea => by
      by_cases z : a = p
      · subst z; rw [upd_same] at ea; cases ea; exact hHp
      · rw [upd_ne z] at ea; exact k.st.fr a o ea)
    (fun v hv _ => by rw [hv0] at hv; cases hv; exact Dq.lst upd_same (dp_monoA s _ _ ra)) (.inr rfl)
  exact g1 g _ H n σ _ D E hw k' (l.mono s) hh
theorem ds_fzK (i : Nat) (h : DS X st f) : DS X st (dFzK i f) := by
  obtain ⟨t, p, g1⟩ := h
  refine ⟨_, ps_frz p, fun g F H n σ ρ D E hw k l hh => ?_⟩
  obtain ⟨p, ds, e, hh⟩ := hh
  obtain ⟨v0, hv0, r0⟩ := k.slot i _ e
  obtain ⟨rfl, nb, hFp, vs, hHp, ra⟩ := r0
  refine ⟨p, _, hHp, trivial, fun od => ?_⟩
  have s : Same F (upd F p (.frz od (.dK vs))) := same_upd (Same.refl F) hFp
  have k' : Ok g (upd F p (.frz od (.dK vs))) (upd H p (.frz od (.dK vs))) n σ (ρ.set i (some (.dic ds))) := k.wr e rfl s (fun q nq => upd_ne nq) (fun q nq => upd_ne nq)
    (fun a o ea => by
      by_cases z : a = p
      · subst z; rw [upd_same] at ea ⊢; exact ea
      · rw [upd_ne z] at ea ⊢; exact k.st.fr a o ea)
    (fun v hv _ => by rw [hv0] at hv; cases hv; exact ⟨p, od, vs, rfl, upd_same, kd_mono s ra⟩) (.inr rfl)
  exact g1 g _ _ n σ _ D E hw k' (l.mono s) hh
end

/-! ### values that may be new and owned -/
def GEo (w : Wk) (t : TE) (f : TD) : Prop := ∀ (g : Fx) (F H : Hp) (n : Nat) (σ : L2.St) (ρ : Rho) (P : W → Nat → Prop) (Q : VK), g.w = w → Ok g F H n σ ρ → f n ρ P →
  (∀ v F' H' m x, Step g.b F H F' H' → BoxOk g.b F' H' m → RelW w g.b F' H' v x → (∀ p, x.own = some p → H p = none) → P x m → Q v H') → t σ H Q
def DEo (X : Cx) (e : Expr) (f : TD) : Prop := ∃ t, PE X e t ∧ GEo (wkOf X) t f
def GAo (w : Wk) (t : TA) (f : TDa) : Prop := ∀ (g : Fx) (F H : Hp) (n : Nat) (σ : L2.St) (ρ : Rho) (P : List W → Nat → Prop) (Q : List V → Hp → Prop), g.w = w → Ok g F H n σ ρ → f n ρ P →
  (∀ vs F' H' m xs, Step g.b F H F' H' → BoxOk g.b F' H' m → RelA w g.b F' H' vs xs → (∀ x ∈ xs, ∀ p, x.own = some p → H p = none) → (xs.filterMap W.own).Nodup → P xs m → Q vs H') → t σ H Q
def DAo (X : Cx) (es : List Expr) (f : TDa) : Prop := ∃ t, PA X es t ∧ GAo (wkOf X) t f
@[simp] def dPl (f : TD) : TD := fun n ρ P => f n ρ fun x m => x.own = none ∧ P x m
@[simp] def dNL : TD := fun n _ P => ∀ p, P (.olst p []) n
@[simp] def dNK : TD := fun n _ P => ∀ p, P (.odic p []) n
/-- list(e), owned -/
@[simp] def dOL (fa : TDa) : TD := fun n ρ P => fa n ρ fun xs m => ∃ ds, (xs = [.dat (.list ds)] ∨ xs = [.dat (.tuple ds)]) ∧ ∀ p, P (.olst p ds) m
section
variable {X : Cx} {pos p0 : Pos} {e : Expr} {es : List Expr} {f : TD} {fa : TDa}
theorem deo_pl (h : DE X e f) : DEo X e (dPl f) := by
  obtain ⟨t, p, g1⟩ := h
  refine ⟨t, p, fun g F H n σ ρ P Q hw k hh q => ?_⟩
  exact g1 g F H n σ ρ _ Q hw k hh fun v F' H' m x s b r hx => q v F' H' m x s b r (fun p e => by rw [hx.1] at e; cases e) hx.2
theorem deo_newL : DEo X (.List [] pos) dNL := by
  refine ⟨_, pe_lst pa_nil, fun g F H n σ ρ P Q hw k hh q => ?_⟩
  refine ⟨Nat.zero_le _, fun p hp => ?_⟩
  obtain ⟨s1, b1, hF, hb⟩ := new_step (o := .lst []) k.st.fr k.box hp
  exact q _ F _ n (.olst p []) s1 b1 ⟨rfl, hb, hF, [], upd_same, .nil⟩ (fun p' e => by cases e; exact hp) (hh p)
theorem deo_newK : DEo X (.Dict [] [] pos) dNK := by
  refine ⟨_, pe_dnewK, fun g F H n σ ρ P Q hw k hh q => ?_⟩
  intro p hp
  obtain ⟨s1, b1, hF, hb⟩ := new_step (o := .dK []) k.st.fr k.box hp
  exact q _ F _ n (.odic p []) s1 b1 ⟨rfl, hb, hF, [], upd_same, .nil⟩ (fun p' e => by cases e; exact hp) (hh p)
theorem deo_list {p : Pos} (hg : Gl X "list") (hm : X.mg "list" = none) (h : DA X (e :: es) fa) (he : starEach (e :: es) X.env = (false, eval e X.env) :: starEach es X.env := by rfl) (hpl : (backTo pos (starEach es X.env)).any (·.1) = false := by rfl) : DEo X (.Call (.Name "list" p) (e :: es) [] pos) (dOL fa) := by
  obtain ⟨t, q1, g1⟩ := h
  refine ⟨_, pe_callTy call_list_of hg hm boot_listT q1 (by decide) (by decide) he hpl, fun g F H n σ ρ P Q hw k hh q => ?_⟩
  refine g1 g F H n σ ρ _ _ hw k hh fun vs F1 H1 m xs s1 b1 r1 hx => ?_
  obtain ⟨ds, hx, hP⟩ := hx
  have fin : ∀ (a : Addr) (us : List V), vs = [.ref a] → DqAll F1 us ds → (SqL X.K H1 a us ∨ SqT X.K H1 a us) → rLstC X.K vs H1 Q := fun a us ev ta sq => by
    refine ⟨a, us, ev, sq, fun l hl => ?_⟩
    obtain ⟨s2, b2, hF, hb⟩ := new_step (o := .lst us) s1.fr b1 hl
    refine q _ F1 _ m (.olst l ds) (s1.trans s2) b2 ⟨rfl, hb, hF, us, upd_same, ta⟩ (fun p' e' => ?_) (hP l)
    cases e'
    cases eh : H l with
    | none => rfl
    | some o =>
      by_cases z : some l = g.b
      · exact absurd z hb
      · rw [s1.keep l o eh z] at hl; cases hl
  rcases hx with rfl | rfl
  · obtain ⟨v, rfl, r2⟩ := rel1 r1
    obtain ⟨a, us, rfl, ha, ta⟩ := dq_lst r2
    exact fin a us rfl ta (.inl (SqL.of (s1.fr _ _ ha)))
  · obtain ⟨v, rfl, r2⟩ := rel1 r1
    obtain ⟨a, us, rfl, ha, ta⟩ := dq_tup r2
    exact fin a us rfl ta (.inr (ha.sq s1.fr))
theorem dao_nil : DAo X [] dNil := ⟨_, pa_nil, fun g F H n σ ρ P Q hw k h q => q [] F H n [] k.self k.box .nil (fun _ h => by cases h) List.nodup_nil h⟩
theorem dao_cons (h : DEo X e f) (r : DAo X es fa) (hs : starEach (e :: es) X.env = (false, eval e X.env) :: starEach es X.env := by rfl) : DAo X (e :: es) (dCons f fa) := by
  obtain ⟨t, p, g1⟩ := h
  obtain ⟨u, p2, g2⟩ := r
  refine ⟨_, pa_cons p p2 hs, fun g F H n σ ρ P Q hw k h q => ?_⟩
  refine g1 g F H n σ ρ _ _ hw k h fun v F1 H1 m x s1 b1 r1 f1 hx => ?_
  refine g2 g F1 H1 m σ ρ _ _ hw (k.step s1 b1) hx fun vs F2 H2 m2 xs s2 b2 r2 f2 nd hxs => ?_
  have back : ∀ p, H1 p = none → some p ≠ g.b → H p = none := fun p hp nb => by
    cases eh : H p with
    | none => rfl
    | some o => rw [s1.keep p o eh nb] at hp; cases hp
  have nbx : ∀ x ∈ xs, ∀ p, x.own = some p → some p ≠ g.b := by
    intro x hx p hp
    have : ∀ {vs : List V} {xs : List W}, RelA (wkOf X) g.b F2 H2 vs xs → x ∈ xs → some p ≠ g.b := by
      intro vs xs r
      induction r with
      | nil => intro h; cases h
      | cons a b ih =>
        intro h
        rcases List.mem_cons.mp h with h | h
        · subst h; exact (own_at a hp).1
        · exact ih h
    exact this r2 hx
  refine q (v :: vs) F2 H2 m2 (x :: xs) (s1.trans s2) b2 (.cons (r1.mono s2) r2) (fun y hy p hp => ?_) ?_ hxs
  · rcases List.mem_cons.mp hy with hy | hy
    · subst hy; exact f1 p hp
    · exact back p (f2 y hy p hp) (nbx y hy p hp)
  · rw [List.filterMap_cons]
    split
    · exact nd
    · rename_i p hp
      refine List.nodup_cons.mpr ⟨fun hm => ?_, nd⟩
      obtain ⟨y, hy, e2⟩ := List.mem_filterMap.mp hm
      have e1 := f2 y hy p e2
      obtain ⟨_, _, o, e3⟩ := own_at r1 hp
      rw [e1] at e3; cases e3
theorem dao_pl (h : DA X es fa) : DAo X es (fun n ρ P => fa n ρ fun xs m => free xs = true ∧ P xs m) := by
  obtain ⟨t, p, g1⟩ := h
  refine ⟨t, p, fun g F H n σ ρ P Q hw k hh q => ?_⟩
  refine g1 g F H n σ ρ _ Q hw k hh fun vs F' H' m xs s b r hx => ?_
  have nf : ∀ x ∈ xs, x.own = none := fun x hm => by
    have := List.all_eq_true.mp hx.1 x hm
    exact Option.isNone_iff_eq_none.mp this
  refine q vs F' H' m xs s b r (fun x hm p e => by rw [nf x hm] at e; cases e) ?_ hx.2
  have : xs.filterMap W.own = [] := List.filterMap_eq_nil_iff.mpr nf
  rw [this]; exact List.nodup_nil
end

/-! ### stores of such values -/
def FreshFor (g : Fx) (ρ : Rho) (x : W) : Prop := ∀ p, x.own = some p → g.H_0 p = none ∧ ∀ (j : Nat) y, ρ[j]? = some (some y) → y.own ≠ some p
theorem Ok.freshFor {g : Fx} {F H : Hp} {n : Nat} {σ : L2.St} {ρ : Rho} (k : Ok g F H n σ ρ) {x : W} (h : ∀ p, x.own = some p → H p = none) : FreshFor g ρ x := fun p e => k.fresh (h p e)
theorem FreshFor.set {g : Fx} {ρ : Rho} {x y : W} {i : Nat} (h : FreshFor g ρ x) (ne : ∀ p, x.own = some p → y.own ≠ some p) : FreshFor g (ρ.set i (some y)) x := fun p e => ⟨(h p e).1, fun j z ez => by
  rw [List.getElem?_set] at ez
  split at ez
  · split at ez
    · cases ez; exact ne p e
    · cases ez
  · exact (h p e).2 j z ez⟩
section
variable {X : Cx} {pos pos' px py pz pt pq : Pos} {e a b c d : Expr} {fe : TD} {fa : TDa} {kt k2 : Nat}
@[simp] def dSetO (i : Nat) (f : TD) : TSd := fun E n ρ => f n ρ fun x m => E.nx m (ρ.set i (some x))
theorem ds_setO (i : Nat) {x : Str} (hN : X.N.Nodup) (h1 : DEo X e fe) (hi : X.N[i]? = some x := by rfl) (hx : Loc X.env.scope x := by first | exact Or.inl rfl | exact Or.inr rfl) (hs : swapsWith e (some (.Name x pos')) pos.line X.env = pure false := by rfl) (hf : X.fn x = true ∨ X.env.scope.names.lookup x = some .local := by first | exact .inl rfl | exact .inr rfl | assumption) :
    DS X (.Assign [.Name x pos'] e pos) (dSetO i fe) := by
  obtain ⟨t, p, g1⟩ := h1
  refine ⟨_, ps_set hN hi hx p hs hf, fun g F H n σ ρ D E hw k l hh => ?_⟩
  refine g1 g F H n σ ρ _ _ hw k hh fun v F1 H1 m x s1 b1 r1 f1 hx => ?_
  exact l.nx F1 H1 m _ _ s1.ex ((k.step s1 b1).put (by rw [hw]; exact r1) (k.freshFor f1)) hx
/-- the slots is come to hold xs -/
@[simp] def setAll : Rho → List Nat → List W → Rho
  | ρ, i :: is, x :: xs => setAll (ρ.set i (some x)) is xs
  | ρ, _, _ => ρ
theorem ne_own {x y : W} {xs : List W} (h : ((x :: xs).filterMap W.own).Nodup) (hy : y ∈ xs) : ∀ p, y.own = some p → x.own ≠ some p := fun p e z => by
  rw [List.filterMap_cons, z] at h
  exact (List.nodup_cons.mp h).1 (List.mem_filterMap.mpr ⟨y, hy, e⟩)
theorem nodup_tl {x : W} {xs : List W} (h : ((x :: xs).filterMap W.own).Nodup) : (xs.filterMap W.own).Nodup := by
  rw [List.filterMap_cons] at h
  split at h
  · exact h
  · exact (List.nodup_cons.mp h).2
def setAllV : L2.St → List Nat → List V → L2.St
  | σ, i :: is, v :: vs => setAllV (σ.set i (some v)) is vs
  | σ, _, _ => σ
theorem Ok.putAll {g : Fx} {F H : Hp} {n : Nat} : ∀ {is : List Nat} {vs : List V} {xs : List W} {σ : L2.St} {ρ : Rho}, Ok g F H n σ ρ → RelA g.w g.b F H vs xs → (∀ x ∈ xs, FreshFor g ρ x) → (xs.filterMap W.own).Nodup → Ok g F H n (setAllV σ is vs) (setAll ρ is xs)
  | [], _, _, _, _, k, r, _, _ => by cases r <;> exact k
  | i :: is, _, _, _, _, k, .nil, _, _ => k
  | i :: is, v :: vs, x :: xs, σ, ρ, k, .cons r1 r2, hf, nd => by
    unfold setAllV setAll
    exact Ok.putAll (k.put r1 (hf x List.mem_cons_self)) r2 (fun y hy => (hf y (List.mem_cons_of_mem _ hy)).set (ne_own nd hy)) (nodup_tl nd)
@[simp] def dPar (is : List Nat) (fa : TDa) : TSd := fun E n ρ => fa n ρ fun xs m => xs.length = is.length ∧ E.nx m (setAll ρ is xs)
theorem rela2 {w : Wk} {bb : Option Addr} {F H : Hp} {vs : List V} {xs : List W} (r : RelA w bb F H vs xs) (h : xs.length = 2) : ∃ u v, vs = [u, v] := by
  have := rela_len r
  match vs, this.trans h with
  | [u, v], _ => exact ⟨u, v, rfl⟩
theorem rela3 {w : Wk} {bb : Option Addr} {F H : Hp} {vs : List V} {xs : List W} (r : RelA w bb F H vs xs) (h : xs.length = 3) : ∃ u v z, vs = [u, v, z] := by
  have := rela_len r
  match vs, this.trans h with
  | [u, v, z], _ => exact ⟨u, v, z, rfl⟩
theorem ds_par2 (i j : Nat) {x y : Str} (hc : X.calm = true) (hN : X.N.Nodup) (h : DAo X [a, b] fa) (hw : swappedStores [.Tuple [.Name x px, .Name y py] kt pt] (.Tuple [a, b] k2 pq) X.env = pure (some [x, y])) (hi : X.N[i]? = some x := by rfl) (hj : X.N[j]? = some y := by rfl) (hij : i ≠ j := by decide)
    (hx : X.env.scope.names.lookup x = some .local := by rfl) (hy : X.env.scope.names.lookup y = some .local := by rfl) (hs : swapsWithSole [.Tuple [.Name x px, .Name y py] kt pt] (.Tuple [a, b] k2 pq) pos.line X.env = pure false := by rfl) :
    DS X (.Assign [.Tuple [.Name x px, .Name y py] kt pt] (.Tuple [a, b] k2 pq) pos) (dPar [i, j] fa) := by
  obtain ⟨t, p, g1⟩ := h
  refine ⟨_, ps_par hc hN hi hj hij hx hy p hw hs, fun g F H n σ ρ D E hw k l hh => ?_⟩
  refine g1 g F H n σ ρ _ _ hw k hh fun vs F1 H1 m xs s1 b1 r1 f1 nd hx => ?_
  obtain ⟨u, v, rfl⟩ := rela2 r1 hx.1
  exact ⟨u, v, rfl, l.nx F1 H1 m _ _ s1.ex ((k.step s1 b1).putAll (is := [i, j]) (vs := [u, v]) (by rw [hw]; exact r1) (fun x hx => k.freshFor (f1 x hx)) nd) hx.2⟩
theorem ds_par3 (i j q : Nat) {x y z : Str} (hc : X.calm = true) (hN : X.N.Nodup) (h : DAo X [a, b, c] fa) (hw : swappedStores [.Tuple [.Name x px, .Name y py, .Name z pz] kt pt] (.Tuple [a, b, c] k2 pq) X.env = pure (some [x, y, z])) (hi : X.N[i]? = some x := by rfl) (hj : X.N[j]? = some y := by rfl) (hq : X.N[q]? = some z := by rfl) (hij : i ≠ j := by decide) (hiq : i ≠ q := by decide) (hjq : j ≠ q := by decide)
    (hx : X.env.scope.names.lookup x = some .local := by rfl) (hy : X.env.scope.names.lookup y = some .local := by rfl) (hz : X.env.scope.names.lookup z = some .local := by rfl) (hs : swapsWithSole [.Tuple [.Name x px, .Name y py, .Name z pz] kt pt] (.Tuple [a, b, c] k2 pq) pos.line X.env = pure false := by rfl) :
    DS X (.Assign [.Tuple [.Name x px, .Name y py, .Name z pz] kt pt] (.Tuple [a, b, c] k2 pq) pos) (dPar [i, j, q] fa) := by
  obtain ⟨t, p, g1⟩ := h
  refine ⟨_, ps_par3 hc hN hi hj hq hij hiq hjq hx hy hz p hw hs, fun g F H n σ ρ D E hw k l hh => ?_⟩
  refine g1 g F H n σ ρ _ _ hw k hh fun vs F1 H1 m xs s1 b1 r1 f1 nd hx => ?_
  obtain ⟨u, v, z, rfl⟩ := rela3 r1 hx.1
  exact ⟨u, v, z, rfl, l.nx F1 H1 m _ _ s1.ex ((k.step s1 b1).putAll (is := [i, j, q]) (vs := [u, v, z]) (by rw [hw]; exact r1) (fun x hx => k.freshFor (f1 x hx)) nd) hx.2⟩
/-- names through a real tuple -/
def gNames : List Nat → TGs
  | [] => gNil
  | i :: is => gCons (gName i) (gNames is)
theorem pgs_nil' : PGs X [] (gNames []) := pgs_nil
theorem pgs_name (i : Nat) {x : Str} {es : List Expr} {is : List Nat} (hN : X.N.Nodup) (h : PGs X es (gNames is)) (hi : X.N[i]? = some x := by rfl) (hx : Loc X.env.scope x := by first | exact Or.inl rfl | exact Or.inr rfl) (hf : X.fn x = true ∨ X.env.scope.names.lookup x = some .local := by first | exact .inl rfl | exact .inr rfl | assumption)
    (hs : (assignEach (.Name x px :: es) X.env).map (·.2) = assign (.Name x px) X.env :: (assignEach es X.env).map (·.2) := by rfl) : PGs X (.Name x px :: es) (gNames (i :: is)) := pgs_cons (pg_name hN hi hx hf) h hs
theorem gNames_go : ∀ {is : List Nat} {vs : List V} {σ : L2.St} {H : Hp} {Q : L2.St → Hp → Prop}, vs.length = is.length → Q (setAllV σ is vs) H → gNames is vs σ H Q
  | [], [], _, _, _, _, h => ⟨rfl, h⟩
  | i :: is, v :: vs, _, _, _, e, h => ⟨v, vs, rfl, gNames_go (is := is) (by simpa using e) h⟩
  | [], _ :: _, _, _, _, e, _ => by simp at e
  | _ :: _, [], _, _, _, e, _ => by simp at e
theorem ds_parT (is : List Nat) {ts es : List Expr} (hc : X.calm = true) (h : DAo X es fa) (hg : PGs X ts (gNames is)) (hl : is.length ≤ 100 := by decide) (hn : (assignEach ts X.env).length = is.length := by rfl) (hst : (assignEach ts X.env).findIdx? (·.1) = none := by rfl)
    (hs : swapsWithSole [.Tuple ts kt pt] (.Tuple es k2 pq) pos.line X.env = pure false := by rfl) (hw : swappedStores [.Tuple ts kt pt] (.Tuple es k2 pq) X.env = pure none := by rfl) (ha : (assignEach [.Tuple ts kt pt] X.env).map (·.2) = [assign (.Tuple ts kt pt) X.env] := by rfl) :
    DS X (.Assign [.Tuple ts kt pt] (.Tuple es k2 pq) pos) (dPar is fa) := by
  obtain ⟨t, p, g1⟩ := h
  refine ⟨_, ps_asg (pe_tup p) (pg_tup hc hg hn hst) hs hw ha, fun g F H n σ ρ D E hw k l hh => ?_⟩
  refine g1 g F H n σ ρ _ _ hw k hh fun vs F1 H1 m xs s1 b1 r1 f1 nd hx => ?_
  have e1 : vs.length = is.length := (rela_len r1).trans hx.1
  refine ⟨by rw [e1, sizeLine_eq]; omega, fun p hp => ?_⟩
  obtain ⟨s2, b2, _, _⟩ := new_step (o := .tup vs) s1.fr b1 hp
  refine ⟨p, vs, rfl, SqT.of upd_same, e1, gNames_go e1 ?_⟩
  exact l.nx F1 _ m _ _ s1.ex ((k.step (s1.trans s2) b2).putAll (by rw [hw]; exact paired_mono r1 fun _ _ z => z.mono s2) (fun x hx => k.freshFor (f1 x hx)) nd) hx.2
end

/-! ### lists owned -/
section
variable {X : Cx} {pos apos cpos px tpos p2 tp2 kpos : Pos} {e ie ie2 a c d : Expr} {fe fi fi2 fd : TD} {k kt k2 : Nat}
theorem ol_at {w : Wk} {b : Option Addr} {F H : Hp} {v : V} {p : Addr} {ds : List PyData} (r : RelW w b F H v (.olst p ds)) : v = .ref p := r.1
theorem od_at {w : Wk} {b : Option Addr} {F H : Hp} {v : V} {p : Addr} {ds : List (Key × PyData)} (r : RelW w b F H v (.odic p ds)) : v = .ref p := r.1
theorem Ok.olst {g : Fx} {F H : Hp} {n : Nat} {σ : L2.St} {ρ : Rho} (k : Ok g F H n σ ρ) {i : Nat} {p : Addr} {ds : List PyData} (e : ρ[i]? = some (some (.olst p ds))) : σ[i]? = some (some (.ref p)) ∧ some p ≠ g.b ∧ F p = none ∧ ∃ vs, H p = some (.lst vs) ∧ DqAll F vs ds := by
  obtain ⟨v, h1, rfl, h2⟩ := k.slot i _ e
  exact ⟨h1, h2⟩
theorem Ok.odic {g : Fx} {F H : Hp} {n : Nat} {σ : L2.St} {ρ : Rho} (k : Ok g F H n σ ρ) {i : Nat} {p : Addr} {ds : List (Key × PyData)} (e : ρ[i]? = some (some (.odic p ds))) : σ[i]? = some (some (.ref p)) ∧ some p ≠ g.b ∧ F p = none ∧ ∃ vs, H p = some (.dK vs) ∧ KD F vs ds := by
  obtain ⟨v, h1, rfl, h2⟩ := k.slot i _ e
  exact ⟨h1, h2⟩
theorem Ok.setL {g : Fx} {F H : Hp} {n : Nat} {σ : L2.St} {ρ : Rho} (k : Ok g F H n σ ρ) {i : Nat} {p : Addr} {ds es : List PyData} {us : List V} (e : ρ[i]? = some (some (.olst p ds))) (h : DqAll F us es) : Ok g F (upd H p (.lst us)) n σ (ρ.set i (some (.olst p es))) := by
  obtain ⟨_, nb, hF, _⟩ := k.olst e
  exact k.mut e rfl (x' := .olst p es) ⟨rfl, nb, hF, us, upd_same, h⟩ (fun v r => r.1) rfl
theorem Ok.setK {g : Fx} {F H : Hp} {n : Nat} {σ : L2.St} {ρ : Rho} (k : Ok g F H n σ ρ) {i : Nat} {p : Addr} {ds es : List (Key × PyData)} {us : List (Key × V)} (e : ρ[i]? = some (some (.odic p ds))) (h : KD F us es) : Ok g F (upd H p (.dK us)) n σ (ρ.set i (some (.odic p es))) := by
  obtain ⟨_, nb, hF, _⟩ := k.odic e
  exact k.mut e rfl (x' := .odic p es) ⟨rfl, nb, hF, us, upd_same, h⟩ (fun v r => r.1) rfl
/-- name.append(e) -/
@[simp] def dApp (i : Nat) (f : TD) : TSd := fun E n ρ => ∃ p ds, ρ[i]? = some (some (.olst p ds)) ∧ f n ρ fun x m => ∃ d, x = .dat d ∧ ds.length < 16777216 ∧ E.nx m (ρ.set i (some (.olst p (ds ++ [d]))))
theorem ds_app (i : Nat) {x : Str} (h : DE X e fe) (hN : X.N[i]? = some x := by rfl) (hv : Vis X.env.scope x := by first | exact Or.inl rfl | exact Or.inr (Or.inl rfl) | exact Or.inr (Or.inr rfl)) (hd : (x == ("__debug__" : Str)) = false := by decide) (hcd : (x == ("__classdict__" : Str)) = false := by decide)
    (hbase : attributeBase (.Name x px) "append" X.env (eval (.Name x px) X.env) = eval (.Name x px) X.env := by rfl)
    (hfew : ((backTo cpos (starEach (e :: []) X.env)).all (fun x => !x.1) && (backToKw cpos (keywordEach [] X.env)).all (fun x => x.1.isSome)
      && decide ((e :: []).length + ([] : List Keyword).length + (if ([] : List Keyword).isEmpty then 0 else 1) < 30)) = true := by rfl)
    (hline : (apos.endLine == cpos.line) = true := by rfl) (hs : starEach (e :: []) X.env = (false, eval e X.env) :: starEach [] X.env := by rfl) (hsw : swapsWith (.Call (.Attribute (.Name x px) "append" apos) [e] [] cpos) none pos.line X.env = pure false := by rfl) :
    DS X (.Expr (.Call (.Attribute (.Name x px) "append" apos) [e] [] cpos) pos) (dApp i fe) := by
  obtain ⟨t, p, g1⟩ := h
  refine ⟨_, ps_expr (pe_bm PySem.F.plainAttrs_list PySem.F.slot_list_append PySem.F.type_list_append mt_append (pe_var hN hv hd hcd) (pa_cons p pa_nil hs) hbase hfew hline hs rfl) hsw, fun g F H n σ ρ D E hw k l hh => ?_⟩
  obtain ⟨p, ds, ei, hh⟩ := hh
  obtain ⟨h1, nb, hF, vs, hH, ra⟩ := k.olst ei
  refine ⟨.ref p, h1, .inl ⟨rfl, vs, SqL.of hH⟩, ?_⟩
  refine g1 g F H n σ ρ _ _ hw k hh fun v F1 H1 m x s1 b1 r1 hx => ?_
  obtain ⟨d, rfl, hl, hE⟩ := hx
  obtain ⟨hF1, hH1⟩ := s1.own nb hF hH
  have ra1 := dp_monoA s1.ex _ _ ra
  refine ⟨p, vs, v, rfl, rfl, hH1, by rw [dpa_len ra1, sizeLine_eq]; exact hl, ?_⟩
  exact l.nx F1 _ m σ _ s1.ex ((k.step s1 b1).setL ei (dpa_app ra1 (.cons r1 .nil))) hE
/-- name[ie] = e -/
@[simp] def dPut (i : Nat) (fi fe : TD) : TSd := fun E n ρ => fe n ρ fun x m => ∃ d p ds, x = .dat d ∧ ρ[i]? = some (some (.olst p ds)) ∧ fi m ρ fun y k => ∃ z j, y = .dat (.int z) ∧ ixN ds.length z = some j ∧ E.nx k (ρ.set i (some (.olst p (ds.set j d))))
theorem ds_put (i : Nat) {x : Str} (h1 : DE X ie fi) (h2 : DE X e fe) (hN : X.N[i]? = some x := by rfl) (hv : Vis X.env.scope x := by first | exact Or.inl rfl | exact Or.inr (Or.inl rfl) | exact Or.inr (Or.inr rfl)) (hd : (x == ("__debug__" : Str)) = false := by decide) (hcd : (x == ("__classdict__" : Str)) = false := by decide)
    (ha : ∀ v, assign (.Subscript (.Name x px) ie tpos) X.env v = (do
      let ov ← holding [v] (eval (.Name x px) X.env)
      let iv ← holding [v, ov] (eval ie X.env)
      standAt tpos
      holding [v, ov, iv] (setItem ov iv v)
      release [v, ov, iv] []) := by intro _; rfl) (hs : swapsWithSole [.Subscript (.Name x px) ie tpos] e pos.line X.env = pure false := by rfl) (hw : swappedStores [.Subscript (.Name x px) ie tpos] e X.env = pure none := by rfl)
    (h3 : (assignEach [.Subscript (.Name x px) ie tpos] X.env).map (·.2) = [assign (.Subscript (.Name x px) ie tpos) X.env] := by rfl) : DS X (.Assign [.Subscript (.Name x px) ie tpos] e pos) (dPut i fi fe) := by
  obtain ⟨ti, pi, g1⟩ := h1
  obtain ⟨t, p, g2⟩ := h2
  refine ⟨_, ps_asg p (pg_sub (pe_var hN hv hd hcd) pi set_list ha) hs hw h3, fun g F H n σ ρ D E hw k l hh => ?_⟩
  refine g2 g F H n σ ρ _ _ hw k hh fun v F1 H1 m x s1 b1 r1 hx => ?_
  obtain ⟨d, p, ds, rfl, ei, hx⟩ := hx
  have k1 := k.step s1 b1
  refine ⟨.ref p, (k.olst ei).1, ?_⟩
  refine g1 g F1 H1 m σ ρ _ _ hw k1 hx fun u F2 H2 m2 y s2 b2 r2 hy => ?_
  obtain ⟨z, j, rfl, hj, hE⟩ := hy
  obtain rfl := dq_int r2
  have k2 := k1.step s2 b2
  obtain ⟨_, _, hF2, vs, hH2, ra⟩ := k2.olst ei
  refine ⟨p, vs, z, j, rfl, rfl, hH2, by rw [dpa_len ra]; exact hj, ?_⟩
  exact l.nx F2 _ m2 σ _ (s1.ex.trans s2.ex) (k2.setL ei (dpa_set (dp_mono s2.ex _ _ r1) j ra)) hE
/-- name[ie], name[ie2] = (a, c) -/
@[simp] def dPut2 (i : Nat) (fi fi2 : TD) (fa : TDa) : TSd := fun E n ρ => fa n ρ fun xs m => ∃ d d2 p ds, xs = [.dat d, .dat d2] ∧ ρ[i]? = some (some (.olst p ds)) ∧ fi m ρ fun y k => ∃ z j, y = .dat (.int z) ∧ ixN ds.length z = some j ∧
  fi2 k (ρ.set i (some (.olst p (ds.set j d)))) fun y k => ∃ z2 j2, y = .dat (.int z2) ∧ ixN ds.length z2 = some j2 ∧ E.nx k (ρ.set i (some (.olst p ((ds.set j d).set j2 d2))))
theorem ds_put2 (i : Nat) {x : Str} {fa : TDa} (hc : X.calm = true) (h1 : DE X ie fi) (h2 : DE X ie2 fi2) (h : DA X [a, c] fa) (hN : X.N[i]? = some x := by rfl) (hv : Vis X.env.scope x := by first | exact Or.inl rfl | exact Or.inr (Or.inl rfl) | exact Or.inr (Or.inr rfl)) (hd : (x == ("__debug__" : Str)) = false := by decide) (hcd : (x == ("__classdict__" : Str)) = false := by decide)
    (ha : ∀ v, assign (.Subscript (.Name x px) ie tpos) X.env v = (do
      let ov ← holding [v] (eval (.Name x px) X.env)
      let iv ← holding [v, ov] (eval ie X.env)
      standAt tpos
      holding [v, ov, iv] (setItem ov iv v)
      release [v, ov, iv] []) := by intro _; rfl)
    (ha2 : ∀ v, assign (.Subscript (.Name x p2) ie2 tp2) X.env v = (do
      let ov ← holding [v] (eval (.Name x p2) X.env)
      let iv ← holding [v, ov] (eval ie2 X.env)
      standAt tp2
      holding [v, ov, iv] (setItem ov iv v)
      release [v, ov, iv] []) := by intro _; rfl)
    (hn : (assignEach [.Subscript (.Name x px) ie tpos, .Subscript (.Name x p2) ie2 tp2] X.env).length = 2 := by rfl) (hst : (assignEach [.Subscript (.Name x px) ie tpos, .Subscript (.Name x p2) ie2 tp2] X.env).findIdx? (·.1) = none := by rfl)
    (hq1 : (assignEach [.Subscript (.Name x px) ie tpos, .Subscript (.Name x p2) ie2 tp2] X.env).map (·.2) = assign (.Subscript (.Name x px) ie tpos) X.env :: (assignEach [.Subscript (.Name x p2) ie2 tp2] X.env).map (·.2) := by rfl)
    (hq2 : (assignEach [.Subscript (.Name x p2) ie2 tp2] X.env).map (·.2) = assign (.Subscript (.Name x p2) ie2 tp2) X.env :: (assignEach [] X.env).map (·.2) := by rfl)
    (hs : swapsWithSole [.Tuple [.Subscript (.Name x px) ie tpos, .Subscript (.Name x p2) ie2 tp2] kt apos] (.Tuple [a, c] k2 cpos) pos.line X.env = pure false := by rfl)
    (hw : swappedStores [.Tuple [.Subscript (.Name x px) ie tpos, .Subscript (.Name x p2) ie2 tp2] kt apos] (.Tuple [a, c] k2 cpos) X.env = pure none := by rfl)
    (h3 : (assignEach [.Tuple [.Subscript (.Name x px) ie tpos, .Subscript (.Name x p2) ie2 tp2] kt apos] X.env).map (·.2) = [assign (.Tuple [.Subscript (.Name x px) ie tpos, .Subscript (.Name x p2) ie2 tp2] kt apos) X.env] := by rfl) :
    DS X (.Assign [.Tuple [.Subscript (.Name x px) ie tpos, .Subscript (.Name x p2) ie2 tp2] kt apos] (.Tuple [a, c] k2 cpos) pos) (dPut2 i fi fi2 fa) := by
  obtain ⟨ti, pi, g1⟩ := h1
  obtain ⟨ti2, pi2, g2⟩ := h2
  obtain ⟨t, p, g3⟩ := h
  refine ⟨_, ps_asg (pe_tup p) (pg_tup hc (pgs_cons (pg_sub (pe_var hN hv hd hcd) pi set_list ha) (pgs_cons (pg_sub (pe_var hN hv hd hcd) pi2 set_list ha2) pgs_nil hq2) hq1) hn hst) hs hw h3, fun g F H n σ ρ D E hw k l hh => ?_⟩
  refine g3 g F H n σ ρ _ _ hw k hh fun vs F1 H1 m xs s1 b1 r1 hx => ?_
  obtain ⟨d, d2, p, ds, rfl, ei, hx⟩ := hx
  obtain ⟨v, v2, rfl, rv, rv2⟩ := rel2 r1
  have k1 := k.step s1 b1
  refine ⟨by rw [sizeLine_eq]; simp, fun q hq => ?_⟩
  obtain ⟨s1', b1', _, _⟩ := new_step (o := .tup [v, v2]) s1.fr b1 hq
  have k1 := k1.step s1' b1'
  refine ⟨q, _, rfl, SqT.of upd_same, rfl, v, _, rfl, .ref p, (k.olst ei).1, ?_⟩
  refine g1 g F1 _ m σ ρ _ _ hw k1 hx fun u F2 H2 m2 y s2 b2 r2 hy => ?_
  obtain ⟨z, j, rfl, hj, hy⟩ := hy
  obtain rfl := dq_int r2
  have k2 := k1.step s2 b2
  obtain ⟨_, _, hF2, us, hH2, ra⟩ := k2.olst ei
  refine ⟨p, us, z, j, rfl, rfl, hH2, by rw [dpa_len ra]; exact hj, ?_⟩
  have k3 := k2.setL ei (dpa_set (dp_mono s2.ex _ _ rv) j ra)
  have hlt : i < ρ.length := (List.getElem?_eq_some_iff.mp ei).1
  have ei3 : (ρ.set i (some (.olst p (ds.set j d))))[i]? = some (some (.olst p (ds.set j d))) := by rw [List.getElem?_set_self hlt]
  refine ⟨v2, _, rfl, .ref p, (k.olst ei).1, ?_⟩
  refine g2 g F2 _ m2 σ _ _ _ hw k3 hy fun u F3 H3 m3 y s3 b3 r3 hy => ?_
  obtain ⟨z2, j2, rfl, hj2, hE⟩ := hy
  obtain rfl := dq_int r3
  have k4 := k3.step s3 b3
  obtain ⟨_, _, hF3, us3, hH3, ra3⟩ := k4.olst ei3
  refine ⟨p, us3, z2, j2, rfl, rfl, hH3, by rw [dpa_len ra3, List.length_set]; exact hj2, rfl, ?_⟩
  have k5 := k4.setL ei3 (dpa_set (dp_mono (s2.ex.trans s3.ex) _ _ rv2) j2 ra3)
  rw [List.set_set] at k5
  exact l.nx F3 _ m3 σ _ ((s1.ex.trans s2.ex).trans s3.ex) k5 hE

/-! ### dicts owned -/
@[simp] def dicOf : W → Option (List (Key × PyData))
  | .dic ks => some ks
  | .odic _ ks => some ks
  | _ => none
theorem dicOf_at {w : Wk} {b : Option Addr} {F H : Hp} {v : V} {x : W} {ks : List (Key × PyData)} (s : Same F H) (r : RelW w b F H v x) (e : dicOf x = some ks) : ∃ p vs, v = .ref p ∧ Rd H p (.dK vs) ∧ KD F vs ks := by
  cases x with
  | dic ks' => cases e; obtain ⟨p, o, vs, h1, h2, h3⟩ := r; exact ⟨p, vs, h1, rd_mono s h2, h3⟩
  | odic p ks' => cases e; obtain ⟨h1, _, _, vs, h2, h3⟩ := r; exact ⟨p, vs, h1, .inl h2, h3⟩
  | _ => cases e
/-- o.get(e), o.get(e, None) -/
@[simp] def dGet (fo fe : TD) : TD := fun n ρ P => fo n ρ fun x m => ∃ ks, dicOf x = some ks ∧ fe m ρ fun y j => ∃ d key, y = .dat d ∧ keyOf d = some key ∧ P (.dat ((valD ks key).getD .none)) j
theorem kd_getD {F : Hp} {vs : List (Key × V)} {ks : List (Key × PyData)} {key : Key} (h : KD F vs ks) : Dq F ((valV vs key).getD .non) ((valD ks key).getD .none) := by
  rcases kd_val (k := key) h with ⟨v, d2, g1, g2, g3⟩ | ⟨g1, g2⟩
  · rw [g1, g2]; exact g3
  · rw [g1, g2]; exact Dq.non
theorem de_get1 {o : Expr} {fo : TD} (hr : Room k X.A) (h1 : DE X o fo) (h2 : DE X e fe) (m : M1 X o "get" apos e cpos := by exact ⟨rfl, rfl, rfl, rfl⟩) : DE X (.Call (.Attribute o "get" apos) [e] [] cpos) (dGet fo fe) := by
  obtain ⟨t, p, g1⟩ := h1
  obtain ⟨u, p2, g2⟩ := h2
  refine ⟨_, pe_dget1 (hu_of hr) p p2 m, fun g F H n σ ρ P Q hw k hh q => ?_⟩
  refine g1 g F H n σ ρ _ _ hw k hh fun v F1 H1 m x s1 b1 r1 hx => ?_
  obtain ⟨ks, e1, hx⟩ := hx
  obtain ⟨a, vs, rfl, rd, _⟩ := dicOf_at s1.fr r1 e1
  refine ⟨a, rfl, .inl ⟨vs, rd⟩, ?_⟩
  refine g2 g F1 H1 m σ ρ _ _ hw (k.step s1 b1) hx fun u F2 H2 m2 y s2 b2 r2 hy => ?_
  obtain ⟨d, key, rfl, ek, hP⟩ := hy
  obtain rfl := keyOf_v r2 ek
  obtain ⟨a', vs', ea, rd', kd⟩ := dicOf_at s2.fr (r1.mono s2) e1
  cases ea
  exact ⟨_, .inl ⟨vs', key, rd', rfl, rfl⟩, q _ F2 H2 m2 (.dat ((valD ks key).getD .none)) (s1.trans s2) b2 (kd_getD kd) hP⟩
theorem de_get2 {o : Expr} {fo : TD} {j : Nat} (hr : Room k X.A) (h1 : DE X o fo) (h2 : DE X e fe) (m : M2 X o "get" apos e (.Constant .none j kpos) cpos := by exact ⟨rfl, rfl, rfl, rfl⟩) : DE X (.Call (.Attribute o "get" apos) [e, .Constant .none j kpos] [] cpos) (dGet fo fe) := by
  obtain ⟨t, p, g1⟩ := h1
  obtain ⟨u, p2, g2⟩ := h2
  refine ⟨_, pe_dget2 (hu_of hr) p p2 pe_non m, fun g F H n σ ρ P Q hw k hh q => ?_⟩
  refine g1 g F H n σ ρ _ _ hw k hh fun v F1 H1 m x s1 b1 r1 hx => ?_
  obtain ⟨ks, e1, hx⟩ := hx
  obtain ⟨a, vs, rfl, rd, _⟩ := dicOf_at s1.fr r1 e1
  refine ⟨a, rfl, .inl ⟨vs, rd⟩, ?_⟩
  refine g2 g F1 H1 m σ ρ _ _ hw (k.step s1 b1) hx fun u F2 H2 m2 y s2 b2 r2 hy => ?_
  obtain ⟨d, key, rfl, ek, hP⟩ := hy
  obtain rfl := keyOf_v r2 ek
  obtain ⟨a', vs', ea, rd', kd⟩ := dicOf_at s2.fr (r1.mono s2) e1
  cases ea
  exact ⟨_, .inl ⟨vs', key, rd', rfl, rfl⟩, q _ F2 H2 m2 (.dat ((valD ks key).getD .none)) (s1.trans s2) b2 (kd_getD kd) hP⟩
/-- name[ie] = e, a dict -/
@[simp] def dDPut (i : Nat) (fi fe : TD) : TSd := fun E n ρ => fe n ρ fun x m => ∃ d p ks, x = .dat d ∧ ρ[i]? = some (some (.odic p ks)) ∧ fi m ρ fun y k => ∃ dk key, y = .dat dk ∧ keyOf dk = some key ∧ ks.length < 16777216 ∧ E.nx k (ρ.set i (some (.odic p (putD ks key d))))
theorem ds_dput (i : Nat) {x : Str} (hr : Room k X.A) (h1 : DE X ie fi) (h2 : DE X e fe) (hN : X.N[i]? = some x := by rfl) (hv : Vis X.env.scope x := by first | exact Or.inl rfl | exact Or.inr (Or.inl rfl) | exact Or.inr (Or.inr rfl)) (hd : (x == ("__debug__" : Str)) = false := by decide) (hcd : (x == ("__classdict__" : Str)) = false := by decide)
    (hs : swapsWith e (some (.Subscript (.Name x px) ie tpos)) pos.line X.env = pure false := by rfl) : DS X (.Assign [.Subscript (.Name x px) ie tpos] e pos) (dDPut i fi fe) := by
  obtain ⟨ti, pi, g1⟩ := h1
  obtain ⟨t, p, g2⟩ := h2
  refine ⟨_, ps_dput (hu_of hr) (pe_var hN hv hd hcd) pi p hs, fun g F H n σ ρ D E hw k l hh => ?_⟩
  refine g2 g F H n σ ρ _ _ hw k hh fun v F1 H1 m x s1 b1 r1 hx => ?_
  obtain ⟨d, p, ks, rfl, ei, hx⟩ := hx
  have k1 := k.step s1 b1
  refine ⟨.ref p, (k.odic ei).1, ?_⟩
  refine g1 g F1 H1 m σ ρ _ _ hw k1 hx fun u F2 H2 m2 y s2 b2 r2 hy => ?_
  obtain ⟨dk, key, rfl, ek, hl, hE⟩ := hy
  obtain rfl := keyOf_v r2 ek
  have k2 := k1.step s2 b2
  obtain ⟨_, _, hF2, vs, hH2, ra⟩ := k2.odic ei
  refine ⟨p, _, rfl, .inl ⟨vs, key, hH2, rfl, by rw [kd_len ra, sizeLine_eq]; exact hl, rfl⟩, ?_⟩
  exact l.nx F2 _ m2 σ _ (s1.ex.trans s2.ex) (k2.setK ei (kd_put (dp_mono s2.ex _ _ r1) ra)) hE
theorem dropV_none {k : Key} : ∀ {vs : List (Key × V)}, valV vs k = none → dropK vs k = vs
  | [], _ => rfl
  | (k1, v1) :: vs, h => by
    by_cases e : k1 = k
    · subst e; simp [valV] at h
    · have h2 : valV vs k = none := by simpa [valV, e] using h
      have := dropV_none h2
      unfold dropK at this ⊢
      simp [e]
      simpa using this
/-- name.pop(e, None), name.pop(e) -/
@[simp] def dPop2 (i : Nat) (fe : TD) : TSd := fun E n ρ => ∃ p ks, ρ[i]? = some (some (.odic p ks)) ∧ fe n ρ fun y m => ∃ d key, y = .dat d ∧ keyOf d = some key ∧ E.nx m (ρ.set i (some (.odic p (dropD ks key))))
@[simp] def dPop1 (i : Nat) (fe : TD) : TSd := fun E n ρ => ∃ p ks, ρ[i]? = some (some (.odic p ks)) ∧ fe n ρ fun y m => ∃ d key, y = .dat d ∧ keyOf d = some key ∧ (valD ks key).isSome = true ∧ E.nx m (ρ.set i (some (.odic p (dropD ks key))))
theorem ds_pop2 (i : Nat) {x : Str} {j : Nat} (h : DE X e fe) (hN : X.N[i]? = some x := by rfl) (hv : Vis X.env.scope x := by first | exact Or.inl rfl | exact Or.inr (Or.inl rfl) | exact Or.inr (Or.inr rfl)) (hd : (x == ("__debug__" : Str)) = false := by decide) (hcd : (x == ("__classdict__" : Str)) = false := by decide)
    (m : M2 X (.Name x px) "pop" apos e (.Constant .none j kpos) cpos := by exact ⟨rfl, rfl, rfl, rfl⟩) (hsw : swapsWith (.Call (.Attribute (.Name x px) "pop" apos) [e, .Constant .none j kpos] [] cpos) none pos.line X.env = pure false := by rfl) :
    DS X (.Expr (.Call (.Attribute (.Name x px) "pop" apos) [e, .Constant .none j kpos] [] cpos) pos) (dPop2 i fe) := by
  obtain ⟨t, p, g1⟩ := h
  refine ⟨_, ps_expr (pe_dpop2 (pe_var hN hv hd hcd) p pe_non m) hsw, fun g F H n σ ρ D E hw k l hh => ?_⟩
  obtain ⟨p, ks, ei, hh⟩ := hh
  obtain ⟨h1, nb, hF, vs, hH, ra⟩ := k.odic ei
  refine ⟨.ref p, h1, p, rfl, .inl ⟨vs, .inl hH⟩, ?_⟩
  refine g1 g F H n σ ρ _ _ hw k hh fun v F1 H1 m x s1 b1 r1 hx => ?_
  obtain ⟨d, key, rfl, ek, hE⟩ := hx
  obtain rfl := keyOf_v r1 ek
  have k1 := k.step s1 b1
  obtain ⟨_, _, hF1, vs1, hH1, ra1⟩ := k1.odic ei
  have k2 := k1.setK ei (kd_drop (k := key) ra1)
  refine ⟨vs1, key, hH1, rfl, fun v hv => l.nx F1 _ m σ _ s1.ex k2 hE, fun hn => ?_⟩
  rw [dropV_none hn, upd_id hH1] at k2
  exact l.nx F1 _ m σ _ s1.ex k2 hE
theorem ds_pop1 (i : Nat) {x : Str} (h : DE X e fe) (hN : X.N[i]? = some x := by rfl) (hv : Vis X.env.scope x := by first | exact Or.inl rfl | exact Or.inr (Or.inl rfl) | exact Or.inr (Or.inr rfl)) (hd : (x == ("__debug__" : Str)) = false := by decide) (hcd : (x == ("__classdict__" : Str)) = false := by decide)
    (m : M1 X (.Name x px) "pop" apos e cpos := by exact ⟨rfl, rfl, rfl, rfl⟩) (hsw : swapsWith (.Call (.Attribute (.Name x px) "pop" apos) [e] [] cpos) none pos.line X.env = pure false := by rfl) :
    DS X (.Expr (.Call (.Attribute (.Name x px) "pop" apos) [e] [] cpos) pos) (dPop1 i fe) := by
  obtain ⟨t, p, g1⟩ := h
  refine ⟨_, ps_expr (pe_dpop1 (pe_var hN hv hd hcd) p m) hsw, fun g F H n σ ρ D E hw k l hh => ?_⟩
  obtain ⟨p, ks, ei, hh⟩ := hh
  obtain ⟨h1, nb, hF, vs, hH, ra⟩ := k.odic ei
  refine ⟨.ref p, h1, p, rfl, .inl ⟨vs, .inl hH⟩, ?_⟩
  refine g1 g F H n σ ρ _ _ hw k hh fun v F1 H1 m x s1 b1 r1 hx => ?_
  obtain ⟨d, key, rfl, ek, hso, hE⟩ := hx
  obtain rfl := keyOf_v r1 ek
  have k1 := k.step s1 b1
  obtain ⟨_, _, hF1, vs1, hH1, ra1⟩ := k1.odic ei
  have k2 := k1.setK ei (kd_drop (k := key) ra1)
  rcases kd_val (k := key) ra1 with ⟨v, d2, g1, g2, g3⟩ | ⟨g1, g2⟩
  · exact ⟨vs1, key, v, hH1, rfl, g1, l.nx F1 _ m σ _ s1.ex k2 hE⟩
  · rw [g2] at hso; cases hso
end
end DL
set_option Elab.async false
set_option linter.all false
set_option maxRecDepth 100000
set_option maxHeartbeats 4000000
/-! DL9: instances, keywords, the table of doers. -/
namespace DL
open PySem PySem.Spec L2
/-! ### fields -/
def putFD {β : Type} (f : Str) (v : β) : List (Str × β) → List (Str × β)
  | [] => [(f, v)]
  | (g, x) :: r => if g = f then (g, v) :: r else (g, x) :: putFD f v r
theorem putFD_eq (f : Str) (v : V) : ∀ l : List (Str × V), putFD f v l = putF f v l
  | [] => rfl
  | (g, x) :: r => by unfold putFD putF; rw [putFD_eq f v r]
theorem fd_put {F : Hp} {f : Str} {v : V} {d : PyData} (h : Dq F v d) : ∀ {vs : List (Str × V)} {fs : List (Str × PyData)}, FD F vs fs → FD F (putFD f v vs) (putFD f d fs)
  | _, _, .nil => .cons ⟨rfl, h⟩ .nil
  | (a, x) :: vs, (c, y) :: fs, .cons r t => by
    have e : a = c := r.1
    subst e
    unfold putFD
    by_cases z : a = f
    · rw [if_pos z, if_pos z]; exact .cons ⟨rfl, h⟩ t
    · rw [if_neg z, if_neg z]; exact .cons r (fd_put h t)
theorem fd_len {F : Hp} : ∀ {vs : List (Str × V)} {fs : List (Str × PyData)}, FD F vs fs → vs.length = fs.length
  | _, _, .nil => rfl
  | _, _, .cons _ t => by simp [fd_len t]
@[simp] def insOf (C : Addr) : W → Option (List (Str × PyData))
  | .ins D fs => if D = C then some fs else none
  | .oins _ D fs => if D = C then some fs else none
  | _ => none
theorem insOf_at {w : Wk} {b : Option Addr} {F H : Hp} {v : V} {x : W} {C : Addr} {fs : List (Str × PyData)} (s : Same F H) (r : RelW w b F H v x) (e : insOf C x = some fs) : ∃ p dx vs, v = .ref p ∧ H p = some (.ins C dx vs) ∧ FD F vs fs := by
  cases x with
  | ins D fs' =>
    simp only [insOf] at e
    split at e
    · rename_i h
      subst h; cases e
      obtain ⟨p, dx, vs, h1, h2, h3⟩ := r
      exact ⟨p, dx, vs, h1, s _ _ h2, h3⟩
    · cases e
  | oins p D fs' =>
    simp only [insOf] at e
    split at e
    · rename_i h
      subst h; cases e
      obtain ⟨h1, _, _, dx, vs, h2, h3⟩ := r
      exact ⟨p, dx, vs, h1, h2, h3⟩
    · cases e
  | _ => cases e
@[simp] def dFld3 (C : Addr) (m : Str) (fo : TD) : TD := fun n ρ P => fo n ρ fun x k => ∃ fs d, insOf C x = some fs ∧ fs.lookup m = some d ∧ P (.dat d) k
section
variable {X : Cx} {pos pos' px p : Pos} {e o : Expr} {es : List Expr} {fo fe : TD} {fa : TDa} {C : Addr} {m x : Str} {j k : Nat}
theorem de_fld3 (ho : DE X e fo) (c : Cls X.K C) (hn : NoAttr X.K C m) (hb : attributeBase e m X.env (eval e X.env) = eval e X.env := by rfl) : DE X (.Attribute e m pos) (dFld3 C m fo) := by
  obtain ⟨t, p, h1⟩ := ho
  refine ⟨_, pe_fld p hb, fun g F H n σ ρ P Q hw k hh q => ?_⟩
  refine h1 g F H n σ ρ _ _ hw k hh fun v F1 H1 m' x s1 b1 r1 hx => ?_
  obtain ⟨fs, d, ei, hl, hP⟩ := hx
  obtain ⟨a, dx, vs, rfl, ha, hfd⟩ := insOf_at s1.fr r1 ei
  obtain ⟨v, e1, rv⟩ := fd_some hfd hl
  exact ⟨a, C, dx, vs, v, rfl, ha, c, hn, e1, q _ F1 H1 m' (.dat d) s1 b1 rv hP⟩
/-- self.m = e -/
@[simp] def dSFld (C : Addr) (i : Nat) (m : Str) (fe : TD) : TSd := fun E n ρ => fe n ρ fun x k => ∃ p fs d, x = .dat d ∧ ρ[i]? = some (some (.oins p C fs)) ∧ fs.length < 1000 ∧ E.nx k (ρ.set i (some (.oins p C (putFD m d fs))))
theorem ds_sfld (i : Nat) (h : DE X e fe) (c : Cls X.K C) (hn : NoAttr X.K C m) (hN : X.N[i]? = some x := by rfl) (hv : Vis X.env.scope x := by first | exact Or.inl rfl | exact Or.inr (Or.inl rfl) | exact Or.inr (Or.inr rfl)) (hd : (x == ("__debug__" : Str)) = false := by decide) (hcd : (x == ("__classdict__" : Str)) = false := by decide)
    (hs : swapsWith e (some (.Attribute (.Name x px) m pos')) pos.line X.env = pure false := by rfl) : DS X (.Assign [.Attribute (.Name x px) m pos'] e pos) (dSFld C i m fe) := by
  obtain ⟨t, p, g1⟩ := h
  refine ⟨_, ps_fld (pe_var hN hv hd hcd) p hs, fun g F H n σ ρ D E hw k l hh => ?_⟩
  refine g1 g F H n σ ρ _ _ hw k hh fun v F1 H1 m1 x s1 b1 r1 hx => ?_
  obtain ⟨p, fs, d, rfl, ei, hl, hE⟩ := hx
  have k1 := k.step s1 b1
  obtain ⟨v0, hv0, r0⟩ := k1.slot i _ ei
  obtain ⟨rfl, nb, hF, dx, vs, hH, hfd⟩ := r0
  refine ⟨.ref p, hv0, p, C, dx, vs, rfl, hH, c, hn, by rw [fd_len hfd]; exact hl, ?_⟩
  refine l.nx F1 _ m1 σ _ s1.ex (k1.mut ei rfl (x' := .oins p C (putFD m d fs)) ⟨rfl, nb, hF, dx, _, upd_same, ?_⟩ (fun v r => r.1) rfl) hE
  rw [← putFD_eq]
  exact fd_put r1 hfd
end
/-! ### a class is made -/
def rem (H : Hp) (p : Addr) : Hp := fun a => if a = p then none else H a
theorem rem_same {H : Hp} {p : Addr} : rem H p p = none := if_pos rfl
theorem rem_ne {H : Hp} {p a : Addr} (h : a ≠ p) : rem H p a = H a := if_neg h
theorem rem_upd {H : Hp} {p : Addr} {o : HO} (h : H p = none) : rem (upd H p o) p = H := by
  funext a
  by_cases z : a = p
  · subst z; rw [rem_same, h]
  · rw [rem_ne z, upd_ne z]
abbrev SpI := List W → Nat → (List (Str × PyData) → Nat → Prop) → Prop
def spI (w : Wk) (C : Addr) (s : SpI) : Sp := fun vs H Q _ => ∃ (b : Option Addr) (F : Hp) (n : Nat) (p : Addr) (dx : Addr) (us : List V) (ws : List W) (P : List (Str × PyData) → Nat → Prop), vs = .ref p :: us ∧ some p ≠ b ∧ F p = none ∧ H p = some (.ins C dx []) ∧ Same F H ∧ BoxOk b F H n ∧ RelA w b F H us ws ∧ free ws = true ∧ s ws n P ∧
  ∀ F' H' m fs dx' vs', Step b F (rem H p) F' H' → BoxOk b F' H' m → F' p = none → H' p = some (.ins C dx' vs') → FD F' vs' fs → P fs m → Q .non H'
section
variable {P : Program} {w : World} {K : PySem.W.Frag} {mg : Str → Option Value} {base : Heap} {x qual : Str} {params : Arguments} {body : List Stmt} {scope : Scope} {f C : Addr} {fd : FuncData} {N ps : List Str} {k : Nat} {s : SpI} {g : TSd}
theorem fn_i (F : FunD K x qual params body scope [] [] f fd) (S : FnScope N ps scope) (len : ∀ ws n Q, s ws n Q → ws.length + 1 = ps.length) (h0 : N.length ≠ 0)
    (hbody : ∀ (cdv : Value) (A : Around) (outer : List Env) (st : Shared) (H : Hp) (E : XK), Room k (A.deeper (PyProof.Rows.envOfC qual scope st.heap.objs.size f cdv)) → DSs (cxOf CX0 P w K mg base N qual scope f cdv A outer st H E).nox body g)
    (hpf : ∀ ws n Q p, s ws n Q → g { nx := fun m ρ => ∃ fs, ρ[0]? = some (some (.oins p C fs)) ∧ Q fs m, rt := fun _ _ => False } n (startD N (.oins p C [] :: ws))) : FnOk P w K mg base CX0 (k + 1) f fd ps (spI ⟨w, K⟩ C s) := by
  refine F.ok S (fun vs H Q E h => ?_) (fun cdv A outer st H vs Q E hr h => ?_)
  · obtain ⟨b, F, n, p, dx, us, ws, P, rfl, _, _, _, _, _, r, _, hs, _⟩ := h
    rw [List.length_cons, rela_len r]
    exact len ws n P hs
  · obtain ⟨b, F, n, p, dx, us, ws, P, rfl, nb, hFp, hHp, hf, bx, r, fr, hs, q⟩ := h
    obtain ⟨t, pp, g1⟩ := hbody cdv A outer st H E hr
    refine ⟨t, PSs.nox pp, ?_⟩
    -- the start, as if the rest stood
    have k0 := start_ok (N := N) (w := ⟨w, K⟩) (vs := .ref p :: us) (ws := .dat .none :: ws) (F := F) (H := H) (n := n) (b := b)
    have hsl : ∀ (i : Nat) x, (startD N (.oins p C [] :: ws))[i]? = some (some x) → (i = 0 ∧ x = .oins p C []) ∨ ∃ j, i = j + 1 ∧ ws[j]? = some x := by
      intro i x e
      unfold startD at e
      rw [List.getElem?_append] at e
      split at e
      · rw [List.getElem?_map] at e
        cases i with
        | zero => simp at e; exact .inl ⟨rfl, e.symm⟩
        | succ j =>
          right
          refine ⟨j, rfl, ?_⟩
          cases h : ws[j]? with
          | none => simp [h] at e
          | some y => simp [h] at e; rw [e]
      · rw [List.getElem?_replicate] at e
        split at e <;> cases e
    have hst : Step b F (rem H p) F H := ⟨Same.refl F, hf, fun a o ea _ => by
        by_cases z : a = p
        · rw [z, rem_same] at ea; cases ea
        · rw [rem_ne z] at ea; exact ea, fun a ea h => absurd ea h, fun a ea => (bx a ea).1⟩
    have hl := rela_len r
    have rget : ∀ (us : List V) (ws : List W) (j : Nat) x, RelA ⟨w, K⟩ b F H us ws → ws[j]? = some x → ∃ v, us[j]? = some v ∧ RelW ⟨w, K⟩ b F H v x := by
      intro us ws j x r
      induction r generalizing j with
      | nil => intro e; simp at e
      | cons r t ih =>
        intro e
        cases j with
        | zero => simp at e; subst e; exact ⟨_, rfl, r⟩
        | succ j => simpa using ih (j := j) (by simpa using e)
    have nown : ∀ (j : Nat) x q, ws[j]? = some x → x.own ≠ some q := fun j x q e z => by
      have := List.all_eq_true.mp fr x (List.mem_of_getElem? e)
      rw [z] at this; cases this
    have k : Ok ⟨⟨w, K⟩, b, F, rem H p⟩ F H n (L2.start N (.ref p :: us)) (startD N (.oins p C [] :: ws)) := by
      refine ⟨hst, bx, by simp [L2.start, startD, hl], fun i x e => ?_, fun i x q e hq => ?_, fun i i' x x' q e e' hq hq' => ?_⟩
      · rcases hsl i x e with ⟨rfl, rfl⟩ | ⟨j, rfl, ej⟩
        · exact ⟨.ref p, by simp [L2.start], rfl, nb, hFp, dx, [], hHp, .nil⟩
        · obtain ⟨v, e1, rv⟩ := rget us ws j x r ej
          refine ⟨v, ?_, rv⟩
          unfold L2.start
          have hi : j + 1 < (V.ref p :: us).length := by have := (List.getElem?_eq_some_iff.mp e1).1; simpa using this
          rw [List.getElem?_append_left (by simpa using hi), List.getElem?_map, List.getElem?_cons_succ, e1]
          rfl
      · rcases hsl i x e with ⟨rfl, rfl⟩ | ⟨j, rfl, ej⟩
        · cases hq; exact rem_same
        · exact absurd hq (nown j x q ej)
      · rcases hsl i x e with ⟨rfl, rfl⟩ | ⟨j, rfl, ej⟩
        · rcases hsl i' x' e' with ⟨rfl, rfl⟩ | ⟨j', rfl, ej'⟩
          · rfl
          · exact absurd hq' (nown j' x' q ej')
        · exact absurd hq (nown j x q ej)
    refine g1 ⟨⟨w, K⟩, b, F, rem H p⟩ F H n _ _ _ _ rfl k ⟨fun F' H' m σ ρ _ k' h' => ?_, fun _ _ _ _ _ _ _ _ _ h' => (show False from h').elim, fun _ _ _ _ _ _ _ h' => (show False from h').elim, fun _ _ _ _ _ _ _ h' => (show False from h').elim⟩ (hpf ws n P p hs)
    obtain ⟨fs, e0, hP⟩ := h'
    obtain ⟨v, _, hv, _, hF', dx', vs', hH', hfd⟩ := k'.slot 0 _ e0
    exact q F' H' m fs dx' vs' k'.st k'.box hF' hH' hfd hP
end
/-- a class that can be made -/
structure IDef (P : Program) (w : World) (K : PySem.W.Frag) (mg : Str → Option Value) (base : Heap) (k : Nat) (x : Str) (ps : List Str) (s : SpI) : Prop where
  ex : ∃ fd, FnOk P w K mg base CX0 k (He.ma K (He.ga K x) "__init__") fd ps (spI ⟨w, K⟩ (He.ga K x) s) ∧ Binds K fd ps []
  at_ : mg x = some (.ref (He.ga K x))
  mkr : Mk K (He.ga K x) (He.ma K (He.ga K x) "__init__")
@[simp] def dMake (C : Addr) (s : SpI) (fa : TDa) : TD := fun n ρ P => fa n ρ fun xs m => free xs = true ∧ s xs m fun fs k => P (.ins C fs) k
section
variable {X : Cx} {pos p : Pos} {e : Expr} {es : List Expr} {fa : TDa} {ps : List Str} {x : Str} {j k : Nat} {s : SpI}
theorem de_makeD (D : IDef X.prog X.w X.K X.mg X.base j x ps s) (hr : Room k X.A) (ha : DA X (e :: es) fa) (hg : Gl X x := by rfl) (hj : j + 1 ≤ k := by first | assumption | decide)
    (hdb : (x == ("__debug__" : Str)) = false := by decide) (he : starEach (e :: es) X.env = (false, eval e X.env) :: starEach es X.env := by rfl) (hpl : (backTo pos (starEach es X.env)).any (·.1) = false := by rfl) :
    DE X (.Call (.Name x p) (e :: es) [] pos) (dMake (He.ga X.K x) s fa) := by
  obtain ⟨fd, F, b⟩ := D.ex
  obtain ⟨t, q1, g1⟩ := ha
  refine ⟨_, pe_make D.mkr F (hr.mono hj) hg D.at_ b .nil (E := E0) pass0 q1 hdb he hpl, fun g F0 H n σ ρ P Q hw k0 hh q => ?_⟩
  refine g1 g F0 H n σ ρ _ _ hw k0 hh fun vs F1 H1 m xs s1 b1 r1 hx => ?_
  intro a dx ha hd hne
  rw [List.append_nil]
  obtain ⟨s2, b2, hF2, nb2⟩ := new_step (o := .own a) s1.fr b1 hd
  have ha2 : upd H1 dx (.own a) a = none := by rw [upd_ne (Ne.symm hne)]; exact ha
  obtain ⟨s3, b3, hF3, nb3⟩ := new_step (o := .ins (He.ga X.K x) dx []) s2.fr b2 ha2
  refine ⟨g.b, F1, m, a, dx, vs, xs, _, rfl, nb3, hF3, upd_same, s3.fr, b3, paired_mono r1 fun _ _ z => (z.mono s2).mono s3, hx.1, hx.2, fun F' H' m' fs dx' vs' s4 b4 hF' hH' hfd hP => ⟨rfl, ?_⟩⟩
  rw [rem_upd ha2] at s4
  have sm : Same F' (upd F' a (.ins (He.ga X.K x) dx' vs')) := same_upd (Same.refl F') hF'
  have s5 : Step g.b F1 (upd H1 dx (.own a)) (upd F' a (.ins (He.ga X.K x) dx' vs')) H' := ⟨s4.ex.trans sm, fun c o ec => by
      by_cases z : c = a
      · subst z; rw [upd_same] at ec; cases ec; exact hH'
      · rw [upd_ne z] at ec; exact s4.fr c o ec, s4.keep, fun c ec hc => by
      by_cases z : c = a
      · rw [z]; exact ha2
      · rw [upd_ne z] at hc; exact s4.new c ec hc, fun c ec => by
      have z : c ≠ a := fun z => nb3 (by rw [← z, ec])
      rw [upd_ne z]; exact s4.bx c ec⟩
  refine q (.ref a) _ H' m' (.ins (He.ga X.K x) fs) ((s1.trans s2).trans s5) (fun c ec => ⟨s5.bx c ec, (b4 c ec).2⟩) ⟨a, dx', vs', rfl, upd_same, fd_mono sm hfd⟩ hP
end
/-! ### a keyword -/
structure KDef (P : Program) (w : World) (K : PySem.W.Frag) (mg : Str → Option Value) (base : Heap) (k : Nat) (x : Str) (ps : List Str) (n : Nat) (ks : List Str) (s : SpD) : Prop where
  ex : ∃ fd, FnOk P w K mg base CX0 k (He.ga K x) fd ps (spD ⟨w, K⟩ s) ∧ KBn K fd ps n ks (fun us ws => us ++ ws) (fun vs zs => vs ++ zs)
  at_ : mg x = some (.ref (He.ga K x))
  kp : PySem.W.keepIn K (.ref (He.ga K x)) = true
@[simp] def dCallK (nn : Nat) (s : SpD) (fa : TDa) (fk : TD) : TD := fun n ρ P => fa n ρ fun xs m => fk m ρ fun y j => xs.length = nn ∧ free (xs ++ [y]) = true ∧ s (xs ++ [y]) j P
theorem rela_app {w : Wk} {b : Option Addr} {F H : Hp} : ∀ {vs us : List V} {xs ys : List W}, RelA w b F H vs xs → RelA w b F H us ys → RelA w b F H (vs ++ us) (xs ++ ys)
  | _, _, _, _, .nil, s => s
  | _, _, _, _, .cons r t, s => .cons r (rela_app t s)
section
variable {X : Cx} {pos p kpos : Pos} {e ek : Expr} {es : List Expr} {fa : TDa} {fk f h : TD} {ps : List Str} {x nm : Str} {j k nn : Nat} {s : SpD}
theorem de_callKD (D : KDef X.prog X.w X.K X.mg X.base j x ps nn [nm] s) (hr : Room k X.A) (ha : DA X (e :: es) fa) (hk : DE X ek fk) (hg : Gl X x := by rfl) (hj : j ≤ k := by first | assumption | decide)
    (hall : (backToKw pos (keywordEach [⟨some nm, ek, kpos⟩] X.env)).all (·.1.isSome) = true := by rfl) (hks : (backToKw pos (keywordEach [⟨some nm, ek, kpos⟩] X.env)).filterMap (·.1) = [nm] := by rfl)
    (hdb : (x == ("__debug__" : Str)) = false := by decide) (he : starEach (e :: es) X.env = (false, eval e X.env) :: starEach es X.env := by rfl)
    (hpl : ((backTo pos (starEach (e :: es) X.env)).any (·.1) || (backToKw pos (keywordEach [⟨some nm, ek, kpos⟩] X.env)).any (·.1.isNone)) = false := by rfl) :
    DE X (.Call (.Name x p) (e :: es) [⟨some nm, ek, kpos⟩] pos) (dCallK nn s fa fk) := by
  obtain ⟨fd, F, b⟩ := D.ex
  obtain ⟨t, q1, g1⟩ := ha
  obtain ⟨u, q2, g2⟩ := hk
  refine ⟨_, pe_callN F (hr.mono hj) hg D.at_ D.kp b (E := E0) pass0 q1 (pk_cons q2 pk_nil) hall hks hdb he hpl, fun g F0 H n σ ρ P Q hw k0 hh q => ?_⟩
  refine g1 g F0 H n σ ρ _ _ hw k0 hh fun vs F1 H1 m xs s1 b1 r1 hx => ?_
  refine g2 g F1 H1 m σ ρ _ _ hw (k0.step s1 b1) hx fun v F2 H2 m2 y s2 b2 r2 hy => ?_
  obtain ⟨hl, hf, hs⟩ := hy
  refine ⟨(rela_len r1).trans hl, rfl, ?_⟩
  exact ⟨g.b, F2, m2, xs ++ [y], P, s2.fr, b2, rela_app (paired_mono r1 fun _ _ z => z.mono s2) (.cons r2 .nil), hf, hs, fun v F' H' j y s3 b3 r3 _ hy => q v F' H' j y ((s1.trans s2).trans s3) b3 r3 hy⟩
/-! ### one of several -/
@[simp] def dOr2 (f h : TD) : TD := fun n ρ P => f n ρ P ∨ h n ρ P
theorem de_or2 (h1 : DE X e f) (h2 : DE X e h) : DE X e (dOr2 f h) := by
  obtain ⟨t, p, g1⟩ := h1
  obtain ⟨u, p2, g2⟩ := h2
  refine ⟨fun σ H Q => t σ H Q ∨ u σ H Q, ⟨fun pins s σ H Q I hq => ?_⟩, fun g F H n σ ρ P Q hw k hh q => ?_⟩
  · rcases hq with hq | hq
    · exact p.run pins s σ H Q I hq
    · exact p2.run pins s σ H Q I hq
  · rcases hh with hh | hh
    · exact .inl (g1 g F H n σ ρ P Q hw k hh q)
    · exact .inr (g2 g F H n σ ρ P Q hw k hh q)
@[simp] def dCallL (i : Nat) (fn : Addr) (s : SpD) (fa : TDa) : TD := fun n ρ P => ρ[i]? = some (some (.fn fn)) ∧ fa n ρ fun xs m => free xs = true ∧ s xs m P
theorem de_callLD (i : Nat) {y : Str} (D : Def X.prog X.w X.K X.mg X.base j y ps s) (hr : Room k X.A) (ha : DA X (e :: es) fa) (hj : j ≤ k := by first | assumption | decide) (hN : X.N[i]? = some x := by rfl) (hv : Vis X.env.scope x := by first | exact Or.inl rfl | exact Or.inr (Or.inl rfl) | exact Or.inr (Or.inr rfl))
    (hdb : (x == ("__debug__" : Str)) = false := by decide) (hcd : (x == ("__classdict__" : Str)) = false := by decide) (he : starEach (e :: es) X.env = (false, eval e X.env) :: starEach es X.env := by rfl) (hpl : (backTo pos (starEach es X.env)).any (·.1) = false := by rfl) :
    DE X (.Call (.Name x p) (e :: es) [] pos) (dCallL i (He.ga X.K y) s fa) := by
  obtain ⟨fd, F, b⟩ := D.ex
  obtain ⟨t, q1, g1⟩ := ha
  refine ⟨_, pe_callL F (hr.mono hj) hN hv D.kp b .nil (E := E0) pass0 q1 hdb hcd he hpl, fun g F0 H n σ ρ P Q hw k0 hh q => ?_⟩
  obtain ⟨e0, hh⟩ := hh
  obtain ⟨v, e1, r0⟩ := k0.slot i _ e0
  have r0 : v = .ref (He.ga X.K y) := r0
  subst r0
  refine ⟨e1, ?_⟩
  refine g1 g F0 H n σ ρ _ _ hw k0 hh fun vs F1 H1 m xs s1 b1 r1 hx => ?_
  rw [List.append_nil]
  exact ⟨g.b, F1, m, xs, P, s1.fr, b1, r1, hx.1, hx.2, fun v F' H' j y s2 b2 r2 _ hy => q v F' H' j y (s1.trans s2) b2 r2 hy⟩
/-- a written dict with text keys, its values defs -/
@[simp] def dDoers (T : Str → Option Addr) (f : TD) : TD := fun n ρ P => f n ρ fun y m => ∃ z a, y = .dat (.str z) ∧ T z = some a ∧ P (.fn a) m
theorem de_doers {d : Addr} {dn : Str} {es : Array DictEntry} {nd : Nat} {T : Str → Option Addr} (D : KDict X.K X.w d es nd) (hT : ∀ z a, T z = some a → ∃ u, PySem.W.nsIn X.K d z = some (some u) ∧ RelV (.ref a) u) (hm : X.mg dn = some (.ref d)) (h : DE X e f) (hg : Gl X dn := by rfl)
    (hdb : (dn == ("__debug__" : Str)) = false := by decide) (hs : NoSl e := by exact fun _ _ => rfl) : DE X (.Subscript (.Name dn p) e pos) (dDoers T f) := by
  obtain ⟨t, q1, g1⟩ := h
  refine ⟨fun σ H Q => t σ H fun y H1 => ∃ z a, y = .str z ∧ T z = some a ∧ Q (.ref a) H1, ⟨fun pins s σ H Q I hq => ?_⟩, fun g F H n σ ρ P Q hw k hh q => ?_⟩
  · refine subD_of PySem.F.slot_dict_getitem.lookup hs (thn ((pe_glob (pos := p) hg hm (v := .ref d) rfl hdb).run pins s σ H (fun v H1 => v = .ref d ∧ H1 = H) I ⟨rfl, rfl⟩) fun u s1 ⟨x, H1, I1, rx, e1, e2⟩ => ?_)
    subst e1; subst e2
    obtain rfl : u = Value.ref d := rx
    refine thn (q1.run pins s1 σ _ _ I1 hq) fun iv s2 ⟨y, H2, I2, ry, z, a, ey, eT, q2⟩ => ?_
    subst ey
    refine ⟨kd_type D I2, ?_⟩
    obtain ⟨u0, h1, h2⟩ := hT z a eT
    exact op_item_kd D pins s2 σ H2 (.ref d) (.str z) _ _ Q I2 rfl ry ⟨z, u0, .ref a, rfl, rfl, h1, h2, q2⟩
  · refine g1 g F H n σ ρ _ _ hw k hh fun v F1 H1 m y s1 b1 r1 hy => ?_
    obtain ⟨z, a, rfl, eT, hP⟩ := hy
    obtain rfl := dq_str r1
    exact ⟨z, a, rfl, eT, q (.ref a) F1 H1 m (.fn a) s1 b1 rfl hP⟩
end
end DL
namespace WL
open PySem PySem.Spec PyProof.Rows L2 DL
section
variable {P : Program} {w : World} {K : PySem.W.Frag} {mg : Str → Option Value} {base : Heap}
theorem mkKDef (B : Bn K mg) (i : Nat) {x : Str} {s : Stmt} {ps : List Str} {sp : SpD} {k nn : Nat} {nm : Str} (hi : fnL[i]? = some ⟨(x, none), x, x, defArgs s, defBody s, defScope s, [], [("first", .non)]⟩) (hm : mg x = some (.ref (He.ga K x)))
    (hb : ∀ (kV doc pm : Value) (an : Option Addr) (cdv ct : Value) (us ws : List Value), us.length = nn → ws.length = 1 → bindArgs (PySem.W.fnOf x x (defArgs s) (defBody s) (defScope s) .none kV doc pm an cdv ct) ⟨us, [nm].zip ws⟩ = pure (ps.zip (us ++ ws)))
    (h : ∀ fd, FunD K x x (defArgs s) (defBody s) (defScope s) [] [("first", .non)] (He.ga K x) fd → FnOk P w K mg base CX0 k (He.ga K x) fd ps (spD ⟨w, K⟩ sp)) : KDef P w K mg base k x ps nn [nm] sp := by
  obtain ⟨fd, F⟩ := B.says.def_ i hi
  refine ⟨⟨fd, h fd F, ?_⟩, hm, F.kp⟩
  obtain ⟨oc, od, dV, kV, doc, pm, an, cdv, ct, osl, rfl, lk, hcd, hD, hK⟩ := F.ex
  rcases hD with ⟨_, rfl⟩ | ⟨e, _⟩
  · exact ⟨fun s us ws X h1 h2 => BindsTo.of_looks fun M => PySem.W.Looks.of_pure (hb kV doc pm an cdv ct us ws h1 h2), fun r1 r2 => r1.append r2⟩
  · exact absurd rfl e
theorem mkMDef (B : Bn K mg) (i : Nat) {m q : Str} {s : Stmt} {ps : List Str} {sp : SpD} {k : Nat} (hi : fnL[i]? = some ⟨("Tale", some m), m, q, defArgs s, defBody s, defScope s, [], []⟩) (hm : Meth K (He.ga K "Tale") m (He.ma K (He.ga K "Tale") m))
    (hb : ∀ fd, FunD K m q (defArgs s) (defBody s) (defScope s) [] [] (He.ma K (He.ga K "Tale") m) fd → Binds K fd ps []) (h : ∀ fd, FunD K m q (defArgs s) (defBody s) (defScope s) [] [] (He.ma K (He.ga K "Tale") m) fd → FnOk P w K mg base CX0 k (He.ma K (He.ga K "Tale") m) fd ps (spD ⟨w, K⟩ sp)) : MDef P w K mg base k (He.ga K "Tale") m ps sp := by
  obtain ⟨fd, F⟩ := B.says.def_ i hi
  exact ⟨⟨fd, h fd F, hb fd F⟩, B.cls, hm⟩
end
end WL
set_option Elab.async false
set_option linter.all false
set_option maxRecDepth 100000
set_option maxHeartbeats 4000000
/-! DX2: sorted(d.items()), keys texts, values ints. -/
namespace DT
open PySem PySem.Spec PyProof.Rows PySem.W L2
section
variable {prog : Program} {w : World} {A : Around} {E : Value → Shared → Prop} {s : Shared}
def PairSI (h : Heap) (v : Value) (y : Str) (m : Int) : Prop := ∃ (a : Addr) (t u : Tok), v = .ref a ∧ IsTup h a #[.str y t, .int m u]
def keySI (h : Heap) (v : Value) : Str := txOf (seqAt0 h (refOf (some v)))
theorem PairSI.tx {h : Heap} {v : Value} {y : Str} {m : Int} (x : PairSI h v y m) : keySI h v = y := by
  obtain ⟨a, t, u, rfl, h1⟩ := x
  show txOf (seqAt0 h a) = y
  rw [seqAt0_of h1]
  rfl
theorem firstsSI {h : Heap} : ∀ vs : List Value, (∀ v ∈ vs, ∃ y m, PairSI h v y m) → ∃ fs : List Value, KatTups h vs fs ∧ fs.length = vs.length ∧ ∀ f ∈ fs, ∃ (y : Str) (t : Tok), f = Value.str y t
  | [], _ => ⟨[], KatTups.nil, rfl, fun f hf => by simp at hf⟩
  | v :: vs, x => by
    obtain ⟨fs, k, hl, hi⟩ := firstsSI vs fun u hu => x u (List.mem_cons_of_mem _ hu)
    obtain ⟨y, m, a, t, u, rfl, o, ho, hc, n, hd⟩ := x v (List.mem_cons_self ..)
    refine ⟨.str y t :: fs, KatTups.cons ho hc hd rfl k, by rw [List.length_cons, List.length_cons, hl], fun f hf => ?_⟩
    rcases List.mem_cons.mp hf with rfl | hf
    · exact ⟨y, t, rfl⟩
    · exact hi f hf
theorem kindSI {vs : List Value} {ρ : Str → Int} {M : Str → Int} (h2 : 2 ≤ vs.length) (x : ∀ v ∈ vs, ∃ y, PairSI s.heap v y (M y))
    (hρ : ∀ v ∈ vs, ∀ u ∈ vs, decide ((keySI s.heap v).cps.toList < (keySI s.heap u).cps.toList) = decide (ρ (keySI s.heap v) < ρ (keySI s.heap u))) (Q : SortKind → Shared → Prop)
    (h : ∀ κ, TS.Cmp prog w A s κ (pairsOf vs) (fun v => ρ (keySI s.heap v)) → Q κ s) : wpAny (model prog w) A (keyKind' vs.toArray) Q E s := by
  obtain ⟨fs, k, hl, hi⟩ := firstsSI vs fun v hv => let ⟨y, e⟩ := x v hv; ⟨y, _, e⟩
  refine kat_kind (T := Value.type "str") k (by omega) (fun f hf => ?_) rfl (h _ ?_)
  · obtain ⟨y, t, rfl⟩ := hi f hf
    exact PySem.W.Looks.of_pure rfl
  · have hb : (Value.type "str" != Value.type "tuple") = true := by first | rfl | decide | simp
    rw [hb]
    intro p q hp hq Q' E' hQ
    rw [pairsOf_toList] at hp hq
    have mp := (mem_zip_self hp).2
    have mq := (mem_zip_self hq).2
    obtain ⟨y, py⟩ := x _ mp
    obtain ⟨z, pz⟩ := x _ mq
    have hr := hρ _ mp _ mq
    have hQ' : Q' (decide (y.cps.toList < z.cps.toList)) s := by
      rw [py.tx, pz.tx] at hr
      rw [hr]
      have hQ2 : Q' (decide (ρ (keySI s.heap p.1) < ρ (keySI s.heap q.1))) s := hQ
      rw [py.tx, pz.tx] at hQ2
      exact hQ2
    obtain ⟨a, t, u, e1, ⟨o, ho, hc, n, hd⟩⟩ := py
    obtain ⟨a', t', u', e2, ⟨o', ho', hc', n', hd'⟩⟩ := pz
    rw [e1, e2]
    refine kat_lt ho hd ho' hd' ?_
    show KatLex prog w A true false Q' [(Value.str y t, Value.str z t'), (Value.int (M y) u, Value.int (M z) u')] 0 s
    by_cases e : y = z
    · have irr : decide (y.cps.toList < z.cps.toList) = false := by
        rw [e]
        first | exact decide_eq_false (List.lt_irrefl _) | simp
      rw [irr] at hQ'
      subst e
      have e1 := SeqAt.EqAt.str_str (A := A) (s := s) y t y t'
      rw [show (y == y) = true from beq_self_eq_true y] at e1
      have e2 := SeqAt.EqAt.int_int (A := A) (s := s) (M y) u (M y) u'
      rw [show (M y == M y) = true from beq_self_eq_true _] at e2
      exact kat_cons (e1 prog w _ _ (kat_yes (kat_cons (e2 prog w _ _ (kat_yes (kat_nil hQ'))))))
    · have e1 := SeqAt.EqAt.str_str (A := A) (s := s) y t z t'
      rw [show (y == z) = false from beq_eq_false_iff_ne.mpr e] at e1
      refine kat_cons (e1 prog w _ _ (kat_no ?_))
      show wpAny _ _ (oneLt' true _ _) _ _ _
      exact PyProof.Rows.oneLt_str hQ'
end
end DT
namespace L2
open PySem PySem.Spec PyProof.Rows L2.DX
/-! ### ranks of texts -/
theorem str_lt_trans {a b c : List Nat} (h1 : a < b) (h2 : b < c) : a < c := List.lt_trans h1 h2
theorem str_tri (a b : List Nat) : a < b ∨ a = b ∨ b < a := by
  rcases Decidable.em (a < b) with h | h
  · exact .inl h
  · rcases Decidable.em (b < a) with h' | h'
    · exact .inr (.inr h')
    · exact .inr (.inl (List.le_antisymm (List.not_lt.mp h') (List.not_lt.mp h)))
def rkS (l : List Str) (y : Str) : Int := ((l.filter fun x => decide (x.cps.toList < y.cps.toList)).length : Int)
theorem filter_le {α : Type} {p q : α → Bool} (h : ∀ a, p a = true → q a = true) : ∀ l : List α, (l.filter p).length ≤ (l.filter q).length
  | [] => Nat.le_refl _
  | a :: l => by
    have ih := filter_le h l
    rw [List.filter_cons, List.filter_cons]
    cases hp : p a with
    | true => simp only [if_true, h a hp, List.length_cons]; omega
    | false =>
      cases hq : q a with
      | true => simp only [Bool.false_eq_true, if_false, if_true, List.length_cons]; omega
      | false => simpa using ih
theorem filter_lt {α : Type} {p q : α → Bool} (h : ∀ a, p a = true → q a = true) : ∀ {l : List α} {b : α}, b ∈ l → p b = false → q b = true → (l.filter p).length < (l.filter q).length
  | a :: l, b, hm, hb, hb' => by
    rw [List.filter_cons, List.filter_cons]
    rcases List.mem_cons.mp hm with e | hm
    · subst e
      rw [hb, hb']
      have := filter_le h l
      simp only [Bool.false_eq_true, if_false, if_true, List.length_cons]; omega
    · have ih := filter_lt h hm hb hb'
      cases hp : p a with
      | true => simp only [if_true, h a hp, List.length_cons]; omega
      | false =>
        cases hq : q a with
        | true => simp only [Bool.false_eq_true, if_false, if_true, List.length_cons]; omega
        | false => simpa using ih
theorem rkS_lt {l : List Str} {y z : Str} (hy : y ∈ l) (hz : z ∈ l) : decide (y.cps.toList < z.cps.toList) = decide (rkS l y < rkS l z) := by
  unfold rkS
  by_cases h : y.cps.toList < z.cps.toList
  · have : (l.filter fun x => decide (x.cps.toList < y.cps.toList)).length < (l.filter fun x => decide (x.cps.toList < z.cps.toList)).length :=
      filter_lt (fun a ha => decide_eq_true (str_lt_trans (of_decide_eq_true ha) h)) hy (decide_eq_false (List.lt_irrefl _)) (decide_eq_true h)
    rw [decide_eq_true h, decide_eq_true (by omega)]
  · have : (l.filter fun x => decide (x.cps.toList < z.cps.toList)).length ≤ (l.filter fun x => decide (x.cps.toList < y.cps.toList)).length := by
      refine filter_le (fun a ha => decide_eq_true ?_) l
      have ha := of_decide_eq_true ha
      rcases str_tri y.cps.toList z.cps.toList with h1 | h1 | h1
      · exact absurd h1 h
      · rw [h1]; exact ha
      · exact str_lt_trans ha h1
    rw [decide_eq_false h, decide_eq_false (by omega)]

section
variable {X : Cx}
def rItemsK : V → List V → Hp → VK → Prop := fun x xs H Q => ∃ (a : Addr) (kvs : List (L2.Key × V)), x = .ref a ∧ xs = [] ∧ H a = some (.dK kvs) ∧ ∀ p, H p = none → Q (.ref p) (upd H p (itemsO p a))
theorem mt_itemsK : MtR X "dict.items" rItemsK := by
  intro pins s σ H x xs v us Q I rx rxs h
  obtain ⟨a, kvs, rfl, rfl, ha, q⟩ := h
  cases rx
  cases rxs
  obtain ⟨z, hd, xs', rel, o, es, ep, ho, hx, hdat, _⟩ := dk_rd I.hok (.inl ha)
  refine DT.callItems (es := es) (ep := ep) hd ⟨o, ho, hx, hdat⟩ ?_
  have hf : H s.heap.objs.size = none := I.hok.fresh (Nat.le_refl _)
  exact ⟨.ref s.heap.objs.size, upd H s.heap.objs.size (itemsO s.heap.objs.size a), I.laid (t' := s.toks) (fun b u e => Heap.get?_push_of_some _ e) (Nat.le_refl _) (itemsO_ok (Heap.get?_push_size _ rfl)), rfl, q _ hf⟩
/-- new frozen tuples that were laid -/
theorem takeF {pins : List (Addr × Obj)} {σ : St} {H0 : Hp} {s : Shared} {h' : Heap} {tk : Nat} {P : Addr → Obj → List V → Prop} (I0 : Inv X pins σ H0 s) : ∀ (L : List Addr) (H1 : Hp), Inv X pins σ H1 { s with heap := h', toks := tk } → L.Nodup →
    (∀ a ∈ L, s.heap.objs.size ≤ a ∧ H1 a = none ∧ ∃ ob vs, P a ob vs ∧ ∀ H2, ObjOk X.prog X.w H2 h' a (.frz ob (.tup vs))) →
    ∃ H2, Inv X pins σ H2 { s with heap := h', toks := tk } ∧ (∀ b o, H1 b = some o → H2 b = some o) ∧ ∀ a ∈ L, ∃ ob vs, P a ob vs ∧ H2 a = some (.frz ob (.tup vs))
  | [], H1, I1, _, _ => ⟨H1, I1, fun _ _ e => e, fun _ h => nomatch h⟩
  | a :: L, H1, I1, hn, h => by
    obtain ⟨hb, hnone, ob, vs, hP, ok⟩ := h a (List.mem_cons_self ..)
    have I2 : Inv X pins σ (upd H1 a (.frz ob (.tup vs))) { s with heap := h', toks := tk } := I1.take (h' := h') (t' := tk) (fun b ob _ e => e) (I0.fpOk hb hnone) (ok _)
    rw [List.nodup_cons] at hn
    obtain ⟨H2, I3, g, q⟩ := takeF I0 L (upd H1 a (.frz ob (.tup vs))) I2 hn.2 fun c hc => by
      obtain ⟨c1, c2, c3⟩ := h c (List.mem_cons_of_mem _ hc)
      exact ⟨c1, by rw [upd_ne (fun z => hn.1 (by rw [← z]; exact hc))]; exact c2, c3⟩
    refine ⟨H2, I3, fun b o e => g b o (by rw [upd_ne (ne_of_none e hnone)]; exact e), fun c hc => ?_⟩
    rcases List.mem_cons.mp hc with rfl | hc
    · exact ⟨ob, vs, hP, g _ _ upd_same⟩
    · exact q c hc
abbrev entS (e : Str × Int) : L2.Key × V := (Sum.inr e.1, V.int e.2)
def rSortItK : List V → Hp → VK → Prop := fun vs H Q => ∃ (p a : Addr) (ks : List (Str × Int)), vs = [.ref p] ∧ H p = some (itemsO p a) ∧ H a = some (.dK (ks.map entS)) ∧ ks.length < 64 ∧ (ks.map (·.1)).Nodup ∧
  ∀ (H' : Hp) (l : Addr) (ps : List (Addr × Str × Int)), (∀ b o, H b = some o → H' b = some o) → (ps.map (·.2)).Perm ks → (ps.map (·.2)).Pairwise (fun e f => ¬ f.1.cps.toList < e.1.cps.toList) → H l = none → H' l = some (.lst (ps.map fun z => V.ref z.1)) →
    (∀ z ∈ ps, H z.1 = none ∧ ∃ ob, ob.dict = none ∧ H' z.1 = some (.frz ob (.tup [.str z.2.1, .int z.2.2]))) → Q (.ref l) H'
/-- the j-th entry -/
theorem pairs_at {P : Program} {w : World} : ∀ {es : List DictEntry} {vs : List (L2.Key × Value)} {ks : List (Str × Int)} {j : Nat} {en : DictEntry}, Pairs (mixKind P w) es vs → KV (ks.map entS) vs → es[j]? = some en → ∃ (e : Str × Int) (t u : Tok), ks[j]? = some e ∧ en.key = .str e.1 t ∧ en.val = .int e.2 u
  | _, _, [], _, _, .nil, _, h => by simp at h
  | _, _, k :: ks, _, _, .nil, r, h => by simp at h
  | _ :: _, _ :: _, [], _, _, .cons _ _ _, r, h => by cases r
  | en0 :: es, kv :: vs, k :: ks, 0, en, .cons h1 h2 t, .cons r rt, h => by
    simp at h; subst h
    obtain ⟨r1, r2⟩ := r
    have r1 : Sum.inr k.1 = kv.1 := r1
    have r2 : RelV (V.int k.2) kv.2 := r2
    obtain ⟨u, r2⟩ := r2
    rw [← r1] at h1
    have h1 : keyIs (Sum.inr k.1) en0.key = true := h1
    rcases keyIs_shape h1 with ⟨i, t, e, _⟩ | ⟨x, t, e, e'⟩
    · cases e
    · cases e
      exact ⟨k, t, u, rfl, e', h2.trans r2⟩
  | en0 :: es, kv :: vs, k :: ks, j + 1, en, .cons h1 h2 t, .cons r rt, h => by
    obtain ⟨e, t, u, h1, h2, h3⟩ := pairs_at (ks := ks) (j := j) t rt (by simpa using h)
    exact ⟨e, t, u, by simpa using h1, h2, h3⟩
theorem pairs_len {P : Program} {w : World} : ∀ {es : List DictEntry} {vs : List (L2.Key × Value)}, Pairs (mixKind P w) es vs → es.length = vs.length
  | _, _, .nil => rfl
  | _, _, .cons _ _ t => by simp [pairs_len t]
def valSI (ks : List (Str × Int)) (y : Str) : Int := ((ks.find? fun e => decide (e.1 = y)).map (·.2)).getD 0
theorem valSI_at : ∀ {ks : List (Str × Int)} {e : Str × Int}, (ks.map (·.1)).Nodup → e ∈ ks → valSI ks e.1 = e.2
  | k :: ks, e, hn, hm => by
    rw [List.map_cons, List.nodup_cons] at hn
    unfold valSI
    by_cases h : k.1 = e.1
    · rw [List.find?_cons_of_pos (by simpa using h)]
      rcases List.mem_cons.mp hm with z | z
      · subst z; rfl
      · exact absurd (List.mem_map.mpr ⟨e, z, h.symm⟩) hn.1
    · rw [List.find?_cons_of_neg (by simpa using h)]
      rcases List.mem_cons.mp hm with z | z
      · subst z; exact absurd rfl h
      · exact valSI_at hn.2 z
theorem cr_sortedItemsK (hc : X.calm = true) : CallR X (.builtin "sorted") rSortItK := by
  intro pins s σ H xs us Q I r h
  obtain ⟨p, a, ks, rfl, hp, ha, h64, hnd, q⟩ := h
  obtain rfl := Vals.ref1 r
  have view : s.heap.IsItemsView p a := (show ObjOk X.prog X.w H s.heap p (itemsO p a) from I.hok p _ hp).1
  obtain ⟨z, hd, xs', rel, o, es, ep, ho, hx, hdat, _, hes, hn⟩ := dk_rd I.hok (.inl ha)
  have l1 : (ks.map entS).length = xs'.length := Paired.length rel
  rw [List.length_map] at l1
  have l2 : es.size = xs'.length := by rw [← pairs_len hes, Array.length_toList]
  have hh : X.A.handled = none := I.ok.hd hc
  refine DT.sortedI (es := es) (ep := ep) hh view ⟨o, ho, hx, hdat⟩ (by rw [sizeLine_eq]; omega) fun h' tk as hk hlt hl hG => ?_
  have lak : as.length = ks.length := by omega
  have nd : as.Nodup := List.Pairwise.imp (fun h => Nat.ne_of_lt h) hG.rise
  -- the pairs that were made
  have pr : ∀ (j : Nat) (b : Addr), as[j]? = some b → ∃ (e : Str × Int) (t u : Tok), ks[j]? = some e ∧ h'.get? b = some { cls := .type "tuple", data := .seq #[Value.str e.1 t, Value.int e.2 u] } := by
    intro j b hj
    obtain ⟨en, he, hg⟩ := hG.pairs j b hj
    obtain ⟨e, t, u, h1, h2, h3⟩ := pairs_at (j := j) (en := en) hes rel (by rw [Array.getElem?_toList]; exact he)
    exact ⟨e, t, u, h1, by rw [hg, h2, h3]⟩
  -- the heap of the sort
  have hob : (h'.push { cls := .type "list", data := .seq (as.map Value.ref).toArray }).get? h'.objs.size = some (seqObj "list" (as.map Value.ref).toArray 0) := Heap.get?_push_size _ rfl
  have kb : ∀ b o, s.heap.get? b = some o → (h'.push { cls := .type "list", data := .seq (as.map Value.ref).toArray }).get? b = some o := fun b o e => Heap.get?_push_of_some _ (hk b o e)
  have ne0 : ∀ b o, h'.get? b = some o → b ≠ h'.objs.size := fun b o e => Nat.ne_of_lt (Heap.lt_size e)
  generalize hh2 : h'.push { cls := .type "list", data := .seq (as.map Value.ref).toArray } = h2 at hob kb ⊢
  have ka : ∀ b o, h'.get? b = some o → h2.get? b = some o := fun b o e => by rw [← hh2]; exact Heap.get?_push_of_some _ e
  have pin : ∀ (j : Nat) (b : Addr), as[j]? = some b → ∃ e : Str × Int, ks[j]? = some e ∧ DT.PairSI (TS.midHeap h2 h'.objs.size (as.map Value.ref)) (.ref b) e.1 e.2 := by
    intro j b hj
    obtain ⟨e, t, u, he, hg⟩ := pr j b hj
    exact ⟨e, he, b, t, u, rfl, ⟨_, TS.midHeap_old (ne0 _ _ hg) (ka _ _ hg), rfl, 0, rfl⟩⟩
  have tx : ∀ (j : Nat) (b : Addr) (e : Str × Int), as[j]? = some b → ks[j]? = some e → DT.keySI (TS.midHeap h2 h'.objs.size (as.map Value.ref)) (.ref b) = e.1 := by
    intro j b e hj he
    obtain ⟨e', he', hp'⟩ := pin j b hj
    have ee : e' = e := Option.some.inj (he'.symm.trans he)
    rw [← ee]
    exact hp'.tx
  have at_ : ∀ v ∈ as.map Value.ref, ∃ (j : Nat) (b : Addr) (e : Str × Int), v = .ref b ∧ as[j]? = some b ∧ ks[j]? = some e := by
    intro v hv'
    obtain ⟨b, hb, rfl⟩ := List.mem_map.mp hv'
    obtain ⟨j, hj⟩ := List.mem_iff_getElem?.mp hb
    obtain ⟨e, _, _, he, _⟩ := pr j b hj
    exact ⟨j, b, e, rfl, hj, he⟩
  have key_mem : ∀ {j : Nat} {e : Str × Int}, ks[j]? = some e → e.1 ∈ ks.map (·.1) := fun he => List.mem_map.mpr ⟨_, List.mem_of_getElem? he, rfl⟩
  refine wpAny_call_entry PyProof.Rows.slot_list_sort ⟨_, hob, rfl⟩ PyProof.Rows.entry_list_sort
    (SK.plain_sort (s := { s with heap := h2, toks := tk }) (r := fun v => rkS (ks.map (·.1)) (DT.keySI (TS.midHeap h2 h'.objs.size (as.map Value.ref)) v)) hob (by rw [List.length_map]; omega) (fun h2' Qk hQk => ?_) fun ps out o1 o2 o3 => ⟨.none, rfl, ?_⟩) (PyProof.Rows.args_list_sort _)
  · refine DT.kindSI (s := { s with heap := TS.midHeap h2 h'.objs.size (as.map Value.ref), toks := tk }) (ρ := rkS (ks.map (·.1))) (M := valSI ks) h2' (fun v hv' => ?_) (fun v hv' u hu' => ?_) Qk hQk
    · obtain ⟨j, b, e, rfl, hj, he⟩ := at_ v hv'
      obtain ⟨e', he', hp'⟩ := pin j b hj
      exact ⟨e'.1, by rw [valSI_at hnd (List.mem_of_getElem? he')]; exact hp'⟩
    · obtain ⟨j, b, e, rfl, hj, he⟩ := at_ v hv'
      obtain ⟨j2, b2, e2, rfl, hj2, he2⟩ := at_ u hu'
      rw [tx j b e hj he, tx j2 b2 e2 hj2 he2]
      exact rkS_lt (key_mem he) (key_mem he2)
  · show EP X pins σ Q (.ref h'.objs.size) { s with heap := sortedHeap h2 h'.objs.size (as.map Value.ref) out, toks := tk }
    obtain ⟨zs, pz, ez⟩ := perm_lift (fun z : Addr × Str × Int => (Value.ref z.1, Value.ref z.1)) o2 (as.zip ks) (zip_self Value.ref as ks lak)
    have idx : ∀ z ∈ zs, ∃ j : Nat, as[j]? = some z.1 ∧ ks[j]? = some z.2 := by
      intro z' hz'
      obtain ⟨j, hj⟩ := List.mem_iff_getElem?.mp (pz.mem_iff.mp hz')
      exact ⟨j, List.getElem?_zip_eq_some.mp hj⟩
    have hout : out.toList = zs.map fun z => Value.ref z.1 := by
      rw [o1, ← ez, List.map_map]
      all_goals rfl
    have hperm : (zs.map (·.2)).Perm ks := by
      have e := pz.map (·.2)
      have m2 : (as.zip ks).map (·.2) = ks := List.map_snd_zip (by rw [lak]; exact Nat.le_refl _)
      rw [m2] at e
      exact e
    have hsort : (zs.map (·.2)).Pairwise (fun e f => ¬ f.1.cps.toList < e.1.cps.toList) := by
      rw [← ez, List.pairwise_map] at o3
      rw [List.pairwise_map]
      refine List.Pairwise.imp_of_mem (fun {x y} hx hy h => ?_) o3
      obtain ⟨j, j1, j2⟩ := idx x hx
      obtain ⟨i, i1, i2⟩ := idx y hy
      have h' : rkS (ks.map (·.1)) (DT.keySI (TS.midHeap h2 h'.objs.size (as.map Value.ref)) (.ref x.1)) ≤ rkS (ks.map (·.1)) (DT.keySI (TS.midHeap h2 h'.objs.size (as.map Value.ref)) (.ref y.1)) := h
      rw [tx j _ _ j1 j2, tx i _ _ i1 i2] at h'
      intro hlt
      have := rkS_lt (key_mem i2) (key_mem j2)
      rw [decide_eq_true hlt] at this
      have := of_decide_eq_true this.symm
      omega
    -- behind the sort
    have kF : ∀ b o, b ≠ h'.objs.size → h2.get? b = some o → (sortedHeap h2 h'.objs.size (as.map Value.ref) out).get? b = some o := fun b o hb e => (PyProof.Rows.sortedHeap_old hb (Heap.lt_size e)).trans e
    have kS : ∀ b o, s.heap.get? b = some o → (sortedHeap h2 h'.objs.size (as.map Value.ref) out).get? b = some o := fun b o e => kF b o (ne0 _ _ (hk b o e)) (kb b o e)
    obtain ⟨eF, heF⟩ := PyProof.Rows.sortedHeap_at (vs := as.map Value.ref) (out := out) hob
    have I1 : Inv X pins σ H { s with heap := sortedHeap h2 h'.objs.size (as.map Value.ref) out, toks := tk } := I.kept (t' := tk) kS
    have hn0 : H h'.objs.size = none := I.hok.fresh (Nat.le_of_lt hlt)
    have hlen : (zs.map fun z => V.ref z.1).length ≤ sizeLine := by
      have e := hperm.length_eq
      rw [List.length_map] at e
      rw [List.length_map, sizeLine_eq]
      omega
    have rv : Vals (zs.map fun z => V.ref z.1) out.toList := by
      rw [hout]
      exact vals_maps (fun z : Addr × Str × Int => V.ref z.1) (fun z => Value.ref z.1) zs fun _ _ => rfl
    have I2 : Inv X pins σ (upd H h'.objs.size (.lst (zs.map fun z => V.ref z.1))) { s with heap := sortedHeap h2 h'.objs.size (as.map Value.ref) out, toks := tk } :=
      I1.take (h' := sortedHeap h2 h'.objs.size (as.map Value.ref) out) (t' := tk) (fun b ob _ e => e) (I.fpOk (Nat.le_of_lt hlt) hn0) ⟨hlen, out.toList, eF, rv, heF⟩
    obtain ⟨H2, I3, g, qt⟩ := takeF (P := fun b ob vs => ob.dict = none ∧ ∃ (j : Nat) (e : Str × Int), as[j]? = some b ∧ ks[j]? = some e ∧ vs = [.str e.1, .int e.2]) I as _ I2 nd fun b hb => by
      obtain ⟨j, hj⟩ := List.mem_iff_getElem?.mp hb
      obtain ⟨e, t, u, he, hg⟩ := pr j b hj
      have hbl : s.heap.objs.size ≤ b := Nat.le_of_lt (hG.above b hb)
      refine ⟨hbl, ?_, { cls := .type "tuple", data := .seq #[Value.str e.1 t, Value.int e.2 u] }, [.str e.1, .int e.2], ⟨rfl, j, e, hj, he, rfl⟩, fun H3 => ⟨kF _ _ (ne0 _ _ hg) (ka _ _ hg), (by rw [sizeLine_eq]; show 2 ≤ 16777216; omega), [Value.str e.1 t, Value.int e.2 u], .cons ⟨t, rfl⟩ (.cons ⟨u, rfl⟩ .nil), ⟨_, kF _ _ (ne0 _ _ hg) (ka _ _ hg), rfl, 0, rfl⟩⟩⟩
      rw [upd_ne (ne0 _ _ hg)]
      exact I.hok.fresh hbl
    have gr : ∀ b o, H b = some o → H2 b = some o := fun b o e => g b o (by rw [upd_ne (ne_of_none e hn0)]; exact e)
    refine ⟨.ref h'.objs.size, H2, I3, rfl, q H2 h'.objs.size zs gr hperm hsort hn0 (g _ _ upd_same) fun z' hz' => ?_⟩
    obtain ⟨i, i1, i2⟩ := idx z' hz'
    obtain ⟨ob, vs, ⟨hob', j, e, j1, j2, ev⟩, hH⟩ := qt z'.1 (List.mem_of_getElem? i1)
    have eij : i = j := (List.getElem?_inj (List.getElem?_eq_some_iff.mp i1).1 nd).mp (i1.trans j1.symm)
    subst eij
    have ee : e = z'.2 := Option.some.inj (j2.symm.trans i2)
    rw [ev, ee] at hH
    exact ⟨I.hok.fresh (Nat.le_of_lt (hG.above z'.1 (List.mem_of_getElem? i1))), ob, hob', hH⟩
end
end L2
set_option Elab.async false
set_option linter.all false
set_option maxRecDepth 100000
set_option maxHeartbeats 4000000
/-! DX3: dict(a tuple of pairs), len(set(ints)). -/
namespace L2
open PySem PySem.Spec PyProof.Rows
section
variable {X : Cx}
theorem pairs_of2 {pins : List (Addr × Obj)} {σ : St} {H : Hp} {s : Shared} (I : Inv X pins σ H s) : ∀ {ps : List Addr} {kvs : List (Key × V)}, Paired (fun p kv => SqT X.K H p [kV kv.1, kv.2]) ps kvs →
    ∃ (prs : List (Key × Value)) (uvs : List (Value × Value)), KV kvs prs ∧ prs.length = ps.length ∧ uvs.length = ps.length ∧ ∀ (j : Nat) (k v : Value), uvs[j]? = some (k, v) → ∃ (b : Addr) (key : Key), ps[j]? = some b ∧ IsTup s.heap b #[k, v] ∧ prs[j]? = some (key, v) ∧ keyIs key k = true
  | _, _, .nil => ⟨[], [], .nil, rfl, rfl, fun j k v e => by simp at e⟩
  | _, _, .cons (a := p) (b := kv) h t => by
    obtain ⟨prs, uvs, r, hl, hl2, hp⟩ := pairs_of2 I t
    obtain ⟨its, rv, ht, _⟩ := I.tuple h
    obtain ⟨u, y, ei, ru, ry⟩ := vals2 rv
    subst ei
    refine ⟨(kv.1, y) :: prs, (u, y) :: uvs, .cons ⟨rfl, ry⟩ r, by rw [List.length_cons, List.length_cons, hl], by rw [List.length_cons, List.length_cons, hl2], fun j k v e => ?_⟩
    cases j with
    | zero =>
      have e' : (u, y) = (k, v) := Option.some.inj e
      cases e'
      exact ⟨p, kv.1, rfl, ht, rfl, kV_is (P := X.prog) (w := X.w) ru⟩
    | succ j =>
      obtain ⟨b, key, e1, e2, e3, e4⟩ := hp j k v (by simpa using e)
      exact ⟨b, key, by simpa using e1, e2, by simpa using e3, e4⟩
def rDictTP (K : PySem.W.Frag) : List V → Hp → VK → Prop := fun xs H Q => ∃ (a : Addr) (ob : Obj) (ps : List Addr) (kvs : List (Key × V)), xs = [.ref a] ∧ H a = some (.frz ob (.tup (ps.map V.ref))) ∧ ob.dict = none ∧ Paired (fun p kv => SqT K H p [kV kv.1, kv.2]) ps kvs ∧
    ∀ p, H p = none → Q (.ref p) (upd H p (.dK (mergeK [] kvs)))
/-- dict(xs) of a tuple of pairs (key, value) -/
theorem call_dictTP (hcalm : X.calm = true) : CallR X (.type "dict") (rDictTP X.K) := by
  intro pins s σ H xs us Q I r q
  obtain ⟨a, ob, ps, kvs, ex, hq, hob, hp, q⟩ := q
  subst ex
  obtain ⟨u, eu, rx⟩ := vals1 r
  subst eu
  cases rx
  obtain ⟨hg, hz, its, rv, o, ho, hc, n, hdat⟩ := (show ObjOk X.prog X.w H s.heap a (.frz ob (.tup (ps.map V.ref))) from I.hok a _ hq)
  rw [hg] at ho
  cases ho
  have ei := refs_at rv
  subst ei
  rw [List.length_map] at hz
  obtain ⟨prs, uvs, rel, hl, hl2, hpr⟩ := pairs_of2 I hp
  have hsome : ∀ j, j < uvs.length → ∃ b, ps[j]? = some b := fun j hj => ⟨ps[j]'(by omega), by simp [show j < ps.length by omega]⟩
  refine PySem.call_dict_pairs (knd := mixKind X.prog X.w) (kvs := prs) (n := uvs.length) (PairArg.tuple a (ps.map Value.ref).toArray (fun j => ps.getD j 0) uvs) (I.ok.hd hcalm) ⟨⟨ob, n, hg, hc, hob, hdat⟩, by simp [hl2], fun j k v e => ?_⟩ ⟨by omega, fun j k v e => ?_⟩ (by omega) fun h' tk hd' k => ?_
  · obtain ⟨b, key, e1, ⟨o2, h2, c2, n2, d2⟩, e3, e4⟩ := hpr j k v e
    refine ⟨by simp [e1], .inl ?_⟩
    show s.heap.IsTuple (ps.getD j 0) #[k, v]
    rw [List.getD_eq_getElem?_getD, e1]
    exact ⟨o2, h2, c2, n2, d2⟩
  · obtain ⟨b, key, e1, e2, e3, e4⟩ := hpr j k v e
    exact ⟨key, e3, e4⟩
  · have hm : (s.heap.objs.size == sysModules) = false := beq_eq_false_iff_ne.mpr (Nat.ne_of_gt I.big)
    have hlen : (mergeK [] kvs).length ≤ sizeLine := by
      refine Nat.le_trans (length_mergeK kvs []) ?_
      rw [List.length_nil, Nat.zero_add, rel.length, hl]
      exact hz
    exact ⟨.ref s.heap.objs.size, upd H s.heap.objs.size (.dK (mergeK [] kvs)), I.laid (t' := tk) (fun b o e => k b o (by simp) e) (Nat.le_refl _) (show ObjOk X.prog X.w _ _ _ (.dK (mergeK [] kvs)) from ⟨hlen, hm, merged [] prs, KV.merge rel .nil, hd'⟩), rfl, q _ (I.hok.fresh (Nat.le_refl _))⟩
/-- how many different ones -/
def dst (ns : List Int) : Nat := (PyProof.Rows.firstMet (fun i => ns.getD i 0) ns.length).length
def tLenSetG (K : PySem.W.Frag) (ta : TE) : TE := fun σ H Q => ta σ H fun x H1 => ∃ (l : Addr) (ns : List Int), x = V.ref l ∧ SqL K H1 l (ns.map V.int) ∧ ns.length < 4000 ∧ Q (.int (dst ns : Nat)) H1
theorem pe_lenSetG {a : Expr} {ta : TE} {p p2 q pos : Pos} (hc : X.calm = true) (hg : Gl X "len") (hm : X.mg "len" = none) (hg2 : Gl X "set") (hm2 : X.mg "set" = none) (ha : PE X a ta)
    (na : starEach [a] X.env = (false, eval a X.env) :: starEach [] X.env := by rfl) : PE X (.Call (.Name "len" p) [.Call (.Name "set" p2) [a] [] q] [] pos) (tLenSetG X.K ta) := by
  refine ⟨fun pins s σ H Q I h => ?_⟩
  refine Call_ (ld_blt I hg hm PySem.boot_len ?_)
  refine PyProof.Rows.callWith_builtin1 (PyProof.Rows.args_cons ?_ rfl) rfl rfl
  refine Call_ (ld_blt I hg2 hm2 PyProof.Rows.boot_set ?_)
  refine PyProof.Rows.callWith_type1 (PyProof.Rows.args_cons (thn (ha.run pins s σ H _ I h) fun v s1 ⟨x, H1, I1, r1, q1⟩ => PyProof.Rows.args_nil ?_) na) na rfl
  obtain ⟨l, ns, rfl, hq, h1, q1⟩ := q1
  cases r1
  obtain ⟨its, r, pl, hz⟩ := I1.list hq
  have hl : its.toArray.size = ns.length := by rw [List.size_toArray, ← r.length, List.length_map]
  have hle : dst ns ≤ ns.length := PyProof.Rows.firstMet_length_le _ _
  refine call_set_list (I1.ok.hd hc) pl.isList (ns := ns) (by simpa using r.ints) (by unfold scanBound; omega) fun h' tk hS hk => ?_
  rw [hl] at hS
  refine PyProof.Rows.args_nil ?_
  obtain ⟨o, es, ep, t, ho, hex, hd, _, _, _, hf, hn⟩ := hS
  have I2 : Inv X pins σ H1 { s1 with heap := h', toks := tk } := I1.kept fun b o e => hk b o (Heap.lt_size e) e
  refine call_len_set ho hex hd hf (by rw [hn] <;> (show (dst ns : Int) < _) <;> omega) ⟨.int (dst ns : Nat), H1, I2.tok _, ⟨_, by rw [hn]; rfl⟩, q1⟩
end
end L2
set_option Elab.async false
set_option linter.all false
set_option maxRecDepth 100000
set_option maxHeartbeats 4000000
/-! DX4: dicts whose keys are nested tuples. -/
namespace DL
open PySem PySem.Spec L2 PyProof.Rows
section
variable {X : Cx} {pins : List (Addr × Obj)} {σ : L2.St} {H F : Hp} {s : Shared}
mutual
theorem nk_is (I : Inv X pins σ H s) (e : Same F H) : ∀ (k : NestedKey) (v : V) (u : Value), Dq F v k.data → RelV v u → NestedIs s.heap k u
  | .none, v, u, h, r => by cases h; cases (show u = Value.none from r); exact .none
  | .num i, v, u, h, r => by cases h; obtain ⟨t, rfl⟩ := r; exact .int i t
  | .text x, v, u, h, r => by cases h; obtain ⟨t, rfl⟩ := r; exact .text x t
  | .tup ks, v, u, h, r => by
    cases h with
    | tup h t =>
      obtain ⟨ob, h1, h2⟩ := h
      cases (show u = Value.ref _ from r)
      obtain ⟨hg, _, its, rv, o, ho, hc, n, hd⟩ := (show ObjOk X.prog X.w H s.heap _ (.frz ob (.tup _)) from I.hok _ _ (e _ _ h1))
      exact .tup ho hc hd (by simpa using nk_isA I e ks _ _ t rv)
theorem nk_isA (I : Inv X pins σ H s) (e : Same F H) : ∀ (ks : List NestedKey) (vs : List V) (us : List Value), DqAll F vs (NestedKey.datas ks) → Vals vs us → NestedAll s.heap ks us
  | [], _, _, h, r => by cases h; cases r; exact .nil
  | k :: ks, _, _, h, r => by
    cases h with
    | cons h t => cases r with | cons r rt => exact .cons (nk_is I e k _ _ h r) (nk_isA I e ks _ _ t rt)
end
theorem nk_key (I : Inv X pins σ H s) (e : Same F H) {k : NestedKey} {a : Addr} (h : Dq F (.ref a) k.data) (hd : k.depth ≤ 8) : (nestedKind X.prog X.w).is s.heap k a := ⟨nk_is I e k _ _ h rfl, hd⟩
theorem nst_of (I : Inv X pins σ H s) (e : Same F H) {p : Addr} {ks : List NestedKey} (h : NstAt (wkOf X) F H p ks) : ∃ xs : List (NestedKey × Addr × Value), s.heap.DictOfH (nestedKind X.prog X.w) p xs ∧ (p == sysModules) = false ∧
    (∀ x ∈ xs, Dq F (.ref x.2.1) x.1.data ∧ x.1.depth ≤ 8 ∧ x.2.2 = .bool true) ∧ ks = xs.map (·.1) ∧ ks.length ≤ sizeLine := by
  obtain ⟨o, es, ep, xs, h1, h2, h3, h4, h5, h6, h7, h8, h9⟩ := h
  have hg : s.heap.get? p = some o := (show ObjOk X.prog X.w H s.heap p (NstO p o) from I.hok p _ h1).1
  refine ⟨xs, ⟨o, es, ep, hg, h2, h3, h4, fun x hx => nk_key I e (h6 x hx).1 (h6 x hx).2.1, by rw [← h7]; exact h8⟩, h5, h6, h7, h9⟩
/-- the object behind a store -/
theorem nst_back {H' : Hp} {h' : Heap} {p : Addr} {xs : List (NestedKey × Addr × Value)} (hd : h'.DictOfH (nestedKind X.prog X.w) p xs) (h5 : (p == sysModules) = false) (h6 : ∀ x ∈ xs, Dq F (.ref x.2.1) x.1.data ∧ x.1.depth ≤ 8 ∧ x.2.2 = .bool true) (h9 : xs.length ≤ sizeLine) :
    ∃ o, h'.get? p = some o ∧ NstAt (wkOf X) F (upd H' p (NstO p o)) p (xs.map (·.1)) := by
  obtain ⟨o, es, ep, ho, h2, h3, h4, _, h8⟩ := hd
  exact ⟨o, ho, o, es, ep, xs, upd_same, h2, h3, h4, h5, h6, rfl, h8, by rw [List.length_map]; exact h9⟩
theorem nstO_ok {P : Program} {w : World} {H : Hp} {h : Heap} {p : Addr} {o : Obj} (e : h.get? p = some o) : ObjOk P w H h p (NstO p o) := ⟨e, ⟨o, e⟩, fun h1 h2 x k => k o x⟩
theorem atKey_mem {xs : List (NestedKey × Addr × Value)} {k : NestedKey} : (atKey xs k).isSome = decide (k ∈ xs.map (·.1)) := by
  induction xs with
  | nil => rfl
  | cons x xs ih =>
    by_cases h : x.1 = k
    · subst h; simp [atKey]
    · have : (atKey (x :: xs) k) = atKey xs k := by simp [atKey, h]
      rw [this, ih]
      simp [Ne.symm h]
def addK (ks : List NestedKey) (k : NestedKey) : List NestedKey := if k ∈ ks then ks else ks ++ [k]
theorem stored_add {xs : List (NestedKey × Addr × Value)} {k : NestedKey} {a : Addr} (h : Dq F (.ref a) k.data) (hd : k.depth ≤ 8) (h6 : ∀ x ∈ xs, Dq F (.ref x.2.1) x.1.data ∧ x.1.depth ≤ 8 ∧ x.2.2 = .bool true) :
    (storedH xs k a (.bool true)).map (·.1) = addK (xs.map (·.1)) k ∧ ∀ x ∈ storedH xs k a (.bool true), Dq F (.ref x.2.1) x.1.data ∧ x.1.depth ≤ 8 ∧ x.2.2 = .bool true := by
  unfold storedH addK
  rw [atKey_mem]
  by_cases hm : k ∈ xs.map (·.1)
  · rw [if_pos (decide_eq_true hm), if_pos hm]
    have e : xs.map (putAt k (.bool true)) = xs := by
      conv => rhs; rw [← List.map_id xs]
      refine List.map_congr_left fun x hx => ?_
      obtain ⟨x1, x2, x3⟩ := x
      have := (h6 _ hx).2.2
      simp only at this
      subst this
      unfold putAt
      split <;> rfl
    rw [e]
    exact ⟨rfl, h6⟩
  · rw [if_neg (by simpa using hm), if_neg hm]
    refine ⟨by simp, fun x hx => ?_⟩
    rcases List.mem_append.mp hx with hx | hx
    · exact h6 x hx
    · simp at hx; subst hx; exact ⟨h, hd, rfl⟩
end
/-! ### readings -/
abbrev rNstIn (w : Wk) (neg : Bool) : R2 := fun x y H Q => ∃ (F : Hp) (a p : Addr) (k : NestedKey) (ks : List NestedKey), Same F H ∧ x = .ref a ∧ y = .ref p ∧ Dq F (.ref a) k.data ∧ k.depth ≤ 8 ∧ NstAt w F H p ks ∧ Q (.bl (if neg then !decide (k ∈ ks) else decide (k ∈ ks))) H
/-- d[k] = True -/
abbrev rNstSet (w : Wk) : TSet := fun o i v H Q => ∃ (F : Hp) (a p : Addr) (k : NestedKey) (ks : List NestedKey), Same F H ∧ o = .ref p ∧ i = .ref a ∧ v = .bl true ∧ Dq F (.ref a) k.data ∧ k.depth ≤ 8 ∧ NstAt w F H p ks ∧ ks.length < sizeLine ∧
  ∀ ob, NstAt w F (upd H p (NstO p ob)) p (addK ks k) → Q (upd H p (NstO p ob))
section
variable {X : Cx} {k : Nat}
theorem nroom (hr : Room k X.A) {prog : Program} {w : World} : (nestedKind prog w).room X.A.in1 := by
  show X.A.units + 1 + 8 < cLine
  have := hr.un; omega
theorem op_inNst (hr : Room k X.A) : OpR X (compareOp .In) (rNstIn (wkOf X) false) := by
  intro pins s σ H x y v u Q I rx ry h
  obtain ⟨F, a, p, k, ks, e, rfl, rfl, hk, hd, hn, q⟩ := h
  cases rx
  cases ry
  obtain ⟨xs, h1, h2, h3, h4, h5⟩ := nst_of I e hn
  have hq : (atKey xs k).isSome = decide (k ∈ ks) := by rw [atKey_mem, ← h4]
  exact wpAny_in_heap (nroom hr) (nk_key I e hk hd) h2 h1 ⟨.bl (atKey xs k).isSome, H, I.tok _, rfl, by rw [hq]; exact q⟩
theorem op_notinNst (hr : Room k X.A) : OpR X (compareOp .NotIn) (rNstIn (wkOf X) true) := by
  intro pins s σ H x y v u Q I rx ry h
  obtain ⟨F, a, p, k, ks, e, rfl, rfl, hk, hd, hn, q⟩ := h
  cases rx
  cases ry
  obtain ⟨xs, h1, h2, h3, h4, h5⟩ := nst_of I e hn
  have hq : (atKey xs k).isSome = decide (k ∈ ks) := by rw [atKey_mem, ← h4]
  show wpAny _ _ (do return Value.bool (!(← contains (.ref p) (.ref a)))) _ _ s
  exact wpAny_bind (wpAny_contains_heap (nroom hr) (nk_key I e hk hd) h2 h1 (wpAny_pure ⟨.bl (!(atKey xs k).isSome), H, I.tok _, rfl, by rw [hq]; exact q⟩))
theorem set_nst (hr : Room k X.A) : PSet X (rNstSet (wkOf X)) := by
  intro pins s σ H o i v ov iv u Q I ro ri rv h
  obtain ⟨F, a, p, k, ks, e, rfl, rfl, rfl, hk, hd, hn, hl, q⟩ := h
  cases ro
  cases ri
  cases (show u = Value.bool true from rv)
  obtain ⟨xs, h1, h2, h3, h4, h5⟩ := nst_of I e hn
  have hlen : xs.length = ks.length := by rw [h4, List.length_map]
  refine wpAny_setItem_heap (hsz := by omega) (nroom hr) (nk_key I e hk hd) h1 fun h' hm' hs => ?_
  obtain ⟨e1, e2⟩ := stored_add hk hd h3
  have hl2 : (storedH xs k a (.bool true)).length ≤ sizeLine := by have := storedH_length xs k a (.bool true); omega
  obtain ⟨ob, ho, hn'⟩ := nst_back (X := X) (H' := H) (F := F) hm' h2 e2 hl2
  rw [e1, ← h4] at hn'
  obtain ⟨o0, _, _, _, hH, _⟩ := hn
  exact ⟨_, I.write (x := p) (e := p) (t' := s.toks + _) (by rw [hH]; exact True.intro) (.inl rfl) (fun b o hb eb => hs.2 b hb ▸ eb) ⟨ob, ho⟩ (nstO_ok ho), q ob hn'⟩
theorem nst_new (w : Wk) (F H : Hp) {p : Addr} (h : (p == sysModules) = false) : NstAt w F (upd H p (NstO p { cls := .type "dict", data := .dict #[] })) p [] :=
  ⟨_, #[], 0, [], upd_same, ⟨rfl, rfl, rfl⟩, rfl, rfl, h, (fun x hx => nomatch hx), rfl, List.nodup_nil, Nat.zero_le _⟩
/-- {} -/
def tNstNew (w : Wk) : TE := fun σ H Q => ∀ p ob, H p = none → (∀ F, NstAt w F (upd H p (NstO p ob)) p []) → Q (.ref p) (upd H p (NstO p ob))
theorem pe_nstNew {pos : Pos} : PE X (.Dict [] [] pos) (tNstNew (wkOf X)) := by
  refine ⟨fun pins s σ H Q I h => ?_⟩
  have hz : (s.heap.objs.size == sysModules) = false := beq_eq_false_iff_ne.mpr (Nat.ne_of_gt I.big)
  exact wpAny_Dict_empty ⟨.ref s.heap.objs.size, _, I.laid (a := s.heap.objs.size) (o := NstO s.heap.objs.size { cls := .type "dict", data := .dict #[] }) (t' := s.toks) (fun _ _ q => Heap.get?_push_of_some _ q) (Nat.le_refl _) (nstO_ok (Heap.get?_push_size _ rfl)), rfl, h _ _ (I.hok.fresh (Nat.le_refl _)) fun F => nst_new _ F H hz⟩
abbrev rLenNst (w : Wk) : List V → Hp → VK → Prop := fun xs H Q => ∃ (F : Hp) (p : Addr) (ks : List NestedKey), Same F H ∧ xs = [.ref p] ∧ NstAt w F H p ks ∧ Q (.int (ks.length : Nat)) H
theorem call_lenNst : CallR X (.builtin "len") (rLenNst (wkOf X)) := by
  intro pins s σ H xs us Q I r h
  obtain ⟨F, p, ks, e, rfl, hn, q⟩ := h
  obtain rfl := Vals.ref1 r
  obtain ⟨xs, h1, h2, h3, h4, h5⟩ := nst_of I e hn
  have hlen : xs.length = ks.length := by rw [h4, List.length_map]
  rw [sizeLine_eq] at h5
  exact call_len_dictH h2 h1 (by omega) ⟨.int (ks.length : Nat), H, I.tok _, ⟨_, by rw [hlen]⟩, q⟩
def mergeN (l : List NestedKey) : List NestedKey := l.foldl addK []
theorem n_dictSet {pins : List (Addr × Obj)} {σ : L2.St} {H : Hp} {s : Shared} {E : Value → Shared → Prop} {D : Addr} {y z : V} {u r : Value} {Nx : Hp → Prop} {Q : Unit → Shared → Prop} (hr : Room k X.A) (I : Inv X pins σ H s) (ry : RelV y u) (rz : RelV z r) (hh : rNstSet (wkOf X) (.ref D) y z H Nx)
    (h : ∀ s' H', Inv X pins σ H' s' → Nx H' → Q () s') : wpAny (model X.prog X.w) X.A (dictSet D u r) Q E s := by
  obtain ⟨F, a, p, k, ks, e, ep, rfl, rfl, hk, hd, hn, hl, q⟩ := hh
  cases ep
  cases ry
  cases (show r = Value.bool true from rz)
  obtain ⟨xs, h1, h2, h3, h4, h5⟩ := nst_of I e hn
  have hlen : xs.length = ks.length := by rw [h4, List.length_map]
  refine wpAny_dictSet_heap (hsz := by omega) (show X.A.units + 8 < cLine by have := hr.un; omega) (nk_key I e hk hd) h1 fun h' hm' hs => ?_
  obtain ⟨e1, e2⟩ := stored_add hk hd h3
  have hl2 : (storedH xs k a (.bool true)).length ≤ sizeLine := by have := storedH_length xs k a (.bool true); omega
  obtain ⟨ob, ho, hn'⟩ := nst_back (X := X) (H' := H) (F := F) hm' h2 e2 hl2
  rw [e1, ← h4] at hn'
  obtain ⟨o0, _, _, _, hH, _⟩ := hn
  exact h _ _ (I.write (x := D) (e := D) (t' := s.toks + _) (by rw [hH]; exact True.intro) (.inl rfl) (fun b o hb eb => hs.2 b hb ▸ eb) ⟨ob, ho⟩ (nstO_ok ho)) (q ob hn')
/-- {k: True for target in iter if ..} -/
def tDn (w : Wk) (wi : TI) (g : TG) (tt : TT) (tk tv : TE) (vs : List Nat) : TE := fun σ H Q => wi σ H fun J H1 => ∀ D ob, H1 D = none → (∀ F, NstAt w F (upd H1 D (NstO D ob)) D []) → ∃ W : Nat → Nat → Hp → Prop, (∃ m, W 0 m (upd H1 D (NstO D ob))) ∧ ∀ i m H, W i m H →
  (J.stop i H ∧ Q (.ref D) H) ∨ (J.go i H ∧ ∃ Nx : Hp → Prop, (∀ H', Nx H' → ∃ m', m' < m ∧ W (i + 1) m' H') ∧ ∀ x H', J.yld i H x H' → g x (wipe σ vs) H' fun σ2 H2 => wipe σ2 vs = wipe σ vs ∧ tt σ2 H2 fun b H3 =>
    if b = true then tk σ2 H3 fun y H4 => tv σ2 H4 fun z H5 => rNstSet w (.ref D) y z H5 Nx else Nx H3)
theorem dn_core {pins : List (Addr × Obj)} {s : Shared} {σ : L2.St} {H : Hp} {Q : VK} {kx vx tg iter : Expr} {ifs : List Expr} {scope : Scope} {own : List (Str × Nat)} {pos pos' : Pos} {wi : TI} {g : TG} {tt : TT} {tk tv : TE} {kr : Nat} {use : Option (Value → Sem Unit)} {Qf : Value → Shared → Prop}
    (hc : X.calm = true) (hN : X.N.Nodup) (I : Inv X pins σ H s) (hi : PI X tg iter wi) (ok : BlkOk X.N X.env.scope scope own)
    (hg : ∀ (s : Shared) (H : Hp) (C : Addr) (cl : List (Str × Addr)) (fp : List Addr), PG (X.blk s H scope (compEnvC scope cl C X.env) fp) tg g) (ht : ∀ (s : Shared) (H : Hp) (C : Addr) (cl : List (Str × Addr)) (fp : List Addr), PTs (X.blk s H scope (compEnvC scope cl C X.env) fp) ifs tt)
    (hk : ∀ (s : Shared) (H : Hp) (C : Addr) (cl : List (Str × Addr)) (fp : List Addr), PE (X.blk s H scope (compEnvC scope cl C X.env) fp) kx tk)
    (he : ∀ (s : Shared) (H : Hp) (C : Addr) (cl : List (Str × Addr)) (fp : List Addr), PE (X.blk s H scope (compEnvC scope cl C X.env) fp) vx tv) (hs : ∀ x, foldedSetIterable iter X.env x = pure x)
    (hr : Room kr X.A) (h : tDn (wkOf X) wi g tt tk tv (own.map (·.2)) σ H Q)
    (hRR : ∀ D C s' m H', Inv X pins σ H' s' → Q (.ref D) H' → s'.heap.Ns C m → FpOk X pins H' C → compPost (model X.prog X.w) X.A X.xe use Qf (.ref D) C (.ok .next) s') :
    wpAny (model X.prog X.w) X.A (comprehension (.DictComp kx vx [⟨tg, iter, ifs, 0⟩] scope pos) scope X.env pos' newDict false (eval iter X.env) use) Qf X.xe s := by
  have hfree : ∀ y ∈ scope.names, y.2 = .free → ∃ c, X.env.cells.lookup y.1 = some c := fun y hy e => by
    rcases ok.free y hy e with k | k
    · exact I.ok.has _ (.inl k)
    · exact I.ok.has _ (.inr k)
  refine wpAny_comprehension_free (use := use) rfl hs (closure_ok hfree) ok.kind (fun y hy e => by rw [ok.uniq y hy, e])
    (thn (hi.run pins s σ H _ I h) fun xv s1 hx => thn hx fun itv s2 h2 => ?_)
  obtain ⟨it, fp, tn, J, H2, e, I2, T, st2, f2, q⟩ := h2
  subst e
  refine wpAny_newObj_type (newEnv_comp ?_)
  generalize hD : s2.heap.objs.size = D
  have hDn : H2 D = none := I2.hok.fresh (Nat.le_of_eq hD)
  obtain ⟨W, ⟨m0, w0⟩, turn⟩ := q D { cls := .type "dict", data := .dict #[] } hDn fun F => nst_new (wkOf X) F H2 (beq_eq_false_iff_ne.mpr (by rw [← hD]; exact Nat.ne_of_gt I2.big))
  -- the new list
  generalize hs3 : ({ s2 with heap := s2.heap.push { cls := .type "dict", data := .dict #[] } } : Shared) = s3
  have I3 : Inv X pins σ (upd H2 D (NstO D { cls := .type "dict", data := .dict #[] })) s3 := by
    rw [← hs3]
    refine I2.laid (t' := s2.toks) (fun b o e => Heap.get?_push_of_some _ e) (Nat.le_of_eq hD) ?_
    rw [← hD]
    exact nstO_ok (Heap.get?_push_size _ rfl)
  have h3 : s3.heap = s2.heap.push { cls := .type "dict", data := .dict #[] } := by rw [← hs3]
  have sz : ∀ b ∈ fp, b < s2.heap.objs.size := fun b hb => by
    obtain ⟨o, e, _⟩ := T.obj _ _ st2 b hb
    exact Heap.lt_size e
  have f3 : ∀ b ∈ fp, FpOk X pins (upd H2 D (NstO D { cls := .type "dict", data := .dict #[] })) b ∧ b < s3.heap.objs.size := fun b hb => by
    have hlt := sz b hb
    refine ⟨⟨?_, (f2 b hb).2⟩, by rw [h3, Heap.size_push]; exact Nat.lt_succ_of_lt hlt⟩
    rw [upd_ne (by rw [← hD]; exact Nat.ne_of_lt hlt)]
    exact (f2 b hb).1
  have st3 : tn 0 s3.heap := T.keep _ _ _ st2 fun b _ o e => by rw [h3]; exact Heap.get?_push_of_some _ e
  have I4 := block_start I3 ok hN f3
  have pg := hg s3 (upd H2 D (NstO D { cls := .type "dict", data := .dict #[] })) s3.heap.objs.size (cellsFrom (s3.heap.objs.size + 1) scope.names (cloFrom X.env.cells scope.names [])) fp
  have pt := ht s3 (upd H2 D (NstO D { cls := .type "dict", data := .dict #[] })) s3.heap.objs.size (cellsFrom (s3.heap.objs.size + 1) scope.names (cloFrom X.env.cells scope.names [])) fp
  have pk := hk s3 (upd H2 D (NstO D { cls := .type "dict", data := .dict #[] })) s3.heap.objs.size (cellsFrom (s3.heap.objs.size + 1) scope.names (cloFrom X.env.cells scope.names [])) fp
  have pe := he s3 (upd H2 D (NstO D { cls := .type "dict", data := .dict #[] })) s3.heap.objs.size (cellsFrom (s3.heap.objs.size + 1) scope.names (cloFrom X.env.cells scope.names [])) fp
  show codeAny _ _ (.compStart (.DictComp kx vx [⟨tg, iter, ifs, 0⟩] scope pos) 0 (.ref it) (.ref D) (compEnvC scope (cellsFrom (s3.heap.objs.size + 1) scope.names (cloFrom X.env.cells scope.names [])) s3.heap.objs.size X.env)) (compPost (model X.prog X.w) X.A X.xe use Qf (.ref D) s3.heap.objs.size) { s3 with heap := pushCells (s3.heap.push { cls := .type "dict", data := .dict #[] }) scope.names }
  have nfp : ∀ b ∈ fp, (upd H2 D (NstO D { cls := .type "dict", data := .dict #[] })) b = none := fun b hb => (f3 b hb).1.1
  generalize hce : compEnvC scope (cellsFrom (s3.heap.objs.size + 1) scope.names (cloFrom X.env.cells scope.names [])) s3.heap.objs.size X.env = ce at I4 pg pt pk pe ⊢
  have cL : ce.locals = s3.heap.objs.size := by subst hce; rfl
  generalize hH3 : upd H2 D (NstO D { cls := .type "dict", data := .dict #[] }) = H3 at I3 I4 pg pt pk pe w0 nfp f3
  generalize hs4 : ({ s3 with heap := pushCells (s3.heap.push { cls := .type "dict", data := .dict #[] }) scope.names } : Shared) = s4 at I4 ⊢
  have st4 : tn 0 s4.heap := T.keep _ _ _ st3 fun b _ o e => by rw [← hs4]; exact pushCells_keeps _ _ _ _ (Heap.get?_push_of_some _ e)
  have stat : ∀ {σ' : L2.St} {H' : Hp} {s' : Shared}, Inv (X.blk s3 H3 scope ce fp) [] σ' H' s' → (∀ b ∈ fp, H' b = none) → ∀ b ∈ fp, FpOk (X.blk s3 H3 scope ce fp) [] H' b := fun {σ' H' s'} I' hn b hb =>
    ⟨hn b hb, (I'.ok.exf b hb).1, I'.ok.exfs b hb, .inl hb, fun x c e => (I'.ok.exf b hb).2 x c e, fun p hp => absurd (show p ∈ ([] : List (Addr × Obj)) ++ [] from hp) (by simp)⟩
  have loop : codeAny (model X.prog X.w) X.A (.compLoop (.DictComp kx vx [⟨tg, iter, ifs, 0⟩] scope pos) 0 (.ref it) (.ref D) ce) (compPost (model X.prog X.w) X.A X.xe use Qf (.ref D) s3.heap.objs.size) s4 := by
    refine compLoop_anyD (fun n s' => ∃ i H', Inv (X.blk s3 H3 scope ce fp) [] (wipe σ (own.map (·.2))) H' s' ∧ tn i s'.heap ∧ (∀ b ∈ fp, H' b = none) ∧ W i n H') ?_ m0 ⟨0, H3, I4, st4, nfp, w0⟩
    rintro n s5 ⟨i, H5, I5, st5, n5, w5⟩
    rcases turn i n H5 w5 with ⟨stop, qq⟩ | ⟨go, Nx, hNx, step⟩
    · have td := T.done (X.blk s3 H3 scope ce fp) rfl rfl rfl hc i [] s5 _ H5 (fun _ _ => False) I5 (stat I5 n5) st5 stop
      refine thnF td fun r s6 ⟨hr, I6⟩ => ?_
      subst hr
      -- back in the def's context
      have I7 : Inv X pins σ H5 s6 := I3.call' (ch := fp) I6.os I6.base I6.hok I6.bare fun b hb => ⟨(f3 b hb).1.2.2.2.1, (f3 b hb).1.2.1, (f3 b hb).1.2.2.2.2.1, (f3 b hb).1.2.2.2.2.2⟩
      have nC : H5 s3.heap.objs.size = none := by
        have z : H5 ce.locals = none := I6.free
        rw [cL] at z
        exact z
      obtain ⟨m, hn, _⟩ := I6.loc
      have hn : s6.heap.Ns ce.locals m := hn
      rw [cL] at hn
      exact hRR D s3.heap.objs.size s6 m H5 I7 qq hn (I3.fpOk (Nat.le_refl _) nC)
    · have ti := T.item (X.blk s3 H3 scope ce fp) rfl rfl rfl hc i [] s5 _ H5 (fun _ _ => False) I5 (stat I5 n5) st5 go
      refine thnF ti fun r s6 ⟨u, hr, h6⟩ => ?_
      subst hr
      refine thnF h6 fun _ s7 ⟨x, H7, I7, r7, y7, st7, n7⟩ => ?_
      have I7' := I7.pinned (stat I7 n7) (T.obj _ _ st7)
      refine thnF (pg.run _ s7 _ H7 x u _ I7' r7 (step x H7 y7)) fun _ s8 ⟨σ8, H8, I8, hw8, q8⟩ => ?_
      refine thnF (pt.run _ s8 σ8 H8 _ I8 q8) fun b s9 ⟨H9, I9, q9⟩ => ?_
      -- the turn's end
      have fin : ∀ {s' : Shared} {H' : Hp}, Inv (X.blk s3 H3 scope ce fp) ([] ++ pinsAt fp s7.heap) σ8 H' s' → Nx H' → ∃ m, m < n ∧ ∃ i H', Inv (X.blk s3 H3 scope ce fp) [] (wipe σ (own.map (·.2))) H' s' ∧ tn i s'.heap ∧ (∀ b ∈ fp, H' b = none) ∧ W i m H' := fun {s' H'} I' nx => by
        obtain ⟨m', hm, w'⟩ := hNx H' nx
        have pin' : ∀ b ∈ fp, ∀ o, s7.heap.get? b = some o → s'.heap.get? b = some o ∧ H' b = none := fun b hb o e =>
          let z := I'.pin (b, o) (List.mem_append_right _ (List.mem_append_right _ (mem_pinsAt hb e)))
          ⟨z.1, z.2.1⟩
        have hl : (wipe σ (own.map (·.2))).length = σ8.length := by rw [← hw8, wipe_length]
        refine ⟨m', hm, i + 1, H', (I'.unpinned (pins := [])).weak hl (fun j v e => ?_), T.keep _ _ _ st7 fun b hb o e => (pin' b hb o e).1, fun b hb => ?_, w'⟩
        · rw [← hw8] at e
          exact (wipe_some e).1
        · obtain ⟨o, e, _⟩ := T.obj _ _ st7 b hb
          exact (pin' b hb o e).2
      cases b with
      | false =>
        simp only [Bool.false_eq_true, if_false] at q9 ⊢
        exact fin I9 q9
      | true =>
        simp only [if_true] at q9 ⊢
        refine thnF (pk.run _ s9 σ8 H9 _ I9 q9) fun z s10 ⟨yk, H10, I10, r10, q10⟩ => ?_
        refine thnF (pe.run _ s10 σ8 H10 _ I10 q10) fun z2 s11 ⟨yv, H11, I11, r11, nx⟩ => ?_
        exact n_dictSet (X := X.blk s3 H3 scope ce fp) hr I11 r10 r11 nx fun s12 H12 I12 nx => fin I12 nx
  exact codeAny_compStart_dict loop (T.self X.A 0 _ _ _ st4 loop)
/-- as a value -/
theorem pe_dn {kx vx tg iter : Expr} {ifs : List Expr} {scope : Scope} {own : List (Str × Nat)} {pos : Pos} {wi : TI} {g : TG} {tt : TT} {tk tv : TE} {kr : Nat} (hr : Room kr X.A) (hc : X.calm = true) (hN : X.N.Nodup) (hi : PI X tg iter wi) (ok : BlkOk X.N X.env.scope scope own)
    (hg : ∀ (s : Shared) (H : Hp) (C : Addr) (cl : List (Str × Addr)) (fp : List Addr), PG (X.blk s H scope (compEnvC scope cl C X.env) fp) tg g) (ht : ∀ (s : Shared) (H : Hp) (C : Addr) (cl : List (Str × Addr)) (fp : List Addr), PTs (X.blk s H scope (compEnvC scope cl C X.env) fp) ifs tt)
    (hk : ∀ (s : Shared) (H : Hp) (C : Addr) (cl : List (Str × Addr)) (fp : List Addr), PE (X.blk s H scope (compEnvC scope cl C X.env) fp) kx tk)
    (he : ∀ (s : Shared) (H : Hp) (C : Addr) (cl : List (Str × Addr)) (fp : List Addr), PE (X.blk s H scope (compEnvC scope cl C X.env) fp) vx tv) (hs : ∀ x, foldedSetIterable iter X.env x = pure x := by intro _; rfl) :
    PE X (.DictComp kx vx [⟨tg, iter, ifs, 0⟩] scope pos) (tDn (wkOf X) wi g tt tk tv (own.map (·.2))) := by
  refine ⟨fun pins s σ H Q I h => ?_⟩
  rw [arm_eval_DictComp]
  refine dn_core hc hN I hi ok hg ht hk he hs hr h fun D C s' m H' I' q hn f => ⟨m, hn, fun h'' sb => ?_⟩
  obtain ⟨f0, f1, f2, f3, f4, f5⟩ := f
  exact ⟨.ref D, H', I'.turned (t' := s'.toks) (fun b o hb e => (sb.2 b hb).trans e) f0 f1 f3 f4 f5, rfl, q⟩
/-- the pairs of the argument -/
theorem npairs_of {pins : List (Addr × Obj)} {σ : L2.St} {H F : Hp} {s : Shared} (I : Inv X pins σ H s) (e : Same F H) : ∀ {ts : List Addr} {kas : List (NestedKey × Addr)}, Paired (fun t (x : NestedKey × Addr) => SqT X.K H t [.ref x.2, .bl true]) ts kas →
    ∀ (j : Nat) (x : NestedKey × Addr), kas[j]? = some x → ∃ t, ts[j]? = some t ∧ IsTup s.heap t #[.ref x.2, .bool true]
  | _, _, .nil, j, x, h => by simp at h
  | _, _, .cons (a := t) (b := y) r rt, 0, x, h => by
    simp at h; subst h
    obtain ⟨its, rv, ht, _⟩ := I.tuple r
    obtain ⟨u, z, ei, ru, ry⟩ := vals2 rv
    subst ei
    cases (show u = Value.ref _ from ru)
    cases (show z = Value.bool true from ry)
    exact ⟨t, rfl, ht⟩
  | _, _, .cons r rt, j + 1, x, h => by
    obtain ⟨t, h1, h2⟩ := npairs_of I e rt j x (by simpa using h)
    exact ⟨t, by simpa using h1, h2⟩
theorem stored_all {F : Hp} : ∀ (kas : List (NestedKey × Addr)) (xs : List (NestedKey × Addr × Value)), (∀ x ∈ kas, Dq F (.ref x.2) x.1.data ∧ x.1.depth ≤ 8) → (∀ x ∈ xs, Dq F (.ref x.2.1) x.1.data ∧ x.1.depth ≤ 8 ∧ x.2.2 = .bool true) →
    (storedAllH xs (kas.map fun x => (x.1, x.2, Value.bool true))).map (·.1) = (kas.map (·.1)).foldl addK (xs.map (·.1)) ∧ ∀ x ∈ storedAllH xs (kas.map fun x => (x.1, x.2, Value.bool true)), Dq F (.ref x.2.1) x.1.data ∧ x.1.depth ≤ 8 ∧ x.2.2 = .bool true
  | [], xs, _, h => ⟨rfl, h⟩
  | k :: kas, xs, hk, h => by
    obtain ⟨h1, h2⟩ := hk k List.mem_cons_self
    obtain ⟨e1, e2⟩ := stored_add (a := k.2) h1 h2 h
    have ih := stored_all kas (storedH xs k.1 k.2 (.bool true)) (fun x hx => hk x (List.mem_cons_of_mem _ hx)) e2
    rw [e1] at ih
    exact ih
abbrev rDictN (w : Wk) (K : PySem.W.Frag) : List V → Hp → VK → Prop := fun xs H Q => ∃ (F : Hp) (a : Addr) (ts : List Addr) (kas : List (NestedKey × Addr)), Same F H ∧ xs = [.ref a] ∧ SqL K H a (ts.map V.ref) ∧ Paired (fun t (x : NestedKey × Addr) => SqT K H t [.ref x.2, .bl true]) ts kas ∧
  (∀ x ∈ kas, Dq F (.ref x.2) x.1.data ∧ x.1.depth ≤ 8) ∧ ∀ p ob, H p = none → NstAt w F (upd H p (NstO p ob)) p (mergeN (kas.map (·.1))) → Q (.ref p) (upd H p (NstO p ob))
theorem call_dictN (hcalm : X.calm = true) (hr : Room k X.A) : CallR X (.type "dict") (rDictN (wkOf X) X.K) := by
  intro pins s σ H xs us Q I r h
  obtain ⟨F, a, ts, kas, e, rfl, hq, hp, hk, q⟩ := h
  obtain rfl := Vals.ref1 r
  obtain ⟨its, rv, pl, hz⟩ := I.list hq
  have ei := refs_at rv
  subst ei
  rw [List.length_map] at hz
  have hl : ts.length = kas.length := Paired.length hp
  have hpr := npairs_of I e hp
  have c1 : PlainSeq "list" s.heap a (ts.map Value.ref).toArray := by
    obtain ⟨o, n, ho, hc, hd, hdat⟩ := pl
    exact ⟨o, n, ho, hc, hd, hdat⟩
  have c2 : PairItems s.heap (ts.map Value.ref).toArray (fun j => ts.getD j 0) (kas.map fun x => (Value.ref x.2, Value.bool true)) := by
    refine ⟨by simp [hl], fun j k v ek => ?_⟩
    rw [List.getElem?_map] at ek
    cases hx : kas[j]? with
    | none => rw [hx] at ek; cases ek
    | some x =>
      rw [hx] at ek
      cases ek
      obtain ⟨t, h1, o2, h2, c2, n2, d2⟩ := hpr j x hx
      refine ⟨by simp [h1], .inl ?_⟩
      show s.heap.IsTuple (ts.getD j 0) _
      rw [List.getD_eq_getElem?_getD, h1]
      exact ⟨o2, h2, c2, n2, d2⟩
  have c3 : PairsHaveH (nestedKind X.prog X.w) (kas.map fun x => ((Value.ref x.2 : Value), Value.bool true)).length (PairRel (kas.map fun x => (Value.ref x.2, Value.bool true))) (kas.map fun x => (x.1, x.2, Value.bool true)) := by
    refine ⟨by simp, fun j k v ek => ?_⟩
    have ek : (kas.map fun x => ((Value.ref x.2 : Value), Value.bool true))[j]? = some (k, v) := ek
    rw [List.getElem?_map] at ek
    cases hx : kas[j]? with
    | none => rw [hx] at ek; cases ek
    | some x =>
      rw [hx] at ek
      cases ek
      exact ⟨x.1, x.2, by simp [hx], rfl⟩
  have c4 : KeysStay (nestedKind X.prog X.w) s.heap s.heap.objs.size [] (kas.map fun x => (x.1, x.2, Value.bool true)) := by
    intro h' hk' x hx
    obtain ⟨y, hy, rfl⟩ := List.mem_map.mp hx
    have z := nk_key (X := X) I e (hk y hy).1 (hk y hy).2
    exact nestedKind_stays.stays (fun b o vs n eb hd => hk' b o (Nat.ne_of_lt (Heap.lt_size eb)) (by simp) eb) z
  refine call_dict_pairsH (knd := nestedKind X.prog X.w) (PairArg.list a (ts.map Value.ref).toArray (fun j => ts.getD j 0) (kas.map fun x => (Value.ref x.2, Value.bool true))) (I.ok.hd hcalm) (show X.A.units + 1 + 1 + 8 < cLine by have := hr.un; omega) ⟨c1, c2⟩ c3 c4 (by rw [List.length_map, ← hl]; exact hz) fun h' tk hd' hk' => ?_
  have kk : ∀ b o, s.heap.get? b = some o → h'.get? b = some o := fun b o eb => hk' b o (by simp) eb
  obtain ⟨e1, e2⟩ := stored_all (F := F) kas [] hk (fun x hx => nomatch hx)
  have hs : (s.heap.objs.size == sysModules) = false := beq_eq_false_iff_ne.mpr (Nat.ne_of_gt I.big)
  have hl2 : (storedAllH [] (kas.map fun x => (x.1, x.2, Value.bool true))).length ≤ sizeLine := by
    have := storedAllH_length (kas.map fun x => (x.1, x.2, Value.bool true)) []
    rw [List.length_map] at this
    simp only [List.length_nil] at this
    omega
  obtain ⟨ob, ho, hn'⟩ := nst_back (X := X) (H' := H) (F := F) hd' hs e2 hl2
  rw [e1] at hn'
  exact ⟨.ref s.heap.objs.size, _, I.laid (t' := tk) kk (Nat.le_refl _) (nstO_ok ho), rfl, q _ ob (I.hok.fresh (Nat.le_refl _)) hn'⟩
end
end DL
set_option Elab.async false
set_option linter.all false
set_option maxRecDepth 100000
set_option maxHeartbeats 4000000
/-! DX5: a, *b = tuple. -/
namespace PySem
open PyProof.Rows
theorem Walks.tupleFrom {prog : Program} {w : World} {A : Around} (hh : A.handled = none) (I ax : Addr) (hne : ax ≠ I) (items : Array Value) (i0 : Nat) (h0 : i0 ≤ items.size) :
    Walks prog w A I [I, ax] [I] (items.size - i0) (fun i v => items[i0 + i]? = some v) (fun i h => h.IsTupleIter I ax (i0 + i) ∧ h.IsTuple ax items) where
  sub := fun b hb => by simp at hb; simp [hb]
  frame := fun _ _ _ st hk => ⟨st.1.at fun o e => hk I (by simp) o e, st.2.at fun o e => hk ax (by simp) o e⟩
  item := fun i s Q E hi st hQ => by
    have hi' : i0 + i < items.size := by omega
    refine wpAny_pyNext_tuple_item st.1 st.2 (x := items[i0 + i]) (by simp [hi']) fun h' hit' hs' => ?_
    exact hQ _ h' s.toks (by simp [hi']) ⟨hit', st.2.extBut hs'.extBut hne⟩ fun b o hb e => hs'.extBut b o (fun h => hb (by simp [h])) e
  done := fun s Q E st hQ => wpAny_pyNext_tuple_end hh st.1 st.2 (Array.getElem?_eq_none (by omega)) fun h' he' => hQ h' s.toks fun b o hb e => he' b o (fun h => hb (by simp [h])) e
  self := fun _ _ _ _ st hQ => wpAny_pyIter_tupleiter st.1 hQ
theorem itemsOf_drop {items : Array Value} {i0 : Nat} (h0 : i0 ≤ items.size) {acc : Array Value} (h : ItemsOf (fun i v => items[i0 + i]? = some v) acc (items.size - i0)) : acc.toList = items.toList.drop i0 := by
  refine List.ext_getElem? fun j => ?_
  rw [List.getElem?_drop, Array.getElem?_toList, Array.getElem?_toList]
  by_cases hj : j < items.size - i0
  · have hj2 : j < acc.size := by rw [h.1]; exact hj
    have h1 : acc[j]? = some acc[j] := by simp [hj2]
    rw [h1, h.2 j _ h1]
  · rw [Array.getElem?_eq_none (by rw [h.1]; omega), Array.getElem?_eq_none (by omega)]
section
variable {prog : Program} {w : World} {A : Around} {E : Value → Shared → Prop} {s : Shared}
theorem unpackItems_star {t : Addr} {items : Array Value} {i : Nat} {Q : List Value → Shared → Prop} (hh : A.handled = none) (ht : IsTup s.heap t items) (hi : i ≤ items.size) (hz : items.size ≤ sizeLine)
    (hQ : ∀ (h' : Heap) (tk : Nat), (∀ b o, s.heap.get? b = some o → h'.get? b = some o) → Q (items.toList.take i ++ [.ref h'.objs.size]) { s with heap := h'.push { cls := .type "list", data := .seq (items.toList.drop i).toArray }, toks := tk }) : wpAny (model prog w) A (unpackItems (.ref t) (i + 1) (some i)) Q E s := by
  have hlt : t ≠ s.heap.objs.size := by obtain ⟨o, ho, _⟩ := ht; exact Nat.ne_of_lt (Heap.lt_size ho)
  unfold unpackItems
  refine wpAny_bind ?_
  · unfold notIterableAtAll
    refine wpAny_bind (wpAny_specialOf ht.typeIs slot_tuple_iter.lookup ?_)
    refine wpAny_pure ?_
    simp only [Bool.false_eq_true, if_false]
    refine wpAny_bind (wpAny_holding (iter_tuple ht ?_))
    refine wpAny_bind (wpAny_holding (draw_tuple hlt i 0 _ _ ⟨_, Heap.get?_push_size _ rfl, rfl, rfl⟩ (ht.push _) (by omega) fun h₁ hit₁ hs₁ => ?_))
    have hl1 : ((items.toList.drop 0).take i).length = i := by simp; omega
    rw [if_neg (by rw [hl1]; omega)]
    have ht₁ : IsTup h₁ t items := (ht.push _).extBut hs₁.extBut hlt
    rw [Nat.zero_add] at hit₁
    have hIlt : s.heap.objs.size < h₁.objs.size := by obtain ⟨o, ho, _⟩ := hit₁; exact Heap.lt_size ho
    have htlt : t < h₁.objs.size := by obtain ⟨o, ho, _⟩ := ht₁; exact Heap.lt_size ho
    refine wpAny_bind (wpAny_holding (wpAny_collect_iter (T := "tuple_iterator") (.inr (.inr (.inr rfl))) (Walks.tupleFrom (A := A.in1) hh s.heap.objs.size t hlt items i hi).toS (fun _ _ st => let ⟨o, ho, hc, _⟩ := st.1; ⟨o, ho, hc⟩) ⟨hit₁, ht₁⟩ (fun b hb => ?_) (by simp) (fun s' acc hm ha => ?_) (by omega)))
    · rcases List.mem_cons.mp hb with rfl | hb
      · exact hIlt
      · rw [List.mem_singleton.mp hb]; exact htlt
    · have ea := itemsOf_drop hi ha
      have hlen : acc.toList.length = items.size - i := by rw [ea]; simp
      rw [if_neg (by omega)]
      have e1 : acc.toList.take (acc.toList.length - (i + 1 - 1 - i)) = acc.toList := List.take_of_length_le (by omega)
      have e2 : acc.toList.drop (acc.toList.length - (i + 1 - 1 - i)) = [] := List.drop_eq_nil_of_le (by omega)
      rw [e1, e2, ea, List.drop_zero]
      have es : s' = { s with heap := s'.heap, toks := s'.toks } := by
        have := Moved.eq_with hm
        exact this
      refine wpAny_bind (wpAny_newObj_type ?_ (by show (items.toList.drop i).toArray.size ≤ sizeLine; simp; omega))
      refine wpAny_pure ?_
      rw [List.append_nil]
      rw [es]
      exact hQ s'.heap s'.toks fun b o e => by
        have hb : b ≠ s.heap.objs.size := Nat.ne_of_lt (Heap.lt_size e)
        exact hm.heap b o (fun hmem => hb (List.mem_singleton.mp hmem)) (hs₁.extBut b o hb (Heap.get?_push_of_some _ e))
end
end PySem
namespace L2
open PySem PySem.Spec PyProof.Rows
def gStar (K : PySem.W.Frag) (n : Nat) (t : TGs) : TG := fun v σ H Q => ∃ a xs, v = .ref a ∧ SqT K H a xs ∧ n ≤ xs.length ∧ ∀ l, H l = none → t (xs.take n ++ [.ref l]) σ (upd H l (.lst (xs.drop n))) Q
section
variable {X : Cx} {e : Expr} {es : List Expr} {g : TG} {u t : TGs} {pos p : Pos}
theorem pgs_star (h1 : PG X e g) (h2 : PGs X es u) (hs : (assignEach (.Starred e p :: es) X.env).map (·.2) = assign e X.env :: (assignEach es X.env).map (·.2) := by rfl) : PGs X (.Starred e p :: es) (gCons g u) := by
  refine ⟨fun pins s σ H vs us Q I r h => ?_⟩
  obtain ⟨v, tl, rfl, h⟩ := h
  cases r with
  | cons r1 r2 =>
    rw [hs]
    refine assignInOrder_cons (thn (h1.run pins s σ H v _ _ I r1 h) fun _ s1 ⟨σ1, H1, I1, q1⟩ => ?_)
    exact h2.run pins s1 σ1 H1 tl _ Q I1 r2 q1
theorem pg_star {k n : Nat} (hc : X.calm = true) (h : PGs X es t)
    (hn : (assignEach es X.env).length = n + 1 := by rfl) (hst : (assignEach es X.env).findIdx? (·.1) = some n := by rfl) : PG X (.Tuple es k pos) (gStar X.K n t) := by
  refine ⟨fun pins s σ H v u Q I r hw => ?_⟩
  obtain ⟨a, xs, e1, hq, hl, hw⟩ := hw
  subst e1
  cases r
  obtain ⟨its, rv, ht, hz⟩ := I.tuple hq
  have hlen := rv.length
  rw [assign_Tuple]
  refine wpAny_bind (wpAny_standAt ?_)
  unfold unpack
  rw [hn, hst]
  refine wpAny_bind (wpAny_holding (unpackItems_star (I.ok.hd hc) ht (by rw [List.size_toArray]; omega) (by rw [List.size_toArray]; omega) fun h' tk kp => ?_))
  have I1 : Inv X pins σ H { s with heap := h', toks := tk } := I.kept (t' := tk) kp
  have I2 : Inv X pins σ (upd H h'.objs.size (.lst (xs.drop n))) { s with heap := h'.push { cls := .type "list", data := .seq (its.toArray.toList.drop n).toArray }, toks := tk } :=
    I1.laid (t' := tk) (fun b o e => Heap.get?_push_of_some _ e) (Nat.le_refl _) ⟨by rw [List.length_drop]; omega, its.drop n, 0, rv.drop n, by simpa using Heap.get?_push_size _ rfl⟩
  exact h.run pins _ σ _ (xs.take n ++ [.ref h'.objs.size]) _ Q I2 ((by simpa using rv.take n : Vals (xs.take n) (its.toArray.toList.take n)).append (.cons (show RelV (.ref h'.objs.size) (.ref h'.objs.size) from rfl) .nil)) (hw _ (I1.hok.fresh (Nat.le_refl _)))
end
end L2
set_option Elab.async false
set_option linter.all false
set_option maxRecDepth 100000
set_option maxHeartbeats 4000000
/-! DX6: repr. -/
namespace DL
open PySem PySem.Spec L2 PyProof.Rows
section
variable {X : Cx} {pins : List (Addr × Obj)} {σ : L2.St} {H F : Hp} {s : Shared}
mutual
theorem reads_dq (I : Inv X pins σ H s) (e : Same F H) : ∀ (d : PyData) (v : V) (u : Value), Dq F v d → RelV v u → ∃ as, Reads s.heap u d as
  | .none, v, u, h, r => by cases h; cases (show u = Value.none from r); exact ⟨_, .none⟩
  | .bool b, v, u, h, r => by cases h; cases (show u = Value.bool b from r); exact ⟨_, .bool b⟩
  | .int i, v, u, h, r => by cases h; obtain ⟨t, rfl⟩ := r; exact ⟨_, .int i t⟩
  | .str x, v, u, h, r => by cases h; obtain ⟨t, rfl⟩ := r; exact ⟨_, .str x t⟩
  | .list ds, v, u, h, r => by
    cases h with
    | lst h t =>
      cases (show u = Value.ref _ from r)
      obtain ⟨_, its, n, rv, ho⟩ := (show ObjOk X.prog X.w H s.heap _ (.lst _) from I.hok _ _ (e _ _ h))
      obtain ⟨as, ra⟩ := reads_dqA I e ds _ _ t rv
      exact ⟨_, .list ho rfl rfl (by simpa using ra)⟩
  | .tuple ds, v, u, h, r => by
    cases h with
    | tup h t =>
      obtain ⟨ob, h1, h2⟩ := h
      cases (show u = Value.ref _ from r)
      obtain ⟨hg, _, its, rv, o, ho, hc, n, hd⟩ := (show ObjOk X.prog X.w H s.heap _ (.frz ob (.tup _)) from I.hok _ _ (e _ _ h1))
      obtain ⟨as, ra⟩ := reads_dqA I e ds _ _ t rv
      exact ⟨_, .tuple ho hc hd (by simpa using ra)⟩
theorem reads_dqA (I : Inv X pins σ H s) (e : Same F H) : ∀ (ds : List PyData) (vs : List V) (us : List Value), DqAll F vs ds → Vals vs us → ∃ as, ReadsAll s.heap us ds as
  | [], _, _, h, r => by cases h; cases r; exact ⟨_, .nil⟩
  | d :: ds, _, _, h, r => by
    cases h with
    | cons h t =>
      cases r with
      | cons r rt =>
        obtain ⟨as, ra⟩ := reads_dq I e d _ _ h r
        obtain ⟨bs, rb⟩ := reads_dqA I e ds _ _ t rt
        exact ⟨_, .cons ra rb⟩
end
mutual
theorem dq_nodict : ∀ (d : PyData) (v : V), Dq F v d → d.hasDict = false
  | .none, _, _ => rfl
  | .bool _, _, _ => rfl
  | .int _, _, _ => rfl
  | .str _, _, _ => rfl
  | .list ds, _, h => by cases h with | lst h t => simpa [PyData.hasDict] using dq_nodictA ds _ t
  | .tuple ds, _, h => by cases h with | tup h t => simpa [PyData.hasDict] using dq_nodictA ds _ t
theorem dq_nodictA : ∀ (ds : List PyData) (vs : List V), DqAll F vs ds → PyData.hasDictAll ds = false
  | [], _, _ => rfl
  | d :: ds, _, h => by cases h with | cons h t => simp [PyData.hasDictAll, dq_nodict d _ h, dq_nodictA ds _ t]
end
end
abbrev rReprG : List V → Hp → VK → Prop := fun xs H Q => ∃ (F : Hp) (v : V) (x : PyData) (l : List PyData), Same F H ∧ xs = [v] ∧ Dq F v (.list (x :: l)) ∧ (PyData.list (x :: l)).showable = true ∧ (PyData.list (x :: l)).shown.length ≤ sizeLine ∧ (PyData.list (x :: l)).depth ≤ 32 ∧ Q (.str (PyData.list (x :: l)).shown) H
abbrev rReprS : List V → Hp → VK → Prop := fun xs H Q => (∃ i, xs = [.int i] ∧ i.natAbs.log2 < 1920 ∧ Q (.str (toString i)) H) ∨ (∃ b, xs = [.bl b] ∧ Q (.str (if b then "True" else "False")) H) ∨ (xs = [.non] ∧ Q (.str "None") H)
section
variable {X : Cx} {k : Nat}
theorem call_reprS : CallR X (.builtin "repr") rReprS := by
  intro pins s σ H xs us Q I r h
  rcases h with ⟨i, rfl, hz, q⟩ | ⟨b, rfl, q⟩ | ⟨rfl, q⟩
  · obtain ⟨u, rfl, t, rfl⟩ := vals1 r
    exact PySem.P.repr_of_int hz ⟨.str _, H, I.tok _, ⟨_, rfl⟩, q⟩
  · obtain ⟨u, rfl, ru⟩ := vals1 r
    cases (show u = Value.bool b from ru)
    exact PySem.P.repr_of_bool ⟨.str _, H, I.tok _, ⟨_, rfl⟩, q⟩
  · obtain ⟨u, rfl, ru⟩ := vals1 r
    cases (show u = Value.none from ru)
    exact PySem.P.repr_of_none ⟨.str _, H, I.tok _, ⟨_, rfl⟩, q⟩
theorem call_reprG (hr : Room k X.A) (hg : X.A.guards = some []) : CallR X (.builtin "repr") rReprG := by
  intro pins s σ H xs us Q I r h
  obtain ⟨F, v, x, xs, e, rfl, hd, h1, h2, h3, q⟩ := h
  obtain ⟨u, rfl, ru⟩ := vals1 r
  obtain ⟨as, ra⟩ := reads_dq I e _ v u hd ru
  have hnd := dq_nodict _ _ hd
  have hun := hr.un
  cases ra with
  | @list a o vs n _ as1 hx hc hdat h4 =>
    have hz' : (listText (PyData.shownAll (x :: xs))).length ≤ sizeLine := by simpa only [PyData.shown] using h2
    obtain ⟨bs, hb, hk⟩ := ReprAllK.of_readsAll (prog := X.prog) (w := X.w) h4 (by simpa [PyData.showable] using h1) (fun hx' => by rw [PyData.hasDict] at hnd; rw [hnd] at hx'; cases hx') (fun t ht => Nat.le_trans (listText_mem_le ht) hz')
    have rr : Reads s.heap (.ref a) (.list (x :: xs)) _ := .list hx hc hdat h4
    have hna : a ∉ bs := not_mem_of_deeper rr (by simp only [PyData.depth]; omega) hb
    simp only [PyData.depth] at h3
    obtain ⟨l⟩ := vs
    cases l with
    | nil => have h4' : ReadsAll s.heap [] (x :: xs) _ := h4; cases h4'
    | cons y l =>
      have hTy : s.TypeIs (.ref a) "list" := ⟨o, hx, hc⟩
      refine Calls.call_function_entry PySem.F.kind_repr PySem.F.plain_repr PySem.F.entry_repr (PySem.F.args_repr1 _) ?_
      unfold Builtin.«repr»
      refine wpAny_bind (m := oneArg "repr" _) (wpAny_pure ?_)
      refine wpAny_bind (wpAny_cRoomFor (by show X.A.units + 1 < cLine; omega) ?_)
      refine wpAny_bind (wpAny_specialOf (name := Str.ofString "__repr__") hTy PySem.F.slot_list_repr.lookup ?_)
      refine wpAny_bind (m := callSpecialIfBound? (.ref a) (Str.ofString "__repr__")) (wpAny_callSpecialIfBound?_slot (name := Str.ofString "__repr__") hTy PySem.F.slot_list_repr
        (call_list_reprK hx hc hdat hna (by simpa using hk.length_eq) (fun i y e => hk.item i y (by simpa using e)) (g := []) hg (fun b _ => Clear.nil b) (by show X.A.units + 1 + _ < cLine; omega) (fun _ _ e => e) (fun h' u tk hk => ?_) hz'))
      refine wpAny_bind (wpAny_isInstance (T := "str") (b := true) rfl isSubtype_str_str ?_)
      exact wpAny_pure ⟨_, rfl, .str _, H, I.kept (t' := tk) hk, ⟨u, rfl⟩, by simpa only [PyData.shown] using q⟩
end
end DL
set_option Elab.async false
set_option linter.all false
set_option maxRecDepth 100000
set_option maxHeartbeats 4000000
/-! DL10: the rest of the built-ins, as worths. -/
namespace DL
open PySem PySem.Spec L2

/-! ### * -/
def flatRep (n : Nat) (ds : List PyData) : List PyData := (List.replicate n ds).flatten
theorem dpa_rep {F : Hp} {vs : List V} {ds : List PyData} (h : DqAll F vs ds) : ∀ n : Nat, DqAll F (List.replicate n vs).flatten (List.replicate n ds).flatten
  | 0 => .nil
  | n + 1 => by
    rw [List.replicate_succ, List.replicate_succ, List.flatten_cons, List.flatten_cons]
    exact dpa_app h (dpa_rep h n)
@[simp] def mulAllW : W → W → Option W
  | .dat (.int i), .dat (.int j) => if (-(2 ^ 64) < i ∧ i < 2 ^ 64) ∨ (-(2 ^ 64) < j ∧ j < 2 ^ 64) then some (.dat (.int (i * j))) else none
  | .dat (.str z), .dat (.int n) => match z with | ⟨⟨[c]⟩⟩ => (if 0 ≤ n ∧ n ≤ 1000 then some (.dat (.str ⟨(List.replicate n.toNat c).toArray⟩)) else none) | _ => none
  | .dat (.tuple ds), .dat (.int k) => if 2 ≤ k ∧ k ≤ 1000 ∧ ds.length ≤ 1000 then some (.dat (.tuple (flatRep k.toNat ds))) else none
  | _, _ => none
theorem flatten_nil {α : Type} : ∀ n : Nat, (List.replicate n ([] : List α)).flatten = []
  | 0 => rfl
  | n + 1 => by rw [List.replicate_succ, List.flatten_cons, flatten_nil n]; rfl
abbrev rMulAll (K : PySem.W.Frag) : R2 := fun x y H Q => (∃ i j, x = .int i ∧ y = .int j ∧ ((-(2 ^ 64) < i ∧ i < 2 ^ 64) ∨ (-(2 ^ 64) < j ∧ j < 2 ^ 64)) ∧ Q (.int (i * j)) H) ∨ (rStrMul x y H Q ∨ (rRepF K x y H Q ∨ ∃ l k, x = .ref l ∧ y = .int k ∧ SqT K H l [] ∧ 2 ≤ k ∧ k ≤ 1000 ∧ Q (.ref l) H))
theorem gr_mulAll {w : Wk} {K : PySem.W.Frag} : GR w (rMulAll K) mulAllW := by
  intro b F H n x y a c z Q hf bx ra rc e q
  have val : ∀ v, RelW w b F H v z → Q v H := fun v rv => q v F H (Step.refl hf fun a e => (bx a e).1) bx rv
  unfold mulAllW at e
  split at e
  · split at e
    · rename_i i j h
      cases e
      obtain rfl := dq_int ra
      obtain rfl := dq_int rc
      exact .inl ⟨i, j, rfl, rfl, h, val _ (Dq.int _)⟩
    · cases e
  · split at e
    · split at e
      · rename_i c h
        cases e
        obtain rfl := dq_str ra
        obtain rfl := dq_int rc
        exact .inr (.inl ⟨c, _, rfl, rfl, h.1, h.2, val _ (Dq.str _)⟩)
      · cases e
    · cases e
  · split at e
    · rename_i ds k h
      cases e
      obtain ⟨p, us, rfl, h1, t1⟩ := dq_tup ra
      obtain rfl := dq_int rc
      by_cases hn : us = []
      · subst hn
        obtain rfl := dpa_nil' t1
        refine .inr (.inr (.inr ⟨p, k, rfl, rfl, h1.sq hf, h.1, h.2.1, val _ ?_⟩))
        show Dq F (.ref p) (.tuple (List.replicate k.toNat []).flatten)
        rw [flatten_nil]
        exact ra
      · refine .inr (.inr (.inl ⟨p, k, us, rfl, rfl, h1.sq hf, hn, h.1, h.2.1, by rw [dpa_len t1]; exact h.2.2, fun l ob hl hd => ?_⟩))
        obtain ⟨s2, b2⟩ := fresh_step (o := .frz ob (.tup (List.replicate k.toNat us).flatten)) hf bx hl
        exact q _ _ _ s2 b2 (Dq.tup (TupF.new hd) (dp_monoA s2.ex _ _ (dpa_rep t1 _)))
    · cases e
  · cases e
section
variable {X : Cx} {a c : Expr} {pos : Pos} {f h : TD}
theorem de_mulA (h1 : DE X a f) (h2 : DE X c h) : DE X (.BinOp a .Mult c pos) (dOp mulAllW f h) := de_op (r := rMulAll X.K) (op_mul.or (op_strMul.or (op_repF.or op_repT0))) gr_mulAll h1 h2
end

/-! ### sorted -/
def insI (i : Int) : List Int → List Int
  | [] => [i]
  | j :: l => if i ≤ j then i :: j :: l else j :: insI i l
def isort : List Int → List Int
  | [] => []
  | i :: l => insI i (isort l)
theorem insI_perm (i : Int) : ∀ l : List Int, (insI i l).Perm (i :: l)
  | [] => .refl _
  | j :: l => by
    unfold insI
    split
    · exact .refl _
    · exact ((insI_perm i l).cons j).trans (.swap i j l)
theorem isort_perm : ∀ l : List Int, (isort l).Perm l
  | [] => .refl _
  | i :: l => (insI_perm i _).trans ((isort_perm l).cons i)
theorem insI_sorted (i : Int) : ∀ {l : List Int}, l.Pairwise (· ≤ ·) → (insI i l).Pairwise (· ≤ ·)
  | [], _ => List.pairwise_singleton _ _
  | j :: l, h => by
    obtain ⟨h1, h2⟩ := List.pairwise_cons.mp h
    unfold insI
    split
    · rename_i hij
      refine List.pairwise_cons.mpr ⟨fun k hk => ?_, h⟩
      rcases List.mem_cons.mp hk with rfl | hk
      · exact hij
      · exact Int.le_trans hij (h1 k hk)
    · rename_i hij
      refine List.pairwise_cons.mpr ⟨fun k hk => ?_, insI_sorted i h2⟩
      rcases List.mem_cons.mp ((insI_perm i l).mem_iff.mp hk) with rfl | hk
      · omega
      · exact h1 k hk
theorem isort_sorted : ∀ l : List Int, (isort l).Pairwise (· ≤ ·)
  | [] => .nil
  | i :: l => insI_sorted i (isort_sorted l)
theorem sorted_eq : ∀ {l m : List Int}, l.Pairwise (· ≤ ·) → m.Pairwise (· ≤ ·) → l.Perm m → l = m
  | [], m, _, _, p => (List.Perm.nil_eq p)
  | a :: l, [], _, _, p => (List.Perm.eq_nil p)
  | a :: l, b :: m, h1, h2, p => by
    obtain ⟨x1, x2⟩ := List.pairwise_cons.mp h1
    obtain ⟨y1, y2⟩ := List.pairwise_cons.mp h2
    have ab : a = b := by
      have ha : a ∈ b :: m := p.mem_iff.mp List.mem_cons_self
      have hb : b ∈ a :: l := p.mem_iff.mpr List.mem_cons_self
      rcases List.mem_cons.mp ha with h | h
      · exact h
      · rcases List.mem_cons.mp hb with h' | h'
        · exact h'.symm
        · have := y1 a h; have := x1 b h'; omega
    subst ab
    rw [sorted_eq x2 y2 p.cons_inv]
@[simp] def sortIW : List W → Option W
  | [.dat (.tuple ds)] => (intsOf ds).map fun ns => .dat (.list ((isort ns).map .int))
  | _ => none
theorem dqa_ints {F : Hp} : ∀ ns : List Int, DqAll F (ns.map V.int) (ns.map PyData.int)
  | [] => .nil
  | n :: ns => .cons (.int n) (dqa_ints ns)
theorem dqa_strs {F : Hp} : ∀ ns : List Str, DqAll F (ns.map V.str) (ns.map PyData.str)
  | [] => .nil
  | n :: ns => .cons (.str n) (dqa_strs ns)
theorem gc_sortI {w : Wk} {K : PySem.W.Frag} : GC w (rSortedIT K) sortIW := by
  intro b F H n vs xs z Q hf bx ra e q
  unfold sortIW at e
  split at e
  · rename_i ds
    obtain ⟨ns, e1, e2⟩ := Option.map_eq_some_iff.mp e
    subst e2
    obtain ⟨v, rfl, r1⟩ := rel1 ra
    obtain ⟨a, us, rfl, ha, ta⟩ := dq_tup r1
    obtain rfl := intsOf_v ta e1
    refine ⟨a, ns, rfl, ha.sq hf, fun ns' p hp hs hn => ?_⟩
    obtain rfl := sorted_eq hs (isort_sorted ns) (hp.trans (isort_perm ns).symm)
    obtain ⟨s2, b2⟩ := fresh_step (o := .lst ((isort ns).map V.int)) hf bx hn
    exact q _ _ _ s2 b2 (Dq.lst upd_same (dqa_ints _))
  · cases e
/-- sorted of texts: any order -/
@[simp] def dSortS (fa : TDa) : TD := fun n ρ P => fa n ρ fun xs m => ∃ ss : List Str, xs = [.dat (.list (ss.map .str))] ∧ ss.length < 64 ∧ ∀ ys : List Str, ys.Perm ss → P (.dat (.list (ys.map .str))) m
theorem strs_v {F : Hp} : ∀ {vs : List V} {ss : List Str}, DqAll F vs (ss.map PyData.str) → vs = ss.map V.str
  | _, [], h => by cases h; rfl
  | _, s :: ss, h => by cases h with | cons h t => rw [dq_str h, strs_v t]; rfl
section
variable {X : Cx} {p pos : Pos} {e : Expr} {es : List Expr} {fa : TDa}
theorem de_sortedI (hg : Gl X "sorted") (hm : X.mg "sorted" = none) (h : DA X (e :: es) fa) (he : starEach (e :: es) X.env = (false, eval e X.env) :: starEach es X.env := by rfl) (hpl : (backTo pos (starEach es X.env)).any (·.1) = false := by rfl) : DE X (.Call (.Name "sorted" p) (e :: es) [] pos) (dB sortIW fa) := de_cb cr_sortedIT gc_sortI boot_sortedB hg hm h he hpl
theorem de_sortedS (hg : Gl X "sorted") (hm : X.mg "sorted" = none) (h : DA X (e :: es) fa) (he : starEach (e :: es) X.env = (false, eval e X.env) :: starEach es X.env := by rfl) (hpl : (backTo pos (starEach es X.env)).any (·.1) = false := by rfl) : DE X (.Call (.Name "sorted" p) (e :: es) [] pos) (dSortS fa) := by
  obtain ⟨t, q1, g1⟩ := h
  refine ⟨_, pe_callB cr_sortedS hg hm boot_sortedB q1 (by decide) (by decide) he hpl, fun g F H n σ ρ P Q hw k hh q => ?_⟩
  refine g1 g F H n σ ρ _ _ hw k hh fun vs F1 H1 m xs s1 b1 r1 hx => ?_
  obtain ⟨ss, rfl, h64, hP⟩ := hx
  obtain ⟨v, rfl, r2⟩ := rel1 r1
  obtain ⟨a, us, rfl, ha, ta⟩ := dq_lst r2
  obtain rfl := strs_v ta
  refine ⟨a, ss, rfl, SqL.of (s1.fr _ _ ha), h64, fun ys p hp _ hn => ?_⟩
  obtain ⟨s2, b2⟩ := fresh_step (o := .lst (ys.map V.str)) s1.fr b1 hn
  exact q _ _ _ m (.dat (.list (ys.map .str))) (s1.trans s2) b2 (Dq.lst upd_same (dqa_strs _)) (hP ys hp)
end
/-! ### the pairs of a table, by their keys -/
abbrev Row := Str × Int
def insR (r : Row) : List Row → List Row
  | [] => [r]
  | s :: l => if r.1.cps.toList < s.1.cps.toList then r :: s :: l else s :: insR r l
def rsort : List Row → List Row
  | [] => []
  | i :: l => insR i (rsort l)
theorem insR_perm (i : Row) : ∀ l : List Row, (insR i l).Perm (i :: l)
  | [] => .refl _
  | j :: l => by
    unfold insR
    split
    · exact .refl _
    · exact ((insR_perm i l).cons j).trans (.swap i j l)
theorem rsort_perm : ∀ l : List Row, (rsort l).Perm l
  | [] => .refl _
  | i :: l => (insR_perm i _).trans ((rsort_perm l).cons i)
abbrev RLt (e f : Row) : Prop := e.1.cps.toList < f.1.cps.toList
theorem str_ne {x y : Str} (h : x ≠ y) : x.cps.toList ≠ y.cps.toList := fun e => h (by cases x; cases y; simp only [Str.mk.injEq]; exact Array.toList_inj.mp e)
theorem insR_sorted (i : Row) : ∀ {l : List Row}, l.Pairwise RLt → i.1 ∉ l.map (·.1) → (insR i l).Pairwise RLt
  | [], _, _ => List.pairwise_singleton _ _
  | j :: l, h, hn => by
    obtain ⟨h1, h2⟩ := List.pairwise_cons.mp h
    simp only [List.map_cons, List.mem_cons, not_or] at hn
    unfold insR
    split
    · rename_i hij
      refine List.pairwise_cons.mpr ⟨fun k hk => ?_, h⟩
      rcases List.mem_cons.mp hk with rfl | hk
      · exact hij
      · exact str_lt_trans hij (h1 k hk)
    · rename_i hij
      refine List.pairwise_cons.mpr ⟨fun k hk => ?_, insR_sorted i h2 hn.2⟩
      rcases List.mem_cons.mp ((insR_perm i l).mem_iff.mp hk) with rfl | hk
      · rcases str_tri k.1.cps.toList j.1.cps.toList with z | z | z
        · exact absurd z hij
        · exact absurd z (str_ne hn.1)
        · exact z
      · exact h1 k hk
theorem rsort_sorted : ∀ {l : List Row}, (l.map (·.1)).Nodup → (rsort l).Pairwise RLt
  | [], _ => .nil
  | i :: l, h => by
    rw [List.map_cons, List.nodup_cons] at h
    refine insR_sorted i (rsort_sorted h.2) fun hm => h.1 ?_
    obtain ⟨x, hx, e⟩ := List.mem_map.mp hm
    exact List.mem_map.mpr ⟨x, (rsort_perm l).mem_iff.mp hx, e⟩
theorem rsorted_eq : ∀ {l m : List Row}, l.Pairwise RLt → m.Pairwise RLt → l.Perm m → l = m
  | [], m, _, _, p => (List.Perm.nil_eq p)
  | a :: l, [], _, _, p => (List.Perm.eq_nil p)
  | a :: l, b :: m, h1, h2, p => by
    obtain ⟨x1, x2⟩ := List.pairwise_cons.mp h1
    obtain ⟨y1, y2⟩ := List.pairwise_cons.mp h2
    have ab : a = b := by
      have ha : a ∈ b :: m := p.mem_iff.mp List.mem_cons_self
      have hb : b ∈ a :: l := p.mem_iff.mpr List.mem_cons_self
      rcases List.mem_cons.mp ha with h | h
      · exact h
      · rcases List.mem_cons.mp hb with h' | h'
        · exact h'.symm
        · exact absurd (str_lt_trans (y1 a h) (x1 b h')) (List.lt_irrefl _)
    subst ab
    rw [rsorted_eq x2 y2 p.cons_inv]
def rowD (r : Row) : PyData := .tuple [.str r.1, .int r.2]
def rowsOf : List PyData → Option (List Row)
  | [] => some []
  | .tuple [.str k, .int v] :: r => (rowsOf r).map ((k, v) :: ·)
  | _ :: _ => none
/-- the rows of a dict -/
def rowsK : List (Key × PyData) → Option (List Row)
  | [] => some []
  | (.inr k, .int v) :: r => (rowsK r).map ((k, v) :: ·)
  | _ :: _ => none
theorem rowsK_v {F : Hp} : ∀ {vs : List (Key × V)} {ks : List (Key × PyData)} {rs : List Row}, KD F vs ks → rowsK ks = some rs → vs = rs.map entS
  | _, _, _, .nil, e => by simp [rowsK] at e; subst e; rfl
  | (k1, v1) :: vs, (k2, d2) :: ks, rs, .cons r t, e => by
    obtain ⟨e1, rd⟩ := r
    have e1 : k1 = k2 := e1
    subst e1
    cases k1 with
    | inl i => simp [rowsK] at e
    | inr k =>
      cases d2 with
      | int v =>
        simp only [rowsK, Option.map_eq_some_iff] at e
        obtain ⟨rs', h1, h2⟩ := e
        subst h2
        have rd : Dq F v1 (.int v) := rd
        rw [dq_int rd, rowsK_v t h1]; rfl
      | _ => simp [rowsK] at e
/-- new objects at A, frozen -/
def extF (F H' : Hp) (A : List Addr) : Hp := fun a => if (F a).isNone = true then (if a ∈ A then H' a else none) else F a
theorem extF_old {F H' : Hp} {A : List Addr} {a : Addr} {o : HO} (e : F a = some o) : extF F H' A a = some o := by unfold extF; rw [e]; simp
theorem extF_at {F H H' : Hp} {A : List Addr} {a : Addr} (hf : Same F H) (h : H a = none) (ha : a ∈ A) : extF F H' A a = H' a := by
  unfold extF
  rw [hf.free h]
  simp [ha]
theorem ext_step {b : Option Addr} {F H H' : Hp} {n : Nat} {A : List Addr} (hf : Same F H) (bx : BoxOk b F H n) (hsub : ∀ a o, H a = some o → H' a = some o) (hA : ∀ a ∈ A, H a = none) : Step b F H (extF F H' A) H' ∧ BoxOk b (extF F H' A) H' n := by
  have nb : ∀ a, b = some a → extF F H' A a = none := fun a e => by
    obtain ⟨h1, x, y, z, h2, _⟩ := bx a e
    unfold extF
    rw [h1]
    have : a ∉ A := fun ha => by rw [hA a ha] at h2; cases h2
    simp [this]
  refine ⟨⟨fun a o e => extF_old e, fun a o e => ?_, fun a o e _ => hsub a o e, fun a e h => ?_, nb⟩, fun a e => ?_⟩
  · cases h : F a with
    | some u => rw [extF_old h] at e; cases e; exact hsub a _ (hf a _ h)
    | none =>
      unfold extF at e
      rw [h] at e
      by_cases ha : a ∈ A
      · simpa [ha] using e
      · simp [ha] at e
  · unfold extF at h
    rw [e] at h
    by_cases ha : a ∈ A
    · exact hA a ha
    · simp [ha] at h
  · obtain ⟨h1, x, y, z, h2, h3⟩ := bx a e
    exact ⟨nb a e, x, y, z, hsub a _ h2, h3⟩
/-- sorted(name.items()) -/
@[simp] def dSortIt (i : Nat) : TD := fun n ρ P => ∃ p ks rs, ρ[i]? = some (some (.odic p ks)) ∧ rowsK ks = some rs ∧ rs.length < 64 ∧ (rs.map (·.1)).Nodup ∧ P (.dat (.list ((rsort rs).map rowD))) n
theorem perm_pw {ps : List Row} {rs : List Row} (hp : ps.Perm rs) (hn : (rs.map (·.1)).Nodup) (h : ps.Pairwise fun e f => ¬ f.1.cps.toList < e.1.cps.toList) : ps = rsort rs := by
  have hn' : (ps.map (·.1)).Nodup := (hp.map _).nodup_iff.mpr hn
  refine rsorted_eq ?_ (rsort_sorted hn) (hp.trans (rsort_perm rs).symm)
  have hne : ps.Pairwise fun e f => e.1 ≠ f.1 := List.pairwise_map.mp hn'
  refine (h.and hne).imp fun {e f} z => ?_
  rcases str_tri e.1.cps.toList f.1.cps.toList with q | q | q
  · exact q
  · exact absurd q (str_ne z.2)
  · exact absurd q z.1
section
variable {X : Cx} {p pos ip px apos : Pos}
theorem de_sortedIt (i : Nat) {x : Str} (hc : X.calm = true) (hg : Gl X "sorted") (hm : X.mg "sorted" = none) (hN : X.N[i]? = some x := by rfl) (hv : Vis X.env.scope x := by first | exact Or.inl rfl | exact Or.inr (Or.inl rfl) | exact Or.inr (Or.inr rfl)) (hd : (x == ("__debug__" : Str)) = false := by decide) (hcd : (x == ("__classdict__" : Str)) = false := by decide)
    (hbase : attributeBase (.Name x px) "items" X.env (eval (.Name x px) X.env) = eval (.Name x px) X.env := by rfl) (hline : (apos.endLine == ip.line) = true := by rfl)
    (he : starEach [.Call (.Attribute (.Name x px) "items" apos) [] [] ip] X.env = (false, eval (.Call (.Attribute (.Name x px) "items" apos) [] [] ip) X.env) :: starEach [] X.env := by rfl) :
    DE X (.Call (.Name "sorted" p) [.Call (.Attribute (.Name x px) "items" apos) [] [] ip] [] pos) (dSortIt i) := by
  refine ⟨_, pe_callB (cr_sortedItemsK hc) hg hm boot_sortedB (pa_cons (pe_bm0 PySem.F.plainAttrs_dict PySem.F.slot_dict_items PySem.F.type_dict_items mt_itemsK (pe_var hN hv hd hcd) hbase hline) pa_nil he) (by decide) (by decide) he rfl, fun g F H n σ ρ P Q hw k hh q => ?_⟩
  obtain ⟨p, ks, rs, ei, hr, h64, hnd, hP⟩ := hh
  obtain ⟨h1, nb, hF, vs, hH, kd⟩ := k.odic ei
  obtain rfl := rowsK_v kd hr
  refine ⟨.ref p, h1, .inr (.inr (.inl ⟨rfl, .inl ⟨_, hH⟩⟩)), p, _, rfl, rfl, hH, fun v hv => ?_⟩
  obtain ⟨s1, b1, _, _⟩ := new_step (o := L2.DX.itemsO v p) k.st.fr k.box hv
  have own1 := s1.own nb hF hH
  refine ⟨v, p, rs, rfl, upd_same, own1.2, h64, hnd, fun H' l ps hsub hperm hsort hl hl' hps => ?_⟩
  have eps := perm_pw hperm hnd hsort
  have hA : ∀ a ∈ l :: ps.map (·.1), upd H v (L2.DX.itemsO v p) a = none := fun a ha => by
    rcases List.mem_cons.mp ha with rfl | ha
    · exact hl
    · obtain ⟨z, hz, rfl⟩ := List.mem_map.mp ha
      exact (hps z hz).1
  obtain ⟨s2, b2⟩ := ext_step s1.fr b1 hsub hA
  have hFA : ∀ a ∈ l :: ps.map (·.1), extF F H' (l :: ps.map (·.1)) a = H' a := fun a ha => extF_at s1.fr (hA a ha) ha
  refine q (.ref l) _ H' n (.dat (.list ((rsort rs).map rowD))) (s1.trans s2) b2 (Dq.lst ((hFA l List.mem_cons_self).trans hl') ?_) hP
  rw [← eps, List.map_map]
  have go : ∀ zs : List (Addr × Str × Int), (∀ z ∈ zs, z ∈ ps) → DqAll (extF F H' (l :: ps.map (·.1))) (zs.map fun z => V.ref z.1) (zs.map (rowD ∘ fun x => x.2)) := by
    intro zs
    induction zs with
    | nil => intro _; exact .nil
    | cons z zs ih =>
      intro hz
      obtain ⟨_, ob, hob, hz'⟩ := hps z (hz z List.mem_cons_self)
      refine .cons (Dq.tup ⟨ob, (hFA z.1 (List.mem_cons_of_mem _ (List.mem_map.mpr ⟨z, hz z List.mem_cons_self, rfl⟩))).trans hz', hob⟩ (.cons (.str _) (.cons (.int _) .nil))) (ih fun y hy => hz y (List.mem_cons_of_mem _ hy))
  exact go ps fun _ h => h
end
end DL
set_option Elab.async false
set_option linter.all false
set_option maxRecDepth 100000
set_option maxHeartbeats 4000000
/-! DL11: dict(tuple), len(set(..)), nested keys, starred names, repr. -/
namespace DL
open PySem PySem.Spec L2

/-! ### dict(rows) -/
theorem rows_v {F : Hp} : ∀ {vs : List V} {ds : List PyData} {rs : List Row}, DqAll F vs ds → rowsOf ds = some rs → ∃ ps : List Addr, vs = ps.map V.ref ∧ Paired (fun p (r : Row) => TupF F p [.str r.1, .int r.2]) ps rs
  | _, _, _, .nil, e => by simp [rowsOf] at e; subst e; exact ⟨[], rfl, .nil⟩
  | v :: vs, d :: ds, rs, .cons r t, e => by
    cases d with
    | tuple l =>
      match l, e, r with
      | [.str k, .int x], e, r =>
        simp only [rowsOf, Option.map_eq_some_iff] at e
        obtain ⟨rs', h1, h2⟩ := e
        subst h2
        obtain ⟨ps, e1, pp⟩ := rows_v t h1
        obtain ⟨a, us, rfl, ha, ta⟩ := dq_tup r
        cases ta with
        | cons r1 t1 =>
          cases t1 with
          | cons r2 t2 =>
            cases t2
            obtain rfl := dq_str r1
            obtain rfl := dq_int r2
            exact ⟨a :: ps, by rw [e1]; rfl, .cons ha pp⟩
      | [], e, _ => simp [rowsOf] at e
      | [_], e, _ => simp [rowsOf] at e
      | _ :: _ :: _ :: _, e, _ => simp [rowsOf] at e
      | [.none, _], e, _ => simp [rowsOf] at e
      | [.bool _, _], e, _ => simp [rowsOf] at e
      | [.int _, _], e, _ => simp [rowsOf] at e
      | [.list _, _], e, _ => simp [rowsOf] at e
      | [.tuple _, _], e, _ => simp [rowsOf] at e
      | [.dict _, _], e, _ => simp [rowsOf] at e
      | [.str _, .none], e, _ => simp [rowsOf] at e
      | [.str _, .bool _], e, _ => simp [rowsOf] at e
      | [.str _, .str _], e, _ => simp [rowsOf] at e
      | [.str _, .list _], e, _ => simp [rowsOf] at e
      | [.str _, .tuple _], e, _ => simp [rowsOf] at e
      | [.str _, .dict _], e, _ => simp [rowsOf] at e
    | _ => simp [rowsOf] at e
/-- the dict that rows make -/
def dictR (rs : List Row) : List (Key × PyData) := rs.foldl (fun acc r => putD acc (.inr r.1) (.int r.2)) []
theorem kd_foldR {F : Hp} : ∀ (rs : List Row) {vs : List (Key × V)} {ks : List (Key × PyData)}, KD F vs ks → KD F (mergeK vs (rs.map entS)) (rs.foldl (fun acc r => putD acc (.inr r.1) (.int r.2)) ks)
  | [], _, _, h => h
  | r :: rs, _, _, h => kd_foldR rs (kd_put (.int r.2) h)
@[simp] def dDictR (fa : TDa) : TD := fun n ρ P => fa n ρ fun xs m => ∃ ds rs, xs = [.dat (.tuple ds)] ∧ rowsOf ds = some rs ∧ ∀ p, P (.odic p (dictR rs)) m
section
variable {X : Cx} {p pos q px : Pos} {e : Expr} {es : List Expr} {fa : TDa} {f : TD} {k : Nat}
theorem deo_dict (hc : X.calm = true) (hg : Gl X "dict") (hm : X.mg "dict" = none) (h : DA X (e :: es) fa) (he : starEach (e :: es) X.env = (false, eval e X.env) :: starEach es X.env := by rfl) (hpl : (backTo pos (starEach es X.env)).any (·.1) = false := by rfl) : DEo X (.Call (.Name "dict" p) (e :: es) [] pos) (dDictR fa) := by
  obtain ⟨t, q1, g1⟩ := h
  refine ⟨_, pe_callTy (call_dictTP hc) hg hm boot_dictT q1 (by decide) (by decide) he hpl, fun g F H n σ ρ P Q hw k hh q => ?_⟩
  refine g1 g F H n σ ρ _ _ hw k hh fun vs F1 H1 m xs s1 b1 r1 hx => ?_
  obtain ⟨ds, rs, rfl, hr, hP⟩ := hx
  obtain ⟨v, rfl, r2⟩ := rel1 r1
  obtain ⟨a, us, rfl, ⟨ob, ha, hob⟩, ta⟩ := dq_tup r2
  obtain ⟨ps, rfl, pp⟩ := rows_v ta hr
  have conv : Paired (fun p (kv : Key × V) => SqT X.K H1 p [kV kv.1, kv.2]) ps (rs.map entS) := by
    clear hr ta ha r2 r1 hP
    induction pp with
    | nil => exact .nil
    | cons h t ih => exact .cons (h.sq s1.fr) (ih)
  refine ⟨a, ob, ps, rs.map entS, rfl, s1.fr _ _ ha, hob, conv, fun l hl => ?_⟩
  obtain ⟨s2, b2, hF, hb⟩ := new_step (o := .dK (mergeK [] (rs.map entS))) s1.fr b1 hl
  refine q _ F1 _ m (.odic l (dictR rs)) (s1.trans s2) b2 ⟨rfl, hb, hF, _, upd_same, kd_foldR rs .nil⟩ (fun p' e' => ?_) (hP l)
  cases e'
  cases eh : H l with
  | none => rfl
  | some o =>
    by_cases z : some l = g.b
    · exact absurd z hb
    · rw [s1.keep l o eh z] at hl; cases hl
/-! ### len(set(xs)) -/
@[simp] def dLenSet (f : TD) : TD := fun n ρ P => f n ρ fun x m => ∃ ns : List Int, x = .dat (.list (ns.map .int)) ∧ ns.length < 4000 ∧ P (.dat (.int (dst ns : Nat))) m
theorem ints_v {F : Hp} : ∀ {vs : List V} {ns : List Int}, DqAll F vs (ns.map PyData.int) → vs = ns.map V.int
  | _, [], h => by cases h; rfl
  | _, s :: ss, h => by cases h with | cons h t => rw [dq_int h, ints_v t]; rfl
theorem de_lenSet {a : Expr} (hc : X.calm = true) (hg : Gl X "len") (hm : X.mg "len" = none) (hg2 : Gl X "set") (hm2 : X.mg "set" = none) (h : DE X a f) (na : starEach [a] X.env = (false, eval a X.env) :: starEach [] X.env := by rfl) : DE X (.Call (.Name "len" p) [.Call (.Name "set" px) [a] [] q] [] pos) (dLenSet f) := by
  obtain ⟨t, q1, g1⟩ := h
  refine ⟨_, pe_lenSetG hc hg hm hg2 hm2 q1 na, fun g F H n σ ρ P Q hw k hh q => ?_⟩
  refine g1 g F H n σ ρ _ _ hw k hh fun v F1 H1 m x s1 b1 r1 hx => ?_
  obtain ⟨ns, rfl, hl, hP⟩ := hx
  obtain ⟨a, us, rfl, ha, ta⟩ := dq_lst r1
  obtain rfl := ints_v ta
  exact ⟨a, ns, rfl, SqL.of (s1.fr _ _ ha), hl, q _ F1 H1 m (.dat (.int (dst ns : Nat))) s1 b1 (Dq.int _) hP⟩
end

/-! ### dicts with nested keys -/
-- the key that a datum is
mutual
def nkOf : PyData → Option NestedKey
  | .none => some .none
  | .int i => some (.num i)
  | .str x => some (.text x)
  | .tuple ds => (nkAll ds).map .tup
  | _ => none
def nkAll : List PyData → Option (List NestedKey)
  | [] => some []
  | d :: ds => match nkOf d, nkAll ds with
    | some k, some ks => some (k :: ks)
    | _, _ => none
end
mutual
theorem nk_data : ∀ (d : PyData) (k : NestedKey), nkOf d = some k → k.data = d
  | .none, k, e => by simp [nkOf] at e; subst e; rfl
  | .int i, k, e => by simp [nkOf] at e; subst e; rfl
  | .str x, k, e => by simp [nkOf] at e; subst e; rfl
  | .tuple ds, k, e => by
    simp only [nkOf, Option.map_eq_some_iff] at e
    obtain ⟨ks, h1, h2⟩ := e
    subst h2
    simp only [NestedKey.data, nk_datas ds ks h1]
  | .bool _, k, e => by simp [nkOf] at e
  | .list _, k, e => by simp [nkOf] at e
  | .dict _, k, e => by simp [nkOf] at e
theorem nk_datas : ∀ (ds : List PyData) (ks : List NestedKey), nkAll ds = some ks → NestedKey.datas ks = ds
  | [], ks, e => by simp [nkAll] at e; subst e; rfl
  | d :: ds, ks, e => by
    simp only [nkAll] at e
    split at e
    · rename_i k ks' h1 h2
      cases e
      simp only [NestedKey.datas, nk_data d k h1, nk_datas ds ks' h2]
    · cases e
end
/-- a tuple that can be a key -/
def nkT (d : PyData) : Option NestedKey := match d with
  | .tuple _ => (nkOf d).bind fun k => if k.depth ≤ 8 then some k else none
  | _ => none
theorem nkT_at {F : Hp} {v : V} {d : PyData} {k : NestedKey} (h : Dq F v d) (e : nkT d = some k) : ∃ a, v = .ref a ∧ Dq F (.ref a) k.data ∧ k.depth ≤ 8 := by
  unfold nkT at e
  split at e
  · obtain ⟨k', h1, h2⟩ := Option.bind_eq_some_iff.mp e
    split at h2
    · rename_i hd
      cases h2
      obtain ⟨a, us, rfl, ha, ta⟩ := dq_tup h
      exact ⟨a, rfl, by rw [nk_data _ _ h1]; exact h, hd⟩
    · cases h2
  · cases e
@[simp] def inN (neg : Bool) : W → W → Option W
  | .dat d, .onst _ ks => (nkT d).map fun k => .dat (.bool (if neg then !decide (k ∈ ks) else decide (k ∈ ks)))
  | _, _ => none
theorem gr_inN {w : Wk} (neg : Bool) : GR w (rNstIn w neg) (inN neg) := gr_val fun b F H x y a c z hf ra rc e => by
  unfold inN at e
  split at e
  · rename_i d p ks
    obtain ⟨k, e1, e2⟩ := Option.map_eq_some_iff.mp e
    subst e2
    obtain ⟨a, rfl, hk, hd⟩ := nkT_at ra e1
    obtain ⟨rfl, _, _, hn⟩ := rc
    exact ⟨.bl _, Dq.bl _, fun Q q => ⟨F, a, p, k, ks, hf, rfl, rfl, hk, hd, hn, q⟩⟩
  · cases e
@[simp] def lenNW : List W → Option W
  | [.onst _ ks] => some (.dat (.int (ks.length : Int)))
  | _ => none
theorem gc_lenN {w : Wk} : GC w (rLenNst w) lenNW := gc_val fun b F H vs xs z hf ra e => by
  unfold lenNW at e
  split at e
  · rename_i p ks
    cases e
    obtain ⟨v, rfl, r1⟩ := rel1 ra
    obtain ⟨rfl, _, _, hn⟩ := r1
    exact ⟨.int _, Dq.int _, fun Q q => ⟨F, p, ks, hf, rfl, hn, q⟩⟩
  · cases e
@[simp] def dNN : TD := fun n _ P => ∀ p, P (.onst p []) n
theorem Ok.onst {g : Fx} {F H : Hp} {n : Nat} {σ : L2.St} {ρ : Rho} (k : Ok g F H n σ ρ) {i : Nat} {p : Addr} {ks : List NestedKey} (e : ρ[i]? = some (some (.onst p ks))) : σ[i]? = some (some (.ref p)) ∧ some p ≠ g.b ∧ F p = none ∧ NstAt g.w F H p ks := by
  obtain ⟨v, h1, rfl, h2⟩ := k.slot i _ e
  exact ⟨h1, h2⟩
/-- name[ie] = True -/
@[simp] def dNPut (i : Nat) (fi : TD) : TSd := fun E n ρ => ∃ p ks, ρ[i]? = some (some (.onst p ks)) ∧ fi n ρ fun y k => ∃ d key, y = .dat d ∧ nkT d = some key ∧ ks.length < 16777216 ∧ E.nx k (ρ.set i (some (.onst p (addK ks key))))
/-- dict([(k, True), ..]) -/
def npairs : List PyData → Option (List NestedKey)
  | [] => some []
  | .tuple [d, .bool true] :: r => match nkT d, npairs r with
    | some k, some ks => some (k :: ks)
    | _, _ => none
  | _ :: _ => none
@[simp] def dDictN (fa : TDa) : TD := fun n ρ P => fa n ρ fun xs m => ∃ ds ks, xs = [.dat (.list ds)] ∧ npairs ds = some ks ∧ ∀ p, P (.onst p (mergeN ks)) m
theorem npairs_v {F : Hp} : ∀ {vs : List V} {ds : List PyData} {ks : List NestedKey}, DqAll F vs ds → npairs ds = some ks →
    ∃ (ts : List Addr) (kas : List (NestedKey × Addr)), vs = ts.map V.ref ∧ kas.map (·.1) = ks ∧ Paired (fun t (x : NestedKey × Addr) => TupF F t [.ref x.2, .bl true]) ts kas ∧ ∀ x ∈ kas, Dq F (.ref x.2) x.1.data ∧ x.1.depth ≤ 8
  | _, _, _, .nil, e => by simp [npairs] at e; subst e; exact ⟨[], [], rfl, rfl, .nil, fun _ h => nomatch h⟩
  | v :: vs, d :: ds, ks, .cons r t, e => by
    unfold npairs at e
    split at e
    · rename_i h; cases h
    · rename_i d' r' heq
      cases heq
      split at e
      · rename_i k ks' h1 h2
        cases e
        obtain ⟨ts, kas, e1, e2, pp, hk⟩ := npairs_v t h2
        obtain ⟨a, us, rfl, ha, ta⟩ := dq_tup r
        cases ta with
        | cons r1 t1 =>
          cases t1 with
          | cons r2 t2 =>
            cases t2
            obtain ⟨c, rfl, hc, hd⟩ := nkT_at r1 h1
            obtain rfl := dq_bl r2
            refine ⟨a :: ts, (k, c) :: kas, by rw [e1]; rfl, by rw [List.map_cons, e2], .cons ha pp, fun x hx => ?_⟩
            rcases List.mem_cons.mp hx with rfl | hx
            · exact ⟨hc, hd⟩
            · exact hk x hx
      · cases e
    · cases e
section
variable {X : Cx} {a c e ie : Expr} {pos p px tpos p0 : Pos} {f h fi : TD} {fa : TDa} {es : List Expr} {k : Nat}
theorem de_inN (hr : Room k X.A) (h1 : DE X a f) (h2 : DE X c h) (hm : behindInMarks .In c = false := by rfl) : DE X (.Compare a [.In] [c] pos) (dOp (inN false) f h) := de_cmp (op_inNst hr) (gr_inN false) h1 h2 hm
theorem de_notinN (hr : Room k X.A) (h1 : DE X a f) (h2 : DE X c h) (hm : behindInMarks .NotIn c = false := by rfl) : DE X (.Compare a [.NotIn] [c] pos) (dOp (inN true) f h) := de_cmp (op_notinNst hr) (gr_inN true) h1 h2 hm
theorem dt_inN (hr : Room k X.A) (h1 : DE X a f) (h2 : DE X c h) (hm : behindInMarks .In c = false := by rfl) : DT X (.Compare a [.In] [c] pos) (dtst (dOp (inN false) f h)) := dt_cmp (op_inNst hr) (gr_inN false) h1 h2 hm
theorem dt_notinN (hr : Room k X.A) (h1 : DE X a f) (h2 : DE X c h) (hm : behindInMarks .NotIn c = false := by rfl) : DT X (.Compare a [.NotIn] [c] pos) (dtst (dOp (inN true) f h)) := dt_cmp (op_notinNst hr) (gr_inN true) h1 h2 hm
theorem de_lenN (hg : Gl X "len") (hm : X.mg "len" = none) (h : DA X (e :: es) fa) (he : starEach (e :: es) X.env = (false, eval e X.env) :: starEach es X.env := by rfl) (hpl : (backTo pos (starEach es X.env)).any (·.1) = false := by rfl) : DE X (.Call (.Name "len" p) (e :: es) [] pos) (dB lenNW fa) := de_cb call_lenNst gc_lenN boot_lenB hg hm h he hpl
theorem fresh_back {g : Fx} {F H F1 H1 : Hp} {l : Addr} (s1 : Step g.b F H F1 H1) (hb : some l ≠ g.b) (hl : H1 l = none) : H l = none := by
  cases eh : H l with
  | none => rfl
  | some o => rw [s1.keep l o eh hb] at hl; cases hl
theorem deo_nstNew : DEo X (.Dict [] [] pos) dNN := by
  refine ⟨_, pe_nstNew, fun g F H n σ ρ P Q hw k hh q => ?_⟩
  intro p ob hp hn
  obtain ⟨s1, b1, hF, hb⟩ := new_step (o := NstO p ob) k.st.fr k.box hp
  exact q _ F _ n (.onst p []) s1 b1 ⟨rfl, hb, hF, hn F⟩ (fun p' e => by cases e; exact hp) (hh p)
theorem deo_dictN (hc : X.calm = true) (hr : Room k X.A) (hg : Gl X "dict") (hm : X.mg "dict" = none) (h : DA X (e :: es) fa) (he : starEach (e :: es) X.env = (false, eval e X.env) :: starEach es X.env := by rfl) (hpl : (backTo pos (starEach es X.env)).any (·.1) = false := by rfl) : DEo X (.Call (.Name "dict" p) (e :: es) [] pos) (dDictN fa) := by
  obtain ⟨t, q1, g1⟩ := h
  refine ⟨_, pe_callTy (call_dictN hc hr) hg hm boot_dictT q1 (by decide) (by decide) he hpl, fun g F H n σ ρ P Q hw k hh q => ?_⟩
  refine g1 g F H n σ ρ _ _ hw k hh fun vs F1 H1 m xs s1 b1 r1 hx => ?_
  obtain ⟨ds, ks, rfl, hn, hP⟩ := hx
  obtain ⟨v, rfl, r2⟩ := rel1 r1
  obtain ⟨a, us, rfl, ha, ta⟩ := dq_lst r2
  obtain ⟨ts, kas, rfl, ek, pp, hk⟩ := npairs_v ta hn
  refine ⟨F1, a, ts, kas, s1.fr, rfl, SqL.of (s1.fr _ _ ha), paired_mono pp fun _ _ z => z.sq s1.fr, hk, fun l ob hl hN => ?_⟩
  obtain ⟨s2, b2, hF, hb⟩ := new_step (o := NstO l ob) s1.fr b1 hl
  rw [ek] at hN
  exact q _ F1 _ m (.onst l (mergeN ks)) (s1.trans s2) b2 ⟨rfl, hb, hF, hN⟩ (fun p' e' => by cases e'; exact fresh_back s1 hb hl) (hP l)
theorem ds_nput (i : Nat) {x : Str} {j} {kpos : Pos} (hr : Room k X.A) (h1 : DE X ie fi) (hN : X.N[i]? = some x := by rfl) (hv : Vis X.env.scope x := by first | exact Or.inl rfl | exact Or.inr (Or.inl rfl) | exact Or.inr (Or.inr rfl)) (hd : (x == ("__debug__" : Str)) = false := by decide) (hcd : (x == ("__classdict__" : Str)) = false := by decide)
    (ha : ∀ v, assign (.Subscript (.Name x px) ie tpos) X.env v = (do
      let ov ← holding [v] (eval (.Name x px) X.env)
      let iv ← holding [v, ov] (eval ie X.env)
      standAt tpos
      holding [v, ov, iv] (setItem ov iv v)
      release [v, ov, iv] []) := by intro _; rfl) (hs : swapsWithSole [.Subscript (.Name x px) ie tpos] (.Constant (.bool true) j kpos) pos.line X.env = pure false := by rfl) (hw : swappedStores [.Subscript (.Name x px) ie tpos] (.Constant (.bool true) j kpos) X.env = pure none := by rfl)
    (h3 : (assignEach [.Subscript (.Name x px) ie tpos] X.env).map (·.2) = [assign (.Subscript (.Name x px) ie tpos) X.env] := by rfl) : DS X (.Assign [.Subscript (.Name x px) ie tpos] (.Constant (.bool true) j kpos) pos) (dNPut i fi) := by
  obtain ⟨ti, pi, g1⟩ := h1
  refine ⟨_, ps_asg pe_bl (pg_sub (pe_var hN hv hd hcd) pi (set_nst hr) ha) hs hw h3, fun g F H n σ ρ D E hw k l hh => ?_⟩
  obtain ⟨p, ks, ei, hh⟩ := hh
  refine ⟨.ref p, (k.onst ei).1, ?_⟩
  refine g1 g F H n σ ρ _ _ hw k hh fun u F1 H1 m y s1 b1 r1 hy => ?_
  obtain ⟨d, key, rfl, ek, hl, hE⟩ := hy
  obtain ⟨a, rfl, hk, hd⟩ := nkT_at r1 ek
  have k1 := k.step s1 b1
  obtain ⟨_, nb, hF, hN⟩ := k1.onst ei
  rw [hw] at hN
  refine ⟨F1, a, p, key, ks, s1.fr, rfl, rfl, rfl, hk, hd, hN, by rw [sizeLine_eq]; exact hl, fun ob hn => ?_⟩
  refine l.nx F1 _ m σ _ s1.ex (k1.mut ei rfl (x' := .onst p (addK ks key)) ⟨rfl, nb, hF, by rw [hw]; exact hn⟩ (fun v r => r.1) rfl) hE
end

/-! ### {k: True for target in iter} -/
def dlN (p : TGd) (fk : TD) (ρ : Rho) : List PyData → List NestedKey → Nat → (List NestedKey → Nat → Prop) → Prop
  | [], acc, n, P => P acc n
  | d :: ds, acc, n, P => p d ρ fun ρ' => fk n ρ' fun x j => ∃ y key, x = .dat y ∧ nkT y = some key ∧ acc.length < 16777216 ∧ dlN p fk ρ ds (addK acc key) j P
@[simp] def dDcN (fi : TId) (p : TGd) (fk : TD) (vs : List Nat) : TD := fun n ρ P => fi n ρ fun ds m => dlN p fk (wipeR ρ vs) ds [] m fun acc j => ∀ q, P (.onst q acc) j
theorem dn_it {w : Wk} {J : It} {n : Nat} {G : Hp → Prop} {Y : Nat → Hp → V → Hp → Prop} (wk : Walk J n G Y) {g : TG} {tt : TT} {tk tv : TE} {vs : List Nat} {σ : L2.St} {H10 : Hp} {D : Addr} {Qd : Hp → Prop} (Pv : Nat → Hp → Prop) (h0 : Pv 0 H10) (hG : ∀ i H, i ≤ n → Pv i H → G H)
    (hs : ∀ i x H H', i < n → Pv i H → Y i H x H' → g x (wipe σ vs) H' fun σ2 H2 => wipe σ2 vs = wipe σ vs ∧ tt σ2 H2 fun b H3 =>
      if b = true then tk σ2 H3 fun y H4 => tv σ2 H4 fun z H5 => rNstSet w (.ref D) y z H5 (Pv (i + 1)) else Pv (i + 1) H3) (hd : ∀ H, Pv n H → Qd H) :
    ∃ W : Nat → Nat → Hp → Prop, (∃ m, W 0 m H10) ∧ ∀ i m H, W i m H →
      (J.stop i H ∧ Qd H) ∨ (J.go i H ∧ ∃ Nx : Hp → Prop, (∀ H', Nx H' → ∃ m', m' < m ∧ W (i + 1) m' H') ∧ ∀ x H', J.yld i H x H' → g x (wipe σ vs) H' fun σ2 H2 => wipe σ2 vs = wipe σ vs ∧ tt σ2 H2 fun b H3 =>
        if b = true then tk σ2 H3 fun y H4 => tv σ2 H4 fun z H5 => rNstSet w (.ref D) y z H5 Nx else Nx H3) := by
  refine ⟨fun i m H => m = n - i ∧ i ≤ n ∧ Pv i H, ⟨n, by simp, Nat.zero_le _, h0⟩, ?_⟩
  rintro i m H ⟨rfl, hi, p⟩
  have q := hG i H hi p
  by_cases hlt : i < n
  · refine .inr ⟨wk.goes i H hlt q, Pv (i + 1), fun H' p' => ⟨n - (i + 1), by omega, rfl, hlt, p'⟩, fun x H' y => hs i x H H' hlt p (wk.yields i H x H' hlt q y)⟩
  · have e : i = n := by omega
    subst e
    exact .inl ⟨wk.stops H q, hd H p⟩
theorem wipe_idem (σ : L2.St) (vs : List Nat) : wipe (wipe σ vs) vs = wipe σ vs := by
  have idem : ∀ (l : List Nat) (τ : L2.St) (l0 : List Nat), (∀ i ∈ l, i ∈ l0) → wipe (wipe τ l0) l = wipe τ l0 := by
    intro l
    induction l with
    | nil => intro τ l0 _; rfl
    | cons a l ih =>
      intro τ l0 hs
      have q1 : ∀ (l0 : List Nat) (τ : L2.St), a ∈ l0 → (wipe τ l0).set a none = wipe τ l0 := by
        intro l0
        induction l0 with
        | nil => intro τ h; cases h
        | cons c l0 ih0 =>
          intro τ h
          unfold L2.wipe
          by_cases eac : a = c
          · subst eac; simp
          · rw [List.set_comm _ _ (Ne.symm eac), ih0 τ (by rcases List.mem_cons.mp h with h | h; exact absurd h eac; exact h)]
      show (wipe (wipe τ l0) l).set a none = wipe τ l0
      rw [ih τ l0 fun i hi => hs i (List.mem_cons_of_mem _ hi)]
      exact q1 l0 τ (hs a List.mem_cons_self)
  exact idem vs σ vs fun _ h => h
section
variable {X : Cx} {kx tg iter : Expr} {scope : Scope} {own : List (Str × Nat)} {pos kpos : Pos} {fi : TId} {p : TGd} {fk : TD} {kr : Nat} {j}
theorem deo_dcN {lo : Bool} (hr : Room kr X.A) (hc : X.calm = true) (hN : X.N.Nodup) (h1 : DI lo X tg iter fi) (ok : BlkOk X.N X.env.scope scope own)
    (h2 : ∀ (s : Shared) (H : Hp) (C : Addr) (cl : List (Str × Addr)) (fp : List Addr), DG lo (X.blk s H scope (compEnvC scope cl C X.env) fp) tg (own.map (·.2)) p)
    (h4 : ∀ (s : Shared) (H : Hp) (C : Addr) (cl : List (Str × Addr)) (fp : List Addr), DE (X.blk s H scope (compEnvC scope cl C X.env) fp) kx fk) (hs : ∀ x, foldedSetIterable iter X.env x = pure x := by intro _; rfl) :
    DEo X (.DictComp kx (.Constant (.bool true) j kpos) [⟨tg, iter, [], 0⟩] scope pos) (dDcN fi p fk (own.map (·.2))) := by
  obtain ⟨wi, q1, g1⟩ := h1
  refine ⟨_, pe_dn (g := tDg lo (own.map (·.2)) p) (tt := tYes) (tk := tD (wkOf X) fk) (tv := tC (.bl true)) hr hc hN q1 ok (fun s H C cl fp => (h2 s H C cl fp).can) (fun _ _ _ _ _ => pts_nil) (fun s H C cl fp => (h4 s H C cl fp).can) (fun _ _ _ _ _ => pe_bl) hs, fun g F H n σ ρ P Q hw k hh q => ?_⟩
  refine g1 g F H n σ ρ _ _ hw k hh fun J F1 H1 m ds s1 b1 wd hL => ?_
  obtain ⟨G, Y, wk, hG, hY⟩ := wd
  intro Dl ob hD hN0
  obtain ⟨s2, b2, hF, hb⟩ := new_step (o := NstO Dl ob) s1.fr b1 hD
  have k1 := k.step s1 b1
  refine dn_it wk (fun i H' => ∃ F' m' ks, Step g.b F1 H1 F' H' ∧ BoxOk g.b F' H' m' ∧ RelW (wkOf X) g.b F' H' (.ref Dl) (.onst Dl ks) ∧ dlN p fk (wipeR ρ (own.map (·.2))) (ds.drop i) ks m' fun acc j => ∀ q, P (.onst q acc) j) ?_ ?_ ?_ ?_
  · exact ⟨F1, m, [], s2, b2, ⟨rfl, hb, hF, hN0 F1⟩, hL⟩
  · rintro i H' _ ⟨F', m', ks, s, _⟩
    exact hG H' (s.ex.trans s.fr)
  · rintro i x H' H2 hi ⟨F', m', ks, s, bx, hr', hl⟩ y
    obtain ⟨F2, d, s3, b3, e, rd⟩ := hY i F' H' m' x H2 hi s.ex s.fr bx y
    have e2 : ds.drop i = d :: ds.drop (i + 1) := by
      rw [List.drop_eq_getElem_cons hi]
      have e3 : ds[i] = d := by rw [List.getElem?_eq_getElem hi] at e; exact Option.some.inj e
      rw [e3]
    rw [e2] at hl
    have k3 := (k1.step (s.trans s3) b3).wipe (own.map (·.2))
    refine gg_can g F2 H2 m' _ _ x d _ _ k3 rd hl fun σ3 ρ3 k4 w3 h3 => ⟨by rw [w3]; exact wipe_idem σ _, ?_⟩
    show tD (wkOf X) fk σ3 H2 (fun y H4 => tC (.bl true) σ3 H4 fun z H5 => _)
    refine ge_can g F2 H2 m' σ3 ρ3 _ _ hw k4 h3 fun v F5 H5 m5 x5 s5 b5 r5 hx => ?_
    obtain ⟨y, key, rfl, ek, hlen, hn⟩ := hx
    obtain ⟨a, rfl, hk, hd⟩ := nkT_at r5 ek
    obtain ⟨_, _, hF5, hN5⟩ := (hr'.mono s3).mono s5
    refine ⟨F5, a, Dl, key, ks, s5.fr, rfl, rfl, rfl, hk, hd, hN5, by rw [sizeLine_eq]; exact hlen, fun ob' hn' => ⟨F5, m5, addK ks key, ?_, ?_, ⟨rfl, hb, hF5, hn'⟩, hn⟩⟩
    · have st := (s.trans s3).trans s5
      refine ⟨st.ex, fun a o e => ?_, fun a o e nb => ?_, st.new, st.bx⟩
      · rw [upd_ne (ne_of_none e hF5)]; exact st.fr a o e
      · rw [upd_ne (ne_of_none e hD)]; exact st.keep a o e nb
    · intro a e
      obtain ⟨z1, x1, x2, x3, z2, z3⟩ := b5 a e
      exact ⟨z1, x1, x2, x3, by rw [upd_ne (fun z => hb (by rw [← z, e]))]; exact z2, z3⟩
  · rintro H' ⟨F', m', ks, s, bx, hr', hl⟩
    rw [List.drop_length] at hl
    exact q (.ref Dl) F' H' m' (.onst Dl ks) (s1.trans s) bx hr' (fun p' e' => by cases e'; exact fresh_back s1 hb hD) (hl Dl)
end
end DL
set_option Elab.async false
set_option linter.all false
set_option maxRecDepth 100000
set_option maxHeartbeats 4000000
/-! DL12: defs that ask the guards; the box; starred names; repr; list or list. -/
namespace L2
open PySem PySem.Spec PyProof.Rows
/-- a def's promise where nothing is being shown -/
structure FnG (P : Program) (w : World) (K : PySem.W.Frag) (mg : Str → Option Value) (base : Heap) (CX : CXT) (k : Nat) (f : Addr) (fd : FuncData) (ps : List Str) (sp : Sp) : Prop where
  len : ∀ vs H Q E, sp vs H Q E → vs.length = ps.length
  run : ∀ (A : Around) (outer : List Env) (s : Shared) (H : Hp) (args : Args) (us : List Value) (vs : List V) (Q : VK) (E : XK), A.guards = some [] → Room k A → Env0 P w K mg base A outer s H → BindsTo s fd args (ps.zip us) → Vals vs us → sp vs H Q E →
    codeAny (model P w) A (.call (.ref f) args) (CR CX outer P w H s Q E) s
theorem fn_ofG {CX : CXT} {P : Program} {w : World} {K : PySem.W.Frag} {mg : Str → Option Value} {base : Heap} {k : Nat} {f : Addr} {name qual : Str} {params : Arguments} {body : List Stmt} {scope : Scope} {dV kV doc pm cdv ct oc : Value} {an od : Option Addr}
    {osl : Array (Option Value)} {N ps : List Str} {sp : Sp} (lk : K.lookup f = some ⟨oc, od, .func (PySem.W.fnOf name qual params body scope dV kV doc pm an cdv ct), osl⟩) (hcd : PySem.W.codeIn K cdv qual = true) (S : FnScope N ps scope)
    (len : ∀ vs H Q E, sp vs H Q E → vs.length = ps.length)
    (hbody : ∀ (A : Around) (outer : List Env) (s : Shared) (H : Hp) (vs : List V) (Q : VK) (E : XK), A.guards = some [] → Room k (A.deeper (envOfC qual scope s.heap.objs.size f cdv)) → sp vs H Q E →
      ∃ t, PSs (cxOf CX P w K mg base N qual scope f cdv A outer s H E) body t ∧ t { nx := fun _ H' => Q .non H', rt := Q } (start N vs) H) :
    FnG P w K mg base CX (k + 1) f (PySem.W.fnOf name qual params body scope dV kV doc pm an cdv ct) ps sp := by
  refine ⟨len, fun A outer s H args us vs Q E hgu hr e0 hb r hsp => ?_⟩
  have hl := len _ _ _ _ hsp
  have KX : K.In s.heap := e0.mod.kin.keeps fun b o e => (e0.bs b o e).1
  have lim : s.heap.NoLimit := e0.mod.nolimit.keeps fun b o e => (e0.bs b o e).1
  have hkind : ∀ y ∈ ps.zip us, scope.names.lookup y.1 = some .local ∨ (scope.names.lookup y.1 = some .cell ∧ ((cellsFrom (s.heap.objs.size + 1) scope.names []).lookup y.1).isSome = true) := fun ⟨n, v⟩ hy => by
    rcases S.par n (List.of_mem_zip hy).1 with q | q
    · exact .inl q
    · exact .inr ⟨q, PySem.W.cellsFrom_some _ _ _ (.inl q)⟩
  refine codeAny_call_function hr.depth (KX _ _ lk) rfl S.co S.gen rfl (PySem.W.codeRec_of KX hcd) (hb _ _ _ _ ?_)
  refine wpAny_newFunctionEnv_cells S.kind hkind fun env he s1 x => ?_
  subst he
  refine ⟨lim.keeps x.toInCall.keep, codeAny_func ?_⟩
  obtain ⟨t, ht, hq⟩ := hbody A outer s H vs Q E hgu (hr.deeper _) hsp
  have I : Inv (cxOf CX P w K mg base N qual scope f cdv A outer s H E) [] (start N vs) H s1 := inv_start S hr.hd e0 hl r x
  refine wpAny_mono (ht.run [] s1 (start N vs) H _ I hq) (fun fl s' hs => ?_) fun e s' hs => hs
  have fin : ∀ {σ' : St} {H' : Hp} {v : V} {u : Value}, Inv (cxOf CX P w K mg base N qual scope f cdv A outer s H E) [] σ' H' s' → RelV v u → Q v H' → CE outer P w H s Q u s' :=
    fun {σ' H' v u} J rv q => ⟨v, H', J.os, J.bare, J.base, J.hok, rv, q⟩
  cases fl with
  | ret u =>
    obtain ⟨v, σ', H', J, rv, q⟩ := hs
    exact fin J rv q
  | next =>
    obtain ⟨σ', H', J, q⟩ := hs
    exact fin (v := V.non) (u := Value.none) J rfl q
  | brk =>
    obtain ⟨_, _, _, q⟩ := hs
    exact False.elim q
  | cont =>
    obtain ⟨_, _, _, q⟩ := hs
    exact False.elim q

section
variable {X : Cx} {CX : CXT} {k : Nat} {f C : Addr} {fd : FuncData} {ps : List Str} {sp : Sp} {dvs : List V} {ds : List Value} {E : XK} {x m : Str} {p pos apos : Pos} {e o : Expr} {es : List Expr} {ta : TE} {t : TA}
theorem run_fnG {pins : List (Addr × Obj)} {σ : St} {H : Hp} {s : Shared} {Q : VK} {us : List Value} {vs : List V} (hgu : X.A.guards = some []) (F : FnG X.prog X.w X.K X.mg X.base CX k f fd ps sp) (hr : Room k X.A) (hb : Binds X.K fd ps ds) (hd : Vals dvs ds) (hx : Passes CX X E)
    (I : Inv X pins σ H s) (r : Vals vs us) (h : sp (vs ++ dvs) H Q E) : wpAny (model X.prog X.w) X.A (call (.ref f) us) (EP X pins σ Q) X.xe s := by
  have r2 : Vals (vs ++ dvs) (us ++ ds) := r.append hd
  have hl : (us ++ ds).length = ps.length := by rw [← r2.length]; exact F.len _ _ _ _ h
  refine wpAny_call (codeAny_mono (F.run X.A X.stack s H ⟨us, []⟩ (us ++ ds) (vs ++ dvs) Q E hgu hr I.env0 (hb s us I.kIn hl) r2 h) fun r s' hq => ?_)
  cases r with
  | error e => exact hx pins σ H s e s' I hq
  | ok fl =>
    cases fl with
    | ret u => exact I.after hq
    | next => exact False.elim hq
    | brk => exact False.elim hq
    | cont => exact False.elim hq

theorem pe_callG (hgu : X.A.guards = some []) (F : FnG X.prog X.w X.K X.mg X.base CX k f fd ps sp) (hr : Room k X.A) (hg : Gl X x) (hm : X.mg x = some (.ref f)) (hk : PySem.W.keepIn X.K (.ref f) = true) (hb : Binds X.K fd ps ds) (hd : Vals dvs ds) (hx : Passes CX X E)
    (ha : PA X (e :: es) t) (hdb : (x == ("__debug__" : Str)) = false := by decide) (he : starEach (e :: es) X.env = (false, eval e X.env) :: starEach es X.env := by rfl) (hpl : (backTo pos (starEach es X.env)).any (·.1) = false := by rfl) :
    PE X (.Call (.Name x p) (e :: es) [] pos) (tCall sp dvs E t) := by
  refine ⟨fun pins s σ H Q I h => ?_⟩
  refine wpAny_Call_Name_kw (ld_glob I hg hm ?_ hdb)
  refine PySem.W.callWith_K (h₀ := X.base) I.ok.mod.kin hk (thn (ha.run pos pins s σ H _ I h) fun us s1 ⟨vs, H1, I1, r, q⟩ => ⟨I1.kIn, ?_⟩) he hpl
  exact run_fnG hgu F hr hb hd hx I1 r q

end
theorem law_callG {P : Program} {w : World} {K : PySem.W.Frag} {mg mb : Str → Option Value} {CX : CXT} {k : Nat} {fa a : Addr} {fd : FuncData} {x : Str} {sp : Sp} {s₁ : Shared} {vs : List Value} {ns : List Int}
    (KX : K.In s₁.heap) (hns : s₁.heap.Ns mainGlobals mg) (hb : s₁.heap.Ns builtinsNs mb) (hbb : ∀ x : Str, x ≠ "__name__" → mb x = bootBuiltins x) (hlim : s₁.heap.NoLimit) (hg : s₁.gens = #[])
    (ha : s₁.heap.get? a = some { cls := .type "list", data := .seq vs.toArray }) (hi : IntsAre vs ns) (hl : ns.length ≤ sizeLine) (hr : Room k callerA)
    (F : ∀ base : Heap, K.In base → base.Ns mainGlobals mg → FnG P w K mg base CX k fa fd [x] sp) (hbind : ∀ (s : Shared) (u : Value), BindsTo s fd ⟨[u], []⟩ [(x, u)])
    (hsp : ∀ H : Hp, Only H → SqL K H a (ns.map V.int) → sp [.ref a] H (fun v _ => v = .bl true) fun _ _ _ => False)
    (hCX : ∀ H e s', CX [] H s₁ (fun _ _ _ => False) e s' → False) :
    codeAny (model P w) callerA (.call (.ref fa) ⟨[.ref a], []⟩) (fun r s' => r = .ok (.ret (.bool true)) ∧ OldK s₁.heap s'.heap ∧ s'.os = s₁.os ∧ AllBare s'.gens) s₁ := by
  have rv := vals_ints hi
  have lenV := hi.length
  -- from an abstract heap in which nothing but the script may be tracked
  have core : ∀ H : Hp, Only H → SqL K H a (ns.map V.int) → HOk P w H s₁.heap → (∀ b, H b ≠ none → b = a) → (H a ≠ none → K.lookup a = none) →
      codeAny (model P w) callerA (.call (.ref fa) ⟨[.ref a], []⟩) (fun r s' => r = .ok (.ret (.bool true)) ∧ OldK s₁.heap s'.heap ∧ s'.os = s₁.os ∧ AllBare s'.gens) s₁ := by
    intro H hO hS hok hA hK
    have base_of : ∀ {b : Addr} {o : Obj}, s₁.heap.get? b = some o → H b = none → (hidT s₁.heap H).get? b = some o := fun e n => hidT_get e n
    have noA : ∀ {b : Addr} {o : Obj} {es : Array DictEntry} {ep : Nat}, s₁.heap.get? b = some o → o.data = .dict es ep → H b = none := fun {b o es ep} e d => by
      cases q : H b with
      | none => rfl
      | some u =>
        have e' : b = a := hA b (by rw [q]; simp)
        subst e'
        rw [ha] at e; cases e
        have d' : Data.seq vs.toArray _ = Data.dict es ep := d
        cases d'
    have nsK : ∀ {b : Addr} {m : Str → Option Value}, s₁.heap.Ns b m → (hidT s₁.heap H).Ns b m := fun {b m} ⟨o, es, ep, e, d, r⟩ => ⟨o, es, ep, base_of e (noA e d), d, r⟩
    have hKb : K.In (hidT s₁.heap H) := fun b o e => base_of (KX b o e) (by
      cases q : H b with
      | none => rfl
      | some u =>
        have e' : b = a := hA b (by rw [q]; simp)
        subst e'
        rw [hK (by rw [q]; simp)] at e; cases e)
    have hM : Mod K mg (hidT s₁.heap H) := ⟨hKb, nsK hns, ⟨mb, nsK hb, hbb⟩, let ⟨mc, h1, h2⟩ := hlim; ⟨mc, nsK h1, h2⟩⟩
    have e0 : Env0 P w K mg (hidT s₁.heap H) callerA [] s₁ H := ⟨rfl, hM, fun b o e => of_hidT e, Nat.le_of_eq (hidT_size _ _), trivial, fun b hb => absurd (show b ∈ ([] : List Addr) from hb) (by simp), hok, .of_eq hg⟩
    refine codeAny_mono ((F _ hKb (nsK hns)).run callerA [] s₁ H ⟨[.ref a], []⟩ [.ref a] [.ref a] _ _ rfl hr e0 (hbind s₁ (.ref a)) (.cons rfl .nil) (hsp H hO hS)) fun r s' h => ?_
    cases r with
    | error e => exact (hCX H e s' h).elim
    | ok fl =>
      cases fl with
      | next => exact False.elim h
      | brk => exact False.elim h
      | cont => exact False.elim h
      | ret u =>
        obtain ⟨v, H', os, bare, un, hok', r', q⟩ := h
        have q' : v = .bl true := q
        subst q'
        obtain rfl : u = Value.bool true := r'
        refine ⟨rfl, OldK.of_keep fun b o e => ?_, os, bare⟩
        cases q : H b with
        | none => exact un.keep b o e q (by intro z; exact absurd (show b ∈ ([] : List Addr) from z) (by simp)) (by simp)
        | some u =>
          rcases hO b with z | ⟨ob, xs, z⟩
          · rw [q] at z; cases z
          · have z2 := un.frzs b ob _ z
            obtain ⟨e1, _⟩ := hok b _ z
            obtain ⟨e2, _⟩ := hok' b _ z2
            rw [e] at e1; cases e1
            exact e2
  cases hk : K.lookup a with
  | some o =>
    -- the script is one of the module's own objects
    have e := KX a o hk
    rw [ha] at e
    cases e
    refine core (fun _ => none) (fun _ => .inl rfl) (.inr ⟨_, vs.toArray, _, hk, rfl, rfl, rfl, by rw [List.size_toArray, lenV]; exact hl, by simpa using rv⟩) (fun b u z => by have z' : (none : Option HO) = some u := z; cases z') (fun b z => absurd rfl z) fun z => absurd rfl z
  | none =>
    refine core (fun b => if b = a then some (.frz { cls := .type "list", data := .seq vs.toArray } (.lst (ns.map V.int))) else none) (fun b => ?_) (.inl (.inr ⟨{ cls := .type "list", data := .seq vs.toArray }, if_pos rfl⟩)) (fun b u z => ?_) (fun b z => ?_) fun _ => hk
    · by_cases hb : b = a
      · exact .inr ⟨_, _, if_pos hb⟩
      · exact .inl (if_neg hb)
    · by_cases hb : b = a
      · have z' := (if_pos hb).symm.trans z
        cases z'
        subst hb
        exact ⟨ha, by rw [List.length_map]; exact hl, vs, _, rv, ha⟩
      · have z' := (if_neg hb).symm.trans z
        cases z'
    · by_cases hb : b = a
      · exact hb
      · exact absurd (if_neg hb) z
theorem walk_ofG {l : PySem.W.OpenLaw} {n k : Nat} {q : Program} {loose : List Str} {XP : (Str → Option Value) → Heap → Prop} {YP : World → Heap → Prop} {d : DefRec} {CX : CXT} {x : Str}
    (hn : l.most = some n) (hn2 : n ≤ sizeLine) (hdf : d.params.defaults = []) (hr : Room k callerA)
    (F : ∀ (w : World) (mg : Str → Option Value) (fa : Addr) (h : Heap), YP w h → h.Ns mainGlobals mg → mg d.name = some (.ref fa) →
      ∃ (K : PySem.W.Frag) (fd : FuncData) (sp : Sp), K.In h ∧ (∀ (s : Shared) (u : Value), BindsTo s fd ⟨[u], []⟩ [(x, u)]) ∧
        (∀ (H : Hp) (a : Addr) (ns : List Int), ns.length ≤ n → Only H → SqL K H a (ns.map V.int) → sp [.ref a] H (fun v _ => v = .bl true) fun _ _ _ => False) ∧
        ∀ base : Heap, K.In base → base.Ns mainGlobals mg → FnG l.prog w K mg base CX k fa fd [x] sp)
    (hCX : ∀ (H : Hp) (s : Shared) (e : Value) (s' : Shared), CX [] H s (fun _ _ _ => False) e s' → False) :
    PySem.W.WalkO q loose XP YP l.row.toRowW d [] (fun f vs => PySem.call f vs) := by
  refine Att.attach_call hn hdf fun w s₀ s₁ mg mb fa o pm cd doc a vs ns G Y ho hd hcd hmg hobj hints hlen hg => ?_
  obtain ⟨K, fd, sp, KX, hb, hsp, hF⟩ := F w mg fa _ Y G.T.g hmg
  exact law_callG KX G.T.g G.T.b G.T.builtins G.T.nolimit hg hobj hints (Nat.le_trans hlen hn2) hr hF hb (fun H hO hS => hsp H a ns hlen hO hS) fun H e s' => hCX H s₁ e s'

end L2
set_option Elab.async false
set_option linter.all false
set_option maxRecDepth 100000
set_option maxHeartbeats 4000000
/-! DL13: defs that ask the guards; the box; starred names; repr; list or list. -/
namespace DL
open PySem PySem.Spec L2

/-! ### a, *b = t -/
@[simp] def pStar (n : Nat) (f : TGds) : TGd := fun d ρ P => ∃ ds, d = .tuple ds ∧ n ≤ ds.length ∧ f (ds.take n ++ [.list (ds.drop n)]) ρ P
section
variable {X : Cx} {pos p : Pos} {e : Expr} {es : List Expr} {vs : List Nat} {f : TGd} {r : TGds}
theorem dgs_star (h1 : DG false X e vs f) (h2 : DGs X es vs r) (hs : (assignEach (.Starred e p :: es) X.env).map (·.2) = assign e X.env :: (assignEach es X.env).map (·.2) := by rfl) : DGs X (.Starred e p :: es) vs (pCons f r) := by
  obtain ⟨t, q, g1⟩ := h1
  obtain ⟨u, p2, g2⟩ := h2
  refine ⟨_, pgs_star q p2 hs, fun g F H n σ ρ us ds P Q k ra h q => ?_⟩
  obtain ⟨d, tl, rfl, h⟩ := h
  cases ra with
  | cons r1 r2 =>
    refine ⟨_, _, rfl, ?_⟩
    refine g1 g F H n σ ρ _ d _ _ k (.inl r1) h fun σ1 ρ1 k1 w1 h1 => ?_
    exact g2 g F H n σ1 ρ1 _ tl _ _ k1 r2 h1 fun σ2 ρ2 k2 w2 h2 => q σ2 ρ2 k2 (w2.trans w1) h2
/-- pattern = data, the pattern with a starred name -/
@[simp] def dAsgS (f : TD) (n : Nat) (p : TGds) : TSd := fun E m ρ => f m ρ fun x m => ∃ ds, x = .dat (.tuple ds) ∧ n ≤ ds.length ∧ p (ds.take n ++ [.list (ds.drop n)]) ρ fun ρ' => E.nx m ρ'
theorem ds_asgS {e : Expr} {fe : TD} {n kk : Nat} {tpos : Pos} (hc : X.calm = true) (h1 : DE X e fe) (h2 : DGs X es vs r) (hn : (assignEach es X.env).length = n + 1 := by rfl) (hst : (assignEach es X.env).findIdx? (·.1) = some n := by rfl)
    (hs : swapsWithSole [.Tuple es kk tpos] e pos.line X.env = pure false := by rfl) (hw : swappedStores [.Tuple es kk tpos] e X.env = pure none := by rfl) (ha : (assignEach [.Tuple es kk tpos] X.env).map (·.2) = [assign (.Tuple es kk tpos) X.env] := by rfl) : DS X (.Assign [.Tuple es kk tpos] e pos) (dAsgS fe n r) := by
  obtain ⟨t, p, g1⟩ := h1
  obtain ⟨u, p2, g2⟩ := h2
  refine ⟨_, ps_asg p (pg_star hc p2 hn hst) hs hw ha, fun g F H n' σ ρ D E hw k l hh => ?_⟩
  refine g1 g F H n' σ ρ _ _ hw k hh fun v F1 H1 m x s1 b1 r1 hx => ?_
  obtain ⟨ds, rfl, hl, hp⟩ := hx
  obtain ⟨a, us, rfl, ha, ta⟩ := dq_tup r1
  refine ⟨a, us, rfl, ha.sq s1.fr, by rw [dpa_len ta]; exact hl, fun q hq => ?_⟩
  obtain ⟨s2, b2⟩ := fresh_step (o := .lst (us.drop n)) s1.fr b1 hq
  have t2 := dp_monoA s2.ex _ _ ta
  exact g2 g _ _ m σ ρ _ _ _ _ ((k.step s1 b1).step s2 b2) (dpa_app (dpa_take n t2) (.cons (Dq.lst upd_same (dpa_drop n t2)) .nil)) hp fun σ' ρ' k' _ h' => l.nx _ _ m σ' ρ' (s1.ex.trans s2.ex) k' h'
end

/-! ### repr -/
@[simp] def reprSW : List W → Option W
  | [.dat (.int i)] => if i.natAbs < 1000000000 then some (.dat (.str (toString i))) else none
  | [.dat (.bool b)] => some (.dat (.str (if b then "True" else "False")))
  | [.dat .none] => some (.dat (.str "None"))
  | _ => none
theorem big_log {i : Int} (h : i.natAbs < 1000000000) : i.natAbs.log2 < 1920 := by
  have h2 : i.natAbs < 2 ^ 30 := by omega
  exact Nat.lt_of_lt_of_le (PySem.Flt.log2_lt_of (by decide) h2) (by decide)
theorem gc_reprS {w : Wk} : GC w rReprS reprSW := gc_val fun b F H vs xs z hf ra e => by
  unfold reprSW at e
  split at e
  · split at e
    · rename_i h
      cases e
      obtain ⟨v, rfl, r1⟩ := rel1 ra
      obtain rfl := dq_int r1
      exact ⟨.str _, Dq.str _, fun Q q => .inl ⟨_, rfl, big_log h, q⟩⟩
    · cases e
  · cases e
    obtain ⟨v, rfl, r1⟩ := rel1 ra
    obtain rfl := dq_bl r1
    exact ⟨.str _, Dq.str _, fun Q q => .inr (.inl ⟨_, rfl, q⟩)⟩
  · cases e
    obtain ⟨v, rfl, r1⟩ := rel1 ra
    obtain rfl := dq_non r1
    exact ⟨.str _, Dq.str _, fun Q q => .inr (.inr ⟨rfl, q⟩)⟩
  · cases e
@[simp] def reprGW : List W → Option W
  | [.dat (.list (x :: l))] => if ((PyData.list (x :: l)).showable && (decide ((PyData.list (x :: l)).shown.length ≤ 16777216) && decide ((PyData.list (x :: l)).depth ≤ 32))) = true then some (.dat (.str (PyData.list (x :: l)).shown)) else none
  | _ => none
theorem gc_reprG {w : Wk} : GC w rReprG reprGW := gc_val fun b F H vs xs z hf ra e => by
  unfold reprGW at e
  split at e
  · split at e
    · rename_i h
      cases e
      obtain ⟨v, rfl, r1⟩ := rel1 ra
      rw [Bool.and_eq_true, Bool.and_eq_true] at h
      exact ⟨.str _, Dq.str _, fun Q q => ⟨F, v, _, _, hf, rfl, r1, h.1, by rw [sizeLine_eq]; exact of_decide_eq_true h.2.1, of_decide_eq_true h.2.2, q⟩⟩
    · cases e
  · cases e
section
variable {X : Cx} {p pos : Pos} {e : Expr} {es : List Expr} {fa : TDa} {k : Nat}
theorem de_reprS (hg : Gl X "repr") (hm : X.mg "repr" = none) (h : DA X (e :: es) fa) (he : starEach (e :: es) X.env = (false, eval e X.env) :: starEach es X.env := by rfl) (hpl : (backTo pos (starEach es X.env)).any (·.1) = false := by rfl) : DE X (.Call (.Name "repr" p) (e :: es) [] pos) (dB reprSW fa) := de_cb call_reprS gc_reprS boot_reprB hg hm h he hpl
theorem de_reprG (hr : Room k X.A) (hgu : X.A.guards = some []) (hg : Gl X "repr") (hm : X.mg "repr" = none) (h : DA X (e :: es) fa) (he : starEach (e :: es) X.env = (false, eval e X.env) :: starEach es X.env := by rfl) (hpl : (backTo pos (starEach es X.env)).any (·.1) = false := by rfl) : DE X (.Call (.Name "repr" p) (e :: es) [] pos) (dB reprGW fa) := de_cb (call_reprG hr hgu) gc_reprG boot_reprB hg hm h he hpl
end

/-! ### list(..) or [..] -/
@[simp] def dOrL (f h : TD) : TD := fun n ρ P => f n ρ fun x m => ∃ p ds, x = .olst p ds ∧ (ds = [] → h m ρ P) ∧ (ds ≠ [] → P x m)
theorem deo_one {X : Cx} {a : Expr} {pos : Pos} {op} {f : TD} (h1 : DEo X a f) : DEo X (.BoolOp op [a] pos) f := by
  obtain ⟨t, p, g⟩ := h1
  exact ⟨_, pe_one p, g⟩
/-- a list display, owned -/
@[simp] def dOLst (fa : TDa) : TD := fun n ρ P => fa n ρ fun xs m => ∃ ds, dats xs = some ds ∧ ds.length ≤ 16777216 ∧ ∀ p, P (.olst p ds) m
theorem deo_lst {X : Cx} {es : List Expr} {pos : Pos} {fa : TDa} (h : DA X es fa) : DEo X (.List es pos) (dOLst fa) := by
  obtain ⟨t, p, g1⟩ := h
  refine ⟨_, pe_lst p, fun g F H n σ ρ P Q hw k hh q => ?_⟩
  refine g1 g F H n σ ρ _ _ hw k hh fun vs F1 H1 m xs s1 b1 r1 hx => ?_
  obtain ⟨ds, e, hl, hP⟩ := hx
  have ra := dats_rel r1 e
  refine ⟨by rw [dpa_len ra]; exact line_eq hl, fun p hp => ?_⟩
  obtain ⟨s2, b2, hF, hb⟩ := new_step (o := .lst vs) s1.fr b1 hp
  exact q _ F1 _ m (.olst p ds) (s1.trans s2) b2 ⟨rfl, hb, hF, vs, upd_same, ra⟩ (fun p' e' => by cases e'; exact fresh_back s1 hb hp) (hP p)
theorem deo_orL {X : Cx} {a b : Expr} {rest : List Expr} {pos : Pos} {f h : TD} (h1 : DEo X a f) (h2 : DEo X (.BoolOp .Or (b :: rest) pos) h) : DEo X (.BoolOp .Or (a :: b :: rest) pos) (dOrL f h) := by
  obtain ⟨t, p, g1⟩ := h1
  obtain ⟨u, p2, g2⟩ := h2
  refine ⟨_, pe_orT p p2, fun g F H n σ ρ P Q hw k hh q => ?_⟩
  refine g1 g F H n σ ρ _ _ hw k hh fun v F1 H1 m x s1 b1 r1 f1 hx => ?_
  obtain ⟨l, ds, rfl, h1, h2⟩ := hx
  obtain ⟨rfl, nb, hF, vs, hH, ta⟩ := id r1
  refine ⟨!vs.isEmpty, .inl ⟨vs, SqL.of hH, rfl⟩, ?_⟩
  by_cases hd : ds = []
  · subst hd
    obtain rfl := dpa_nil ta
    show u σ H1 Q
    refine g2 g F1 H1 m σ ρ _ _ hw (k.step s1 b1) (h1 rfl) fun v F2 H2 m2 x s2 b2 r2 f2 hx => ?_
    refine q v F2 H2 m2 x (s1.trans s2) b2 r2 (fun p e => ?_) hx
    exact fresh_back s1 (own_at r2 e).1 (f2 p e)
  · have : vs ≠ [] := fun z => by subst z; exact hd (dpa_nil' ta)
    have e2 : (!vs.isEmpty) = true := by cases vs with | nil => exact absurd rfl this | cons _ _ => rfl
    rw [if_pos e2]
    exact q _ F1 H1 m _ s1 b1 r1 f1 (h2 hd)

/-! ### the box -/
section
variable {X : Cx} {pos p2 px py tpos tp2 cp ap : Pos} {e : Expr} {fe fm : TD} {k : Nat}
theorem Ok.boxAt {g : Fx} {F H : Hp} {n : Nat} {σ : L2.St} {ρ : Rho} (k : Ok g F H n σ ρ) {i : Nat} (e : ρ[i]? = some (some .box)) : ∃ p, g.b = some p ∧ σ[i]? = some (some (.ref p)) ∧ F p = none ∧ BoxAt H p n := by
  obtain ⟨v, h1, p, h2, rfl⟩ := k.slot i _ e
  exact ⟨p, h2, h1, (k.box p h2).1, (k.box p h2).2⟩
/-- box[j] -/
@[simp] def dBox (i j : Nat) : TD := fun n ρ P => ρ[i]? = some (some .box) ∧ ∀ x y z : Int, 0 ≤ y → y < 2 ^ 62 → 0 ≤ z → z ≤ n → P (.dat (.int (if j = 0 then x else if j = 1 then y else z))) n
theorem de_box (i j : Nat) {x : Str} {kk} (hj : j < 3 := by decide) (hN : X.N[i]? = some x := by rfl) (hv : Vis X.env.scope x := by first | exact Or.inl rfl | exact Or.inr (Or.inl rfl) | exact Or.inr (Or.inr rfl)) (hd : (x == ("__debug__" : Str)) = false := by decide) (hcd : (x == ("__classdict__" : Str)) = false := by decide)
    (hs : PlainIx (.Constant (.int (j : Int)) kk cp) := by exact fun _ _ => rfl) : DE X (.Subscript (.Name x px) (.Constant (.int (j : Int)) kk cp) pos) (dBox i j) := by
  refine ⟨_, pe_ix ix_seq (pe_var hN hv hd hcd) pe_int hs, fun g F H n σ ρ P Q hw k hh q => ?_⟩
  obtain ⟨ei, hh⟩ := hh
  obtain ⟨p, hb, h1, hF, x, y, z, hH, h2⟩ := k.boxAt ei
  have at_ : atI [V.int x, V.int y, V.int z] (j : Int) = some (.int (if j = 0 then x else if j = 1 then y else z)) := by
    match j, hj with
    | 0, _ => rfl
    | 1, _ => rfl
    | 2, _ => rfl
  exact ⟨.ref p, h1, .inl ⟨p, _, j, _, rfl, rfl, SqL.of hH, at_, q _ F H n (.dat (.int (if j = 0 then x else if j = 1 then y else z))) k.self k.box (Dq.int _) (hh x y z h2.1 h2.2.1 h2.2.2.1 h2.2.2.2)⟩⟩
/-- the box is written -/
theorem Ok.boxWr {g : Fx} {F H : Hp} {n m : Nat} {σ : L2.St} {ρ : Rho} (k : Ok g F H n σ ρ) {p : Addr} {x y z : Int} (hb : g.b = some p) (h1 : 0 ≤ y) (h2 : y < 2 ^ 62) (h3 : 0 ≤ z) (h4 : z ≤ m) : Ok g F (upd H p (.lst [.int x, .int y, .int z])) m σ ρ := by
  have hF := (k.box p hb).1
  refine k.step ⟨Same.refl F, same_upd k.st.fr hF, fun a o e nb => ?_, fun a e h => absurd e h, k.st.bx⟩ fun a ea => ?_
  · rw [upd_ne (fun z => nb (by rw [hb, z]))]; exact e
  · rw [hb] at ea; cases ea
    exact ⟨hF, x, y, z, upd_same, h1, h2, h3, h4⟩
/-- box[2] = e -/
@[simp] def dBoxPut (i : Nat) (fe : TD) : TSd := fun E n ρ => fe n ρ fun x m => ∃ v, x = .dat (.int v) ∧ ρ[i]? = some (some .box) ∧ 0 ≤ v ∧ ∃ m', v ≤ (m' : Nat) ∧ E.nx m' ρ
theorem ds_boxPut (i : Nat) {x : Str} {kk} (h2 : DE X e fe) (hN : X.N[i]? = some x := by rfl) (hv : Vis X.env.scope x := by first | exact Or.inl rfl | exact Or.inr (Or.inl rfl) | exact Or.inr (Or.inr rfl)) (hd : (x == ("__debug__" : Str)) = false := by decide) (hcd : (x == ("__classdict__" : Str)) = false := by decide)
    (ha : ∀ v, assign (.Subscript (.Name x px) (.Constant (.int 2) kk cp) tpos) X.env v = (do
      let ov ← holding [v] (eval (.Name x px) X.env)
      let iv ← holding [v, ov] (eval (.Constant (.int 2) kk cp) X.env)
      standAt tpos
      holding [v, ov, iv] (setItem ov iv v)
      release [v, ov, iv] []) := by intro _; rfl) (hs : swapsWithSole [.Subscript (.Name x px) (.Constant (.int 2) kk cp) tpos] e pos.line X.env = pure false := by rfl) (hw : swappedStores [.Subscript (.Name x px) (.Constant (.int 2) kk cp) tpos] e X.env = pure none := by rfl)
    (h3 : (assignEach [.Subscript (.Name x px) (.Constant (.int 2) kk cp) tpos] X.env).map (·.2) = [assign (.Subscript (.Name x px) (.Constant (.int 2) kk cp) tpos) X.env] := by rfl) : DS X (.Assign [.Subscript (.Name x px) (.Constant (.int 2) kk cp) tpos] e pos) (dBoxPut i fe) := by
  obtain ⟨t, p, g2⟩ := h2
  refine ⟨_, ps_asg p (pg_sub (pe_var hN hv hd hcd) pe_int set_list ha) hs hw h3, fun g F H n σ ρ D E hw k l hh => ?_⟩
  refine g2 g F H n σ ρ _ _ hw k hh fun v F1 H1 m x s1 b1 r1 hx => ?_
  obtain ⟨v', rfl, ei, h0, m', hm, hE⟩ := hx
  obtain rfl := dq_int r1
  have k1 := k.step s1 b1
  obtain ⟨p, hb, h1, hF, x, y, z, hH, h2⟩ := k1.boxAt ei
  refine ⟨.ref p, h1, p, _, 2, 2, rfl, rfl, hH, rfl, ?_⟩
  exact l.nx F1 _ m' σ ρ s1.ex (k1.boxWr (x := x) (y := y) (z := v') hb h2.1 h2.2.1 h0 hm) hE
/-- box[0], name = divmod(box[0], e) -/
@[simp] def dBoxDiv (i j : Nat) (fm : TD) : TSd := fun E n ρ => ρ[i]? = some (some .box) ∧ fm n ρ fun x m => ∃ k, x = .dat (.int k) ∧ 0 < k ∧ k < 1073741824 ∧ ∀ r : Int, 0 ≤ r → r < k → E.nx m (ρ.set j (some (.dat (.int r))))
theorem ds_boxDiv (i j : Nat) {x y : Str} {kk kk2 kt : Nat} {dp : Pos} (hc : X.calm = true) (hnd : X.N.Nodup) (hg : Gl X "divmod") (hm : X.mg "divmod" = none) (h2 : DE X e fm) (hN : X.N[i]? = some x := by rfl) (hNj : X.N[j]? = some y := by rfl) (hyl : Loc X.env.scope y := by first | exact Or.inl rfl | exact Or.inr rfl) (hf : X.fn y = true ∨ X.env.scope.names.lookup y = some .local := by first | exact .inl rfl | exact .inr rfl | assumption)
    (hv : Vis X.env.scope x := by first | exact Or.inl rfl | exact Or.inr (Or.inl rfl) | exact Or.inr (Or.inr rfl)) (hd : (x == ("__debug__" : Str)) = false := by decide) (hcd : (x == ("__classdict__" : Str)) = false := by decide)
    (hps : PlainIx (.Constant (.int 0) kk2 cp) := by exact fun _ _ => rfl)
    (he : starEach [.Subscript (.Name x p2) (.Constant (.int 0) kk2 cp) tp2, e] X.env = (false, eval (.Subscript (.Name x p2) (.Constant (.int 0) kk2 cp) tp2) X.env) :: starEach [e] X.env := by rfl) (he2 : starEach [e] X.env = (false, eval e X.env) :: starEach [] X.env := by rfl) (hpl : (backTo dp (starEach [e] X.env)).any (·.1) = false := by rfl)
    (ha : ∀ v, assign (.Subscript (.Name x px) (.Constant (.int 0) kk ap) tpos) X.env v = (do
      let ov ← holding [v] (eval (.Name x px) X.env)
      let iv ← holding [v, ov] (eval (.Constant (.int 0) kk ap) X.env)
      standAt tpos
      holding [v, ov, iv] (setItem ov iv v)
      release [v, ov, iv] []) := by intro _; rfl)
    {fpos tupos : Pos}
    (hn : (assignEach [.Subscript (.Name x px) (.Constant (.int 0) kk ap) tpos, .Name y py] X.env).length = 2 := by rfl) (hst : (assignEach [.Subscript (.Name x px) (.Constant (.int 0) kk ap) tpos, .Name y py] X.env).findIdx? (·.1) = none := by rfl)
    (hq1 : (assignEach [.Subscript (.Name x px) (.Constant (.int 0) kk ap) tpos, .Name y py] X.env).map (·.2) = assign (.Subscript (.Name x px) (.Constant (.int 0) kk ap) tpos) X.env :: (assignEach [.Name y py] X.env).map (·.2) := by rfl)
    (hq2 : (assignEach [.Name y py] X.env).map (·.2) = assign (.Name y py) X.env :: (assignEach [] X.env).map (·.2) := by rfl)
    (hs : swapsWithSole [.Tuple [.Subscript (.Name x px) (.Constant (.int 0) kk ap) tpos, .Name y py] kt tupos] (.Call (.Name "divmod" fpos) [.Subscript (.Name x p2) (.Constant (.int 0) kk2 cp) tp2, e] [] dp) pos.line X.env = pure false := by rfl)
    (hw : swappedStores [.Tuple [.Subscript (.Name x px) (.Constant (.int 0) kk ap) tpos, .Name y py] kt tupos] (.Call (.Name "divmod" fpos) [.Subscript (.Name x p2) (.Constant (.int 0) kk2 cp) tp2, e] [] dp) X.env = pure none := by rfl)
    (h3 : (assignEach [.Tuple [.Subscript (.Name x px) (.Constant (.int 0) kk ap) tpos, .Name y py] kt tupos] X.env).map (·.2) = [assign (.Tuple [.Subscript (.Name x px) (.Constant (.int 0) kk ap) tpos, .Name y py] kt tupos) X.env] := by rfl) :
    DS X (.Assign [.Tuple [.Subscript (.Name x px) (.Constant (.int 0) kk ap) tpos, .Name y py] kt tupos] (.Call (.Name "divmod" fpos) [.Subscript (.Name x p2) (.Constant (.int 0) kk2 cp) tp2, e] [] dp) pos) (dBoxDiv i j fm) := by
  obtain ⟨t, p, g2⟩ := h2
  refine ⟨_, ps_asg (pe_callB call_divmod hg hm boot_divmodB (pa_cons (pe_ix ix_seq (pe_var hN hv hd hcd) pe_int hps) (pa_cons p pa_nil he2) he) (by decide) (by decide) he hpl) (pg_tup hc (pgs_cons (pg_sub (pe_var hN hv hd hcd) pe_int set_list ha) (pgs_cons (pg_name hnd hNj hyl hf) pgs_nil hq2) hq1) hn hst) hs hw h3, fun g F H n σ ρ D E hw k l hh => ?_⟩
  obtain ⟨ei, hh⟩ := hh
  obtain ⟨p, hb, h1, hF, x0, y0, z0, hH, h2⟩ := k.boxAt ei
  refine ⟨.ref p, h1, .inl ⟨p, _, 0, .int x0, rfl, rfl, SqL.of hH, rfl, ?_⟩⟩
  refine g2 g F H n σ ρ _ _ hw k hh fun v F1 H1 m x s1 b1 r1 hx => ?_
  obtain ⟨kk, rfl, hk0, hk1, hE⟩ := hx
  obtain rfl := dq_int r1
  refine ⟨x0, kk, rfl, ⟨hk0, hk1⟩, fun q hq => ?_⟩
  obtain ⟨s2, b2, _, _⟩ := new_step (o := .tup [.int (x0 / kk), .int (x0 % kk)]) s1.fr b1 hq
  have k2 := (k.step s1 b1).step s2 b2
  obtain ⟨p', hb', h1', hF', x1, y1, z1, hH', h2'⟩ := k2.boxAt ei
  refine ⟨q, _, rfl, SqT.of upd_same, rfl, _, _, rfl, .ref p', h1', p', _, 0, 0, rfl, rfl, hH', rfl, _, _, rfl, rfl, ?_⟩
  have k3 := k2.boxWr (m := m) (x := x0 / kk) (y := y1) (z := z1) hb' h2'.1 h2'.2.1 h2'.2.2.1 h2'.2.2.2
  exact l.nx F1 _ m _ _ s1.ex (k3.putD (x := .dat (.int (x0 % kk))) (Dq.int _) rfl) (hE _ (Int.emod_nonneg _ (by omega)) (Int.emod_lt_of_pos _ hk0))
end
end DL
set_option Elab.async false
set_option linter.all false
set_option maxRecDepth 100000
set_option maxHeartbeats 4000000
/-! DL14: defs that ask the guards, as worths; a box is made. -/
namespace DL
open PySem PySem.Spec L2
section
variable {P : Program} {w : World} {K : PySem.W.Frag} {mg : Str → Option Value} {base : Heap} {x qual : Str} {params : Arguments} {body : List Stmt} {scope : Scope} {dvs : List V} {kws : List (Str × V)} {f : Addr} {fd : FuncData} {N ps : List Str} {k : Nat} {s : SpD} {g : TSd}
theorem fn_g (F : FunD K x qual params body scope dvs kws f fd) (S : FnScope N ps scope) (len : ∀ ws n Q, s ws n Q → ws.length = ps.length)
    (hbody : ∀ (cdv : Value) (A : Around) (outer : List Env) (st : Shared) (H : Hp) (E : XK), A.guards = some [] → Room k (A.deeper (PyProof.Rows.envOfC qual scope st.heap.objs.size f cdv)) → DSs (cxOf CX0 P w K mg base N qual scope f cdv A outer st H E).nox body g)
    (hpf : ∀ ws n Q, s ws n Q → g { nx := fun m _ => Q (.dat .none) m, rt := Q } n (startD N ws)) : FnG P w K mg base CX0 (k + 1) f fd ps (spD ⟨w, K⟩ s) := by
  obtain ⟨oc, od, dV, kV, doc, pm, an, cdv, ct, osl, rfl, lk, hcd, _, _⟩ := F.ex
  refine fn_ofG lk hcd S (fun vs H Q E h => ?_) (fun A outer st H vs Q E hgu hr h => ?_)
  · obtain ⟨b, F, n, ws, P, _, _, r, _, hs, _⟩ := h
    rw [rela_len r]
    exact len ws n P hs
  · obtain ⟨b, F, n, ws, P, hf, bx, r, fr, hs, q⟩ := h
    obtain ⟨t, p, g1⟩ := hbody cdv A outer st H E hgu hr
    refine ⟨t, PSs.nox p, ?_⟩
    refine g1 ⟨⟨w, K⟩, b, F, H⟩ F H n _ _ _ _ rfl (start_ok (N := N) hf bx r fr) ⟨fun F' H' m σ ρ _ k' h' => ?_, fun v F' H' m x' s1 b1 r1 ho h' => q v F' H' m x' s1 b1 r1 ho h', fun _ _ _ _ _ _ _ h' => (show False from h').elim, fun _ _ _ _ _ _ _ h' => (show False from h').elim⟩ (hpf ws n P hs)
    exact q .non F' H' m (.dat .none) k'.st k'.box Dq.non rfl h'
end
structure GDef (P : Program) (w : World) (K : PySem.W.Frag) (mg : Str → Option Value) (base : Heap) (k : Nat) (x : Str) (ps : List Str) (s : SpD) : Prop where
  ex : ∃ fd, FnG P w K mg base CX0 k (He.ga K x) fd ps (spD ⟨w, K⟩ s) ∧ Binds K fd ps []
  at_ : mg x = some (.ref (He.ga K x))
  kp : PySem.W.keepIn K (.ref (He.ga K x)) = true
theorem FnG.mono {P : Program} {w : World} {K : PySem.W.Frag} {mg : Str → Option Value} {base : Heap} {CX : CXT} {j k : Nat} {f : Addr} {fd : FuncData} {ps : List Str} {sp : Sp} (F : FnG P w K mg base CX j f fd ps sp) (h : j ≤ k) : FnG P w K mg base CX k f fd ps sp :=
  ⟨F.len, fun A outer s H args us vs Q E hg hr => F.run A outer s H args us vs Q E hg (hr.mono h)⟩
section
variable {X : Cx} {pos : Pos} {j k : Nat} {x : Str} {ps : List Str} {s : SpD} {e : Expr} {es : List Expr} {fa : TDa}
theorem de_callGD (hgu : X.A.guards = some []) (D : GDef X.prog X.w X.K X.mg X.base j x ps s) (hr : Room k X.A) (ha : DA X (e :: es) fa) (hg : Gl X x := by rfl) (hj : j ≤ k := by first | assumption | decide)
    (hdb : (x == ("__debug__" : Str)) = false := by decide) (he : starEach (e :: es) X.env = (false, eval e X.env) :: starEach es X.env := by rfl) (hpl : (backTo pos (starEach es X.env)).any (·.1) = false := by rfl) {p : Pos} :
    DE X (.Call (.Name x p) (e :: es) [] pos) (dCall s fa) := by
  obtain ⟨fd, F, b⟩ := D.ex
  obtain ⟨t, q1, g1⟩ := ha
  refine ⟨_, pe_callG hgu F (hr.mono hj) hg D.at_ D.kp b .nil (E := E0) pass0 q1 hdb he hpl, fun g F0 H n σ ρ P Q hw k0 hh q => ?_⟩
  refine g1 g F0 H n σ ρ _ _ hw k0 hh fun vs F1 H1 m xs s1 b1 r1 hx => ?_
  rw [List.append_nil]
  exact ⟨g.b, F1, m, xs, P, s1.fr, b1, r1, hx.1, hx.2, fun v F' H' j y s2 b2 r2 _ hy => q v F' H' j y (s1.trans s2) b2 r2 hy⟩
end

/-! ### a box is made -/
@[simp] def keepB : W → Option W
  | .dat d => some (.dat d)
  | .scr ns => some (.scr ns)
  | _ => none
def forgetB (ρ : Rho) : Rho := ρ.map fun o => o.bind keepB
theorem keepB_eq {x y : W} (h : keepB x = some y) : x = y ∧ y.own = none ∧ ∀ {w : Wk} {b b' : Option Addr} {F H : Hp} {v : V}, RelW w b F H v y → RelW w b' F H v y := by
  cases x <;> simp at h <;> subst h <;> exact ⟨rfl, rfl, fun r => r⟩
theorem box_back {b : Option Addr} {F H F1 H1 F' H' : Hp} {p : Addr} {m : Nat} (s1 : Step b F H F1 H1) (b1 : BoxOk b F1 H1 m) (nb : some p ≠ b) (hp : H p = none) (s2 : Step (some p) F1 H1 F' H') : Step b F H F' H' ∧ BoxOk b F' H' m := by
  have bx : ∀ a, b = some a → F' a = none := fun a ea => by
    obtain ⟨z1, x, y, z, z2, _⟩ := b1 a ea
    cases e : F' a with
    | none => rfl
    | some o => rw [s2.new a z1 (by rw [e]; simp)] at z2; cases z2
  refine ⟨⟨s1.ex.trans s2.ex, s2.fr, fun a o ea na => ?_, fun a ea ha => ?_, bx⟩, fun a ea => ?_⟩
  · have h1 := s1.keep a o ea na
    exact s2.keep a o h1 fun z => by cases z; rw [hp] at ea; cases ea
  · by_cases z : F1 a = none
    · have h1 := s2.new a z ha
      cases e : H a with
      | none => rfl
      | some o =>
        by_cases n : some a = b
        · exact absurd (bx a n.symm) ha
        · rw [s1.keep a o e n] at h1; cases h1
    · exact s1.new a ea z
  · obtain ⟨z1, x, y, z, z2, z3⟩ := b1 a ea
    exact ⟨bx a ea, x, y, z, s2.keep a _ z2 (fun z => nb (by rw [← z, ea])), z3⟩
@[simp] def dNewBox (i : Nat) (fe : TD) (f2 : TSd) : TSd := fun E n ρ => fe n ρ fun x m => ∃ p a y, x = .olst p [.int a, .int y, .int 0] ∧ 0 ≤ y ∧ y < 2 ^ 62 ∧ (∀ (j : Nat) z, j ≠ i → ρ[j]? = some (some z) → keepB z = some z) ∧
  f2 { nx := fun _ ρ' => E.nx m (forgetB ρ'), rt := fun x _ => (∃ d, x = .dat d) ∧ E.rt x m, bk := fun _ ρ' => E.bk m (forgetB ρ'), ct := fun _ ρ' => E.ct m (forgetB ρ') } 0 (ρ.set i (some .box))
section
variable {X : Cx} {pos pos' : Pos} {e : Expr} {fe : TD} {rest : List Stmt} {f2 : TSd}
theorem dss_newBox (i : Nat) {x : Str} (hN : X.N.Nodup) (h1 : DEo X e fe) (h2 : DSs X rest f2) (hi : X.N[i]? = some x := by rfl) (hx : Loc X.env.scope x := by first | exact Or.inl rfl | exact Or.inr rfl) (hs : swapsWith e (some (.Name x pos')) pos.line X.env = pure false := by rfl) (hf : X.fn x = true ∨ X.env.scope.names.lookup x = some .local := by first | exact .inl rfl | exact .inr rfl | assumption) :
    DSs X (.Assign [.Name x pos'] e pos :: rest) (dNewBox i fe f2) := by
  obtain ⟨t, p, g1⟩ := h1
  obtain ⟨u, p2, g2⟩ := h2
  refine ⟨_, pss_cons (ps_set hN hi hx p hs hf) p2, fun g F H n σ ρ D E hw k l hh => ?_⟩
  refine g1 g F H n σ ρ _ _ hw k hh fun v F1 H1 m x s1 b1 r1 f1 hx => ?_
  obtain ⟨p, a, y, rfl, hy0, hy1, hρ, hh2⟩ := hx
  have hp : H p = none := f1 p rfl
  obtain ⟨rfl, nb, hF, vs, hH, ta⟩ := r1
  obtain ⟨v1, v2, v3, rfl, e1, e2, e3⟩ : ∃ v1 v2 v3, vs = [v1, v2, v3] ∧ v1 = .int a ∧ v2 = .int y ∧ v3 = .int 0 := by
    cases ta with
    | cons r1 t1 =>
      cases t1 with
      | cons r2 t2 =>
        cases t2 with
        | cons r3 t3 =>
          cases t3
          exact ⟨_, _, _, rfl, dq_int r1, dq_int r2, dq_int r3⟩
  subst e1 e2 e3
  have k1 := k.step s1 b1
  have back : ∀ {F' H' : Hp}, Step (some p) F1 H1 F' H' → Step g.b F H F' H' ∧ BoxOk g.b F' H' m := fun s2 => box_back s1 b1 nb hp s2
  have k2 : Ok ⟨g.w, some p, F1, H1⟩ F1 H1 0 (σ.set i (some (.ref p))) (ρ.set i (some .box)) := by
    have nown : ∀ (j : Nat) z, (ρ.set i (some W.box))[j]? = some (some z) → z.own = none := fun j z ez => by
      rw [List.getElem?_set] at ez
      split at ez
      · split at ez
        · cases ez; rfl
        · cases ez
      · rename_i hij
        exact (keepB_eq (hρ j z (Ne.symm hij) ez)).2.1
    refine ⟨Step.refl s1.fr fun a ea => by cases ea; exact hF, fun a ea => by cases ea; exact ⟨hF, a, y, 0, hH, hy0, hy1, Int.le_refl _, Int.le_refl _⟩, by rw [List.length_set, List.length_set]; exact k.len, fun j z ez => ?_, fun j z q ez hq => (by rw [nown j z ez] at hq; cases hq), fun j j' z z' q ez _ hq _ => (by rw [nown j z ez] at hq; cases hq)⟩
    rw [List.getElem?_set] at ez
    split at ez
    · rename_i hij
      subst hij
      split at ez
      · rename_i hl
        cases ez
        exact ⟨.ref p, by rw [List.getElem?_set_self (by rw [k.len]; exact hl)], p, rfl, rfl⟩
      · cases ez
    · rename_i hij
      obtain ⟨u, h1, h2⟩ := k1.slot j z ez
      exact ⟨u, by rw [List.getElem?_set_ne hij]; exact h1, (keepB_eq (hρ j z (Ne.symm hij) ez)).2.2 h2⟩
  have conv : ∀ {F' H' : Hp} {m' : Nat} {σ' : L2.St} {ρ' : Rho}, Ok ⟨g.w, some p, F1, H1⟩ F' H' m' σ' ρ' → Ok g F' H' m σ' (forgetB ρ') := fun {F' H' m' σ' ρ'} k' => by
    obtain ⟨s3, b3⟩ := back k'.st
    have at_ : ∀ (j : Nat) z, (forgetB ρ')[j]? = some (some z) → ∃ y, ρ'[j]? = some (some y) ∧ keepB y = some z := fun j z ez => by
      unfold forgetB at ez
      rw [List.getElem?_map] at ez
      cases h : ρ'[j]? with
      | none => rw [h] at ez; cases ez
      | some o =>
        rw [h] at ez
        cases o with
        | none => cases ez
        | some y => exact ⟨y, rfl, Option.some.inj ez⟩
    refine ⟨k.st.trans s3, b3, by unfold forgetB; rw [List.length_map]; exact k'.len, fun j z ez => ?_, fun j z q ez hq => ?_, fun j j' z z' q ez _ hq _ => ?_⟩
    · obtain ⟨y, e1, e2⟩ := at_ j z ez
      obtain ⟨rfl, _, sw⟩ := keepB_eq e2
      obtain ⟨u, h1, h2⟩ := k'.slot j y e1
      exact ⟨u, h1, sw h2⟩
    · obtain ⟨y, e1, e2⟩ := at_ j z ez
      rw [(keepB_eq e2).2.1] at hq; cases hq
    · obtain ⟨y, e1, e2⟩ := at_ j z ez
      rw [(keepB_eq e2).2.1] at hq; cases hq
  refine g2 ⟨g.w, some p, F1, H1⟩ F1 H1 0 _ _ D _ hw k2 ⟨fun F' H' m' σ' ρ' se k' h' => l.nx F' H' m σ' _ (s1.ex.trans se) (conv k') h', fun v F' H' m' x s3 b3 r3 ho h' => ?_, fun F' H' m' σ' ρ' se k' h' => l.bk F' H' m σ' _ (s1.ex.trans se) (conv k') h', fun F' H' m' σ' ρ' se k' h' => l.ct F' H' m σ' _ (s1.ex.trans se) (conv k') h'⟩ hh2
  obtain ⟨⟨d, rfl⟩, h'⟩ := h'
  obtain ⟨s4, b4⟩ := back s3
  exact l.rt v F' H' m (.dat d) (k.st.trans s4) b4 r3 rfl h'
/-! a def that gives a new list, owned by its caller: its body is one return -/
abbrev SpO := List W → Nat → (W → Nat → Prop) → Prop
def spO (w : Wk) (s : SpO) : Sp := fun vs H Q _ => ∃ (b : Option Addr) (F : Hp) (n : Nat) (ws : List W) (P : W → Nat → Prop), Same F H ∧ BoxOk b F H n ∧ RelA w b F H vs ws ∧ free ws = true ∧ s ws n P ∧
  ∀ v F' H' m x, Step b F H F' H' → BoxOk b F' H' m → RelW w b F' H' v x → (∀ p, x.own = some p → H p = none) → P x m → Q v H'
theorem fn_o {P : Program} {w : World} {K : PySem.W.Frag} {mg : Str → Option Value} {base : Heap} {x qual : Str} {params : Arguments} {body : List Stmt} {st1 : Stmt} {e : Expr} {rpos : Pos} {scope : Scope} {dvs : List V} {kws : List (Str × V)} {f : Addr} {fd : FuncData} {N ps : List Str} {k : Nat} {s : SpO} {f1 : TSd} {g : TD}
    (F : FunD K x qual params body scope dvs kws f fd) (hbd : body = [st1, .Return (some e) rpos]) (S : FnScope N ps scope) (len : ∀ ws n Q, s ws n Q → ws.length = ps.length)
    (hbody : ∀ (cdv : Value) (A : Around) (outer : List Env) (st : Shared) (H : Hp) (E : XK), Room k (A.deeper (PyProof.Rows.envOfC qual scope st.heap.objs.size f cdv)) → DS (cxOf CX0 P w K mg base N qual scope f cdv A outer st H E).nox st1 f1 ∧ DEo (cxOf CX0 P w K mg base N qual scope f cdv A outer st H E).nox e g)
    (hpf : ∀ ws n Q, s ws n Q → f1 { nx := fun m ρ => g m ρ Q, rt := fun _ _ => False } n (startD N ws)) : FnOk P w K mg base CX0 (k + 1) f fd ps (spO ⟨w, K⟩ s) := by
  subst hbd
  refine F.ok S (fun vs H Q E h => ?_) (fun cdv A outer st H vs Q E hr h => ?_)
  · obtain ⟨b, F, n, ws, P, _, _, r, _, hs, _⟩ := h
    rw [rela_len r]
    exact len ws n P hs
  · obtain ⟨b, F, n, ws, P, hf, bx, r, fr, hs, q⟩ := h
    obtain ⟨⟨t1, p1, g1⟩, t, p, g2⟩ := hbody cdv A outer st H E hr
    refine ⟨tSeq t1 (tRet t), PSs.nox (pss_cons p1 (pss_one (ps_ret p))), ?_⟩
    refine g1 ⟨⟨w, K⟩, b, F, H⟩ F H n _ _ _ _ rfl (start_ok (N := N) hf bx r fr) ⟨fun F' H' m σ ρ _ k' h' => ?_, fun _ _ _ _ _ _ _ _ _ h' => (show False from h').elim, fun _ _ _ _ _ _ _ h' => (show False from h').elim, fun _ _ _ _ _ _ _ h' => (show False from h').elim⟩ (hpf ws n P hs)
    exact g2 ⟨⟨w, K⟩, b, F, H⟩ F' H' m σ ρ P _ rfl k' h' fun v F2 H2 m2 x2 s2 b2 r2 f2 h2 => q v F2 H2 m2 x2 (k'.st.trans s2) b2 r2 (fun p e => fresh_back k'.st (own_at r2 e).1 (f2 p e)) h2
structure ODef (P : Program) (w : World) (K : PySem.W.Frag) (mg : Str → Option Value) (base : Heap) (k : Nat) (x : Str) (ps : List Str) (s : SpO) : Prop where
  ex : ∃ fd, FnOk P w K mg base CX0 k (He.ga K x) fd ps (spO ⟨w, K⟩ s) ∧ Binds K fd ps []
  at_ : mg x = some (.ref (He.ga K x))
  kp : PySem.W.keepIn K (.ref (He.ga K x)) = true
theorem deo_callD {ps : List Str} {s : SpO} {x : Str} {j k : Nat} {es : List Expr} {fa : TDa} (D : ODef X.prog X.w X.K X.mg X.base j x ps s) (hr : Room k X.A) (ha : DA X (e :: es) fa) (hg : Gl X x := by rfl) (hj : j ≤ k := by first | assumption | decide)
    (hdb : (x == ("__debug__" : Str)) = false := by decide) (he : starEach (e :: es) X.env = (false, eval e X.env) :: starEach es X.env := by rfl) (hpl : (backTo pos (starEach es X.env)).any (·.1) = false := by rfl) {p : Pos} :
    DEo X (.Call (.Name x p) (e :: es) [] pos) (dCall s fa) := by
  obtain ⟨fd, F, b⟩ := D.ex
  obtain ⟨t, q1, g1⟩ := ha
  refine ⟨_, pe_call F (hr.mono hj) hg D.at_ D.kp b .nil (E := E0) pass0 q1 hdb he hpl, fun g F0 H n σ ρ P Q hw k0 hh q => ?_⟩
  refine g1 g F0 H n σ ρ _ _ hw k0 hh fun vs F1 H1 m xs s1 b1 r1 hx => ?_
  rw [List.append_nil]
  exact ⟨g.b, F1, m, xs, P, s1.fr, b1, r1, hx.1, hx.2, fun v F' H' j y s2 b2 r2 f2 hy => q v F' H' j y (s1.trans s2) b2 r2 (fun p e => fresh_back s1 (own_at r2 e).1 (f2 p e)) hy⟩
end
end DL
namespace WL
open PySem PySem.Spec PyProof.Rows L2 DL
section
variable {P : Program} {w : World} {K : PySem.W.Frag} {mg : Str → Option Value} {base : Heap}
def bodyAt (s : Stmt) (i : Nat) : Stmt := (defBody s).getD i (.Pass ⟨0, 0, 0, 0⟩)
def retE : Stmt → Expr
  | .Return (some e) _ => e
  | _ => .Constant .none 0 ⟨0, 0, 0, 0⟩
def retP : Stmt → Pos
  | .Return _ p => p
  | _ => ⟨0, 0, 0, 0⟩
theorem mkGDef (B : Bn K mg) (i : Nat) {x : Str} {s : Stmt} {ps : List Str} {sp : SpD} {k : Nat} (hi : fnL[i]? = some ⟨(x, none), x, x, defArgs s, defBody s, defScope s, [], []⟩) (hm : mg x = some (.ref (He.ga K x)))
    (hb : ∀ fd, FunD K x x (defArgs s) (defBody s) (defScope s) [] [] (He.ga K x) fd → Binds K fd ps []) (h : ∀ fd, FunD K x x (defArgs s) (defBody s) (defScope s) [] [] (He.ga K x) fd → FnG P w K mg base CX0 k (He.ga K x) fd ps (spD ⟨w, K⟩ sp)) : GDef P w K mg base k x ps sp := by
  obtain ⟨fd, F⟩ := B.says.def_ i hi
  exact ⟨⟨fd, h fd F, hb fd F⟩, hm, F.kp⟩
theorem mkODef (B : Bn K mg) (i : Nat) {x : Str} {s : Stmt} {ps : List Str} {sp : SpO} {k : Nat} (hi : fnL[i]? = some ⟨(x, none), x, x, defArgs s, defBody s, defScope s, [], []⟩) (hm : mg x = some (.ref (He.ga K x)))
    (hb : ∀ fd, FunD K x x (defArgs s) (defBody s) (defScope s) [] [] (He.ga K x) fd → Binds K fd ps []) (h : ∀ fd, FunD K x x (defArgs s) (defBody s) (defScope s) [] [] (He.ga K x) fd → FnOk P w K mg base CX0 k (He.ga K x) fd ps (spO ⟨w, K⟩ sp)) : ODef P w K mg base k x ps sp := by
  obtain ⟨fd, F⟩ := B.says.def_ i hi
  exact ⟨⟨fd, h fd F, hb fd F⟩, hm, F.kp⟩
theorem mkIDef (B : Bn K mg) (i : Nat) {q : Str} {s : Stmt} {ps : List Str} {sp : SpI} {k : Nat} (hi : fnL[i]? = some ⟨("Tale", some "__init__"), "__init__", q, defArgs s, defBody s, defScope s, [], []⟩)
    (hb : ∀ fd, FunD K "__init__" q (defArgs s) (defBody s) (defScope s) [] [] (He.ma K (He.ga K "Tale") "__init__") fd → Binds K fd ps []) (h : ∀ fd, FunD K "__init__" q (defArgs s) (defBody s) (defScope s) [] [] (He.ma K (He.ga K "Tale") "__init__") fd → FnOk P w K mg base CX0 k (He.ma K (He.ga K "Tale") "__init__") fd ps (spI ⟨w, K⟩ (He.ga K "Tale") sp)) : IDef P w K mg base k "Tale" ps sp := by
  obtain ⟨fd, F⟩ := B.says.def_ i hi
  exact ⟨⟨fd, h fd F, hb fd F⟩, B.g_Tale, B.mkr⟩
/-- the table of doers -/
def doT (K : PySem.W.Frag) (z : Str) : Option Addr :=
  if z = "counter" then some (He.ga K "counted") else if z = "pile" then some (He.ga K "piled") else if z = "queue" then some (He.ga K "queued") else if z = "table" then some (He.ga K "tabled") else none
theorem doT_ok (B : Bn K mg) : ∀ z a, doT K z = some a → ∃ u, PySem.W.nsIn K (He.ga K "DOERS") z = some (some u) ∧ RelV (.ref a) u := by
  intro z a h
  unfold doT at h
  split at h
  · rename_i e; cases h; subst e
    exact He.valsB_ok (kvs := [("counter", .glo "counted"), ("pile", .glo "piled"), ("queue", .glo "queued"), ("table", .glo "tabled")]) B.more (q := ("counter", .glo "counted")) (by simp)
  · split at h
    · rename_i e; cases h; subst e
      exact He.valsB_ok (kvs := [("counter", .glo "counted"), ("pile", .glo "piled"), ("queue", .glo "queued"), ("table", .glo "tabled")]) B.more (q := ("pile", .glo "piled")) (by simp)
    · split at h
      · rename_i e; cases h; subst e
        exact He.valsB_ok (kvs := [("counter", .glo "counted"), ("pile", .glo "piled"), ("queue", .glo "queued"), ("table", .glo "tabled")]) B.more (q := ("queue", .glo "queued")) (by simp)
      · split at h
        · rename_i e; cases h; subst e
          exact He.valsB_ok (kvs := [("counter", .glo "counted"), ("pile", .glo "piled"), ("queue", .glo "queued"), ("table", .glo "tabled")]) B.more (q := ("table", .glo "tabled")) (by simp)
        · cases h
end
end WL
set_option Elab.async false
set_option linter.all false
set_option maxRecDepth 100000
set_option maxHeartbeats 4000000
/-! WS: what the defs compute, in plain Lean; their promises. -/
namespace WL
open PySem PySem.Spec PyProof.Rows L2 DL

/-! ### sorts, wishes, states, answers -/
inductive Kd | counter | pile | queue | table
  deriving DecidableEq
def Kd.s : Kd → Str
  | .counter => "counter"
  | .pile => "pile"
  | .queue => "queue"
  | .table => "table"
def Kd.d (k : Kd) : PyData := .str k.s
inductive Wi | add (i : Int) | lift (i : Int) | read | put (i : Int) | take | set (k : Str) (i : Int) | get (k : Str) | drop (k : Str)
def Wi.d : Wi → PyData
  | .add i => .tuple [.str "add", .int i]
  | .lift i => .tuple [.str "lift", .int i]
  | .read => .tuple [.str "read"]
  | .put i => .tuple [.str "put", .int i]
  | .take => .tuple [.str "take"]
  | .set k i => .tuple [.str "set", .str k, .int i]
  | .get k => .tuple [.str "get", .str k]
  | .drop k => .tuple [.str "drop", .str k]
def small (B : Nat) (i : Int) : Prop := i.natAbs ≤ B
/-- a short text of true code points -/
def tidy (z : Str) : Prop := z.length ≤ 12 ∧ ∀ c ∈ z.cps.toList, c < 1114112
/-- the wish fits its sort -/
def Wi.ok : Kd → Wi → Prop
  | .counter, .add i => small 1000 i
  | .counter, .lift i => small 1000 i
  | .counter, .read => True
  | .pile, .put i => small 1000 i
  | .pile, .take => True
  | .queue, .put i => small 1000 i
  | .queue, .take => True
  | .table, .set k i => small 1000 i ∧ tidy k
  | .table, .get k => tidy k
  | .table, .drop k => tidy k
  | _, _ => False
inductive Sv | num (i : Int) | seq (l : List Int) | tab (rs : List DL.Row)
def Sv.d : Sv → PyData
  | .num i => .int i
  | .seq l => .tuple (l.map PyData.int)
  | .tab rs => .tuple (rs.map rowD)
/-- the state fits its sort; its numbers and lengths bounded -/
def Sv.ok (B : Nat) : Kd → Sv → Prop
  | .counter, .num i => small B i
  | .pile, .seq l => l.length ≤ B ∧ ∀ i ∈ l, small B i
  | .queue, .seq l => l.length ≤ B ∧ ∀ i ∈ l, small B i
  | .table, .tab rs => rs.length ≤ 50 ∧ ∀ r ∈ rs, small B r.2 ∧ r.1.length ≤ 1000
  | _, _ => False
def sok (a b : Nat) : Kd → Sv → Prop
  | .counter, .num i => small b i
  | .pile, .seq l => l.length ≤ a ∧ ∀ i ∈ l, small b i
  | .queue, .seq l => l.length ≤ a ∧ ∀ i ∈ l, small b i
  | .table, .tab rs => rs.length ≤ a ∧ ∀ r ∈ rs, small b r.2 ∧ tidy r.1
  | _, _ => False
inductive An | none | tru | int (i : Int)
  deriving DecidableEq
def An.d : An → PyData
  | .none => .none
  | .tru => .bool true
  | .int i => .int i
def An.ok (B : Nat) : An → Prop
  | .int i => small B i
  | _ => True
/-! ### one step -/
def putRow (rs : List DL.Row) (k : Str) (v : Int) : List DL.Row := if (rs.any fun r => decide (r.1 = k)) = true then rs.map (fun r => if r.1 = k then (r.1, v) else r) else rs ++ [(k, v)]
def dictRow (rs : List DL.Row) : List DL.Row := rs.foldl (fun acc r => putRow acc r.1 r.2) []
def lookRow (rs : List DL.Row) (k : Str) : Option Int := (rs.find? fun r => decide (r.1 = k)).map (·.2)
def ansOf : Option Int → An
  | some i => .int i
  | none => .none
def step : Kd → Sv → Wi → Sv × An
  | _, .num s, .add i => (.num (s + i), .int s)
  | _, .num s, .lift i => (.num (if i > s then i else s), .int s)
  | _, .num s, .read => (.num s, .int s)
  | _, .seq l, .put i => (.seq (l ++ [i]), .tru)
  | .pile, .seq l, .take => match l.getLast? with
    | none => (.seq [], .none)
    | some a => (.seq l.dropLast, .int a)
  | _, .seq l, .take => match l with
    | [] => (.seq [], .none)
    | a :: r => (.seq r, .int a)
  | _, .tab rs, .set k i => (.tab (rsort (putRow (dictRow rs) k i)), ansOf (lookRow (dictRow rs) k))
  | _, .tab rs, .get k => (.tab (rsort (dictRow rs)), ansOf (lookRow (dictRow rs) k))
  | _, .tab rs, .drop k => (.tab (rsort ((dictRow rs).filter fun r => decide (r.1 ≠ k))), ansOf (lookRow (dictRow rs) k))
  | _, s, _ => (s, .none)
def stD (r : Sv × An) : PyData := .tuple [r.1.d, r.2.d]
/-! ### events, rows -/
inductive Ev | beg (h : Int) (w : Wi) | fin (h : Int) (a : An)
def Ev.d : Ev → PyData
  | .beg h w => .tuple [.str "begin", .int h, w.d]
  | .fin h a => .tuple [.str "end", .int h, a.d]
structure Rw where
  hand : Int
  wish : Wi
  beg : Nat
  fin : Option Nat
def finD : Option Nat → PyData
  | none => .none
  | some n => .int n
def Rw.d (r : Rw) : PyData := .tuple [.int r.hand, r.wish.d, .int r.beg, finD r.fin]
def Rw.setFin (r : Rw) (n : Nat) : Rw := { r with fin := some n }
/-- the place of a hand's open wish -/
def cat (cs : List (Int × Nat)) (h : Int) : Option Nat := (cs.find? fun c => decide (c.1 = h)).map (·.2)
def cput (cs : List (Int × Nat)) (h : Int) (n : Nat) : List (Int × Nat) := if (cs.any fun c => decide (c.1 = h)) = true then cs.map (fun c => if c.1 = h then (c.1, n) else c) else cs ++ [(h, n)]
def rowsGo : List Ev → Nat → List Rw → List (Int × Nat) → Option (List Rw × List (Int × Nat))
  | [], _, found, cs => some (found, cs)
  | .beg h w :: es, place, found, cs => rowsGo es (place + 1) (found ++ [⟨h, w, place, none⟩]) (cput cs h found.length)
  | .fin h _ :: es, place, found, cs => match cat cs h with
    | none => none
    | some c => match found[c]? with
      | none => none
      | some r => rowsGo es (place + 1) (found.set c (r.setFin place)) cs
def rowsOfT (t : List Ev) : Option (List Rw) := (rowsGo t 0 [] []).map (·.1)
/-- what a hand was told at place n -/
def saidAt (t : List Ev) (n : Nat) : An := match t[n]? with
  | some (.fin _ a) => a
  | _ => .none
/-- a tale: its rows, and what it must be -/
structure Tl (kd : Kd) (t : List Ev) (rows : List Rw) : Prop where
  ok : rowsOfT t = some rows
  len : t.length ≤ 60
  nrow : rows.length ≤ 20
  wish : ∀ r ∈ rows, r.wish.ok kd
  wishE : ∀ h w, Ev.beg h w ∈ t → w.ok kd ∧ small 2000000000 h
  ans : ∀ h a, Ev.fin h a ∈ t → a.ok 1000000 ∧ small 2000000000 h
  fin : ∀ r ∈ rows, ∀ n, r.fin = some n → ∃ h a, t[n]? = some (.fin h a)
/-! ### checks -/
def endedOf (rows : List Rw) : List Nat := (List.range rows.length).filter fun i => ((rows[i]?).bind (·.fin)).isSome
def aheadOf (rows : List Rw) (c : Nat) : List Nat := (List.range rows.length).filter fun i => match (rows[i]?).bind (·.fin), rows[c]? with
  | some e, some r => decide (e < r.beg)
  | _, _ => false
def memI (n : Nat) (cs : List Int) : Bool := decide ((n : Int) ∈ cs)
def isAllF (rows : List Rw) (cs : List Int) : Bool := (endedOf rows).all fun n => memI n cs
abbrev Spot := List Int × Sv
def Spot.d (p : Spot) : PyData := .tuple [.tuple (p.1.map PyData.int), p.2.d]
/-- the spots behind a spot, by the wish that was done -/
def afterF (kd : Kd) (t : List Ev) (rows : List Rw) (p : Spot) : List (Nat × Spot) :=
  (List.range rows.length).filterMap fun i => match rows[i]? with
    | none => none
    | some r =>
      if (!memI i p.1 && (aheadOf rows i).all fun n => memI n p.1) = true then
        (let q := step kd p.2 r.wish
         if (match r.fin with | none => true | some e => decide (q.2 = saidAt t e)) = true then some (i, (isort (p.1 ++ [(i : Int)]), q.1)) else none)
      else none
/-! data that are no dicts, with short texts -/
mutual
def nice : PyData → Bool
  | .dict _ => false
  | .str z => decide (z.length ≤ 1000)
  | .list ds => decide (ds.length ≤ 1000000) && niceA ds
  | .tuple ds => decide (ds.length ≤ 1000000) && niceA ds
  | _ => true
def niceA : List PyData → Bool
  | [] => true
  | d :: ds => nice d && niceA ds
end
def isNum : PyData → Bool
  | .int _ => true
  | _ => false
def isBelow (d : PyData) (k : Int) : Bool := match d with
  | .int i => decide (0 ≤ i) && decide (i < k)
  | _ => false
def nameOk (z : Str) : Bool := decide (1 ≤ z.length) && (decide (z.length ≤ 8) && z.cps.toList.all fun c => decide (97 ≤ c) && decide (c ≤ 122))
def isName : PyData → Bool
  | .str z => nameOk z
  | _ => false
def isTup (d : PyData) (k : Int) : Bool := match d with
  | .tuple ds => decide ((ds.length : Int) = k)
  | _ => false
def isRow : PyData → Bool
  | .tuple [a, b] => isName a && isNum b
  | _ => false
def keyLt : PyData → PyData → Bool
  | .tuple (.str a :: _), .tuple (.str b :: _) => decide (a.cps.toList < b.cps.toList)
  | _, _ => false
def rises : List PyData → Bool
  | a :: b :: r => keyLt a b && rises (b :: r)
  | _ => true
def isState (kd : Kd) (d : PyData) : Bool := match kd with
  | .counter => isNum d
  | .table => (match d with | .tuple ds => ds.all isRow && rises ds | _ => false)
  | _ => (match d with | .tuple ds => ds.all isNum | _ => false)
def risesI : List PyData → Bool
  | .int a :: .int b :: r => decide (a < b) && risesI (.int b :: r)
  | _ => true
def isSpot (kd : Kd) (many : Nat) (d : PyData) : Bool := match d with
  | .tuple [.tuple cs, s] => isState kd s && (cs.all fun c => isBelow c many) && risesI cs
  | _ => false
/-! decoding -/
def rowOf : PyData → DL.Row
  | .tuple [.str k, .int v] => (k, v)
  | _ => (⟨#[]⟩, 0)
def intOf : PyData → Int
  | .int i => i
  | _ => 0
def svOf (kd : Kd) (d : PyData) : Sv := match kd, d with
  | .counter, .int i => .num i
  | .table, .tuple ds => .tab (ds.map rowOf)
  | _, .tuple ds => .seq (ds.map intOf)
  | _, _ => .seq []
def spotOf (kd : Kd) (d : PyData) : Spot := match d with
  | .tuple [.tuple cs, s] => (cs.map intOf, svOf kd s)
  | _ => ([], .seq [])
def lookN (l : List (Nat × Spot)) (c : Int) : Option Spot := (l.find? fun x => decide ((x.1 : Int) = c)).map (·.2)
def pathF (kd : Kd) (t : List Ev) (rows : List Rw) : List Int → Spot → Bool
  | [], _ => true
  | c :: cs, p => match lookN (afterF kd t rows p) c with
    | none => false
    | some q => pathF kd t rows cs q
def orderF (kd : Kd) (t : List Ev) (rows : List Rw) (o : Sv) (d : PyData) : Bool := match d with
  | .list ds => (ds.all fun c => isBelow c rows.length) && (decide (ds.map intOf).Nodup && (isAllF rows (ds.map intOf) && pathF kd t rows (ds.map intOf) ([], o)))
  | _ => false
def unlinedF (kd : Kd) (t : List Ev) (rows : List Rw) (o : Sv) (d : PyData) : Bool := match d with
  | .list ds => (ds.all fun c => isSpot kd rows.length c) && (decide ((ds.map fun c => nkT c).Nodup) && (decide (nkT (Spot.d ([], o)) ∈ ds.map fun c => nkT c) &&
      ds.all fun c => !isAllF rows (spotOf kd c).1 && (afterF kd t rows (spotOf kd c)).all fun q => decide (nkT (Spot.d q.2) ∈ ds.map fun c => nkT c)))
  | _ => false

/-! ### promises -/
def sD1 (R : PyData → Nat → (W → Nat → Prop) → Prop) : SpD := fun ws n P => ∃ a, ws = [.dat a] ∧ R a n P
def sD2 (R : PyData → PyData → Nat → (W → Nat → Prop) → Prop) : SpD := fun ws n P => ∃ a b, ws = [.dat a, .dat b] ∧ R a b n P
def sD3 (R : PyData → PyData → PyData → Nat → (W → Nat → Prop) → Prop) : SpD := fun ws n P => ∃ a b c, ws = [.dat a, .dat b, .dat c] ∧ R a b c n P
def sD4 (R : PyData → PyData → PyData → PyData → Nat → (W → Nat → Prop) → Prop) : SpD := fun ws n P => ∃ a b c d, ws = [.dat a, .dat b, .dat c, .dat d] ∧ R a b c d n P
theorem len1 {R} : ∀ ws n Q, sD1 R ws n Q → ws.length = 1 := by rintro _ _ _ ⟨_, rfl, _⟩; rfl
theorem len2 {R} : ∀ ws n Q, sD2 R ws n Q → ws.length = 2 := by rintro _ _ _ ⟨_, _, rfl, _⟩; rfl
theorem len3 {R} : ∀ ws n Q, sD3 R ws n Q → ws.length = 3 := by rintro _ _ _ ⟨_, _, _, rfl, _⟩; rfl
theorem len4 {R} : ∀ ws n Q, sD4 R ws n Q → ws.length = 4 := by rintro _ _ _ ⟨_, _, _, _, rfl, _⟩; rfl
abbrev B6 : Nat := 1000000
abbrev p_is_number : SpD := sD1 fun a n P => nice a = true ∧ P (.dat (.bool (isNum a))) n
abbrev p_is_below : SpD := sD2 fun a b n P => nice a = true ∧ ∃ k : Int, b = .int k ∧ P (.dat (.bool (isBelow a k))) n
abbrev p_is_name : SpD := sD1 fun a n P => nice a = true ∧ P (.dat (.bool (isName a))) n
abbrev p_is_tuple_of : SpD := sD2 fun a b n P => nice a = true ∧ ∃ k : Int, b = .int k ∧ P (.dat (.bool (isTup a k))) n
abbrev p_is_row : SpD := sD1 fun a n P => nice a = true ∧ P (.dat (.bool (isRow a))) n
abbrev p_is_state : SpD := sD2 fun a b n P => ∃ kd : Kd, a = kd.d ∧ nice b = true ∧ P (.dat (.bool (isState kd b))) n
abbrev p_law_is_number : SpD := p_is_number
abbrev p_law_is_name : SpD := p_is_name
abbrev p_law_is_state : SpD := p_is_state
abbrev p_begun : SpD := sD1 fun a n P => ∃ kd : Kd, a = kd.d ∧ P (.dat (if kd = .counter then .int 0 else .tuple [])) n
abbrev p_counted : SpD := sD2 fun a b n P => ∃ s w, a = Sv.d s ∧ b = Wi.d w ∧ Sv.ok B6 .counter s ∧ Wi.ok .counter w ∧ P (.dat (stD (step .counter s w))) n
abbrev p_piled : SpD := sD2 fun a b n P => ∃ s w, a = Sv.d s ∧ b = Wi.d w ∧ Sv.ok B6 .pile s ∧ Wi.ok .pile w ∧ P (.dat (stD (step .pile s w))) n
abbrev p_queued : SpD := sD2 fun a b n P => ∃ s w, a = Sv.d s ∧ b = Wi.d w ∧ Sv.ok B6 .queue s ∧ Wi.ok .queue w ∧ P (.dat (stD (step .queue s w))) n
abbrev p_tabled : SpD := sD2 fun a b n P => ∃ s w, a = Sv.d s ∧ b = Wi.d w ∧ Sv.ok B6 .table s ∧ Wi.ok .table w ∧ P (.dat (stD (step .table s w))) n
abbrev p_done : SpD := sD3 fun k a b n P => ∃ kd s w, k = Kd.d kd ∧ a = Sv.d s ∧ b = Wi.d w ∧ Sv.ok B6 kd s ∧ Wi.ok kd w ∧ P (.dat (stD (step kd s w))) n
abbrev p_law_did : SpD := p_done
abbrev talD (t : List Ev) : PyData := .list (t.map Ev.d)
abbrev rowsD (rs : List Rw) : PyData := .list (rs.map Rw.d)
abbrev p_wishes_in : SpD := sD1 fun a n P => ∃ kd t rows, a = talD t ∧ Tl kd t rows ∧ P (.dat (rowsD rows)) n
abbrev p_law_rows : SpD := p_wishes_in
abbrev p_is_same : SpD := sD2 fun a b n P => ∃ x y : An, a = x.d ∧ b = y.d ∧ P (.dat (.bool (decide (x = y)))) n
abbrev p_first_spot : SpD := sD2 fun a b n P => ∃ (kd : Kd) (s : Sv), a = kd.d ∧ b = s.d ∧ P (.dat (Spot.d ([], s))) n
def saidD (t : List Ev) (r : Rw) : PyData := match r.fin with
  | none => .none
  | some e => (saidAt t e).d
/-- the fields of a tale's object -/
def taleF (kd : Kd) (t : List Ev) (rows : List Rw) : List (Str × PyData) := [("kind", kd.d), ("rows", rowsD rows), ("said", .list (rows.map (saidD t))),
  ("ended", .list ((endedOf rows).map fun (i : Nat) => PyData.int (i : Int))), ("aheads", .list ((List.range rows.length).map fun c => .list ((aheadOf rows c).map fun (i : Nat) => PyData.int (i : Int))))]
abbrev p_Tale_init : SpI := fun ws n P => ∃ kd t rows, ws = [.dat (Kd.d kd), .dat (talD t)] ∧ Tl kd t rows ∧ P (taleF kd t rows) n
abbrev p_Tale_is_all (C : Addr) : SpD := fun ws n P => ∃ kd t rows cs, (ws = [.ins C (taleF kd t rows), .dat (.list (cs.map PyData.int))] ∨ ws = [.ins C (taleF kd t rows), .dat (.tuple (cs.map PyData.int))]) ∧ Tl kd t rows ∧ P (.dat (.bool (isAllF rows cs))) n
/-- a dict of spots by counts -/
def behD (l : List (Nat × Spot)) : List (Key × PyData) := l.map fun x => (.inl (x.1 : Int), Spot.d x.2)
abbrev p_Tale_behind (C : Addr) : SpD := fun ws n P => ∃ kd t rows p, ws = [.ins C (taleF kd t rows), .dat (Spot.d p)] ∧ Tl kd t rows ∧ Sv.ok B6 kd p.2 ∧ p.1.length ≤ 1000 ∧ P (.dic (behD (afterF kd t rows p))) n
abbrev p_Tale_is_spot (C : Addr) : SpD := fun ws n P => ∃ kd t rows a, ws = [.ins C (taleF kd t rows), .dat a] ∧ Tl kd t rows ∧ nice a = true ∧ P (.dat (.bool (isSpot kd rows.length a))) n
/-- what the law shows the checkers: data, its numbers small -/
def ThOk (kd : Kd) (d : PyData) : Prop := nice d = true ∧ ∀ ds, d = .list ds → ds.length ≤ 1000 ∧ ∀ c ∈ ds, ∀ cs s, c = .tuple [.tuple cs, s] → isState kd s = true → cs.length ≤ 1000 ∧ Sv.ok B6 kd (svOf kd s)
abbrev p_shows_unlined : SpD := sD4 fun k h d f n P => ∃ kd t rows o, k = Kd.d kd ∧ h = talD t ∧ f = Sv.d o ∧ Tl kd t rows ∧ sok 3 999 kd o ∧ ThOk kd d ∧ P (.dat (.bool (unlinedF kd t rows o d))) n
abbrev p_shows_order : SpD := sD4 fun k h d f n P => ∃ kd t rows o, k = Kd.d kd ∧ h = talD t ∧ f = Sv.d o ∧ Tl kd t rows ∧ sok 3 999 kd o ∧ ThOk kd d ∧ P (.dat (.bool (orderF kd t rows o d))) n
abbrev p_law_is_order : SpD := sD4 fun k h f d n P => ∃ kd t rows o, k = Kd.d kd ∧ h = talD t ∧ f = Sv.d o ∧ Tl kd t rows ∧ sok 3 999 kd o ∧ ThOk kd d ∧ P (.dat (.bool (orderF kd t rows o d))) n
abbrev p_law_is_unlined : SpD := sD4 fun k h f d n P => ∃ kd t rows o, k = Kd.d kd ∧ h = talD t ∧ f = Sv.d o ∧ Tl kd t rows ∧ sok 3 999 kd o ∧ ThOk kd d ∧ P (.dat (.bool (unlinedF kd t rows o d))) n
abbrev p_law_ahead : SpD := sD2 fun a b n P => ∃ (kd : Kd) (t : List Ev) (rows : List Rw) (c : Nat), a = rowsD rows ∧ b = .int c ∧ c < rows.length ∧ Tl kd t rows ∧ P (.dat (.list ((aheadOf rows c).map fun (i : Nat) => PyData.int (i : Int)))) n
abbrev p_law_fits : SpD := sD3 fun a b c n P => ∃ (kd : Kd) (t : List Ev) (rows : List Rw) (r : Rw) (x : An), a = talD t ∧ b = Rw.d r ∧ c = An.d x ∧ Tl kd t rows ∧ r ∈ rows ∧ x.ok B6 ∧ P (.dat (.bool (match r.fin with | none => true | some e => decide (x = saidAt t e)))) n
abbrev p_law_after : SpD := sD4 fun k a b c n P => ∃ kd t rows p, k = Kd.d kd ∧ a = talD t ∧ b = rowsD rows ∧ c = Spot.d p ∧ Tl kd t rows ∧ Sv.ok B6 kd p.2 ∧ p.1.length ≤ 1000 ∧ P (.dic (behD (afterF kd t rows p))) n
abbrev p_law_is_all : SpD := sD2 fun a b n P => ∃ (kd : Kd) (t : List Ev) (rows : List Rw) (cs : List Int), a = rowsD rows ∧ (b = .list (cs.map PyData.int) ∨ b = .tuple (cs.map PyData.int)) ∧ Tl kd t rows ∧ P (.dat (.bool (isAllF rows cs))) n
abbrev p_law_is_spot : SpD := sD3 fun k m a n P => ∃ (kd : Kd) (many : Nat), k = kd.d ∧ m = .int many ∧ nice a = true ∧ P (.dat (.bool (isSpot kd many a))) n

/-! ### loose promises -/
abbrev lim : Nat := 1000000000
mutual
def T (M : Nat) : List Nat → PyData → Prop
  | _, .none => True
  | _, .bool _ => True
  | _, .int i => i.natAbs ≤ M
  | _, .str z => tidy z
  | bs, .list ds => ds.length ≤ bs.headD 0 ∧ TA M bs.tail ds
  | bs, .tuple ds => ds.length ≤ bs.headD 0 ∧ TA M bs.tail ds
  | _, .dict _ => False
def TA (M : Nat) : List Nat → List PyData → Prop
  | _, [] => True
  | bs, d :: ds => T M bs d ∧ TA M bs ds
end
def ansOk (b : Nat) (t : List Ev) : Prop := ∀ h a, Ev.fin h a ∈ t → a.ok b
abbrev bx : PyData → W := .dat
abbrev strsD (ss : List Str) : PyData := .list (ss.map .str)
abbrev intsD (ns : List Int) : PyData := .list (ns.map .int)
abbrev p_law_cells : SpD := fun ws n P => ∃ ns : List Int, ws = [.scr ns, .dat (.int 2)] ∧ ns.length ≤ 63 ∧ ∀ l : List Int, 1 ≤ l.length → l.length ≤ 2 → P (.dat (intsD l)) n
abbrev p_law_box : SpO := fun ws n P => ∃ (l : List Int) (k : Nat), ws = [.dat (intsD l), .dat (.int k)] ∧ k < l.length ∧ l.length ≤ 2 ∧ ∀ p a y, 0 ≤ y → y < 2 ^ 62 → P (.olst p [.int a, .int y, .int 0]) n
def p_law_take : SpD := fun ws n P => ∃ k : Int, ws = [.box, .dat (.int k)] ∧ 0 < k ∧ k < 1073741824 ∧ n + 1 ≤ lim ∧ ∀ m r, m ≤ n + 1 → 0 ≤ r → r < k → P (.dat (.int r)) m
def p_law_one_of : SpD := fun ws n P => ∃ ds : List PyData, ws = [.box, .dat (.list ds)] ∧ 0 < ds.length ∧ ds.length < 1073741824 ∧ n + 1 ≤ lim ∧ ∀ m d, m ≤ n + 1 → d ∈ ds → P (.dat d) m
def p_law_number : SpD := fun ws n P => ws = [.box] ∧ n + 4 ≤ lim ∧ ∀ m i, m ≤ n + 4 → small 999 i → P (.dat (.int i)) m
def p_law_keys : SpD := fun ws n P => ws = [.box] ∧ n + 4 ≤ lim ∧ ∀ m a b, m ≤ n + 4 → tidy a → tidy b → P (.dat (strsD [a, b])) m
abbrev p_law_wish : SpD := fun ws n P => ∃ kd a b, ws = [.box, .dat (Kd.d kd), .dat (strsD [a, b])] ∧ tidy a ∧ tidy b ∧ n + 6 ≤ lim ∧ ∀ m w, m ≤ n + 6 → Wi.ok kd w → P (.dat w.d) m
abbrev p_law_origin : SpD := fun ws n P => ∃ kd a b, ws = [.box, .dat (Kd.d kd), .dat (strsD [a, b])] ∧ tidy a ∧ tidy b ∧ n + 30 ≤ lim ∧ ∀ m s, m ≤ n + 30 → sok 3 999 kd s → P (.dat s.d) m
abbrev p_law_tale : SpD := fun ws n P => ∃ kd a b s k, ws = [.box, .dat (Kd.d kd), .dat (strsD [a, b]), .dat (Sv.d s), .dat (.int k)] ∧ tidy a ∧ tidy b ∧ sok 3 999 kd s ∧ 0 ≤ k ∧ k ≤ 4 ∧ n + 300 ≤ lim ∧
  ∀ m t rows (row : List Nat), m ≤ n + 300 → Tl kd t rows → ansOk 100000 t → rows.length ≤ 4 → row.length ≤ 20 → (∀ c ∈ row, c < 4) → P (.dat (.tuple [talD t, .list (row.map fun (i : Nat) => PyData.int (i : Int))])) m
abbrev p_law_other_answer : SpD := fun ws n P => ∃ x : An, ws = [.box, .dat x.d] ∧ n + 1 ≤ lim ∧ ∀ m (y : An), m ≤ n + 1 → (∀ b, 1 ≤ b → x.ok b → y.ok (b + 1)) → P (.dat y.d) m
abbrev p_law_bent : SpD := fun ws n P => ∃ kd t rows b, ws = [.box, .dat (talD t)] ∧ Tl kd t rows ∧ ansOk b t ∧ 1 ≤ b ∧ b < 1000000 ∧ n + 3 ≤ lim ∧ ∀ m t', m ≤ n + 3 → Tl kd t' rows → ansOk (b + 1) t' → P (.dat (talD t')) m
/-- a spot of the closed lists -/
def SpotOk (kd : Kd) (p : Spot) : Prop := p.1.length ≤ 8 ∧ (∀ i ∈ p.1, 0 ≤ i ∧ i < 4) ∧ sok 12 8000 kd p.2
abbrev spotsD (l : List Spot) : PyData := .list (l.map Spot.d)
abbrev p_law_closed : SpD := fun ws n P => ∃ kd t rows l, ws = [.dat (Kd.d kd), .dat (talD t), .dat (spotsD l)] ∧ Tl kd t rows ∧ rows.length ≤ 4 ∧ l.length ≤ 2 ∧ (∀ p ∈ l, p.1.length ≤ 4 ∧ (∀ i ∈ p.1, 0 ≤ i ∧ i < 4) ∧ sok 6 1998 kd p.2) ∧
  ∀ l' : List Spot, l'.length ≤ 130 → (∀ p ∈ l', SpotOk kd p) → P (.dat (spotsD l')) n
def p_law_odd : SpD := fun ws n P => ws = [.box] ∧ n + 1 ≤ lim ∧ ∀ m d, m ≤ n + 1 → T 1 [2, 2] d → P (.dat d) m
abbrev p_law_state_bent : SpD := fun ws n P => ∃ kd d M s, ws = [.box, .dat (Kd.d kd), .dat d] ∧ isState kd d = true ∧ T M [s, 2] d ∧ 1 ≤ M ∧ M < 100000 ∧ 2 ≤ s ∧ s ≤ 1000 ∧ n + 1 ≤ lim ∧ ∀ m d', m ≤ n + 1 → T (M + 1) [s + 1, 2] d' → P (.dat d') m
abbrev p_law_counts_bent : SpD := fun ws n P => ∃ (cs : List Int) (k : Nat) (M : Nat) (s : Nat), ws = [.box, .dat (.tuple (cs.map PyData.int)), .dat (.int k)] ∧ (∀ i ∈ cs, small M i) ∧ cs.length ≤ s ∧ k ≤ M ∧ 1 ≤ M ∧ M < 100000 ∧ s ≤ 1000 ∧ n + 1 ≤ lim ∧ ∀ m d', m ≤ n + 1 → T (M + 1) [s + 1, 2] d' → P (.dat d') m
abbrev p_law_unlined_bent : SpD := fun ws n P => ∃ (kd : Kd) (ds : List PyData) (k : Nat) (M : Nat) (b : Nat) (s : Nat), ws = [.box, .dat (Kd.d kd), .dat (.list ds), .dat (.int k)] ∧ T M [b, 2, s, 2] (.list ds) ∧ k ≤ 20 ∧ 20 ≤ M ∧ M < 100000 ∧ b ≤ 1000 ∧ 2 ≤ s ∧ s ≤ 1000 ∧ n + 5 ≤ lim ∧ ∀ m d', m ≤ n + 5 → T (M + 1) [b + 1, 2, s + 1, 2] d' → P (.dat d') m
abbrev p_law_row_bent : SpD := fun ws n P => ∃ (ds : List PyData) (k : Nat) (M : Nat) (b : Nat) (s : Nat), ws = [.box, .dat (.list ds), .dat (.int k)] ∧ T M [b, 2, s, 2] (.list ds) ∧ k ≤ 20 ∧ 20 ≤ M ∧ M < 100000 ∧ b ≤ 1000 ∧ 2 ≤ s ∧ s ≤ 1000 ∧ n + 5 ≤ lim ∧ ∀ m d', m ≤ n + 5 → T (M + 1) [b + 1, 2, s + 1, 2] d' → P (.dat d') m
abbrev Th (d : PyData) : Prop := T 10000 [140, 2, 20, 2] d
abbrev p_law_things : SpD := fun ws n P => ∃ (kd : Kd) (t : List Ev) (rows : List Rw) (s : Sv) (row : List Nat), ws = [.box, .dat (Kd.d kd), .dat (talD t), .dat (Sv.d s), .dat (.list (row.map fun (i : Nat) => PyData.int (i : Int)))] ∧ Tl kd t rows ∧ rows.length ≤ 4 ∧ sok 3 999 kd s ∧ row.length ≤ 20 ∧ (∀ c ∈ row, c < 4) ∧ n + 400 ≤ lim ∧
  ∀ m (ds : List PyData), m ≤ n + 400 → ds.length ≤ 20 → (∀ d ∈ ds, Th d) → P (.dat (.list ds)) m
def p_law_two_sorts : SpD := fun ws n P => ws = [.box] ∧ n + 2 ≤ lim ∧ ∀ m (a b : Kd), m ≤ n + 2 → P (.dat (.list [a.d, b.d])) m
abbrev p_law_right : SpD := fun ws n P => ∃ kd : Kd, ws = [.box, .dat kd.d] ∧ n + 10000 ≤ lim ∧ ∀ m, m ≤ n + 10000 → P (.dat (.bool true)) m
abbrev p_law : SpD := fun ws n P => ∃ ns : List Int, ws = [.scr ns] ∧ ns.length ≤ 63 ∧ P (.dat (.bool true)) n
@[simp] theorem take_app {k : Int} {n : Nat} {P : W → Nat → Prop} : p_law_take [.box, .dat (.int k)] n P ↔ (0 < k ∧ k < 1073741824 ∧ n + 1 ≤ lim ∧ ∀ m r, m ≤ n + 1 → 0 ≤ r → r < k → P (.dat (.int r)) m) := by simp [p_law_take]
@[simp] theorem one_of_app {ds : List PyData} {n : Nat} {P : W → Nat → Prop} : p_law_one_of [.box, .dat (.list ds)] n P ↔ (0 < ds.length ∧ ds.length < 1073741824 ∧ n + 1 ≤ lim ∧ ∀ m d, m ≤ n + 1 → d ∈ ds → P (.dat d) m) := by simp [p_law_one_of]
@[simp] theorem number_app {n : Nat} {P : W → Nat → Prop} : p_law_number [.box] n P ↔ (n + 4 ≤ lim ∧ ∀ m i, m ≤ n + 4 → small 999 i → P (.dat (.int i)) m) := by simp [p_law_number]
@[simp] theorem keys_app {n : Nat} {P : W → Nat → Prop} : p_law_keys [.box] n P ↔ (n + 4 ≤ lim ∧ ∀ m a b, m ≤ n + 4 → tidy a → tidy b → P (.dat (strsD [a, b])) m) := by simp [p_law_keys]
@[simp] theorem odd_app {n : Nat} {P : W → Nat → Prop} : p_law_odd [.box] n P ↔ (n + 1 ≤ lim ∧ ∀ m d, m ≤ n + 1 → T 1 [2, 2] d → P (.dat d) m) := by simp [p_law_odd]
@[simp] theorem two_sorts_app {n : Nat} {P : W → Nat → Prop} : p_law_two_sorts [.box] n P ↔ (n + 2 ≤ lim ∧ ∀ m (a b : Kd), m ≤ n + 2 → P (.dat (.list [a.d, b.d])) m) := by simp [p_law_two_sorts]
/-! ### walks -/
theorem dLoop_ind {p : TGd} {body : TSd} {E : EndsD} {I : List PyData → Nat → Rho → Prop} (h0 : ∀ n ρ, I [] n ρ → E.nx n ρ) (hs : ∀ d ds n ρ, I (d :: ds) n ρ → ∀ K : Nat → Rho → Prop, (∀ n ρ, I ds n ρ → K n ρ) → p d ρ fun ρ' => body { nx := K, rt := E.rt, bk := E.nx, ct := K } n ρ') :
    ∀ ds n ρ, I ds n ρ → dLoop p body E ds n ρ
  | [], n, ρ, h => h0 n ρ h
  | d :: ds, n, ρ, h => hs d ds n ρ h _ fun n ρ h => dLoop_ind h0 hs ds n ρ h
theorem dlc_ind {p : TGd} {ft : TDt} {fe : TD} {ρ : Rho} {P : List PyData → Nat → Prop} {I : List PyData → List PyData → Nat → Prop} (h0 : ∀ acc n, I [] acc n → P acc n)
    (hs : ∀ d ds acc n, I (d :: ds) acc n → ∀ K : List PyData → Nat → Prop, (∀ acc n, I ds acc n → K acc n) → p d ρ fun ρ' => ft n ρ' fun c m => if c = true then fe m ρ' fun x j => ∃ y, x = .dat y ∧ acc.length < 16777216 ∧ K (acc ++ [y]) j else K acc m) :
    ∀ ds acc n, I ds acc n → dlc p ft fe ρ ds acc n P
  | [], acc, n, h => h0 acc n h
  | d :: ds, acc, n, h => hs d ds acc n h _ fun acc n h => dlc_ind h0 hs ds acc n h
theorem dlc_fm {p : TGd} {ft : TDt} {fe : TD} {ρ : Rho} {P : List PyData → Nat → Prop} {n : Nat} {ds : List PyData} (f : PyData → Option PyData)
    (hs : ∀ d ∈ ds, ∀ (acc : List PyData) (K : List PyData → Nat → Prop), acc.length < 16777216 → K (acc ++ (f d).toList) n → p d ρ fun ρ' => ft n ρ' fun c m => if c = true then fe m ρ' fun x j => ∃ y, x = .dat y ∧ acc.length < 16777216 ∧ K (acc ++ [y]) j else K acc m)
    (hl : ds.length ≤ 16777216) (h : P (ds.filterMap f) n) : dlc p ft fe ρ ds [] n P := by
  refine dlc_ind (I := fun r acc m => m = n ∧ (∀ d ∈ r, d ∈ ds) ∧ acc.length + r.length ≤ 16777216 ∧ acc ++ r.filterMap f = ds.filterMap f) ?_ ?_ ds [] n ⟨rfl, fun _ h => h, by simpa using hl, by simp⟩
  · rintro acc m ⟨rfl, _, _, e⟩
    simp at e
    rw [e]; exact h
  · rintro d r acc m ⟨rfl, hr, hl2, e⟩ K hK
    refine hs d (hr d List.mem_cons_self) acc K (by simp at hl2; omega) (hK _ _ ⟨rfl, fun x hx => hr x (List.mem_cons_of_mem _ hx), ?_, ?_⟩)
    · cases h : f d <;> simp at hl2 ⊢ <;> omega
    · rw [← e]
      cases h : f d <;> simp [List.filterMap_cons, h]
theorem dlc_map {p : TGd} {ft : TDt} {fe : TD} {ρ : Rho} {P : List PyData → Nat → Prop} {n : Nat} {ds : List PyData} (f : PyData → PyData)
    (hs : ∀ d ∈ ds, ∀ (acc : List PyData) (K : List PyData → Nat → Prop), acc.length < 16777216 → K (acc ++ [f d]) n → p d ρ fun ρ' => ft n ρ' fun c m => if c = true then fe m ρ' fun x j => ∃ y, x = .dat y ∧ acc.length < 16777216 ∧ K (acc ++ [y]) j else K acc m)
    (hl : ds.length ≤ 16777216) (h : P (ds.map f) n) : dlc p ft fe ρ ds [] n P :=
  dlc_fm (fun d => some (f d)) (fun d hd acc K ha hk => hs d hd acc K ha hk) hl (by simpa using h)
theorem boolsOf_map {α : Type} (b : α → Bool) : ∀ l : List α, boolsOf (l.map fun x => .bool (b x)) = some (l.map b)
  | [] => rfl
  | x :: l => by simp [boolsOf, boolsOf_map b l]
theorem intsOf_map : ∀ l : List Int, intsOf (l.map .int) = some l
  | [] => rfl
  | x :: l => by simp [intsOf, intsOf_map l]
end WL
set_option Elab.async false
set_option linter.all false
set_option maxRecDepth 100000
set_option maxHeartbeats 4000000
namespace WL
open PySem PySem.Spec PyProof.Rows L2 DL
abbrev P_is_number : List Str := ["thing"]
abbrev L_is_number : Nat := 1
abbrev N_is_number : List Str := ["thing"]
@[simp] abbrev g_is_number : TSd := (dRet (dAnd (dB isiW (dCons (dVar 0) (dCons (dC (.ty "int")) dNil))) (dNot (dB isiW (dCons (dVar 0) (dCons (dC (.ty "bool")) dNil))))))
abbrev P_is_below : List Str := ["thing", "bound"]
abbrev L_is_below : Nat := 2
abbrev N_is_below : List Str := ["thing", "bound"]
@[simp] abbrev g_is_below : TSd := (dRet (dAnd (dCall p_is_number (dCons (dVar 0) dNil)) (dChain leW ltW (dC (.dat (.int 0))) (dVar 0) (dVar 1))))
abbrev P_is_name : List Str := ["thing"]
abbrev L_is_name : Nat := 1
abbrev N_is_name : List Str := ["thing", "sign"]
@[simp] abbrev g_is_name : TSd := (dSeq (dIfS (dtOr (dtNot (dtst (dB isiW (dCons (dVar 0) (dCons (dC (.ty "str")) dNil))))) (dtNot (dtst (dChain leW leW (dC (.dat (.int 1))) (dB lenW (dCons (dVar 0) dNil)) (dC (.dat (.int 8))))))) (dRet (dC (.dat (.bool false)))) dNext)
  (dRet (dB allW (dCons (dLc (iStrD (dVar 0)) (pName 1) dYes (dOp (inWd false) (dVar 1) (dC (.dat (.str ("abcdefghijklmnopqrstuvwxyz" : Str))))) [1]) dNil))))
abbrev P_is_tuple_of : List Str := ["thing", "many"]
abbrev L_is_tuple_of : Nat := 1
abbrev N_is_tuple_of : List Str := ["thing", "many"]
@[simp] abbrev g_is_tuple_of : TSd := (dRet (dAnd (dB isiW (dCons (dVar 0) (dCons (dC (.ty "tuple")) dNil))) (dOp eqW (dB lenW (dCons (dVar 0) dNil)) (dVar 1))))
abbrev P_is_row : List Str := ["thing"]
abbrev L_is_row : Nat := 2
abbrev N_is_row : List Str := ["thing"]
@[simp] abbrev g_is_row : TSd := (dRet (dAnd (dCall p_is_tuple_of (dCons (dVar 0) (dCons (dC (.dat (.int 2))) dNil))) (dAnd (dCall p_is_name (dCons (dOp idxW (dVar 0) (dC (.dat (.int 0)))) dNil)) (dCall p_is_number (dCons (dOp idxW (dVar 0) (dC (.dat (.int 1)))) dNil)))))
abbrev P_is_state : List Str := ["kind", "thing"]
abbrev L_is_state : Nat := 3
abbrev N_is_state : List Str := ["kind", "thing", "one", "two"]
@[simp] abbrev g_is_state : TSd := (dSeq (dIfS (dtst (dOp eqW (dVar 0) (dC (.dat (.str ("counter" : Str)))))) (dRet (dCall p_is_number (dCons (dVar 1) dNil))) dNext)
  (dSeq (dIfS (dtNot (dtst (dB isiW (dCons (dVar 1) (dCons (dC (.ty "tuple")) dNil))))) (dRet (dC (.dat (.bool false)))) dNext)
  (dSeq (dIfS (dtst (dOp neW (dVar 0) (dC (.dat (.str ("table" : Str)))))) (dRet (dB allW (dCons (dLc (iTupD (dVar 1)) (pName 2) dYes (dCall p_is_number (dCons (dVar 2) dNil)) [2]) dNil))) dNext)
  (dRet (dAnd (dB allW (dCons (dLc (iTupD (dVar 1)) (pName 2) dYes (dCall p_is_row (dCons (dVar 2) dNil)) [2]) dNil)) (dB allW (dCons (dLc (iZipD (dCons (dVar 1) (dCons (dSl (dVar 1) (dPart (dC (.dat (.int 1)))) dNoPart) dNil))) (pTup 2 (pCons (pName 2) (pCons (pName 3) pNil))) dYes (dOp ltW (dOp idxW (dVar 2) (dC (.dat (.int 0)))) (dOp idxW (dVar 3) (dC (.dat (.int 0))))) [2, 3]) dNil)))))))
abbrev P_begun : List Str := ["kind"]
abbrev L_begun : Nat := 1
abbrev N_begun : List Str := ["kind"]
@[simp] abbrev g_begun : TSd := (dRet (dIf (dtst (dOp eqW (dVar 0) (dC (.dat (.str ("counter" : Str)))))) (dC (.dat (.int 0))) (dTup dNil)))
abbrev P_counted : List Str := ["state", "wish"]
abbrev L_counted : Nat := 1
abbrev N_counted : List Str := ["state", "wish", "word", "parts"]
@[simp] abbrev g_counted : TSd := (dSeq (dAsgS (dVar 1) 1 (pCons (pName 2) (pCons (pName 3) pNil)))
  (dSeq (dIfS (dtst (dOp eqW (dVar 2) (dC (.dat (.str ("add" : Str)))))) (dRet (dTup (dCons (dOp addW (dVar 0) (dOp idxW (dVar 3) (dC (.dat (.int 0))))) (dCons (dVar 0) dNil)))) dNext)
  (dRet (dTup (dCons (dIf (dtst (dOp eqW (dVar 2) (dC (.dat (.str ("lift" : Str)))))) (dB maxW (dCons (dVar 0) (dCons (dOp idxW (dVar 3) (dC (.dat (.int 0)))) dNil))) (dVar 0)) (dCons (dVar 0) dNil))))))
abbrev P_piled : List Str := ["state", "wish"]
abbrev L_piled : Nat := 1
abbrev N_piled : List Str := ["state", "wish"]
@[simp] abbrev g_piled : TSd := (dSeq (dIfS (dtst (dOp eqW (dOp idxW (dVar 1) (dC (.dat (.int 0)))) (dC (.dat (.str ("put" : Str)))))) (dRet (dTup (dCons (dOp addW (dVar 0) (dTup (dCons (dOp idxW (dVar 1) (dC (.dat (.int 1)))) dNil))) (dCons (dC (.dat (.bool true))) dNil)))) dNext)
  (dRet (dIf (dtst (dOp neW (dVar 0) (dTup dNil))) (dTup (dCons (dSl (dVar 0) dNoPart (dPart (dNeg (dC (.dat (.int 1)))))) (dCons (dOp idxW (dVar 0) (dNeg (dC (.dat (.int 1))))) dNil))) (dTup (dCons (dTup dNil) (dCons (dC (.dat .none)) dNil))))))
abbrev P_queued : List Str := ["state", "wish"]
abbrev L_queued : Nat := 1
abbrev N_queued : List Str := ["state", "wish"]
@[simp] abbrev g_queued : TSd := (dSeq (dIfS (dtst (dOp eqW (dOp idxW (dVar 1) (dC (.dat (.int 0)))) (dC (.dat (.str ("put" : Str)))))) (dRet (dTup (dCons (dOp addW (dVar 0) (dTup (dCons (dOp idxW (dVar 1) (dC (.dat (.int 1)))) dNil))) (dCons (dC (.dat (.bool true))) dNil)))) dNext)
  (dRet (dIf (dtst (dOp neW (dVar 0) (dTup dNil))) (dTup (dCons (dSl (dVar 0) (dPart (dC (.dat (.int 1)))) dNoPart) (dCons (dOp idxW (dVar 0) (dC (.dat (.int 0)))) dNil))) (dTup (dCons (dTup dNil) (dCons (dC (.dat .none)) dNil))))))
abbrev P_tabled : List Str := ["state", "wish"]
abbrev L_tabled : Nat := 1
abbrev N_tabled : List Str := ["state", "wish", "word", "key", "rest", "rows", "answer"]
@[simp] abbrev g_tabled : TSd := (dSeq (dAsgS (dVar 1) 2 (pCons (pName 2) (pCons (pName 3) (pCons (pName 4) pNil))))
  (dSeq (dSetO 5 (dDictR (dCons (dVar 0) dNil)))
  (dSeq (dSet 6 (dGet (dVar 5) (dVar 3)))
  (dSeq (dIfS (dtst (dOp eqW (dVar 2) (dC (.dat (.str ("set" : Str)))))) (dDPut 5 (dVar 3) (dOp idxW (dVar 4) (dC (.dat (.int 0))))) (dIfS (dtst (dOp eqW (dVar 2) (dC (.dat (.str ("drop" : Str)))))) (dPop2 5 (dVar 3)) dNext))
  (dRet (dTup (dCons (dB tupW (dCons (dSortIt 5) dNil)) (dCons (dVar 6) dNil))))))))
abbrev P_done : List Str := ["kind", "state", "wish"]
abbrev L_done : Nat := 2
abbrev N_done : List Str := ["kind", "state", "wish", "do"]
@[simp] abbrev g_done (K : PySem.W.Frag) : TSd := (dSeq (dSet 3 (dDoers (doT K) (dVar 0)))
  (dRet (dOr2 (dCallL 3 (He.ga K "counted") p_counted (dCons (dVar 1) (dCons (dVar 2) dNil))) (dOr2 (dCallL 3 (He.ga K "piled") p_piled (dCons (dVar 1) (dCons (dVar 2) dNil))) (dOr2 (dCallL 3 (He.ga K "queued") p_queued (dCons (dVar 1) (dCons (dVar 2) dNil))) (dCallL 3 (He.ga K "tabled") p_tabled (dCons (dVar 1) (dCons (dVar 2) dNil))))))))
abbrev P_wishes_in : List Str := ["history"]
abbrev L_wishes_in : Nat := 1
abbrev N_wishes_in : List Str := ["history", "found", "counts", "place", "word", "hand", "rest", "count"]
@[simp] abbrev g_wishes_in : TSd := (dSeq (dPar [1, 2] (dCons dNL (dCons dNK dNil)))
  (dSeq (dFor (iEnumD (dCons (dVar 0) dNil)) (pTup 2 (pCons (pName 3) (pCons (pTup 3 (pCons (pName 4) (pCons (pName 5) (pCons (pName 6) pNil)))) pNil))) (dIfS (dtst (dOp eqW (dVar 4) (dC (.dat (.str ("begin" : Str)))))) (dSeq (dDPut 2 (dVar 5) (dB lenW (dCons (dVar 1) dNil)))
  (dApp 1 (dTup (dCons (dVar 5) (dCons (dVar 6) (dCons (dVar 3) (dCons (dC (.dat .none)) dNil))))))) (dSeq (dSet 7 (dOp dgetW (dVar 2) (dVar 5)))
  (dPut 1 (dVar 7) (dOp addW (dSl (dOp idxW (dVar 1) (dVar 7)) dNoPart (dPart (dC (.dat (.int 3))))) (dTup (dCons (dVar 3) dNil)))))))
  (dFzL 1 (dRet (dVar 1)))))
abbrev P_is_same : List Str := ["one", "other"]
abbrev L_is_same : Nat := 1
abbrev N_is_same : List Str := ["one", "other"]
@[simp] abbrev g_is_same : TSd := (dRet (dAnd (dOp eqW (dVar 0) (dVar 1)) (dOp eqW (dB isiW (dCons (dVar 0) (dCons (dC (.ty "bool")) dNil))) (dB isiW (dCons (dVar 1) (dCons (dC (.ty "bool")) dNil))))))
abbrev P_first_spot : List Str := ["kind", "first"]
abbrev L_first_spot : Nat := 2
abbrev N_first_spot : List Str := ["kind", "first"]
@[simp] abbrev g_first_spot : TSd := (dRet (dTup (dCons (dTup dNil) (dCons (dIf (dtst (dOp isnW (dVar 1) (dC (.dat .none)))) (dCall p_begun (dCons (dVar 0) dNil)) (dVar 1)) dNil))))
abbrev P_Tale_init : List Str := ["self", "kind", "history"]
abbrev L_Tale_init : Nat := 2
abbrev N_Tale_init : List Str := ["self", "kind", "history", "hand", "wish", "begin", "end", "count", "row"]
@[simp] abbrev g_Tale_init (K : PySem.W.Frag) : TSd := (dSeq (dSFld (He.ga K "Tale") 0 ("kind" : Str) (dVar 1))
  (dSeq (dSFld (He.ga K "Tale") 0 ("rows" : Str) (dCall p_wishes_in (dCons (dVar 2) dNil)))
  (dSeq (dSFld (He.ga K "Tale") 0 ("said" : Str) (dLc (iSeq (dFld3 (He.ga K "Tale") ("rows" : Str) (dVar 0))) (pTup 4 (pCons (pName 3) (pCons (pName 4) (pCons (pName 5) (pCons (pName 6) pNil))))) dYes (dIf (dtst (dOp isnW (dVar 6) (dC (.dat .none)))) (dC (.dat .none)) (dOp idxW (dOp idxW (dVar 2) (dVar 6)) (dC (.dat (.int 2))))) [3, 4, 5, 6]))
  (dSeq (dSFld (He.ga K "Tale") 0 ("ended" : Str) (dLc (iEnumD (dCons (dFld3 (He.ga K "Tale") ("rows" : Str) (dVar 0)) dNil)) (pTup 2 (pCons (pName 7) (pCons (pTup 4 (pCons (pName 3) (pCons (pName 4) (pCons (pName 5) (pCons (pName 6) pNil))))) pNil))) (dtst (dOp notnW (dVar 6) (dC (.dat .none)))) (dVar 7) [7, 3, 4, 5, 6]))
  (dSFld (He.ga K "Tale") 0 ("aheads" : Str) (dLc (iSeq (dFld3 (He.ga K "Tale") ("rows" : Str) (dVar 0))) (pName 8) dYes (dLc (iSeq (dFld3 (He.ga K "Tale") ("ended" : Str) (dVar 0))) (pName 7) (dtst (dOp ltW (dOp idxW (dOp idxW (dFld3 (He.ga K "Tale") ("rows" : Str) (dVar 0)) (dVar 7)) (dC (.dat (.int 3)))) (dOp idxW (dVar 8) (dC (.dat (.int 2)))))) (dVar 7) [7]) [8]))))))
abbrev P_Tale_is_all : List Str := ["self", "counts"]
abbrev L_Tale_is_all : Nat := 1
abbrev N_Tale_is_all : List Str := ["self", "counts", "count"]
@[simp] abbrev g_Tale_is_all (K : PySem.W.Frag) : TSd := (dRet (dB allW (dCons (dLc (iSeq (dFld3 (He.ga K "Tale") ("ended" : Str) (dVar 0))) (pName 2) dYes (dOp (inWd false) (dVar 2) (dVar 1)) [2]) dNil)))
abbrev P_Tale_behind : List Str := ["self", "spot"]
abbrev L_Tale_behind : Nat := 3
abbrev N_Tale_behind : List Str := ["self", "spot", "counts", "state", "found", "count", "hand", "wish", "begin", "end", "later", "answer", "one"]
@[simp] abbrev g_Tale_behind (K : PySem.W.Frag) : TSd := (dSeq (dAsg (dVar 1) (pTup 2 (pCons (pName 2) (pCons (pName 3) pNil))))
  (dSeq (dNewK 4)
  (dSeq (dFor (iEnumD (dCons (dFld3 (He.ga K "Tale") ("rows" : Str) (dVar 0)) dNil)) (pTup 2 (pCons (pName 5) (pCons (pTup 4 (pCons (pName 6) (pCons (pName 7) (pCons (pName 8) (pCons (pName 9) pNil))))) pNil))) (dIfS (dtAnd (dtst (dOp (inWd true) (dVar 5) (dVar 2))) (dtst (dB allW (dCons (dLc (iSeq (dOp idxW (dFld3 (He.ga K "Tale") ("aheads" : Str) (dVar 0)) (dVar 5))) (pName 12) dYes (dOp (inWd false) (dVar 12) (dVar 2)) [12]) dNil)))) (dSeq (dAsg (dCall p_done (dCons (dFld3 (He.ga K "Tale") ("kind" : Str) (dVar 0)) (dCons (dVar 3) (dCons (dVar 7) dNil)))) (pTup 2 (pCons (pName 10) (pCons (pName 11) pNil))))
  (dIfS (dtOr (dtst (dOp isnW (dVar 9) (dC (.dat .none)))) (dtst (dCall p_is_same (dCons (dVar 11) (dCons (dOp idxW (dFld3 (He.ga K "Tale") ("said" : Str) (dVar 0)) (dVar 5)) dNil))))) (dDPut 4 (dVar 5) (dTup (dCons (dB tupW (dCons (dB sortIW (dCons (dOp addW (dVar 2) (dTup (dCons (dVar 5) dNil))) dNil)) dNil)) (dCons (dVar 10) dNil)))) dNext)) dNext))
  (dFzK 4 (dRet (dVar 4))))))
abbrev P_Tale_is_spot : List Str := ["self", "thing"]
abbrev L_Tale_is_spot : Nat := 4
abbrev N_Tale_is_spot : List Str := ["self", "thing", "counts", "many", "count", "one", "other"]
@[simp] abbrev g_Tale_is_spot (K : PySem.W.Frag) : TSd := (dSeq (dIfS (dtOr (dtNot (dtst (dCall p_is_tuple_of (dCons (dVar 1) (dCons (dC (.dat (.int 2))) dNil))))) (dtOr (dtNot (dtst (dB isiW (dCons (dOp idxW (dVar 1) (dC (.dat (.int 0)))) (dCons (dC (.ty "tuple")) dNil))))) (dtNot (dtst (dCall p_is_state (dCons (dFld3 (He.ga K "Tale") ("kind" : Str) (dVar 0)) (dCons (dOp idxW (dVar 1) (dC (.dat (.int 1)))) dNil))))))) (dRet (dC (.dat (.bool false)))) dNext)
  (dSeq (dPar [2, 3] (dCons (dPl (dOp idxW (dVar 1) (dC (.dat (.int 0))))) (dCons (dPl (dB lenW (dCons (dFld3 (He.ga K "Tale") ("rows" : Str) (dVar 0)) dNil))) dNil)))
  (dSeq (dIfS (dtNot (dtst (dB allW (dCons (dLc (iTupD (dVar 2)) (pName 4) dYes (dCall p_is_below (dCons (dVar 4) (dCons (dVar 3) dNil))) [4]) dNil)))) (dRet (dC (.dat (.bool false)))) dNext)
  (dRet (dB allW (dCons (dLc (iZipD (dCons (dVar 2) (dCons (dSl (dVar 2) (dPart (dC (.dat (.int 1)))) dNoPart) dNil))) (pTup 2 (pCons (pName 5) (pCons (pName 6) pNil))) dYes (dOp ltW (dVar 5) (dVar 6)) [5, 6]) dNil))))))
abbrev P_shows_unlined : List Str := ["kind", "history", "thing", "first"]
abbrev L_shows_unlined : Nat := 5
abbrev N_shows_unlined : List Str := ["kind", "history", "thing", "first", "tale", "spot", "spots", "later"]
@[simp] abbrev g_shows_unlined (K : PySem.W.Frag) : TSd := (dSeq (dSet 4 (dMake (He.ga K "Tale") p_Tale_init (dCons (dVar 0) (dCons (dVar 1) dNil))))
  (dSeq (dIfS (dtOr (dtNot (dtst (dB isiW (dCons (dVar 2) (dCons (dC (.ty "list")) dNil))))) (dtNot (dtst (dB allW (dCons (dLc (iSeq (dVar 2)) (pName 5) dYes (dMeth (He.ga K "Tale") ("is_spot" : Str) (p_Tale_is_spot (He.ga K "Tale")) (dVar 4) (dCons (dVar 5) dNil)) [5]) dNil))))) (dRet (dC (.dat (.bool false)))) dNext)
  (dSeq (dSetO 6 (dDcN (iSeq (dVar 2)) (pName 5) (dVar 5) [5]))
  (dSeq (dIfS (dtOr (dtst (dOp neW (dB lenNW (dCons (dVar 6) dNil)) (dB lenW (dCons (dVar 2) dNil)))) (dtst (dOp (inN true) (dCall p_first_spot (dCons (dVar 0) (dCons (dVar 3) dNil))) (dVar 6)))) (dRet (dC (.dat (.bool false)))) dNext)
  (dSeq (dFor (iSeq (dVar 2)) (pName 5) (dIfS (dtOr (dtst (dMeth (He.ga K "Tale") ("is_all" : Str) (p_Tale_is_all (He.ga K "Tale")) (dVar 4) (dCons (dOp idxW (dVar 5) (dC (.dat (.int 0)))) dNil))) (dtst (dB anyW (dCons (dLc (iValsD (dMeth (He.ga K "Tale") ("behind" : Str) (p_Tale_behind (He.ga K "Tale")) (dVar 4) (dCons (dVar 5) dNil))) (pName 7) dYes (dOp (inN true) (dVar 7) (dVar 6)) [7]) dNil)))) (dRet (dC (.dat (.bool false)))) dNext))
  (dRet (dC (.dat (.bool true)))))))))
abbrev P_shows_order : List Str := ["kind", "history", "thing", "first"]
abbrev L_shows_order : Nat := 4
abbrev N_shows_order : List Str := ["kind", "history", "thing", "first", "tale", "spot", "count", "later"]
@[simp] abbrev g_shows_order (K : PySem.W.Frag) : TSd := (dSeq (dPar [4, 5] (dCons (dPl (dMake (He.ga K "Tale") p_Tale_init (dCons (dVar 0) (dCons (dVar 1) dNil)))) (dCons (dPl (dCall p_first_spot (dCons (dVar 0) (dCons (dVar 3) dNil)))) dNil)))
  (dSeq (dIfS (dtOr (dtNot (dtst (dB isiW (dCons (dVar 2) (dCons (dC (.ty "list")) dNil))))) (dtNot (dtst (dB allW (dCons (dLc (iSeq (dVar 2)) (pName 6) dYes (dCall p_is_below (dCons (dVar 6) (dCons (dB lenW (dCons (dFld3 (He.ga K "Tale") ("rows" : Str) (dVar 4)) dNil)) dNil))) [6]) dNil))))) (dRet (dC (.dat (.bool false)))) dNext)
  (dSeq (dIfS (dtOr (dtst (dOp neW (dLenSet (dVar 2)) (dB lenW (dCons (dVar 2) dNil)))) (dtNot (dtst (dMeth (He.ga K "Tale") ("is_all" : Str) (p_Tale_is_all (He.ga K "Tale")) (dVar 4) (dCons (dVar 2) dNil))))) (dRet (dC (.dat (.bool false)))) dNext)
  (dSeq (dFor (iSeq (dVar 2)) (pName 6) (dSeq (dSet 7 (dMeth (He.ga K "Tale") ("behind" : Str) (p_Tale_behind (He.ga K "Tale")) (dVar 4) (dCons (dVar 5) dNil)))
  (dSeq (dIfS (dtst (dOp (inWd true) (dVar 6) (dVar 7))) (dRet (dC (.dat (.bool false)))) dNext)
  (dSet 5 (dOp dgetW (dVar 7) (dVar 6))))))
  (dRet (dC (.dat (.bool true))))))))
abbrev P_law_cells : List Str := ["_law_script", "_law_many"]
abbrev L_law_cells : Nat := 1
abbrev N_law_cells : List Str := ["_law_script", "_law_many", "_law_cells_here", "_law_k", "_law_cell"]
@[simp] abbrev g_law_cells : TSd := (dSeq (dSetO 2 (dOrL (dOL (dCons (dSl (dVar 0) dNoPart (dPart (dVar 1))) dNil)) (dOLst (dCons (dC (.dat (.int 0))) dNil))))
  (dSeq (dFor (iEnumD (dCons (dSl (dVar 0) (dPart (dVar 1)) (dPart (dC (.dat (.int 63))))) dNil)) (pTup 2 (pCons (pName 3) (pCons (pName 4) pNil))) (dPut 2 (dOp modW (dVar 3) (dVar 1)) (dOp addW (dOp idxW (dVar 2) (dOp modW (dVar 3) (dVar 1))) (dOp mulW (dVar 4) (dOp addW (dVar 3) (dC (.dat (.int 2))))))))
  (dFzL 2 (dRet (dVar 2)))))
abbrev P_law_box : List Str := ["_law_cells_here", "_law_k"]
abbrev L_law_box : Nat := 1
abbrev N_law_box : List Str := ["_law_cells_here", "_law_k", "_law_cell"]
@[simp] abbrev g1_law_box : TSd := (dSet 2 (dOp idxW (dVar 0) (dVar 1)))
@[simp] abbrev g_law_box : TD := (dOLst (dCons (dOp mulW (dB absW (dCons (dVar 2) dNil)) (dB intW (dCons (dOp geW (dB absW (dCons (dVar 2) dNil)) (dOp powW (dC (.dat (.int 10))) (dC (.dat (.int 18))))) dNil))) (dCons (dOp addW (dOp addW (dOp modW (dVar 2) (dC (.dat (.int 2305843009213693951)))) (dOp mulW (dC (.dat (.int 15485863))) (dVar 1))) (dC (.dat (.int 11)))) (dCons (dC (.dat (.int 0))) dNil))))
abbrev P_law_take : List Str := ["_law_box_here", "_law_many"]
abbrev L_law_take : Nat := 1
abbrev N_law_take : List Str := ["_law_box_here", "_law_many", "_law_found", "_law_once", "_law_twice"]
@[simp] abbrev g_law_take : TSd := (dSeq (dIfS (dtst (dOp gtW (dBox 0 0) (dC (.dat (.int 0))))) (dSeq (dBoxDiv 0 2 (dVar 1))
  (dRet (dVar 2))) dNext)
  (dSeq (dBoxPut 0 (dOp addW (dBox 0 2) (dC (.dat (.int 1)))))
  (dSeq (dSet 3 (dOp modW (dOp mulW (dOp addW (dOp addW (dOp modW (dBox 0 1) (dC (.dat (.int 2147483629)))) (dOp mulW (dOp mulW (dBox 0 2) (dBox 0 2)) (dC (.dat (.int 7919))))) (dC (.dat (.int 11)))) (dC (.dat (.int 48271)))) (dC (.dat (.int 2147483647)))))
  (dSeq (dSet 4 (dOp modW (dOp addW (dOp addW (dOp mulW (dVar 3) (dOp addW (dOp modW (dVar 3) (dC (.dat (.int 30011)))) (dC (.dat (.int 5))))) (dOp fdivW (dBox 0 1) (dC (.dat (.int 2147483629))))) (dBox 0 2)) (dC (.dat (.int 2147483587)))))
  (dRet (dOp modW (dOp fdivW (dOp modW (dOp addW (dOp mulW (dVar 4) (dC (.dat (.int 39373)))) (dVar 3)) (dC (.dat (.int 2147483629)))) (dC (.dat (.int 64)))) (dVar 1)))))))
abbrev P_law_one_of : List Str := ["_law_box_here", "_law_some"]
abbrev L_law_one_of : Nat := 2
abbrev N_law_one_of : List Str := ["_law_box_here", "_law_some"]
@[simp] abbrev g_law_one_of : TSd := (dRet (dOp idxW (dVar 1) (dCall p_law_take (dCons (dVar 0) (dCons (dB lenW (dCons (dVar 1) dNil)) dNil)))))
abbrev P_law_number : List Str := ["_law_box_here"]
abbrev L_law_number : Nat := 2
abbrev N_law_number : List Str := ["_law_box_here", "_law_some"]
@[simp] abbrev g_law_number : TSd := (dSeq (dSet 1 (dLst (dCons (dCall p_law_take (dCons (dVar 0) (dCons (dC (.dat (.int 4))) dNil))) (dCons (dOp subW (dCall p_law_take (dCons (dVar 0) (dCons (dC (.dat (.int 12))) dNil))) (dC (.dat (.int 5)))) (dCons (dOp idxW (dLst (dCons (dC (.dat (.int 999))) (dCons (dNeg (dC (.dat (.int 999)))) dNil))) (dCall p_law_take (dCons (dVar 0) (dCons (dC (.dat (.int 2))) dNil)))) dNil)))))
  (dRet (dOp idxW (dVar 1) (dOp idxW (dLst (dCons (dC (.dat (.int 0))) (dCons (dC (.dat (.int 0))) (dCons (dC (.dat (.int 0))) (dCons (dC (.dat (.int 1))) (dCons (dC (.dat (.int 1))) (dCons (dC (.dat (.int 2))) dNil))))))) (dCall p_law_take (dCons (dVar 0) (dCons (dC (.dat (.int 6))) dNil)))))))
abbrev P_law_keys : List Str := ["_law_box_here"]
abbrev L_law_keys : Nat := 2
abbrev N_law_keys : List Str := ["_law_box_here", "_law_letters", "_law_stem", "_law_at"]
@[simp] abbrev g_law_keys : TSd := (dSeq (dSet 1 (dC (.dat (.str ("abcdefghijklmnopqrstuvwxyz" : Str)))))
  (dSeq (dPar [2, 3] (dCons (dPl (dOp mulAllW (dOp idxW (dVar 1) (dCall p_law_take (dCons (dVar 0) (dCons (dC (.dat (.int 26))) dNil)))) (dCall p_law_take (dCons (dVar 0) (dCons (dC (.dat (.int 8))) dNil))))) (dCons (dPl (dCall p_law_take (dCons (dVar 0) (dCons (dC (.dat (.int 26))) dNil)))) dNil)))
  (dRet (dLst (dCons (dOp addW (dVar 2) (dOp idxW (dVar 1) (dVar 3))) (dCons (dOp addW (dVar 2) (dOp idxW (dVar 1) (dOp modW (dOp addW (dOp addW (dVar 3) (dC (.dat (.int 1)))) (dCall p_law_take (dCons (dVar 0) (dCons (dC (.dat (.int 25))) dNil)))) (dC (.dat (.int 26)))))) dNil))))))
abbrev P_law_wish : List Str := ["_law_box_here", "_law_sort", "_law_keys_here"]
abbrev L_law_wish : Nat := 3
abbrev N_law_wish : List Str := ["_law_box_here", "_law_sort", "_law_keys_here", "_law_word", "_law_wish_here"]
@[simp] abbrev g_law_wish : TSd := (dSeq (dIfS (dtst (dOp eqW (dVar 1) (dC (.dat (.str ("counter" : Str)))))) (dSeq (dSet 3 (dCall p_law_one_of (dCons (dVar 0) (dCons (dLst (dCons (dC (.dat (.str ("add" : Str)))) (dCons (dC (.dat (.str ("add" : Str)))) (dCons (dC (.dat (.str ("lift" : Str)))) (dCons (dC (.dat (.str ("read" : Str)))) dNil))))) dNil))))
  (dRet (dIf (dtst (dOp eqW (dVar 3) (dC (.dat (.str ("read" : Str)))))) (dTup (dCons (dVar 3) dNil)) (dTup (dCons (dVar 3) (dCons (dCall p_law_number (dCons (dVar 0) dNil)) dNil)))))) dNext)
  (dSeq (dIfS (dtst (dOp eqW (dVar 1) (dC (.dat (.str ("table" : Str)))))) (dSeq (dSet 4 (dTup (dCons (dCall p_law_one_of (dCons (dVar 0) (dCons (dLst (dCons (dC (.dat (.str ("set" : Str)))) (dCons (dC (.dat (.str ("set" : Str)))) (dCons (dC (.dat (.str ("get" : Str)))) (dCons (dC (.dat (.str ("get" : Str)))) (dCons (dC (.dat (.str ("drop" : Str)))) dNil)))))) dNil))) (dCons (dCall p_law_one_of (dCons (dVar 0) (dCons (dVar 2) dNil))) dNil))))
  (dRet (dIf (dtst (dOp eqW (dOp idxW (dVar 4) (dC (.dat (.int 0)))) (dC (.dat (.str ("set" : Str)))))) (dOp addW (dVar 4) (dTup (dCons (dCall p_law_number (dCons (dVar 0) dNil)) dNil))) (dVar 4)))) dNext)
  (dRet (dIf (dtst (dOp eqW (dCall p_law_take (dCons (dVar 0) (dCons (dC (.dat (.int 2))) dNil))) (dC (.dat (.int 0))))) (dTup (dCons (dC (.dat (.str ("put" : Str)))) (dCons (dCall p_law_number (dCons (dVar 0) dNil)) dNil))) (dTup (dCons (dC (.dat (.str ("take" : Str)))) dNil))))))
abbrev P_law_origin : List Str := ["_law_box_here", "_law_sort", "_law_keys_here"]
abbrev L_law_origin : Nat := 3
abbrev N_law_origin : List Str := ["_law_box_here", "_law_sort", "_law_keys_here", "_law_key", "_law_turn"]
@[simp] abbrev g_law_origin : TSd := (dSeq (dIfS (dtst (dOp eqW (dVar 1) (dC (.dat (.str ("counter" : Str)))))) (dRet (dCall p_law_number (dCons (dVar 0) dNil))) dNext)
  (dSeq (dIfS (dtst (dOp eqW (dVar 1) (dC (.dat (.str ("table" : Str)))))) (dRet (dB tupW (dCons (dLc (iSeq (dSortS (dCons (dVar 2) dNil))) (pName 3) (dtst (dOp eqW (dCall p_law_take (dCons (dVar 0) (dCons (dC (.dat (.int 2))) dNil))) (dC (.dat (.int 0))))) (dTup (dCons (dVar 3) (dCons (dCall p_law_number (dCons (dVar 0) dNil)) dNil))) [3]) dNil))) dNext)
  (dRet (dB tupW (dCons (dLc (iRngD (dCons (dCall p_law_take (dCons (dVar 0) (dCons (dC (.dat (.int 4))) dNil))) dNil)) (pName 4) dYes (dCall p_law_number (dCons (dVar 0) dNil)) [4]) dNil)))))
abbrev P_law_did : List Str := ["_law_sort", "_law_state", "_law_wish_here"]
abbrev L_law_did : Nat := 1
abbrev N_law_did : List Str := ["_law_sort", "_law_state", "_law_wish_here", "_law_word", "_law_found", "_law_ahead_here"]
@[simp] abbrev g_law_did : TSd := (dSeq (dSet 3 (dOp idxW (dVar 2) (dC (.dat (.int 0)))))
  (dSeq (dIfS (dtst (dOp eqW (dVar 0) (dC (.dat (.str ("counter" : Str)))))) (dSeq (dIfS (dtst (dOp eqW (dVar 3) (dC (.dat (.str ("read" : Str)))))) (dRet (dTup (dCons (dVar 1) (dCons (dVar 1) dNil)))) dNext)
  (dRet (dTup (dCons (dIf (dtst (dOp eqW (dVar 3) (dC (.dat (.str ("add" : Str)))))) (dOp addW (dVar 1) (dOp idxW (dVar 2) (dC (.dat (.int 1))))) (dB maxW (dCons (dVar 1) (dCons (dOp idxW (dVar 2) (dC (.dat (.int 1)))) dNil)))) (dCons (dVar 1) dNil))))) dNext)
  (dSeq (dIfS (dtst (dOp eqW (dVar 3) (dC (.dat (.str ("put" : Str)))))) (dRet (dTup (dCons (dOp addW (dVar 1) (dTup (dCons (dOp idxW (dVar 2) (dC (.dat (.int 1)))) dNil))) (dCons (dC (.dat (.bool true))) dNil)))) dNext)
  (dSeq (dIfS (dtst (dOp eqW (dVar 3) (dC (.dat (.str ("take" : Str)))))) (dSeq (dIfS (dtst (dOp eqW (dVar 1) (dTup dNil))) (dRet (dTup (dCons (dTup dNil) (dCons (dC (.dat .none)) dNil)))) dNext)
  (dRet (dIf (dtst (dOp eqW (dVar 0) (dC (.dat (.str ("pile" : Str)))))) (dTup (dCons (dSl (dVar 1) dNoPart (dPart (dNeg (dC (.dat (.int 1)))))) (dCons (dOp idxW (dVar 1) (dNeg (dC (.dat (.int 1))))) dNil))) (dTup (dCons (dSl (dVar 1) (dPart (dC (.dat (.int 1)))) dNoPart) (dCons (dOp idxW (dVar 1) (dC (.dat (.int 0)))) dNil)))))) dNext)
  (dSeq (dSetO 4 (dDictR (dCons (dVar 1) dNil)))
  (dSeq (dSet 5 (dGet (dVar 4) (dOp idxW (dVar 2) (dC (.dat (.int 1))))))
  (dSeq (dIfS (dtst (dOp eqW (dVar 3) (dC (.dat (.str ("set" : Str)))))) (dDPut 4 (dOp idxW (dVar 2) (dC (.dat (.int 1)))) (dOp idxW (dVar 2) (dC (.dat (.int 2))))) dNext)
  (dSeq (dIfS (dtst (dOp eqW (dVar 3) (dC (.dat (.str ("drop" : Str)))))) (dPop2 4 (dOp idxW (dVar 2) (dC (.dat (.int 1))))) dNext)
  (dRet (dTup (dCons (dB tupW (dCons (dSortIt 4) dNil)) (dCons (dVar 5) dNil))))))))))))
abbrev P_law_tale : List Str := ["_law_box_here", "_law_sort", "_law_keys_here", "_law_origin_here", "_law_many"]
abbrev L_law_tale : Nat := 4
abbrev N_law_tale : List Str := ["_law_box_here", "_law_sort", "_law_keys_here", "_law_origin_here", "_law_many", "_law_step", "_law_low", "_law_hands", "_law_state", "_law_found", "_law_row", "_law_k", "_law_busy", "_law_count", "_law_turn", "_law_hand", "_law_way", "_law_own", "_law_wish_here", "_law_told", "_law_answer"]
@[simp] abbrev g_law_tale : TSd := (dSeq (dPar [5, 6] (dCons (dPl (dOp addW (dC (.dat (.int 1))) (dCall p_law_take (dCons (dVar 0) (dCons (dC (.dat (.int 5))) dNil))))) (dCons (dPl (dOp idxW (dLst (dCons (dC (.dat (.int 0))) (dCons (dC (.dat (.int 1))) (dCons (dOp powW (dC (.dat (.int 10))) (dC (.dat (.int 9)))) dNil)))) (dCall p_law_take (dCons (dVar 0) (dCons (dC (.dat (.int 3))) dNil))))) dNil)))
  (dSeq (dPar [7, 8, 9, 10] (dCons (dPl (dLc (iRngD (dCons (dOp addW (dC (.dat (.int 2))) (dCall p_law_take (dCons (dVar 0) (dCons (dC (.dat (.int 3))) dNil)))) dNil)) (pName 11) dYes (dOp addW (dVar 6) (dOp mulW (dVar 5) (dVar 11))) [11])) (dCons (dPl (dVar 3)) (dCons dNL (dCons dNL dNil)))))
  (dSeq (dPar [12, 13] (dCons dNK (dCons (dPl (dC (.dat (.int 0)))) dNil)))
  (dSeq (dFor (iRngD (dCons (dOp mulW (dC (.dat (.int 5))) (dVar 4)) dNil)) (pName 14) (dSeq (dPar [15, 16] (dCons (dPl (dCall p_law_one_of (dCons (dVar 0) (dCons (dVar 7) dNil)))) (dCons (dPl (dCall p_law_take (dCons (dVar 0) (dCons (dC (.dat (.int 4))) dNil)))) dNil)))
  (dIfS (dtAnd (dtst (dOp (inWd true) (dVar 15) (dVar 12))) (dtst (dOp ltW (dVar 13) (dVar 4)))) (dSeq (dDPut 12 (dVar 15) (dTup (dCons (dVar 13) (dCons (dCall p_law_wish (dCons (dVar 0) (dCons (dVar 1) (dCons (dVar 2) dNil)))) (dCons (dTup dNil) dNil)))))
  (dSeq (dApp 9 (dTup (dCons (dC (.dat (.str ("begin" : Str)))) (dCons (dVar 15) (dCons (dOp idxW (dOp dgetW (dVar 12) (dVar 15)) (dC (.dat (.int 1)))) dNil)))))
  (dSet 13 (dOp addW (dVar 13) (dC (.dat (.int 1))))))) (dIfS (dtAnd (dtst (dOp (inWd false) (dVar 15) (dVar 12))) (dtst (dOp gtW (dVar 16) (dC (.dat (.int 0)))))) (dSeq (dAsg (dOp dgetW (dVar 12) (dVar 15)) (pTup 3 (pCons (pName 17) (pCons (pName 18) (pCons (pName 19) pNil)))))
  (dIfS (dtst (dOp eqW (dVar 19) (dTup dNil))) (dSeq (dAsg (dCall p_law_did (dCons (dVar 1) (dCons (dVar 8) (dCons (dVar 18) dNil)))) (pTup 2 (pCons (pName 8) (pCons (pName 20) pNil))))
  (dSeq (dApp 10 (dVar 17))
  (dDPut 12 (dVar 15) (dTup (dCons (dVar 17) (dCons (dVar 18) (dCons (dTup (dCons (dVar 20) dNil)) dNil))))))) (dSeq (dApp 9 (dTup (dCons (dC (.dat (.str ("end" : Str)))) (dCons (dVar 15) (dCons (dOp idxW (dVar 19) (dC (.dat (.int 0)))) dNil)))))
  (dPop1 12 (dVar 15))))) dNext))))
  (dFzL 10 (dFzL 9 (dRet (dTup (dCons (dVar 9) (dCons (dVar 10) dNil))))))))))
abbrev P_law_rows : List Str := ["_law_tale_here"]
abbrev L_law_rows : Nat := 1
abbrev N_law_rows : List Str := ["_law_tale_here", "_law_found", "_law_spots", "_law_place", "_law_word", "_law_hand", "_law_rest"]
@[simp] abbrev g_law_rows : TSd := (dSeq (dPar [1, 2] (dCons dNL (dCons dNK dNil)))
  (dSeq (dFor (iEnumD (dCons (dVar 0) dNil)) (pTup 2 (pCons (pName 3) (pCons (pTup 3 (pCons (pName 4) (pCons (pName 5) (pCons (pName 6) pNil)))) pNil))) (dIfS (dtst (dOp eqW (dVar 4) (dC (.dat (.str ("begin" : Str)))))) (dSeq (dDPut 2 (dVar 5) (dB lenW (dCons (dVar 1) dNil)))
  (dApp 1 (dTup (dCons (dVar 5) (dCons (dVar 6) (dCons (dVar 3) (dCons (dC (.dat .none)) dNil))))))) (dPut 1 (dOp dgetW (dVar 2) (dVar 5)) (dOp addW (dSl (dOp idxW (dVar 1) (dOp dgetW (dVar 2) (dVar 5))) dNoPart (dPart (dC (.dat (.int 3))))) (dTup (dCons (dVar 3) dNil))))))
  (dFzL 1 (dRet (dVar 1)))))
abbrev P_law_ahead : List Str := ["_law_rows_here", "_law_count"]
abbrev L_law_ahead : Nat := 1
abbrev N_law_ahead : List Str := ["_law_rows_here", "_law_count", "_law_k", "_law_row"]
@[simp] abbrev g_law_ahead : TSd := (dRet (dLc (iEnumD (dCons (dVar 0) dNil)) (pTup 2 (pCons (pName 2) (pCons (pName 3) pNil))) (dtAnd (dtst (dOp notnW (dOp idxW (dVar 3) (dC (.dat (.int 3)))) (dC (.dat .none)))) (dtst (dOp ltW (dOp idxW (dVar 3) (dC (.dat (.int 3)))) (dOp idxW (dOp idxW (dVar 0) (dVar 1)) (dC (.dat (.int 2))))))) (dVar 2) [2, 3]))
abbrev P_law_fits : List Str := ["_law_tale_here", "_law_row", "_law_answer"]
abbrev L_law_fits : Nat := 1
abbrev N_law_fits : List Str := ["_law_tale_here", "_law_row", "_law_answer"]
@[simp] abbrev g_law_fits : TSd := (dRet (dOr (dOp isnW (dOp idxW (dVar 1) (dC (.dat (.int 3)))) (dC (.dat .none))) (dOp eqW (dB reprSW (dCons (dOp idxW (dOp idxW (dVar 0) (dOp idxW (dVar 1) (dC (.dat (.int 3))))) (dC (.dat (.int 2)))) dNil)) (dB reprSW (dCons (dVar 2) dNil)))))
abbrev P_law_after : List Str := ["_law_sort", "_law_tale_here", "_law_rows_here", "_law_spot"]
abbrev L_law_after : Nat := 2
abbrev N_law_after : List Str := ["_law_sort", "_law_tale_here", "_law_rows_here", "_law_spot", "_law_counts", "_law_state", "_law_found", "_law_k", "_law_row", "_law_behind", "_law_answer", "_law_one"]
@[simp] abbrev g_law_after : TSd := (dSeq (dAsg (dVar 3) (pTup 2 (pCons (pName 4) (pCons (pName 5) pNil))))
  (dSeq (dNewK 6)
  (dSeq (dFor (iEnumD (dCons (dVar 2) dNil)) (pTup 2 (pCons (pName 7) (pCons (pName 8) pNil))) (dIfS (dtAnd (dtst (dOp (inWd true) (dVar 7) (dVar 4))) (dtst (dB allW (dCons (dLc (iSeq (dCall p_law_ahead (dCons (dVar 2) (dCons (dVar 7) dNil)))) (pName 11) dYes (dOp (inWd false) (dVar 11) (dVar 4)) [11]) dNil)))) (dSeq (dAsg (dCall p_law_did (dCons (dVar 0) (dCons (dVar 5) (dCons (dOp idxW (dVar 8) (dC (.dat (.int 1)))) dNil)))) (pTup 2 (pCons (pName 9) (pCons (pName 10) pNil))))
  (dIfS (dtst (dCall p_law_fits (dCons (dVar 1) (dCons (dVar 8) (dCons (dVar 10) dNil))))) (dDPut 6 (dVar 7) (dTup (dCons (dB tupW (dCons (dB sortIW (dCons (dOp addW (dVar 4) (dTup (dCons (dVar 7) dNil))) dNil)) dNil)) (dCons (dVar 9) dNil)))) dNext)) dNext))
  (dFzK 6 (dRet (dVar 6))))))
abbrev P_law_is_all : List Str := ["_law_rows_here", "_law_counts"]
abbrev L_law_is_all : Nat := 1
abbrev N_law_is_all : List Str := ["_law_rows_here", "_law_counts", "_law_k", "_law_row"]
@[simp] abbrev g_law_is_all : TSd := (dRet (dB allW (dCons (dLc (iEnumD (dCons (dVar 0) dNil)) (pTup 2 (pCons (pName 2) (pCons (pName 3) pNil))) (dtst (dOp notnW (dOp idxW (dVar 3) (dC (.dat (.int 3)))) (dC (.dat .none)))) (dOp (inWd false) (dVar 2) (dVar 1)) [2, 3]) dNil)))
abbrev P_law_is_order : List Str := ["_law_sort", "_law_tale_here", "_law_origin_here", "_law_odd_here"]
abbrev L_law_is_order : Nat := 2
abbrev N_law_is_order : List Str := ["_law_sort", "_law_tale_here", "_law_origin_here", "_law_odd_here", "_law_rows_here", "_law_state", "_law_seen", "_law_count", "_law_answer", "_law_one"]
@[simp] abbrev g_law_is_order : TSd := (dSeq (dPar [4, 5, 6] (dCons (dPl (dCall p_law_rows (dCons (dVar 1) dNil))) (dCons (dPl (dVar 2)) (dCons dNL dNil))))
  (dSeq (dIfS (dtNot (dtst (dB isiW (dCons (dVar 3) (dCons (dC (.ty "list")) dNil))))) (dRet (dC (.dat (.bool false)))) dNext)
  (dSeq (dFor (iSeq (dVar 3)) (pName 7) (dSeq (dIfS (dtOr (dtNot (dtst (dB isiW (dCons (dVar 7) (dCons (dC (.ty "int")) dNil))))) (dtOr (dtst (dB isiW (dCons (dVar 7) (dCons (dC (.ty "bool")) dNil)))) (dtOr (dtNot (dtst (dChain leW ltW (dC (.dat (.int 0))) (dVar 7) (dB lenW (dCons (dVar 4) dNil))))) (dtst (dOp (inWd false) (dVar 7) (dVar 6)))))) (dRet (dC (.dat (.bool false)))) dNext)
  (dSeq (dIfS (dtNot (dtst (dB allW (dCons (dLc (iSeq (dCall p_law_ahead (dCons (dVar 4) (dCons (dVar 7) dNil)))) (pName 9) dYes (dOp (inWd false) (dVar 9) (dVar 6)) [9]) dNil)))) (dRet (dC (.dat (.bool false)))) dNext)
  (dSeq (dAsg (dCall p_law_did (dCons (dVar 0) (dCons (dVar 5) (dCons (dOp idxW (dOp idxW (dVar 4) (dVar 7)) (dC (.dat (.int 1)))) dNil)))) (pTup 2 (pCons (pName 5) (pCons (pName 8) pNil))))
  (dSeq (dIfS (dtNot (dtst (dCall p_law_fits (dCons (dVar 1) (dCons (dOp idxW (dVar 4) (dVar 7)) (dCons (dVar 8) dNil)))))) (dRet (dC (.dat (.bool false)))) dNext)
  (dApp 6 (dVar 7)))))))
  (dFzL 6 (dRet (dCall p_law_is_all (dCons (dVar 4) (dCons (dVar 6) dNil))))))))
abbrev P_law_other_answer : List Str := ["_law_box_here", "_law_answer"]
abbrev L_law_other_answer : Nat := 2
abbrev N_law_other_answer : List Str := ["_law_box_here", "_law_answer"]
@[simp] abbrev g_law_other_answer : TSd := (dSeq (dIfS (dtAnd (dtst (dB isiW (dCons (dVar 1) (dCons (dC (.ty "int")) dNil)))) (dtNot (dtst (dB isiW (dCons (dVar 1) (dCons (dC (.ty "bool")) dNil)))))) (dRet (dOp idxW (dLst (dCons (dOp addW (dVar 1) (dC (.dat (.int 1)))) (dCons (dOp subW (dVar 1) (dC (.dat (.int 1)))) (dCons (dC (.dat .none)) (dCons (dC (.dat (.int 0))) dNil))))) (dCall p_law_take (dCons (dVar 0) (dCons (dC (.dat (.int 4))) dNil))))) dNext)
  (dRet (dOp idxW (dLst (dCons (dC (.dat .none)) (dCons (dC (.dat (.bool true))) (dCons (dC (.dat (.int 1))) (dCons (dC (.dat (.int 0))) dNil))))) (dCall p_law_take (dCons (dVar 0) (dCons (dC (.dat (.int 4))) dNil))))))
abbrev P_law_bent : List Str := ["_law_box_here", "_law_tale_here"]
abbrev L_law_bent : Nat := 3
abbrev N_law_bent : List Str := ["_law_box_here", "_law_tale_here", "_law_ends", "_law_k", "_law_one", "_law_at", "_law_other", "_law_two", "_law_found"]
@[simp] abbrev g_law_bent : TSd := (dSeq (dSet 2 (dLc (iEnumD (dCons (dVar 1) dNil)) (pTup 2 (pCons (pName 3) (pCons (pName 4) pNil))) (dtst (dOp eqW (dOp idxW (dVar 4) (dC (.dat (.int 0)))) (dC (.dat (.str ("end" : Str)))))) (dVar 3) [3, 4]))
  (dSeq (dIfS (dtst (dOp eqW (dVar 2) (dLst dNil))) (dRet (dVar 1)) dNext)
  (dSeq (dPar [5, 6] (dCons (dPl (dCall p_law_one_of (dCons (dVar 0) (dCons (dVar 2) dNil)))) (dCons (dPl (dCall p_law_one_of (dCons (dVar 0) (dCons (dVar 2) dNil)))) dNil)))
  (dSeq (dPar [4, 7, 8] (dCons (dPl (dOp idxW (dVar 1) (dVar 5))) (dCons (dPl (dOp idxW (dVar 1) (dVar 6))) (dCons (dOL (dCons (dVar 1) dNil)) dNil))))
  (dSeq (dPut2 8 (dVar 5) (dVar 6) (dCons (dOp addW (dSl (dVar 4) dNoPart (dPart (dC (.dat (.int 2))))) (dSl (dVar 7) (dPart (dC (.dat (.int 2)))) dNoPart)) (dCons (dOp addW (dSl (dVar 7) dNoPart (dPart (dC (.dat (.int 2))))) (dSl (dVar 4) (dPart (dC (.dat (.int 2)))) dNoPart)) dNil)))
  (dSeq (dIfS (dtst (dOp eqW (dVar 5) (dVar 6))) (dPut 8 (dVar 5) (dOp addW (dSl (dOp idxW (dVar 1) (dVar 5)) dNoPart (dPart (dC (.dat (.int 2))))) (dTup (dCons (dCall p_law_other_answer (dCons (dVar 0) (dCons (dOp idxW (dOp idxW (dVar 1) (dVar 5)) (dC (.dat (.int 2)))) dNil))) dNil)))) dNext)
  (dFzL 8 (dRet (dVar 8)))))))))
abbrev P_law_is_number : List Str := ["_law_odd_here"]
abbrev L_law_is_number : Nat := 1
abbrev N_law_is_number : List Str := ["_law_odd_here"]
@[simp] abbrev g_law_is_number : TSd := (dRet (dAnd (dB isiW (dCons (dVar 0) (dCons (dC (.ty "int")) dNil))) (dNot (dB isiW (dCons (dVar 0) (dCons (dC (.ty "bool")) dNil))))))
abbrev P_law_is_name : List Str := ["_law_odd_here"]
abbrev L_law_is_name : Nat := 1
abbrev N_law_is_name : List Str := ["_law_odd_here", "_law_sign"]
@[simp] abbrev g_law_is_name : TSd := (dRet (dAnd (dB isiW (dCons (dVar 0) (dCons (dC (.ty "str")) dNil))) (dAnd (dChain ltW ltW (dC (.dat (.int 0))) (dB lenW (dCons (dVar 0) dNil)) (dC (.dat (.int 9)))) (dB allW (dCons (dLc (iStrD (dVar 0)) (pName 1) dYes (dChain leW leW (dC (.dat (.str ("a" : Str)))) (dVar 1) (dC (.dat (.str ("z" : Str))))) [1]) dNil)))))
abbrev P_law_is_state : List Str := ["_law_sort", "_law_odd_here"]
abbrev L_law_is_state : Nat := 2
abbrev N_law_is_state : List Str := ["_law_sort", "_law_odd_here", "_law_one", "_law_two"]
@[simp] abbrev g_law_is_state : TSd := (dSeq (dIfS (dtst (dOp eqW (dVar 0) (dC (.dat (.str ("counter" : Str)))))) (dRet (dCall p_law_is_number (dCons (dVar 1) dNil))) dNext)
  (dSeq (dIfS (dtNot (dtst (dB isiW (dCons (dVar 1) (dCons (dC (.ty "tuple")) dNil))))) (dRet (dC (.dat (.bool false)))) dNext)
  (dSeq (dIfS (dtst (dOp neW (dVar 0) (dC (.dat (.str ("table" : Str)))))) (dRet (dB allW (dCons (dLc (iTupD (dVar 1)) (pName 2) dYes (dCall p_law_is_number (dCons (dVar 2) dNil)) [2]) dNil))) dNext)
  (dSeq (dFor (iTupD (dVar 1)) (pName 2) (dIfS (dtOr (dtNot (dtst (dB isiW (dCons (dVar 2) (dCons (dC (.ty "tuple")) dNil))))) (dtOr (dtst (dOp neW (dB lenW (dCons (dVar 2) dNil)) (dC (.dat (.int 2))))) (dtOr (dtNot (dtst (dCall p_law_is_name (dCons (dOp idxW (dVar 2) (dC (.dat (.int 0)))) dNil)))) (dtNot (dtst (dCall p_law_is_number (dCons (dOp idxW (dVar 2) (dC (.dat (.int 1)))) dNil))))))) (dRet (dC (.dat (.bool false)))) dNext))
  (dRet (dB allW (dCons (dLc (iZipD (dCons (dVar 1) (dCons (dSl (dVar 1) (dPart (dC (.dat (.int 1)))) dNoPart) dNil))) (pTup 2 (pCons (pName 2) (pCons (pName 3) pNil))) dYes (dOp ltW (dOp idxW (dVar 2) (dC (.dat (.int 0)))) (dOp idxW (dVar 3) (dC (.dat (.int 0))))) [2, 3]) dNil)))))))
abbrev P_law_is_spot : List Str := ["_law_sort", "_law_many", "_law_odd_here"]
abbrev L_law_is_spot : Nat := 3
abbrev N_law_is_spot : List Str := ["_law_sort", "_law_many", "_law_odd_here", "_law_count", "_law_one", "_law_two"]
@[simp] abbrev g_law_is_spot : TSd := (dSeq (dIfS (dtOr (dtNot (dtst (dB isiW (dCons (dVar 2) (dCons (dC (.ty "tuple")) dNil))))) (dtOr (dtst (dOp neW (dB lenW (dCons (dVar 2) dNil)) (dC (.dat (.int 2))))) (dtNot (dtst (dB isiW (dCons (dOp idxW (dVar 2) (dC (.dat (.int 0)))) (dCons (dC (.ty "tuple")) dNil))))))) (dRet (dC (.dat (.bool false)))) dNext)
  (dSeq (dFor (iTupD (dOp idxW (dVar 2) (dC (.dat (.int 0))))) (pName 3) (dIfS (dtOr (dtNot (dtst (dB isiW (dCons (dVar 3) (dCons (dC (.ty "int")) dNil))))) (dtOr (dtst (dB isiW (dCons (dVar 3) (dCons (dC (.ty "bool")) dNil)))) (dtNot (dtst (dChain leW ltW (dC (.dat (.int 0))) (dVar 3) (dVar 1)))))) (dRet (dC (.dat (.bool false)))) dNext))
  (dRet (dAnd (dB allW (dCons (dLc (iZipD (dCons (dOp idxW (dVar 2) (dC (.dat (.int 0)))) (dCons (dSl (dOp idxW (dVar 2) (dC (.dat (.int 0)))) (dPart (dC (.dat (.int 1)))) dNoPart) dNil))) (pTup 2 (pCons (pName 4) (pCons (pName 5) pNil))) dYes (dOp ltW (dVar 4) (dVar 5)) [4, 5]) dNil)) (dCall p_law_is_state (dCons (dVar 0) (dCons (dOp idxW (dVar 2) (dC (.dat (.int 1)))) dNil)))))))
abbrev P_law_is_unlined : List Str := ["_law_sort", "_law_tale_here", "_law_origin_here", "_law_odd_here"]
abbrev L_law_is_unlined : Nat := 4
abbrev N_law_is_unlined : List Str := ["_law_sort", "_law_tale_here", "_law_origin_here", "_law_odd_here", "_law_rows_here", "_law_one", "_law_there", "_law_spot", "_law_later"]
@[simp] abbrev g_law_is_unlined : TSd := (dSeq (dSet 4 (dCall p_law_rows (dCons (dVar 1) dNil)))
  (dSeq (dIfS (dtOr (dtNot (dtst (dB isiW (dCons (dVar 3) (dCons (dC (.ty "list")) dNil))))) (dtNot (dtst (dB allW (dCons (dLc (iSeq (dVar 3)) (pName 5) dYes (dCall p_law_is_spot (dCons (dVar 0) (dCons (dB lenW (dCons (dVar 4) dNil)) (dCons (dVar 5) dNil)))) [5]) dNil))))) (dRet (dC (.dat (.bool false)))) dNext)
  (dSeq (dSetO 6 (dDictN (dCons (dLc (iSeq (dVar 3)) (pName 7) dYes (dTup (dCons (dVar 7) (dCons (dC (.dat (.bool true))) dNil))) [7]) dNil)))
  (dSeq (dIfS (dtOr (dtst (dOp neW (dB lenNW (dCons (dVar 6) dNil)) (dB lenW (dCons (dVar 3) dNil)))) (dtst (dOp (inN true) (dTup (dCons (dTup dNil) (dCons (dVar 2) dNil))) (dVar 6)))) (dRet (dC (.dat (.bool false)))) dNext)
  (dSeq (dFor (iSeq (dVar 3)) (pName 7) (dSeq (dIfS (dtst (dCall p_law_is_all (dCons (dVar 4) (dCons (dOp idxW (dVar 7) (dC (.dat (.int 0)))) dNil)))) (dRet (dC (.dat (.bool false)))) dNext)
  (dIfS (dtNot (dtst (dB allW (dCons (dLc (iValsD (dCall p_law_after (dCons (dVar 0) (dCons (dVar 1) (dCons (dVar 4) (dCons (dVar 7) dNil)))))) (pName 8) dYes (dOp (inN false) (dVar 8) (dVar 6)) [8]) dNil)))) (dRet (dC (.dat (.bool false)))) dNext)))
  (dRet (dC (.dat (.bool true)))))))))
abbrev P_law_closed : List Str := ["_law_sort", "_law_tale_here", "_law_some"]
abbrev L_law_closed : Nat := 3
abbrev N_law_closed : List Str := ["_law_sort", "_law_tale_here", "_law_some", "_law_rows_here", "_law_found", "_law_seen_so", "_law_at", "_law_spot", "_law_later"]
@[simp] abbrev g_law_closed : TSd := (dSeq (dPar [3, 4, 5, 6] (dCons (dPl (dCall p_law_rows (dCons (dVar 1) dNil))) (dCons dNL (dCons dNN (dCons (dPl (dC (.dat (.int 0)))) dNil)))))
  (dSeq (dFor (iSeq (dVar 2)) (pName 7) (dIfS (dtst (dOp (inN true) (dVar 7) (dVar 5))) (dSeq (dNPut 5 (dVar 7))
  (dApp 4 (dVar 7))) dNext))
  (dSeq (dWhile (dtst (dOp ltW (dVar 6) (dB lenW (dCons (dVar 4) dNil)))) (dSeq (dFor (iValsD (dCall p_law_after (dCons (dVar 0) (dCons (dVar 1) (dCons (dVar 3) (dCons (dOp idxW (dVar 4) (dVar 6)) dNil)))))) (pName 8) (dIfS (dtst (dOp (inN true) (dVar 8) (dVar 5))) (dSeq (dNPut 5 (dVar 8))
  (dApp 4 (dVar 8))) dNext))
  (dSet 6 (dOp addW (dVar 6) (dC (.dat (.int 1)))))))
  (dFzL 4 (dRet (dVar 4))))))
abbrev P_law_odd : List Str := ["_law_box_here"]
abbrev L_law_odd : Nat := 3
abbrev N_law_odd : List Str := ["_law_box_here", "_law_some"]
@[simp] abbrev g_law_odd : TSd := (dSeq (dSet 1 (dLst (dCons (dC (.dat .none)) (dCons (dC (.dat (.bool true))) (dCons (dC (.dat (.bool false))) (dCons (dC (.dat (.int 0))) (dCons (dC (.dat (.int 1))) (dCons (dNeg (dC (.dat (.int 1)))) (dCons (dC (.dat (.str ("" : Str)))) (dCons (dC (.dat (.str ("a" : Str)))) (dCons (dTup dNil) (dCons (dLst dNil) (dCons (dTup (dCons (dTup dNil) (dCons (dTup dNil) dNil))) (dCons (dTup (dCons (dTup dNil) (dCons (dC (.dat (.int 0))) dNil))) (dCons (dTup (dCons (dTup (dCons (dC (.dat (.int 0))) dNil)) (dCons (dC (.dat (.int 0))) dNil))) (dCons (dTup (dCons (dTup dNil) (dCons (dC (.dat (.bool true))) dNil))) (dCons (dTup (dCons (dTup (dCons (dC (.dat (.int 0))) (dCons (dC (.dat (.int 0))) dNil))) (dCons (dTup dNil) dNil))) dNil)))))))))))))))))
  (dRet (dCall p_law_one_of (dCons (dVar 0) (dCons (dVar 1) dNil)))))
abbrev P_law_state_bent : List Str := ["_law_box_here", "_law_sort", "_law_state"]
abbrev L_law_state_bent : Nat := 2
abbrev N_law_state_bent : List Str := ["_law_box_here", "_law_sort", "_law_state", "_law_way", "_law_some"]
@[simp] abbrev g_law_state_bent : TSd := (dSeq (dSet 3 (dCall p_law_take (dCons (dVar 0) (dCons (dC (.dat (.int 6))) dNil))))
  (dSeq (dIfS (dtst (dOp eqW (dVar 1) (dC (.dat (.str ("counter" : Str)))))) (dRet (dOp idxW (dLst (dCons (dOp addW (dVar 2) (dC (.dat (.int 1)))) (dCons (dOp subW (dVar 2) (dC (.dat (.int 1)))) (dCons (dC (.dat (.bool true))) (dCons (dC (.dat .none)) (dCons (dTup dNil) (dCons (dB strW (dCons (dVar 2) dNil)) dNil))))))) (dVar 3))) dNext)
  (dSeq (dSet 4 (dLst (dCons (dOp addW (dVar 2) (dSl (dVar 2) dNoPart (dPart (dC (.dat (.int 1)))))) (dCons (dSl (dVar 2) (dPart (dC (.dat (.int 1)))) dNoPart) (dCons (dRev (dVar 2)) (dCons (dB lstW (dCons (dVar 2) dNil)) (dCons (dOp addW (dVar 2) (dTup (dCons (dC (.dat (.bool true))) dNil))) (dCons (dOp addW (dVar 2) (dTup (dCons (dTup (dCons (dC (.dat (.str ("a" : Str)))) (dCons (dC (.dat (.int 1))) dNil))) dNil))) dNil))))))))
  (dRet (dOp idxW (dVar 4) (dVar 3))))))
abbrev P_law_counts_bent : List Str := ["_law_box_here", "_law_counts", "_law_many"]
abbrev L_law_counts_bent : Nat := 3
abbrev N_law_counts_bent : List Str := ["_law_box_here", "_law_counts", "_law_many", "_law_some", "_law_more", "_law_k"]
@[simp] abbrev g_law_counts_bent : TSd := (dSeq (dSet 3 (dLst (dCons (dSl (dVar 1) (dPart (dC (.dat (.int 1)))) dNoPart) (dCons (dSl (dVar 1) dNoPart (dPart (dNeg (dC (.dat (.int 1)))))) (dCons (dRev (dVar 1)) (dCons (dOp addW (dVar 1) (dSl (dVar 1) (dPart (dNeg (dC (.dat (.int 1))))) dNoPart)) (dCons (dB lstW (dCons (dVar 1) dNil)) (dCons (dOp addW (dVar 1) (dTup (dCons (dVar 2) dNil))) dNil))))))))
  (dSeq (dSet 3 (dOp addW (dVar 3) (dLst (dCons (dOp addW (dVar 1) (dTup (dCons (dC (.dat (.bool true))) dNil))) dNil))))
  (dSeq (dSet 4 (dLc (iRngD (dCons (dVar 2) dNil)) (pName 5) (dtst (dOp (inWd true) (dVar 5) (dVar 1))) (dVar 5) [5]))
  (dRet (dCall p_law_one_of (dCons (dVar 0) (dCons (dOp addW (dVar 3) (dLst (dCons (dB tupW (dCons (dB sortIW (dCons (dOp addW (dVar 1) (dB tupW (dCons (dSl (dVar 4) dNoPart (dPart (dC (.dat (.int 1))))) dNil))) dNil)) dNil)) (dCons (dOp addW (dTup (dCons (dNeg (dC (.dat (.int 1)))) dNil)) (dVar 1)) dNil)))) dNil)))))))
abbrev P_law_unlined_bent : List Str := ["_law_box_here", "_law_sort", "_law_shut", "_law_many"]
abbrev L_law_unlined_bent : Nat := 4
abbrev N_law_unlined_bent : List Str := ["_law_box_here", "_law_sort", "_law_shut", "_law_many", "_law_at", "_law_way", "_law_counts", "_law_state"]
@[simp] abbrev g_law_unlined_bent : TSd := (dSeq (dPar [4, 5] (dCons (dPl (dCall p_law_take (dCons (dVar 0) (dCons (dOp addW (dB lenW (dCons (dVar 2) dNil)) (dC (.dat (.int 1)))) dNil)))) (dCons (dPl (dCall p_law_take (dCons (dVar 0) (dCons (dC (.dat (.int 8))) dNil)))) dNil)))
  (dSeq (dIfS (dtst (dOp eqW (dVar 5) (dC (.dat (.int 0))))) (dRet (dOp addW (dSl (dVar 2) dNoPart (dPart (dVar 4))) (dSl (dVar 2) (dPart (dOp addW (dVar 4) (dC (.dat (.int 1))))) dNoPart))) dNext)
  (dSeq (dIfS (dtst (dOp eqW (dVar 5) (dC (.dat (.int 1))))) (dRet (dOp addW (dOp addW (dSl (dVar 2) dNoPart (dPart (dVar 4))) (dSl (dVar 2) (dPart (dVar 4)) (dPart (dOp addW (dVar 4) (dC (.dat (.int 1))))))) (dSl (dVar 2) (dPart (dVar 4)) dNoPart))) dNext)
  (dSeq (dIfS (dtst (dOp eqW (dVar 5) (dC (.dat (.int 2))))) (dRet (dIf (dtst (dOp eqW (dCall p_law_take (dCons (dVar 0) (dCons (dC (.dat (.int 4))) dNil))) (dC (.dat (.int 0))))) (dB tupW (dCons (dVar 2) dNil)) (dRev (dVar 2)))) dNext)
  (dSeq (dIfS (dtOr (dtst (dOp eqW (dVar 5) (dC (.dat (.int 3))))) (dtOr (dtst (dOp eqW (dVar 4) (dB lenW (dCons (dVar 2) dNil)))) (dtNot (dtst (dCall p_law_is_spot (dCons (dVar 1) (dCons (dVar 3) (dCons (dOp idxW (dVar 2) (dVar 4)) dNil)))))))) (dRet (dOp addW (dOp addW (dSl (dVar 2) dNoPart (dPart (dVar 4))) (dLst (dCons (dCall p_law_odd (dCons (dVar 0) dNil)) dNil))) (dSl (dVar 2) (dPart (dVar 4)) dNoPart))) dNext)
  (dSeq (dAsg (dOp idxW (dVar 2) (dVar 4)) (pTup 2 (pCons (pName 6) (pCons (pName 7) pNil))))
  (dSeq (dIfS (dtst (dOp eqW (dVar 5) (dC (.dat (.int 4))))) (dRet (dOp addW (dOp addW (dSl (dVar 2) dNoPart (dPart (dVar 4))) (dLst (dCons (dLst (dCons (dVar 6) (dCons (dVar 7) dNil))) dNil))) (dSl (dVar 2) (dPart (dOp addW (dVar 4) (dC (.dat (.int 1))))) dNoPart))) dNext)
  (dSeq (dIfS (dtst (dOp eqW (dVar 5) (dC (.dat (.int 5))))) (dRet (dOp addW (dOp addW (dSl (dVar 2) dNoPart (dPart (dVar 4))) (dLst (dCons (dTup (dCons (dVar 6) dNil)) dNil))) (dSl (dVar 2) (dPart (dOp addW (dVar 4) (dC (.dat (.int 1))))) dNoPart))) dNext)
  (dSeq (dIfS (dtst (dOp eqW (dVar 5) (dC (.dat (.int 6))))) (dRet (dOp addW (dOp addW (dSl (dVar 2) dNoPart (dPart (dVar 4))) (dLst (dCons (dTup (dCons (dVar 6) (dCons (dCall p_law_state_bent (dCons (dVar 0) (dCons (dVar 1) (dCons (dVar 7) dNil)))) dNil))) dNil))) (dSl (dVar 2) (dPart (dOp addW (dVar 4) (dC (.dat (.int 1))))) dNoPart))) dNext)
  (dRet (dOp addW (dOp addW (dSl (dVar 2) dNoPart (dPart (dVar 4))) (dLst (dCons (dTup (dCons (dCall p_law_counts_bent (dCons (dVar 0) (dCons (dVar 6) (dCons (dVar 3) dNil)))) (dCons (dVar 7) dNil))) dNil))) (dSl (dVar 2) (dPart (dOp addW (dVar 4) (dC (.dat (.int 1))))) dNoPart))))))))))))
abbrev P_law_row_bent : List Str := ["_law_box_here", "_law_row", "_law_many"]
abbrev L_law_row_bent : Nat := 4
abbrev N_law_row_bent : List Str := ["_law_box_here", "_law_row", "_law_many", "_law_at", "_law_way", "_law_k"]
@[simp] abbrev g_law_row_bent : TSd := (dSeq (dPar [3, 4] (dCons (dPl (dCall p_law_take (dCons (dVar 0) (dCons (dOp addW (dB lenW (dCons (dVar 1) dNil)) (dC (.dat (.int 1)))) dNil)))) (dCons (dPl (dCall p_law_take (dCons (dVar 0) (dCons (dC (.dat (.int 6))) dNil)))) dNil)))
  (dSeq (dIfS (dtst (dOp eqW (dVar 4) (dC (.dat (.int 0))))) (dRet (dOp addW (dSl (dVar 1) dNoPart (dPart (dVar 3))) (dSl (dVar 1) (dPart (dOp addW (dVar 3) (dC (.dat (.int 1))))) dNoPart))) dNext)
  (dSeq (dIfS (dtst (dOp eqW (dVar 4) (dC (.dat (.int 1))))) (dRet (dOp addW (dOp addW (dSl (dVar 1) dNoPart (dPart (dVar 3))) (dSl (dVar 1) (dPart (dVar 3)) (dPart (dOp addW (dVar 3) (dC (.dat (.int 1))))))) (dSl (dVar 1) (dPart (dVar 3)) dNoPart))) dNext)
  (dSeq (dIfS (dtst (dOp eqW (dVar 4) (dC (.dat (.int 2))))) (dRet (dOp addW (dOp addW (dSl (dVar 1) dNoPart (dPart (dVar 3))) (dRev (dSl (dVar 1) (dPart (dVar 3)) (dPart (dOp addW (dVar 3) (dC (.dat (.int 2)))))))) (dSl (dVar 1) (dPart (dOp addW (dVar 3) (dC (.dat (.int 2))))) dNoPart))) dNext)
  (dSeq (dIfS (dtst (dOp eqW (dVar 4) (dC (.dat (.int 3))))) (dRet (dOp addW (dOp addW (dSl (dVar 1) dNoPart (dPart (dVar 3))) (dLst (dCons (dCall p_law_odd (dCons (dVar 0) dNil)) dNil))) (dSl (dVar 1) (dPart (dOp addW (dVar 3) (dC (.dat (.int 1))))) dNoPart))) dNext)
  (dSeq (dIfS (dtst (dOp eqW (dVar 4) (dC (.dat (.int 4))))) (dRet (dOp addW (dVar 1) (dSl (dLc (iRngD (dCons (dVar 2) dNil)) (pName 5) (dtst (dOp (inWd true) (dVar 5) (dVar 1))) (dVar 5) [5]) dNoPart (dPart (dC (.dat (.int 1))))))) dNext)
  (dRet (dB tupW (dCons (dVar 1) dNil)))))))))
abbrev P_law_things : List Str := ["_law_box_here", "_law_sort", "_law_tale_here", "_law_origin_here", "_law_row"]
abbrev L_law_things : Nat := 5
abbrev N_law_things : List Str := ["_law_box_here", "_law_sort", "_law_tale_here", "_law_origin_here", "_law_row", "_law_many", "_law_strange", "_law_k", "_law_wide", "_law_found", "_law_turn", "_law_odd_here"]
@[simp] abbrev g_law_things : TSd := (dSeq (dSet 5 (dB lenW (dCons (dCall p_law_rows (dCons (dVar 2) dNil)) dNil)))
  (dSeq (dSet 6 (dTup (dCons (dB tupW (dCons (dLc (iRngD (dCons (dVar 5) dNil)) (pName 7) (dtst (dOp eqW (dCall p_law_take (dCons (dVar 0) (dCons (dC (.dat (.int 2))) dNil))) (dC (.dat (.int 0))))) (dVar 7) [7]) dNil)) (dCons (dIf (dtst (dOp neW (dVar 1) (dC (.dat (.str ("table" : Str)))))) (dOp mulAllW (dVar 3) (dC (.dat (.int 2)))) (dTup dNil)) dNil))))
  (dSeq (dSet 8 (dCall p_law_closed (dCons (dVar 1) (dCons (dVar 2) (dCons (dLst (dCons (dTup (dCons (dTup dNil) (dCons (dVar 3) dNil))) (dCons (dVar 6) dNil))) dNil)))))
  (dSeq (dSetO 9 (dOLst (dCons (dVar 4) (dCons (dRev (dVar 4)) (dCons (dCall p_law_closed (dCons (dVar 1) (dCons (dVar 2) (dCons (dLst (dCons (dTup (dCons (dTup dNil) (dCons (dVar 3) dNil))) dNil)) dNil)))) (dCons (dVar 8) (dCons (dLst dNil) (dCons (dC (.dat .none)) (dCons (dCall p_law_odd (dCons (dVar 0) dNil)) (dCons (dLst (dCons (dCall p_law_odd (dCons (dVar 0) dNil)) dNil)) dNil))))))))))
  (dSeq (dFor (iRngD (dCons (dC (.dat (.int 12))) dNil)) (pName 10) (dSeq (dIfS (dtst (dOp eqW (dCall p_law_take (dCons (dVar 0) (dCons (dC (.dat (.int 2))) dNil))) (dC (.dat (.int 0))))) (dSeq (dSet 11 (dCall p_law_row_bent (dCons (dVar 0) (dCons (dVar 4) (dCons (dVar 5) dNil)))))
  (dSet 11 (dIf (dtAnd (dtst (dB isiW (dCons (dVar 11) (dCons (dC (.ty "list")) dNil)))) (dtst (dOp eqW (dOp modW (dVar 10) (dC (.dat (.int 3)))) (dC (.dat (.int 0)))))) (dCall p_law_row_bent (dCons (dVar 0) (dCons (dVar 11) (dCons (dVar 5) dNil)))) (dVar 11)))) (dSeq (dSet 11 (dCall p_law_unlined_bent (dCons (dVar 0) (dCons (dVar 1) (dCons (dOp idxW (dVar 9) (dOp addW (dC (.dat (.int 2))) (dCall p_law_take (dCons (dVar 0) (dCons (dC (.dat (.int 2))) dNil))))) (dCons (dVar 5) dNil))))))
  (dSet 11 (dIf (dtAnd (dtst (dB isiW (dCons (dVar 11) (dCons (dC (.ty "list")) dNil)))) (dtst (dOp eqW (dOp modW (dVar 10) (dC (.dat (.int 3)))) (dC (.dat (.int 0)))))) (dCall p_law_unlined_bent (dCons (dVar 0) (dCons (dVar 1) (dCons (dVar 11) (dCons (dVar 5) dNil))))) (dVar 11)))))
  (dApp 9 (dVar 11))))
  (dFzL 9 (dRet (dVar 9))))))))
abbrev P_law_right : List Str := ["_law_box_here", "_law_sort"]
abbrev L_law_right : Nat := 6
abbrev N_law_right : List Str := ["_law_box_here", "_law_sort", "_law_keys_here", "_law_turn", "_law_origin_here", "_law_again", "_law_hits", "_law_odd_here", "_law_tale_here", "_law_row", "_law_dues", "_law_before", "_law_told", "_law_k"]
@[simp] abbrev g_law_right : TSd := (dSeq (dSet 2 (dCall p_law_keys (dCons (dVar 0) dNil)))
  (dSeq (dFor (iRngD (dCons (dC (.dat (.int 2))) dNil)) (pName 3) (dSeq (dSet 4 (dCall p_law_origin (dCons (dVar 0) (dCons (dVar 1) (dCons (dVar 2) dNil)))))
  (dSeq (dAsg (dCall p_law_tale (dCons (dVar 0) (dCons (dVar 1) (dCons (dVar 2) (dCons (dVar 4) (dCons (dCall p_law_take (dCons (dVar 0) (dCons (dC (.dat (.int 5))) dNil))) dNil)))))) (pTup 2 (pCons (pName 8) (pCons (pName 9) pNil))))
  (dSeq (dFor (iRngD (dCons (dCall p_law_take (dCons (dVar 0) (dCons (dC (.dat (.int 4))) dNil))) dNil)) (pName 5) (dSet 8 (dCall p_law_bent (dCons (dVar 0) (dCons (dVar 8) dNil)))))
  (dSeq (dSet 6 (dLst (dCons (dC (.dat (.int 0))) (dCons (dC (.dat (.int 0))) dNil))))
  (dSeq (dFor (iSeq (dCall p_law_things (dCons (dVar 0) (dCons (dVar 1) (dCons (dVar 8) (dCons (dVar 4) (dCons (dVar 9) dNil))))))) (pName 7) (dSeq (dSet 10 (dLst (dCons (dCall p_law_is_order (dCons (dVar 1) (dCons (dVar 8) (dCons (dVar 4) (dCons (dVar 7) dNil))))) (dCons (dCall p_law_is_unlined (dCons (dVar 1) (dCons (dVar 8) (dCons (dVar 4) (dCons (dVar 7) dNil))))) dNil))))
  (dSeq (dSet 11 (dB reprGW (dCons (dLst (dCons (dVar 8) (dCons (dVar 7) dNil))) dNil)))
  (dSeq (dSet 12 (dLst (dCons (dCallK 3 p_shows_order (dCons (dVar 1) (dCons (dVar 8) (dCons (dVar 7) dNil))) (dVar 4)) (dCons (dCallK 3 p_shows_unlined (dCons (dVar 1) (dCons (dVar 8) (dCons (dVar 7) dNil))) (dVar 4)) dNil))))
  (dSeq (dIfS (dtOr (dtst (dOp neW (dB reprGW (dCons (dVar 12) dNil)) (dB reprGW (dCons (dVar 10) dNil)))) (dtst (dOp neW (dB reprGW (dCons (dLst (dCons (dVar 8) (dCons (dVar 7) dNil))) dNil)) (dVar 11)))) (dRet (dC (.dat (.bool false)))) dNext)
  (dSet 6 (dLc (iTupD (dTup (dCons (dC (.dat (.int 0))) (dCons (dC (.dat (.int 1))) dNil)))) (pName 13) dYes (dOp addW (dOp idxW (dVar 6) (dVar 13)) (dB intW (dCons (dOp idxW (dVar 12) (dVar 13)) dNil))) [13])))))))
  (dIfS (dtAnd (dtst (dOp gtW (dOp idxW (dVar 6) (dC (.dat (.int 0)))) (dC (.dat (.int 0))))) (dtst (dOp gtW (dOp idxW (dVar 6) (dC (.dat (.int 1)))) (dC (.dat (.int 0)))))) (dRet (dC (.dat (.bool false)))) dNext)))))))
  (dRet (dC (.dat (.bool true))))))
abbrev P_law_two_sorts : List Str := ["_law_box_here"]
abbrev L_law_two_sorts : Nat := 2
abbrev N_law_two_sorts : List Str := ["_law_box_here", "_law_sorts", "_law_at"]
@[simp] abbrev g_law_two_sorts : TSd := (dSeq (dPar [1, 2] (dCons (dPl (dLst (dCons (dC (.dat (.str ("counter" : Str)))) (dCons (dC (.dat (.str ("pile" : Str)))) (dCons (dC (.dat (.str ("queue" : Str)))) (dCons (dC (.dat (.str ("table" : Str)))) dNil)))))) (dCons (dPl (dCall p_law_take (dCons (dVar 0) (dCons (dC (.dat (.int 4))) dNil)))) dNil)))
  (dRet (dLst (dCons (dOp idxW (dVar 1) (dVar 2)) (dCons (dOp idxW (dVar 1) (dOp modW (dOp addW (dOp addW (dVar 2) (dC (.dat (.int 1)))) (dCall p_law_take (dCons (dVar 0) (dCons (dC (.dat (.int 3))) dNil)))) (dC (.dat (.int 4))))) dNil)))))
abbrev P_law : List Str := ["_law_script"]
abbrev L_law : Nat := 7
abbrev N_law : List Str := ["_law_script", "_law_cells_here", "_law_k", "_law_box_here", "_law_sort"]
@[simp] abbrev g_law : TSd := (dSeq (dSet 1 (dCall p_law_cells (dCons (dVar 0) (dCons (dC (.dat (.int 2))) dNil))))
  (dSeq (dFor (iRngD (dCons (dB lenW (dCons (dVar 1) dNil)) dNil)) (pName 2) (dNewBox 3 (dCall p_law_box (dCons (dVar 1) (dCons (dVar 2) dNil)))
  (dIfS (dtNot (dtst (dB allW (dCons (dLc (iSeq (dCall p_law_two_sorts (dCons (dVar 3) dNil))) (pName 4) dYes (dCall p_law_right (dCons (dVar 3) (dCons (dVar 4) dNil))) [4]) dNil)))) (dRet (dC (.dat (.bool false)))) dNext)))
  (dRet (dC (.dat (.bool true))))))
end WL
set_option Elab.async false
set_option linter.all false
set_option maxRecDepth 100000
set_option maxHeartbeats 4000000
namespace WL
open PySem PySem.Spec PyProof.Rows L2 DL
theorem sc_is_number : FnScope N_is_number P_is_number (defScope WL.s_is_number) := ⟨rfl, rfl, rfl, by decide +kernel, rfl, by decide +kernel, by decide +kernel⟩
theorem bd_is_number {P : Program} {w : World} {K : PySem.W.Frag} {mg : Str → Option Value} {base : Heap} (B : Bn K mg) (f : Addr) (cdv : Value) (A : Around) (outer : List Env) (st : Shared) (H : Hp) (E : XK) (hr : Room 0 (A.deeper (PyProof.Rows.envOfC "is_number" (defScope WL.s_is_number) st.heap.objs.size f cdv))) :
    DSs (cxOf CX0 P w K mg base N_is_number "is_number" (defScope WL.s_is_number) f cdv A outer st H E).nox (defBody WL.s_is_number) (g_is_number) := (ds_end (ds_ret (de_and (de_isi (by rfl) B.n_isinstance (da_cons (de_v 0) (da_cons (de_ty (by rfl) B.n_int boot_intT) da_nil))) (de_one (de_not (de_isi (by rfl) B.n_isinstance (da_cons (de_v 0) (da_cons (de_ty (by rfl) B.n_bool boot_boolT) da_nil))))))))
theorem def_is_number {P : Program} {w : World} {K : PySem.W.Frag} {mg : Str → Option Value} {base : Heap} (B : Bn K mg) (len : ∀ ws n Q, p_is_number ws n Q → ws.length = P_is_number.length) (pf : ∀ ws n Q, p_is_number ws n Q → (g_is_number) { nx := fun m _ => Q (.dat .none) m, rt := Q } n (startD N_is_number ws)) : Def P w K mg base L_is_number "is_number" P_is_number p_is_number :=
  mkDef B 0 rfl B.g_is_number (fun fd F => F.bindsN fun _ _ _ _ _ _ us hl => match us, hl with | [_], _ => rfl) (fun fd F => fn_d F sc_is_number len (fun cdv A outer st H E hr => bd_is_number B _ cdv A outer st H E hr) pf)
theorem sc_is_below : FnScope N_is_below P_is_below (defScope WL.s_is_below) := ⟨rfl, rfl, rfl, by decide +kernel, rfl, by decide +kernel, by decide +kernel⟩
theorem bd_is_below {P : Program} {w : World} {K : PySem.W.Frag} {mg : Str → Option Value} {base : Heap} (B : Bn K mg) (D_is_number : Def P w K mg base L_is_number "is_number" P_is_number p_is_number) (f : Addr) (cdv : Value) (A : Around) (outer : List Env) (st : Shared) (H : Hp) (E : XK) (hr : Room 1 (A.deeper (PyProof.Rows.envOfC "is_below" (defScope WL.s_is_below) st.heap.objs.size f cdv))) :
    DSs (cxOf CX0 P w K mg base N_is_below "is_below" (defScope WL.s_is_below) f cdv A outer st H E).nox (defBody WL.s_is_below) (g_is_below) := (ds_end (ds_ret (de_and (de_callD D_is_number hr (da_cons (de_v 0) da_nil)) (de_one (de_lelt de_int (de_v 0) (de_v 1))))))
theorem def_is_below {P : Program} {w : World} {K : PySem.W.Frag} {mg : Str → Option Value} {base : Heap} (B : Bn K mg) (D_is_number : Def P w K mg base L_is_number "is_number" P_is_number p_is_number) (len : ∀ ws n Q, p_is_below ws n Q → ws.length = P_is_below.length) (pf : ∀ ws n Q, p_is_below ws n Q → (g_is_below) { nx := fun m _ => Q (.dat .none) m, rt := Q } n (startD N_is_below ws)) : Def P w K mg base L_is_below "is_below" P_is_below p_is_below :=
  mkDef B 1 rfl B.g_is_below (fun fd F => F.bindsN fun _ _ _ _ _ _ us hl => match us, hl with | [_, _], _ => rfl) (fun fd F => fn_d F sc_is_below len (fun cdv A outer st H E hr => bd_is_below B D_is_number _ cdv A outer st H E hr) pf)
theorem sc_is_name : FnScope N_is_name P_is_name (defScope WL.s_is_name) := ⟨rfl, rfl, rfl, by decide +kernel, rfl, by decide +kernel, by decide +kernel⟩
theorem bd_is_name {P : Program} {w : World} {K : PySem.W.Frag} {mg : Str → Option Value} {base : Heap} (B : Bn K mg) (f : Addr) (cdv : Value) (A : Around) (outer : List Env) (st : Shared) (H : Hp) (E : XK) (hr : Room 0 (A.deeper (PyProof.Rows.envOfC "is_name" (defScope WL.s_is_name) st.heap.objs.size f cdv))) :
    DSs (cxOf CX0 P w K mg base N_is_name "is_name" (defScope WL.s_is_name) f cdv A outer st H E).nox (defBody WL.s_is_name) (g_is_name) := (ds_cons (ds_if (dt_w (dw_or (dt_not (dt_val (de_isi (by rfl) B.n_isinstance (da_cons (de_v 0) (da_cons (de_ty (by rfl) B.n_str boot_strT) da_nil))))) (dw_or1 (dt_not (dt_lele de_int (de_len (by rfl) B.n_len (da_cons (de_v 0) da_nil)) (de_gintE rfl B.i_MOST_SIGNS)))))) (ds_end (ds_ret de_bl)) ds_nil)
  (ds_end (ds_ret (de_all (by rfl) (by rfl) B.n_all (da_cons (de_lc (own := [(("sign" : Str), 1)]) rfl sc_is_name.nd (di_str (de_v 0)) (blkOk_by (by rfl)) (fun _ _ _ _ _ => (dg_name 1 sc_is_name.nd)) (fun _ _ _ _ _ => dts_nil) (fun _ _ _ _ _ => (de_in hr (de_v 1) (de_gstrE rfl B.s_SMALL_SIGNS)))) da_nil)))))
theorem def_is_name {P : Program} {w : World} {K : PySem.W.Frag} {mg : Str → Option Value} {base : Heap} (B : Bn K mg) (len : ∀ ws n Q, p_is_name ws n Q → ws.length = P_is_name.length) (pf : ∀ ws n Q, p_is_name ws n Q → (g_is_name) { nx := fun m _ => Q (.dat .none) m, rt := Q } n (startD N_is_name ws)) : Def P w K mg base L_is_name "is_name" P_is_name p_is_name :=
  mkDef B 2 rfl B.g_is_name (fun fd F => F.bindsN fun _ _ _ _ _ _ us hl => match us, hl with | [_], _ => rfl) (fun fd F => fn_d F sc_is_name len (fun cdv A outer st H E hr => bd_is_name B _ cdv A outer st H E hr) pf)
theorem sc_is_tuple_of : FnScope N_is_tuple_of P_is_tuple_of (defScope WL.s_is_tuple_of) := ⟨rfl, rfl, rfl, by decide +kernel, rfl, by decide +kernel, by decide +kernel⟩
theorem bd_is_tuple_of {P : Program} {w : World} {K : PySem.W.Frag} {mg : Str → Option Value} {base : Heap} (B : Bn K mg) (f : Addr) (cdv : Value) (A : Around) (outer : List Env) (st : Shared) (H : Hp) (E : XK) (hr : Room 0 (A.deeper (PyProof.Rows.envOfC "is_tuple_of" (defScope WL.s_is_tuple_of) st.heap.objs.size f cdv))) :
    DSs (cxOf CX0 P w K mg base N_is_tuple_of "is_tuple_of" (defScope WL.s_is_tuple_of) f cdv A outer st H E).nox (defBody WL.s_is_tuple_of) (g_is_tuple_of) := (ds_end (ds_ret (de_and (de_isi (by rfl) B.n_isinstance (da_cons (de_v 0) (da_cons (de_ty (by rfl) B.n_tuple boot_tupleT) da_nil))) (de_one (de_eq hr (de_len (by rfl) B.n_len (da_cons (de_v 0) da_nil)) (de_v 1))))))
theorem def_is_tuple_of {P : Program} {w : World} {K : PySem.W.Frag} {mg : Str → Option Value} {base : Heap} (B : Bn K mg) (len : ∀ ws n Q, p_is_tuple_of ws n Q → ws.length = P_is_tuple_of.length) (pf : ∀ ws n Q, p_is_tuple_of ws n Q → (g_is_tuple_of) { nx := fun m _ => Q (.dat .none) m, rt := Q } n (startD N_is_tuple_of ws)) : Def P w K mg base L_is_tuple_of "is_tuple_of" P_is_tuple_of p_is_tuple_of :=
  mkDef B 3 rfl B.g_is_tuple_of (fun fd F => F.bindsN fun _ _ _ _ _ _ us hl => match us, hl with | [_, _], _ => rfl) (fun fd F => fn_d F sc_is_tuple_of len (fun cdv A outer st H E hr => bd_is_tuple_of B _ cdv A outer st H E hr) pf)
theorem sc_is_row : FnScope N_is_row P_is_row (defScope WL.s_is_row) := ⟨rfl, rfl, rfl, by decide +kernel, rfl, by decide +kernel, by decide +kernel⟩
theorem bd_is_row {P : Program} {w : World} {K : PySem.W.Frag} {mg : Str → Option Value} {base : Heap} (B : Bn K mg) (D_is_number : Def P w K mg base L_is_number "is_number" P_is_number p_is_number) (D_is_name : Def P w K mg base L_is_name "is_name" P_is_name p_is_name) (D_is_tuple_of : Def P w K mg base L_is_tuple_of "is_tuple_of" P_is_tuple_of p_is_tuple_of) (f : Addr) (cdv : Value) (A : Around) (outer : List Env) (st : Shared) (H : Hp) (E : XK) (hr : Room 1 (A.deeper (PyProof.Rows.envOfC "is_row" (defScope WL.s_is_row) st.heap.objs.size f cdv))) :
    DSs (cxOf CX0 P w K mg base N_is_row "is_row" (defScope WL.s_is_row) f cdv A outer st H E).nox (defBody WL.s_is_row) (g_is_row) := (ds_end (ds_ret (de_and (de_callD D_is_tuple_of hr (da_cons (de_v 0) (da_cons de_int da_nil))) (de_and (de_callD D_is_name hr (da_cons (de_ix (de_v 0) de_int) da_nil)) (de_one (de_callD D_is_number hr (da_cons (de_ix (de_v 0) de_int) da_nil)))))))
theorem def_is_row {P : Program} {w : World} {K : PySem.W.Frag} {mg : Str → Option Value} {base : Heap} (B : Bn K mg) (D_is_number : Def P w K mg base L_is_number "is_number" P_is_number p_is_number) (D_is_name : Def P w K mg base L_is_name "is_name" P_is_name p_is_name) (D_is_tuple_of : Def P w K mg base L_is_tuple_of "is_tuple_of" P_is_tuple_of p_is_tuple_of) (len : ∀ ws n Q, p_is_row ws n Q → ws.length = P_is_row.length) (pf : ∀ ws n Q, p_is_row ws n Q → (g_is_row) { nx := fun m _ => Q (.dat .none) m, rt := Q } n (startD N_is_row ws)) : Def P w K mg base L_is_row "is_row" P_is_row p_is_row :=
  mkDef B 4 rfl B.g_is_row (fun fd F => F.bindsN fun _ _ _ _ _ _ us hl => match us, hl with | [_], _ => rfl) (fun fd F => fn_d F sc_is_row len (fun cdv A outer st H E hr => bd_is_row B D_is_number D_is_name D_is_tuple_of _ cdv A outer st H E hr) pf)
theorem sc_is_state : FnScope N_is_state P_is_state (defScope WL.s_is_state) := ⟨rfl, rfl, rfl, by decide +kernel, rfl, by decide +kernel, by decide +kernel⟩
theorem bd_is_state {P : Program} {w : World} {K : PySem.W.Frag} {mg : Str → Option Value} {base : Heap} (B : Bn K mg) (D_is_number : Def P w K mg base L_is_number "is_number" P_is_number p_is_number) (D_is_row : Def P w K mg base L_is_row "is_row" P_is_row p_is_row) (f : Addr) (cdv : Value) (A : Around) (outer : List Env) (st : Shared) (H : Hp) (E : XK) (hr : Room 2 (A.deeper (PyProof.Rows.envOfC "is_state" (defScope WL.s_is_state) st.heap.objs.size f cdv))) :
    DSs (cxOf CX0 P w K mg base N_is_state "is_state" (defScope WL.s_is_state) f cdv A outer st H E).nox (defBody WL.s_is_state) (g_is_state) := (ds_cons (ds_if (dt_eq hr (de_v 0) (de_gstrE rfl B.s_COUNTER)) (ds_end (ds_ret (de_callD D_is_number hr (da_cons (de_v 1) da_nil)))) ds_nil)
  (ds_cons (ds_if (dt_not (dt_val (de_isi (by rfl) B.n_isinstance (da_cons (de_v 1) (da_cons (de_ty (by rfl) B.n_tuple boot_tupleT) da_nil))))) (ds_end (ds_ret de_bl)) ds_nil)
  (ds_cons (ds_if (dt_ne hr (de_v 0) (de_gstrE rfl B.s_TABLE)) (ds_end (ds_ret (de_all (by rfl) (by rfl) B.n_all (da_cons (de_lc (own := [(("one" : Str), 2)]) rfl sc_is_state.nd (di_tup (de_v 1)) (blkOk_by (by rfl)) (fun _ _ _ _ _ => (dg_name 2 sc_is_state.nd)) (fun _ _ _ _ _ => dts_nil) (fun _ _ _ _ _ => (de_callD D_is_number hr (da_cons (de_v 2) da_nil)))) da_nil)))) ds_nil)
  (ds_end (ds_ret (de_and (de_all (by rfl) (by rfl) B.n_all (da_cons (de_lc (own := [(("one" : Str), 2)]) rfl sc_is_state.nd (di_tup (de_v 1)) (blkOk_by (by rfl)) (fun _ _ _ _ _ => (dg_name 2 sc_is_state.nd)) (fun _ _ _ _ _ => dts_nil) (fun _ _ _ _ _ => (de_callD D_is_row hr (da_cons (de_v 2) da_nil)))) da_nil)) (de_one (de_all (by rfl) (by rfl) B.n_all (da_cons (de_lc (own := [(("one" : Str), 2), (("two" : Str), 3)]) rfl sc_is_state.nd (di_zip (by rfl) B.n_zip (da_cons (de_v 1) (da_cons (de_slice (de_v 1) (do_some de_int) do_none) da_nil))) (blkOk_by (by rfl)) (fun _ _ _ _ _ => (dg_tup rfl (dg_cons (dg_name 2 sc_is_state.nd) (dg_cons (dg_name 3 sc_is_state.nd) dg_nil)))) (fun _ _ _ _ _ => dts_nil) (fun _ _ _ _ _ => (de_lt (de_ix (de_v 2) de_int) (de_ix (de_v 3) de_int)))) da_nil)))))))))
theorem def_is_state {P : Program} {w : World} {K : PySem.W.Frag} {mg : Str → Option Value} {base : Heap} (B : Bn K mg) (D_is_number : Def P w K mg base L_is_number "is_number" P_is_number p_is_number) (D_is_row : Def P w K mg base L_is_row "is_row" P_is_row p_is_row) (len : ∀ ws n Q, p_is_state ws n Q → ws.length = P_is_state.length) (pf : ∀ ws n Q, p_is_state ws n Q → (g_is_state) { nx := fun m _ => Q (.dat .none) m, rt := Q } n (startD N_is_state ws)) : Def P w K mg base L_is_state "is_state" P_is_state p_is_state :=
  mkDef B 5 rfl B.g_is_state (fun fd F => F.bindsN fun _ _ _ _ _ _ us hl => match us, hl with | [_, _], _ => rfl) (fun fd F => fn_d F sc_is_state len (fun cdv A outer st H E hr => bd_is_state B D_is_number D_is_row _ cdv A outer st H E hr) pf)
theorem sc_begun : FnScope N_begun P_begun (defScope WL.s_begun) := ⟨rfl, rfl, rfl, by decide +kernel, rfl, by decide +kernel, by decide +kernel⟩
theorem bd_begun {P : Program} {w : World} {K : PySem.W.Frag} {mg : Str → Option Value} {base : Heap} (B : Bn K mg) (f : Addr) (cdv : Value) (A : Around) (outer : List Env) (st : Shared) (H : Hp) (E : XK) (hr : Room 0 (A.deeper (PyProof.Rows.envOfC "begun" (defScope WL.s_begun) st.heap.objs.size f cdv))) :
    DSs (cxOf CX0 P w K mg base N_begun "begun" (defScope WL.s_begun) f cdv A outer st H E).nox (defBody WL.s_begun) (g_begun) := (ds_end (ds_ret (de_ifExp (dt_eq hr (de_v 0) (de_gstrE rfl B.s_COUNTER)) de_int (de_tup da_nil))))
theorem def_begun {P : Program} {w : World} {K : PySem.W.Frag} {mg : Str → Option Value} {base : Heap} (B : Bn K mg) (len : ∀ ws n Q, p_begun ws n Q → ws.length = P_begun.length) (pf : ∀ ws n Q, p_begun ws n Q → (g_begun) { nx := fun m _ => Q (.dat .none) m, rt := Q } n (startD N_begun ws)) : Def P w K mg base L_begun "begun" P_begun p_begun :=
  mkDef B 6 rfl B.g_begun (fun fd F => F.bindsN fun _ _ _ _ _ _ us hl => match us, hl with | [_], _ => rfl) (fun fd F => fn_d F sc_begun len (fun cdv A outer st H E hr => bd_begun B _ cdv A outer st H E hr) pf)
theorem sc_counted : FnScope N_counted P_counted (defScope WL.s_counted) := ⟨rfl, rfl, rfl, by decide +kernel, rfl, by decide +kernel, by decide +kernel⟩
theorem bd_counted {P : Program} {w : World} {K : PySem.W.Frag} {mg : Str → Option Value} {base : Heap} (B : Bn K mg) (f : Addr) (cdv : Value) (A : Around) (outer : List Env) (st : Shared) (H : Hp) (E : XK) (hr : Room 0 (A.deeper (PyProof.Rows.envOfC "counted" (defScope WL.s_counted) st.heap.objs.size f cdv))) :
    DSs (cxOf CX0 P w K mg base N_counted "counted" (defScope WL.s_counted) f cdv A outer st H E).nox (defBody WL.s_counted) (g_counted) := (ds_cons (ds_asgS rfl (de_v 1) (dg_cons (dg_name (vs := [0, 1, 2, 3]) 2 sc_counted.nd) (dgs_star (dg_name (vs := [0, 1, 2, 3]) 3 sc_counted.nd) dg_nil)))
  (ds_cons (ds_if (dt_eq hr (de_v 2) (de_gstrE rfl B.s_ADD)) (ds_end (ds_ret (de_tup (da_cons (de_add (de_v 0) (de_ix (de_v 3) de_int)) (da_cons (de_v 0) da_nil))))) ds_nil)
  (ds_end (ds_ret (de_tup (da_cons (de_ifExp (dt_eq hr (de_v 2) (de_gstrE rfl B.s_LIFT)) (de_max (by rfl) (by rfl) B.n_max (da_cons (de_v 0) (da_cons (de_ix (de_v 3) de_int) da_nil))) (de_v 0)) (da_cons (de_v 0) da_nil)))))))
theorem def_counted {P : Program} {w : World} {K : PySem.W.Frag} {mg : Str → Option Value} {base : Heap} (B : Bn K mg) (len : ∀ ws n Q, p_counted ws n Q → ws.length = P_counted.length) (pf : ∀ ws n Q, p_counted ws n Q → (g_counted) { nx := fun m _ => Q (.dat .none) m, rt := Q } n (startD N_counted ws)) : Def P w K mg base L_counted "counted" P_counted p_counted :=
  mkDef B 7 rfl B.g_counted (fun fd F => F.bindsN fun _ _ _ _ _ _ us hl => match us, hl with | [_, _], _ => rfl) (fun fd F => fn_d F sc_counted len (fun cdv A outer st H E hr => bd_counted B _ cdv A outer st H E hr) pf)
theorem sc_piled : FnScope N_piled P_piled (defScope WL.s_piled) := ⟨rfl, rfl, rfl, by decide +kernel, rfl, by decide +kernel, by decide +kernel⟩
theorem bd_piled {P : Program} {w : World} {K : PySem.W.Frag} {mg : Str → Option Value} {base : Heap} (B : Bn K mg) (f : Addr) (cdv : Value) (A : Around) (outer : List Env) (st : Shared) (H : Hp) (E : XK) (hr : Room 0 (A.deeper (PyProof.Rows.envOfC "piled" (defScope WL.s_piled) st.heap.objs.size f cdv))) :
    DSs (cxOf CX0 P w K mg base N_piled "piled" (defScope WL.s_piled) f cdv A outer st H E).nox (defBody WL.s_piled) (g_piled) := (ds_cons (ds_if (dt_eq hr (de_ix (de_v 1) de_int) (de_gstrE rfl B.s_PUT)) (ds_end (ds_ret (de_tup (da_cons (de_add (de_v 0) (de_tup (da_cons (de_ix (de_v 1) de_int) da_nil))) (da_cons de_bl da_nil))))) ds_nil)
  (ds_end (ds_ret (de_ifExp (dt_ne hr (de_v 0) (de_tup da_nil)) (de_tup (da_cons (de_slice (de_v 0) do_none (do_some (de_neg de_int))) (da_cons (de_ix (de_v 0) (de_neg de_int)) da_nil))) (de_tup (da_cons (de_tup da_nil) (da_cons de_non da_nil)))))))
theorem def_piled {P : Program} {w : World} {K : PySem.W.Frag} {mg : Str → Option Value} {base : Heap} (B : Bn K mg) (len : ∀ ws n Q, p_piled ws n Q → ws.length = P_piled.length) (pf : ∀ ws n Q, p_piled ws n Q → (g_piled) { nx := fun m _ => Q (.dat .none) m, rt := Q } n (startD N_piled ws)) : Def P w K mg base L_piled "piled" P_piled p_piled :=
  mkDef B 8 rfl B.g_piled (fun fd F => F.bindsN fun _ _ _ _ _ _ us hl => match us, hl with | [_, _], _ => rfl) (fun fd F => fn_d F sc_piled len (fun cdv A outer st H E hr => bd_piled B _ cdv A outer st H E hr) pf)
theorem sc_queued : FnScope N_queued P_queued (defScope WL.s_queued) := ⟨rfl, rfl, rfl, by decide +kernel, rfl, by decide +kernel, by decide +kernel⟩
theorem bd_queued {P : Program} {w : World} {K : PySem.W.Frag} {mg : Str → Option Value} {base : Heap} (B : Bn K mg) (f : Addr) (cdv : Value) (A : Around) (outer : List Env) (st : Shared) (H : Hp) (E : XK) (hr : Room 0 (A.deeper (PyProof.Rows.envOfC "queued" (defScope WL.s_queued) st.heap.objs.size f cdv))) :
    DSs (cxOf CX0 P w K mg base N_queued "queued" (defScope WL.s_queued) f cdv A outer st H E).nox (defBody WL.s_queued) (g_queued) := (ds_cons (ds_if (dt_eq hr (de_ix (de_v 1) de_int) (de_gstrE rfl B.s_PUT)) (ds_end (ds_ret (de_tup (da_cons (de_add (de_v 0) (de_tup (da_cons (de_ix (de_v 1) de_int) da_nil))) (da_cons de_bl da_nil))))) ds_nil)
  (ds_end (ds_ret (de_ifExp (dt_ne hr (de_v 0) (de_tup da_nil)) (de_tup (da_cons (de_slice (de_v 0) (do_some de_int) do_none) (da_cons (de_ix (de_v 0) de_int) da_nil))) (de_tup (da_cons (de_tup da_nil) (da_cons de_non da_nil)))))))
theorem def_queued {P : Program} {w : World} {K : PySem.W.Frag} {mg : Str → Option Value} {base : Heap} (B : Bn K mg) (len : ∀ ws n Q, p_queued ws n Q → ws.length = P_queued.length) (pf : ∀ ws n Q, p_queued ws n Q → (g_queued) { nx := fun m _ => Q (.dat .none) m, rt := Q } n (startD N_queued ws)) : Def P w K mg base L_queued "queued" P_queued p_queued :=
  mkDef B 9 rfl B.g_queued (fun fd F => F.bindsN fun _ _ _ _ _ _ us hl => match us, hl with | [_, _], _ => rfl) (fun fd F => fn_d F sc_queued len (fun cdv A outer st H E hr => bd_queued B _ cdv A outer st H E hr) pf)
theorem sc_tabled : FnScope N_tabled P_tabled (defScope WL.s_tabled) := ⟨rfl, rfl, rfl, by decide +kernel, rfl, by decide +kernel, by decide +kernel⟩
theorem bd_tabled {P : Program} {w : World} {K : PySem.W.Frag} {mg : Str → Option Value} {base : Heap} (B : Bn K mg) (f : Addr) (cdv : Value) (A : Around) (outer : List Env) (st : Shared) (H : Hp) (E : XK) (hr : Room 0 (A.deeper (PyProof.Rows.envOfC "tabled" (defScope WL.s_tabled) st.heap.objs.size f cdv))) :
    DSs (cxOf CX0 P w K mg base N_tabled "tabled" (defScope WL.s_tabled) f cdv A outer st H E).nox (defBody WL.s_tabled) (g_tabled) := (ds_cons (ds_asgS rfl (de_v 1) (dg_cons (dg_name (vs := [0, 1, 2, 3, 4, 5, 6]) 2 sc_tabled.nd) (dg_cons (dg_name (vs := [0, 1, 2, 3, 4, 5, 6]) 3 sc_tabled.nd) (dgs_star (dg_name (vs := [0, 1, 2, 3, 4, 5, 6]) 4 sc_tabled.nd) dg_nil))))
  (ds_cons (ds_setO 5 sc_tabled.nd (deo_dict (by rfl) (by rfl) B.n_dict (da_cons (de_v 0) da_nil)))
  (ds_cons (ds_set 6 sc_tabled.nd (de_get1 hr (de_v 5) (de_v 3)))
  (ds_cons (ds_if (dt_eq hr (de_v 2) (de_gstrE rfl B.s_SET)) (ds_end (ds_dput 5 hr (de_v 3) (de_ix (de_v 4) de_int))) (ds_end (ds_if (dt_eq hr (de_v 2) (de_gstrE rfl B.s_DROP)) (ds_end (ds_pop2 5 (de_v 3))) ds_nil)))
  (ds_end (ds_ret (de_tup (da_cons (de_tuple (by rfl) B.n_tuple (da_cons (de_sortedIt 5 (by rfl) (by rfl) B.n_sorted) da_nil)) (da_cons (de_v 6) da_nil)))))))))
theorem def_tabled {P : Program} {w : World} {K : PySem.W.Frag} {mg : Str → Option Value} {base : Heap} (B : Bn K mg) (len : ∀ ws n Q, p_tabled ws n Q → ws.length = P_tabled.length) (pf : ∀ ws n Q, p_tabled ws n Q → (g_tabled) { nx := fun m _ => Q (.dat .none) m, rt := Q } n (startD N_tabled ws)) : Def P w K mg base L_tabled "tabled" P_tabled p_tabled :=
  mkDef B 10 rfl B.g_tabled (fun fd F => F.bindsN fun _ _ _ _ _ _ us hl => match us, hl with | [_, _], _ => rfl) (fun fd F => fn_d F sc_tabled len (fun cdv A outer st H E hr => bd_tabled B _ cdv A outer st H E hr) pf)
theorem sc_done : FnScope N_done P_done (defScope WL.s_done) := ⟨rfl, rfl, rfl, by decide +kernel, rfl, by decide +kernel, by decide +kernel⟩
theorem bd_done {P : Program} {w : World} {K : PySem.W.Frag} {mg : Str → Option Value} {base : Heap} (B : Bn K mg) {es : Array DictEntry} {nd : Nat} (KD : KDict K w (He.ga K "DOERS") es nd) (D_counted : Def P w K mg base L_counted "counted" P_counted p_counted) (D_piled : Def P w K mg base L_piled "piled" P_piled p_piled) (D_queued : Def P w K mg base L_queued "queued" P_queued p_queued) (D_tabled : Def P w K mg base L_tabled "tabled" P_tabled p_tabled) (f : Addr) (cdv : Value) (A : Around) (outer : List Env) (st : Shared) (H : Hp) (E : XK) (hr : Room 1 (A.deeper (PyProof.Rows.envOfC "done" (defScope WL.s_done) st.heap.objs.size f cdv))) :
    DSs (cxOf CX0 P w K mg base N_done "done" (defScope WL.s_done) f cdv A outer st H E).nox (defBody WL.s_done) (g_done K) := (ds_cons (ds_set 3 sc_done.nd (de_doers KD (doT_ok B) B.g_DOERS (de_v 0)))
  (ds_end (ds_ret (de_or2 (de_callLD 3 D_counted hr (da_cons (de_v 1) (da_cons (de_v 2) da_nil))) (de_or2 (de_callLD 3 D_piled hr (da_cons (de_v 1) (da_cons (de_v 2) da_nil))) (de_or2 (de_callLD 3 D_queued hr (da_cons (de_v 1) (da_cons (de_v 2) da_nil))) (de_callLD 3 D_tabled hr (da_cons (de_v 1) (da_cons (de_v 2) da_nil)))))))))
theorem def_done {P : Program} {w : World} {K : PySem.W.Frag} {mg : Str → Option Value} {base : Heap} (B : Bn K mg) {es : Array DictEntry} {nd : Nat} (KD : KDict K w (He.ga K "DOERS") es nd) (D_counted : Def P w K mg base L_counted "counted" P_counted p_counted) (D_piled : Def P w K mg base L_piled "piled" P_piled p_piled) (D_queued : Def P w K mg base L_queued "queued" P_queued p_queued) (D_tabled : Def P w K mg base L_tabled "tabled" P_tabled p_tabled) (len : ∀ ws n Q, p_done ws n Q → ws.length = P_done.length) (pf : ∀ ws n Q, p_done ws n Q → (g_done K) { nx := fun m _ => Q (.dat .none) m, rt := Q } n (startD N_done ws)) : Def P w K mg base L_done "done" P_done p_done :=
  mkDef B 11 rfl B.g_done (fun fd F => F.bindsN fun _ _ _ _ _ _ us hl => match us, hl with | [_, _, _], _ => rfl) (fun fd F => fn_d F sc_done len (fun cdv A outer st H E hr => bd_done B KD D_counted D_piled D_queued D_tabled _ cdv A outer st H E hr) pf)
theorem sc_wishes_in : FnScope N_wishes_in P_wishes_in (defScope WL.s_wishes_in) := ⟨rfl, rfl, rfl, by decide +kernel, rfl, by decide +kernel, by decide +kernel⟩
theorem bd_wishes_in {P : Program} {w : World} {K : PySem.W.Frag} {mg : Str → Option Value} {base : Heap} (B : Bn K mg) (f : Addr) (cdv : Value) (A : Around) (outer : List Env) (st : Shared) (H : Hp) (E : XK) (hr : Room 0 (A.deeper (PyProof.Rows.envOfC "wishes_in" (defScope WL.s_wishes_in) st.heap.objs.size f cdv))) :
    DSs (cxOf CX0 P w K mg base N_wishes_in "wishes_in" (defScope WL.s_wishes_in) f cdv A outer st H E).nox (defBody WL.s_wishes_in) (g_wishes_in) := (ds_cons (ds_par2 1 2 rfl sc_wishes_in.nd (dao_cons deo_newL (dao_cons deo_newK dao_nil)) (by rfl))
  (ds_cons (ds_for rfl (di_enum (by rfl) B.n_enumerate (da_cons (de_v 0) da_nil)) (dg_tup rfl (dg_cons (dg_name (vs := [0, 1, 2, 3, 4, 5, 6, 7]) 3 sc_wishes_in.nd) (dg_cons (dg_tup rfl (dg_cons (dg_name (vs := [0, 1, 2, 3, 4, 5, 6, 7]) 4 sc_wishes_in.nd) (dg_cons (dg_name (vs := [0, 1, 2, 3, 4, 5, 6, 7]) 5 sc_wishes_in.nd) (dg_cons (dg_name (vs := [0, 1, 2, 3, 4, 5, 6, 7]) 6 sc_wishes_in.nd) dg_nil)))) dg_nil))) (ds_end (ds_if (dt_eq hr (de_v 4) (de_gstrE rfl B.s_BEGIN)) (ds_cons (ds_dput 2 hr (de_v 5) (de_len (by rfl) B.n_len (da_cons (de_v 1) da_nil)))
  (ds_end (ds_app 1 (de_tup (da_cons (de_v 5) (da_cons (de_v 6) (da_cons (de_v 3) (da_cons de_non da_nil)))))))) (ds_cons (ds_set 7 sc_wishes_in.nd (de_dget hr (de_v 2) (de_v 5)))
  (ds_end (ds_put 1 (de_v 7) (de_add (de_slice (de_ix (de_v 1) (de_v 7)) do_none (do_some de_int)) (de_tup (da_cons (de_v 3) da_nil)))))))) PassesOwn.never)
  (ds_end (ds_fzL 1 (ds_ret (de_v 1))))))
theorem def_wishes_in {P : Program} {w : World} {K : PySem.W.Frag} {mg : Str → Option Value} {base : Heap} (B : Bn K mg) (len : ∀ ws n Q, p_wishes_in ws n Q → ws.length = P_wishes_in.length) (pf : ∀ ws n Q, p_wishes_in ws n Q → (g_wishes_in) { nx := fun m _ => Q (.dat .none) m, rt := Q } n (startD N_wishes_in ws)) : Def P w K mg base L_wishes_in "wishes_in" P_wishes_in p_wishes_in :=
  mkDef B 12 rfl B.g_wishes_in (fun fd F => F.bindsN fun _ _ _ _ _ _ us hl => match us, hl with | [_], _ => rfl) (fun fd F => fn_d F sc_wishes_in len (fun cdv A outer st H E hr => bd_wishes_in B _ cdv A outer st H E hr) pf)
theorem sc_is_same : FnScope N_is_same P_is_same (defScope WL.s_is_same) := ⟨rfl, rfl, rfl, by decide +kernel, rfl, by decide +kernel, by decide +kernel⟩
theorem bd_is_same {P : Program} {w : World} {K : PySem.W.Frag} {mg : Str → Option Value} {base : Heap} (B : Bn K mg) (f : Addr) (cdv : Value) (A : Around) (outer : List Env) (st : Shared) (H : Hp) (E : XK) (hr : Room 0 (A.deeper (PyProof.Rows.envOfC "is_same" (defScope WL.s_is_same) st.heap.objs.size f cdv))) :
    DSs (cxOf CX0 P w K mg base N_is_same "is_same" (defScope WL.s_is_same) f cdv A outer st H E).nox (defBody WL.s_is_same) (g_is_same) := (ds_end (ds_ret (de_and (de_eq hr (de_v 0) (de_v 1)) (de_one (de_eq hr (de_isi (by rfl) B.n_isinstance (da_cons (de_v 0) (da_cons (de_ty (by rfl) B.n_bool boot_boolT) da_nil))) (de_isi (by rfl) B.n_isinstance (da_cons (de_v 1) (da_cons (de_ty (by rfl) B.n_bool boot_boolT) da_nil))))))))
theorem def_is_same {P : Program} {w : World} {K : PySem.W.Frag} {mg : Str → Option Value} {base : Heap} (B : Bn K mg) (len : ∀ ws n Q, p_is_same ws n Q → ws.length = P_is_same.length) (pf : ∀ ws n Q, p_is_same ws n Q → (g_is_same) { nx := fun m _ => Q (.dat .none) m, rt := Q } n (startD N_is_same ws)) : Def P w K mg base L_is_same "is_same" P_is_same p_is_same :=
  mkDef B 13 rfl B.g_is_same (fun fd F => F.bindsN fun _ _ _ _ _ _ us hl => match us, hl with | [_, _], _ => rfl) (fun fd F => fn_d F sc_is_same len (fun cdv A outer st H E hr => bd_is_same B _ cdv A outer st H E hr) pf)
theorem sc_first_spot : FnScope N_first_spot P_first_spot (defScope WL.s_first_spot) := ⟨rfl, rfl, rfl, by decide +kernel, rfl, by decide +kernel, by decide +kernel⟩
theorem bd_first_spot {P : Program} {w : World} {K : PySem.W.Frag} {mg : Str → Option Value} {base : Heap} (B : Bn K mg) (D_begun : Def P w K mg base L_begun "begun" P_begun p_begun) (f : Addr) (cdv : Value) (A : Around) (outer : List Env) (st : Shared) (H : Hp) (E : XK) (hr : Room 1 (A.deeper (PyProof.Rows.envOfC "first_spot" (defScope WL.s_first_spot) st.heap.objs.size f cdv))) :
    DSs (cxOf CX0 P w K mg base N_first_spot "first_spot" (defScope WL.s_first_spot) f cdv A outer st H E).nox (defBody WL.s_first_spot) (g_first_spot) := (ds_end (ds_ret (de_tup (da_cons (de_tup da_nil) (da_cons (de_ifExp (dt_is (de_v 1) de_non) (de_callD D_begun hr (da_cons (de_v 0) da_nil)) (de_v 1)) da_nil)))))
theorem def_first_spot {P : Program} {w : World} {K : PySem.W.Frag} {mg : Str → Option Value} {base : Heap} (B : Bn K mg) (D_begun : Def P w K mg base L_begun "begun" P_begun p_begun) (len : ∀ ws n Q, p_first_spot ws n Q → ws.length = P_first_spot.length) (pf : ∀ ws n Q, p_first_spot ws n Q → (g_first_spot) { nx := fun m _ => Q (.dat .none) m, rt := Q } n (startD N_first_spot ws)) : Def P w K mg base L_first_spot "first_spot" P_first_spot p_first_spot :=
  mkDef B 14 rfl B.g_first_spot (fun fd F => F.bindsN fun _ _ _ _ _ _ us hl => match us, hl with | [_, _], _ => rfl) (fun fd F => fn_d F sc_first_spot len (fun cdv A outer st H E hr => bd_first_spot B D_begun _ cdv A outer st H E hr) pf)
theorem sc_Tale_init : FnScope N_Tale_init P_Tale_init (defScope WL.s_Tale_init) := ⟨rfl, rfl, rfl, by decide +kernel, rfl, by decide +kernel, by decide +kernel⟩
theorem bd_Tale_init {P : Program} {w : World} {K : PySem.W.Frag} {mg : Str → Option Value} {base : Heap} (B : Bn K mg) (D_wishes_in : Def P w K mg base L_wishes_in "wishes_in" P_wishes_in p_wishes_in) (f : Addr) (cdv : Value) (A : Around) (outer : List Env) (st : Shared) (H : Hp) (E : XK) (hr : Room 1 (A.deeper (PyProof.Rows.envOfC "Tale.__init__" (defScope WL.s_Tale_init) st.heap.objs.size f cdv))) :
    DSs (cxOf CX0 P w K mg base N_Tale_init "Tale.__init__" (defScope WL.s_Tale_init) f cdv A outer st H E).nox (defBody WL.s_Tale_init) (g_Tale_init K) := (ds_cons (ds_sfld 0 (de_v 1) B.cls B.a_kind)
  (ds_cons (ds_sfld 0 (de_callD D_wishes_in hr (da_cons (de_v 2) da_nil)) B.cls B.a_rows)
  (ds_cons (ds_sfld 0 (de_lc (own := [(("hand" : Str), 3), (("wish" : Str), 4), (("begin" : Str), 5), (("end" : Str), 6)]) rfl sc_Tale_init.nd (di_list (de_fld3 (de_v 0) B.cls B.a_rows)) (blkOk_by (by rfl)) (fun _ _ _ _ _ => (dg_tup rfl (dg_cons (dg_name 3 sc_Tale_init.nd) (dg_cons (dg_name 4 sc_Tale_init.nd) (dg_cons (dg_name 5 sc_Tale_init.nd) (dg_cons (dg_name 6 sc_Tale_init.nd) dg_nil)))))) (fun _ _ _ _ _ => dts_nil) (fun _ _ _ _ _ => (de_ifExp (dt_is (de_v 6) de_non) de_non (de_ix (de_ix (de_v 2) (de_v 6)) de_int)))) B.cls B.a_said)
  (ds_cons (ds_sfld 0 (de_lc (own := [(("count" : Str), 7), (("hand" : Str), 3), (("wish" : Str), 4), (("begin" : Str), 5), (("end" : Str), 6)]) rfl sc_Tale_init.nd (di_enum (by rfl) B.n_enumerate (da_cons (de_fld3 (de_v 0) B.cls B.a_rows) da_nil)) (blkOk_by (by rfl)) (fun _ _ _ _ _ => (dg_tup rfl (dg_cons (dg_name 7 sc_Tale_init.nd) (dg_cons (dg_tup rfl (dg_cons (dg_name 3 sc_Tale_init.nd) (dg_cons (dg_name 4 sc_Tale_init.nd) (dg_cons (dg_name 5 sc_Tale_init.nd) (dg_cons (dg_name 6 sc_Tale_init.nd) dg_nil))))) dg_nil)))) (fun _ _ _ _ _ => (dts_one (dt_isnot (de_v 6) de_non))) (fun _ _ _ _ _ => (de_v 7))) B.cls B.a_ended)
  (ds_end (ds_sfld 0 (de_lc (own := [(("row" : Str), 8)]) rfl sc_Tale_init.nd (di_list (de_fld3 (de_v 0) B.cls B.a_rows)) (blkOk_by (by rfl)) (fun _ _ _ _ _ => (dg_name 8 sc_Tale_init.nd)) (fun _ _ _ _ _ => dts_nil) (fun _ _ _ _ _ => (de_lc (own := [(("count" : Str), 7)]) rfl sc_Tale_init.nd (di_list (de_fld3 (de_v 0) B.cls B.a_ended)) (blkOk_by (by rfl)) (fun _ _ _ _ _ => (dg_name 7 sc_Tale_init.nd)) (fun _ _ _ _ _ => (dts_one (dt_lt (de_ix (de_ix (de_fld3 (de_v 0) B.cls B.a_rows) (de_v 7)) de_int) (de_ix (de_v 8) de_int)))) (fun _ _ _ _ _ => (de_v 7))))) B.cls B.a_aheads))))))
theorem def_Tale_init {P : Program} {w : World} {K : PySem.W.Frag} {mg : Str → Option Value} {base : Heap} (B : Bn K mg) (D_wishes_in : Def P w K mg base L_wishes_in "wishes_in" P_wishes_in p_wishes_in) (len : ∀ ws n Q, p_Tale_init ws n Q → ws.length + 1 = P_Tale_init.length) (pf : ∀ ws n Q p, p_Tale_init ws n Q → (g_Tale_init K) { nx := fun m ρ => ∃ fs, ρ[0]? = some (some (.oins p (He.ga K "Tale") fs)) ∧ Q fs m, rt := fun _ _ => False } n (startD N_Tale_init (.oins p (He.ga K "Tale") [] :: ws))) : IDef P w K mg base L_Tale_init "Tale" P_Tale_init p_Tale_init :=
  mkIDef B 15 rfl (fun fd F => F.bindsN fun _ _ _ _ _ _ us hl => match us, hl with | [_, _, _], _ => rfl) (fun fd F => fn_i F sc_Tale_init len (by decide) (fun cdv A outer st H E hr => bd_Tale_init B D_wishes_in _ cdv A outer st H E hr) pf)
theorem sc_Tale_is_all : FnScope N_Tale_is_all P_Tale_is_all (defScope WL.s_Tale_is_all) := ⟨rfl, rfl, rfl, by decide +kernel, rfl, by decide +kernel, by decide +kernel⟩
theorem bd_Tale_is_all {P : Program} {w : World} {K : PySem.W.Frag} {mg : Str → Option Value} {base : Heap} (B : Bn K mg) (f : Addr) (cdv : Value) (A : Around) (outer : List Env) (st : Shared) (H : Hp) (E : XK) (hr : Room 0 (A.deeper (PyProof.Rows.envOfC "Tale.is_all" (defScope WL.s_Tale_is_all) st.heap.objs.size f cdv))) :
    DSs (cxOf CX0 P w K mg base N_Tale_is_all "Tale.is_all" (defScope WL.s_Tale_is_all) f cdv A outer st H E).nox (defBody WL.s_Tale_is_all) (g_Tale_is_all K) := (ds_end (ds_ret (de_all (by rfl) (by rfl) B.n_all (da_cons (de_lc (own := [(("count" : Str), 2)]) rfl sc_Tale_is_all.nd (di_list (de_fld3 (de_v 0) B.cls B.a_ended)) (blkOk_by (by rfl)) (fun _ _ _ _ _ => (dg_name 2 sc_Tale_is_all.nd)) (fun _ _ _ _ _ => dts_nil) (fun _ _ _ _ _ => (de_in hr (de_v 2) (de_v 1)))) da_nil))))
theorem def_Tale_is_all {P : Program} {w : World} {K : PySem.W.Frag} {mg : Str → Option Value} {base : Heap} (B : Bn K mg) (len : ∀ ws n Q, (p_Tale_is_all (He.ga K "Tale")) ws n Q → ws.length = P_Tale_is_all.length) (pf : ∀ ws n Q, (p_Tale_is_all (He.ga K "Tale")) ws n Q → (g_Tale_is_all K) { nx := fun m _ => Q (.dat .none) m, rt := Q } n (startD N_Tale_is_all ws)) : MDef P w K mg base L_Tale_is_all (He.ga K "Tale") "is_all" P_Tale_is_all (p_Tale_is_all (He.ga K "Tale")) :=
  mkMDef B 16 rfl B.m_is_all (fun fd F => F.bindsN fun _ _ _ _ _ _ us hl => match us, hl with | [_, _], _ => rfl) (fun fd F => fn_d F sc_Tale_is_all len (fun cdv A outer st H E hr => bd_Tale_is_all B _ cdv A outer st H E hr) pf)
theorem sc_Tale_behind : FnScope N_Tale_behind P_Tale_behind (defScope WL.s_Tale_behind) := ⟨rfl, rfl, rfl, by decide +kernel, rfl, by decide +kernel, by decide +kernel⟩
theorem bd_Tale_behind {P : Program} {w : World} {K : PySem.W.Frag} {mg : Str → Option Value} {base : Heap} (B : Bn K mg) (D_done : Def P w K mg base L_done "done" P_done p_done) (D_is_same : Def P w K mg base L_is_same "is_same" P_is_same p_is_same) (f : Addr) (cdv : Value) (A : Around) (outer : List Env) (st : Shared) (H : Hp) (E : XK) (hr : Room 2 (A.deeper (PyProof.Rows.envOfC "Tale.behind" (defScope WL.s_Tale_behind) st.heap.objs.size f cdv))) :
    DSs (cxOf CX0 P w K mg base N_Tale_behind "Tale.behind" (defScope WL.s_Tale_behind) f cdv A outer st H E).nox (defBody WL.s_Tale_behind) (g_Tale_behind K) := (ds_cons (ds_asg (de_v 1) (dg_tup rfl (dg_cons (dg_name (vs := [0, 1, 2, 3, 4, 5, 6, 7, 8, 9, 10, 11, 12]) 2 sc_Tale_behind.nd) (dg_cons (dg_name (vs := [0, 1, 2, 3, 4, 5, 6, 7, 8, 9, 10, 11, 12]) 3 sc_Tale_behind.nd) dg_nil))))
  (ds_cons (ds_newK 4 sc_Tale_behind.nd)
  (ds_cons (ds_for rfl (di_enum (by rfl) B.n_enumerate (da_cons (de_fld3 (de_v 0) B.cls B.a_rows) da_nil)) (dg_tup rfl (dg_cons (dg_name (vs := [0, 1, 2, 3, 4, 5, 6, 7, 8, 9, 10, 11, 12]) 5 sc_Tale_behind.nd) (dg_cons (dg_tup rfl (dg_cons (dg_name (vs := [0, 1, 2, 3, 4, 5, 6, 7, 8, 9, 10, 11, 12]) 6 sc_Tale_behind.nd) (dg_cons (dg_name (vs := [0, 1, 2, 3, 4, 5, 6, 7, 8, 9, 10, 11, 12]) 7 sc_Tale_behind.nd) (dg_cons (dg_name (vs := [0, 1, 2, 3, 4, 5, 6, 7, 8, 9, 10, 11, 12]) 8 sc_Tale_behind.nd) (dg_cons (dg_name (vs := [0, 1, 2, 3, 4, 5, 6, 7, 8, 9, 10, 11, 12]) 9 sc_Tale_behind.nd) dg_nil))))) dg_nil))) (ds_end (ds_if (dt_w (dw_and (dt_notin hr (de_v 5) (de_v 2)) (dw_and1 (dt_val (de_all (by rfl) (by rfl) B.n_all (da_cons (de_lc (own := [(("one" : Str), 12)]) rfl sc_Tale_behind.nd (di_list (de_ix (de_fld3 (de_v 0) B.cls B.a_aheads) (de_v 5))) (blkOk_by (by rfl)) (fun _ _ _ _ _ => (dg_name 12 sc_Tale_behind.nd)) (fun _ _ _ _ _ => dts_nil) (fun _ _ _ _ _ => (de_in hr (de_v 12) (de_v 2)))) da_nil)))))) (ds_cons (ds_asg (de_callD D_done hr (da_cons (de_fld3 (de_v 0) B.cls B.a_kind) (da_cons (de_v 3) (da_cons (de_v 7) da_nil)))) (dg_tup rfl (dg_cons (dg_name (vs := [0, 1, 2, 3, 4, 5, 6, 7, 8, 9, 10, 11, 12]) 10 sc_Tale_behind.nd) (dg_cons (dg_name (vs := [0, 1, 2, 3, 4, 5, 6, 7, 8, 9, 10, 11, 12]) 11 sc_Tale_behind.nd) dg_nil))))
  (ds_end (ds_if (dt_w (dw_or (dt_is (de_v 9) de_non) (dw_or1 (dt_val (de_callD D_is_same hr (da_cons (de_v 11) (da_cons (de_ix (de_fld3 (de_v 0) B.cls B.a_said) (de_v 5)) da_nil))))))) (ds_end (ds_dput 4 hr (de_v 5) (de_tup (da_cons (de_tuple (by rfl) B.n_tuple (da_cons (de_sortedI (by rfl) B.n_sorted (da_cons (de_add (de_v 2) (de_tup (da_cons (de_v 5) da_nil))) da_nil)) da_nil)) (da_cons (de_v 10) da_nil))))) ds_nil))) ds_nil)) PassesOwn.never)
  (ds_end (ds_fzK 4 (ds_ret (de_v 4)))))))
theorem def_Tale_behind {P : Program} {w : World} {K : PySem.W.Frag} {mg : Str → Option Value} {base : Heap} (B : Bn K mg) (D_done : Def P w K mg base L_done "done" P_done p_done) (D_is_same : Def P w K mg base L_is_same "is_same" P_is_same p_is_same) (len : ∀ ws n Q, (p_Tale_behind (He.ga K "Tale")) ws n Q → ws.length = P_Tale_behind.length) (pf : ∀ ws n Q, (p_Tale_behind (He.ga K "Tale")) ws n Q → (g_Tale_behind K) { nx := fun m _ => Q (.dat .none) m, rt := Q } n (startD N_Tale_behind ws)) : MDef P w K mg base L_Tale_behind (He.ga K "Tale") "behind" P_Tale_behind (p_Tale_behind (He.ga K "Tale")) :=
  mkMDef B 17 rfl B.m_behind (fun fd F => F.bindsN fun _ _ _ _ _ _ us hl => match us, hl with | [_, _], _ => rfl) (fun fd F => fn_d F sc_Tale_behind len (fun cdv A outer st H E hr => bd_Tale_behind B D_done D_is_same _ cdv A outer st H E hr) pf)
theorem sc_Tale_is_spot : FnScope N_Tale_is_spot P_Tale_is_spot (defScope WL.s_Tale_is_spot) := ⟨rfl, rfl, rfl, by decide +kernel, rfl, by decide +kernel, by decide +kernel⟩
theorem bd_Tale_is_spot {P : Program} {w : World} {K : PySem.W.Frag} {mg : Str → Option Value} {base : Heap} (B : Bn K mg) (D_is_state : Def P w K mg base L_is_state "is_state" P_is_state p_is_state) (D_is_tuple_of : Def P w K mg base L_is_tuple_of "is_tuple_of" P_is_tuple_of p_is_tuple_of) (D_is_below : Def P w K mg base L_is_below "is_below" P_is_below p_is_below) (f : Addr) (cdv : Value) (A : Around) (outer : List Env) (st : Shared) (H : Hp) (E : XK) (hr : Room 3 (A.deeper (PyProof.Rows.envOfC "Tale.is_spot" (defScope WL.s_Tale_is_spot) st.heap.objs.size f cdv))) :
    DSs (cxOf CX0 P w K mg base N_Tale_is_spot "Tale.is_spot" (defScope WL.s_Tale_is_spot) f cdv A outer st H E).nox (defBody WL.s_Tale_is_spot) (g_Tale_is_spot K) := (ds_cons (ds_if (dt_w (dw_or (dt_not (dt_val (de_callD D_is_tuple_of hr (da_cons (de_v 1) (da_cons de_int da_nil))))) (dw_or (dt_not (dt_val (de_isi (by rfl) B.n_isinstance (da_cons (de_ix (de_v 1) de_int) (da_cons (de_ty (by rfl) B.n_tuple boot_tupleT) da_nil))))) (dw_or1 (dt_not (dt_val (de_callD D_is_state hr (da_cons (de_fld3 (de_v 0) B.cls B.a_kind) (da_cons (de_ix (de_v 1) de_int) da_nil))))))))) (ds_end (ds_ret de_bl)) ds_nil)
  (ds_cons (ds_parT [2, 3] rfl (dao_cons (deo_pl (de_ix (de_v 1) de_int)) (dao_cons (deo_pl (de_len (by rfl) B.n_len (da_cons (de_fld3 (de_v 0) B.cls B.a_rows) da_nil))) dao_nil)) (pgs_name 2 sc_Tale_is_spot.nd (pgs_name 3 sc_Tale_is_spot.nd pgs_nil')))
  (ds_cons (ds_if (dt_not (dt_val (de_all (by rfl) (by rfl) B.n_all (da_cons (de_lc (own := [(("count" : Str), 4)]) rfl sc_Tale_is_spot.nd (di_tup (de_v 2)) (blkOk_by (by rfl)) (fun _ _ _ _ _ => (dg_name 4 sc_Tale_is_spot.nd)) (fun _ _ _ _ _ => dts_nil) (fun _ _ _ _ _ => (de_callD D_is_below hr (da_cons (de_v 4) (da_cons (de_v 3) da_nil))))) da_nil)))) (ds_end (ds_ret de_bl)) ds_nil)
  (ds_end (ds_ret (de_all (by rfl) (by rfl) B.n_all (da_cons (de_lc (own := [(("one" : Str), 5), (("other" : Str), 6)]) rfl sc_Tale_is_spot.nd (di_zip (by rfl) B.n_zip (da_cons (de_v 2) (da_cons (de_slice (de_v 2) (do_some de_int) do_none) da_nil))) (blkOk_by (by rfl)) (fun _ _ _ _ _ => (dg_tup rfl (dg_cons (dg_name 5 sc_Tale_is_spot.nd) (dg_cons (dg_name 6 sc_Tale_is_spot.nd) dg_nil)))) (fun _ _ _ _ _ => dts_nil) (fun _ _ _ _ _ => (de_lt (de_v 5) (de_v 6)))) da_nil)))))))
theorem def_Tale_is_spot {P : Program} {w : World} {K : PySem.W.Frag} {mg : Str → Option Value} {base : Heap} (B : Bn K mg) (D_is_state : Def P w K mg base L_is_state "is_state" P_is_state p_is_state) (D_is_tuple_of : Def P w K mg base L_is_tuple_of "is_tuple_of" P_is_tuple_of p_is_tuple_of) (D_is_below : Def P w K mg base L_is_below "is_below" P_is_below p_is_below) (len : ∀ ws n Q, (p_Tale_is_spot (He.ga K "Tale")) ws n Q → ws.length = P_Tale_is_spot.length) (pf : ∀ ws n Q, (p_Tale_is_spot (He.ga K "Tale")) ws n Q → (g_Tale_is_spot K) { nx := fun m _ => Q (.dat .none) m, rt := Q } n (startD N_Tale_is_spot ws)) : MDef P w K mg base L_Tale_is_spot (He.ga K "Tale") "is_spot" P_Tale_is_spot (p_Tale_is_spot (He.ga K "Tale")) :=
  mkMDef B 18 rfl B.m_is_spot (fun fd F => F.bindsN fun _ _ _ _ _ _ us hl => match us, hl with | [_, _], _ => rfl) (fun fd F => fn_d F sc_Tale_is_spot len (fun cdv A outer st H E hr => bd_Tale_is_spot B D_is_state D_is_tuple_of D_is_below _ cdv A outer st H E hr) pf)
theorem sc_shows_unlined : FnScope N_shows_unlined P_shows_unlined (defScope WL.s_shows_unlined) := ⟨rfl, rfl, rfl, by decide +kernel, rfl, by decide +kernel, by decide +kernel⟩
theorem bd_shows_unlined {P : Program} {w : World} {K : PySem.W.Frag} {mg : Str → Option Value} {base : Heap} (B : Bn K mg) (D_Tale_init : IDef P w K mg base L_Tale_init "Tale" P_Tale_init p_Tale_init) (D_Tale_is_spot : MDef P w K mg base L_Tale_is_spot (He.ga K "Tale") "is_spot" P_Tale_is_spot (p_Tale_is_spot (He.ga K "Tale"))) (D_first_spot : Def P w K mg base L_first_spot "first_spot" P_first_spot p_first_spot) (D_Tale_behind : MDef P w K mg base L_Tale_behind (He.ga K "Tale") "behind" P_Tale_behind (p_Tale_behind (He.ga K "Tale"))) (D_Tale_is_all : MDef P w K mg base L_Tale_is_all (He.ga K "Tale") "is_all" P_Tale_is_all (p_Tale_is_all (He.ga K "Tale"))) (f : Addr) (cdv : Value) (A : Around) (outer : List Env) (st : Shared) (H : Hp) (E : XK) (hr : Room 4 (A.deeper (PyProof.Rows.envOfC "shows_unlined" (defScope WL.s_shows_unlined) st.heap.objs.size f cdv))) :
    DSs (cxOf CX0 P w K mg base N_shows_unlined "shows_unlined" (defScope WL.s_shows_unlined) f cdv A outer st H E).nox (defBody WL.s_shows_unlined) (g_shows_unlined K) := (ds_cons (ds_set 4 sc_shows_unlined.nd (de_makeD D_Tale_init hr (da_cons (de_v 0) (da_cons (de_v 1) da_nil))))
  (ds_cons (ds_if (dt_w (dw_or (dt_not (dt_val (de_isi (by rfl) B.n_isinstance (da_cons (de_v 2) (da_cons (de_ty (by rfl) B.n_list boot_listT) da_nil))))) (dw_or1 (dt_not (dt_val (de_all (by rfl) (by rfl) B.n_all (da_cons (de_lc (own := [(("spot" : Str), 5)]) rfl sc_shows_unlined.nd (di_list (de_v 2)) (blkOk_by (by rfl)) (fun _ _ _ _ _ => (dg_name 5 sc_shows_unlined.nd)) (fun _ _ _ _ _ => dts_nil) (fun _ _ _ _ _ => (de_methD (de_v 4) D_Tale_is_spot hr (da_cons (de_v 5) da_nil)))) da_nil))))))) (ds_end (ds_ret de_bl)) ds_nil)
  (ds_cons (ds_setO 6 sc_shows_unlined.nd (deo_dcN (own := [(("spot" : Str), 5)]) hr rfl sc_shows_unlined.nd (di_list (de_v 2)) (blkOk_by (by rfl)) (fun _ _ _ _ _ => (dg_name 5 sc_shows_unlined.nd)) (fun _ _ _ _ _ => (de_v 5))))
  (ds_cons (ds_if (dt_w (dw_or (dt_ne hr (de_lenN (by rfl) B.n_len (da_cons (de_v 6) da_nil)) (de_len (by rfl) B.n_len (da_cons (de_v 2) da_nil))) (dw_or1 (dt_notinN hr (de_callD D_first_spot hr (da_cons (de_v 0) (da_cons (de_v 3) da_nil))) (de_v 6))))) (ds_end (ds_ret de_bl)) ds_nil)
  (ds_cons (ds_for rfl (di_list (de_v 2)) (dg_name (vs := [0, 1, 2, 3, 4, 5, 6, 7]) 5 sc_shows_unlined.nd) (ds_end (ds_if (dt_w (dw_or (dt_val (de_methD (de_v 4) D_Tale_is_all hr (da_cons (de_ix (de_v 5) de_int) da_nil))) (dw_or1 (dt_val (de_any (by rfl) (by rfl) B.n_any (da_cons (de_lc (own := [(("later" : Str), 7)]) rfl sc_shows_unlined.nd (di_vals (de_methD (de_v 4) D_Tale_behind hr (da_cons (de_v 5) da_nil))) (blkOk_by (by rfl)) (fun _ _ _ _ _ => (dg_name 7 sc_shows_unlined.nd)) (fun _ _ _ _ _ => dts_nil) (fun _ _ _ _ _ => (de_notinN hr (de_v 7) (de_v 6)))) da_nil)))))) (ds_end (ds_ret de_bl)) ds_nil)) PassesOwn.never)
  (ds_end (ds_ret de_bl)))))))
theorem def_shows_unlined {P : Program} {w : World} {K : PySem.W.Frag} {mg : Str → Option Value} {base : Heap} (B : Bn K mg) (D_Tale_init : IDef P w K mg base L_Tale_init "Tale" P_Tale_init p_Tale_init) (D_Tale_is_spot : MDef P w K mg base L_Tale_is_spot (He.ga K "Tale") "is_spot" P_Tale_is_spot (p_Tale_is_spot (He.ga K "Tale"))) (D_first_spot : Def P w K mg base L_first_spot "first_spot" P_first_spot p_first_spot) (D_Tale_behind : MDef P w K mg base L_Tale_behind (He.ga K "Tale") "behind" P_Tale_behind (p_Tale_behind (He.ga K "Tale"))) (D_Tale_is_all : MDef P w K mg base L_Tale_is_all (He.ga K "Tale") "is_all" P_Tale_is_all (p_Tale_is_all (He.ga K "Tale"))) (len : ∀ ws n Q, p_shows_unlined ws n Q → ws.length = P_shows_unlined.length) (pf : ∀ ws n Q, p_shows_unlined ws n Q → (g_shows_unlined K) { nx := fun m _ => Q (.dat .none) m, rt := Q } n (startD N_shows_unlined ws)) : KDef P w K mg base L_shows_unlined "shows_unlined" P_shows_unlined 3 ["first"] p_shows_unlined :=
  mkKDef B 19 rfl B.g_shows_unlined (fun _ _ _ _ _ _ us ws hl hl2 => match us, ws, hl, hl2 with | [_, _, _], [_], _, _ => rfl) (fun fd F => fn_d F sc_shows_unlined len (fun cdv A outer st H E hr => bd_shows_unlined B D_Tale_init D_Tale_is_spot D_first_spot D_Tale_behind D_Tale_is_all _ cdv A outer st H E hr) pf)
theorem sc_shows_order : FnScope N_shows_order P_shows_order (defScope WL.s_shows_order) := ⟨rfl, rfl, rfl, by decide +kernel, rfl, by decide +kernel, by decide +kernel⟩
theorem bd_shows_order {P : Program} {w : World} {K : PySem.W.Frag} {mg : Str → Option Value} {base : Heap} (B : Bn K mg) (D_first_spot : Def P w K mg base L_first_spot "first_spot" P_first_spot p_first_spot) (D_Tale_init : IDef P w K mg base L_Tale_init "Tale" P_Tale_init p_Tale_init) (D_is_below : Def P w K mg base L_is_below "is_below" P_is_below p_is_below) (D_Tale_is_all : MDef P w K mg base L_Tale_is_all (He.ga K "Tale") "is_all" P_Tale_is_all (p_Tale_is_all (He.ga K "Tale"))) (D_Tale_behind : MDef P w K mg base L_Tale_behind (He.ga K "Tale") "behind" P_Tale_behind (p_Tale_behind (He.ga K "Tale"))) (f : Addr) (cdv : Value) (A : Around) (outer : List Env) (st : Shared) (H : Hp) (E : XK) (hr : Room 3 (A.deeper (PyProof.Rows.envOfC "shows_order" (defScope WL.s_shows_order) st.heap.objs.size f cdv))) :
    DSs (cxOf CX0 P w K mg base N_shows_order "shows_order" (defScope WL.s_shows_order) f cdv A outer st H E).nox (defBody WL.s_shows_order) (g_shows_order K) := (ds_cons (ds_parT [4, 5] rfl (dao_cons (deo_pl (de_makeD D_Tale_init hr (da_cons (de_v 0) (da_cons (de_v 1) da_nil)))) (dao_cons (deo_pl (de_callD D_first_spot hr (da_cons (de_v 0) (da_cons (de_v 3) da_nil)))) dao_nil)) (pgs_name 4 sc_shows_order.nd (pgs_name 5 sc_shows_order.nd pgs_nil')))
  (ds_cons (ds_if (dt_w (dw_or (dt_not (dt_val (de_isi (by rfl) B.n_isinstance (da_cons (de_v 2) (da_cons (de_ty (by rfl) B.n_list boot_listT) da_nil))))) (dw_or1 (dt_not (dt_val (de_all (by rfl) (by rfl) B.n_all (da_cons (de_lc (own := [(("count" : Str), 6)]) rfl sc_shows_order.nd (di_list (de_v 2)) (blkOk_by (by rfl)) (fun _ _ _ _ _ => (dg_name 6 sc_shows_order.nd)) (fun _ _ _ _ _ => dts_nil) (fun _ _ _ _ _ => (de_callD D_is_below hr (da_cons (de_v 6) (da_cons (de_len (by rfl) B.n_len (da_cons (de_fld3 (de_v 4) B.cls B.a_rows) da_nil)) da_nil))))) da_nil))))))) (ds_end (ds_ret de_bl)) ds_nil)
  (ds_cons (ds_if (dt_w (dw_or (dt_ne hr (de_lenSet (by rfl) (by rfl) B.n_len (by rfl) B.n_set (de_v 2)) (de_len (by rfl) B.n_len (da_cons (de_v 2) da_nil))) (dw_or1 (dt_not (dt_val (de_methD (de_v 4) D_Tale_is_all hr (da_cons (de_v 2) da_nil))))))) (ds_end (ds_ret de_bl)) ds_nil)
  (ds_cons (ds_for rfl (di_list (de_v 2)) (dg_name (vs := [0, 1, 2, 3, 4, 5, 6, 7]) 6 sc_shows_order.nd) (ds_cons (ds_set 7 sc_shows_order.nd (de_methD (de_v 4) D_Tale_behind hr (da_cons (de_v 5) da_nil)))
  (ds_cons (ds_if (dt_notin hr (de_v 6) (de_v 7)) (ds_end (ds_ret de_bl)) ds_nil)
  (ds_end (ds_set 5 sc_shows_order.nd (de_dget hr (de_v 7) (de_v 6)))))) PassesOwn.never)
  (ds_end (ds_ret de_bl))))))
theorem def_shows_order {P : Program} {w : World} {K : PySem.W.Frag} {mg : Str → Option Value} {base : Heap} (B : Bn K mg) (D_first_spot : Def P w K mg base L_first_spot "first_spot" P_first_spot p_first_spot) (D_Tale_init : IDef P w K mg base L_Tale_init "Tale" P_Tale_init p_Tale_init) (D_is_below : Def P w K mg base L_is_below "is_below" P_is_below p_is_below) (D_Tale_is_all : MDef P w K mg base L_Tale_is_all (He.ga K "Tale") "is_all" P_Tale_is_all (p_Tale_is_all (He.ga K "Tale"))) (D_Tale_behind : MDef P w K mg base L_Tale_behind (He.ga K "Tale") "behind" P_Tale_behind (p_Tale_behind (He.ga K "Tale"))) (len : ∀ ws n Q, p_shows_order ws n Q → ws.length = P_shows_order.length) (pf : ∀ ws n Q, p_shows_order ws n Q → (g_shows_order K) { nx := fun m _ => Q (.dat .none) m, rt := Q } n (startD N_shows_order ws)) : KDef P w K mg base L_shows_order "shows_order" P_shows_order 3 ["first"] p_shows_order :=
  mkKDef B 20 rfl B.g_shows_order (fun _ _ _ _ _ _ us ws hl hl2 => match us, ws, hl, hl2 with | [_, _, _], [_], _, _ => rfl) (fun fd F => fn_d F sc_shows_order len (fun cdv A outer st H E hr => bd_shows_order B D_first_spot D_Tale_init D_is_below D_Tale_is_all D_Tale_behind _ cdv A outer st H E hr) pf)
theorem sc_law_cells : FnScope N_law_cells P_law_cells (defScope WL.s_law_cells) := ⟨rfl, rfl, rfl, by decide +kernel, rfl, by decide +kernel, by decide +kernel⟩
theorem bd_law_cells {P : Program} {w : World} {K : PySem.W.Frag} {mg : Str → Option Value} {base : Heap} (B : Bn K mg) (f : Addr) (cdv : Value) (A : Around) (outer : List Env) (st : Shared) (H : Hp) (E : XK) (hr : Room 0 (A.deeper (PyProof.Rows.envOfC "_law_cells" (defScope WL.s_law_cells) st.heap.objs.size f cdv))) :
    DSs (cxOf CX0 P w K mg base N_law_cells "_law_cells" (defScope WL.s_law_cells) f cdv A outer st H E).nox (defBody WL.s_law_cells) (g_law_cells) := (ds_cons (ds_setO 2 sc_law_cells.nd (deo_orL (deo_list (by rfl) B.n_list (da_cons (de_slice (de_v 0) do_none (do_some (de_v 1))) da_nil)) (deo_one (deo_lst (da_cons de_int da_nil)))))
  (ds_cons (ds_for rfl (di_enum (by rfl) B.n_enumerate (da_cons (de_slice (de_v 0) (do_some (de_v 1)) (do_some de_int)) da_nil)) (dg_tup rfl (dg_cons (dg_name (vs := [0, 1, 2, 3, 4]) 3 sc_law_cells.nd) (dg_cons (dg_name (vs := [0, 1, 2, 3, 4]) 4 sc_law_cells.nd) dg_nil))) (ds_end (ds_put 2 (de_mod (de_v 3) (de_v 1)) (de_add (de_ix (de_v 2) (de_mod (de_v 3) (de_v 1))) (de_mul (de_v 4) (de_add (de_v 3) de_int))))) PassesOwn.never)
  (ds_end (ds_fzL 2 (ds_ret (de_v 2))))))
theorem def_law_cells {P : Program} {w : World} {K : PySem.W.Frag} {mg : Str → Option Value} {base : Heap} (B : Bn K mg) (len : ∀ ws n Q, p_law_cells ws n Q → ws.length = P_law_cells.length) (pf : ∀ ws n Q, p_law_cells ws n Q → (g_law_cells) { nx := fun m _ => Q (.dat .none) m, rt := Q } n (startD N_law_cells ws)) : Def P w K mg base L_law_cells "_law_cells" P_law_cells p_law_cells :=
  mkDef B 21 rfl B.g_law_cells (fun fd F => F.bindsN fun _ _ _ _ _ _ us hl => match us, hl with | [_, _], _ => rfl) (fun fd F => fn_d F sc_law_cells len (fun cdv A outer st H E hr => bd_law_cells B _ cdv A outer st H E hr) pf)
theorem sc_law_box : FnScope N_law_box P_law_box (defScope WL.s_law_box) := ⟨rfl, rfl, rfl, by decide +kernel, rfl, by decide +kernel, by decide +kernel⟩
theorem bd_law_box {P : Program} {w : World} {K : PySem.W.Frag} {mg : Str → Option Value} {base : Heap} (B : Bn K mg) (f : Addr) (cdv : Value) (A : Around) (outer : List Env) (st : Shared) (H : Hp) (E : XK) (hr : Room 0 (A.deeper (PyProof.Rows.envOfC "_law_box" (defScope WL.s_law_box) st.heap.objs.size f cdv))) :
    DS (cxOf CX0 P w K mg base N_law_box "_law_box" (defScope WL.s_law_box) f cdv A outer st H E).nox (bodyAt WL.s_law_box 0) g1_law_box ∧ DEo (cxOf CX0 P w K mg base N_law_box "_law_box" (defScope WL.s_law_box) f cdv A outer st H E).nox (retE (bodyAt WL.s_law_box 1)) (g_law_box) := ⟨(ds_set 2 sc_law_box.nd (de_ix (de_v 0) (de_v 1))), (deo_lst (da_cons (de_mul (de_abs (by rfl) B.n_abs (da_cons (de_v 2) da_nil)) (de_intB (by rfl) B.n_int (da_cons (de_ge (de_abs (by rfl) B.n_abs (da_cons (de_v 2) da_nil)) (de_pow de_int de_int)) da_nil))) (da_cons (de_add (de_add (de_mod (de_v 2) de_int) (de_mul de_int (de_v 1))) de_int) (da_cons de_int da_nil))))⟩
theorem def_law_box {P : Program} {w : World} {K : PySem.W.Frag} {mg : Str → Option Value} {base : Heap} (B : Bn K mg) (len : ∀ ws n Q, p_law_box ws n Q → ws.length = P_law_box.length) (pf : ∀ ws n Q, p_law_box ws n Q → g1_law_box { nx := fun m ρ => (g_law_box) m ρ Q, rt := fun _ _ => False } n (startD N_law_box ws)) : ODef P w K mg base L_law_box "_law_box" P_law_box p_law_box :=
  mkODef B 22 rfl B.g_law_box (fun fd F => F.bindsN fun _ _ _ _ _ _ us hl => match us, hl with | [_, _], _ => rfl) (fun fd F => fn_o (st1 := bodyAt WL.s_law_box 0) (e := retE (bodyAt WL.s_law_box 1)) (rpos := retP (bodyAt WL.s_law_box 1)) F rfl sc_law_box len (fun cdv A outer st H E hr => bd_law_box B _ cdv A outer st H E hr) pf)
theorem sc_law_take : FnScope N_law_take P_law_take (defScope WL.s_law_take) := ⟨rfl, rfl, rfl, by decide +kernel, rfl, by decide +kernel, by decide +kernel⟩
theorem bd_law_take {P : Program} {w : World} {K : PySem.W.Frag} {mg : Str → Option Value} {base : Heap} (B : Bn K mg) (f : Addr) (cdv : Value) (A : Around) (outer : List Env) (st : Shared) (H : Hp) (E : XK) (hr : Room 0 (A.deeper (PyProof.Rows.envOfC "_law_take" (defScope WL.s_law_take) st.heap.objs.size f cdv))) :
    DSs (cxOf CX0 P w K mg base N_law_take "_law_take" (defScope WL.s_law_take) f cdv A outer st H E).nox (defBody WL.s_law_take) (g_law_take) := (ds_cons (ds_if (dt_gt (de_box 0 0) de_int) (ds_cons (ds_boxDiv 0 2 rfl sc_law_take.nd (by rfl) B.n_divmod (de_v 1))
  (ds_end (ds_ret (de_v 2)))) ds_nil)
  (ds_cons (ds_boxPut 0 (de_add (de_box 0 2) de_int))
  (ds_cons (ds_set 3 sc_law_take.nd (de_mod (de_mul (de_add (de_add (de_mod (de_box 0 1) de_int) (de_mul (de_mul (de_box 0 2) (de_box 0 2)) de_int)) de_int) de_int) de_int))
  (ds_cons (ds_set 4 sc_law_take.nd (de_mod (de_add (de_add (de_mul (de_v 3) (de_add (de_mod (de_v 3) de_int) de_int)) (de_fdiv (de_box 0 1) de_int)) (de_box 0 2)) de_int))
  (ds_end (ds_ret (de_mod (de_fdiv (de_mod (de_add (de_mul (de_v 4) de_int) (de_v 3)) de_int) de_int) (de_v 1))))))))
theorem def_law_take {P : Program} {w : World} {K : PySem.W.Frag} {mg : Str → Option Value} {base : Heap} (B : Bn K mg) (len : ∀ ws n Q, p_law_take ws n Q → ws.length = P_law_take.length) (pf : ∀ ws n Q, p_law_take ws n Q → (g_law_take) { nx := fun m _ => Q (.dat .none) m, rt := Q } n (startD N_law_take ws)) : Def P w K mg base L_law_take "_law_take" P_law_take p_law_take :=
  mkDef B 23 rfl B.g_law_take (fun fd F => F.bindsN fun _ _ _ _ _ _ us hl => match us, hl with | [_, _], _ => rfl) (fun fd F => fn_d F sc_law_take len (fun cdv A outer st H E hr => bd_law_take B _ cdv A outer st H E hr) pf)
theorem sc_law_one_of : FnScope N_law_one_of P_law_one_of (defScope WL.s_law_one_of) := ⟨rfl, rfl, rfl, by decide +kernel, rfl, by decide +kernel, by decide +kernel⟩
theorem bd_law_one_of {P : Program} {w : World} {K : PySem.W.Frag} {mg : Str → Option Value} {base : Heap} (B : Bn K mg) (D_law_take : Def P w K mg base L_law_take "_law_take" P_law_take p_law_take) (f : Addr) (cdv : Value) (A : Around) (outer : List Env) (st : Shared) (H : Hp) (E : XK) (hr : Room 1 (A.deeper (PyProof.Rows.envOfC "_law_one_of" (defScope WL.s_law_one_of) st.heap.objs.size f cdv))) :
    DSs (cxOf CX0 P w K mg base N_law_one_of "_law_one_of" (defScope WL.s_law_one_of) f cdv A outer st H E).nox (defBody WL.s_law_one_of) (g_law_one_of) := (ds_end (ds_ret (de_ix (de_v 1) (de_callD D_law_take hr (da_cons (de_v 0) (da_cons (de_len (by rfl) B.n_len (da_cons (de_v 1) da_nil)) da_nil))))))
theorem def_law_one_of {P : Program} {w : World} {K : PySem.W.Frag} {mg : Str → Option Value} {base : Heap} (B : Bn K mg) (D_law_take : Def P w K mg base L_law_take "_law_take" P_law_take p_law_take) (len : ∀ ws n Q, p_law_one_of ws n Q → ws.length = P_law_one_of.length) (pf : ∀ ws n Q, p_law_one_of ws n Q → (g_law_one_of) { nx := fun m _ => Q (.dat .none) m, rt := Q } n (startD N_law_one_of ws)) : Def P w K mg base L_law_one_of "_law_one_of" P_law_one_of p_law_one_of :=
  mkDef B 24 rfl B.g_law_one_of (fun fd F => F.bindsN fun _ _ _ _ _ _ us hl => match us, hl with | [_, _], _ => rfl) (fun fd F => fn_d F sc_law_one_of len (fun cdv A outer st H E hr => bd_law_one_of B D_law_take _ cdv A outer st H E hr) pf)
theorem sc_law_number : FnScope N_law_number P_law_number (defScope WL.s_law_number) := ⟨rfl, rfl, rfl, by decide +kernel, rfl, by decide +kernel, by decide +kernel⟩
theorem bd_law_number {P : Program} {w : World} {K : PySem.W.Frag} {mg : Str → Option Value} {base : Heap} (B : Bn K mg) (D_law_take : Def P w K mg base L_law_take "_law_take" P_law_take p_law_take) (f : Addr) (cdv : Value) (A : Around) (outer : List Env) (st : Shared) (H : Hp) (E : XK) (hr : Room 1 (A.deeper (PyProof.Rows.envOfC "_law_number" (defScope WL.s_law_number) st.heap.objs.size f cdv))) :
    DSs (cxOf CX0 P w K mg base N_law_number "_law_number" (defScope WL.s_law_number) f cdv A outer st H E).nox (defBody WL.s_law_number) (g_law_number) := (ds_cons (ds_set 1 sc_law_number.nd (de_lst (da_cons (de_callD D_law_take hr (da_cons (de_v 0) (da_cons de_int da_nil))) (da_cons (de_sub (de_callD D_law_take hr (da_cons (de_v 0) (da_cons de_int da_nil))) de_int) (da_cons (de_ix (de_lst (da_cons de_int (da_cons (de_neg de_int) da_nil))) (de_callD D_law_take hr (da_cons (de_v 0) (da_cons de_int da_nil)))) da_nil)))))
  (ds_end (ds_ret (de_ix (de_v 1) (de_ix (de_lst (da_cons de_int (da_cons de_int (da_cons de_int (da_cons de_int (da_cons de_int (da_cons de_int da_nil))))))) (de_callD D_law_take hr (da_cons (de_v 0) (da_cons de_int da_nil))))))))
theorem def_law_number {P : Program} {w : World} {K : PySem.W.Frag} {mg : Str → Option Value} {base : Heap} (B : Bn K mg) (D_law_take : Def P w K mg base L_law_take "_law_take" P_law_take p_law_take) (len : ∀ ws n Q, p_law_number ws n Q → ws.length = P_law_number.length) (pf : ∀ ws n Q, p_law_number ws n Q → (g_law_number) { nx := fun m _ => Q (.dat .none) m, rt := Q } n (startD N_law_number ws)) : Def P w K mg base L_law_number "_law_number" P_law_number p_law_number :=
  mkDef B 25 rfl B.g_law_number (fun fd F => F.bindsN fun _ _ _ _ _ _ us hl => match us, hl with | [_], _ => rfl) (fun fd F => fn_d F sc_law_number len (fun cdv A outer st H E hr => bd_law_number B D_law_take _ cdv A outer st H E hr) pf)
theorem sc_law_keys : FnScope N_law_keys P_law_keys (defScope WL.s_law_keys) := ⟨rfl, rfl, rfl, by decide +kernel, rfl, by decide +kernel, by decide +kernel⟩
theorem bd_law_keys {P : Program} {w : World} {K : PySem.W.Frag} {mg : Str → Option Value} {base : Heap} (B : Bn K mg) (D_law_take : Def P w K mg base L_law_take "_law_take" P_law_take p_law_take) (f : Addr) (cdv : Value) (A : Around) (outer : List Env) (st : Shared) (H : Hp) (E : XK) (hr : Room 1 (A.deeper (PyProof.Rows.envOfC "_law_keys" (defScope WL.s_law_keys) st.heap.objs.size f cdv))) :
    DSs (cxOf CX0 P w K mg base N_law_keys "_law_keys" (defScope WL.s_law_keys) f cdv A outer st H E).nox (defBody WL.s_law_keys) (g_law_keys) := (ds_cons (ds_set 1 sc_law_keys.nd de_str)
  (ds_cons (ds_par2 2 3 rfl sc_law_keys.nd (dao_cons (deo_pl (de_mulA (de_ix (de_v 1) (de_callD D_law_take hr (da_cons (de_v 0) (da_cons de_int da_nil)))) (de_callD D_law_take hr (da_cons (de_v 0) (da_cons de_int da_nil))))) (dao_cons (deo_pl (de_callD D_law_take hr (da_cons (de_v 0) (da_cons de_int da_nil)))) dao_nil)) (by rfl))
  (ds_end (ds_ret (de_lst (da_cons (de_add (de_v 2) (de_ix (de_v 1) (de_v 3))) (da_cons (de_add (de_v 2) (de_ix (de_v 1) (de_mod (de_add (de_add (de_v 3) de_int) (de_callD D_law_take hr (da_cons (de_v 0) (da_cons de_int da_nil)))) de_int))) da_nil)))))))
theorem def_law_keys {P : Program} {w : World} {K : PySem.W.Frag} {mg : Str → Option Value} {base : Heap} (B : Bn K mg) (D_law_take : Def P w K mg base L_law_take "_law_take" P_law_take p_law_take) (len : ∀ ws n Q, p_law_keys ws n Q → ws.length = P_law_keys.length) (pf : ∀ ws n Q, p_law_keys ws n Q → (g_law_keys) { nx := fun m _ => Q (.dat .none) m, rt := Q } n (startD N_law_keys ws)) : Def P w K mg base L_law_keys "_law_keys" P_law_keys p_law_keys :=
  mkDef B 26 rfl B.g_law_keys (fun fd F => F.bindsN fun _ _ _ _ _ _ us hl => match us, hl with | [_], _ => rfl) (fun fd F => fn_d F sc_law_keys len (fun cdv A outer st H E hr => bd_law_keys B D_law_take _ cdv A outer st H E hr) pf)
theorem sc_law_wish : FnScope N_law_wish P_law_wish (defScope WL.s_law_wish) := ⟨rfl, rfl, rfl, by decide +kernel, rfl, by decide +kernel, by decide +kernel⟩
theorem bd_law_wish {P : Program} {w : World} {K : PySem.W.Frag} {mg : Str → Option Value} {base : Heap} (B : Bn K mg) (D_law_one_of : Def P w K mg base L_law_one_of "_law_one_of" P_law_one_of p_law_one_of) (D_law_number : Def P w K mg base L_law_number "_law_number" P_law_number p_law_number) (D_law_take : Def P w K mg base L_law_take "_law_take" P_law_take p_law_take) (f : Addr) (cdv : Value) (A : Around) (outer : List Env) (st : Shared) (H : Hp) (E : XK) (hr : Room 2 (A.deeper (PyProof.Rows.envOfC "_law_wish" (defScope WL.s_law_wish) st.heap.objs.size f cdv))) :
    DSs (cxOf CX0 P w K mg base N_law_wish "_law_wish" (defScope WL.s_law_wish) f cdv A outer st H E).nox (defBody WL.s_law_wish) (g_law_wish) := (ds_cons (ds_if (dt_eq hr (de_v 1) de_str) (ds_cons (ds_set 3 sc_law_wish.nd (de_callD D_law_one_of hr (da_cons (de_v 0) (da_cons (de_lst (da_cons de_str (da_cons de_str (da_cons de_str (da_cons de_str da_nil))))) da_nil))))
  (ds_end (ds_ret (de_ifExp (dt_eq hr (de_v 3) de_str) (de_tup (da_cons (de_v 3) da_nil)) (de_tup (da_cons (de_v 3) (da_cons (de_callD D_law_number hr (da_cons (de_v 0) da_nil)) da_nil))))))) ds_nil)
  (ds_cons (ds_if (dt_eq hr (de_v 1) de_str) (ds_cons (ds_set 4 sc_law_wish.nd (de_tup (da_cons (de_callD D_law_one_of hr (da_cons (de_v 0) (da_cons (de_lst (da_cons de_str (da_cons de_str (da_cons de_str (da_cons de_str (da_cons de_str da_nil)))))) da_nil))) (da_cons (de_callD D_law_one_of hr (da_cons (de_v 0) (da_cons (de_v 2) da_nil))) da_nil))))
  (ds_end (ds_ret (de_ifExp (dt_eq hr (de_ix (de_v 4) de_int) de_str) (de_add (de_v 4) (de_tup (da_cons (de_callD D_law_number hr (da_cons (de_v 0) da_nil)) da_nil))) (de_v 4))))) ds_nil)
  (ds_end (ds_ret (de_ifExp (dt_eq hr (de_callD D_law_take hr (da_cons (de_v 0) (da_cons de_int da_nil))) de_int) (de_tup (da_cons de_str (da_cons (de_callD D_law_number hr (da_cons (de_v 0) da_nil)) da_nil))) (de_tup (da_cons de_str da_nil)))))))
theorem def_law_wish {P : Program} {w : World} {K : PySem.W.Frag} {mg : Str → Option Value} {base : Heap} (B : Bn K mg) (D_law_one_of : Def P w K mg base L_law_one_of "_law_one_of" P_law_one_of p_law_one_of) (D_law_number : Def P w K mg base L_law_number "_law_number" P_law_number p_law_number) (D_law_take : Def P w K mg base L_law_take "_law_take" P_law_take p_law_take) (len : ∀ ws n Q, p_law_wish ws n Q → ws.length = P_law_wish.length) (pf : ∀ ws n Q, p_law_wish ws n Q → (g_law_wish) { nx := fun m _ => Q (.dat .none) m, rt := Q } n (startD N_law_wish ws)) : Def P w K mg base L_law_wish "_law_wish" P_law_wish p_law_wish :=
  mkDef B 27 rfl B.g_law_wish (fun fd F => F.bindsN fun _ _ _ _ _ _ us hl => match us, hl with | [_, _, _], _ => rfl) (fun fd F => fn_d F sc_law_wish len (fun cdv A outer st H E hr => bd_law_wish B D_law_one_of D_law_number D_law_take _ cdv A outer st H E hr) pf)
theorem sc_law_origin : FnScope N_law_origin P_law_origin (defScope WL.s_law_origin) := ⟨rfl, rfl, rfl, by decide +kernel, rfl, by decide +kernel, by decide +kernel⟩
theorem bd_law_origin {P : Program} {w : World} {K : PySem.W.Frag} {mg : Str → Option Value} {base : Heap} (B : Bn K mg) (D_law_number : Def P w K mg base L_law_number "_law_number" P_law_number p_law_number) (D_law_take : Def P w K mg base L_law_take "_law_take" P_law_take p_law_take) (f : Addr) (cdv : Value) (A : Around) (outer : List Env) (st : Shared) (H : Hp) (E : XK) (hr : Room 2 (A.deeper (PyProof.Rows.envOfC "_law_origin" (defScope WL.s_law_origin) st.heap.objs.size f cdv))) :
    DSs (cxOf CX0 P w K mg base N_law_origin "_law_origin" (defScope WL.s_law_origin) f cdv A outer st H E).nox (defBody WL.s_law_origin) (g_law_origin) := (ds_cons (ds_if (dt_eq hr (de_v 1) de_str) (ds_end (ds_ret (de_callD D_law_number hr (da_cons (de_v 0) da_nil)))) ds_nil)
  (ds_cons (ds_if (dt_eq hr (de_v 1) de_str) (ds_end (ds_ret (de_tuple (by rfl) B.n_tuple (da_cons (de_lc (own := [(("_law_key" : Str), 3)]) rfl sc_law_origin.nd (di_list (de_sortedS (by rfl) B.n_sorted (da_cons (de_v 2) da_nil))) (blkOk_by (by rfl)) (fun _ _ _ _ _ => (dg_name 3 sc_law_origin.nd)) (fun _ _ _ _ _ => (dts_one (dt_eq hr (de_callD D_law_take hr (da_cons (de_v 0) (da_cons de_int da_nil))) de_int))) (fun _ _ _ _ _ => (de_tup (da_cons (de_v 3) (da_cons (de_callD D_law_number hr (da_cons (de_v 0) da_nil)) da_nil))))) da_nil)))) ds_nil)
  (ds_end (ds_ret (de_tuple (by rfl) B.n_tuple (da_cons (de_lc (own := [(("_law_turn" : Str), 4)]) rfl sc_law_origin.nd (di_range (by rfl) B.n_range (da_cons (de_callD D_law_take hr (da_cons (de_v 0) (da_cons de_int da_nil))) da_nil)) (blkOk_by (by rfl)) (fun _ _ _ _ _ => (dg_name 4 sc_law_origin.nd)) (fun _ _ _ _ _ => dts_nil) (fun _ _ _ _ _ => (de_callD D_law_number hr (da_cons (de_v 0) da_nil)))) da_nil))))))
theorem def_law_origin {P : Program} {w : World} {K : PySem.W.Frag} {mg : Str → Option Value} {base : Heap} (B : Bn K mg) (D_law_number : Def P w K mg base L_law_number "_law_number" P_law_number p_law_number) (D_law_take : Def P w K mg base L_law_take "_law_take" P_law_take p_law_take) (len : ∀ ws n Q, p_law_origin ws n Q → ws.length = P_law_origin.length) (pf : ∀ ws n Q, p_law_origin ws n Q → (g_law_origin) { nx := fun m _ => Q (.dat .none) m, rt := Q } n (startD N_law_origin ws)) : Def P w K mg base L_law_origin "_law_origin" P_law_origin p_law_origin :=
  mkDef B 28 rfl B.g_law_origin (fun fd F => F.bindsN fun _ _ _ _ _ _ us hl => match us, hl with | [_, _, _], _ => rfl) (fun fd F => fn_d F sc_law_origin len (fun cdv A outer st H E hr => bd_law_origin B D_law_number D_law_take _ cdv A outer st H E hr) pf)
theorem sc_law_did : FnScope N_law_did P_law_did (defScope WL.s_law_did) := ⟨rfl, rfl, rfl, by decide +kernel, rfl, by decide +kernel, by decide +kernel⟩
theorem bd_law_did {P : Program} {w : World} {K : PySem.W.Frag} {mg : Str → Option Value} {base : Heap} (B : Bn K mg) (f : Addr) (cdv : Value) (A : Around) (outer : List Env) (st : Shared) (H : Hp) (E : XK) (hr : Room 0 (A.deeper (PyProof.Rows.envOfC "_law_did" (defScope WL.s_law_did) st.heap.objs.size f cdv))) :
    DSs (cxOf CX0 P w K mg base N_law_did "_law_did" (defScope WL.s_law_did) f cdv A outer st H E).nox (defBody WL.s_law_did) (g_law_did) := (ds_cons (ds_set 3 sc_law_did.nd (de_ix (de_v 2) de_int))
  (ds_cons (ds_if (dt_eq hr (de_v 0) de_str) (ds_cons (ds_if (dt_eq hr (de_v 3) de_str) (ds_end (ds_ret (de_tup (da_cons (de_v 1) (da_cons (de_v 1) da_nil))))) ds_nil)
  (ds_end (ds_ret (de_tup (da_cons (de_ifExp (dt_eq hr (de_v 3) de_str) (de_add (de_v 1) (de_ix (de_v 2) de_int)) (de_max (by rfl) (by rfl) B.n_max (da_cons (de_v 1) (da_cons (de_ix (de_v 2) de_int) da_nil)))) (da_cons (de_v 1) da_nil)))))) ds_nil)
  (ds_cons (ds_if (dt_eq hr (de_v 3) de_str) (ds_end (ds_ret (de_tup (da_cons (de_add (de_v 1) (de_tup (da_cons (de_ix (de_v 2) de_int) da_nil))) (da_cons de_bl da_nil))))) ds_nil)
  (ds_cons (ds_if (dt_eq hr (de_v 3) de_str) (ds_cons (ds_if (dt_eq hr (de_v 1) (de_tup da_nil)) (ds_end (ds_ret (de_tup (da_cons (de_tup da_nil) (da_cons de_non da_nil))))) ds_nil)
  (ds_end (ds_ret (de_ifExp (dt_eq hr (de_v 0) de_str) (de_tup (da_cons (de_slice (de_v 1) do_none (do_some (de_neg de_int))) (da_cons (de_ix (de_v 1) (de_neg de_int)) da_nil))) (de_tup (da_cons (de_slice (de_v 1) (do_some de_int) do_none) (da_cons (de_ix (de_v 1) de_int) da_nil))))))) ds_nil)
  (ds_cons (ds_setO 4 sc_law_did.nd (deo_dict (by rfl) (by rfl) B.n_dict (da_cons (de_v 1) da_nil)))
  (ds_cons (ds_set 5 sc_law_did.nd (de_get2 hr (de_v 4) (de_ix (de_v 2) de_int)))
  (ds_cons (ds_if (dt_eq hr (de_v 3) de_str) (ds_end (ds_dput 4 hr (de_ix (de_v 2) de_int) (de_ix (de_v 2) de_int))) ds_nil)
  (ds_cons (ds_if (dt_eq hr (de_v 3) de_str) (ds_end (ds_pop2 4 (de_ix (de_v 2) de_int))) ds_nil)
  (ds_end (ds_ret (de_tup (da_cons (de_tuple (by rfl) B.n_tuple (da_cons (de_sortedIt 4 (by rfl) (by rfl) B.n_sorted) da_nil)) (da_cons (de_v 5) da_nil)))))))))))))
theorem def_law_did {P : Program} {w : World} {K : PySem.W.Frag} {mg : Str → Option Value} {base : Heap} (B : Bn K mg) (len : ∀ ws n Q, p_law_did ws n Q → ws.length = P_law_did.length) (pf : ∀ ws n Q, p_law_did ws n Q → (g_law_did) { nx := fun m _ => Q (.dat .none) m, rt := Q } n (startD N_law_did ws)) : Def P w K mg base L_law_did "_law_did" P_law_did p_law_did :=
  mkDef B 29 rfl B.g_law_did (fun fd F => F.bindsN fun _ _ _ _ _ _ us hl => match us, hl with | [_, _, _], _ => rfl) (fun fd F => fn_d F sc_law_did len (fun cdv A outer st H E hr => bd_law_did B _ cdv A outer st H E hr) pf)
theorem sc_law_tale : FnScope N_law_tale P_law_tale (defScope WL.s_law_tale) := ⟨rfl, rfl, rfl, by decide +kernel, rfl, by decide +kernel, by decide +kernel⟩
theorem bd_law_tale {P : Program} {w : World} {K : PySem.W.Frag} {mg : Str → Option Value} {base : Heap} (B : Bn K mg) (D_law_take : Def P w K mg base L_law_take "_law_take" P_law_take p_law_take) (D_law_one_of : Def P w K mg base L_law_one_of "_law_one_of" P_law_one_of p_law_one_of) (D_law_wish : Def P w K mg base L_law_wish "_law_wish" P_law_wish p_law_wish) (D_law_did : Def P w K mg base L_law_did "_law_did" P_law_did p_law_did) (f : Addr) (cdv : Value) (A : Around) (outer : List Env) (st : Shared) (H : Hp) (E : XK) (hr : Room 3 (A.deeper (PyProof.Rows.envOfC "_law_tale" (defScope WL.s_law_tale) st.heap.objs.size f cdv))) :
    DSs (cxOf CX0 P w K mg base N_law_tale "_law_tale" (defScope WL.s_law_tale) f cdv A outer st H E).nox (defBody WL.s_law_tale) (g_law_tale) := (ds_cons (ds_parT [5, 6] rfl (dao_cons (deo_pl (de_add de_int (de_callD D_law_take hr (da_cons (de_v 0) (da_cons de_int da_nil))))) (dao_cons (deo_pl (de_ix (de_lst (da_cons de_int (da_cons de_int (da_cons (de_pow de_int de_int) da_nil)))) (de_callD D_law_take hr (da_cons (de_v 0) (da_cons de_int da_nil))))) dao_nil)) (pgs_name 5 sc_law_tale.nd (pgs_name 6 sc_law_tale.nd pgs_nil')))
  (ds_cons (ds_parT [7, 8, 9, 10] rfl (dao_cons (deo_pl (de_lc (own := [(("_law_k" : Str), 11)]) rfl sc_law_tale.nd (di_range (by rfl) B.n_range (da_cons (de_add de_int (de_callD D_law_take hr (da_cons (de_v 0) (da_cons de_int da_nil)))) da_nil)) (blkOk_by (by rfl)) (fun _ _ _ _ _ => (dg_name 11 sc_law_tale.nd)) (fun _ _ _ _ _ => dts_nil) (fun _ _ _ _ _ => (de_add (de_v 6) (de_mul (de_v 5) (de_v 11)))))) (dao_cons (deo_pl (de_v 3)) (dao_cons deo_newL (dao_cons deo_newL dao_nil)))) (pgs_name 7 sc_law_tale.nd (pgs_name 8 sc_law_tale.nd (pgs_name 9 sc_law_tale.nd (pgs_name 10 sc_law_tale.nd pgs_nil')))))
  (ds_cons (ds_par2 12 13 rfl sc_law_tale.nd (dao_cons deo_newK (dao_cons (deo_pl de_int) dao_nil)) (by rfl))
  (ds_cons (ds_for rfl (di_range (by rfl) B.n_range (da_cons (de_mul de_int (de_v 4)) da_nil)) (dg_name (vs := [0, 1, 2, 3, 4, 5, 6, 7, 8, 9, 10, 11, 12, 13, 14, 15, 16, 17, 18, 19, 20]) 14 sc_law_tale.nd) (ds_cons (ds_par2 15 16 rfl sc_law_tale.nd (dao_cons (deo_pl (de_callD D_law_one_of hr (da_cons (de_v 0) (da_cons (de_v 7) da_nil)))) (dao_cons (deo_pl (de_callD D_law_take hr (da_cons (de_v 0) (da_cons de_int da_nil)))) dao_nil)) (by rfl))
  (ds_end (ds_if (dt_w (dw_and (dt_notin hr (de_v 15) (de_v 12)) (dw_and1 (dt_lt (de_v 13) (de_v 4))))) (ds_cons (ds_dput 12 hr (de_v 15) (de_tup (da_cons (de_v 13) (da_cons (de_callD D_law_wish hr (da_cons (de_v 0) (da_cons (de_v 1) (da_cons (de_v 2) da_nil)))) (da_cons (de_tup da_nil) da_nil)))))
  (ds_cons (ds_app 9 (de_tup (da_cons de_str (da_cons (de_v 15) (da_cons (de_ix (de_dget hr (de_v 12) (de_v 15)) de_int) da_nil)))))
  (ds_end (ds_set 13 sc_law_tale.nd (de_add (de_v 13) de_int))))) (ds_end (ds_if (dt_w (dw_and (dt_in hr (de_v 15) (de_v 12)) (dw_and1 (dt_gt (de_v 16) de_int)))) (ds_cons (ds_asg (de_dget hr (de_v 12) (de_v 15)) (dg_tup rfl (dg_cons (dg_name (vs := [0, 1, 2, 3, 4, 5, 6, 7, 8, 9, 10, 11, 12, 13, 14, 15, 16, 17, 18, 19, 20]) 17 sc_law_tale.nd) (dg_cons (dg_name (vs := [0, 1, 2, 3, 4, 5, 6, 7, 8, 9, 10, 11, 12, 13, 14, 15, 16, 17, 18, 19, 20]) 18 sc_law_tale.nd) (dg_cons (dg_name (vs := [0, 1, 2, 3, 4, 5, 6, 7, 8, 9, 10, 11, 12, 13, 14, 15, 16, 17, 18, 19, 20]) 19 sc_law_tale.nd) dg_nil)))))
  (ds_end (ds_if (dt_eq hr (de_v 19) (de_tup da_nil)) (ds_cons (ds_asg (de_callD D_law_did hr (da_cons (de_v 1) (da_cons (de_v 8) (da_cons (de_v 18) da_nil)))) (dg_tup rfl (dg_cons (dg_name (vs := [0, 1, 2, 3, 4, 5, 6, 7, 8, 9, 10, 11, 12, 13, 14, 15, 16, 17, 18, 19, 20]) 8 sc_law_tale.nd) (dg_cons (dg_name (vs := [0, 1, 2, 3, 4, 5, 6, 7, 8, 9, 10, 11, 12, 13, 14, 15, 16, 17, 18, 19, 20]) 20 sc_law_tale.nd) dg_nil))))
  (ds_cons (ds_app 10 (de_v 17))
  (ds_end (ds_dput 12 hr (de_v 15) (de_tup (da_cons (de_v 17) (da_cons (de_v 18) (da_cons (de_tup (da_cons (de_v 20) da_nil)) da_nil)))))))) (ds_cons (ds_app 9 (de_tup (da_cons de_str (da_cons (de_v 15) (da_cons (de_ix (de_v 19) de_int) da_nil)))))
  (ds_end (ds_pop1 12 (de_v 15))))))) ds_nil))))) PassesOwn.never)
  (ds_end (ds_fzL 10 (ds_fzL 9 (ds_ret (de_tup (da_cons (de_v 9) (da_cons (de_v 10) da_nil)))))))))))
theorem def_law_tale {P : Program} {w : World} {K : PySem.W.Frag} {mg : Str → Option Value} {base : Heap} (B : Bn K mg) (D_law_take : Def P w K mg base L_law_take "_law_take" P_law_take p_law_take) (D_law_one_of : Def P w K mg base L_law_one_of "_law_one_of" P_law_one_of p_law_one_of) (D_law_wish : Def P w K mg base L_law_wish "_law_wish" P_law_wish p_law_wish) (D_law_did : Def P w K mg base L_law_did "_law_did" P_law_did p_law_did) (len : ∀ ws n Q, p_law_tale ws n Q → ws.length = P_law_tale.length) (pf : ∀ ws n Q, p_law_tale ws n Q → (g_law_tale) { nx := fun m _ => Q (.dat .none) m, rt := Q } n (startD N_law_tale ws)) : Def P w K mg base L_law_tale "_law_tale" P_law_tale p_law_tale :=
  mkDef B 30 rfl B.g_law_tale (fun fd F => F.bindsN fun _ _ _ _ _ _ us hl => match us, hl with | [_, _, _, _, _], _ => rfl) (fun fd F => fn_d F sc_law_tale len (fun cdv A outer st H E hr => bd_law_tale B D_law_take D_law_one_of D_law_wish D_law_did _ cdv A outer st H E hr) pf)
theorem sc_law_rows : FnScope N_law_rows P_law_rows (defScope WL.s_law_rows) := ⟨rfl, rfl, rfl, by decide +kernel, rfl, by decide +kernel, by decide +kernel⟩
theorem bd_law_rows {P : Program} {w : World} {K : PySem.W.Frag} {mg : Str → Option Value} {base : Heap} (B : Bn K mg) (f : Addr) (cdv : Value) (A : Around) (outer : List Env) (st : Shared) (H : Hp) (E : XK) (hr : Room 0 (A.deeper (PyProof.Rows.envOfC "_law_rows" (defScope WL.s_law_rows) st.heap.objs.size f cdv))) :
    DSs (cxOf CX0 P w K mg base N_law_rows "_law_rows" (defScope WL.s_law_rows) f cdv A outer st H E).nox (defBody WL.s_law_rows) (g_law_rows) := (ds_cons (ds_par2 1 2 rfl sc_law_rows.nd (dao_cons deo_newL (dao_cons deo_newK dao_nil)) (by rfl))
  (ds_cons (ds_for rfl (di_enum (by rfl) B.n_enumerate (da_cons (de_v 0) da_nil)) (dg_tup rfl (dg_cons (dg_name (vs := [0, 1, 2, 3, 4, 5, 6]) 3 sc_law_rows.nd) (dg_cons (dg_tup rfl (dg_cons (dg_name (vs := [0, 1, 2, 3, 4, 5, 6]) 4 sc_law_rows.nd) (dg_cons (dg_name (vs := [0, 1, 2, 3, 4, 5, 6]) 5 sc_law_rows.nd) (dg_cons (dg_name (vs := [0, 1, 2, 3, 4, 5, 6]) 6 sc_law_rows.nd) dg_nil)))) dg_nil))) (ds_end (ds_if (dt_eq hr (de_v 4) de_str) (ds_cons (ds_dput 2 hr (de_v 5) (de_len (by rfl) B.n_len (da_cons (de_v 1) da_nil)))
  (ds_end (ds_app 1 (de_tup (da_cons (de_v 5) (da_cons (de_v 6) (da_cons (de_v 3) (da_cons de_non da_nil)))))))) (ds_end (ds_put 1 (de_dget hr (de_v 2) (de_v 5)) (de_add (de_slice (de_ix (de_v 1) (de_dget hr (de_v 2) (de_v 5))) do_none (do_some de_int)) (de_tup (da_cons (de_v 3) da_nil))))))) PassesOwn.never)
  (ds_end (ds_fzL 1 (ds_ret (de_v 1))))))
theorem def_law_rows {P : Program} {w : World} {K : PySem.W.Frag} {mg : Str → Option Value} {base : Heap} (B : Bn K mg) (len : ∀ ws n Q, p_law_rows ws n Q → ws.length = P_law_rows.length) (pf : ∀ ws n Q, p_law_rows ws n Q → (g_law_rows) { nx := fun m _ => Q (.dat .none) m, rt := Q } n (startD N_law_rows ws)) : Def P w K mg base L_law_rows "_law_rows" P_law_rows p_law_rows :=
  mkDef B 31 rfl B.g_law_rows (fun fd F => F.bindsN fun _ _ _ _ _ _ us hl => match us, hl with | [_], _ => rfl) (fun fd F => fn_d F sc_law_rows len (fun cdv A outer st H E hr => bd_law_rows B _ cdv A outer st H E hr) pf)
theorem sc_law_ahead : FnScope N_law_ahead P_law_ahead (defScope WL.s_law_ahead) := ⟨rfl, rfl, rfl, by decide +kernel, rfl, by decide +kernel, by decide +kernel⟩
theorem bd_law_ahead {P : Program} {w : World} {K : PySem.W.Frag} {mg : Str → Option Value} {base : Heap} (B : Bn K mg) (f : Addr) (cdv : Value) (A : Around) (outer : List Env) (st : Shared) (H : Hp) (E : XK) (hr : Room 0 (A.deeper (PyProof.Rows.envOfC "_law_ahead" (defScope WL.s_law_ahead) st.heap.objs.size f cdv))) :
    DSs (cxOf CX0 P w K mg base N_law_ahead "_law_ahead" (defScope WL.s_law_ahead) f cdv A outer st H E).nox (defBody WL.s_law_ahead) (g_law_ahead) := (ds_end (ds_ret (de_lc (own := [(("_law_k" : Str), 2), (("_law_row" : Str), 3)]) rfl sc_law_ahead.nd (di_enum (by rfl) B.n_enumerate (da_cons (de_v 0) da_nil)) (blkOk_by (by rfl)) (fun _ _ _ _ _ => (dg_tup rfl (dg_cons (dg_name 2 sc_law_ahead.nd) (dg_cons (dg_name 3 sc_law_ahead.nd) dg_nil)))) (fun _ _ _ _ _ => (dts_one (dt_w (dw_and (dt_isnot (de_ix (de_v 3) de_int) de_non) (dw_and1 (dt_lt (de_ix (de_v 3) de_int) (de_ix (de_ix (de_v 0) (de_v 1)) de_int))))))) (fun _ _ _ _ _ => (de_v 2)))))
theorem def_law_ahead {P : Program} {w : World} {K : PySem.W.Frag} {mg : Str → Option Value} {base : Heap} (B : Bn K mg) (len : ∀ ws n Q, p_law_ahead ws n Q → ws.length = P_law_ahead.length) (pf : ∀ ws n Q, p_law_ahead ws n Q → (g_law_ahead) { nx := fun m _ => Q (.dat .none) m, rt := Q } n (startD N_law_ahead ws)) : Def P w K mg base L_law_ahead "_law_ahead" P_law_ahead p_law_ahead :=
  mkDef B 32 rfl B.g_law_ahead (fun fd F => F.bindsN fun _ _ _ _ _ _ us hl => match us, hl with | [_, _], _ => rfl) (fun fd F => fn_d F sc_law_ahead len (fun cdv A outer st H E hr => bd_law_ahead B _ cdv A outer st H E hr) pf)
theorem sc_law_fits : FnScope N_law_fits P_law_fits (defScope WL.s_law_fits) := ⟨rfl, rfl, rfl, by decide +kernel, rfl, by decide +kernel, by decide +kernel⟩
theorem bd_law_fits {P : Program} {w : World} {K : PySem.W.Frag} {mg : Str → Option Value} {base : Heap} (B : Bn K mg) (f : Addr) (cdv : Value) (A : Around) (outer : List Env) (st : Shared) (H : Hp) (E : XK) (hr : Room 0 (A.deeper (PyProof.Rows.envOfC "_law_fits" (defScope WL.s_law_fits) st.heap.objs.size f cdv))) :
    DSs (cxOf CX0 P w K mg base N_law_fits "_law_fits" (defScope WL.s_law_fits) f cdv A outer st H E).nox (defBody WL.s_law_fits) (g_law_fits) := (ds_end (ds_ret (de_or (de_is (de_ix (de_v 1) de_int) de_non) (de_one (de_eq hr (de_reprS (by rfl) B.n_repr (da_cons (de_ix (de_ix (de_v 0) (de_ix (de_v 1) de_int)) de_int) da_nil)) (de_reprS (by rfl) B.n_repr (da_cons (de_v 2) da_nil)))))))
theorem def_law_fits {P : Program} {w : World} {K : PySem.W.Frag} {mg : Str → Option Value} {base : Heap} (B : Bn K mg) (len : ∀ ws n Q, p_law_fits ws n Q → ws.length = P_law_fits.length) (pf : ∀ ws n Q, p_law_fits ws n Q → (g_law_fits) { nx := fun m _ => Q (.dat .none) m, rt := Q } n (startD N_law_fits ws)) : Def P w K mg base L_law_fits "_law_fits" P_law_fits p_law_fits :=
  mkDef B 33 rfl B.g_law_fits (fun fd F => F.bindsN fun _ _ _ _ _ _ us hl => match us, hl with | [_, _, _], _ => rfl) (fun fd F => fn_d F sc_law_fits len (fun cdv A outer st H E hr => bd_law_fits B _ cdv A outer st H E hr) pf)
theorem sc_law_after : FnScope N_law_after P_law_after (defScope WL.s_law_after) := ⟨rfl, rfl, rfl, by decide +kernel, rfl, by decide +kernel, by decide +kernel⟩
theorem bd_law_after {P : Program} {w : World} {K : PySem.W.Frag} {mg : Str → Option Value} {base : Heap} (B : Bn K mg) (D_law_ahead : Def P w K mg base L_law_ahead "_law_ahead" P_law_ahead p_law_ahead) (D_law_did : Def P w K mg base L_law_did "_law_did" P_law_did p_law_did) (D_law_fits : Def P w K mg base L_law_fits "_law_fits" P_law_fits p_law_fits) (f : Addr) (cdv : Value) (A : Around) (outer : List Env) (st : Shared) (H : Hp) (E : XK) (hr : Room 1 (A.deeper (PyProof.Rows.envOfC "_law_after" (defScope WL.s_law_after) st.heap.objs.size f cdv))) :
    DSs (cxOf CX0 P w K mg base N_law_after "_law_after" (defScope WL.s_law_after) f cdv A outer st H E).nox (defBody WL.s_law_after) (g_law_after) := (ds_cons (ds_asg (de_v 3) (dg_tup rfl (dg_cons (dg_name (vs := [0, 1, 2, 3, 4, 5, 6, 7, 8, 9, 10, 11]) 4 sc_law_after.nd) (dg_cons (dg_name (vs := [0, 1, 2, 3, 4, 5, 6, 7, 8, 9, 10, 11]) 5 sc_law_after.nd) dg_nil))))
  (ds_cons (ds_newK 6 sc_law_after.nd)
  (ds_cons (ds_for rfl (di_enum (by rfl) B.n_enumerate (da_cons (de_v 2) da_nil)) (dg_tup rfl (dg_cons (dg_name (vs := [0, 1, 2, 3, 4, 5, 6, 7, 8, 9, 10, 11]) 7 sc_law_after.nd) (dg_cons (dg_name (vs := [0, 1, 2, 3, 4, 5, 6, 7, 8, 9, 10, 11]) 8 sc_law_after.nd) dg_nil))) (ds_end (ds_if (dt_w (dw_and (dt_notin hr (de_v 7) (de_v 4)) (dw_and1 (dt_val (de_all (by rfl) (by rfl) B.n_all (da_cons (de_lc (own := [(("_law_one" : Str), 11)]) rfl sc_law_after.nd (di_list (de_callD D_law_ahead hr (da_cons (de_v 2) (da_cons (de_v 7) da_nil)))) (blkOk_by (by rfl)) (fun _ _ _ _ _ => (dg_name 11 sc_law_after.nd)) (fun _ _ _ _ _ => dts_nil) (fun _ _ _ _ _ => (de_in hr (de_v 11) (de_v 4)))) da_nil)))))) (ds_cons (ds_asg (de_callD D_law_did hr (da_cons (de_v 0) (da_cons (de_v 5) (da_cons (de_ix (de_v 8) de_int) da_nil)))) (dg_tup rfl (dg_cons (dg_name (vs := [0, 1, 2, 3, 4, 5, 6, 7, 8, 9, 10, 11]) 9 sc_law_after.nd) (dg_cons (dg_name (vs := [0, 1, 2, 3, 4, 5, 6, 7, 8, 9, 10, 11]) 10 sc_law_after.nd) dg_nil))))
  (ds_end (ds_if (dt_val (de_callD D_law_fits hr (da_cons (de_v 1) (da_cons (de_v 8) (da_cons (de_v 10) da_nil))))) (ds_end (ds_dput 6 hr (de_v 7) (de_tup (da_cons (de_tuple (by rfl) B.n_tuple (da_cons (de_sortedI (by rfl) B.n_sorted (da_cons (de_add (de_v 4) (de_tup (da_cons (de_v 7) da_nil))) da_nil)) da_nil)) (da_cons (de_v 9) da_nil))))) ds_nil))) ds_nil)) PassesOwn.never)
  (ds_end (ds_fzK 6 (ds_ret (de_v 6)))))))
theorem def_law_after {P : Program} {w : World} {K : PySem.W.Frag} {mg : Str → Option Value} {base : Heap} (B : Bn K mg) (D_law_ahead : Def P w K mg base L_law_ahead "_law_ahead" P_law_ahead p_law_ahead) (D_law_did : Def P w K mg base L_law_did "_law_did" P_law_did p_law_did) (D_law_fits : Def P w K mg base L_law_fits "_law_fits" P_law_fits p_law_fits) (len : ∀ ws n Q, p_law_after ws n Q → ws.length = P_law_after.length) (pf : ∀ ws n Q, p_law_after ws n Q → (g_law_after) { nx := fun m _ => Q (.dat .none) m, rt := Q } n (startD N_law_after ws)) : Def P w K mg base L_law_after "_law_after" P_law_after p_law_after :=
  mkDef B 34 rfl B.g_law_after (fun fd F => F.bindsN fun _ _ _ _ _ _ us hl => match us, hl with | [_, _, _, _], _ => rfl) (fun fd F => fn_d F sc_law_after len (fun cdv A outer st H E hr => bd_law_after B D_law_ahead D_law_did D_law_fits _ cdv A outer st H E hr) pf)
theorem sc_law_is_all : FnScope N_law_is_all P_law_is_all (defScope WL.s_law_is_all) := ⟨rfl, rfl, rfl, by decide +kernel, rfl, by decide +kernel, by decide +kernel⟩
theorem bd_law_is_all {P : Program} {w : World} {K : PySem.W.Frag} {mg : Str → Option Value} {base : Heap} (B : Bn K mg) (f : Addr) (cdv : Value) (A : Around) (outer : List Env) (st : Shared) (H : Hp) (E : XK) (hr : Room 0 (A.deeper (PyProof.Rows.envOfC "_law_is_all" (defScope WL.s_law_is_all) st.heap.objs.size f cdv))) :
    DSs (cxOf CX0 P w K mg base N_law_is_all "_law_is_all" (defScope WL.s_law_is_all) f cdv A outer st H E).nox (defBody WL.s_law_is_all) (g_law_is_all) := (ds_end (ds_ret (de_all (by rfl) (by rfl) B.n_all (da_cons (de_lc (own := [(("_law_k" : Str), 2), (("_law_row" : Str), 3)]) rfl sc_law_is_all.nd (di_enum (by rfl) B.n_enumerate (da_cons (de_v 0) da_nil)) (blkOk_by (by rfl)) (fun _ _ _ _ _ => (dg_tup rfl (dg_cons (dg_name 2 sc_law_is_all.nd) (dg_cons (dg_name 3 sc_law_is_all.nd) dg_nil)))) (fun _ _ _ _ _ => (dts_one (dt_isnot (de_ix (de_v 3) de_int) de_non))) (fun _ _ _ _ _ => (de_in hr (de_v 2) (de_v 1)))) da_nil))))
theorem def_law_is_all {P : Program} {w : World} {K : PySem.W.Frag} {mg : Str → Option Value} {base : Heap} (B : Bn K mg) (len : ∀ ws n Q, p_law_is_all ws n Q → ws.length = P_law_is_all.length) (pf : ∀ ws n Q, p_law_is_all ws n Q → (g_law_is_all) { nx := fun m _ => Q (.dat .none) m, rt := Q } n (startD N_law_is_all ws)) : Def P w K mg base L_law_is_all "_law_is_all" P_law_is_all p_law_is_all :=
  mkDef B 35 rfl B.g_law_is_all (fun fd F => F.bindsN fun _ _ _ _ _ _ us hl => match us, hl with | [_, _], _ => rfl) (fun fd F => fn_d F sc_law_is_all len (fun cdv A outer st H E hr => bd_law_is_all B _ cdv A outer st H E hr) pf)
theorem sc_law_is_order : FnScope N_law_is_order P_law_is_order (defScope WL.s_law_is_order) := ⟨rfl, rfl, rfl, by decide +kernel, rfl, by decide +kernel, by decide +kernel⟩
theorem bd_law_is_order {P : Program} {w : World} {K : PySem.W.Frag} {mg : Str → Option Value} {base : Heap} (B : Bn K mg) (D_law_rows : Def P w K mg base L_law_rows "_law_rows" P_law_rows p_law_rows) (D_law_ahead : Def P w K mg base L_law_ahead "_law_ahead" P_law_ahead p_law_ahead) (D_law_did : Def P w K mg base L_law_did "_law_did" P_law_did p_law_did) (D_law_fits : Def P w K mg base L_law_fits "_law_fits" P_law_fits p_law_fits) (D_law_is_all : Def P w K mg base L_law_is_all "_law_is_all" P_law_is_all p_law_is_all) (f : Addr) (cdv : Value) (A : Around) (outer : List Env) (st : Shared) (H : Hp) (E : XK) (hr : Room 1 (A.deeper (PyProof.Rows.envOfC "_law_is_order" (defScope WL.s_law_is_order) st.heap.objs.size f cdv))) :
    DSs (cxOf CX0 P w K mg base N_law_is_order "_law_is_order" (defScope WL.s_law_is_order) f cdv A outer st H E).nox (defBody WL.s_law_is_order) (g_law_is_order) := (ds_cons (ds_parT [4, 5, 6] rfl (dao_cons (deo_pl (de_callD D_law_rows hr (da_cons (de_v 1) da_nil))) (dao_cons (deo_pl (de_v 2)) (dao_cons deo_newL dao_nil))) (pgs_name 4 sc_law_is_order.nd (pgs_name 5 sc_law_is_order.nd (pgs_name 6 sc_law_is_order.nd pgs_nil'))))
  (ds_cons (ds_if (dt_not (dt_val (de_isi (by rfl) B.n_isinstance (da_cons (de_v 3) (da_cons (de_ty (by rfl) B.n_list boot_listT) da_nil))))) (ds_end (ds_ret de_bl)) ds_nil)
  (ds_cons (ds_for rfl (di_list (de_v 3)) (dg_name (vs := [0, 1, 2, 3, 4, 5, 6, 7, 8, 9]) 7 sc_law_is_order.nd) (ds_cons (ds_if (dt_w (dw_or (dt_not (dt_val (de_isi (by rfl) B.n_isinstance (da_cons (de_v 7) (da_cons (de_ty (by rfl) B.n_int boot_intT) da_nil))))) (dw_or (dt_val (de_isi (by rfl) B.n_isinstance (da_cons (de_v 7) (da_cons (de_ty (by rfl) B.n_bool boot_boolT) da_nil)))) (dw_or (dt_not (dt_lelt de_int (de_v 7) (de_len (by rfl) B.n_len (da_cons (de_v 4) da_nil)))) (dw_or1 (dt_in hr (de_v 7) (de_v 6))))))) (ds_end (ds_ret de_bl)) ds_nil)
  (ds_cons (ds_if (dt_not (dt_val (de_all (by rfl) (by rfl) B.n_all (da_cons (de_lc (own := [(("_law_one" : Str), 9)]) rfl sc_law_is_order.nd (di_list (de_callD D_law_ahead hr (da_cons (de_v 4) (da_cons (de_v 7) da_nil)))) (blkOk_by (by rfl)) (fun _ _ _ _ _ => (dg_name 9 sc_law_is_order.nd)) (fun _ _ _ _ _ => dts_nil) (fun _ _ _ _ _ => (de_in hr (de_v 9) (de_v 6)))) da_nil)))) (ds_end (ds_ret de_bl)) ds_nil)
  (ds_cons (ds_asg (de_callD D_law_did hr (da_cons (de_v 0) (da_cons (de_v 5) (da_cons (de_ix (de_ix (de_v 4) (de_v 7)) de_int) da_nil)))) (dg_tup rfl (dg_cons (dg_name (vs := [0, 1, 2, 3, 4, 5, 6, 7, 8, 9]) 5 sc_law_is_order.nd) (dg_cons (dg_name (vs := [0, 1, 2, 3, 4, 5, 6, 7, 8, 9]) 8 sc_law_is_order.nd) dg_nil))))
  (ds_cons (ds_if (dt_not (dt_val (de_callD D_law_fits hr (da_cons (de_v 1) (da_cons (de_ix (de_v 4) (de_v 7)) (da_cons (de_v 8) da_nil)))))) (ds_end (ds_ret de_bl)) ds_nil)
  (ds_end (ds_app 6 (de_v 7))))))) PassesOwn.never)
  (ds_end (ds_fzL 6 (ds_ret (de_callD D_law_is_all hr (da_cons (de_v 4) (da_cons (de_v 6) da_nil)))))))))
theorem def_law_is_order {P : Program} {w : World} {K : PySem.W.Frag} {mg : Str → Option Value} {base : Heap} (B : Bn K mg) (D_law_rows : Def P w K mg base L_law_rows "_law_rows" P_law_rows p_law_rows) (D_law_ahead : Def P w K mg base L_law_ahead "_law_ahead" P_law_ahead p_law_ahead) (D_law_did : Def P w K mg base L_law_did "_law_did" P_law_did p_law_did) (D_law_fits : Def P w K mg base L_law_fits "_law_fits" P_law_fits p_law_fits) (D_law_is_all : Def P w K mg base L_law_is_all "_law_is_all" P_law_is_all p_law_is_all) (len : ∀ ws n Q, p_law_is_order ws n Q → ws.length = P_law_is_order.length) (pf : ∀ ws n Q, p_law_is_order ws n Q → (g_law_is_order) { nx := fun m _ => Q (.dat .none) m, rt := Q } n (startD N_law_is_order ws)) : Def P w K mg base L_law_is_order "_law_is_order" P_law_is_order p_law_is_order :=
  mkDef B 36 rfl B.g_law_is_order (fun fd F => F.bindsN fun _ _ _ _ _ _ us hl => match us, hl with | [_, _, _, _], _ => rfl) (fun fd F => fn_d F sc_law_is_order len (fun cdv A outer st H E hr => bd_law_is_order B D_law_rows D_law_ahead D_law_did D_law_fits D_law_is_all _ cdv A outer st H E hr) pf)
theorem sc_law_other_answer : FnScope N_law_other_answer P_law_other_answer (defScope WL.s_law_other_answer) := ⟨rfl, rfl, rfl, by decide +kernel, rfl, by decide +kernel, by decide +kernel⟩
theorem bd_law_other_answer {P : Program} {w : World} {K : PySem.W.Frag} {mg : Str → Option Value} {base : Heap} (B : Bn K mg) (D_law_take : Def P w K mg base L_law_take "_law_take" P_law_take p_law_take) (f : Addr) (cdv : Value) (A : Around) (outer : List Env) (st : Shared) (H : Hp) (E : XK) (hr : Room 1 (A.deeper (PyProof.Rows.envOfC "_law_other_answer" (defScope WL.s_law_other_answer) st.heap.objs.size f cdv))) :
    DSs (cxOf CX0 P w K mg base N_law_other_answer "_law_other_answer" (defScope WL.s_law_other_answer) f cdv A outer st H E).nox (defBody WL.s_law_other_answer) (g_law_other_answer) := (ds_cons (ds_if (dt_w (dw_and (dt_val (de_isi (by rfl) B.n_isinstance (da_cons (de_v 1) (da_cons (de_ty (by rfl) B.n_int boot_intT) da_nil)))) (dw_and1 (dt_not (dt_val (de_isi (by rfl) B.n_isinstance (da_cons (de_v 1) (da_cons (de_ty (by rfl) B.n_bool boot_boolT) da_nil)))))))) (ds_end (ds_ret (de_ix (de_lst (da_cons (de_add (de_v 1) de_int) (da_cons (de_sub (de_v 1) de_int) (da_cons de_non (da_cons de_int da_nil))))) (de_callD D_law_take hr (da_cons (de_v 0) (da_cons de_int da_nil)))))) ds_nil)
  (ds_end (ds_ret (de_ix (de_lst (da_cons de_non (da_cons de_bl (da_cons de_int (da_cons de_int da_nil))))) (de_callD D_law_take hr (da_cons (de_v 0) (da_cons de_int da_nil)))))))
theorem def_law_other_answer {P : Program} {w : World} {K : PySem.W.Frag} {mg : Str → Option Value} {base : Heap} (B : Bn K mg) (D_law_take : Def P w K mg base L_law_take "_law_take" P_law_take p_law_take) (len : ∀ ws n Q, p_law_other_answer ws n Q → ws.length = P_law_other_answer.length) (pf : ∀ ws n Q, p_law_other_answer ws n Q → (g_law_other_answer) { nx := fun m _ => Q (.dat .none) m, rt := Q } n (startD N_law_other_answer ws)) : Def P w K mg base L_law_other_answer "_law_other_answer" P_law_other_answer p_law_other_answer :=
  mkDef B 37 rfl B.g_law_other_answer (fun fd F => F.bindsN fun _ _ _ _ _ _ us hl => match us, hl with | [_, _], _ => rfl) (fun fd F => fn_d F sc_law_other_answer len (fun cdv A outer st H E hr => bd_law_other_answer B D_law_take _ cdv A outer st H E hr) pf)
theorem sc_law_bent : FnScope N_law_bent P_law_bent (defScope WL.s_law_bent) := ⟨rfl, rfl, rfl, by decide +kernel, rfl, by decide +kernel, by decide +kernel⟩
theorem bd_law_bent {P : Program} {w : World} {K : PySem.W.Frag} {mg : Str → Option Value} {base : Heap} (B : Bn K mg) (D_law_one_of : Def P w K mg base L_law_one_of "_law_one_of" P_law_one_of p_law_one_of) (D_law_other_answer : Def P w K mg base L_law_other_answer "_law_other_answer" P_law_other_answer p_law_other_answer) (f : Addr) (cdv : Value) (A : Around) (outer : List Env) (st : Shared) (H : Hp) (E : XK) (hr : Room 2 (A.deeper (PyProof.Rows.envOfC "_law_bent" (defScope WL.s_law_bent) st.heap.objs.size f cdv))) :
    DSs (cxOf CX0 P w K mg base N_law_bent "_law_bent" (defScope WL.s_law_bent) f cdv A outer st H E).nox (defBody WL.s_law_bent) (g_law_bent) := (ds_cons (ds_setLc 2 (own := [(("_law_k" : Str), 3), (("_law_one" : Str), 4)]) rfl sc_law_bent.nd (di_enum (by rfl) B.n_enumerate (da_cons (de_v 1) da_nil)) (blkOk_by (by rfl)) (fun _ _ _ _ _ => (dg_tup rfl (dg_cons (dg_name 3 sc_law_bent.nd) (dg_cons (dg_name 4 sc_law_bent.nd) dg_nil)))) (fun _ _ _ _ _ => (dts_one (dt_eq hr (de_ix (de_v 4) de_int) de_str))) (fun _ _ _ _ _ => (de_v 3)) (by rfl))
  (ds_cons (ds_if (dt_eq hr (de_v 2) (de_lst da_nil)) (ds_end (ds_ret (de_v 1))) ds_nil)
  (ds_cons (ds_par2 5 6 rfl sc_law_bent.nd (dao_cons (deo_pl (de_callD D_law_one_of hr (da_cons (de_v 0) (da_cons (de_v 2) da_nil)))) (dao_cons (deo_pl (de_callD D_law_one_of hr (da_cons (de_v 0) (da_cons (de_v 2) da_nil)))) dao_nil)) (by rfl))
  (ds_cons (ds_par3 4 7 8 rfl sc_law_bent.nd (dao_cons (deo_pl (de_ix (de_v 1) (de_v 5))) (dao_cons (deo_pl (de_ix (de_v 1) (de_v 6))) (dao_cons (deo_list (by rfl) B.n_list (da_cons (de_v 1) da_nil)) dao_nil))) (by rfl))
  (ds_cons (ds_put2 8 rfl (de_v 5) (de_v 6) (da_cons (de_add (de_slice (de_v 4) do_none (do_some de_int)) (de_slice (de_v 7) (do_some de_int) do_none)) (da_cons (de_add (de_slice (de_v 7) do_none (do_some de_int)) (de_slice (de_v 4) (do_some de_int) do_none)) da_nil)))
  (ds_cons (ds_if (dt_eq hr (de_v 5) (de_v 6)) (ds_end (ds_put 8 (de_v 5) (de_add (de_slice (de_ix (de_v 1) (de_v 5)) do_none (do_some de_int)) (de_tup (da_cons (de_callD D_law_other_answer hr (da_cons (de_v 0) (da_cons (de_ix (de_ix (de_v 1) (de_v 5)) de_int) da_nil))) da_nil))))) ds_nil)
  (ds_end (ds_fzL 8 (ds_ret (de_v 8))))))))))
theorem def_law_bent {P : Program} {w : World} {K : PySem.W.Frag} {mg : Str → Option Value} {base : Heap} (B : Bn K mg) (D_law_one_of : Def P w K mg base L_law_one_of "_law_one_of" P_law_one_of p_law_one_of) (D_law_other_answer : Def P w K mg base L_law_other_answer "_law_other_answer" P_law_other_answer p_law_other_answer) (len : ∀ ws n Q, p_law_bent ws n Q → ws.length = P_law_bent.length) (pf : ∀ ws n Q, p_law_bent ws n Q → (g_law_bent) { nx := fun m _ => Q (.dat .none) m, rt := Q } n (startD N_law_bent ws)) : Def P w K mg base L_law_bent "_law_bent" P_law_bent p_law_bent :=
  mkDef B 38 rfl B.g_law_bent (fun fd F => F.bindsN fun _ _ _ _ _ _ us hl => match us, hl with | [_, _], _ => rfl) (fun fd F => fn_d F sc_law_bent len (fun cdv A outer st H E hr => bd_law_bent B D_law_one_of D_law_other_answer _ cdv A outer st H E hr) pf)
theorem sc_law_is_number : FnScope N_law_is_number P_law_is_number (defScope WL.s_law_is_number) := ⟨rfl, rfl, rfl, by decide +kernel, rfl, by decide +kernel, by decide +kernel⟩
theorem bd_law_is_number {P : Program} {w : World} {K : PySem.W.Frag} {mg : Str → Option Value} {base : Heap} (B : Bn K mg) (f : Addr) (cdv : Value) (A : Around) (outer : List Env) (st : Shared) (H : Hp) (E : XK) (hr : Room 0 (A.deeper (PyProof.Rows.envOfC "_law_is_number" (defScope WL.s_law_is_number) st.heap.objs.size f cdv))) :
    DSs (cxOf CX0 P w K mg base N_law_is_number "_law_is_number" (defScope WL.s_law_is_number) f cdv A outer st H E).nox (defBody WL.s_law_is_number) (g_law_is_number) := (ds_end (ds_ret (de_and (de_isi (by rfl) B.n_isinstance (da_cons (de_v 0) (da_cons (de_ty (by rfl) B.n_int boot_intT) da_nil))) (de_one (de_not (de_isi (by rfl) B.n_isinstance (da_cons (de_v 0) (da_cons (de_ty (by rfl) B.n_bool boot_boolT) da_nil))))))))
theorem def_law_is_number {P : Program} {w : World} {K : PySem.W.Frag} {mg : Str → Option Value} {base : Heap} (B : Bn K mg) (len : ∀ ws n Q, p_law_is_number ws n Q → ws.length = P_law_is_number.length) (pf : ∀ ws n Q, p_law_is_number ws n Q → (g_law_is_number) { nx := fun m _ => Q (.dat .none) m, rt := Q } n (startD N_law_is_number ws)) : Def P w K mg base L_law_is_number "_law_is_number" P_law_is_number p_law_is_number :=
  mkDef B 40 rfl B.g_law_is_number (fun fd F => F.bindsN fun _ _ _ _ _ _ us hl => match us, hl with | [_], _ => rfl) (fun fd F => fn_d F sc_law_is_number len (fun cdv A outer st H E hr => bd_law_is_number B _ cdv A outer st H E hr) pf)
theorem sc_law_is_name : FnScope N_law_is_name P_law_is_name (defScope WL.s_law_is_name) := ⟨rfl, rfl, rfl, by decide +kernel, rfl, by decide +kernel, by decide +kernel⟩
theorem bd_law_is_name {P : Program} {w : World} {K : PySem.W.Frag} {mg : Str → Option Value} {base : Heap} (B : Bn K mg) (f : Addr) (cdv : Value) (A : Around) (outer : List Env) (st : Shared) (H : Hp) (E : XK) (hr : Room 0 (A.deeper (PyProof.Rows.envOfC "_law_is_name" (defScope WL.s_law_is_name) st.heap.objs.size f cdv))) :
    DSs (cxOf CX0 P w K mg base N_law_is_name "_law_is_name" (defScope WL.s_law_is_name) f cdv A outer st H E).nox (defBody WL.s_law_is_name) (g_law_is_name) := (ds_end (ds_ret (de_and (de_isi (by rfl) B.n_isinstance (da_cons (de_v 0) (da_cons (de_ty (by rfl) B.n_str boot_strT) da_nil))) (de_and (de_ltlt de_int (de_len (by rfl) B.n_len (da_cons (de_v 0) da_nil)) de_int) (de_one (de_all (by rfl) (by rfl) B.n_all (da_cons (de_lc (own := [(("_law_sign" : Str), 1)]) rfl sc_law_is_name.nd (di_str (de_v 0)) (blkOk_by (by rfl)) (fun _ _ _ _ _ => (dg_name 1 sc_law_is_name.nd)) (fun _ _ _ _ _ => dts_nil) (fun _ _ _ _ _ => (de_lele de_str (de_v 1) de_str))) da_nil)))))))
theorem def_law_is_name {P : Program} {w : World} {K : PySem.W.Frag} {mg : Str → Option Value} {base : Heap} (B : Bn K mg) (len : ∀ ws n Q, p_law_is_name ws n Q → ws.length = P_law_is_name.length) (pf : ∀ ws n Q, p_law_is_name ws n Q → (g_law_is_name) { nx := fun m _ => Q (.dat .none) m, rt := Q } n (startD N_law_is_name ws)) : Def P w K mg base L_law_is_name "_law_is_name" P_law_is_name p_law_is_name :=
  mkDef B 41 rfl B.g_law_is_name (fun fd F => F.bindsN fun _ _ _ _ _ _ us hl => match us, hl with | [_], _ => rfl) (fun fd F => fn_d F sc_law_is_name len (fun cdv A outer st H E hr => bd_law_is_name B _ cdv A outer st H E hr) pf)
theorem sc_law_is_state : FnScope N_law_is_state P_law_is_state (defScope WL.s_law_is_state) := ⟨rfl, rfl, rfl, by decide +kernel, rfl, by decide +kernel, by decide +kernel⟩
theorem bd_law_is_state {P : Program} {w : World} {K : PySem.W.Frag} {mg : Str → Option Value} {base : Heap} (B : Bn K mg) (D_law_is_number : Def P w K mg base L_law_is_number "_law_is_number" P_law_is_number p_law_is_number) (D_law_is_name : Def P w K mg base L_law_is_name "_law_is_name" P_law_is_name p_law_is_name) (f : Addr) (cdv : Value) (A : Around) (outer : List Env) (st : Shared) (H : Hp) (E : XK) (hr : Room 1 (A.deeper (PyProof.Rows.envOfC "_law_is_state" (defScope WL.s_law_is_state) st.heap.objs.size f cdv))) :
    DSs (cxOf CX0 P w K mg base N_law_is_state "_law_is_state" (defScope WL.s_law_is_state) f cdv A outer st H E).nox (defBody WL.s_law_is_state) (g_law_is_state) := (ds_cons (ds_if (dt_eq hr (de_v 0) de_str) (ds_end (ds_ret (de_callD D_law_is_number hr (da_cons (de_v 1) da_nil)))) ds_nil)
  (ds_cons (ds_if (dt_not (dt_val (de_isi (by rfl) B.n_isinstance (da_cons (de_v 1) (da_cons (de_ty (by rfl) B.n_tuple boot_tupleT) da_nil))))) (ds_end (ds_ret de_bl)) ds_nil)
  (ds_cons (ds_if (dt_ne hr (de_v 0) de_str) (ds_end (ds_ret (de_all (by rfl) (by rfl) B.n_all (da_cons (de_lc (own := [(("_law_one" : Str), 2)]) rfl sc_law_is_state.nd (di_tup (de_v 1)) (blkOk_by (by rfl)) (fun _ _ _ _ _ => (dg_name 2 sc_law_is_state.nd)) (fun _ _ _ _ _ => dts_nil) (fun _ _ _ _ _ => (de_callD D_law_is_number hr (da_cons (de_v 2) da_nil)))) da_nil)))) ds_nil)
  (ds_cons (ds_for rfl (di_tup (de_v 1)) (dg_name (vs := [0, 1, 2, 3]) 2 sc_law_is_state.nd) (ds_end (ds_if (dt_w (dw_or (dt_not (dt_val (de_isi (by rfl) B.n_isinstance (da_cons (de_v 2) (da_cons (de_ty (by rfl) B.n_tuple boot_tupleT) da_nil))))) (dw_or (dt_ne hr (de_len (by rfl) B.n_len (da_cons (de_v 2) da_nil)) de_int) (dw_or (dt_not (dt_val (de_callD D_law_is_name hr (da_cons (de_ix (de_v 2) de_int) da_nil)))) (dw_or1 (dt_not (dt_val (de_callD D_law_is_number hr (da_cons (de_ix (de_v 2) de_int) da_nil))))))))) (ds_end (ds_ret de_bl)) ds_nil)) PassesOwn.never)
  (ds_end (ds_ret (de_all (by rfl) (by rfl) B.n_all (da_cons (de_lc (own := [(("_law_one" : Str), 2), (("_law_two" : Str), 3)]) rfl sc_law_is_state.nd (di_zip (by rfl) B.n_zip (da_cons (de_v 1) (da_cons (de_slice (de_v 1) (do_some de_int) do_none) da_nil))) (blkOk_by (by rfl)) (fun _ _ _ _ _ => (dg_tup rfl (dg_cons (dg_name 2 sc_law_is_state.nd) (dg_cons (dg_name 3 sc_law_is_state.nd) dg_nil)))) (fun _ _ _ _ _ => dts_nil) (fun _ _ _ _ _ => (de_lt (de_ix (de_v 2) de_int) (de_ix (de_v 3) de_int)))) da_nil))))))))
theorem def_law_is_state {P : Program} {w : World} {K : PySem.W.Frag} {mg : Str → Option Value} {base : Heap} (B : Bn K mg) (D_law_is_number : Def P w K mg base L_law_is_number "_law_is_number" P_law_is_number p_law_is_number) (D_law_is_name : Def P w K mg base L_law_is_name "_law_is_name" P_law_is_name p_law_is_name) (len : ∀ ws n Q, p_law_is_state ws n Q → ws.length = P_law_is_state.length) (pf : ∀ ws n Q, p_law_is_state ws n Q → (g_law_is_state) { nx := fun m _ => Q (.dat .none) m, rt := Q } n (startD N_law_is_state ws)) : Def P w K mg base L_law_is_state "_law_is_state" P_law_is_state p_law_is_state :=
  mkDef B 42 rfl B.g_law_is_state (fun fd F => F.bindsN fun _ _ _ _ _ _ us hl => match us, hl with | [_, _], _ => rfl) (fun fd F => fn_d F sc_law_is_state len (fun cdv A outer st H E hr => bd_law_is_state B D_law_is_number D_law_is_name _ cdv A outer st H E hr) pf)
theorem sc_law_is_spot : FnScope N_law_is_spot P_law_is_spot (defScope WL.s_law_is_spot) := ⟨rfl, rfl, rfl, by decide +kernel, rfl, by decide +kernel, by decide +kernel⟩
theorem bd_law_is_spot {P : Program} {w : World} {K : PySem.W.Frag} {mg : Str → Option Value} {base : Heap} (B : Bn K mg) (D_law_is_state : Def P w K mg base L_law_is_state "_law_is_state" P_law_is_state p_law_is_state) (f : Addr) (cdv : Value) (A : Around) (outer : List Env) (st : Shared) (H : Hp) (E : XK) (hr : Room 2 (A.deeper (PyProof.Rows.envOfC "_law_is_spot" (defScope WL.s_law_is_spot) st.heap.objs.size f cdv))) :
    DSs (cxOf CX0 P w K mg base N_law_is_spot "_law_is_spot" (defScope WL.s_law_is_spot) f cdv A outer st H E).nox (defBody WL.s_law_is_spot) (g_law_is_spot) := (ds_cons (ds_if (dt_w (dw_or (dt_not (dt_val (de_isi (by rfl) B.n_isinstance (da_cons (de_v 2) (da_cons (de_ty (by rfl) B.n_tuple boot_tupleT) da_nil))))) (dw_or (dt_ne hr (de_len (by rfl) B.n_len (da_cons (de_v 2) da_nil)) de_int) (dw_or1 (dt_not (dt_val (de_isi (by rfl) B.n_isinstance (da_cons (de_ix (de_v 2) de_int) (da_cons (de_ty (by rfl) B.n_tuple boot_tupleT) da_nil))))))))) (ds_end (ds_ret de_bl)) ds_nil)
  (ds_cons (ds_for rfl (di_tup (de_ix (de_v 2) de_int)) (dg_name (vs := [0, 1, 2, 3, 4, 5]) 3 sc_law_is_spot.nd) (ds_end (ds_if (dt_w (dw_or (dt_not (dt_val (de_isi (by rfl) B.n_isinstance (da_cons (de_v 3) (da_cons (de_ty (by rfl) B.n_int boot_intT) da_nil))))) (dw_or (dt_val (de_isi (by rfl) B.n_isinstance (da_cons (de_v 3) (da_cons (de_ty (by rfl) B.n_bool boot_boolT) da_nil)))) (dw_or1 (dt_not (dt_lelt de_int (de_v 3) (de_v 1))))))) (ds_end (ds_ret de_bl)) ds_nil)) PassesOwn.never)
  (ds_end (ds_ret (de_and (de_all (by rfl) (by rfl) B.n_all (da_cons (de_lc (own := [(("_law_one" : Str), 4), (("_law_two" : Str), 5)]) rfl sc_law_is_spot.nd (di_zip (by rfl) B.n_zip (da_cons (de_ix (de_v 2) de_int) (da_cons (de_slice (de_ix (de_v 2) de_int) (do_some de_int) do_none) da_nil))) (blkOk_by (by rfl)) (fun _ _ _ _ _ => (dg_tup rfl (dg_cons (dg_name 4 sc_law_is_spot.nd) (dg_cons (dg_name 5 sc_law_is_spot.nd) dg_nil)))) (fun _ _ _ _ _ => dts_nil) (fun _ _ _ _ _ => (de_lt (de_v 4) (de_v 5)))) da_nil)) (de_one (de_callD D_law_is_state hr (da_cons (de_v 0) (da_cons (de_ix (de_v 2) de_int) da_nil)))))))))
theorem def_law_is_spot {P : Program} {w : World} {K : PySem.W.Frag} {mg : Str → Option Value} {base : Heap} (B : Bn K mg) (D_law_is_state : Def P w K mg base L_law_is_state "_law_is_state" P_law_is_state p_law_is_state) (len : ∀ ws n Q, p_law_is_spot ws n Q → ws.length = P_law_is_spot.length) (pf : ∀ ws n Q, p_law_is_spot ws n Q → (g_law_is_spot) { nx := fun m _ => Q (.dat .none) m, rt := Q } n (startD N_law_is_spot ws)) : Def P w K mg base L_law_is_spot "_law_is_spot" P_law_is_spot p_law_is_spot :=
  mkDef B 39 rfl B.g_law_is_spot (fun fd F => F.bindsN fun _ _ _ _ _ _ us hl => match us, hl with | [_, _, _], _ => rfl) (fun fd F => fn_d F sc_law_is_spot len (fun cdv A outer st H E hr => bd_law_is_spot B D_law_is_state _ cdv A outer st H E hr) pf)
theorem sc_law_is_unlined : FnScope N_law_is_unlined P_law_is_unlined (defScope WL.s_law_is_unlined) := ⟨rfl, rfl, rfl, by decide +kernel, rfl, by decide +kernel, by decide +kernel⟩
theorem bd_law_is_unlined {P : Program} {w : World} {K : PySem.W.Frag} {mg : Str → Option Value} {base : Heap} (B : Bn K mg) (D_law_rows : Def P w K mg base L_law_rows "_law_rows" P_law_rows p_law_rows) (D_law_is_spot : Def P w K mg base L_law_is_spot "_law_is_spot" P_law_is_spot p_law_is_spot) (D_law_is_all : Def P w K mg base L_law_is_all "_law_is_all" P_law_is_all p_law_is_all) (D_law_after : Def P w K mg base L_law_after "_law_after" P_law_after p_law_after) (f : Addr) (cdv : Value) (A : Around) (outer : List Env) (st : Shared) (H : Hp) (E : XK) (hr : Room 3 (A.deeper (PyProof.Rows.envOfC "_law_is_unlined" (defScope WL.s_law_is_unlined) st.heap.objs.size f cdv))) :
    DSs (cxOf CX0 P w K mg base N_law_is_unlined "_law_is_unlined" (defScope WL.s_law_is_unlined) f cdv A outer st H E).nox (defBody WL.s_law_is_unlined) (g_law_is_unlined) := (ds_cons (ds_set 4 sc_law_is_unlined.nd (de_callD D_law_rows hr (da_cons (de_v 1) da_nil)))
  (ds_cons (ds_if (dt_w (dw_or (dt_not (dt_val (de_isi (by rfl) B.n_isinstance (da_cons (de_v 3) (da_cons (de_ty (by rfl) B.n_list boot_listT) da_nil))))) (dw_or1 (dt_not (dt_val (de_all (by rfl) (by rfl) B.n_all (da_cons (de_lc (own := [(("_law_one" : Str), 5)]) rfl sc_law_is_unlined.nd (di_list (de_v 3)) (blkOk_by (by rfl)) (fun _ _ _ _ _ => (dg_name 5 sc_law_is_unlined.nd)) (fun _ _ _ _ _ => dts_nil) (fun _ _ _ _ _ => (de_callD D_law_is_spot hr (da_cons (de_v 0) (da_cons (de_len (by rfl) B.n_len (da_cons (de_v 4) da_nil)) (da_cons (de_v 5) da_nil)))))) da_nil))))))) (ds_end (ds_ret de_bl)) ds_nil)
  (ds_cons (ds_setO 6 sc_law_is_unlined.nd (deo_dictN rfl hr (by rfl) B.n_dict (da_cons (de_lc (own := [(("_law_spot" : Str), 7)]) rfl sc_law_is_unlined.nd (di_list (de_v 3)) (blkOk_by (by rfl)) (fun _ _ _ _ _ => (dg_name 7 sc_law_is_unlined.nd)) (fun _ _ _ _ _ => dts_nil) (fun _ _ _ _ _ => (de_tup (da_cons (de_v 7) (da_cons de_bl da_nil))))) da_nil)))
  (ds_cons (ds_if (dt_w (dw_or (dt_ne hr (de_lenN (by rfl) B.n_len (da_cons (de_v 6) da_nil)) (de_len (by rfl) B.n_len (da_cons (de_v 3) da_nil))) (dw_or1 (dt_notinN hr (de_tup (da_cons (de_tup da_nil) (da_cons (de_v 2) da_nil))) (de_v 6))))) (ds_end (ds_ret de_bl)) ds_nil)
  (ds_cons (ds_for rfl (di_list (de_v 3)) (dg_name (vs := [0, 1, 2, 3, 4, 5, 6, 7, 8]) 7 sc_law_is_unlined.nd) (ds_cons (ds_if (dt_val (de_callD D_law_is_all hr (da_cons (de_v 4) (da_cons (de_ix (de_v 7) de_int) da_nil)))) (ds_end (ds_ret de_bl)) ds_nil)
  (ds_end (ds_if (dt_not (dt_val (de_all (by rfl) (by rfl) B.n_all (da_cons (de_lc (own := [(("_law_later" : Str), 8)]) rfl sc_law_is_unlined.nd (di_vals (de_callD D_law_after hr (da_cons (de_v 0) (da_cons (de_v 1) (da_cons (de_v 4) (da_cons (de_v 7) da_nil)))))) (blkOk_by (by rfl)) (fun _ _ _ _ _ => (dg_name 8 sc_law_is_unlined.nd)) (fun _ _ _ _ _ => dts_nil) (fun _ _ _ _ _ => (de_inN hr (de_v 8) (de_v 6)))) da_nil)))) (ds_end (ds_ret de_bl)) ds_nil))) PassesOwn.never)
  (ds_end (ds_ret de_bl)))))))
theorem def_law_is_unlined {P : Program} {w : World} {K : PySem.W.Frag} {mg : Str → Option Value} {base : Heap} (B : Bn K mg) (D_law_rows : Def P w K mg base L_law_rows "_law_rows" P_law_rows p_law_rows) (D_law_is_spot : Def P w K mg base L_law_is_spot "_law_is_spot" P_law_is_spot p_law_is_spot) (D_law_is_all : Def P w K mg base L_law_is_all "_law_is_all" P_law_is_all p_law_is_all) (D_law_after : Def P w K mg base L_law_after "_law_after" P_law_after p_law_after) (len : ∀ ws n Q, p_law_is_unlined ws n Q → ws.length = P_law_is_unlined.length) (pf : ∀ ws n Q, p_law_is_unlined ws n Q → (g_law_is_unlined) { nx := fun m _ => Q (.dat .none) m, rt := Q } n (startD N_law_is_unlined ws)) : Def P w K mg base L_law_is_unlined "_law_is_unlined" P_law_is_unlined p_law_is_unlined :=
  mkDef B 43 rfl B.g_law_is_unlined (fun fd F => F.bindsN fun _ _ _ _ _ _ us hl => match us, hl with | [_, _, _, _], _ => rfl) (fun fd F => fn_d F sc_law_is_unlined len (fun cdv A outer st H E hr => bd_law_is_unlined B D_law_rows D_law_is_spot D_law_is_all D_law_after _ cdv A outer st H E hr) pf)
theorem sc_law_closed : FnScope N_law_closed P_law_closed (defScope WL.s_law_closed) := ⟨rfl, rfl, rfl, by decide +kernel, rfl, by decide +kernel, by decide +kernel⟩
theorem bd_law_closed {P : Program} {w : World} {K : PySem.W.Frag} {mg : Str → Option Value} {base : Heap} (B : Bn K mg) (D_law_rows : Def P w K mg base L_law_rows "_law_rows" P_law_rows p_law_rows) (D_law_after : Def P w K mg base L_law_after "_law_after" P_law_after p_law_after) (f : Addr) (cdv : Value) (A : Around) (outer : List Env) (st : Shared) (H : Hp) (E : XK) (hr : Room 2 (A.deeper (PyProof.Rows.envOfC "_law_closed" (defScope WL.s_law_closed) st.heap.objs.size f cdv))) :
    DSs (cxOf CX0 P w K mg base N_law_closed "_law_closed" (defScope WL.s_law_closed) f cdv A outer st H E).nox (defBody WL.s_law_closed) (g_law_closed) := (ds_cons (ds_parT [3, 4, 5, 6] rfl (dao_cons (deo_pl (de_callD D_law_rows hr (da_cons (de_v 1) da_nil))) (dao_cons deo_newL (dao_cons deo_nstNew (dao_cons (deo_pl de_int) dao_nil)))) (pgs_name 3 sc_law_closed.nd (pgs_name 4 sc_law_closed.nd (pgs_name 5 sc_law_closed.nd (pgs_name 6 sc_law_closed.nd pgs_nil')))))
  (ds_cons (ds_for rfl (di_list (de_v 2)) (dg_name (vs := [0, 1, 2, 3, 4, 5, 6, 7, 8]) 7 sc_law_closed.nd) (ds_end (ds_if (dt_notinN hr (de_v 7) (de_v 5)) (ds_cons (ds_nput 5 hr (de_v 7))
  (ds_end (ds_app 4 (de_v 7)))) ds_nil)) PassesOwn.never)
  (ds_cons (ds_while (dt_lt (de_v 6) (de_len (by rfl) B.n_len (da_cons (de_v 4) da_nil))) (ds_cons (ds_for rfl (di_vals (de_callD D_law_after hr (da_cons (de_v 0) (da_cons (de_v 1) (da_cons (de_v 3) (da_cons (de_ix (de_v 4) (de_v 6)) da_nil)))))) (dg_name (vs := [0, 1, 2, 3, 4, 5, 6, 7, 8]) 8 sc_law_closed.nd) (ds_end (ds_if (dt_notinN hr (de_v 8) (de_v 5)) (ds_cons (ds_nput 5 hr (de_v 8))
  (ds_end (ds_app 4 (de_v 8)))) ds_nil)) PassesOwn.never)
  (ds_end (ds_set 6 sc_law_closed.nd (de_add (de_v 6) de_int)))) PassesOwn.never)
  (ds_end (ds_fzL 4 (ds_ret (de_v 4)))))))
theorem def_law_closed {P : Program} {w : World} {K : PySem.W.Frag} {mg : Str → Option Value} {base : Heap} (B : Bn K mg) (D_law_rows : Def P w K mg base L_law_rows "_law_rows" P_law_rows p_law_rows) (D_law_after : Def P w K mg base L_law_after "_law_after" P_law_after p_law_after) (len : ∀ ws n Q, p_law_closed ws n Q → ws.length = P_law_closed.length) (pf : ∀ ws n Q, p_law_closed ws n Q → (g_law_closed) { nx := fun m _ => Q (.dat .none) m, rt := Q } n (startD N_law_closed ws)) : Def P w K mg base L_law_closed "_law_closed" P_law_closed p_law_closed :=
  mkDef B 44 rfl B.g_law_closed (fun fd F => F.bindsN fun _ _ _ _ _ _ us hl => match us, hl with | [_, _, _], _ => rfl) (fun fd F => fn_d F sc_law_closed len (fun cdv A outer st H E hr => bd_law_closed B D_law_rows D_law_after _ cdv A outer st H E hr) pf)
theorem sc_law_odd : FnScope N_law_odd P_law_odd (defScope WL.s_law_odd) := ⟨rfl, rfl, rfl, by decide +kernel, rfl, by decide +kernel, by decide +kernel⟩
theorem bd_law_odd {P : Program} {w : World} {K : PySem.W.Frag} {mg : Str → Option Value} {base : Heap} (B : Bn K mg) (D_law_one_of : Def P w K mg base L_law_one_of "_law_one_of" P_law_one_of p_law_one_of) (f : Addr) (cdv : Value) (A : Around) (outer : List Env) (st : Shared) (H : Hp) (E : XK) (hr : Room 2 (A.deeper (PyProof.Rows.envOfC "_law_odd" (defScope WL.s_law_odd) st.heap.objs.size f cdv))) :
    DSs (cxOf CX0 P w K mg base N_law_odd "_law_odd" (defScope WL.s_law_odd) f cdv A outer st H E).nox (defBody WL.s_law_odd) (g_law_odd) := (ds_cons (ds_set 1 sc_law_odd.nd (de_lst (da_cons de_non (da_cons de_bl (da_cons de_bl (da_cons de_int (da_cons de_int (da_cons (de_neg de_int) (da_cons de_str (da_cons de_str (da_cons (de_tup da_nil) (da_cons (de_lst da_nil) (da_cons (de_tup (da_cons (de_tup da_nil) (da_cons (de_tup da_nil) da_nil))) (da_cons (de_tup (da_cons (de_tup da_nil) (da_cons de_int da_nil))) (da_cons (de_tup (da_cons (de_tup (da_cons de_int da_nil)) (da_cons de_int da_nil))) (da_cons (de_tup (da_cons (de_tup da_nil) (da_cons de_bl da_nil))) (da_cons (de_tup (da_cons (de_tup (da_cons de_int (da_cons de_int da_nil))) (da_cons (de_tup da_nil) da_nil))) da_nil)))))))))))))))))
  (ds_end (ds_ret (de_callD D_law_one_of hr (da_cons (de_v 0) (da_cons (de_v 1) da_nil))))))
theorem def_law_odd {P : Program} {w : World} {K : PySem.W.Frag} {mg : Str → Option Value} {base : Heap} (B : Bn K mg) (D_law_one_of : Def P w K mg base L_law_one_of "_law_one_of" P_law_one_of p_law_one_of) (len : ∀ ws n Q, p_law_odd ws n Q → ws.length = P_law_odd.length) (pf : ∀ ws n Q, p_law_odd ws n Q → (g_law_odd) { nx := fun m _ => Q (.dat .none) m, rt := Q } n (startD N_law_odd ws)) : Def P w K mg base L_law_odd "_law_odd" P_law_odd p_law_odd :=
  mkDef B 45 rfl B.g_law_odd (fun fd F => F.bindsN fun _ _ _ _ _ _ us hl => match us, hl with | [_], _ => rfl) (fun fd F => fn_d F sc_law_odd len (fun cdv A outer st H E hr => bd_law_odd B D_law_one_of _ cdv A outer st H E hr) pf)
theorem sc_law_state_bent : FnScope N_law_state_bent P_law_state_bent (defScope WL.s_law_state_bent) := ⟨rfl, rfl, rfl, by decide +kernel, rfl, by decide +kernel, by decide +kernel⟩
theorem bd_law_state_bent {P : Program} {w : World} {K : PySem.W.Frag} {mg : Str → Option Value} {base : Heap} (B : Bn K mg) (D_law_take : Def P w K mg base L_law_take "_law_take" P_law_take p_law_take) (f : Addr) (cdv : Value) (A : Around) (outer : List Env) (st : Shared) (H : Hp) (E : XK) (hr : Room 1 (A.deeper (PyProof.Rows.envOfC "_law_state_bent" (defScope WL.s_law_state_bent) st.heap.objs.size f cdv))) :
    DSs (cxOf CX0 P w K mg base N_law_state_bent "_law_state_bent" (defScope WL.s_law_state_bent) f cdv A outer st H E).nox (defBody WL.s_law_state_bent) (g_law_state_bent) := (ds_cons (ds_set 3 sc_law_state_bent.nd (de_callD D_law_take hr (da_cons (de_v 0) (da_cons de_int da_nil))))
  (ds_cons (ds_if (dt_eq hr (de_v 1) de_str) (ds_end (ds_ret (de_ix (de_lst (da_cons (de_add (de_v 2) de_int) (da_cons (de_sub (de_v 2) de_int) (da_cons de_bl (da_cons de_non (da_cons (de_tup da_nil) (da_cons (de_strB (by rfl) B.n_str (da_cons (de_v 2) da_nil)) da_nil))))))) (de_v 3)))) ds_nil)
  (ds_cons (ds_set 4 sc_law_state_bent.nd (de_lst (da_cons (de_add (de_v 2) (de_slice (de_v 2) do_none (do_some de_int))) (da_cons (de_slice (de_v 2) (do_some de_int) do_none) (da_cons (de_rev (de_v 2)) (da_cons (de_list (by rfl) B.n_list (da_cons (de_v 2) da_nil)) (da_cons (de_add (de_v 2) (de_tup (da_cons de_bl da_nil))) (da_cons (de_add (de_v 2) (de_tup (da_cons (de_tup (da_cons de_str (da_cons de_int da_nil))) da_nil))) da_nil))))))))
  (ds_end (ds_ret (de_ix (de_v 4) (de_v 3)))))))
theorem def_law_state_bent {P : Program} {w : World} {K : PySem.W.Frag} {mg : Str → Option Value} {base : Heap} (B : Bn K mg) (D_law_take : Def P w K mg base L_law_take "_law_take" P_law_take p_law_take) (len : ∀ ws n Q, p_law_state_bent ws n Q → ws.length = P_law_state_bent.length) (pf : ∀ ws n Q, p_law_state_bent ws n Q → (g_law_state_bent) { nx := fun m _ => Q (.dat .none) m, rt := Q } n (startD N_law_state_bent ws)) : Def P w K mg base L_law_state_bent "_law_state_bent" P_law_state_bent p_law_state_bent :=
  mkDef B 46 rfl B.g_law_state_bent (fun fd F => F.bindsN fun _ _ _ _ _ _ us hl => match us, hl with | [_, _, _], _ => rfl) (fun fd F => fn_d F sc_law_state_bent len (fun cdv A outer st H E hr => bd_law_state_bent B D_law_take _ cdv A outer st H E hr) pf)
theorem sc_law_counts_bent : FnScope N_law_counts_bent P_law_counts_bent (defScope WL.s_law_counts_bent) := ⟨rfl, rfl, rfl, by decide +kernel, rfl, by decide +kernel, by decide +kernel⟩
theorem bd_law_counts_bent {P : Program} {w : World} {K : PySem.W.Frag} {mg : Str → Option Value} {base : Heap} (B : Bn K mg) (D_law_one_of : Def P w K mg base L_law_one_of "_law_one_of" P_law_one_of p_law_one_of) (f : Addr) (cdv : Value) (A : Around) (outer : List Env) (st : Shared) (H : Hp) (E : XK) (hr : Room 2 (A.deeper (PyProof.Rows.envOfC "_law_counts_bent" (defScope WL.s_law_counts_bent) st.heap.objs.size f cdv))) :
    DSs (cxOf CX0 P w K mg base N_law_counts_bent "_law_counts_bent" (defScope WL.s_law_counts_bent) f cdv A outer st H E).nox (defBody WL.s_law_counts_bent) (g_law_counts_bent) := (ds_cons (ds_set 3 sc_law_counts_bent.nd (de_lst (da_cons (de_slice (de_v 1) (do_some de_int) do_none) (da_cons (de_slice (de_v 1) do_none (do_some (de_neg de_int))) (da_cons (de_rev (de_v 1)) (da_cons (de_add (de_v 1) (de_slice (de_v 1) (do_some (de_neg de_int)) do_none)) (da_cons (de_list (by rfl) B.n_list (da_cons (de_v 1) da_nil)) (da_cons (de_add (de_v 1) (de_tup (da_cons (de_v 2) da_nil))) da_nil))))))))
  (ds_cons (ds_set 3 sc_law_counts_bent.nd (de_add (de_v 3) (de_lst (da_cons (de_add (de_v 1) (de_tup (da_cons de_bl da_nil))) da_nil))))
  (ds_cons (ds_setLc 4 (own := [(("_law_k" : Str), 5)]) rfl sc_law_counts_bent.nd (di_range (by rfl) B.n_range (da_cons (de_v 2) da_nil)) (blkOk_by (by rfl)) (fun _ _ _ _ _ => (dg_name 5 sc_law_counts_bent.nd)) (fun _ _ _ _ _ => (dts_one (dt_notin hr (de_v 5) (de_v 1)))) (fun _ _ _ _ _ => (de_v 5)) (by rfl))
  (ds_end (ds_ret (de_callD D_law_one_of hr (da_cons (de_v 0) (da_cons (de_add (de_v 3) (de_lst (da_cons (de_tuple (by rfl) B.n_tuple (da_cons (de_sortedI (by rfl) B.n_sorted (da_cons (de_add (de_v 1) (de_tuple (by rfl) B.n_tuple (da_cons (de_slice (de_v 4) do_none (do_some de_int)) da_nil))) da_nil)) da_nil)) (da_cons (de_add (de_tup (da_cons (de_neg de_int) da_nil)) (de_v 1)) da_nil)))) da_nil))))))))
theorem def_law_counts_bent {P : Program} {w : World} {K : PySem.W.Frag} {mg : Str → Option Value} {base : Heap} (B : Bn K mg) (D_law_one_of : Def P w K mg base L_law_one_of "_law_one_of" P_law_one_of p_law_one_of) (len : ∀ ws n Q, p_law_counts_bent ws n Q → ws.length = P_law_counts_bent.length) (pf : ∀ ws n Q, p_law_counts_bent ws n Q → (g_law_counts_bent) { nx := fun m _ => Q (.dat .none) m, rt := Q } n (startD N_law_counts_bent ws)) : Def P w K mg base L_law_counts_bent "_law_counts_bent" P_law_counts_bent p_law_counts_bent :=
  mkDef B 47 rfl B.g_law_counts_bent (fun fd F => F.bindsN fun _ _ _ _ _ _ us hl => match us, hl with | [_, _, _], _ => rfl) (fun fd F => fn_d F sc_law_counts_bent len (fun cdv A outer st H E hr => bd_law_counts_bent B D_law_one_of _ cdv A outer st H E hr) pf)
theorem sc_law_unlined_bent : FnScope N_law_unlined_bent P_law_unlined_bent (defScope WL.s_law_unlined_bent) := ⟨rfl, rfl, rfl, by decide +kernel, rfl, by decide +kernel, by decide +kernel⟩
theorem bd_law_unlined_bent {P : Program} {w : World} {K : PySem.W.Frag} {mg : Str → Option Value} {base : Heap} (B : Bn K mg) (D_law_take : Def P w K mg base L_law_take "_law_take" P_law_take p_law_take) (D_law_is_spot : Def P w K mg base L_law_is_spot "_law_is_spot" P_law_is_spot p_law_is_spot) (D_law_odd : Def P w K mg base L_law_odd "_law_odd" P_law_odd p_law_odd) (D_law_state_bent : Def P w K mg base L_law_state_bent "_law_state_bent" P_law_state_bent p_law_state_bent) (D_law_counts_bent : Def P w K mg base L_law_counts_bent "_law_counts_bent" P_law_counts_bent p_law_counts_bent) (f : Addr) (cdv : Value) (A : Around) (outer : List Env) (st : Shared) (H : Hp) (E : XK) (hr : Room 3 (A.deeper (PyProof.Rows.envOfC "_law_unlined_bent" (defScope WL.s_law_unlined_bent) st.heap.objs.size f cdv))) :
    DSs (cxOf CX0 P w K mg base N_law_unlined_bent "_law_unlined_bent" (defScope WL.s_law_unlined_bent) f cdv A outer st H E).nox (defBody WL.s_law_unlined_bent) (g_law_unlined_bent) := (ds_cons (ds_par2 4 5 rfl sc_law_unlined_bent.nd (dao_cons (deo_pl (de_callD D_law_take hr (da_cons (de_v 0) (da_cons (de_add (de_len (by rfl) B.n_len (da_cons (de_v 2) da_nil)) de_int) da_nil)))) (dao_cons (deo_pl (de_callD D_law_take hr (da_cons (de_v 0) (da_cons de_int da_nil)))) dao_nil)) (by rfl))
  (ds_cons (ds_if (dt_eq hr (de_v 5) de_int) (ds_end (ds_ret (de_add (de_slice (de_v 2) do_none (do_some (de_v 4))) (de_slice (de_v 2) (do_some (de_add (de_v 4) de_int)) do_none)))) ds_nil)
  (ds_cons (ds_if (dt_eq hr (de_v 5) de_int) (ds_end (ds_ret (de_add (de_add (de_slice (de_v 2) do_none (do_some (de_v 4))) (de_slice (de_v 2) (do_some (de_v 4)) (do_some (de_add (de_v 4) de_int)))) (de_slice (de_v 2) (do_some (de_v 4)) do_none)))) ds_nil)
  (ds_cons (ds_if (dt_eq hr (de_v 5) de_int) (ds_end (ds_ret (de_ifExp (dt_eq hr (de_callD D_law_take hr (da_cons (de_v 0) (da_cons de_int da_nil))) de_int) (de_tuple (by rfl) B.n_tuple (da_cons (de_v 2) da_nil)) (de_rev (de_v 2))))) ds_nil)
  (ds_cons (ds_if (dt_w (dw_or (dt_eq hr (de_v 5) de_int) (dw_or (dt_eq hr (de_v 4) (de_len (by rfl) B.n_len (da_cons (de_v 2) da_nil))) (dw_or1 (dt_not (dt_val (de_callD D_law_is_spot hr (da_cons (de_v 1) (da_cons (de_v 3) (da_cons (de_ix (de_v 2) (de_v 4)) da_nil)))))))))) (ds_end (ds_ret (de_add (de_add (de_slice (de_v 2) do_none (do_some (de_v 4))) (de_lst (da_cons (de_callD D_law_odd hr (da_cons (de_v 0) da_nil)) da_nil))) (de_slice (de_v 2) (do_some (de_v 4)) do_none)))) ds_nil)
  (ds_cons (ds_asg (de_ix (de_v 2) (de_v 4)) (dg_tup rfl (dg_cons (dg_name (vs := [0, 1, 2, 3, 4, 5, 6, 7]) 6 sc_law_unlined_bent.nd) (dg_cons (dg_name (vs := [0, 1, 2, 3, 4, 5, 6, 7]) 7 sc_law_unlined_bent.nd) dg_nil))))
  (ds_cons (ds_if (dt_eq hr (de_v 5) de_int) (ds_end (ds_ret (de_add (de_add (de_slice (de_v 2) do_none (do_some (de_v 4))) (de_lst (da_cons (de_lst (da_cons (de_v 6) (da_cons (de_v 7) da_nil))) da_nil))) (de_slice (de_v 2) (do_some (de_add (de_v 4) de_int)) do_none)))) ds_nil)
  (ds_cons (ds_if (dt_eq hr (de_v 5) de_int) (ds_end (ds_ret (de_add (de_add (de_slice (de_v 2) do_none (do_some (de_v 4))) (de_lst (da_cons (de_tup (da_cons (de_v 6) da_nil)) da_nil))) (de_slice (de_v 2) (do_some (de_add (de_v 4) de_int)) do_none)))) ds_nil)
  (ds_cons (ds_if (dt_eq hr (de_v 5) de_int) (ds_end (ds_ret (de_add (de_add (de_slice (de_v 2) do_none (do_some (de_v 4))) (de_lst (da_cons (de_tup (da_cons (de_v 6) (da_cons (de_callD D_law_state_bent hr (da_cons (de_v 0) (da_cons (de_v 1) (da_cons (de_v 7) da_nil)))) da_nil))) da_nil))) (de_slice (de_v 2) (do_some (de_add (de_v 4) de_int)) do_none)))) ds_nil)
  (ds_end (ds_ret (de_add (de_add (de_slice (de_v 2) do_none (do_some (de_v 4))) (de_lst (da_cons (de_tup (da_cons (de_callD D_law_counts_bent hr (da_cons (de_v 0) (da_cons (de_v 6) (da_cons (de_v 3) da_nil)))) (da_cons (de_v 7) da_nil))) da_nil))) (de_slice (de_v 2) (do_some (de_add (de_v 4) de_int)) do_none)))))))))))))
theorem def_law_unlined_bent {P : Program} {w : World} {K : PySem.W.Frag} {mg : Str → Option Value} {base : Heap} (B : Bn K mg) (D_law_take : Def P w K mg base L_law_take "_law_take" P_law_take p_law_take) (D_law_is_spot : Def P w K mg base L_law_is_spot "_law_is_spot" P_law_is_spot p_law_is_spot) (D_law_odd : Def P w K mg base L_law_odd "_law_odd" P_law_odd p_law_odd) (D_law_state_bent : Def P w K mg base L_law_state_bent "_law_state_bent" P_law_state_bent p_law_state_bent) (D_law_counts_bent : Def P w K mg base L_law_counts_bent "_law_counts_bent" P_law_counts_bent p_law_counts_bent) (len : ∀ ws n Q, p_law_unlined_bent ws n Q → ws.length = P_law_unlined_bent.length) (pf : ∀ ws n Q, p_law_unlined_bent ws n Q → (g_law_unlined_bent) { nx := fun m _ => Q (.dat .none) m, rt := Q } n (startD N_law_unlined_bent ws)) : Def P w K mg base L_law_unlined_bent "_law_unlined_bent" P_law_unlined_bent p_law_unlined_bent :=
  mkDef B 48 rfl B.g_law_unlined_bent (fun fd F => F.bindsN fun _ _ _ _ _ _ us hl => match us, hl with | [_, _, _, _], _ => rfl) (fun fd F => fn_d F sc_law_unlined_bent len (fun cdv A outer st H E hr => bd_law_unlined_bent B D_law_take D_law_is_spot D_law_odd D_law_state_bent D_law_counts_bent _ cdv A outer st H E hr) pf)
theorem sc_law_row_bent : FnScope N_law_row_bent P_law_row_bent (defScope WL.s_law_row_bent) := ⟨rfl, rfl, rfl, by decide +kernel, rfl, by decide +kernel, by decide +kernel⟩
theorem bd_law_row_bent {P : Program} {w : World} {K : PySem.W.Frag} {mg : Str → Option Value} {base : Heap} (B : Bn K mg) (D_law_take : Def P w K mg base L_law_take "_law_take" P_law_take p_law_take) (D_law_odd : Def P w K mg base L_law_odd "_law_odd" P_law_odd p_law_odd) (f : Addr) (cdv : Value) (A : Around) (outer : List Env) (st : Shared) (H : Hp) (E : XK) (hr : Room 3 (A.deeper (PyProof.Rows.envOfC "_law_row_bent" (defScope WL.s_law_row_bent) st.heap.objs.size f cdv))) :
    DSs (cxOf CX0 P w K mg base N_law_row_bent "_law_row_bent" (defScope WL.s_law_row_bent) f cdv A outer st H E).nox (defBody WL.s_law_row_bent) (g_law_row_bent) := (ds_cons (ds_par2 3 4 rfl sc_law_row_bent.nd (dao_cons (deo_pl (de_callD D_law_take hr (da_cons (de_v 0) (da_cons (de_add (de_len (by rfl) B.n_len (da_cons (de_v 1) da_nil)) de_int) da_nil)))) (dao_cons (deo_pl (de_callD D_law_take hr (da_cons (de_v 0) (da_cons de_int da_nil)))) dao_nil)) (by rfl))
  (ds_cons (ds_if (dt_eq hr (de_v 4) de_int) (ds_end (ds_ret (de_add (de_slice (de_v 1) do_none (do_some (de_v 3))) (de_slice (de_v 1) (do_some (de_add (de_v 3) de_int)) do_none)))) ds_nil)
  (ds_cons (ds_if (dt_eq hr (de_v 4) de_int) (ds_end (ds_ret (de_add (de_add (de_slice (de_v 1) do_none (do_some (de_v 3))) (de_slice (de_v 1) (do_some (de_v 3)) (do_some (de_add (de_v 3) de_int)))) (de_slice (de_v 1) (do_some (de_v 3)) do_none)))) ds_nil)
  (ds_cons (ds_if (dt_eq hr (de_v 4) de_int) (ds_end (ds_ret (de_add (de_add (de_slice (de_v 1) do_none (do_some (de_v 3))) (de_rev (de_slice (de_v 1) (do_some (de_v 3)) (do_some (de_add (de_v 3) de_int))))) (de_slice (de_v 1) (do_some (de_add (de_v 3) de_int)) do_none)))) ds_nil)
  (ds_cons (ds_if (dt_eq hr (de_v 4) de_int) (ds_end (ds_ret (de_add (de_add (de_slice (de_v 1) do_none (do_some (de_v 3))) (de_lst (da_cons (de_callD D_law_odd hr (da_cons (de_v 0) da_nil)) da_nil))) (de_slice (de_v 1) (do_some (de_add (de_v 3) de_int)) do_none)))) ds_nil)
  (ds_cons (ds_if (dt_eq hr (de_v 4) de_int) (ds_end (ds_ret (de_add (de_v 1) (de_slice (de_lc (own := [(("_law_k" : Str), 5)]) rfl sc_law_row_bent.nd (di_range (by rfl) B.n_range (da_cons (de_v 2) da_nil)) (blkOk_by (by rfl)) (fun _ _ _ _ _ => (dg_name 5 sc_law_row_bent.nd)) (fun _ _ _ _ _ => (dts_one (dt_notin hr (de_v 5) (de_v 1)))) (fun _ _ _ _ _ => (de_v 5))) do_none (do_some de_int))))) ds_nil)
  (ds_end (ds_ret (de_tuple (by rfl) B.n_tuple (da_cons (de_v 1) da_nil))))))))))
theorem def_law_row_bent {P : Program} {w : World} {K : PySem.W.Frag} {mg : Str → Option Value} {base : Heap} (B : Bn K mg) (D_law_take : Def P w K mg base L_law_take "_law_take" P_law_take p_law_take) (D_law_odd : Def P w K mg base L_law_odd "_law_odd" P_law_odd p_law_odd) (len : ∀ ws n Q, p_law_row_bent ws n Q → ws.length = P_law_row_bent.length) (pf : ∀ ws n Q, p_law_row_bent ws n Q → (g_law_row_bent) { nx := fun m _ => Q (.dat .none) m, rt := Q } n (startD N_law_row_bent ws)) : Def P w K mg base L_law_row_bent "_law_row_bent" P_law_row_bent p_law_row_bent :=
  mkDef B 49 rfl B.g_law_row_bent (fun fd F => F.bindsN fun _ _ _ _ _ _ us hl => match us, hl with | [_, _, _], _ => rfl) (fun fd F => fn_d F sc_law_row_bent len (fun cdv A outer st H E hr => bd_law_row_bent B D_law_take D_law_odd _ cdv A outer st H E hr) pf)
theorem sc_law_things : FnScope N_law_things P_law_things (defScope WL.s_law_things) := ⟨rfl, rfl, rfl, by decide +kernel, rfl, by decide +kernel, by decide +kernel⟩
theorem bd_law_things {P : Program} {w : World} {K : PySem.W.Frag} {mg : Str → Option Value} {base : Heap} (B : Bn K mg) (D_law_rows : Def P w K mg base L_law_rows "_law_rows" P_law_rows p_law_rows) (D_law_take : Def P w K mg base L_law_take "_law_take" P_law_take p_law_take) (D_law_closed : Def P w K mg base L_law_closed "_law_closed" P_law_closed p_law_closed) (D_law_odd : Def P w K mg base L_law_odd "_law_odd" P_law_odd p_law_odd) (D_law_row_bent : Def P w K mg base L_law_row_bent "_law_row_bent" P_law_row_bent p_law_row_bent) (D_law_unlined_bent : Def P w K mg base L_law_unlined_bent "_law_unlined_bent" P_law_unlined_bent p_law_unlined_bent) (f : Addr) (cdv : Value) (A : Around) (outer : List Env) (st : Shared) (H : Hp) (E : XK) (hr : Room 4 (A.deeper (PyProof.Rows.envOfC "_law_things" (defScope WL.s_law_things) st.heap.objs.size f cdv))) :
    DSs (cxOf CX0 P w K mg base N_law_things "_law_things" (defScope WL.s_law_things) f cdv A outer st H E).nox (defBody WL.s_law_things) (g_law_things) := (ds_cons (ds_set 5 sc_law_things.nd (de_len (by rfl) B.n_len (da_cons (de_callD D_law_rows hr (da_cons (de_v 2) da_nil)) da_nil)))
  (ds_cons (ds_set 6 sc_law_things.nd (de_tup (da_cons (de_tuple (by rfl) B.n_tuple (da_cons (de_lc (own := [(("_law_k" : Str), 7)]) rfl sc_law_things.nd (di_range (by rfl) B.n_range (da_cons (de_v 5) da_nil)) (blkOk_by (by rfl)) (fun _ _ _ _ _ => (dg_name 7 sc_law_things.nd)) (fun _ _ _ _ _ => (dts_one (dt_eq hr (de_callD D_law_take hr (da_cons (de_v 0) (da_cons de_int da_nil))) de_int))) (fun _ _ _ _ _ => (de_v 7))) da_nil)) (da_cons (de_ifExp (dt_ne hr (de_v 1) de_str) (de_mulA (de_v 3) de_int) (de_tup da_nil)) da_nil))))
  (ds_cons (ds_set 8 sc_law_things.nd (de_callD D_law_closed hr (da_cons (de_v 1) (da_cons (de_v 2) (da_cons (de_lst (da_cons (de_tup (da_cons (de_tup da_nil) (da_cons (de_v 3) da_nil))) (da_cons (de_v 6) da_nil))) da_nil)))))
  (ds_cons (ds_setO 9 sc_law_things.nd (deo_lst (da_cons (de_v 4) (da_cons (de_rev (de_v 4)) (da_cons (de_callD D_law_closed hr (da_cons (de_v 1) (da_cons (de_v 2) (da_cons (de_lst (da_cons (de_tup (da_cons (de_tup da_nil) (da_cons (de_v 3) da_nil))) da_nil)) da_nil)))) (da_cons (de_v 8) (da_cons (de_lst da_nil) (da_cons de_non (da_cons (de_callD D_law_odd hr (da_cons (de_v 0) da_nil)) (da_cons (de_lst (da_cons (de_callD D_law_odd hr (da_cons (de_v 0) da_nil)) da_nil)) da_nil))))))))))
  (ds_cons (ds_for rfl (di_range (by rfl) B.n_range (da_cons de_int da_nil)) (dg_name (vs := [0, 1, 2, 3, 4, 5, 6, 7, 8, 9, 10, 11]) 10 sc_law_things.nd) (ds_cons (ds_if (dt_eq hr (de_callD D_law_take hr (da_cons (de_v 0) (da_cons de_int da_nil))) de_int) (ds_cons (ds_set 11 sc_law_things.nd (de_callD D_law_row_bent hr (da_cons (de_v 0) (da_cons (de_v 4) (da_cons (de_v 5) da_nil)))))
  (ds_end (ds_set 11 sc_law_things.nd (de_ifExp (dt_w (dw_and (dt_val (de_isi (by rfl) B.n_isinstance (da_cons (de_v 11) (da_cons (de_ty (by rfl) B.n_list boot_listT) da_nil)))) (dw_and1 (dt_eq hr (de_mod (de_v 10) de_int) de_int)))) (de_callD D_law_row_bent hr (da_cons (de_v 0) (da_cons (de_v 11) (da_cons (de_v 5) da_nil)))) (de_v 11))))) (ds_cons (ds_set 11 sc_law_things.nd (de_callD D_law_unlined_bent hr (da_cons (de_v 0) (da_cons (de_v 1) (da_cons (de_ix (de_v 9) (de_add de_int (de_callD D_law_take hr (da_cons (de_v 0) (da_cons de_int da_nil))))) (da_cons (de_v 5) da_nil))))))
  (ds_end (ds_set 11 sc_law_things.nd (de_ifExp (dt_w (dw_and (dt_val (de_isi (by rfl) B.n_isinstance (da_cons (de_v 11) (da_cons (de_ty (by rfl) B.n_list boot_listT) da_nil)))) (dw_and1 (dt_eq hr (de_mod (de_v 10) de_int) de_int)))) (de_callD D_law_unlined_bent hr (da_cons (de_v 0) (da_cons (de_v 1) (da_cons (de_v 11) (da_cons (de_v 5) da_nil))))) (de_v 11))))))
  (ds_end (ds_app 9 (de_v 11)))) PassesOwn.never)
  (ds_end (ds_fzL 9 (ds_ret (de_v 9)))))))))
theorem def_law_things {P : Program} {w : World} {K : PySem.W.Frag} {mg : Str → Option Value} {base : Heap} (B : Bn K mg) (D_law_rows : Def P w K mg base L_law_rows "_law_rows" P_law_rows p_law_rows) (D_law_take : Def P w K mg base L_law_take "_law_take" P_law_take p_law_take) (D_law_closed : Def P w K mg base L_law_closed "_law_closed" P_law_closed p_law_closed) (D_law_odd : Def P w K mg base L_law_odd "_law_odd" P_law_odd p_law_odd) (D_law_row_bent : Def P w K mg base L_law_row_bent "_law_row_bent" P_law_row_bent p_law_row_bent) (D_law_unlined_bent : Def P w K mg base L_law_unlined_bent "_law_unlined_bent" P_law_unlined_bent p_law_unlined_bent) (len : ∀ ws n Q, p_law_things ws n Q → ws.length = P_law_things.length) (pf : ∀ ws n Q, p_law_things ws n Q → (g_law_things) { nx := fun m _ => Q (.dat .none) m, rt := Q } n (startD N_law_things ws)) : Def P w K mg base L_law_things "_law_things" P_law_things p_law_things :=
  mkDef B 50 rfl B.g_law_things (fun fd F => F.bindsN fun _ _ _ _ _ _ us hl => match us, hl with | [_, _, _, _, _], _ => rfl) (fun fd F => fn_d F sc_law_things len (fun cdv A outer st H E hr => bd_law_things B D_law_rows D_law_take D_law_closed D_law_odd D_law_row_bent D_law_unlined_bent _ cdv A outer st H E hr) pf)
theorem sc_law_right : FnScope N_law_right P_law_right (defScope WL.s_law_right) := ⟨rfl, rfl, rfl, by decide +kernel, rfl, by decide +kernel, by decide +kernel⟩
theorem bd_law_right {P : Program} {w : World} {K : PySem.W.Frag} {mg : Str → Option Value} {base : Heap} (B : Bn K mg) {es : Array DictEntry} {nd : Nat} (KD : KDict K w (He.ga K "DOERS") es nd) (D_law_keys : Def P w K mg base L_law_keys "_law_keys" P_law_keys p_law_keys) (D_law_origin : Def P w K mg base L_law_origin "_law_origin" P_law_origin p_law_origin) (D_law_tale : Def P w K mg base L_law_tale "_law_tale" P_law_tale p_law_tale) (D_law_take : Def P w K mg base L_law_take "_law_take" P_law_take p_law_take) (D_law_bent : Def P w K mg base L_law_bent "_law_bent" P_law_bent p_law_bent) (D_law_things : Def P w K mg base L_law_things "_law_things" P_law_things p_law_things) (D_law_is_order : Def P w K mg base L_law_is_order "_law_is_order" P_law_is_order p_law_is_order) (D_law_is_unlined : Def P w K mg base L_law_is_unlined "_law_is_unlined" P_law_is_unlined p_law_is_unlined) (D_shows_order : KDef P w K mg base L_shows_order "shows_order" P_shows_order 3 ["first"] p_shows_order) (D_shows_unlined : KDef P w K mg base L_shows_unlined "shows_unlined" P_shows_unlined 3 ["first"] p_shows_unlined) (f : Addr) (cdv : Value) (A : Around) (outer : List Env) (st : Shared) (H : Hp) (E : XK) (hgu : A.guards = some []) (hr : Room 5 (A.deeper (PyProof.Rows.envOfC "_law_right" (defScope WL.s_law_right) st.heap.objs.size f cdv))) :
    DSs (cxOf CX0 P w K mg base N_law_right "_law_right" (defScope WL.s_law_right) f cdv A outer st H E).nox (defBody WL.s_law_right) (g_law_right) := (ds_cons (ds_set 2 sc_law_right.nd (de_callD D_law_keys hr (da_cons (de_v 0) da_nil)))
  (ds_cons (ds_for rfl (di_range (by rfl) B.n_range (da_cons de_int da_nil)) (dg_name (vs := [0, 1, 2, 3, 4, 5, 6, 7, 8, 9, 10, 11, 12, 13]) 3 sc_law_right.nd) (ds_cons (ds_set 4 sc_law_right.nd (de_callD D_law_origin hr (da_cons (de_v 0) (da_cons (de_v 1) (da_cons (de_v 2) da_nil)))))
  (ds_cons (ds_asg (de_callD D_law_tale hr (da_cons (de_v 0) (da_cons (de_v 1) (da_cons (de_v 2) (da_cons (de_v 4) (da_cons (de_callD D_law_take hr (da_cons (de_v 0) (da_cons de_int da_nil))) da_nil)))))) (dg_tup rfl (dg_cons (dg_name (vs := [0, 1, 2, 3, 4, 5, 6, 7, 8, 9, 10, 11, 12, 13]) 8 sc_law_right.nd) (dg_cons (dg_name (vs := [0, 1, 2, 3, 4, 5, 6, 7, 8, 9, 10, 11, 12, 13]) 9 sc_law_right.nd) dg_nil))))
  (ds_cons (ds_for rfl (di_range (by rfl) B.n_range (da_cons (de_callD D_law_take hr (da_cons (de_v 0) (da_cons de_int da_nil))) da_nil)) (dg_name (vs := [0, 1, 2, 3, 4, 5, 6, 7, 8, 9, 10, 11, 12, 13]) 5 sc_law_right.nd) (ds_end (ds_set 8 sc_law_right.nd (de_callD D_law_bent hr (da_cons (de_v 0) (da_cons (de_v 8) da_nil))))) PassesOwn.never)
  (ds_cons (ds_set 6 sc_law_right.nd (de_lst (da_cons de_int (da_cons de_int da_nil))))
  (ds_cons (ds_for rfl (di_list (de_callD D_law_things hr (da_cons (de_v 0) (da_cons (de_v 1) (da_cons (de_v 8) (da_cons (de_v 4) (da_cons (de_v 9) da_nil))))))) (dg_name (vs := [0, 1, 2, 3, 4, 5, 6, 7, 8, 9, 10, 11, 12, 13]) 7 sc_law_right.nd) (ds_cons (ds_set 10 sc_law_right.nd (de_lst (da_cons (de_callD D_law_is_order hr (da_cons (de_v 1) (da_cons (de_v 8) (da_cons (de_v 4) (da_cons (de_v 7) da_nil))))) (da_cons (de_callD D_law_is_unlined hr (da_cons (de_v 1) (da_cons (de_v 8) (da_cons (de_v 4) (da_cons (de_v 7) da_nil))))) da_nil))))
  (ds_cons (ds_set 11 sc_law_right.nd (de_reprG hr hgu (by rfl) B.n_repr (da_cons (de_lst (da_cons (de_v 8) (da_cons (de_v 7) da_nil))) da_nil)))
  (ds_cons (ds_set 12 sc_law_right.nd (de_lst (da_cons (de_callKD D_shows_order hr (da_cons (de_v 1) (da_cons (de_v 8) (da_cons (de_v 7) da_nil))) (de_v 4)) (da_cons (de_callKD D_shows_unlined hr (da_cons (de_v 1) (da_cons (de_v 8) (da_cons (de_v 7) da_nil))) (de_v 4)) da_nil))))
  (ds_cons (ds_if (dt_w (dw_or (dt_ne hr (de_reprG hr hgu (by rfl) B.n_repr (da_cons (de_v 12) da_nil)) (de_reprG hr hgu (by rfl) B.n_repr (da_cons (de_v 10) da_nil))) (dw_or1 (dt_ne hr (de_reprG hr hgu (by rfl) B.n_repr (da_cons (de_lst (da_cons (de_v 8) (da_cons (de_v 7) da_nil))) da_nil)) (de_v 11))))) (ds_end (ds_ret de_bl)) ds_nil)
  (ds_end (ds_set 6 sc_law_right.nd (de_lc (own := [(("_law_k" : Str), 13)]) rfl sc_law_right.nd (di_tup (de_tup (da_cons de_int (da_cons de_int da_nil)))) (blkOk_by (by rfl)) (fun _ _ _ _ _ => (dg_name 13 sc_law_right.nd)) (fun _ _ _ _ _ => dts_nil) (fun _ _ _ _ _ => (de_add (de_ix (de_v 6) (de_v 13)) (de_intB (by rfl) B.n_int (da_cons (de_ix (de_v 12) (de_v 13)) da_nil))))))))))) PassesOwn.never)
  (ds_end (ds_if (dt_w (dw_and (dt_gt (de_ix (de_v 6) de_int) de_int) (dw_and1 (dt_gt (de_ix (de_v 6) de_int) de_int)))) (ds_end (ds_ret de_bl)) ds_nil))))))) PassesOwn.never)
  (ds_end (ds_ret de_bl))))
theorem def_law_right {P : Program} {w : World} {K : PySem.W.Frag} {mg : Str → Option Value} {base : Heap} (B : Bn K mg) {es : Array DictEntry} {nd : Nat} (KD : KDict K w (He.ga K "DOERS") es nd) (D_law_keys : Def P w K mg base L_law_keys "_law_keys" P_law_keys p_law_keys) (D_law_origin : Def P w K mg base L_law_origin "_law_origin" P_law_origin p_law_origin) (D_law_tale : Def P w K mg base L_law_tale "_law_tale" P_law_tale p_law_tale) (D_law_take : Def P w K mg base L_law_take "_law_take" P_law_take p_law_take) (D_law_bent : Def P w K mg base L_law_bent "_law_bent" P_law_bent p_law_bent) (D_law_things : Def P w K mg base L_law_things "_law_things" P_law_things p_law_things) (D_law_is_order : Def P w K mg base L_law_is_order "_law_is_order" P_law_is_order p_law_is_order) (D_law_is_unlined : Def P w K mg base L_law_is_unlined "_law_is_unlined" P_law_is_unlined p_law_is_unlined) (D_shows_order : KDef P w K mg base L_shows_order "shows_order" P_shows_order 3 ["first"] p_shows_order) (D_shows_unlined : KDef P w K mg base L_shows_unlined "shows_unlined" P_shows_unlined 3 ["first"] p_shows_unlined) (len : ∀ ws n Q, p_law_right ws n Q → ws.length = P_law_right.length) (pf : ∀ ws n Q, p_law_right ws n Q → (g_law_right) { nx := fun m _ => Q (.dat .none) m, rt := Q } n (startD N_law_right ws)) : GDef P w K mg base L_law_right "_law_right" P_law_right p_law_right :=
  mkGDef B 51 rfl B.g_law_right (fun fd F => F.bindsN fun _ _ _ _ _ _ us hl => match us, hl with | [_, _], _ => rfl) (fun fd F => fn_g F sc_law_right len (fun cdv A outer st H E hgu hr => bd_law_right B KD D_law_keys D_law_origin D_law_tale D_law_take D_law_bent D_law_things D_law_is_order D_law_is_unlined D_shows_order D_shows_unlined _ cdv A outer st H E hgu hr) pf)
theorem sc_law_two_sorts : FnScope N_law_two_sorts P_law_two_sorts (defScope WL.s_law_two_sorts) := ⟨rfl, rfl, rfl, by decide +kernel, rfl, by decide +kernel, by decide +kernel⟩
theorem bd_law_two_sorts {P : Program} {w : World} {K : PySem.W.Frag} {mg : Str → Option Value} {base : Heap} (B : Bn K mg) (D_law_take : Def P w K mg base L_law_take "_law_take" P_law_take p_law_take) (f : Addr) (cdv : Value) (A : Around) (outer : List Env) (st : Shared) (H : Hp) (E : XK) (hr : Room 1 (A.deeper (PyProof.Rows.envOfC "_law_two_sorts" (defScope WL.s_law_two_sorts) st.heap.objs.size f cdv))) :
    DSs (cxOf CX0 P w K mg base N_law_two_sorts "_law_two_sorts" (defScope WL.s_law_two_sorts) f cdv A outer st H E).nox (defBody WL.s_law_two_sorts) (g_law_two_sorts) := (ds_cons (ds_par2 1 2 rfl sc_law_two_sorts.nd (dao_cons (deo_pl (de_lst (da_cons de_str (da_cons de_str (da_cons de_str (da_cons de_str da_nil)))))) (dao_cons (deo_pl (de_callD D_law_take hr (da_cons (de_v 0) (da_cons de_int da_nil)))) dao_nil)) (by rfl))
  (ds_end (ds_ret (de_lst (da_cons (de_ix (de_v 1) (de_v 2)) (da_cons (de_ix (de_v 1) (de_mod (de_add (de_add (de_v 2) de_int) (de_callD D_law_take hr (da_cons (de_v 0) (da_cons de_int da_nil)))) de_int)) da_nil))))))
theorem def_law_two_sorts {P : Program} {w : World} {K : PySem.W.Frag} {mg : Str → Option Value} {base : Heap} (B : Bn K mg) (D_law_take : Def P w K mg base L_law_take "_law_take" P_law_take p_law_take) (len : ∀ ws n Q, p_law_two_sorts ws n Q → ws.length = P_law_two_sorts.length) (pf : ∀ ws n Q, p_law_two_sorts ws n Q → (g_law_two_sorts) { nx := fun m _ => Q (.dat .none) m, rt := Q } n (startD N_law_two_sorts ws)) : Def P w K mg base L_law_two_sorts "_law_two_sorts" P_law_two_sorts p_law_two_sorts :=
  mkDef B 52 rfl B.g_law_two_sorts (fun fd F => F.bindsN fun _ _ _ _ _ _ us hl => match us, hl with | [_], _ => rfl) (fun fd F => fn_d F sc_law_two_sorts len (fun cdv A outer st H E hr => bd_law_two_sorts B D_law_take _ cdv A outer st H E hr) pf)
theorem sc_law : FnScope N_law P_law (defScope WL.s_law) := ⟨rfl, rfl, rfl, by decide +kernel, rfl, by decide +kernel, by decide +kernel⟩
theorem bd_law {P : Program} {w : World} {K : PySem.W.Frag} {mg : Str → Option Value} {base : Heap} (B : Bn K mg) (D_law_cells : Def P w K mg base L_law_cells "_law_cells" P_law_cells p_law_cells) (D_law_two_sorts : Def P w K mg base L_law_two_sorts "_law_two_sorts" P_law_two_sorts p_law_two_sorts) (D_law_right : GDef P w K mg base L_law_right "_law_right" P_law_right p_law_right) (D_law_box : ODef P w K mg base L_law_box "_law_box" P_law_box p_law_box) (f : Addr) (cdv : Value) (A : Around) (outer : List Env) (st : Shared) (H : Hp) (E : XK) (hgu : A.guards = some []) (hr : Room 6 (A.deeper (PyProof.Rows.envOfC "law" (defScope WL.s_law) st.heap.objs.size f cdv))) :
    DSs (cxOf CX0 P w K mg base N_law "law" (defScope WL.s_law) f cdv A outer st H E).nox (defBody WL.s_law) (g_law) := (ds_cons (ds_set 1 sc_law.nd (de_callD D_law_cells hr (da_cons (de_v 0) (da_cons de_int da_nil))))
  (ds_cons (ds_for rfl (di_range (by rfl) B.n_range (da_cons (de_len (by rfl) B.n_len (da_cons (de_v 1) da_nil)) da_nil)) (dg_name (vs := [0, 1, 2, 3, 4]) 2 sc_law.nd) (dss_newBox 3 sc_law.nd (deo_callD D_law_box hr (da_cons (de_v 1) (da_cons (de_v 2) da_nil)))
  (ds_end (ds_if (dt_not (dt_val (de_all (by rfl) (by rfl) B.n_all (da_cons (de_lc (own := [(("_law_sort" : Str), 4)]) rfl sc_law.nd (di_list (de_callD D_law_two_sorts hr (da_cons (de_v 3) da_nil))) (blkOk_by (by rfl)) (fun _ _ _ _ _ => (dg_name 4 sc_law.nd)) (fun _ _ _ _ _ => dts_nil) (fun _ _ _ _ _ => (de_callGD hgu D_law_right hr (da_cons (de_v 3) (da_cons (de_v 4) da_nil))))) da_nil)))) (ds_end (ds_ret de_bl)) ds_nil))) PassesOwn.never)
  (ds_end (ds_ret de_bl))))
theorem def_law {P : Program} {w : World} {K : PySem.W.Frag} {mg : Str → Option Value} {base : Heap} (B : Bn K mg) (D_law_cells : Def P w K mg base L_law_cells "_law_cells" P_law_cells p_law_cells) (D_law_two_sorts : Def P w K mg base L_law_two_sorts "_law_two_sorts" P_law_two_sorts p_law_two_sorts) (D_law_right : GDef P w K mg base L_law_right "_law_right" P_law_right p_law_right) (D_law_box : ODef P w K mg base L_law_box "_law_box" P_law_box p_law_box) (len : ∀ ws n Q, p_law ws n Q → ws.length = P_law.length) (pf : ∀ ws n Q, p_law ws n Q → (g_law) { nx := fun m _ => Q (.dat .none) m, rt := Q } n (startD N_law ws)) : GDef P w K mg base L_law "law" P_law p_law :=
  mkGDef B 53 rfl B.g_law (fun fd F => F.bindsN fun _ _ _ _ _ _ us hl => match us, hl with | [_], _ => rfl) (fun fd F => fn_g F sc_law len (fun cdv A outer st H E hgu hr => bd_law B D_law_cells D_law_two_sorts D_law_right D_law_box _ cdv A outer st H E hgu hr) pf)
end WL
set_option Elab.async false
set_option linter.all false
set_option maxRecDepth 100000
set_option maxHeartbeats 4000000
namespace WL
open PySem PySem.Spec PyProof.Rows L2 DL
abbrev E0 (Q : W → Nat → Prop) : EndsD := { nx := fun m _ => Q (.dat .none) m, rt := Q }
theorem map_inj' {α β : Type} {f : α → β} (h : ∀ a b, f a = f b → a = b) : ∀ {l m : List α}, l.map f = m.map f → l = m
  | [], [], _ => rfl
  | [], _ :: _, e => by simp at e
  | _ :: _, [], e => by simp at e
  | a :: l, b :: m, e => by
    simp only [List.map_cons, List.cons.injEq] at e
    rw [h _ _ e.1, map_inj' h e.2]
theorem toNat_inj (a b : Char) (h : a.toNat = b.toNat) : a = b := by
  apply Char.ext
  exact UInt32.toNat_inj.mp h
@[simp] theorem ofS_inj (a b : String) : Str.ofString a = Str.ofString b ↔ a = b := by
  refine ⟨fun h => ?_, fun h => by rw [h]⟩
  rw [Str.ofString_eq_toList, Str.ofString_eq_toList] at h
  have h2 : a.toList.map Char.toNat = b.toList.map Char.toNat := by
    have := congrArg (fun x : Str => x.cps.toList) h
    simpa using this
  exact String.ext (map_inj' toNat_inj h2)
@[simp] theorem and_r (a b c : Prop) : (a ∧ b) ∧ c ↔ a ∧ b ∧ c := and_assoc
@[simp] theorem sD1_app {R : PyData → Nat → (W → Nat → Prop) → Prop} {a : PyData} {n : Nat} {P : W → Nat → Prop} : sD1 R [.dat a] n P ↔ R a n P := by simp [sD1]
@[simp] theorem sD2_app {R : PyData → PyData → Nat → (W → Nat → Prop) → Prop} {a b : PyData} {n : Nat} {P : W → Nat → Prop} : sD2 R [.dat a, .dat b] n P ↔ R a b n P := by simp [sD2, and_assoc]
@[simp] theorem sD3_app {R : PyData → PyData → PyData → Nat → (W → Nat → Prop) → Prop} {a b c : PyData} {n : Nat} {P : W → Nat → Prop} : sD3 R [.dat a, .dat b, .dat c] n P ↔ R a b c n P := by simp [sD3, and_assoc]
@[simp] theorem sD4_app {R : PyData → PyData → PyData → PyData → Nat → (W → Nat → Prop) → Prop} {a b c d : PyData} {n : Nat} {P : W → Nat → Prop} : sD4 R [.dat a, .dat b, .dat c, .dat d] n P ↔ R a b c d n P := by simp [sD4, and_assoc]
@[simp] theorem kd_inj (a b : Kd) : a.d = b.d ↔ a = b := by cases a <;> cases b <;> simp [Kd.d, Kd.s]
theorem atI_nat {α : Type} (xs : List α) (i : Nat) : atI xs (i : Int) = xs[i]? := by
  unfold atI ixN
  by_cases h : i < xs.length
  · simp [h]
  · simp [h]
@[simp] theorem atI_0 {α : Type} (x : α) (xs : List α) : atI (x :: xs) 0 = some x := atI_nat (x :: xs) 0
@[simp] theorem atI_1 {α : Type} (x y : α) (xs : List α) : atI (x :: y :: xs) 1 = some y := atI_nat (x :: y :: xs) 1
@[simp] theorem atI_2 {α : Type} (x y z : α) (xs : List α) : atI (x :: y :: z :: xs) 2 = some z := atI_nat (x :: y :: z :: xs) 2
@[simp] theorem atI_3 {α : Type} (x y z u : α) (xs : List α) : atI (x :: y :: z :: u :: xs) 3 = some u := atI_nat (x :: y :: z :: u :: xs) 3
theorem pf_is_number : ∀ ws n Q, p_is_number ws n Q → g_is_number (E0 Q) n (startD N_is_number ws) := by
  rintro _ n Q ⟨a, rfl, h, hq⟩
  cases a <;> simp [nice] at h <;> simpa [isi, isNum] using hq
theorem pf_is_below : ∀ ws n Q, p_is_below ws n Q → g_is_below (E0 Q) n (startD N_is_below ws) := by
  rintro _ n Q ⟨a, b, rfl, h, k, rfl, hq⟩
  cases a <;> simp [nice] at h <;> first | simpa [isNum, isBelow, nice, h] using hq | skip
  rename_i i
  by_cases h0 : 0 ≤ i <;> simpa [isNum, isBelow, nice, h0] using hq
theorem pf_is_tuple_of : ∀ ws n Q, p_is_tuple_of ws n Q → g_is_tuple_of (E0 Q) n (startD N_is_tuple_of ws) := by
  rintro _ n Q ⟨a, b, rfl, h, k, rfl, hq⟩
  cases a <;> simp [nice] at h <;> simpa [isi, isTup] using hq
theorem pf_law_is_number : ∀ ws n Q, p_law_is_number ws n Q → g_law_is_number (E0 Q) n (startD N_law_is_number ws) := by
  rintro _ n Q ⟨a, rfl, h, hq⟩
  cases a <;> simp [nice] at h <;> simpa [isi, isNum] using hq
theorem pf_begun : ∀ ws n Q, p_begun ws n Q → g_begun (E0 Q) n (startD N_begun ws) := by
  rintro _ n Q ⟨a, rfl, kd, rfl, hq⟩
  cases kd <;> simpa [Kd.d, Kd.s] using hq
theorem pf_is_row : ∀ ws n Q, p_is_row ws n Q → g_is_row (E0 Q) n (startD N_is_row ws) := by
  rintro _ n Q ⟨a, rfl, h, hq⟩
  match a, h with
  | .tuple [], h => simpa [isTup, h, isRow] using hq
  | .tuple [x], h => simpa [isTup, h, isRow] using hq
  | .tuple [x, y], h =>
    have hx : nice x = true ∧ nice y = true := by simp [nice, niceA] at h; exact h
    cases hn : isName x <;> simpa [isTup, h, hx, isRow, hn] using hq
  | .tuple (x :: y :: z :: r), h =>
    have e : ¬ ((r.length : Int) + 1 + 1 + 1 = 2) := by omega
    simpa [isTup, h, isRow, e] using hq
  | .none, h => simpa [isTup, h, isRow] using hq
  | .bool _, h => simpa [isTup, h, isRow] using hq
  | .int _, h => simpa [isTup, h, isRow] using hq
  | .str _, h => simpa [isTup, h, isRow] using hq
  | .list _, h => simpa [isTup, h, isRow] using hq
/-! ### small laws of the helpers -/
theorem sIx_1 (n : Nat) : HT.sIx n 0 (some 1) = min 1 n := by
  simp [HT.sIx]
end WL
set_option Elab.async false
set_option linter.all false
set_option maxRecDepth 100000
set_option maxHeartbeats 4000000
namespace WL
open PySem PySem.Spec PyProof.Rows L2 DL
@[simp] theorem cut_tail {α : Type} (xs : List α) : DL.cutD xs (some 1) none = xs.drop 1 := by
  have h : HT.sIx xs.length 0 (some 1) = min 1 xs.length := HT.sIx_nat _ _ 1
  unfold DL.cutD
  rw [h]
  show (xs.drop (min 1 xs.length)).take (HT.sIx xs.length xs.length none - min 1 xs.length) = xs.drop 1
  rw [HT.sIx_none]
  cases xs with
  | nil => rfl
  | cons x xs => simp
theorem letters : (Str.ofString "abcdefghijklmnopqrstuvwxyz").cps = (List.range' 97 26).toArray := by decide +kernel
@[simp] theorem letter (c : Nat) : c ∈ (Str.ofString "abcdefghijklmnopqrstuvwxyz").cps ↔ 97 ≤ c ∧ c ≤ 122 := by
  rw [letters]
  simp [List.mem_range'_1]
  omega
theorem sa : (Str.ofString "a").cps = #[97] := by decide +kernel
theorem sz : (Str.ofString "z").cps = #[122] := by decide +kernel
theorem strD_map (b : Nat → Bool) (z : Str) : ((strD z).map fun d => match d with | .str ⟨⟨[c]⟩⟩ => PyData.bool (b c) | _ => .none) = z.cps.toList.map fun c => .bool (b c) := by
  unfold strD
  rw [List.map_map]
  rfl
theorem mem_strD {z : Str} {d : PyData} (h : d ∈ strD z) : ∃ c, d = .str ⟨#[c]⟩ := by
  unfold strD at h
  obtain ⟨c, _, e⟩ := List.mem_map.mp h
  exact ⟨c, e.symm⟩
theorem strD_len (z : Str) : (strD z).length = z.length := by simp [strD, Str.length]
theorem pf_is_name : ∀ ws n Q, p_is_name ws n Q → g_is_name (E0 Q) n (startD N_is_name ws) := by
  rintro _ n Q ⟨a, rfl, h, hq⟩
  cases a <;> simp [nice] at h <;> first | simpa [isi, isName] using hq | skip
  rename_i z
  have h1 : z.length ≤ 16777216 := by omega
  by_cases h2 : 1 ≤ z.length
  · by_cases h3 : z.length ≤ 8
    · have h4 : (1 : Int) ≤ z.length := by omega
      have h5 : (z.length : Int) ≤ 8 := by omega
      simp [h1, h2, h3, h4, h5]
      refine dlc_map (fun d => match d with | .str ⟨⟨[c]⟩⟩ => .bool (decide (97 ≤ c) && decide (c ≤ 122)) | _ => .none) ?_ (by rw [strD_len]; exact h1) ?_
      · intro d hd acc K ha hk
        obtain ⟨c, rfl⟩ := mem_strD hd
        by_cases c1 : 97 ≤ c <;> by_cases c2 : c ≤ 122 <;> simp [c1, c2] at hk <;> simpa [inW, ha, c1, c2] using hk
      · rw [strD_map fun c => decide (97 ≤ c) && decide (c ≤ 122)]
        simpa [isName, nameOk, h2, h3, boolsOf_map, List.all_map, Function.comp_def] using hq
    · have h4 : (1 : Int) ≤ z.length := by omega
      have h5 : ¬ (z.length : Int) ≤ 8 := by omega
      simpa [h1, h2, h3, h4, h5, isName, nameOk] using hq
  · have h4 : ¬ (1 : Int) ≤ z.length := by omega
    simpa [h1, h2, h4, isName, nameOk] using hq
theorem pf_law_is_name : ∀ ws n Q, p_law_is_name ws n Q → g_law_is_name (E0 Q) n (startD N_law_is_name ws) := by
  rintro _ n Q ⟨a, rfl, h, hq⟩
  cases a <;> simp [nice] at h <;> first | simpa [isi, isName] using hq | skip
  rename_i z
  have h1 : z.length ≤ 16777216 := by omega
  by_cases h2 : 1 ≤ z.length
  · by_cases h3 : z.length ≤ 8
    · have h4 : (0 : Int) < z.length := by omega
      have h5 : (z.length : Int) < 9 := by omega
      have h6 : 0 < z.length := h2
      simp [h1, h4, h5, h6]
      refine dlc_map (fun d => match d with | .str ⟨⟨[c]⟩⟩ => .bool (decide (97 ≤ c) && decide (c ≤ 122)) | _ => .none) ?_ (by rw [strD_len]; exact h1) ?_
      · intro d hd acc K ha hk
        obtain ⟨c, rfl⟩ := mem_strD hd
        by_cases c1 : 97 ≤ c <;> by_cases c2 : c ≤ 122 <;> simp [c1, c2] at hk <;> simp [sa, sz, ha, c1, c2, List.cons_lt_cons_iff] <;> first | exact .inr (by simpa [show ¬ 122 < c by omega] using hk) | exact .inr (by simpa [show 122 < c by omega] using hk) | exact ⟨by omega, hk⟩
      · rw [strD_map fun c => decide (97 ≤ c) && decide (c ≤ 122)]
        simpa [isName, nameOk, h2, h3, boolsOf_map, List.all_map, Function.comp_def] using hq
    · have h4 : (0 : Int) < z.length := by omega
      have h6 : 0 < z.length := h2
      have h5 : ¬ (z.length : Int) < 9 := by omega
      simpa [h1, h6, h3, h4, h5, isName, nameOk] using hq
  · have h4 : ¬ (0 : Int) < z.length := by omega
    have h6 : z.length = 0 := by omega
    simpa [h1, h6, h4, isName, nameOk] using hq
theorem niceA_mem : ∀ {ds : List PyData}, niceA ds = true → ∀ d ∈ ds, nice d = true
  | [], _, d, h => by simp at h
  | x :: ds, h, d, hd => by
    simp [niceA] at h
    rcases List.mem_cons.mp hd with e | e
    · rw [e]; exact h.1
    · exact niceA_mem h.2 d e
theorem nice_tup {ds : List PyData} (h : nice (.tuple ds) = true) : ds.length ≤ 1000000 ∧ ∀ d ∈ ds, nice d = true := by
  simp [nice] at h
  exact ⟨h.1, niceA_mem h.2⟩
theorem nice_lst {ds : List PyData} (h : nice (.list ds) = true) : ds.length ≤ 1000000 ∧ ∀ d ∈ ds, nice d = true := by
  simp [nice] at h
  exact ⟨h.1, niceA_mem h.2⟩
theorem mem_zipD {ds es : List PyData} {d : PyData} (h : d ∈ zipD ds es) : ∃ a b, d = .tuple [a, b] ∧ a ∈ ds ∧ b ∈ es := by
  unfold zipD at h
  obtain ⟨⟨a, b⟩, hp, rfl⟩ := List.mem_map.mp h
  exact ⟨a, b, rfl, (List.of_mem_zip hp).1, (List.of_mem_zip hp).2⟩
theorem zipD_len (ds es : List PyData) : (zipD ds es).length ≤ ds.length := by
  simp [zipD]; omega
/-- neighbours by a test -/
def nb (f : PyData → PyData → Bool) : List PyData → Bool
  | a :: b :: r => f a b && nb f (b :: r)
  | _ => true
def nbF (f : PyData → PyData → Bool) : PyData → Bool
  | .tuple [a, b] => f a b
  | _ => false
theorem nb_zip (f : PyData → PyData → Bool) : ∀ ds : List PyData, ((zipD ds (ds.drop 1)).map (nbF f)).all id = nb f ds
  | [] => rfl
  | [a] => rfl
  | a :: b :: r => by
    have := nb_zip f (b :: r)
    simp [zipD, nb, nbF] at this ⊢
    rw [← this]
theorem rises_nb : ∀ ds, rises ds = nb keyLt ds
  | [] => rfl
  | [a] => rfl
  | a :: b :: r => by simp [rises, nb, rises_nb (b :: r)]
def intLt : PyData → PyData → Bool
  | .int a, .int b => decide (a < b)
  | _, _ => false
theorem risesI_nb : ∀ ds : List Int, risesI (ds.map .int) = nb intLt (ds.map .int)
  | [] => rfl
  | [a] => rfl
  | a :: b :: r => by
    have := risesI_nb (b :: r)
    simp [risesI, nb, intLt] at this ⊢
    rw [this]
theorem isRow_of {d : PyData} (h : isRow d = true) : ∃ k v, d = .tuple [.str k, .int v] ∧ nameOk k = true := by
  match d, h with
  | .tuple [a, b], h =>
    simp [isRow] at h
    match a, b, h with
    | .str k, .int v, h => exact ⟨k, v, rfl, by simpa [isName] using h.1⟩
end WL
set_option Elab.async false
set_option linter.all false
set_option maxRecDepth 100000
set_option maxHeartbeats 4000000
namespace WL
open PySem PySem.Spec PyProof.Rows L2 DL
theorem nb_bools (f : PyData → PyData → Bool) (ds : List PyData) : boolsOf ((zipD ds (ds.drop 1)).map fun d => .bool (nbF f d)) = some ((zipD ds (ds.drop 1)).map (nbF f)) := boolsOf_map _ _
theorem pf_is_state : ∀ ws n Q, p_is_state ws n Q → g_is_state (E0 Q) n (startD N_is_state ws) := by
  rintro _ n Q ⟨a, b, rfl, kd, rfl, h, hq⟩
  cases kd
  · simpa [Kd.d, Kd.s, h, isState] using hq
  · cases b <;> simp [Kd.d, Kd.s] <;> first | simpa [isState] using hq | (simp [nice] at h; done) | skip
    rename_i ds
    obtain ⟨h1, h2⟩ := nice_tup h
    refine dlc_map (fun d => .bool (isNum d)) ?_ (by omega) ?_
    · intro d hd acc K ha hk
      simpa [h2 d hd, ha] using hk
    · simpa [boolsOf_map, isState, List.all_map, Function.comp_def] using hq
  · cases b <;> simp [Kd.d, Kd.s] <;> first | simpa [isState] using hq | (simp [nice] at h; done) | skip
    rename_i ds
    obtain ⟨h1, h2⟩ := nice_tup h
    refine dlc_map (fun d => .bool (isNum d)) ?_ (by omega) ?_
    · intro d hd acc K ha hk
      simpa [h2 d hd, ha] using hk
    · simpa [boolsOf_map, isState, List.all_map, Function.comp_def] using hq
  · cases b <;> simp [Kd.d, Kd.s] <;> first | simpa [isState] using hq | (simp [nice] at h; done) | skip
    rename_i ds
    obtain ⟨h1, h2⟩ := nice_tup h
    refine dlc_map (fun d => .bool (isRow d)) ?_ (by omega) ?_
    · intro d hd acc K ha hk
      simpa [h2 d hd, ha] using hk
    · have e3 : (ds.map isRow).all id = ds.all isRow := by simp [List.all_map, Function.comp_def]
      rw [boolsOf_map]
      cases hr : ds.all isRow
      · simp only [Option.some.injEq, exists_eq_left', e3, hr]
        simpa [isState, hr] using hq
      · simp only [Option.some.injEq, exists_eq_left', e3, hr]
        · simp [and_assoc]
          refine dlc_map (fun d => .bool (nbF keyLt d)) ?_ (by have := zipD_len ds (ds.drop 1); simp at this; omega) ?_
          · intro d hd acc K ha hk
            obtain ⟨x, y, rfl, hx, hy⟩ := mem_zipD hd
            obtain ⟨k, v, rfl, _⟩ := isRow_of (List.all_eq_true.mp hr x hx)
            obtain ⟨k', v', rfl, _⟩ := isRow_of (List.all_eq_true.mp hr y (List.mem_of_mem_tail hy))
            simpa [ha, nbF, keyLt] using hk
          · have e := nb_bools keyLt ds
            have e2 := nb_zip keyLt ds
            simp only [List.drop_one] at e e2
            rw [e]
            simp only [Option.some.injEq, exists_eq_left', e2]
            simpa [isState, hr, rises_nb] using hq
theorem pf_law_is_state : ∀ ws n Q, p_law_is_state ws n Q → g_law_is_state (E0 Q) n (startD N_law_is_state ws) := by
  rintro _ n Q ⟨a, b, rfl, kd, rfl, h, hq⟩
  cases kd
  · simpa [Kd.d, Kd.s, h, isState] using hq
  · cases b <;> simp [Kd.d, Kd.s] <;> first | simpa [isState] using hq | (simp [nice] at h; done) | skip
    rename_i ds
    obtain ⟨h1, h2⟩ := nice_tup h
    refine dlc_map (fun d => .bool (isNum d)) ?_ (by omega) ?_
    · intro d hd acc K ha hk
      simpa [h2 d hd, ha] using hk
    · simpa [boolsOf_map, isState, List.all_map, Function.comp_def] using hq
  · cases b <;> simp [Kd.d, Kd.s] <;> first | simpa [isState] using hq | (simp [nice] at h; done) | skip
    rename_i ds
    obtain ⟨h1, h2⟩ := nice_tup h
    refine dlc_map (fun d => .bool (isNum d)) ?_ (by omega) ?_
    · intro d hd acc K ha hk
      simpa [h2 d hd, ha] using hk
    · simpa [boolsOf_map, isState, List.all_map, Function.comp_def] using hq
  · cases b <;> simp [Kd.d, Kd.s] <;> first | simpa [isState] using hq | (simp [nice] at h; done) | skip
    rename_i ds
    obtain ⟨h1, h2⟩ := nice_tup h
    refine dLoop_ind (I := fun r m ρ => m = n ∧ (∃ o, ρ = [some (.dat (.str "table")), some (.dat (.tuple ds)), o, none]) ∧ (∀ d ∈ r, d ∈ ds) ∧ r.all isRow = ds.all isRow) ?_ ?_ ds _ _ ⟨rfl, ⟨_, rfl⟩, fun _ h => h, rfl⟩
    · rintro m _ ⟨rfl, ⟨o, rfl⟩, _, hr⟩
      replace hr : ds.all isRow = true := by rw [← hr]; rfl
      simp [and_assoc]
      refine dlc_map (fun d => .bool (nbF keyLt d)) ?_ (by have := zipD_len ds (ds.drop 1); simp at this; omega) ?_
      · intro d hd acc K ha hk
        obtain ⟨x, y, rfl, hx, hy⟩ := mem_zipD hd
        obtain ⟨k, v, rfl, _⟩ := isRow_of (List.all_eq_true.mp hr x hx)
        obtain ⟨k', v', rfl, _⟩ := isRow_of (List.all_eq_true.mp hr y (List.mem_of_mem_tail hy))
        simpa [ha, nbF, keyLt] using hk
      · have e := nb_bools keyLt ds
        have e2 := nb_zip keyLt ds
        simp only [List.drop_one] at e e2
        rw [e]
        simp only [Option.some.injEq, exists_eq_left', e2]
        simpa [isState, hr, rises_nb] using hq
    · rintro d r m _ ⟨rfl, ⟨o, rfl⟩, hm, hr⟩ K hK
      have hn := h2 d (hm d List.mem_cons_self)
      have no : isRow d = false → Q (.dat (.bool false)) m := fun e => by
        have : ds.all isRow = false := by rw [← hr]; simp [e]
        simpa [isState, this] using hq
      have ok : isRow d = true → K m [some (.dat (.str "table")), some (.dat (.tuple ds)), some (.dat d), none] := fun e => hK _ _ ⟨rfl, ⟨_, rfl⟩, fun x hx => hm x (List.mem_cons_of_mem _ hx), by rw [← hr]; simp [e]⟩
      match d, hn, no, ok with
      | .tuple [], hn, no, ok => simpa using no rfl
      | .tuple [x], hn, no, ok => simpa using no rfl
      | .tuple [x, y], hn, no, ok =>
        have hx : nice x = true ∧ nice y = true := by simp [nice, niceA] at hn; exact hn
        cases e1 : isName x <;> cases e2 : isNum y <;> simp [isRow, e1, e2] at no ok <;> simp [hx, e1, e2] <;> first | exact no | exact ok
      | .tuple (x :: y :: z :: r), hn, no, ok =>
        have e : ¬ ((r.length : Int) + 1 + 1 + 1 = 2) := by omega
        simpa [e] using no rfl
      | .none, hn, no, ok => simpa using no rfl
      | .bool _, hn, no, ok => simpa using no rfl
      | .int _, hn, no, ok => simpa using no rfl
      | .str _, hn, no, ok => simpa using no rfl
      | .list _, hn, no, ok => simpa using no rfl
end WL
set_option Elab.async false
set_option linter.all false
set_option maxRecDepth 100000
set_option maxHeartbeats 4000000
namespace WL
open PySem PySem.Spec PyProof.Rows L2 DL
@[simp] theorem ofS_beq (a b : String) : (Str.ofString a == Str.ofString b) = decide (a = b) := by
  by_cases h : a = b <;> simp [h]
section
variable (kd : Kd) (t : List Ev) (rows : List Rw)
@[simp] theorem tf_kind : List.lookup ("kind" : Str) (taleF kd t rows) = some kd.d := by simp [taleF, List.lookup]
@[simp] theorem tf_rows : List.lookup ("rows" : Str) (taleF kd t rows) = some (rowsD rows) := by simp [taleF, List.lookup]
@[simp] theorem tf_said : List.lookup ("said" : Str) (taleF kd t rows) = some (.list (rows.map (saidD t))) := by simp [taleF, List.lookup]
@[simp] theorem tf_ended : List.lookup ("ended" : Str) (taleF kd t rows) = some (.list ((endedOf rows).map fun (i : Nat) => PyData.int (i : Int))) := by simp [taleF, List.lookup]
@[simp] theorem tf_aheads : List.lookup ("aheads" : Str) (taleF kd t rows) = some (.list ((List.range rows.length).map fun c => .list ((aheadOf rows c).map fun (i : Nat) => PyData.int (i : Int)))) := by simp [taleF, List.lookup]
@[simp] theorem tf_is_all : List.lookup ("is_all" : Str) (taleF kd t rows) = none := by simp [taleF, List.lookup]
@[simp] theorem tf_is_spot : List.lookup ("is_spot" : Str) (taleF kd t rows) = none := by simp [taleF, List.lookup]
@[simp] theorem tf_behind : List.lookup ("behind" : Str) (taleF kd t rows) = none := by simp [taleF, List.lookup]
end
theorem isBelow_int {d : PyData} {k : Int} (h : isBelow d k = true) : ∃ i, d = .int i ∧ 0 ≤ i ∧ i < k := by
  cases d <;> simp [isBelow] at h
  exact ⟨_, rfl, h.1, h.2⟩
theorem belows {ds : List PyData} {k : Int} (h : ds.all (fun c => isBelow c k) = true) : ∃ cs : List Int, ds = cs.map .int ∧ ∀ i ∈ cs, 0 ≤ i ∧ i < k := by
  induction ds with
  | nil => exact ⟨[], rfl, by simp⟩
  | cons d ds ih =>
    rw [List.all_cons, Bool.and_eq_true] at h
    obtain ⟨cs, rfl, hc⟩ := ih h.2
    obtain ⟨i, rfl, h0, h1⟩ := isBelow_int h.1
    exact ⟨i :: cs, rfl, by intro j hj; rcases List.mem_cons.mp hj with e | e; (· subst e; exact ⟨h0, h1⟩); exact hc j e⟩
theorem pf_Tale_is_spot (K : PySem.W.Frag) : ∀ ws n Q, p_Tale_is_spot (He.ga K "Tale") ws n Q → g_Tale_is_spot K (E0 Q) n (startD N_Tale_is_spot ws) := by
  rintro _ n Q ⟨kd, t, rows, a, rfl, ht, h, hq⟩
  match a, h with
  | .tuple [], h => simpa [isTup, h, isSpot] using hq
  | .tuple [x], h => simpa [isTup, h, isSpot] using hq
  | .tuple [x, y], h =>
    have hx : nice x = true ∧ nice y = true := by simp [nice, niceA] at h; exact h
    match x, hx with
    | .none, hx => simpa [isTup, h, isSpot] using hq
    | .bool _, hx => simpa [isTup, h, isSpot] using hq
    | .int _, hx => simpa [isTup, h, isSpot] using hq
    | .str _, hx => simpa [isTup, h, isSpot] using hq
    | .list _, hx => simpa [isTup, h, isSpot] using hq
    | .dict _, hx => simp [nice] at hx
    | .tuple ds, hx =>
      cases hs : isState kd y
      · simpa [isTup, h, hx, isSpot, hs] using hq
      · obtain ⟨h1, h2⟩ := nice_tup hx.1
        simp [isTup, h, hx, hs, rowsD]
        refine dlc_map (fun d => .bool (isBelow d rows.length)) ?_ (by omega) ?_
        · intro d hd acc K ha hk
          simpa [h2 d hd, ha] using hk
        · have e3 : (ds.map fun d => isBelow d rows.length).all id = ds.all fun d => isBelow d rows.length := by simp [List.all_map, Function.comp_def]
          rw [boolsOf_map]
          cases hr : ds.all fun d => isBelow d rows.length
          · simp only [Option.some.injEq, exists_eq_left', e3, hr]
            simpa [isSpot, hs, hr] using hq
          · simp only [Option.some.injEq, exists_eq_left', e3, hr]
            obtain ⟨cs, rfl, hc⟩ := belows hr
            simp
            refine dlc_map (fun d => .bool (nbF intLt d)) ?_ (by have := zipD_len (cs.map PyData.int) ((cs.map PyData.int).drop 1); simp at this h1; omega) ?_
            · intro d hd acc K ha hk
              obtain ⟨x, y, rfl, hx, hy⟩ := mem_zipD hd
              obtain ⟨i, _, rfl⟩ := List.mem_map.mp hx
              obtain ⟨j, _, rfl⟩ := List.mem_map.mp (List.mem_of_mem_tail (by simpa using hy))
              simpa [ha, nbF, intLt] using hk
            · have e := nb_bools intLt (cs.map PyData.int)
              have e2 := nb_zip intLt (cs.map PyData.int)
              simp only [List.drop_one] at e e2
              rw [e]
              simp only [Option.some.injEq, exists_eq_left', e2]
              simpa [isSpot, hs, hr, risesI_nb] using hq
  | .tuple (x :: y :: z :: r), h =>
    have e : ¬ ((r.length : Int) + 1 + 1 + 1 = 2) := by omega
    simpa [isTup, h, isSpot, e] using hq
  | .none, h => simpa [isTup, h, isSpot] using hq
  | .bool _, h => simpa [isTup, h, isSpot] using hq
  | .int _, h => simpa [isTup, h, isSpot] using hq
  | .str _, h => simpa [isTup, h, isSpot] using hq
  | .list _, h => simpa [isTup, h, isSpot] using hq
theorem pf_law_is_spot : ∀ ws n Q, p_law_is_spot ws n Q → g_law_is_spot (E0 Q) n (startD N_law_is_spot ws) := by
  rintro _ n Q ⟨_, _, a, rfl, kd, k, rfl, rfl, h, hq⟩
  match a, h with
  | .tuple [], h => simpa [isTup, h, isSpot] using hq
  | .tuple [x], h => simpa [isTup, h, isSpot] using hq
  | .tuple [x, y], h =>
    have hx : nice x = true ∧ nice y = true := by simp [nice, niceA] at h; exact h
    match x, hx with
    | .none, hx => simpa [isTup, h, isSpot] using hq
    | .bool _, hx => simpa [isTup, h, isSpot] using hq
    | .int _, hx => simpa [isTup, h, isSpot] using hq
    | .str _, hx => simpa [isTup, h, isSpot] using hq
    | .list _, hx => simpa [isTup, h, isSpot] using hq
    | .dict _, hx => simp [nice] at hx
    | .tuple ds, hx =>
      obtain ⟨h1, h2⟩ := nice_tup hx.1
      simp
      refine dLoop_ind (I := fun r m ρ => m = n ∧ (∃ o, ρ = [some (.dat kd.d), some (.dat (.int k)), some (.dat (.tuple [.tuple ds, y])), o, none, none]) ∧ (∀ d ∈ r, d ∈ ds) ∧ r.all (fun d => isBelow d k) = ds.all (fun d => isBelow d k)) ?_ ?_ ds _ _ ⟨rfl, ⟨_, rfl⟩, fun _ h => h, rfl⟩
      · rintro m _ ⟨rfl, ⟨o, rfl⟩, _, hr⟩
        replace hr : ds.all (fun d => isBelow d k) = true := by rw [← hr]; rfl
        obtain ⟨cs, rfl, hc⟩ := belows hr
        simp
        refine dlc_map (fun d => .bool (nbF intLt d)) ?_ (by have := zipD_len (cs.map PyData.int) ((cs.map PyData.int).drop 1); simp at this h1; omega) ?_
        · intro d hd acc K ha hk
          obtain ⟨x, y, rfl, hx, hy⟩ := mem_zipD hd
          obtain ⟨i, _, rfl⟩ := List.mem_map.mp hx
          obtain ⟨j, _, rfl⟩ := List.mem_map.mp (List.mem_of_mem_tail (by simpa using hy))
          simpa [ha, nbF, intLt] using hk
        · have e := nb_bools intLt (cs.map PyData.int)
          have e2 := nb_zip intLt (cs.map PyData.int)
          simp only [List.drop_one] at e e2
          rw [e]
          simp only [Option.some.injEq, exists_eq_left', e2]
          cases hn : nb intLt (cs.map PyData.int)
          · simpa [isSpot, hr, risesI_nb, hn] using hq
          · simpa [isSpot, hr, risesI_nb, hn, hx] using hq
      · rintro d r m _ ⟨rfl, ⟨o, rfl⟩, hm, hr⟩ K hK
        have hn := h2 d (hm d List.mem_cons_self)
        have no : isBelow d k = false → Q (.dat (.bool false)) m := fun e => by
          have : ds.all (fun d => isBelow d k) = false := by rw [← hr]; simp [e]
          simpa [isSpot, this] using hq
        have ok : isBelow d k = true → K m [some (.dat kd.d), some (.dat (.int k)), some (.dat (.tuple [.tuple ds, y])), some (.dat d), none, none] := fun e => hK _ _ ⟨rfl, ⟨_, rfl⟩, fun x hx => hm x (List.mem_cons_of_mem _ hx), by rw [← hr]; simp [e]⟩
        cases d <;> first | (simpa using no rfl) | (simp [nice] at hn; done) | skip
        rename_i i
        by_cases c1 : 0 ≤ i <;> by_cases c2 : i < k <;> simp [isBelow, c1, c2] at no ok <;> simp [c1, c2] <;> first | exact no | exact ok
  | .tuple (x :: y :: z :: r), h =>
    have e : ¬ ((r.length : Int) + 1 + 1 + 1 = 2) := by omega
    simpa [isTup, h, isSpot, e] using hq
  | .none, h => simpa [isTup, h, isSpot] using hq
  | .bool _, h => simpa [isTup, h, isSpot] using hq
  | .int _, h => simpa [isTup, h, isSpot] using hq
  | .str _, h => simpa [isTup, h, isSpot] using hq
  | .list _, h => simpa [isTup, h, isSpot] using hq
end WL
set_option Elab.async false
set_option linter.all false
set_option maxRecDepth 100000
set_option maxHeartbeats 4000000
namespace WL
open PySem PySem.Spec PyProof.Rows L2 DL
def kR (r : DL.Row) : Key × PyData := (.inr r.1, .int r.2)
theorem any_kR (k : Str) : ∀ rs : List DL.Row, ((rs.map kR).any fun kv => decide (kv.1 = .inr k)) = rs.any fun r => decide (r.1 = k) := by
  intro rs
  rw [List.any_map]
  congr 1
  funext r
  simp [kR]
theorem putD_kR (rs : List DL.Row) (k : Str) (v : Int) : putD (rs.map kR) (.inr k) (.int v) = (putRow rs k v).map kR := by
  unfold putD putRow
  rw [any_kR]
  split
  · rw [List.map_map, List.map_map]
    apply List.map_congr_left
    intro r _
    by_cases e : r.1 = k <;> simp [kR, e]
  · simp [kR]
theorem dictR_go : ∀ (rs acc : List DL.Row), rs.foldl (fun acc r => putD acc (.inr r.1) (.int r.2)) (acc.map kR) = (rs.foldl (fun acc r => putRow acc r.1 r.2) acc).map kR
  | [], acc => rfl
  | r :: rs, acc => by rw [List.foldl_cons, List.foldl_cons, putD_kR, dictR_go rs]
theorem dictR_kR (rs : List DL.Row) : dictR rs = (dictRow rs).map kR := dictR_go rs []
theorem valD_kR (k : Str) (rs : List DL.Row) : valD (rs.map kR) (.inr k) = (lookRow rs k).map .int := by
  unfold valD lookRow
  rw [List.find?_map, Option.map_map, Option.map_map]
  have e : ((fun kv : Key × PyData => decide (kv.1 = .inr k)) ∘ kR) = fun r => decide (r.1 = k) := by funext r; simp [kR]
  rw [e]
  rfl
theorem dropD_kR (k : Str) (rs : List DL.Row) : dropD (rs.map kR) (.inr k) = (rs.filter fun r => decide (r.1 ≠ k)).map kR := by
  unfold dropD
  rw [List.filter_map]
  congr 1
  apply List.filter_congr
  intro r _
  simp [kR]
theorem rowsK_kR : ∀ rs : List DL.Row, rowsK (rs.map kR) = some rs
  | [] => rfl
  | r :: rs => by simp [kR, rowsK, rowsK_kR rs]
theorem rowsOf_map : ∀ rs : List DL.Row, DL.rowsOf (rs.map rowD) = some rs
  | [] => rfl
  | r :: rs => by simp [rowD, DL.rowsOf, rowsOf_map rs]
theorem putRow_keys (rs : List DL.Row) (k : Str) (v : Int) (h : (rs.map (·.1)).Nodup) : ((putRow rs k v).map (·.1)).Nodup := by
  unfold putRow
  split
  · rw [List.map_map]
    have e : ((fun r : DL.Row => r.1) ∘ fun r => if r.1 = k then (r.1, v) else r) = fun r => r.1 := by funext r; by_cases e : r.1 = k <;> simp [e]
    rw [e]; exact h
  · rename_i hn
    rw [List.map_append, List.nodup_append]
    refine ⟨h, by simp, ?_⟩
    intro a ha b hb e
    simp at hb
    obtain ⟨r, hr, rfl⟩ := List.mem_map.mp ha
    exact hn (List.any_eq_true.mpr ⟨r, hr, by simpa [← hb] using e⟩)
theorem putRow_len (rs : List DL.Row) (k : Str) (v : Int) : (putRow rs k v).length ≤ rs.length + 1 := by
  unfold putRow
  split <;> simp
theorem dictRow_go : ∀ (rs acc : List DL.Row), (acc.map (·.1)).Nodup → ((rs.foldl (fun acc r => putRow acc r.1 r.2) acc).map (·.1)).Nodup ∧ (rs.foldl (fun acc r => putRow acc r.1 r.2) acc).length ≤ acc.length + rs.length
  | [], acc, h => ⟨h, by simp⟩
  | r :: rs, acc, h => by
    have h1 := dictRow_go rs _ (putRow_keys acc r.1 r.2 h)
    have h2 := putRow_len acc r.1 r.2
    rw [List.foldl_cons]
    exact ⟨h1.1, by have := h1.2; simp; omega⟩
theorem dictRow_keys (rs : List DL.Row) : ((dictRow rs).map (·.1)).Nodup := (dictRow_go rs [] (by simp)).1
theorem dictRow_len (rs : List DL.Row) : (dictRow rs).length ≤ rs.length := by have := (dictRow_go rs [] (by simp)).2; rw [List.length_nil, Nat.zero_add] at this; exact this
theorem ansOf_d (o : Option Int) : (o.map PyData.int).getD .none = (ansOf o).d := by cases o <;> rfl
@[simp] theorem cut_init {α : Type} (xs : List α) : DL.cutD xs none (some (-1)) = xs.dropLast := by
  unfold DL.cutD
  rw [HT.sIx_none, List.dropLast_eq_take]
  have : HT.sIx xs.length xs.length (some (-1)) = xs.length - 1 := by
    simp [HT.sIx]; omega
  rw [this]; simp
theorem atI_last {α : Type} (xs : List α) : atI xs (-1) = xs.getLast? := by
  unfold atI ixN
  cases xs with
  | nil => simp
  | cons x xs =>
    rw [List.getLast?_eq_getElem?]
    have : (-1 + ((xs.length : Int) + 1)).toNat = xs.length := by omega
    have h2 : (1 : Int) ≤ (xs.length : Int) + 1 := by omega
    simp [this, h2]
theorem pf_counted : ∀ ws n Q, p_counted ws n Q → g_counted (E0 Q) n (startD N_counted ws) := by
  rintro _ n Q ⟨_, _, rfl, s, w, rfl, rfl, hs, hw, hq⟩
  match s, hs with
  | .num i, hs => cases w <;> simp [Wi.ok] at hw <;> simpa [Sv.d, Wi.d, stD, step, An.d] using hq
theorem pf_first_spot : ∀ ws n Q, p_first_spot ws n Q → g_first_spot (E0 Q) n (startD N_first_spot ws) := by
  rintro _ n Q ⟨_, _, rfl, kd, s, rfl, rfl, hq⟩
  cases s <;> simpa [Sv.d, Spot.d] using hq
theorem pf_is_same : ∀ ws n Q, p_is_same ws n Q → g_is_same (E0 Q) n (startD N_is_same ws) := by
  rintro _ n Q ⟨_, _, rfl, x, y, rfl, rfl, hq⟩
  cases x <;> cases y <;> simp [An.d, SeqAt.shaped, PyData.canLay0, PyData.depth, PyData.eqv] at hq ⊢ <;> first | exact hq | skip
  · exact ⟨by omega, hq⟩
  · exact ⟨by omega, hq⟩
  · rename_i i j
    by_cases e : i = j <;> simp [e] at hq ⊢ <;> exact hq
theorem depth_ints : ∀ l : List Int, PyData.depthAll (l.map .int) ≤ 1
  | [] => by simp [PyData.depthAll]
  | i :: l => by simp [PyData.depthAll, PyData.depth]; exact depth_ints l
theorem canLay_ints : ∀ l : List Int, PyData.canLayAll0 (l.map .int) = true
  | [] => rfl
  | i :: l => by simp [PyData.canLayAll0, PyData.canLay0, canLay_ints l]
theorem shaped_ints (l : List Int) : SeqAt.shaped (.tuple (l.map .int)) = true := by
  have := depth_ints l
  simp [SeqAt.shaped, PyData.canLay0, canLay_ints l, PyData.depth]
  omega
@[simp] theorem shaped_nil : SeqAt.shaped (.tuple []) = true := shaped_ints []
@[simp] theorem shaped_cons (a : Int) (l : List Int) : SeqAt.shaped (.tuple (.int a :: l.map .int)) = true := shaped_ints (a :: l)
@[simp] theorem eqv_nil : PyData.eqv (.tuple []) (.tuple []) = true := by simp [PyData.eqv, PyData.eqvAll]
@[simp] theorem eqv_cons (a : PyData) (l : List PyData) : PyData.eqv (.tuple (a :: l)) (.tuple []) = false := by simp [PyData.eqv, PyData.eqvAll]
theorem pf_piled : ∀ ws n Q, p_piled ws n Q → g_piled (E0 Q) n (startD N_piled ws) := by
  rintro _ n Q ⟨_, _, rfl, s, w, rfl, rfl, hs, hw, hq⟩
  match s, hs with
  | .seq l, hs =>
    obtain ⟨h1, h2⟩ := hs
    have h3 : l.length ≤ 1000000 := h1
    have h4 : l.length + 1 ≤ 16777216 := by omega
    cases w <;> simp [Wi.ok] at hw
    · simpa [Sv.d, Wi.d, stD, step, An.d, h4] using hq
    · cases l with
      | nil => simpa [Sv.d, Wi.d, stD, step, An.d] using hq
      | cons a l =>
        have e : ((a :: l).map PyData.int).getLast? = some (.int ((a :: l).getLast (by simp))) := by rw [List.getLast?_map, List.getLast?_eq_some_getLast (by simp)]; rfl
        have e2 : (a :: l).getLast? = some ((a :: l).getLast (by simp)) := List.getLast?_eq_some_getLast (by simp)
        simp only [List.map_cons] at e
        simp only [stD, step, e2, Sv.d, An.d, List.map_dropLast, List.map_cons] at hq
        simp [Sv.d, Wi.d, atI_last, e]
        exact hq
theorem pf_queued : ∀ ws n Q, p_queued ws n Q → g_queued (E0 Q) n (startD N_queued ws) := by
  rintro _ n Q ⟨_, _, rfl, s, w, rfl, rfl, hs, hw, hq⟩
  match s, hs with
  | .seq l, hs =>
    obtain ⟨h1, h2⟩ := hs
    have h3 : l.length ≤ 1000000 := h1
    have h4 : l.length + 1 ≤ 16777216 := by omega
    cases w <;> simp [Wi.ok] at hw
    · simpa [Sv.d, Wi.d, stD, step, An.d, h4] using hq
    · cases l <;> simpa [Sv.d, Wi.d, stD, step, An.d] using hq
theorem len_rsort (l : List DL.Row) : (rsort l).length = l.length := (rsort_perm l).length_eq
theorem pf_tabled : ∀ ws n Q, p_tabled ws n Q → g_tabled (E0 Q) n (startD N_tabled ws) := by
  rintro _ n Q ⟨_, _, rfl, s, w, rfl, rfl, hs, hw, hq⟩
  match s, hs with
  | .tab rs, hs =>
    obtain ⟨h1, h2⟩ := hs
    have h3 := dictRow_len rs
    have h5 := dictRow_keys rs
    have h6 : (dictRow rs).length < 16777216 := by omega
    cases w <;> simp [Wi.ok] at hw
    · rename_i k i
      have h4 := putRow_len (dictRow rs) k i
      have h7 : (putRow (dictRow rs) k i).length < 64 := by omega
      have h8 := putRow_keys (dictRow rs) k i h5
      simpa [Sv.d, Wi.d, stD, step, ← ansOf_d, rowsOf_map, dictR_kR, valD_kR, putD_kR, rowsK_kR, h6, h7, h8] using hq
    · rename_i k
      have h7 : (dictRow rs).length < 64 := by omega
      simpa [Sv.d, Wi.d, stD, step, ← ansOf_d, rowsOf_map, dictR_kR, valD_kR, putD_kR, rowsK_kR, h6, h7, h5] using hq
    · rename_i k
      have h7 : ((dictRow rs).filter fun r => decide (r.1 ≠ k)).length < 64 := by have := List.length_filter_le (fun r : DL.Row => decide (r.1 ≠ k)) (dictRow rs); omega
      have h8 : (((dictRow rs).filter fun r => decide (r.1 ≠ k)).map (·.1)).Nodup := (List.filter_sublist.map _).nodup h5
      simp only [stD, step, Sv.d, ← ansOf_d] at hq
      simp [Sv.d, Wi.d, rowsOf_map, dictR_kR, valD_kR, dropD_kR, rowsK_kR]
      simp only [ne_eq, decide_not] at h7 h8 hq
      simpa using ⟨h7, h8, hq⟩
end WL
set_option Elab.async false
set_option linter.all false
set_option maxRecDepth 100000
set_option maxHeartbeats 4000000
namespace WL
open PySem PySem.Spec PyProof.Rows L2 DL
theorem pf_done (K : PySem.W.Frag) : ∀ ws n Q, p_done ws n Q → g_done K (E0 Q) n (startD N_done ws) := by
  rintro _ n Q ⟨_, _, _, rfl, kd, s, w, rfl, rfl, rfl, hs, hw, hq⟩
  cases kd
  · simp [Kd.d, Kd.s, doT]
    exact .inl ⟨s, rfl, w, rfl, hs, hw, hq⟩
  · simp [Kd.d, Kd.s, doT]
    exact .inr (.inl ⟨s, rfl, w, rfl, hs, hw, hq⟩)
  · simp [Kd.d, Kd.s, doT]
    exact .inr (.inr (.inl ⟨s, rfl, w, rfl, hs, hw, hq⟩))
  · simp [Kd.d, Kd.s, doT]
    exact .inr (.inr (.inr ⟨s, rfl, w, rfl, hs, hw, hq⟩))
theorem pf_law_did : ∀ ws n Q, p_law_did ws n Q → g_law_did (E0 Q) n (startD N_law_did ws) := by
  rintro _ n Q ⟨_, _, _, rfl, kd, s, w, rfl, rfl, rfl, hs, hw, hq⟩
  cases kd
  · match s, hs with
    | .num i, hs => cases w <;> simp [Wi.ok] at hw <;> simpa [Kd.d, Kd.s, Sv.d, Wi.d, stD, step, An.d] using hq
  · match s, hs with
    | .seq l, hs =>
      obtain ⟨h1, h2⟩ := hs
      have h3 : l.length ≤ 1000000 := h1
      have h4 : l.length + 1 ≤ 16777216 := by omega
      cases w <;> simp [Wi.ok] at hw
      · simpa [Kd.d, Kd.s, Sv.d, Wi.d, stD, step, An.d, h4] using hq
      · cases l with
        | nil => simpa [Kd.d, Kd.s, Sv.d, Wi.d, stD, step, An.d] using hq
        | cons a l =>
          have e : ((a :: l).map PyData.int).getLast? = some (.int ((a :: l).getLast (by simp))) := by rw [List.getLast?_map, List.getLast?_eq_some_getLast (by simp)]; rfl
          have e2 : (a :: l).getLast? = some ((a :: l).getLast (by simp)) := List.getLast?_eq_some_getLast (by simp)
          simp only [List.map_cons] at e
          simp only [stD, step, e2, Sv.d, An.d, List.map_dropLast, List.map_cons] at hq
          simp [Kd.d, Kd.s, Sv.d, Wi.d, atI_last, e]
          exact hq
  · match s, hs with
    | .seq l, hs =>
      obtain ⟨h1, h2⟩ := hs
      have h3 : l.length ≤ 1000000 := h1
      have h4 : l.length + 1 ≤ 16777216 := by omega
      cases w <;> simp [Wi.ok] at hw
      · simpa [Kd.d, Kd.s, Sv.d, Wi.d, stD, step, An.d, h4] using hq
      · cases l <;> simpa [Kd.d, Kd.s, Sv.d, Wi.d, stD, step, An.d] using hq
  · match s, hs with
    | .tab rs, hs =>
      obtain ⟨h1, h2⟩ := hs
      have h3 := dictRow_len rs
      have h5 := dictRow_keys rs
      have h6 : (dictRow rs).length < 16777216 := by omega
      cases w <;> simp [Wi.ok] at hw
      · rename_i k i
        have h4 := putRow_len (dictRow rs) k i
        have h7 : (putRow (dictRow rs) k i).length < 64 := by omega
        have h8 := putRow_keys (dictRow rs) k i h5
        simpa [Kd.d, Kd.s, Sv.d, Wi.d, stD, step, ← ansOf_d, rowsOf_map, dictR_kR, valD_kR, putD_kR, rowsK_kR, h6, h7, h8] using hq
      · rename_i k
        have h7 : (dictRow rs).length < 64 := by omega
        simpa [Kd.d, Kd.s, Sv.d, Wi.d, stD, step, ← ansOf_d, rowsOf_map, dictR_kR, valD_kR, putD_kR, rowsK_kR, h6, h7, h5] using hq
      · rename_i k
        have h7 : ((dictRow rs).filter fun r => decide (r.1 ≠ k)).length < 64 := by have := List.length_filter_le (fun r : DL.Row => decide (r.1 ≠ k)) (dictRow rs); omega
        have h8 : (((dictRow rs).filter fun r => decide (r.1 ≠ k)).map (·.1)).Nodup := (List.filter_sublist.map _).nodup h5
        simp only [stD, step, Sv.d, ← ansOf_d] at hq
        simp [Kd.d, Kd.s, Sv.d, Wi.d, rowsOf_map, dictR_kR, valD_kR, dropD_kR, rowsK_kR]
        simp only [ne_eq, decide_not] at h7 h8 hq
        simpa using ⟨h7, h8, hq⟩
end WL
set_option Elab.async false
set_option linter.all false
set_option maxRecDepth 100000
set_option maxHeartbeats 4000000
namespace WL
open PySem PySem.Spec PyProof.Rows L2 DL
@[simp] theorem ex_ex {α β : Type} {p : α → Prop} {f : α → β} {q : β → Prop} : (∃ b, (∃ a, p a ∧ f a = b) ∧ q b) ↔ ∃ a, p a ∧ q (f a) :=
  ⟨fun ⟨_, ⟨a, h1, h2⟩, h3⟩ => ⟨a, h1, by rw [h2]; exact h3⟩, fun ⟨a, h1, h2⟩ => ⟨_, ⟨a, h1, rfl⟩, h2⟩⟩
theorem ex_atI {α : Type} {ds : List α} {r : Int} {q : α → Prop} (h0 : 0 ≤ r) (h1 : r < ds.length) (h : ∀ a ∈ ds, q a) : ∃ a, atI ds r = some a ∧ q a := by
  obtain ⟨j, rfl⟩ := Int.eq_ofNat_of_zero_le h0
  have hj : j < ds.length := by omega
  exact ⟨ds[j], by rw [atI_nat]; simp [hj], h _ (List.getElem_mem hj)⟩
theorem pf_law_one_of : ∀ ws n Q, p_law_one_of ws n Q → g_law_one_of (E0 Q) n (startD N_law_one_of ws) := by
  rintro _ n Q ⟨ds, rfl, h0, h1, h2, hq⟩
  simp
  exact ⟨h0, by omega, h2, fun m r hm hr0 hr1 => ex_atI hr0 hr1 fun a ha => hq _ _ hm ha⟩
theorem pf_law_take : ∀ ws n Q, p_law_take ws n Q → g_law_take (E0 Q) n (startD N_law_take ws) := by
  rintro _ n Q ⟨k, rfl, h0, h1, h2, hq⟩
  have h2' : n + 1 ≤ 1000000000 := h2
  simp
  intro x y z _ _ _ _
  by_cases hx : x ≤ 0
  · refine .inl ⟨hx, ?_⟩
    intro y z _ _ hz0 hz1
    refine ⟨by omega, n + 1, by omega, ?_⟩
    intro y1 z1 _ _ _ _ y2 z2 _ _ _ _ y3 z3 _ _ _ _
    refine ⟨.inl ⟨by omega, by omega⟩, .inl ⟨?_, ?_⟩, ?_⟩
    · have := Int.emod_nonneg ((y1 % 2147483629 + z2 * z3 * 7919 + 11) * 48271) (show (2147483647 : Int) ≠ 0 by decide)
      omega
    · have := Int.emod_lt_of_pos ((y1 % 2147483629 + z2 * z3 * 7919 + 11) * 48271) (show (0 : Int) < 2147483647 by decide)
      omega
    · intro y4 z4 _ _ _ _ y5 z5 _ _ _ _
      exact ⟨h0, hq _ _ (Nat.le_refl _) (Int.emod_nonneg _ (by omega)) (Int.emod_lt_of_pos _ h0)⟩
  · exact .inr ⟨by omega, h0, h1, fun r h3 h4 => hq _ _ (by omega) h3 h4⟩
theorem sorts_ex : ∀ a ∈ [PyData.str "counter", PyData.str "pile", PyData.str "queue", PyData.str "table"], ∃ k : Kd, a = k.d := by
  intro a ha
  simp at ha
  rcases ha with h | h | h | h <;> subst h
  · exact ⟨.counter, rfl⟩
  · exact ⟨.pile, rfl⟩
  · exact ⟨.queue, rfl⟩
  · exact ⟨.table, rfl⟩
theorem pf_law_two_sorts : ∀ ws n Q, p_law_two_sorts ws n Q → g_law_two_sorts (E0 Q) n (startD N_law_two_sorts ws) := by
  rintro _ n Q ⟨rfl, h2, hq⟩
  have h2' : n + 2 ≤ 1000000000 := h2
  simp
  refine ⟨by simp only [lim]; omega, fun m r hm h0 h1 => ex_atI h0 (by simpa using h1) fun a ha => ⟨by simp only [lim]; omega, fun m2 r2 hm2 h3 h4 => ex_atI (by omega) (by simp; omega) fun b hb => ?_⟩⟩
  obtain ⟨x, rfl⟩ := sorts_ex a ha
  obtain ⟨y, rfl⟩ := sorts_ex b hb
  simpa using hq m2 x y (by omega)
theorem pf_law_number : ∀ ws n Q, p_law_number ws n Q → g_law_number (E0 Q) n (startD N_law_number ws) := by
  rintro _ n Q ⟨rfl, h2, hq⟩
  have h2' : n + 4 ≤ 1000000000 := h2
  simp
  refine ⟨by simp only [lim]; omega, fun m r hm h0 h1 => ⟨by simp only [lim]; omega, fun m2 r2 hm2 h3 h4 => ⟨by simp only [lim]; omega, fun m3 r3 hm3 h5 h6 => ex_atI h5 (by simpa using h6) fun a ha => ?_⟩⟩⟩
  have ha' : ∃ i, a = .int i ∧ small 999 i := by
    simp at ha
    rcases ha with h | h <;> subst h <;> exact ⟨_, rfl, by simp [small]⟩
  obtain ⟨i, rfl, hi⟩ := ha'
  refine ⟨by simp only [lim]; omega, fun m4 r4 hm4 h7 h8 => ex_atI h7 (by simpa using h8) fun b hb => ?_⟩
  have s1 : small 999 r := by simp [small]; omega
  have s2 : small 999 (r2 - 5) := by simp [small]; omega
  simp at hb
  rcases hb with h | h | h <;> subst h <;> simp <;> apply hq _ _ (by omega) <;> assumption
theorem pf_law_odd : ∀ ws n Q, p_law_odd ws n Q → g_law_odd (E0 Q) n (startD N_law_odd ws) := by
  rintro _ n Q ⟨rfl, h2, hq⟩
  simp
  refine ⟨h2, fun m d hm hd => hq m d hm ?_⟩
  have e : tidy (Str.ofString "") := by unfold tidy; decide +kernel
  have e2 : tidy (Str.ofString "a") := by unfold tidy; decide +kernel
  rcases hd with h | h | h | h | h | h | h | h | h | h | h | h | h | h | h <;> subst h <;> simp [T, TA, e, e2]
end WL
set_option Elab.async false
set_option linter.all false
set_option maxRecDepth 100000
set_option maxHeartbeats 4000000
namespace WL
open PySem PySem.Spec PyProof.Rows L2 DL
theorem cut_take {α : Type} (xs : List α) (k : Nat) : DL.cutD xs none (some (k : Int)) = xs.take k := by
  unfold DL.cutD
  rw [HT.sIx_none, HT.sIx_nat, List.drop_zero, Nat.sub_zero]
  by_cases h : k ≤ xs.length
  · rw [Nat.min_eq_left h]
  · rw [Nat.min_eq_right (by omega), List.take_of_length_le (Nat.le_refl _), List.take_of_length_le (by omega)]
theorem mem_enumD {ds : List PyData} {d : PyData} (h : d ∈ enumD ds) : ∃ (j : Nat) (a : PyData), d = .tuple [.int j, a] ∧ j < ds.length ∧ a ∈ ds := by
  unfold enumD at h
  obtain ⟨⟨a, j⟩, hp, rfl⟩ := List.mem_map.mp h
  have := List.mem_zipIdx' hp
  exact ⟨j, a, rfl, by omega, by have := this.2; rw [this]; exact List.getElem_mem _⟩
theorem cut_len {α : Type} (xs : List α) (lo hi : Option Int) : (DL.cutD xs lo hi).length ≤ xs.length := by
  unfold DL.cutD
  rw [List.length_take, List.length_drop]
  omega
theorem pf_law_box : ∀ ws n Q, p_law_box ws n Q → g1_law_box { nx := fun m ρ => g_law_box m ρ Q, rt := fun _ _ => False } n (startD N_law_box ws) := by
  rintro _ n Q ⟨l, k, rfl, hk, hl, hq⟩
  simp
  refine ⟨.int l[k], by rw [atI_nat]; simp [hk], ?_⟩
  have h1 := Int.emod_nonneg l[k] (show (2305843009213693951 : Int) ≠ 0 by decide)
  have h2 := Int.emod_lt_of_pos l[k] (show (0 : Int) < 2305843009213693951 by decide)
  simp
  refine ⟨?_, fun p => hq p _ _ (by omega) (by omega)⟩
  refine .inr ?_
  by_cases hc : (1000000000000000000 : Int) ≤ if l[k] < 0 then -l[k] else l[k]
  · rw [if_pos hc]; decide
  · rw [if_neg hc]; decide
theorem pf_law_cells : ∀ ws n Q, p_law_cells ws n Q → g_law_cells (E0 Q) n (startD N_law_cells ws) := by
  rintro _ n Q ⟨ns, rfl, hl, hq⟩
  have e2 : DL.cutD ns none (some 2) = ns.take 2 := cut_take ns 2
  simp
  rw [e2]
  intro p
  have short : ns.length < 2 → DL.cutD ns (some 2) (some 63) = [] := by
    intro h
    unfold DL.cutD
    have : HT.sIx ns.length 0 (some 2) = min 2 ns.length := HT.sIx_nat _ _ 2
    rw [this, Nat.min_eq_right (by omega)]
    simp
  refine ⟨fun h => ?_, fun h => ?_⟩
  · intro p2
    have : ns = [] := by cases ns <;> simp at h ⊢
    subst this
    rw [short (by simp)]
    simpa [enumD, dLoop, intsD] using hq [0] (by simp) (by simp)
  · by_cases h2 : ns.length < 2
    · rw [short h2]
      have : 1 ≤ (ns.take 2).length := List.length_pos_iff.mpr h
      simpa [enumD, dLoop, intsD, List.map_take] using hq (ns.take 2) this (by simp; omega)
    · refine dLoop_ind (I := fun r m ρ => m = n ∧ (∃ l o o2, l.length = 2 ∧ ρ = [some (.scr ns), some (.dat (.int 2)), some (.olst p (l.map PyData.int)), o, o2]) ∧ ∀ d ∈ r, ∃ (j : Nat) (c : Int), d = .tuple [.int j, .int c] ∧ j < 100) ?_ ?_ _ _ _ ⟨rfl, ⟨ns.take 2, none, none, by simp; omega, rfl⟩, ?_⟩
      · rintro m _ ⟨rfl, ⟨l, o, o2, hl2, rfl⟩, _⟩
        simpa using hq l (by omega) (by omega)
      · rintro d r m _ ⟨rfl, ⟨l, o, o2, hl2, rfl⟩, hr⟩ K hK
        obtain ⟨j, c, rfl, hj⟩ := hr d List.mem_cons_self
        have hk : ∀ (x : Int) (i : Nat), i < 2 → K m [some (.scr ns), some (.dat (.int 2)), some (.olst p ((l.map PyData.int).set i (.int x))), some (.dat (.int j)), some (.dat (.int c))] := fun x i _ =>
          hK _ _ ⟨rfl, ⟨l.set i x, _, _, by simpa using hl2, by rw [List.map_set]⟩, fun d hd => hr d (List.mem_cons_of_mem _ hd)⟩
        match l, hl2 with
        | [a, b], _ =>
          have : (j : Int) % 2 = 0 ∨ (j : Int) % 2 = 1 := by omega
          have hj2 : (-18446744073709551616 : Int) < j + 2 ∧ (j : Int) + 2 < 18446744073709551616 := by omega
          rcases this with e | e
          · have := hk (a + c * (j + 2)) 0 (by omega)
            simp at this
            simp [e, hj2, ixN, this]
          · have := hk (b + c * (j + 2)) 1 (by omega)
            simp at this
            simp [e, hj2, ixN, this]
      · intro d hd
        obtain ⟨j, a, rfl, hj, ha⟩ := mem_enumD hd
        obtain ⟨c, _, rfl⟩ := List.mem_map.mp ha
        have := cut_len ns (some 2) (some 63)
        exact ⟨j, c, rfl, by simp at hj; omega⟩
end WL
set_option Elab.async false
set_option linter.all false
set_option maxRecDepth 100000
set_option maxHeartbeats 4000000
namespace WL
open PySem PySem.Spec PyProof.Rows L2 DL
def cD (c : Int × Nat) : Key × PyData := (.inl c.1, .int c.2)
def enumF (k : Nat) (ds : List PyData) : List PyData := (ds.zipIdx k).map fun p => .tuple [.int (p.2 : Int), p.1]
theorem enumD_F (ds : List PyData) : enumD ds = enumF 0 ds := rfl
theorem enumF_cons (k : Nat) (d : PyData) (ds : List PyData) : enumF k (d :: ds) = .tuple [.int (k : Int), d] :: enumF (k + 1) ds := rfl
theorem valD_cD (h : Int) (cs : List (Int × Nat)) : valD (cs.map cD) (.inl h) = (cat cs h).map fun n => .int (n : Int) := by
  unfold valD cat
  rw [List.find?_map, Option.map_map, Option.map_map]
  have e : ((fun kv : Key × PyData => decide (kv.1 = .inl h)) ∘ cD) = fun c => decide (c.1 = h) := by funext c; simp [cD]
  rw [e]
  rfl
theorem putD_cD (cs : List (Int × Nat)) (h : Int) (n : Nat) : putD (cs.map cD) (.inl h) (.int (n : Int)) = (cput cs h n).map cD := by
  unfold putD cput
  have e : ((cs.map cD).any fun kv => decide (kv.1 = .inl h)) = cs.any fun c => decide (c.1 = h) := by
    rw [List.any_map]
    congr 1
    funext c
    simp [cD]
  rw [e]
  split
  · rw [List.map_map, List.map_map]
    apply List.map_congr_left
    intro c _
    by_cases e : c.1 = h <;> simp [cD, e]
  · simp [cD]
theorem cput_len (cs : List (Int × Nat)) (h : Int) (n : Nat) : (cput cs h n).length ≤ cs.length + 1 := by
  unfold cput
  split <;> simp
theorem cut3 (a b c d : PyData) : DL.cutD [a, b, c, d] none (some 3) = [a, b, c] := cut_take [a, b, c, d] 3
theorem ixN_nat {n k : Nat} (h : k < n) : ixN n (k : Int) = some k := by
  unfold ixN
  simp [h]
def RowsInv (n : Nat) (rows : List Rw) (N : Nat) (a : PyData) (r : List PyData) (m : Nat) (ρ : Rho) : Prop :=
  m = n ∧ ∃ (es : List Ev) (place : Nat) (found : List Rw) (cs cs' : List (Int × Nat)) (p q : Addr) (os : List (Option W)), r = enumF place (es.map Ev.d) ∧ rowsGo es place found cs = some (rows, cs') ∧ place + es.length ≤ 60 ∧ found.length ≤ place ∧ cs.length ≤ place ∧
    os.length = N ∧ ρ = some (.dat a) :: some (.olst p (found.map Rw.d)) :: some (.odic q (cs.map cD)) :: os
theorem pf_law_rows : ∀ ws n Q, p_law_rows ws n Q → g_law_rows (E0 Q) n (startD N_law_rows ws) := by
  rintro _ n Q ⟨_, rfl, kd, t, rows, rfl, ht, hq⟩
  obtain ⟨cs', hcs⟩ : ∃ cs', rowsGo t 0 [] [] = some (rows, cs') := by
    have := ht.ok
    unfold rowsOfT at this
    cases h : rowsGo t 0 [] [] with
    | none => rw [h] at this; cases this
    | some x => rw [h] at this; obtain ⟨u, v⟩ := x; cases this; exact ⟨_, rfl⟩
  simp
  intro p q
  refine dLoop_ind (I := RowsInv n rows 4 (talD t)) ?_ ?_ _ _ _ ?_
  rotate_left 2
  · exact ⟨rfl, t, 0, [], [], cs', p, q, _, rfl, hcs, by have := ht.len; omega, by simp, by simp, rfl, rfl⟩
  · rintro m _ ⟨rfl, es, place, found, cs, cs2, p, q, os, he, hg, _, _, _, _, rfl⟩
    cases es with
    | cons e es => simp [enumF] at he
    | nil =>
      cases hg
      simpa using hq
  · rintro d r m _ ⟨rfl, es, place, found, cs, cs2, p, q, os, he, hg, h1, h2, h3, h4, rfl⟩ K hK
    match os, h4 with
    | [o1, o2, o3, o4], _ =>
      cases es with
      | nil => simp [enumF] at he
      | cons e es =>
        rw [List.map_cons, enumF_cons] at he
        cases he
        simp only [List.length_cons] at h1
        cases e with
        | beg h w =>
          have := hK m (some (.dat (talD t)) :: some (.olst p ((found ++ [(⟨h, w, place, none⟩ : Rw)]).map Rw.d)) :: some (.odic q ((cput cs h found.length).map cD)) :: [some (.dat (.int place)), some (.dat (.str "begin")), some (.dat (.int h)), some (.dat w.d)]) ⟨rfl, es, place + 1, _, _, cs2, p, q, _, rfl, hg, by omega, by simp; omega, by have := cput_len cs h found.length; omega, rfl, rfl⟩
          have h5 : found.length < 16777216 := by omega
          have h6 : cs.length < 16777216 := by omega
          simp [Rw.d, finD] at this
          simpa [Ev.d, h5, h6, putD_cD] using this
        | fin h a =>
          simp only [rowsGo] at hg
          cases hc : cat cs h with
          | none => rw [hc] at hg; cases hg
          | some c =>
            rw [hc] at hg
            cases hf : found[c]? with
            | none => simp only [hf] at hg; cases hg
            | some r =>
              simp only [hf] at hg
              have hlt : c < found.length := by
                rcases Nat.lt_or_ge c found.length with h | h
                · exact h
                · rw [List.getElem?_eq_none h] at hf; cases hf
              have := hK m (some (.dat (talD t)) :: some (.olst p ((found.set c (r.setFin place)).map Rw.d)) :: some (.odic q (cs.map cD)) :: [some (.dat (.int place)), some (.dat (.str "end")), some (.dat (.int h)), some (.dat a.d)]) ⟨rfl, es, place + 1, _, _, cs2, p, q, _, rfl, hg, by omega, by simp; omega, by omega, rfl, rfl⟩
              have hx : (found.map Rw.d)[c]? = some r.d := by simp [hf]
              simp only [List.map_set] at this
              have hfe : found[c] = r := by rw [List.getElem?_eq_getElem hlt] at hf; exact Option.some.inj hf
              simp [Ev.d, valD_cD, hc, hfe, atI_nat, hf, Rw.d, cut3, ixN_nat, hlt]
              simpa [Rw.d, Rw.setFin, finD] using this
end WL
set_option Elab.async false
set_option linter.all false
set_option maxRecDepth 100000
set_option maxHeartbeats 4000000
namespace WL
open PySem PySem.Spec PyProof.Rows L2 DL
theorem pf_wishes_in : ∀ ws n Q, p_wishes_in ws n Q → g_wishes_in (E0 Q) n (startD N_wishes_in ws) := by
  rintro _ n Q ⟨_, rfl, kd, t, rows, rfl, ht, hq⟩
  obtain ⟨cs', hcs⟩ : ∃ cs', rowsGo t 0 [] [] = some (rows, cs') := by
    have := ht.ok
    unfold rowsOfT at this
    cases h : rowsGo t 0 [] [] with
    | none => rw [h] at this; cases this
    | some x => rw [h] at this; obtain ⟨u, v⟩ := x; cases this; exact ⟨_, rfl⟩
  simp
  intro p q
  refine dLoop_ind (I := RowsInv n rows 5 (talD t)) ?_ ?_ _ _ _ ?_
  rotate_left 2
  · exact ⟨rfl, t, 0, [], [], cs', p, q, _, rfl, hcs, by have := ht.len; omega, by simp, by simp, rfl, rfl⟩
  · rintro m _ ⟨rfl, es, place, found, cs, cs2, p, q, os, he, hg, _, _, _, _, rfl⟩
    cases es with
    | cons e es => simp [enumF] at he
    | nil =>
      cases hg
      simpa using hq
  · rintro d r m _ ⟨rfl, es, place, found, cs, cs2, p, q, os, he, hg, h1, h2, h3, h4, rfl⟩ K hK
    match os, h4 with
    | [o1, o2, o3, o4, o5], _ =>
      cases es with
      | nil => simp [enumF] at he
      | cons e es =>
        rw [List.map_cons, enumF_cons] at he
        cases he
        simp only [List.length_cons] at h1
        cases e with
        | beg h w =>
          have := hK m (some (.dat (talD t)) :: some (.olst p ((found ++ [(⟨h, w, place, none⟩ : Rw)]).map Rw.d)) :: some (.odic q ((cput cs h found.length).map cD)) :: [some (.dat (.int place)), some (.dat (.str "begin")), some (.dat (.int h)), some (.dat w.d), o5]) ⟨rfl, es, place + 1, _, _, cs2, p, q, _, rfl, hg, by omega, by simp; omega, by have := cput_len cs h found.length; omega, rfl, rfl⟩
          have h5 : found.length < 16777216 := by omega
          have h6 : cs.length < 16777216 := by omega
          simp [Rw.d, finD] at this
          simpa [Ev.d, h5, h6, putD_cD] using this
        | fin h a =>
          simp only [rowsGo] at hg
          cases hc : cat cs h with
          | none => rw [hc] at hg; cases hg
          | some c =>
            rw [hc] at hg
            cases hf : found[c]? with
            | none => simp only [hf] at hg; cases hg
            | some r =>
              simp only [hf] at hg
              have hlt : c < found.length := by
                rcases Nat.lt_or_ge c found.length with h | h
                · exact h
                · rw [List.getElem?_eq_none h] at hf; cases hf
              have := hK m (some (.dat (talD t)) :: some (.olst p ((found.set c (r.setFin place)).map Rw.d)) :: some (.odic q (cs.map cD)) :: [some (.dat (.int place)), some (.dat (.str "end")), some (.dat (.int h)), some (.dat a.d), some (.dat (.int c))]) ⟨rfl, es, place + 1, _, _, cs2, p, q, _, rfl, hg, by omega, by simp; omega, by omega, rfl, rfl⟩
              have hx : (found.map Rw.d)[c]? = some r.d := by simp [hf]
              simp only [List.map_set] at this
              have hfe : found[c] = r := by rw [List.getElem?_eq_getElem hlt] at hf; exact Option.some.inj hf
              simp [Ev.d, valD_cD, hc, hfe, atI_nat, hf, Rw.d, cut3, ixN_nat, hlt]
              simpa [Rw.d, Rw.setFin, finD] using this
end WL
set_option Elab.async false
set_option linter.all false
set_option maxRecDepth 100000
set_option maxHeartbeats 4000000
namespace WL
open PySem PySem.Spec PyProof.Rows L2 DL
theorem shaped_lst (l : List Int) : SeqAt.shaped (.list (l.map .int)) = true := by
  have := depth_ints l
  simp [SeqAt.shaped, PyData.canLay0, canLay_ints l, PyData.depth]
  omega
theorem shaped_int (i : Int) : SeqAt.shaped (.int i) = true := by simp [SeqAt.shaped, PyData.canLay0, PyData.depth]
theorem any_ints (i : Int) : ∀ l : List Int, ((l.map PyData.int).any fun z => PyData.eqv z (.int i)) = decide (i ∈ l)
  | [] => by simp
  | j :: l => by
    rw [List.map_cons, List.any_cons, any_ints i l]
    by_cases e : j = i
    · subst e; simp [PyData.eqv]
    · have e' : ¬ i = j := fun h => e h.symm
      simp [PyData.eqv, e, e']
theorem in_seq (i : Int) (cs : List Int) : inW (.dat (.int i)) (.dat (.list (cs.map .int))) = some (decide (i ∈ cs)) := by
  show (if (SeqAt.shaped (.int i) && SeqAt.shaped (.list (cs.map PyData.int))) = true then some ((cs.map PyData.int).any fun z => PyData.eqv z (.int i)) else none) = _
  rw [shaped_lst, shaped_int, any_ints]
  rfl
theorem in_tup (i : Int) (cs : List Int) : inW (.dat (.int i)) (.dat (.tuple (cs.map .int))) = some (decide (i ∈ cs)) := by
  simp [inW, intsOf_map]
theorem in_either {cs : List Int} {b : PyData} (h : b = .list (cs.map PyData.int) ∨ b = .tuple (cs.map PyData.int)) (i : Int) : inW (.dat (.int i)) (.dat b) = some (decide (i ∈ cs)) := by
  rcases h with h | h <;> subst h
  · exact in_seq i cs
  · exact in_tup i cs
/-- what is kept of an enumeration -/
theorem enumF_all {P : PyData → Prop} : ∀ (l : List PyData) (k : Nat), (∀ (i : Nat) d, l[i]? = some d → P (.tuple [.int ((k + i : Nat) : Int), d])) → ∀ x ∈ enumF k l, P x
  | [], k, h, x, hx => by simp [enumF] at hx
  | d :: l, k, h, x, hx => by
    rw [enumF_cons] at hx
    rcases List.mem_cons.mp hx with e | e
    · subst e; exact h 0 d rfl
    · exact enumF_all l (k + 1) (fun i d hd => by have := h (i + 1) d (by simpa using hd); rwa [show k + (i + 1) = k + 1 + i by omega] at this) x e
theorem pf_Tale_is_all (K : PySem.W.Frag) : ∀ ws n Q, p_Tale_is_all (He.ga K "Tale") ws n Q → g_Tale_is_all K (E0 Q) n (startD N_Tale_is_all ws) := by
  rintro ws n Q ⟨kd, t, rows, cs, hw, ht, hq⟩
  obtain ⟨b, hb, rfl⟩ : ∃ b, (b = .list (cs.map PyData.int) ∨ b = .tuple (cs.map PyData.int)) ∧ ws = [.ins (He.ga K "Tale") (taleF kd t rows), .dat b] := by
    rcases hw with h | h
    · exact ⟨_, .inl rfl, h⟩
    · exact ⟨_, .inr rfl, h⟩
  have hin := in_either hb
  have hlen : (endedOf rows).length ≤ 20 := by
    have h1 := List.length_filter_le (fun i => ((rows[i]?).bind (·.fin)).isSome) (List.range rows.length)
    have := ht.nrow
    simp [endedOf] at h1 ⊢
    omega
  simp
  refine dlc_map (fun d => .bool (match d with | .int i => decide (i ∈ cs) | _ => false)) ?_ (by rw [List.length_map]; omega) ?_
  · intro d hd acc K ha hk
    obtain ⟨i, _, rfl⟩ := List.mem_map.mp hd
    by_cases e : (i : Int) ∈ cs <;> simp [e] at hk <;> simpa [hin, ha, e] using hk
  · rw [boolsOf_map]
    simpa [isAllF, List.all_map, Function.comp_def, memI] using hq
end WL
set_option Elab.async false
set_option linter.all false
set_option maxRecDepth 100000
set_option maxHeartbeats 4000000
namespace WL
open PySem PySem.Spec PyProof.Rows L2 DL
theorem enumF_fm {α β : Type} (g : α → PyData) (f : PyData → Option β) (h : Nat → Option β) : ∀ (l : List α) (k : Nat), (∀ i a, l[i]? = some a → f (.tuple [.int ((k + i : Nat) : Int), g a]) = h (k + i)) → (enumF k (l.map g)).filterMap f = (List.range' k l.length).filterMap h
  | [], k, e => rfl
  | a :: l, k, e => by
    have e0 := e 0 a rfl
    rw [List.map_cons, enumF_cons, List.length_cons, List.range'_succ, List.filterMap_cons, List.filterMap_cons, enumF_fm g f h l (k + 1) fun i b hb => by have := e (i + 1) b (by simpa using hb); rwa [show k + (i + 1) = k + 1 + i by omega] at this]
    rw [Nat.add_zero] at e0
    rw [e0]
theorem enum_fm {α β : Type} (g : α → PyData) (f : PyData → Option β) (h : Nat → Option β) (l : List α) (e : ∀ (i : Nat) a, l[i]? = some a → f (.tuple [.int (i : Int), g a]) = h i) : (enumD (l.map g)).filterMap f = (List.range l.length).filterMap h := by
  rw [enumD_F, enumF_fm g f h l 0 fun i a hi => by rw [Nat.zero_add]; exact e i a hi, List.range_eq_range']
theorem filter_fm {α β : Type} (p : α → Bool) (q : α → β) : ∀ l : List α, (l.filter p).map q = l.filterMap fun i => if p i = true then some (q i) else none
  | [] => rfl
  | a :: l => by
    rw [List.filter_cons, List.filterMap_cons, ← filter_fm p q l]
    by_cases h : p a = true <;> simp [h]
theorem enumD_len (ds : List PyData) : (enumD ds).length = ds.length := by simp [enumD]
theorem mem_enum {α : Type} {g : α → PyData} {l : List α} {d : PyData} (h : d ∈ enumD (l.map g)) : ∃ (i : Nat) (a : α), l[i]? = some a ∧ d = .tuple [.int (i : Int), g a] := by
  unfold enumD at h
  obtain ⟨⟨x, j⟩, hp, rfl⟩ := List.mem_map.mp h
  have h2 := List.mem_zipIdx' hp
  have h3 : (l.map g)[j]? = some x := (List.getElem?_eq_getElem h2.1).trans (congrArg some h2.2.symm)
  rw [List.getElem?_map] at h3
  cases e : l[j]? with
  | none => rw [e] at h3; cases h3
  | some a => rw [e] at h3; cases h3; exact ⟨j, a, e, rfl⟩
/-- a row's end -/
def rowFin : PyData → Option (Int × PyData)
  | .tuple [.int k, .tuple [_, _, _, e]] => some (k, e)
  | _ => none
theorem pf_law_is_all : ∀ ws n Q, p_law_is_all ws n Q → g_law_is_all (E0 Q) n (startD N_law_is_all ws) := by
  rintro _ n Q ⟨_, b, rfl, kd, t, rows, cs, rfl, hb, ht, hq⟩
  have hin := in_either hb
  have hn := ht.nrow
  simp
  refine dlc_fm (fun d => match rowFin d with | some (k, .int _) => some (.bool (decide (k ∈ cs))) | _ => none) ?_ (by rw [enumD_len, List.length_map]; omega) ?_
  · intro d hd acc K ha hk
    obtain ⟨i, r, hr, rfl⟩ := mem_enum hd
    cases hf : r.fin with
    | none => simpa [Rw.d, finD, rowFin, hf] using hk
    | some e => by_cases c : (i : Int) ∈ cs <;> simp [Rw.d, finD, rowFin, hf, c] at hk <;> simpa [Rw.d, finD, hf, hin, ha, c] using hk
  · rw [enum_fm Rw.d _ (fun i => if (((rows[i]?).bind (·.fin)).isSome) = true then some (.bool (memI i cs)) else none) rows ?_, ← filter_fm, boolsOf_map]
    · simpa [isAllF, endedOf, List.all_map, Function.comp_def] using hq
    · intro i r hr
      cases hf : r.fin <;> simp [hr, hf, rowFin, Rw.d, finD, memI]
theorem pf_law_ahead : ∀ ws n Q, p_law_ahead ws n Q → g_law_ahead (E0 Q) n (startD N_law_ahead ws) := by
  rintro _ n Q ⟨_, _, rfl, kd, t, rows, c, rfl, rfl, hc, ht, hq⟩
  have hn := ht.nrow
  obtain ⟨u, hu⟩ : ∃ u, rows[c]? = some u := ⟨_, List.getElem?_eq_getElem hc⟩
  have hu2 : atI (rows.map Rw.d) (c : Int) = some u.d := by rw [atI_nat]; simp [hu]
  simp
  refine dlc_fm (fun d => match rowFin d with | some (k, .int e) => if e < u.beg then some (.int k) else none | _ => none) ?_ (by rw [enumD_len, List.length_map]; omega) ?_
  · intro d hd acc K ha hk
    obtain ⟨i, r, hr, rfl⟩ := mem_enum hd
    cases hf : r.fin with
    | none => simpa [Rw.d, finD, rowFin, hf] using hk
    | some e =>
      by_cases c1 : (e : Int) < u.beg
      · simp [Rw.d, finD, rowFin, hf, c1] at hk
        rw [show u.d = PyData.tuple [.int u.hand, u.wish.d, .int u.beg, finD u.fin] from rfl] at hu2
        simpa [Rw.d, finD, hf, hu2, ha, c1] using hk
      · simp [Rw.d, finD, rowFin, hf, c1] at hk
        rw [show u.d = PyData.tuple [.int u.hand, u.wish.d, .int u.beg, finD u.fin] from rfl] at hu2
        simpa [Rw.d, finD, hf, hu2, ha, c1] using hk
  · rw [enum_fm Rw.d _ (fun i => if (match (rows[i]?).bind (·.fin), rows[c]? with | some e, some r => decide (e < r.beg) | _, _ => false) = true then some (.int (i : Int)) else none) rows ?_]
    · rw [← filter_fm]
      exact hq
    · intro i r hr
      cases hf : r.fin with
      | none => simp [hr, hf, rowFin, Rw.d, finD]
      | some e => by_cases c1 : e < u.beg <;> simp [hr, hf, hu, rowFin, Rw.d, finD, c1]
end WL
set_option Elab.async false
set_option linter.all false
set_option maxRecDepth 100000
set_option maxHeartbeats 4000000
namespace WL
open PySem PySem.Spec PyProof.Rows L2 DL
/-- how an answer is shown -/
def An.t : An → Str
  | .none => Str.ofString "None"
  | .tru => Str.ofString "True"
  | .int i => Str.ofString (toString i)
theorem reprA (x : An) (h : x.ok 1000000) : reprSW [.dat x.d] = some (.dat (.str x.t)) := by
  cases x with
  | none => rfl
  | tru => rfl
  | int i =>
    have h2 : i.natAbs ≤ 1000000 := h
    have h3 : i.natAbs < 1000000000 := by omega
    simp [An.d, h3]
    rfl
theorem int_no (s : String) (k : Nat) (hk : k ≠ 45 ∧ (k < 48 ∨ 57 < k)) (hs : k ∈ (Str.ofString s).cps.toList) (i : Int) : ¬ i.repr = s := by
  intro e
  subst e
  exact int_text_free' k hk i hs
theorem An.t_inj (x y : An) : x.t = y.t ↔ x = y := by
  have n1 : ∀ i : Int, ¬ i.repr = "None" := int_no "None" 78 (by decide) (by decide +kernel)
  have n2 : ∀ i : Int, ¬ i.repr = "True" := int_no "True" 84 (by decide) (by decide +kernel)
  have n3 : ∀ i : Int, ¬ "None" = i.repr := fun i e => n1 i e.symm
  have n4 : ∀ i : Int, ¬ "True" = i.repr := fun i e => n2 i e.symm
  cases x <;> cases y <;> simp [An.t, n1, n2, n3, n4]
theorem pf_law_fits : ∀ ws n Q, p_law_fits ws n Q → g_law_fits (E0 Q) n (startD N_law_fits ws) := by
  rintro _ n Q ⟨_, _, _, rfl, kd, t, rows, r, x, rfl, rfl, rfl, ht, hr, hx, hq⟩
  cases hf : r.fin with
  | none => simp [hf] at hq; simpa [Rw.d, finD, hf] using hq
  | some e =>
    obtain ⟨h, a, ha⟩ := ht.fin r hr e hf
    have hm : Ev.fin h a ∈ t := List.mem_of_getElem? ha
    have hok := (ht.ans h a hm).1
    have h1 : atI (t.map Ev.d) (e : Int) = some (Ev.d (.fin h a)) := by rw [atI_nat]; simp [ha]
    have hs : saidAt t e = a := by simp [saidAt, ha]
    simp [hf, hs] at hq
    have e1 : decide (a.t = x.t) = decide (x = a) := by
      by_cases c : x = a
      · simp [c]
      · have : ¬ a.t = x.t := fun h => c ((An.t_inj a x).mp h).symm
        simp [c, this]
    rw [← e1] at hq
    simp [Rw.d, finD, hf, h1, Ev.d, -reprSW, reprA _ hx, reprA _ hok]
    exact hq
end WL
set_option Elab.async false
set_option linter.all false
set_option maxRecDepth 100000
set_option maxHeartbeats 4000000
namespace WL
open PySem PySem.Spec PyProof.Rows L2 DL
def dFin : PyData → Option PyData
  | .tuple [_, _, _, e] => some e
  | _ => none
def saidR (t : List Ev) (d : PyData) : PyData := match d with
  | .tuple [_, _, _, .int e] => (saidAt t e.toNat).d
  | _ => .none
theorem saidR_d (t : List Ev) (r : Rw) : saidR t r.d = saidD t r := by
  cases hf : r.fin <;> simp [saidR, saidD, Rw.d, finD, hf]
def aheadR (rows : List Rw) (d : PyData) : PyData := match d with
  | .tuple [_, _, .int b, _] => .list (((endedOf rows).filter fun i => match (rows[i]?).bind (·.fin) with | some (e : Nat) => decide ((e : Int) < b) | _ => false).map fun (i : Nat) => PyData.int (i : Int))
  | _ => .none
def endedR (d : PyData) : Option PyData := match d with
  | .tuple [.int k, .tuple [_, _, _, .int _]] => some (.int k)
  | _ => none
theorem aheadR_d (rows : List Rw) (c : Nat) (r : Rw) (h : rows[c]? = some r) : aheadR rows r.d = .list ((aheadOf rows c).map fun (i : Nat) => PyData.int (i : Int)) := by
  simp only [aheadR, Rw.d, aheadOf, endedOf, List.filter_filter, h]
  congr 2
  apply List.filter_congr
  intro i _
  cases (rows[i]?).bind (·.fin) <;> simp
theorem map_range {α β : Type} (f : α → β) (g : Nat → β) (l : List α) (h : ∀ (i : Nat) a, l[i]? = some a → f a = g i) : l.map f = (List.range l.length).map g := by
  apply List.ext_getElem?
  intro i
  rw [List.getElem?_map, List.getElem?_map]
  by_cases hi : i < l.length
  · rw [List.getElem?_range hi, List.getElem?_eq_getElem hi]
    simp [h i l[i] (List.getElem?_eq_getElem hi)]
  · rw [List.getElem?_eq_none (by omega), List.getElem?_eq_none (by simp; omega)]
    rfl
def aheadK (rows : List Rw) (b : Int) : PyData → Option PyData
  | .int k => (match (rows[k.toNat]?).bind (·.fin) with | some (e : Nat) => if (e : Int) < b then some (.int k) else none | _ => none)
  | _ => none
theorem ended_at {rows : List Rw} {i : Nat} (h : i ∈ endedOf rows) : ∃ r e, rows[i]? = some r ∧ r.fin = some e ∧ i < rows.length := by
  unfold endedOf at h
  obtain ⟨h1, h2⟩ := List.mem_filter.mp h
  have h3 := List.mem_range.mp h1
  rw [List.getElem?_eq_getElem h3] at h2 ⊢
  cases hf : rows[i].fin with
  | none => simp [hf] at h2
  | some e => exact ⟨_, e, rfl, hf, h3⟩
theorem ended_len (rows : List Rw) : (endedOf rows).length ≤ rows.length := by
  have h1 := List.length_filter_le (fun i => ((rows[i]?).bind (·.fin)).isSome) (List.range rows.length)
  simp [endedOf] at h1 ⊢
  omega
theorem pf_Tale_init (K : PySem.W.Frag) : ∀ ws n Q p, p_Tale_init ws n Q → g_Tale_init K { nx := fun m ρ => ∃ fs, ρ[0]? = some (some (.oins p (He.ga K "Tale") fs)) ∧ Q fs m, rt := fun _ _ => False } n (startD N_Tale_init (.oins p (He.ga K "Tale") [] :: ws)) := by
  rintro _ n Q p ⟨kd, t, rows, rfl, ht, hq⟩
  have hn := ht.nrow
  have hlen := ended_len rows
  simp [putFD, List.lookup]
  refine ⟨kd, t, rfl, rows, ht, ?_⟩
  refine dlc_map (saidR t) ?_ (by rw [List.length_map]; omega) ?_
  · intro d hd acc K ha hk
    obtain ⟨r, hr, rfl⟩ := List.mem_map.mp hd
    rw [saidR_d] at hk
    cases hf : r.fin with
    | none => simp [saidD, hf] at hk; simpa [Rw.d, finD, hf, ha] using hk
    | some e =>
      obtain ⟨h, a, hta⟩ := ht.fin r hr e hf
      have h1 : atI (t.map Ev.d) (e : Int) = some (Ev.d (.fin h a)) := by rw [atI_nat]; simp [hta]
      simp [saidD, hf, saidAt, hta] at hk
      simpa [Rw.d, finD, hf, ha, h1, Ev.d] using hk
  · simp [putFD, List.lookup]
    refine dlc_fm endedR ?_ (by rw [enumD_len, List.length_map]; omega) ?_
    · intro d hd acc K ha hk
      obtain ⟨i, r, hr, rfl⟩ := mem_enum hd
      cases hf : r.fin with
      | none => simp [Rw.d, finD, endedR, hf] at hk; simpa [Rw.d, finD, endedR, hf] using hk
      | some e => simp [Rw.d, finD, endedR, hf] at hk; simpa [Rw.d, finD, hf, ha] using hk
    · have he : (enumD (rows.map Rw.d)).filterMap endedR = (endedOf rows).map fun (i : Nat) => PyData.int (i : Int) := by
        rw [enum_fm Rw.d _ (fun i => if (((rows[i]?).bind (·.fin)).isSome) = true then some (.int (i : Int)) else none) rows ?_, ← filter_fm]
        · rfl
        · intro i r hr
          cases hf : r.fin <;> simp [hr, hf, endedR, Rw.d, finD]
      rw [he]
      refine dlc_map (aheadR rows) ?_ (by rw [List.length_map]; omega) ?_
      · intro d hd acc K ha hk
        obtain ⟨r, hr, rfl⟩ := List.mem_map.mp hd
        simp [List.lookup]
        refine dlc_fm (aheadK rows r.beg) ?_ (by rw [List.length_map]; omega) ?_
        · intro d hd acc2 K2 ha2 hk2
          obtain ⟨i, hi, rfl⟩ := List.mem_map.mp hd
          obtain ⟨r2, e, h1, h2, h3⟩ := ended_at hi
          have h4 : atI (rows.map Rw.d) (i : Int) = some r2.d := by rw [atI_nat]; simp [h1]
          by_cases c : (e : Int) < r.beg
          · simp [aheadK, h1, h2, c] at hk2
            simpa [List.lookup, Rw.d, h4, finD, h2, c, ha2] using hk2
          · simp [aheadK, h1, h2, c] at hk2
            simpa [List.lookup, Rw.d, h4, finD, h2, c, ha2] using hk2
        · simp [ha]
          have e3 : aheadR rows r.d = .list ((endedOf rows).filterMap (aheadK rows r.beg ∘ fun (i : Nat) => PyData.int (i : Int))) := by
            simp only [aheadR, Rw.d]
            rw [filter_fm]
            congr 2
            funext i
            simp only [Function.comp_def, aheadK, Int.toNat_natCast]
            cases (rows[i]?).bind (·.fin) <;> simp
          rw [← e3]
          exact hk
      · simp [putFD, List.lookup]
        rw [map_range (aheadR rows ∘ Rw.d) (fun c => .list ((aheadOf rows c).map fun (i : Nat) => PyData.int (i : Int))) rows (fun c r h => aheadR_d rows c r h), List.map_congr_left (f := saidR t ∘ Rw.d) (g := saidD t) (fun r _ => saidR_d t r)]
        exact hq
end WL
set_option Elab.async false
set_option linter.all false
set_option maxRecDepth 100000
set_option maxHeartbeats 4000000
namespace WL
open PySem PySem.Spec PyProof.Rows L2 DL
/-! ### what a step keeps -/
theorem putRow_all {A : Int → Prop} {B : Str → Prop} {rs : List DL.Row} {k : Str} {v : Int} (h : ∀ r ∈ rs, A r.2 ∧ B r.1) (ha : A v) (hb : B k) : ∀ r ∈ putRow rs k v, A r.2 ∧ B r.1 := by
  intro r hr
  unfold putRow at hr
  split at hr
  · obtain ⟨x, hx, e⟩ := List.mem_map.mp hr
    have := h x hx
    by_cases c : x.1 = k
    · rw [if_pos c] at e; subst e; exact ⟨ha, this.2⟩
    · rw [if_neg c] at e; subst e; exact this
  · rcases List.mem_append.mp hr with e | e
    · exact h r e
    · rw [List.mem_singleton] at e; subst e; exact ⟨ha, hb⟩
theorem dictRow_all {A : Int → Prop} {B : Str → Prop} {rs : List DL.Row} (h : ∀ r ∈ rs, A r.2 ∧ B r.1) : ∀ r ∈ dictRow rs, A r.2 ∧ B r.1 := by
  have go : ∀ (l acc : List DL.Row), (∀ r ∈ l, A r.2 ∧ B r.1) → (∀ r ∈ acc, A r.2 ∧ B r.1) → ∀ r ∈ l.foldl (fun acc r => putRow acc r.1 r.2) acc, A r.2 ∧ B r.1 := by
    intro l
    induction l with
    | nil => intro acc _ h; exact h
    | cons a l ih =>
      intro acc h1 h2
      have := h1 a List.mem_cons_self
      exact ih _ (fun r hr => h1 r (List.mem_cons_of_mem _ hr)) (putRow_all h2 this.1 this.2)
  exact go rs [] h (by simp)
theorem lookRow_all {A : Int → Prop} {B : Str → Prop} {rs : List DL.Row} {k : Str} {i : Int} (h : ∀ r ∈ rs, A r.2 ∧ B r.1) (e : lookRow rs k = some i) : A i := by
  unfold lookRow at e
  obtain ⟨r, h1, h2⟩ := Option.map_eq_some_iff.mp e
  subst h2
  exact (h r (List.mem_of_find?_eq_some h1)).1
theorem small_le {a b : Nat} {i : Int} (h : small a i) (hab : a ≤ b) : small b i := Nat.le_trans h hab
/-- the state is of the sort's make -/
def shp : Kd → Sv → Prop
  | .counter, .num _ => True
  | .pile, .seq _ => True
  | .queue, .seq _ => True
  | .table, .tab _ => True
  | _, _ => False
theorem shp_sok {a b : Nat} {kd : Kd} {s : Sv} (h : sok a b kd s) : shp kd s := by cases kd <;> cases s <;> first | trivial | exact h
theorem shp_ok {b : Nat} {kd : Kd} {s : Sv} (h : Sv.ok b kd s) : shp kd s := by cases kd <;> cases s <;> first | trivial | exact h
theorem sok_mono {a b a' b' : Nat} {kd : Kd} {s : Sv} (h : sok a b kd s) (ha : a ≤ a') (hb : b ≤ b') : sok a' b' kd s := by
  cases kd <;> cases s <;> first | exact h.elim | skip
  · exact small_le h hb
  · exact ⟨Nat.le_trans h.1 ha, fun i hi => small_le (h.2 i hi) hb⟩
  · exact ⟨Nat.le_trans h.1 ha, fun i hi => small_le (h.2 i hi) hb⟩
  · exact ⟨Nat.le_trans h.1 ha, fun r hr => ⟨small_le (h.2 r hr).1 hb, (h.2 r hr).2⟩⟩
theorem sok_ok {a b B : Nat} {kd : Kd} {s : Sv} (h : sok a b kd s) (ha : a ≤ 50) (hb : b ≤ B) (haB : a ≤ B) : Sv.ok B kd s := by
  cases kd <;> cases s <;> first | exact h.elim | skip
  · exact small_le h hb
  · exact ⟨Nat.le_trans h.1 haB, fun i hi => small_le (h.2 i hi) hb⟩
  · exact ⟨Nat.le_trans h.1 haB, fun i hi => small_le (h.2 i hi) hb⟩
  · exact ⟨Nat.le_trans h.1 ha, fun r hr => ⟨small_le (h.2 r hr).1 hb, Nat.le_trans (h.2 r hr).2.1 (by decide)⟩⟩
theorem svOf_d {kd : Kd} {s : Sv} (h : shp kd s) : svOf kd s.d = s := by
  cases kd <;> cases s <;> first | exact h.elim | skip
  · rfl
  · simp [svOf, Sv.d, intOf, Function.comp_def]
  · simp [svOf, Sv.d, intOf, Function.comp_def]
  · simp [svOf, Sv.d, rowOf, rowD, Function.comp_def]
theorem step_shp {kd : Kd} {s : Sv} {w : Wi} (h : shp kd s) (hw : Wi.ok kd w) : shp kd (step kd s w).1 := by
  cases kd <;> cases s <;> first | exact h.elim | skip
  · cases w <;> first | exact hw.elim | trivial
  · rename_i l
    cases w <;> first | exact hw.elim | skip
    · trivial
    · simp only [step]; cases l.getLast? <;> trivial
  · rename_i l
    cases w <;> first | exact hw.elim | skip
    · trivial
    · cases l <;> trivial
  · cases w <;> first | exact hw.elim | trivial
theorem step_sok {a b : Nat} {kd : Kd} {s : Sv} {w : Wi} (h : sok a b kd s) (hw : Wi.ok kd w) : sok (a + 1) (b + 1000) kd (step kd s w).1 := by
  cases kd <;> cases s <;> first | exact h.elim | skip
  · rename_i s
    have h' : s.natAbs ≤ b := h
    cases w <;> first | exact hw.elim | skip
    · rename_i i
      have hw' : i.natAbs ≤ 1000 := hw
      show (s + i).natAbs ≤ b + 1000
      omega
    · rename_i i
      have hw' : i.natAbs ≤ 1000 := hw
      show (if i > s then i else s).natAbs ≤ b + 1000
      split <;> omega
    · show s.natAbs ≤ b + 1000
      omega
  · rename_i l
    have put : ∀ i, small 1000 i → sok (a + 1) (b + 1000) .pile (.seq (l ++ [i])) := fun i hi => ⟨by simpa using h.1, fun j hj => by
      rcases List.mem_append.mp hj with e | e
      · exact small_le (h.2 j e) (by omega)
      · rw [List.mem_singleton] at e; subst e; exact small_le hi (by omega)⟩
    cases w <;> first | exact hw.elim | skip
    · exact put _ hw
    · simp only [step]
      cases e : l.getLast? with
      | none => exact ⟨by simp, by simp⟩
      | some x => exact ⟨by have := h.1; simp; omega, fun j hj => small_le (h.2 j ((List.dropLast_sublist _).subset hj)) (by omega)⟩
  · rename_i l
    cases w <;> first | exact hw.elim | skip
    · rename_i i
      exact ⟨by simpa using h.1, fun j hj => by
        rcases List.mem_append.mp hj with e | e
        · exact small_le (h.2 j e) (by omega)
        · rw [List.mem_singleton] at e; subst e; exact small_le hw (by omega)⟩
    · cases l with
      | nil => exact ⟨by simp [step], by simp [step]⟩
      | cons x l => exact ⟨by have := h.1; simp at this ⊢; omega, fun j hj => small_le (h.2 j (List.mem_cons_of_mem _ hj)) (by omega)⟩
  · rename_i rs
    have hd := dictRow_all (A := small b) (B := tidy) h.2
    have hl := dictRow_len rs
    have h1 : rs.length ≤ a := h.1
    cases w <;> first | exact hw.elim | skip
    · rename_i k i
      refine ⟨?_, fun r hr => ?_⟩
      · have := putRow_len (dictRow rs) k i
        have e : (rsort (putRow (dictRow rs) k i)).length = (putRow (dictRow rs) k i).length := len_rsort _
        omega
      · have := putRow_all (A := small (b + 1000)) (B := tidy) (rs := dictRow rs) (k := k) (v := i) (fun r hr => ⟨small_le (hd r hr).1 (by omega), (hd r hr).2⟩) (small_le hw.1 (by omega)) hw.2
        exact this r ((rsort_perm _).mem_iff.mp hr)
    · rename_i k
      refine ⟨?_, fun r hr => ?_⟩
      · have e : (rsort (dictRow rs)).length = (dictRow rs).length := len_rsort _
        show (rsort (dictRow rs)).length ≤ _
        omega
      · have := hd r ((rsort_perm _).mem_iff.mp hr)
        exact ⟨small_le this.1 (by omega), this.2⟩
    · rename_i k
      refine ⟨?_, fun r hr => ?_⟩
      · have e : (rsort ((dictRow rs).filter fun r => decide (r.1 ≠ k))).length = ((dictRow rs).filter fun r => decide (r.1 ≠ k)).length := len_rsort _
        have := List.length_filter_le (fun r : DL.Row => decide (r.1 ≠ k)) (dictRow rs)
        show (rsort ((dictRow rs).filter fun r => decide (r.1 ≠ k))).length ≤ _
        omega
      · have := hd r (List.mem_filter.mp ((rsort_perm _).mem_iff.mp hr)).1
        exact ⟨small_le this.1 (by omega), this.2⟩
theorem step_ans {B : Nat} {kd : Kd} {s : Sv} {w : Wi} (h : Sv.ok B kd s) (hw : Wi.ok kd w) : (step kd s w).2.ok B := by
  cases kd <;> cases s <;> first | exact h.elim | skip
  · cases w <;> first | exact hw.elim | exact h
  · rename_i l
    cases w <;> first | exact hw.elim | skip
    · trivial
    · simp only [step]
      cases e : l.getLast? with
      | none => trivial
      | some x => exact h.2 x (List.mem_of_getLast? e)
  · rename_i l
    cases w <;> first | exact hw.elim | skip
    · trivial
    · cases l with
      | nil => trivial
      | cons x l => exact h.2 x List.mem_cons_self
  · rename_i rs
    have hd := dictRow_all (A := small B) (B := fun z => z.length ≤ 1000) h.2
    have look : ∀ k, (ansOf (lookRow (dictRow rs) k)).ok B := fun k => by
      cases e : lookRow (dictRow rs) k with
      | none => trivial
      | some i => exact lookRow_all (A := small B) (B := fun z => z.length ≤ 1000) hd e
    cases w <;> first | exact hw.elim | exact look _
/-! ### the spots behind -/
def aftF (kd : Kd) (t : List Ev) (rows : List Rw) (p : Spot) (i : Nat) : Option (Nat × Spot) := match rows[i]? with
  | none => none
  | some r =>
    if (!memI i p.1 && (aheadOf rows i).all fun n => memI n p.1) = true then
      (let q := step kd p.2 r.wish
       if (match r.fin with | none => true | some e => decide (q.2 = saidAt t e)) = true then some (i, (isort (p.1 ++ [(i : Int)]), q.1)) else none)
    else none
theorem afterF_eq (kd : Kd) (t : List Ev) (rows : List Rw) (p : Spot) : afterF kd t rows p = (List.range rows.length).filterMap (aftF kd t rows p) := rfl
def fitsB (t : List Ev) (r : Rw) (x : An) : Bool := match r.fin with | none => true | some e => decide (x = saidAt t e)
theorem aftF_at {kd : Kd} {t : List Ev} {rows : List Rw} {p : Spot} {i : Nat} {r : Rw} (h : rows[i]? = some r) : aftF kd t rows p i =
    if (!memI i p.1 && (aheadOf rows i).all fun n => memI n p.1) = true then (if fitsB t r (step kd p.2 r.wish).2 = true then some (i, (isort (p.1 ++ [(i : Int)]), (step kd p.2 r.wish).1)) else none) else none := by
  unfold aftF
  rw [h]
  rfl
theorem aftF_some {kd : Kd} {t : List Ev} {rows : List Rw} {p : Spot} {i : Nat} {x : Nat × Spot} (h : aftF kd t rows p i = some x) : ∃ r, rows[i]? = some r ∧ memI i p.1 = false ∧ ((aheadOf rows i).all fun n => memI n p.1) = true ∧ fitsB t r (step kd p.2 r.wish).2 = true ∧ x = (i, (isort (p.1 ++ [(i : Int)]), (step kd p.2 r.wish).1)) := by
  cases hr : rows[i]? with
  | none => unfold aftF at h; rw [hr] at h; cases h
  | some r =>
    rw [aftF_at hr] at h
    by_cases c : (!memI i p.1 && (aheadOf rows i).all fun n => memI n p.1) = true
    · rw [if_pos c] at h
      by_cases c2 : fitsB t r (step kd p.2 r.wish).2 = true
      · rw [if_pos c2] at h
        simp only [Bool.and_eq_true, Bool.not_eq_true'] at c
        exact ⟨r, rfl, c.1, c.2, c2, (Option.some.inj h).symm⟩
      · rw [if_neg c2] at h; cases h
    · rw [if_neg c] at h; cases h
theorem afterF_mem {kd : Kd} {t : List Ev} {rows : List Rw} {p : Spot} {x : Nat × Spot} (h : x ∈ afterF kd t rows p) : ∃ r, rows[x.1]? = some r ∧ x.1 < rows.length ∧ memI x.1 p.1 = false ∧ x.2 = (isort (p.1 ++ [(x.1 : Int)]), (step kd p.2 r.wish).1) := by
  rw [afterF_eq] at h
  obtain ⟨i, hi, e⟩ := List.mem_filterMap.mp h
  obtain ⟨r, h1, h2, _, _, h5⟩ := aftF_some e
  subst h5
  exact ⟨r, h1, List.mem_range.mp hi, h2, rfl⟩
theorem lookN_after {kd : Kd} {t : List Ev} {rows : List Rw} {p : Spot} (c : Nat) : lookN (afterF kd t rows p) (c : Int) = (aftF kd t rows p c).map (·.2) := by
  have key : ∀ (l : List Nat), lookN (l.filterMap (aftF kd t rows p)) (c : Int) = if c ∈ l then (aftF kd t rows p c).map (·.2) else none := by
    intro l
    induction l with
    | nil => rfl
    | cons i l ih =>
      rw [List.filterMap_cons]
      cases e : aftF kd t rows p i with
      | none =>
        simp only
        rw [ih]
        by_cases hc : c = i
        · subst hc
          simp [e]
        · simp [hc]
      | some x =>
        obtain ⟨r, _, _, _, _, h5⟩ := aftF_some e
        simp only
        unfold lookN at ih ⊢
        rw [List.find?_cons]
        by_cases hc : i = c
        · subst hc
          simp [h5, e]
        · have hc' : ¬ ((i : Int) = (c : Int)) := by omega
          have hc2 : ¬ c = i := fun h => hc h.symm
          simp only [h5, hc', decide_false, List.mem_cons, hc2, false_or]
          exact ih
  rw [afterF_eq, key]
  by_cases hc : c < rows.length
  · simp [List.mem_range, hc]
  · have : rows[c]? = none := List.getElem?_eq_none (by omega)
    have e : aftF kd t rows p c = none := by unfold aftF; rw [this]
    simp [List.mem_range, hc, e]
end WL
set_option Elab.async false
set_option linter.all false
set_option maxRecDepth 100000
set_option maxHeartbeats 4000000
namespace WL
open PySem PySem.Spec PyProof.Rows L2 DL
/-! ### spots as keys -/
mutual
theorem nk_depth : ∀ (d : PyData) (k : NestedKey), nkOf d = some k → k.depth ≤ d.depth
  | .none, k, e => by simp [nkOf] at e; subst e; simp [NestedKey.depth]
  | .int i, k, e => by simp [nkOf] at e; subst e; simp [NestedKey.depth]
  | .str x, k, e => by simp [nkOf] at e; subst e; simp [NestedKey.depth]
  | .tuple ds, k, e => by
    simp only [nkOf, Option.map_eq_some_iff] at e
    obtain ⟨ks, h1, h2⟩ := e
    subst h2
    have := nk_depths ds ks h1
    simp only [NestedKey.depth, PyData.depth]
    omega
  | .bool _, k, e => by simp [nkOf] at e
  | .list _, k, e => by simp [nkOf] at e
  | .dict _, k, e => by simp [nkOf] at e
theorem nk_depths : ∀ (ds : List PyData) (ks : List NestedKey), nkAll ds = some ks → NestedKey.depthAll ks ≤ PyData.depthAll ds
  | [], ks, e => by simp [nkAll] at e; subst e; simp [NestedKey.depthAll]
  | d :: ds, ks, e => by
    simp only [nkAll] at e
    split at e
    · rename_i k ks' h1 h2
      cases e
      have := nk_depth d k h1
      have := nk_depths ds ks' h2
      simp only [NestedKey.depthAll, PyData.depthAll]
      omega
    · cases e
end
theorem nkAll_ints : ∀ l : List Int, ∃ ks, nkAll (l.map .int) = some ks
  | [] => ⟨[], rfl⟩
  | i :: l => by
    obtain ⟨ks, h⟩ := nkAll_ints l
    exact ⟨.num i :: ks, by simp [nkAll, nkOf, h]⟩
theorem nkAll_rows : ∀ l : List DL.Row, ∃ ks, nkAll (l.map rowD) = some ks
  | [] => ⟨[], rfl⟩
  | r :: l => by
    obtain ⟨ks, h⟩ := nkAll_rows l
    exact ⟨.tup [.text r.1, .num r.2] :: ks, by simp [nkAll, nkOf, h, rowD]⟩
theorem depth_rows : ∀ l : List DL.Row, PyData.depthAll (l.map rowD) ≤ 1
  | [] => by simp [PyData.depthAll]
  | r :: l => by
    have := depth_rows l
    simp only [List.map_cons, PyData.depthAll, rowD, PyData.depth] at this ⊢
    omega
theorem nk_sv (s : Sv) : ∃ k, nkOf s.d = some k ∧ s.d.depth ≤ 2 := by
  cases s with
  | num i => exact ⟨_, rfl, by simp [Sv.d, PyData.depth]⟩
  | seq l =>
    obtain ⟨ks, h⟩ := nkAll_ints l
    have := depth_ints l
    refine ⟨.tup ks, by simp [Sv.d, nkOf, h], ?_⟩
    simp only [Sv.d, PyData.depth]
    omega
  | tab l =>
    obtain ⟨ks, h⟩ := nkAll_rows l
    have := depth_rows l
    refine ⟨.tup ks, by simp [Sv.d, nkOf, h], ?_⟩
    simp only [Sv.d, PyData.depth]
    omega
theorem nk_spot (p : Spot) : ∃ k, nkT (Spot.d p) = some k := by
  obtain ⟨k, h1, h2⟩ := nk_sv p.2
  obtain ⟨ks, h3⟩ := nkAll_ints p.1
  have e : nkOf (Spot.d p) = some (.tup [.tup ks, k]) := by simp [Spot.d, nkOf, nkAll, h1, h3]
  refine ⟨.tup [.tup ks, k], ?_⟩
  · have h4 := nk_depth _ _ e
    have h5 := depth_ints p.1
    simp only [Spot.d, PyData.depth, PyData.depthAll] at h4
    unfold nkT
    simp only [Spot.d] at e ⊢
    rw [e]
    have : (NestedKey.tup [.tup ks, k]).depth ≤ 8 := by omega
    simp [this]
theorem nkT_inj {a b : PyData} {k : NestedKey} (h1 : nkT a = some k) (h2 : nkT b = some k) : a = b := by
  have go : ∀ {c : PyData}, nkT c = some k → k.data = c := by
    intro c h
    unfold nkT at h
    split at h
    · obtain ⟨k', h3, h4⟩ := Option.bind_eq_some_iff.mp h
      split at h4
      · cases h4; exact nk_data _ _ h3
      · cases h4
    · cases h
  rw [← go h1, ← go h2]
theorem isState_sv {kd : Kd} {d : PyData} (h : isState kd d = true) : shp kd (svOf kd d) ∧ d = Sv.d (svOf kd d) := by
  have hIn : ∀ ds : List PyData, ds.all isNum = true → ds = (ds.map intOf).map .int := by
    intro ds
    induction ds with
    | nil => intro _; rfl
    | cons a ds ih =>
      intro h
      rw [List.all_cons, Bool.and_eq_true] at h
      cases a <;> simp [isNum] at h
      simp only [List.map_cons, intOf]
      rw [← ih (List.all_eq_true.mpr h)]
  cases kd
  · cases d <;> simp [isState, isNum] at h
    exact ⟨trivial, rfl⟩
  · cases d <;> simp only [isState] at h <;> first | cases h | skip
    exact ⟨trivial, by simp only [svOf, Sv.d]; rw [← hIn _ h]⟩
  · cases d <;> simp only [isState] at h <;> first | cases h | skip
    exact ⟨trivial, by simp only [svOf, Sv.d]; rw [← hIn _ h]⟩
  · cases d <;> simp only [isState] at h <;> first | cases h | skip
    rename_i ds
    rw [Bool.and_eq_true] at h
    have hRo : ∀ ds : List PyData, ds.all isRow = true → ds = (ds.map rowOf).map rowD := by
      intro ds
      induction ds with
      | nil => intro _; rfl
      | cons a ds ih =>
        intro h
        rw [List.all_cons, Bool.and_eq_true] at h
        obtain ⟨k, v, rfl, _⟩ := isRow_of h.1
        simp only [List.map_cons, rowOf, rowD]
        rw [← ih h.2]
    exact ⟨trivial, by simp only [svOf, Sv.d]; rw [← hRo _ h.1]⟩
theorem isSpot_d {kd : Kd} {m : Nat} {d : PyData} (h : isSpot kd m d = true) : d = Spot.d (spotOf kd d) ∧ shp kd (spotOf kd d).2 := by
  unfold isSpot at h
  split at h
  · rename_i cs s
    simp only [Bool.and_eq_true] at h
    obtain ⟨h1, h2⟩ := isState_sv h.1.1
    obtain ⟨l, rfl, _⟩ := belows (k := (m : Int)) h.1.2
    have e : (l.map PyData.int).map intOf = l := by simp [intOf, Function.comp_def]
    refine ⟨?_, h1⟩
    simp only [spotOf, Spot.d, e]
    rw [← h2]
  · cases h
theorem memI_iff {n : Nat} {l : List Int} : memI n l = true ↔ (n : Int) ∈ l := by simp [memI]
theorem isAll_mono {rows : List Rw} {a b : List Int} (h : isAllF rows a = true) (hab : ∀ i ∈ a, i ∈ b) : isAllF rows b = true := by
  unfold isAllF at h ⊢
  rw [List.all_eq_true] at h ⊢
  intro n hn
  exact memI_iff.mpr (hab _ (memI_iff.mp (h n hn)))
theorem path_end {kd : Kd} {t : List Ev} {rows : List Rw} {ds : List PyData} (hw : ∀ r ∈ rows, r.wish.ok kd)
    (hs : ∀ c ∈ ds, isSpot kd rows.length c = true) (ha : ∀ c ∈ ds, ∀ q ∈ afterF kd t rows (spotOf kd c), ∃ e ∈ ds, nkT e = nkT (Spot.d q.2)) :
    ∀ (cs : List Int) (p : Spot), pathF kd t rows cs p = true → shp kd p.2 → (∃ e ∈ ds, nkT e = nkT (Spot.d p)) →
      ∃ p' : Spot, shp kd p'.2 ∧ (∃ e ∈ ds, nkT e = nkT (Spot.d p')) ∧ (∀ i ∈ p.1, i ∈ p'.1) ∧ ∀ i ∈ cs, i ∈ p'.1
  | [], p, _, h1, h2 => ⟨p, h1, h2, fun _ h => h, by simp⟩
  | c :: cs, p, hp, h1, h2 => by
    unfold pathF at hp
    cases e : lookN (afterF kd t rows p) c with
    | none => rw [e] at hp; cases hp
    | some q =>
      rw [e] at hp
      simp only at hp
      unfold lookN at e
      obtain ⟨x, e1, e2⟩ := Option.map_eq_some_iff.mp e
      have e3 := List.mem_of_find?_eq_some e1
      have e4 := List.find?_some e1
      simp only [decide_eq_true_eq] at e4
      subst e2
      obtain ⟨r, hr1, _, _, hr4⟩ := afterF_mem e3
      obtain ⟨y, hy1, hy2⟩ := h2
      obtain ⟨k, hk⟩ := nk_spot p
      have hyp : y = Spot.d p := nkT_inj (hy2.trans hk) hk
      have hsp : spotOf kd y = p := by
        rw [hyp]
        have := svOf_d h1
        obtain ⟨a, b⟩ := p
        simp only [spotOf, Spot.d]
        simp only at this
        rw [this]
        simp [intOf, Function.comp_def]
      have hq := ha y hy1 x (by rw [hsp]; exact e3)
      have hws : shp kd x.2.2 := by rw [hr4]; exact step_shp h1 (hw r (List.mem_of_getElem? hr1))
      obtain ⟨p', a1, a2, a3, a4⟩ := path_end hw hs ha cs x.2 hp hws hq
      have in1 : ∀ i, i ∈ x.2.1 ↔ i ∈ p.1 ∨ i = c := by
        intro i
        rw [hr4]
        simp only
        rw [(isort_perm _).mem_iff, List.mem_append, List.mem_singleton, e4]
      refine ⟨p', a1, a2, fun i hi => a3 i ((in1 i).mpr (.inl hi)), fun i hi => ?_⟩
      rcases List.mem_cons.mp hi with h | h
      · exact a3 i ((in1 i).mpr (.inr h))
      · exact a4 i h
theorem no_both {kd : Kd} {t : List Ev} {rows : List Rw} {o : Sv} {d1 d2 : PyData} (hw : ∀ r ∈ rows, r.wish.ok kd) (ho : shp kd o) (h1 : orderF kd t rows o d1 = true) (h2 : unlinedF kd t rows o d2 = true) : False := by
  unfold orderF at h1
  split at h1
  · rename_i es
    simp only [Bool.and_eq_true] at h1
    obtain ⟨_, _, ha, hp⟩ := h1
    unfold unlinedF at h2
    split at h2
    · rename_i ds
      simp only [Bool.and_eq_true, List.all_eq_true, decide_eq_true_eq, Bool.not_eq_true'] at h2
      obtain ⟨hs, _, hf, hc⟩ := h2
      obtain ⟨e, he1, he2⟩ := List.mem_map.mp hf
      obtain ⟨p', a1, ⟨y, hy1, hy2⟩, a3, a4⟩ := path_end (ds := ds) hw hs (fun c hc2 q hq => by
        obtain ⟨e, h3, h4⟩ := List.mem_map.mp ((hc c hc2).2 q hq)
        exact ⟨e, h3, h4⟩) _ _ hp ho ⟨e, he1, he2⟩
      obtain ⟨k, hk⟩ := nk_spot p'
      have hyp : y = Spot.d p' := nkT_inj (hy2.trans hk) hk
      have hsp : spotOf kd y = p' := by
        rw [hyp]
        have := svOf_d a1
        obtain ⟨a, b⟩ := p'
        simp only [spotOf, Spot.d]
        simp only at this
        rw [this]
        simp [intOf, Function.comp_def]
      have h3 := (hc y hy1).1
      rw [hsp, isAll_mono ha a4] at h3
      cases h3
    · cases h2
  · cases h1
end WL
set_option Elab.async false
set_option linter.all false
set_option maxRecDepth 100000
set_option maxHeartbeats 4000000
namespace WL
open PySem PySem.Spec PyProof.Rows L2 DL
theorem aft_succ (kd : Kd) (t : List Ev) (rows : List Rw) (p : Spot) (k : Nat) : (List.range (k + 1)).filterMap (aftF kd t rows p) = (List.range k).filterMap (aftF kd t rows p) ++ (aftF kd t rows p k).toList := by
  rw [List.range_succ, List.filterMap_append, List.filterMap_cons, List.filterMap_nil]
  cases aftF kd t rows p k <;> rfl
theorem aft_lt {kd : Kd} {t : List Ev} {rows : List Rw} {p : Spot} {k : Nat} {x : Nat × Spot} (h : x ∈ (List.range k).filterMap (aftF kd t rows p)) : x.1 < k := by
  obtain ⟨i, hi, e⟩ := List.mem_filterMap.mp h
  obtain ⟨r, _, _, _, _, h5⟩ := aftF_some e
  subst h5
  exact List.mem_range.mp hi
theorem aft_len (kd : Kd) (t : List Ev) (rows : List Rw) (p : Spot) (k : Nat) : (behD ((List.range k).filterMap (aftF kd t rows p))).length ≤ k := by
  have := List.length_filterMap_le (aftF kd t rows p) (List.range k)
  simpa [behD] using this
theorem putD_new {l : List (Nat × Spot)} {k : Nat} {q : Spot} (h : ∀ x ∈ l, x.1 < k) : putD (behD l) (.inl (k : Int)) (Spot.d q) = behD (l ++ [(k, q)]) := by
  unfold putD
  have : ((behD l).any fun kv => decide (kv.1 = .inl (k : Int))) = false := by
    rw [List.any_eq_false]
    intro x hx
    obtain ⟨y, hy, rfl⟩ := List.mem_map.mp hx
    have := h y hy
    simp
    omega
  rw [this]
  simp [behD]
def BehInv (n : Nat) (kd : Kd) (t : List Ev) (rows : List Rw) (p : Spot) (N : Nat) (a : Rho) (r : List PyData) (m : Nat) (ρ : Rho) : Prop :=
  m = n ∧ ∃ (k : Nat) (q : Addr) (os : List (Option W)), r = enumF k ((rows.drop k).map Rw.d) ∧ k ≤ rows.length ∧ os.length = N ∧ ρ = a ++ some (.odic q (behD ((List.range k).filterMap (aftF kd t rows p)))) :: os
theorem pf_Tale_behind (K : PySem.W.Frag) : ∀ ws n Q, p_Tale_behind (He.ga K "Tale") ws n Q → g_Tale_behind K (E0 Q) n (startD N_Tale_behind ws) := by
  rintro _ n Q ⟨kd, t, rows, p, rfl, ht, hs, hp, hq⟩
  have hn := ht.nrow
  simp [Spot.d]
  intro q
  refine dLoop_ind (I := BehInv n kd t rows p 8 [some (.ins (He.ga K "Tale") (taleF kd t rows)), some (.dat (Spot.d p)), some (.dat (.tuple (p.1.map .int))), some (.dat p.2.d)]) ?_ ?_ _ _ _ ?_
  rotate_left 2
  · exact ⟨rfl, 0, q, _, rfl, Nat.zero_le _, rfl, rfl⟩
  · rintro m _ ⟨rfl, k, q, os, he, hk, _, rfl⟩
    have : k = rows.length := by
      rcases Nat.lt_or_ge k rows.length with h | h
      · rw [List.drop_eq_getElem_cons h, List.map_cons, enumF_cons] at he; cases he
      · omega
    subst this
    simpa [afterF_eq] using hq
  · rintro d r m _ ⟨rfl, k, q, os, he, hk, h8, rfl⟩ K2 hK
    match os, h8 with
    | [o1, o2, o3, o4, o5, o6, o7, o8], _ =>
      have hlt : k < rows.length := by
        rcases Nat.lt_or_ge k rows.length with h | h
        · exact h
        · rw [List.drop_eq_nil_of_le h] at he; simp [enumF] at he
      rw [List.drop_eq_getElem_cons hlt, List.map_cons, enumF_cons] at he
      cases he
      have hr : rows[k]? = some rows[k] := List.getElem?_eq_getElem hlt
      generalize rows[k] = u at hr
      have hu : u ∈ rows := List.mem_of_getElem? hr
      have next : ∀ os : List (Option W), os.length = 8 → K2 m ([some (.ins (He.ga K "Tale") (taleF kd t rows)), some (.dat (Spot.d p)), some (.dat (.tuple (p.1.map .int))), some (.dat p.2.d)] ++ some (.odic q (behD ((List.range (k + 1)).filterMap (aftF kd t rows p)))) :: os) := fun os h => hK _ _ ⟨rfl, k + 1, q, os, rfl, hlt, h, rfl⟩
      rw [aft_succ, aftF_at hr] at next
      have hin := in_tup (k : Int) p.1
      have hw := ht.wish u hu
      by_cases c1 : (k : Int) ∈ p.1
      · have e1 : memI k p.1 = true := memI_iff.mpr c1
        have := next [some (.dat (.int k)), some (.dat (.int u.hand)), some (.dat u.wish.d), some (.dat (.int u.beg)), some (.dat (finD u.fin)), o6, o7, o8] rfl
        rw [e1] at this
        simp at this
        simpa [Rw.d, hin, c1] using this
      · have e1 : memI k p.1 = false := by simpa [memI] using c1
        have hat : atI ((List.range rows.length).map fun c => PyData.list ((aheadOf rows c).map fun (i : Nat) => PyData.int (i : Int))) (k : Int) = some (PyData.list ((aheadOf rows k).map fun (i : Nat) => PyData.int (i : Int))) := by
          rw [atI_nat, List.getElem?_map, List.getElem?_range hlt]; rfl
        have hal : (aheadOf rows k).length ≤ rows.length := by
          have := List.length_filter_le (fun i => match (rows[i]?).bind (·.fin), rows[k]? with | some e, some r => decide (e < r.beg) | _, _ => false) (List.range rows.length)
          rw [List.length_range] at this
          exact this
        rw [e1] at next
        simp [Rw.d, hin, c1, hat]
        refine dlc_map (fun d => .bool (match d with | .int i => decide (i ∈ p.1) | _ => false)) ?_ (by rw [List.length_map]; omega) ?_
        · intro d hd acc K ha hk
          obtain ⟨i, _, rfl⟩ := List.mem_map.mp hd
          have hin2 := in_tup (i : Int) p.1
          by_cases e : (i : Int) ∈ p.1 <;> simp [e] at hk <;> simpa [hin2, ha, e] using hk
        refine ⟨_, boolsOf_map _ _, ?_⟩
        rw [List.map_map]
        by_cases c2 : ((aheadOf rows k).all fun n => memI n p.1) = true
        · refine .inr ⟨?_, ?_⟩
          · intro hm
            obtain ⟨i, hi, e⟩ := List.mem_map.mp hm
            have := List.all_eq_true.mp c2 i hi
            simp [memI] at this e
            exact e this
          · rw [c2] at next
            have e2 : ((!false && true) = true) = True := by simp
            simp only [e2, if_true] at next
            refine ⟨p.2, rfl, u.wish, rfl, hs, hw, _, rfl, rfl, _, _, rfl, _, _, rfl, rfl, ?_⟩
            have hio : intsOf (p.1.map PyData.int ++ [PyData.int (k : Int)]) = some (p.1 ++ [(k : Int)]) := by
              rw [show p.1.map PyData.int ++ [PyData.int (k : Int)] = (p.1 ++ [(k : Int)]).map PyData.int by simp, intsOf_map]
            have hbl : (behD ((List.range k).filterMap (aftF kd t rows p))).length < 16777216 := by have := aft_len kd t rows p k; omega
            have ep := putD_new (l := (List.range k).filterMap (aftF kd t rows p)) (k := k) (q := (isort (p.1 ++ [(k : Int)]), (step kd p.2 u.wish).1)) (fun x hx => aft_lt hx)
            cases hf : u.fin with
            | none =>
              have hfit : fitsB t u (step kd p.2 u.wish).2 = true := by simp [fitsB, hf]
              rw [hfit] at next
              simp only [if_true, Option.toList_some] at next
              rw [← ep] at next
              exact .inr ⟨rfl, by omega, _, hio, hbl, next [some (.dat (.int k)), some (.dat (.int u.hand)), some (.dat u.wish.d), some (.dat (.int u.beg)), some (.dat (finD none)), some (.dat (step kd p.2 u.wish).1.d), some (.dat (step kd p.2 u.wish).2.d), o8] rfl⟩
            | some e =>
              have hsa : atI (rows.map (saidD t)) (k : Int) = some (saidAt t e).d := by
                rw [atI_nat, List.getElem?_map, hr]
                simp [saidD, hf]
              refine .inl ⟨rfl, _, hsa, _, rfl, _, rfl, ?_⟩
              by_cases c3 : (step kd p.2 u.wish).2 = saidAt t e
              · have hfit : fitsB t u (step kd p.2 u.wish).2 = true := by simp [fitsB, hf, c3]
                rw [hfit] at next
                simp only [if_true, Option.toList_some] at next
                rw [← ep] at next
                exact .inr ⟨c3, by omega, _, hio, hbl, next [some (.dat (.int k)), some (.dat (.int u.hand)), some (.dat u.wish.d), some (.dat (.int u.beg)), some (.dat (finD (some e))), some (.dat (step kd p.2 u.wish).1.d), some (.dat (step kd p.2 u.wish).2.d), o8] rfl⟩
              · have hfit : fitsB t u (step kd p.2 u.wish).2 = false := by simp [fitsB, hf, c3]
                rw [hfit] at next
                have := next [some (.dat (.int k)), some (.dat (.int u.hand)), some (.dat u.wish.d), some (.dat (.int u.beg)), some (.dat (finD (some e))), some (.dat (step kd p.2 u.wish).1.d), some (.dat (step kd p.2 u.wish).2.d), o8] rfl
                simp at this
                exact .inl ⟨c3, this⟩
        · refine .inl ⟨?_, ?_⟩
          · rw [Bool.not_eq_true, List.all_eq_false] at c2
            obtain ⟨i, hi, e⟩ := c2
            refine List.mem_map.mpr ⟨i, hi, ?_⟩
            simp [memI] at e
            simp [e]
          · rw [Bool.not_eq_true] at c2
            rw [c2] at next
            have := next [some (.dat (.int k)), some (.dat (.int u.hand)), some (.dat u.wish.d), some (.dat (.int u.beg)), some (.dat (finD u.fin)), o6, o7, o8] rfl
            simpa using this
end WL
set_option Elab.async false
set_option linter.all false
set_option maxRecDepth 100000
set_option maxHeartbeats 4000000
namespace WL
open PySem PySem.Spec PyProof.Rows L2 DL
theorem dedup_nodup : ∀ (l acc : List Int), (l.foldl step_dedup acc).length ≤ acc.length + l.length ∧ ((l.foldl step_dedup acc).length = acc.length + l.length → acc.Nodup → (acc ++ l).Nodup)
  | [], acc => ⟨by simp, fun _ h => by simpa using h⟩
  | a :: l, acc => by
    rw [List.foldl_cons]
    have ih := dedup_nodup l (step_dedup acc a)
    unfold step_dedup at ih ⊢
    by_cases c : (acc.any (· == a)) = true
    · rw [if_pos c] at ih ⊢
      refine ⟨by simp only [List.length_cons]; omega, fun h => ?_⟩
      simp only [List.length_cons] at h
      omega
    · rw [if_neg c] at ih ⊢
      simp only [List.length_append, List.length_cons, List.length_nil] at ih ⊢
      refine ⟨by omega, fun h hn => ?_⟩
      have : a ∉ acc := fun h => c (List.any_eq_true.mpr ⟨a, h, by simp⟩)
      have h2 : (acc ++ [a]).Nodup := by
        rw [List.nodup_append]
        refine ⟨hn, by simp, fun x hx y hy e => ?_⟩
        rw [List.mem_singleton] at hy
        subst hy; subst e; exact this hx
      have := ih.2 (by omega) h2
      simpa using this
theorem dst_iff (ns : List Int) : dst ns = ns.length ↔ ns.Nodup := by
  have e : (List.range ns.length).map (fun i => ns.getD i 0) = ns := by
    apply List.ext_getElem?
    intro i
    rw [List.getElem?_map]
    by_cases hi : i < ns.length
    · rw [List.getElem?_range hi, List.getElem?_eq_getElem hi]
      simp [hi]
    · rw [List.getElem?_eq_none (by simp; omega), List.getElem?_eq_none (by omega)]
      rfl
  constructor
  · intro h
    unfold dst PyProof.Rows.firstMet at h
    rw [e] at h
    simpa using (dedup_nodup ns []).2 (by simpa using h) (by simp)
  · intro h
    unfold dst
    rw [firstMet_nodup ns h ns.length (Nat.le_refl _), List.take_of_length_le (Nat.le_refl _)]
theorem nodup_len : ∀ (n : Nat) (l : List Int), l.Nodup → (∀ i ∈ l, 0 ≤ i ∧ i < (n : Int)) → l.length ≤ n
  | 0, l, _, h => by
    cases l with
    | nil => simp
    | cons a l => have := h a List.mem_cons_self; omega
  | n + 1, l, hn, h => by
    by_cases c : (n : Int) ∈ l
    · have h1 := nodup_len n (l.erase n) (hn.erase _) fun i hi => by
        have h2 := (hn.mem_erase_iff).mp hi
        have := h i h2.2
        have h3 := h2.1
        omega
      rw [List.length_erase_of_mem c] at h1
      omega
    · have := nodup_len n l hn fun i hi => by
        have h1 := h i hi
        have h2 : i ≠ n := fun e => c (e ▸ hi)
        omega
      omega
theorem valD_beh (l : List (Nat × Spot)) (c : Int) : valD (behD l) (.inl c) = (lookN l c).map Spot.d := by
  unfold valD behD lookN
  rw [List.find?_map, Option.map_map, Option.map_map]
  have e : ((fun kv : Key × PyData => decide (kv.1 = .inl c)) ∘ fun x : Nat × Spot => ((.inl (x.1 : Int), Spot.d x.2) : Key × PyData)) = fun x => decide ((x.1 : Int) = c) := by funext x; simp
  rw [e]
  rfl
theorem tf_no {kd : Kd} {t : List Ev} {rows : List Rw} {s : String} (h : s ≠ "kind" ∧ s ≠ "rows" ∧ s ≠ "said" ∧ s ≠ "ended" ∧ s ≠ "aheads") : ∀ (a : Str) (b : PyData), (a, b) ∈ taleF kd t rows → ¬Str.ofString s = a := by
  intro a b hm
  simp [taleF] at hm
  rcases hm with ⟨e, _⟩ | ⟨e, _⟩ | ⟨e, _⟩ | ⟨e, _⟩ | ⟨e, _⟩ <;> subst e <;> simp [h]
theorem lookN_mem {l : List (Nat × Spot)} {c : Int} {q : Spot} (h : lookN l c = some q) : ∃ x ∈ l, (x.1 : Int) = c ∧ x.2 = q := by
  unfold lookN at h
  obtain ⟨x, e1, e2⟩ := Option.map_eq_some_iff.mp h
  have := List.find?_some e1
  simp only [decide_eq_true_eq] at this
  exact ⟨x, List.mem_of_find?_eq_some e1, this, e2⟩
theorem pf_shows_order (K : PySem.W.Frag) : ∀ ws n Q, p_shows_order ws n Q → g_shows_order K (E0 Q) n (startD N_shows_order ws) := by
  rintro _ n Q ⟨_, _, d, _, rfl, kd, t, rows, o, rfl, rfl, rfl, ht, ho, hd, hq⟩
  have hn := ht.nrow
  cases d
  case dict => have := hd.1; simp [nice] at this
  case list ds =>
    simp
    refine ⟨kd, t, rows, rfl, ht, o, rfl, ?_⟩
    obtain ⟨hn1, hn2⟩ := nice_lst hd.1
    refine dlc_map (fun d => .bool (isBelow d rows.length)) ?_ (by omega) ?_
    · intro d hd2 acc K ha hk
      simpa [hn2 d hd2, ha] using hk
    refine ⟨_, boolsOf_map _ _, ?_⟩
    by_cases hb : (ds.all fun c => isBelow c rows.length) = true
    · obtain ⟨cs, rfl, hcs⟩ := belows hb
      refine .inr ⟨?_, cs, rfl, ?_, ?_⟩
      · intro hm
        obtain ⟨x, hx, e⟩ := List.mem_map.mp hm
        rw [List.all_eq_true] at hb
        rw [hb x hx] at e
        cases e
      · have := (hd.2 _ rfl).1
        simp at this
        omega
      have hint : (cs.map PyData.int).map intOf = cs := by simp [intOf, Function.comp_def]
      simp only [orderF, hint, hb, Bool.true_and] at hq
      by_cases hnd : cs.Nodup
      · refine .inl ⟨by rw [(dst_iff cs).mpr hnd]; simp, tf_no (by decide), ?_⟩
        refine ⟨kd, t, rows, cs, .inl rfl, ht, ?_⟩
        have hlen := nodup_len rows.length cs hnd hcs
        cases ha : isAllF rows cs with
        | false => rw [ha] at hq; simp at hq; exact .inl ⟨rfl, hq⟩
        | true =>
          rw [ha] at hq
          simp only [hnd, decide_true, Bool.true_and] at hq
          refine .inr ⟨rfl, ?_⟩
          refine dLoop_ind (I := fun r m ρ => m = n ∧ ∃ (es : List Int) (p : Spot) (o1 o2 : Option W), r = es.map .int ∧ ρ = [some (.dat (Kd.d kd)), some (.dat (talD t)), some (.dat (.list (cs.map .int))), some (.dat o.d), some (.ins (He.ga K "Tale") (taleF kd t rows)), some (.dat (Spot.d p)), o1, o2] ∧
            pathF kd t rows es p = pathF kd t rows cs ([], o) ∧ p.1.length + es.length = cs.length ∧ sok (3 + p.1.length) (999 + 1000 * p.1.length) kd p.2) ?_ ?_ _ _ _ ⟨rfl, cs, ([], o), none, none, rfl, rfl, rfl, by simp, ho⟩
          · rintro m _ ⟨rfl, es, p, o1, o2, he, rfl, hp, _, _⟩
            have : es = [] := by cases es with | nil => rfl | cons a b => simp at he
            subst this
            simp [pathF] at hp
            rw [hp] at hq
            simpa using hq
          · rintro d r m _ ⟨rfl, es, p, o1, o2, he, rfl, hp, hl, hs⟩ K2 hK
            cases es with
            | nil => simp at he
            | cons c es =>
              cases he
              simp only [List.length_cons] at hl
              have hok : Sv.ok B6 kd p.2 := sok_ok hs (by omega) (by show _ ≤ 1000000; omega) (by show _ ≤ 1000000; omega)
              have hin : inW (.dat (.int c)) (.dic (behD (afterF kd t rows p))) = some (lookN (afterF kd t rows p) c).isSome := by
                show some (valD (behD (afterF kd t rows p)) (.inl c)).isSome = _
                rw [valD_beh]
                cases lookN (afterF kd t rows p) c <;> rfl
              simp
              refine ⟨tf_no (by decide), kd, t, rows, p, rfl, ht, hok, by omega, ?_⟩
              simp only [pathF] at hp
              cases hx : lookN (afterF kd t rows p) c with
              | none =>
                rw [hx] at hp hin
                simp only at hp
                rw [← hp] at hq
                simpa [hin] using hq
              | some q =>
                rw [hx] at hp hin
                simp only at hp
                obtain ⟨x, hx1, hx2, rfl⟩ := lookN_mem hx
                obtain ⟨u, hu1, _, _, hu4⟩ := afterF_mem hx1
                have hsok := step_sok hs (ht.wish u (List.mem_of_getElem? hu1))
                have hl2 : x.2.1.length = p.1.length + 1 := by rw [hu4]; simp only; rw [(isort_perm _).length_eq]; simp
                have hsx : sok (3 + x.2.1.length) (999 + 1000 * x.2.1.length) kd x.2.2 := by
                  rw [hl2, hu4]
                  exact sok_mono hsok (by omega) (by omega)
                have := hK m _ ⟨rfl, es, x.2, some (.dat (.int c)), some (.dic (behD (afterF kd t rows p))), rfl, rfl, hp, by omega, hsx⟩
                simpa [hin, valD_beh, hx] using this
      · refine .inr ⟨?_, ?_⟩
        · intro e
          rw [List.length_map] at e
          exact hnd ((dst_iff cs).mp (by exact_mod_cast e))
        · simpa [hnd] using hq
    · refine .inl ⟨?_, ?_⟩
      · rw [Bool.not_eq_true, List.all_eq_false] at hb
        obtain ⟨x, hx, e⟩ := hb
        exact List.mem_map.mpr ⟨x, hx, by simpa using e⟩
      · rw [Bool.not_eq_true] at hb
        simpa [orderF, hb] using hq
  all_goals
    simp [isi]
    exact ⟨kd, t, rows, rfl, ht, ⟨o, rfl⟩, by simpa [orderF] using hq⟩
end WL
set_option Elab.async false
set_option linter.all false
set_option maxRecDepth 100000
set_option maxHeartbeats 4000000
namespace WL
open PySem PySem.Spec PyProof.Rows L2 DL
theorem addK_mem (acc : List NestedKey) (k x : NestedKey) : x ∈ addK acc k ↔ x ∈ acc ∨ x = k := by
  unfold addK
  split
  · rename_i h
    constructor
    · exact .inl
    · rintro (h2 | h2)
      · exact h2
      · subst h2; exact h
  · simp
theorem merge_mem : ∀ (l acc : List NestedKey) (x : NestedKey), x ∈ l.foldl addK acc ↔ x ∈ acc ∨ x ∈ l
  | [], acc, x => by simp
  | a :: l, acc, x => by
    rw [List.foldl_cons, merge_mem l, addK_mem, List.mem_cons, or_assoc]
theorem merge_len : ∀ (l acc : List NestedKey), (l.foldl addK acc).length ≤ acc.length + l.length ∧ ((l.foldl addK acc).length = acc.length + l.length → acc.Nodup → (acc ++ l).Nodup) ∧ ((acc ++ l).Nodup → (l.foldl addK acc) = acc ++ l)
  | [], acc => ⟨by simp, fun _ h => by simpa using h, fun _ => by simp⟩
  | a :: l, acc => by
    rw [List.foldl_cons]
    have ih := merge_len l (addK acc a)
    unfold addK at ih ⊢
    by_cases c : a ∈ acc
    · rw [if_pos c] at ih ⊢
      refine ⟨by simp only [List.length_cons]; omega, fun h => ?_, fun h => ?_⟩
      · simp only [List.length_cons] at h
        omega
      · rw [List.nodup_append] at h
        exact absurd rfl (h.2.2 a c a List.mem_cons_self)
    · rw [if_neg c] at ih ⊢
      simp only [List.length_append, List.length_cons, List.length_nil] at ih ⊢
      refine ⟨by omega, fun h hn => ?_, fun h => ?_⟩
      · have h2 : (acc ++ [a]).Nodup := by
          rw [List.nodup_append]
          refine ⟨hn, by simp, fun x hx y hy e => ?_⟩
          rw [List.mem_singleton] at hy
          subst hy; subst e; exact c hx
        have := ih.2.1 (by omega) h2
        simpa using this
      · have := ih.2.2 (by simpa using h)
        simpa using this
theorem dlN_all {ρ : Rho} {P : List NestedKey → Nat → Prop} {n i : Nat} (hi : i < ρ.length) : ∀ (ds : List PyData) (acc : List NestedKey), (∀ d ∈ ds, ∃ k, nkT d = some k) → acc.length + ds.length ≤ 16777216 → P ((ds.filterMap nkT).foldl addK acc) n → dlN (pName i) (dVar i) ρ ds acc n P
  | [], acc, _, _, h => by simpa [dlN] using h
  | d :: ds, acc, hk, hl, h => by
    obtain ⟨k, e⟩ := hk d List.mem_cons_self
    simp only [List.length_cons] at hl
    have hl2 : (addK acc k).length ≤ acc.length + 1 := by unfold addK; split <;> simp
    simp only [List.filterMap_cons, e, List.foldl_cons] at h
    have := dlN_all hi ds (addK acc k) (fun d hd => hk d (List.mem_cons_of_mem _ hd)) (by omega) h
    have hl3 : acc.length < 16777216 := by omega
    simp [dlN, hi]
    exact ⟨k, e, hl3, this⟩
theorem keys_some {ds : List PyData} (h : ∀ d ∈ ds, ∃ k, nkT d = some k) : ds.map (fun c => nkT c) = (ds.filterMap nkT).map some := by
  induction ds with
  | nil => rfl
  | cons d ds ih =>
    obtain ⟨k, e⟩ := h d List.mem_cons_self
    rw [List.map_cons, List.filterMap_cons, e]
    simp only [List.map_cons]
    rw [ih fun d hd => h d (List.mem_cons_of_mem _ hd)]
theorem nodup_some {ks : List NestedKey} : (ks.map some).Nodup ↔ ks.Nodup := by
  unfold List.Nodup
  rw [List.pairwise_map]
  simp
theorem spot_ok {kd : Kd} {m : Nat} {ds : List PyData} {c : PyData} (hd : ThOk kd (.list ds)) (hc : c ∈ ds) (hs : isSpot kd m c = true) : ∃ p : Spot, c = Spot.d p ∧ spotOf kd c = p ∧ Sv.ok B6 kd p.2 ∧ p.1.length ≤ 1000 := by
  obtain ⟨h1, h2⟩ := isSpot_d hs
  refine ⟨spotOf kd c, h1, rfl, ?_⟩
  unfold isSpot at hs
  split at hs
  · rename_i cs s
    simp only [Bool.and_eq_true] at hs
    have := (hd.2 ds rfl).2 _ hc cs s rfl hs.1.1
    exact ⟨this.2, by simpa [spotOf] using this.1⟩
  · cases hs
theorem spots_nk {kd : Kd} {m : Nat} {ds : List PyData} (hs : ds.all (fun c => isSpot kd m c) = true) : ∀ d ∈ ds, ∃ k, nkT d = some k := by
  intro d hd
  rw [(isSpot_d (List.all_eq_true.mp hs d hd)).1]
  exact nk_spot _
/-- a spot's part of a wall -/
def goodB (kd : Kd) (t : List Ev) (rows : List Rw) (ks : List NestedKey) (c : PyData) : Bool := !isAllF rows (spotOf kd c).1 && (afterF kd t rows (spotOf kd c)).all fun q => decide (nkT (Spot.d q.2) ∈ ks.map some)
theorem mem_some {k : NestedKey} {ks : List NestedKey} : some k ∈ ks.map some ↔ k ∈ ks := by simp
theorem beh_vals (l : List (Nat × Spot)) : (behD l).map (fun x => x.2) = l.map fun x => Spot.d x.2 := by simp [behD, Function.comp_def]
theorem unl_eq {kd : Kd} {t : List Ev} {rows : List Rw} {o : Sv} {ds : List PyData} {k0 : NestedKey} (hs : ds.all (fun c => isSpot kd rows.length c) = true) (hk0 : nkT (Spot.d ([], o)) = some k0) :
    unlinedF kd t rows o (.list ds) = (decide (ds.filterMap nkT).Nodup && (decide (k0 ∈ ds.filterMap nkT) && ds.all (goodB kd t rows (ds.filterMap nkT)))) := by
  simp only [unlinedF, hs, Bool.true_and, keys_some (spots_nk hs), nodup_some, hk0, mem_some]
  rfl
theorem pf_shows_unlined (K : PySem.W.Frag) : ∀ ws n Q, p_shows_unlined ws n Q → g_shows_unlined K (E0 Q) n (startD N_shows_unlined ws) := by
  rintro _ n Q ⟨_, _, d, _, rfl, kd, t, rows, o, rfl, rfl, rfl, ht, ho, hd, hq⟩
  have hn := ht.nrow
  cases d
  case dict => have := hd.1; simp [nice] at this
  case list ds =>
    simp
    refine ⟨kd, t, rows, rfl, ht, ?_⟩
    obtain ⟨hn1, hn2⟩ := nice_lst hd.1
    have hdl := (hd.2 _ rfl).1
    refine dlc_map (fun d => .bool (isSpot kd rows.length d)) ?_ (by omega) ?_
    · intro d hd2 acc K ha hk
      have := hn2 d hd2
      simp
      exact ⟨tf_no (by decide), kd, t, rows, d, rfl, ht, this, _, rfl, ha, hk⟩
    refine ⟨_, boolsOf_map _ _, ?_⟩
    by_cases hb : (ds.all fun c => isSpot kd rows.length c) = true
    · refine .inr ⟨?_, ?_⟩
      · intro hm
        obtain ⟨x, hx, e⟩ := List.mem_map.mp hm
        rw [List.all_eq_true] at hb
        rw [hb x hx] at e
        cases e
      obtain ⟨k0, hk0⟩ := nk_spot ([], o)
      rw [unl_eq hb hk0] at hq
      refine dlN_all (by simp) ds [] (spots_nk hb) (by simp; omega) fun q => ?_
      have hml := merge_len (ds.filterMap nkT) []
      have hmm := merge_mem (ds.filterMap nkT) []
      have hfl : (ds.filterMap nkT).length = ds.length := by
        have := congrArg List.length (keys_some (spots_nk hb))
        simpa using this.symm
      by_cases hnd : (ds.filterMap nkT).Nodup
      · have hmx : (ds.filterMap nkT).foldl addK [] = ds.filterMap nkT := by simpa using hml.2.2 (by simpa using hnd)
        rw [hmx]
        refine .inl ⟨by rw [hfl], o, rfl, k0, hk0, ?_⟩
        by_cases c0 : k0 ∈ ds.filterMap nkT
        · refine .inl ⟨c0, ?_⟩
          have hq2 : Q (.dat (.bool (ds.all (goodB kd t rows (ds.filterMap nkT))))) n := by simpa only [hnd, c0, decide_true, Bool.true_and] using hq
          clear hq
          generalize hks : ds.filterMap nkT = ks at hq2
          refine dLoop_ind (I := fun r m ρ => m = n ∧ ∃ (o1 o2 : Option W), (∀ c ∈ r, c ∈ ds) ∧ ρ = [some (.dat (Kd.d kd)), some (.dat (talD t)), some (.dat (.list ds)), some (.dat o.d), some (.ins (He.ga K "Tale") (taleF kd t rows)), o1, some (.onst q ks), o2] ∧ r.all (goodB kd t rows ks) = ds.all (goodB kd t rows ks)) ?_ ?_ _ _ _ ⟨rfl, none, none, fun _ h => h, rfl, rfl⟩
          · rintro m _ ⟨rfl, o1, o2, _, rfl, e⟩
            rw [← e] at hq2
            simpa using hq2
          · rintro d r m _ ⟨rfl, o1, o2, hr, rfl, e⟩ K2 hK
            have hdm := hr d List.mem_cons_self
            obtain ⟨p, rfl, hsp, hok, hl⟩ := spot_ok hd hdm (List.all_eq_true.mp hb d hdm)
            rw [List.all_cons] at e
            simp [Spot.d]
            refine ⟨tf_no (by decide), kd, t, rows, p.1, .inr rfl, ht, ?_⟩
            simp only [goodB, hsp] at e
            cases ha : isAllF rows p.1 with
            | true =>
              rw [ha] at e
              simp only [Bool.not_true, Bool.false_and] at e
              rw [← e] at hq2
              exact .inr ⟨rfl, hq2⟩
            | false =>
              rw [ha] at e
              simp only [Bool.not_false, Bool.true_and] at e
              refine .inl ⟨rfl, tf_no (by decide), kd, t, rows, p, rfl, ht, hok, hl, _, rfl, ?_⟩
              rw [beh_vals]
              have hal : (afterF kd t rows p).length ≤ rows.length := by
                have := List.length_filterMap_le (aftF kd t rows p) (List.range rows.length)
                rw [List.length_range] at this
                exact this
              refine dlc_map (fun d => .bool (!decide (nkT d ∈ ks.map some))) ?_ (by rw [List.length_map]; omega) ?_
              · intro d hd acc K ha hk
                obtain ⟨x, _, rfl⟩ := List.mem_map.mp hd
                obtain ⟨k, ek⟩ := nk_spot x.2
                simp only [ek, mem_some] at hk
                by_cases c : k ∈ ks
                · simp only [c, decide_true, Bool.not_true] at hk
                  simpa [ek, c, ha] using hk
                · simp only [c, decide_false, Bool.not_false] at hk
                  simpa [ek, c, ha] using hk
              refine ⟨_, boolsOf_map _ _, ?_⟩
              rw [List.map_map]
              by_cases c : ((afterF kd t rows p).all fun q => decide (nkT (Spot.d q.2) ∈ ks.map some)) = true
              · rw [c, Bool.true_and] at e
                refine .inl ⟨?_, hK _ _ ⟨rfl, _, o2, fun c hc => hr c (List.mem_cons_of_mem _ hc), rfl, e⟩⟩
                intro hm
                obtain ⟨x, hx, ex⟩ := List.mem_map.mp hm
                have := List.all_eq_true.mp c x hx
                simp only [Function.comp_def] at ex
                rw [this] at ex
                cases ex
              · rw [Bool.not_eq_true] at c
                rw [c, Bool.false_and] at e
                rw [← e] at hq2
                refine .inr ⟨?_, hq2⟩
                rw [List.all_eq_false] at c
                obtain ⟨x, hx, ex⟩ := c
                refine List.mem_map.mpr ⟨x, hx, ?_⟩
                simp only [Function.comp_def]
                rw [Bool.not_eq_true] at ex
                rw [ex]
                rfl
        · refine .inr ⟨c0, ?_⟩
          simpa only [hnd, c0, decide_true, decide_false, Bool.true_and, Bool.false_and] using hq
      · refine .inr ⟨?_, ?_⟩
        · intro e
          apply hnd
          have e2 : ((ds.filterMap nkT).foldl addK []).length = ds.length := by exact_mod_cast e
          simpa using hml.2.1 (by rw [e2, hfl]; simp) (by simp)
        · simpa only [hnd, decide_false, Bool.false_and] using hq
    · refine .inl ⟨?_, ?_⟩
      · rw [Bool.not_eq_true, List.all_eq_false] at hb
        obtain ⟨x, hx, e⟩ := hb
        exact List.mem_map.mpr ⟨x, hx, by simpa using e⟩
      · rw [Bool.not_eq_true] at hb
        simpa [unlinedF, hb] using hq
  all_goals
    simp [isi]
    exact ⟨kd, t, rows, rfl, ht, by simpa [unlinedF] using hq⟩
end WL
set_option Elab.async false
set_option linter.all false
set_option maxRecDepth 100000
set_option maxHeartbeats 4000000
namespace WL
open PySem PySem.Spec PyProof.Rows L2 DL
theorem pf_law_after : ∀ ws n Q, p_law_after ws n Q → g_law_after (E0 Q) n (startD N_law_after ws) := by
  rintro _ n Q ⟨_, _, _, _, rfl, kd, t, rows, p, rfl, rfl, rfl, rfl, ht, hs, hp, hq⟩
  have hn := ht.nrow
  simp [Spot.d]
  intro q
  refine dLoop_ind (I := BehInv n kd t rows p 5 [some (.dat (Kd.d kd)), some (.dat (talD t)), some (.dat (rowsD rows)), some (.dat (Spot.d p)), some (.dat (.tuple (p.1.map .int))), some (.dat p.2.d)]) ?_ ?_ _ _ _ ?_
  rotate_left 2
  · exact ⟨rfl, 0, q, _, rfl, Nat.zero_le _, rfl, rfl⟩
  · rintro m _ ⟨rfl, k, q, os, he, hk, _, rfl⟩
    have : k = rows.length := by
      rcases Nat.lt_or_ge k rows.length with h | h
      · rw [List.drop_eq_getElem_cons h, List.map_cons, enumF_cons] at he; cases he
      · omega
    subst this
    simpa [afterF_eq] using hq
  · rintro d r m _ ⟨rfl, k, q, os, he, hk, h8, rfl⟩ K2 hK
    match os, h8 with
    | [o1, o2, o3, o4, o5], _ =>
      have hlt : k < rows.length := by
        rcases Nat.lt_or_ge k rows.length with h | h
        · exact h
        · rw [List.drop_eq_nil_of_le h] at he; simp [enumF] at he
      rw [List.drop_eq_getElem_cons hlt, List.map_cons, enumF_cons] at he
      cases he
      have hr : rows[k]? = some rows[k] := List.getElem?_eq_getElem hlt
      generalize rows[k] = u at hr
      have hu : u ∈ rows := List.mem_of_getElem? hr
      have next : ∀ os : List (Option W), os.length = 5 → K2 m ([some (.dat (Kd.d kd)), some (.dat (talD t)), some (.dat (rowsD rows)), some (.dat (Spot.d p)), some (.dat (.tuple (p.1.map .int))), some (.dat p.2.d)] ++ some (.odic q (behD ((List.range (k + 1)).filterMap (aftF kd t rows p)))) :: os) := fun os h => hK _ _ ⟨rfl, k + 1, q, os, rfl, hlt, h, rfl⟩
      rw [aft_succ, aftF_at hr] at next
      have hin := in_tup (k : Int) p.1
      have hw := ht.wish u hu
      by_cases c1 : (k : Int) ∈ p.1
      · have e1 : memI k p.1 = true := memI_iff.mpr c1
        have := next [some (.dat (.int k)), some (.dat u.d), o3, o4, o5] rfl
        rw [e1] at this
        simp at this
        simpa [hin, c1] using this
      · have e1 : memI k p.1 = false := by simpa [memI] using c1
        have hal : (aheadOf rows k).length ≤ rows.length := by
          have := List.length_filter_le (fun i => match (rows[i]?).bind (·.fin), rows[k]? with | some e, some r => decide (e < r.beg) | _, _ => false) (List.range rows.length)
          rw [List.length_range] at this
          exact this
        rw [e1] at next
        have hud : u.d = PyData.tuple [.int u.hand, u.wish.d, .int u.beg, finD u.fin] := rfl
        simp [hin, c1, hud]
        refine ⟨kd, t, rows, rfl, k, rfl, hlt, ht, ?_⟩
        refine dlc_map (fun d => .bool (match d with | .int i => decide (i ∈ p.1) | _ => false)) ?_ (by rw [List.length_map]; omega) ?_
        · intro d hd acc K ha hk
          obtain ⟨i, _, rfl⟩ := List.mem_map.mp hd
          have hin2 := in_tup (i : Int) p.1
          by_cases e : (i : Int) ∈ p.1 <;> simp [e] at hk <;> simpa [hin2, ha, e] using hk
        refine ⟨_, boolsOf_map _ _, ?_⟩
        rw [List.map_map]
        by_cases c2 : ((aheadOf rows k).all fun n => memI n p.1) = true
        · refine .inr ⟨?_, ?_⟩
          · intro hm
            obtain ⟨i, hi, e⟩ := List.mem_map.mp hm
            have := List.all_eq_true.mp c2 i hi
            simp [memI] at this e
            exact e this
          · rw [c2] at next
            have e2 : ((!false && true) = true) = True := by simp
            simp only [e2, if_true] at next
            refine ⟨p.2, rfl, u.wish, rfl, hs, hw, _, rfl, rfl, _, _, rfl, _, _, rfl, rfl, ?_⟩
            have hio : intsOf (p.1.map PyData.int ++ [PyData.int (k : Int)]) = some (p.1 ++ [(k : Int)]) := by
              rw [show p.1.map PyData.int ++ [PyData.int (k : Int)] = (p.1 ++ [(k : Int)]).map PyData.int by simp, intsOf_map]
            have hbl : (behD ((List.range k).filterMap (aftF kd t rows p))).length < 16777216 := by have := aft_len kd t rows p k; omega
            have ep := putD_new (l := (List.range k).filterMap (aftF kd t rows p)) (k := k) (q := (isort (p.1 ++ [(k : Int)]), (step kd p.2 u.wish).1)) (fun x hx => aft_lt hx)
            refine ⟨kd, t, rfl, rows, u, rfl, _, rfl, ht, hu, step_ans hs hw, ?_⟩
            by_cases c3 : fitsB t u (step kd p.2 u.wish).2 = true
            · rw [c3] at next
              simp only [if_true, Option.toList_some] at next
              rw [← ep] at next
              exact .inr ⟨c3, by omega, _, hio, hbl, next [some (.dat (.int k)), some (.dat u.d), some (.dat (step kd p.2 u.wish).1.d), some (.dat (step kd p.2 u.wish).2.d), o5] rfl⟩
            · rw [Bool.not_eq_true] at c3
              rw [c3] at next
              have := next [some (.dat (.int k)), some (.dat u.d), some (.dat (step kd p.2 u.wish).1.d), some (.dat (step kd p.2 u.wish).2.d), o5] rfl
              simp at this
              exact .inl ⟨c3, this⟩
        · refine .inl ⟨?_, ?_⟩
          · rw [Bool.not_eq_true, List.all_eq_false] at c2
            obtain ⟨i, hi, e⟩ := c2
            refine List.mem_map.mpr ⟨i, hi, ?_⟩
            simp [memI] at e
            simp [e]
          · rw [Bool.not_eq_true] at c2
            rw [c2] at next
            have := next [some (.dat (.int k)), some (.dat u.d), o3, o4, o5] rfl
            simpa [hud] using this
end WL
set_option Elab.async false
set_option linter.all false
set_option maxRecDepth 100000
set_option maxHeartbeats 4000000
namespace WL
open PySem PySem.Spec PyProof.Rows L2 DL
/-- what is left of an order's check -/
def restF (kd : Kd) (t : List Ev) (rows : List Rw) (r : List PyData) (cs : List Int) (p : Spot) : Bool :=
  (r.all fun c => isBelow c rows.length) && (decide (cs ++ r.map intOf).Nodup && (isAllF rows (cs ++ r.map intOf) && pathF kd t rows (r.map intOf) p))
theorem rest_not {kd : Kd} {t : List Ev} {rows : List Rw} {d : PyData} {r : List PyData} {cs : List Int} {p : Spot} (h : isBelow d rows.length = false) : restF kd t rows (d :: r) cs p = false := by
  simp [restF, h]
theorem rest_in {kd : Kd} {t : List Ev} {rows : List Rw} {c : Int} {r : List PyData} {cs : List Int} {p : Spot} (h : c ∈ cs) : restF kd t rows (.int c :: r) cs p = false := by
  have : ¬ (cs ++ (PyData.int c :: r).map intOf).Nodup := by
    intro hn
    rw [List.nodup_append] at hn
    exact hn.2.2 c h c (by simp [intOf]) rfl
  simp only [restF, this, decide_false, Bool.false_and, Bool.and_false]
theorem rest_none {kd : Kd} {t : List Ev} {rows : List Rw} {c : Nat} {r : List PyData} {cs : List Int} {p : Spot} (h : aftF kd t rows p c = none) : restF kd t rows (.int (c : Int) :: r) cs p = false := by
  have : pathF kd t rows ((PyData.int (c : Int) :: r).map intOf) p = false := by
    simp only [List.map_cons, intOf, pathF, lookN_after, h]
    rfl
  simp only [restF, this, Bool.and_false]
theorem rest_some {kd : Kd} {t : List Ev} {rows : List Rw} {c : Nat} {r : List PyData} {cs : List Int} {p : Spot} {x : Nat × Spot} (h : aftF kd t rows p c = some x) (hb : isBelow (.int (c : Int)) rows.length = true) : restF kd t rows (.int (c : Int) :: r) cs p = restF kd t rows r (cs ++ [(c : Int)]) x.2 := by
  have e : pathF kd t rows ((PyData.int (c : Int) :: r).map intOf) p = pathF kd t rows (r.map intOf) x.2 := by
    simp only [List.map_cons, intOf, pathF, lookN_after, h]
    rfl
  simp only [restF, e, List.all_cons, hb, Bool.true_and]
  simp [intOf]
theorem rest_all {kd : Kd} {t : List Ev} {rows : List Rw} {o : Sv} {ds : List PyData} : orderF kd t rows o (.list ds) = restF kd t rows ds [] ([], o) := rfl
theorem in_own (i : Int) (q : Addr) (cs : List Int) : inW (.dat (.int i)) (.olst q (cs.map .int)) = some (decide (i ∈ cs)) := by
  simp [inW, intsOf_map]
theorem pf_law_is_order : ∀ ws n Q, p_law_is_order ws n Q → g_law_is_order (E0 Q) n (startD N_law_is_order ws) := by
  rintro _ n Q ⟨_, _, _, d, rfl, kd, t, rows, o, rfl, rfl, rfl, ht, ho, hd, hq⟩
  have hn := ht.nrow
  cases d
  case dict => have := hd.1; simp [nice] at this
  case list ds =>
    obtain ⟨hn1, hn2⟩ := nice_lst hd.1
    rw [rest_all] at hq
    simp
    refine ⟨kd, t, rfl, rows, ht, fun q => ?_⟩
    refine dLoop_ind (I := fun r m ρ => m = n ∧ ∃ (cs : List Int) (p : Spot) (o1 o2 o3 : Option W), (∀ c ∈ r, c ∈ ds) ∧ ρ = [some (.dat (Kd.d kd)), some (.dat (talD t)), some (.dat o.d), some (.dat (.list ds)), some (.dat (rowsD rows)), some (.dat p.2.d), some (.olst q (cs.map .int)), o1, o2, o3] ∧
      restF kd t rows r cs p = restF kd t rows ds [] ([], o) ∧ cs.Nodup ∧ (∀ i ∈ cs, 0 ≤ i ∧ i < (rows.length : Int)) ∧ (∀ i, i ∈ p.1 ↔ i ∈ cs) ∧ sok (3 + cs.length) (999 + 1000 * cs.length) kd p.2) ?_ ?_ _ _ _ ⟨rfl, [], ([], o), none, none, none, fun _ h => h, rfl, rfl, by simp, by simp, by simp, ho⟩
    · rintro m _ ⟨rfl, cs, p, o1, o2, o3, _, rfl, e, hnd, hcs, hp, hs⟩
      simp only [restF, List.map_nil, List.append_nil, hnd, decide_true, pathF, List.all_nil, Bool.and_true, Bool.true_and] at e
      simp only [restF] at hq
      rw [← e] at hq
      simp
      exact ⟨kd, t, rows, rfl, cs, rfl, ht, hq⟩
    · rintro d r m _ ⟨rfl, cs, p, o1, o2, o3, hr, rfl, e, hnd, hcs, hp, hs⟩ K2 hK
      have hdm := hr d List.mem_cons_self
      have hr2 : ∀ c ∈ r, c ∈ ds := fun c hc => hr c (List.mem_cons_of_mem _ hc)
      have hlen := nodup_len rows.length cs hnd hcs
      rw [← e] at hq
      cases d
      case int c =>
        by_cases hb : isBelow (.int c) rows.length = true
        · have hb2 : 0 ≤ c ∧ c < (rows.length : Int) := by simpa [isBelow] using hb
          obtain ⟨k, rfl⟩ := Int.eq_ofNat_of_zero_le hb2.1
          have hlt : k < rows.length := by omega
          have hr1 : rows[k]? = some rows[k] := List.getElem?_eq_getElem hlt
          generalize rows[k] = u at hr1
          have hu : u ∈ rows := List.mem_of_getElem? hr1
          have hat : atI (rows.map Rw.d) (k : Int) = some (.tuple [.int u.hand, u.wish.d, .int u.beg, finD u.fin]) := by rw [atI_nat, List.getElem?_map, hr1]; rfl
          have hin := in_own (k : Int) q cs
          by_cases c1 : (k : Int) ∈ cs
          · rw [rest_in c1] at hq
            simpa [isi, hb2, hin, c1] using hq
          · have e1 : memI k p.1 = false := by simpa [memI, hp] using c1
            have hal : (aheadOf rows k).length ≤ rows.length := by
              have := List.length_filter_le (fun i => match (rows[i]?).bind (·.fin), rows[k]? with | some e, some r => decide (e < r.beg) | _, _ => false) (List.range rows.length)
              rw [List.length_range] at this
              exact this
            have hw := ht.wish u hu
            have hok : Sv.ok B6 kd p.2 := sok_ok hs (by omega) (by show _ ≤ 1000000; omega) (by show _ ≤ 1000000; omega)
            simp [isi, hb2, hin, c1, hat]
            refine ⟨kd, t, rows, rfl, k, rfl, hlt, ht, ?_⟩
            refine dlc_map (fun d => .bool (match d with | .int i => decide (i ∈ cs) | _ => false)) ?_ (by rw [List.length_map]; omega) ?_
            · intro d hd acc K ha hk
              obtain ⟨i, _, rfl⟩ := List.mem_map.mp hd
              have hin2 := in_own (i : Int) q cs
              by_cases e : (i : Int) ∈ cs <;> simp [e] at hk <;> simpa [hin2, ha, e] using hk
            refine ⟨_, boolsOf_map _ _, ?_⟩
            rw [List.map_map]
            by_cases c2 : ((aheadOf rows k).all fun n => memI n p.1) = true
            · refine .inr ⟨?_, ?_⟩
              · intro hm
                obtain ⟨i, hi, e⟩ := List.mem_map.mp hm
                have := List.all_eq_true.mp c2 i hi
                simp [memI, hp] at this e
                exact e this
              · refine ⟨p.2, rfl, u.wish, rfl, hok, hw, _, rfl, rfl, _, _, rfl, _, _, rfl, rfl, kd, t, rfl, rows, u, rfl, _, rfl, ht, hu, step_ans hok hw, ?_⟩
                by_cases c3 : fitsB t u (step kd p.2 u.wish).2 = true
                · have ha : aftF kd t rows p k = some (k, (isort (p.1 ++ [(k : Int)]), (step kd p.2 u.wish).1)) := by
                    rw [aftF_at hr1, if_pos (by simp only [e1, c2]; rfl), if_pos c3]
                  refine .inr ⟨c3, by omega, ?_⟩
                  have := hK m _ ⟨rfl, cs ++ [(k : Int)], (isort (p.1 ++ [(k : Int)]), (step kd p.2 u.wish).1), some (.dat (.int k)), some (.dat (step kd p.2 u.wish).2.d), o3, hr2, rfl, by rw [← rest_some ha hb]; exact e, by
                    rw [List.nodup_append]
                    refine ⟨hnd, by simp, fun x hx y hy e => ?_⟩
                    rw [List.mem_singleton] at hy
                    subst hy; subst e; exact c1 hx, fun i hi => by
                    rcases List.mem_append.mp hi with h | h
                    · exact hcs i h
                    · rw [List.mem_singleton] at h; subst h; exact hb2, fun i => by
                    simp only
                    rw [(isort_perm _).mem_iff, List.mem_append, List.mem_append, hp], by
                    have := step_sok hs hw
                    simp only [List.length_append, List.length_cons, List.length_nil]
                    exact sok_mono this (by omega) (by omega)⟩
                  simpa using this
                · rw [rest_none (by rw [aftF_at hr1, if_pos (by simp only [e1, c2]; rfl), if_neg c3])] at hq
                  rw [Bool.not_eq_true] at c3
                  exact .inl ⟨c3, hq⟩
            · refine .inl ⟨?_, ?_⟩
              · rw [Bool.not_eq_true, List.all_eq_false] at c2
                obtain ⟨i, hi, e⟩ := c2
                refine List.mem_map.mpr ⟨i, hi, ?_⟩
                simp [memI, hp] at e
                simp [e]
              · rw [rest_none (by rw [aftF_at hr1, if_neg (by simp [e1, c2])])] at hq
                exact hq
        · rw [Bool.not_eq_true] at hb
          rw [rest_not hb] at hq
          have hb2 : ¬ (0 ≤ c ∧ c < (rows.length : Int)) := by
            intro h
            simp [isBelow, h] at hb
          by_cases h0 : 0 ≤ c
          · have h1 : ¬ c < (rows.length : Int) := fun h => hb2 ⟨h0, h⟩
            have h2 : (rows.length : Int) ≤ c := by omega
            simp [isi]
            exact .inr ⟨h0, .inl ⟨h2, hq⟩⟩
          · have h2 : c < 0 := by omega
            simp [isi]
            exact .inl ⟨h2, hq⟩
      case dict => have := hn2 _ hdm; simp [nice] at this
      all_goals
        rw [rest_not rfl] at hq
        simpa [isi] using hq
  all_goals
    simp [isi]
    exact ⟨kd, t, rfl, ⟨rows, ht⟩, by simpa [orderF] using hq⟩
end WL
set_option Elab.async false
set_option linter.all false
set_option maxRecDepth 100000
set_option maxHeartbeats 4000000
namespace WL
open PySem PySem.Spec PyProof.Rows L2 DL
theorem npairs_all {ds : List PyData} (h : ∀ d ∈ ds, ∃ k, nkT d = some k) : npairs (ds.map fun d => .tuple [d, .bool true]) = some (ds.filterMap nkT) := by
  induction ds with
  | nil => rfl
  | cons d ds ih =>
    obtain ⟨k, e⟩ := h d List.mem_cons_self
    have := ih fun d hd => h d (List.mem_cons_of_mem _ hd)
    simp [npairs, e, this]
theorem pf_law_is_unlined : ∀ ws n Q, p_law_is_unlined ws n Q → g_law_is_unlined (E0 Q) n (startD N_law_is_unlined ws) := by
  rintro _ n Q ⟨_, _, _, d, rfl, kd, t, rows, o, rfl, rfl, rfl, ht, ho, hd, hq⟩
  have hn := ht.nrow
  cases d
  case dict => have := hd.1; simp [nice] at this
  case list ds =>
    obtain ⟨hn1, hn2⟩ := nice_lst hd.1
    have hdl := (hd.2 _ rfl).1
    simp
    refine ⟨kd, t, rfl, rows, ht, ?_⟩
    refine dlc_map (fun d => .bool (isSpot kd rows.length d)) ?_ (by omega) ?_
    · intro d hd2 acc K ha hk
      have := hn2 d hd2
      simp
      exact ⟨rows.length, rfl, this, ha, hk⟩
    refine ⟨_, boolsOf_map _ _, ?_⟩
    by_cases hb : (ds.all fun c => isSpot kd rows.length c) = true
    · refine .inr ⟨?_, ?_⟩
      · intro hm
        obtain ⟨x, hx, e⟩ := List.mem_map.mp hm
        rw [List.all_eq_true] at hb
        rw [hb x hx] at e
        cases e
      obtain ⟨k0, hk0⟩ := nk_spot ([], o)
      rw [unl_eq hb hk0] at hq
      refine dlc_map (fun d => .tuple [d, .bool true]) ?_ (by omega) ?_
      · intro d hd2 acc K ha hk
        simpa [ha] using hk
      refine ⟨ds.filterMap nkT, npairs_all (spots_nk hb), fun q => ?_⟩
      unfold mergeN
      have hml := merge_len (ds.filterMap nkT) []
      have hmm := merge_mem (ds.filterMap nkT) []
      have hfl : (ds.filterMap nkT).length = ds.length := by
        have := congrArg List.length (keys_some (spots_nk hb))
        simpa using this.symm
      by_cases hnd : (ds.filterMap nkT).Nodup
      · have hmx : (ds.filterMap nkT).foldl addK [] = ds.filterMap nkT := by simpa using hml.2.2 (by simpa using hnd)
        rw [hmx]
        refine .inl ⟨by rw [hfl], k0, hk0, ?_⟩
        by_cases c0 : k0 ∈ ds.filterMap nkT
        · refine .inl ⟨c0, ?_⟩
          have hq2 : Q (.dat (.bool (ds.all (goodB kd t rows (ds.filterMap nkT))))) n := by simpa only [hnd, c0, decide_true, Bool.true_and] using hq
          clear hq
          generalize hks : ds.filterMap nkT = ks at hq2
          refine dLoop_ind (I := fun r m ρ => m = n ∧ ∃ (o1 o2 : Option W), (∀ c ∈ r, c ∈ ds) ∧ ρ = [some (.dat (Kd.d kd)), some (.dat (talD t)), some (.dat o.d), some (.dat (.list ds)), some (.dat (rowsD rows)), none, some (.onst q ks), o1, o2] ∧ r.all (goodB kd t rows ks) = ds.all (goodB kd t rows ks)) ?_ ?_ _ _ _ ⟨rfl, none, none, fun _ h => h, rfl, rfl⟩
          · rintro m _ ⟨rfl, o1, o2, _, rfl, e⟩
            rw [← e] at hq2
            simpa using hq2
          · rintro d r m _ ⟨rfl, o1, o2, hr, rfl, e⟩ K2 hK
            have hdm := hr d List.mem_cons_self
            obtain ⟨p, rfl, hsp, hok, hl⟩ := spot_ok hd hdm (List.all_eq_true.mp hb d hdm)
            rw [List.all_cons] at e
            simp [Spot.d]
            refine ⟨kd, t, rows, rfl, p.1, rfl, ht, ?_⟩
            simp only [goodB, hsp] at e
            cases ha : isAllF rows p.1 with
            | true =>
              rw [ha] at e
              simp only [Bool.not_true, Bool.false_and] at e
              rw [← e] at hq2
              exact .inr ⟨rfl, hq2⟩
            | false =>
              rw [ha] at e
              simp only [Bool.not_false, Bool.true_and] at e
              refine .inl ⟨rfl, t, rfl, rows, rfl, p.1, rfl, p.2, rfl, ht, hok, hl, ?_⟩
              rw [show ((p.1, p.2) : Spot) = p from rfl, beh_vals]
              have hal : (afterF kd t rows p).length ≤ rows.length := by
                have := List.length_filterMap_le (aftF kd t rows p) (List.range rows.length)
                rw [List.length_range] at this
                exact this
              refine dlc_map (fun d => .bool (decide (nkT d ∈ ks.map some))) ?_ (by rw [List.length_map]; omega) ?_
              · intro d hd acc K ha hk
                obtain ⟨x, _, rfl⟩ := List.mem_map.mp hd
                obtain ⟨k, ek⟩ := nk_spot x.2
                simp only [ek, mem_some] at hk
                by_cases c : k ∈ ks
                · simp only [c, decide_true] at hk
                  simpa [ek, c, ha] using hk
                · simp only [c, decide_false] at hk
                  simpa [ek, c, ha] using hk
              refine ⟨_, boolsOf_map _ _, ?_⟩
              rw [List.map_map]
              by_cases c : ((afterF kd t rows p).all fun q => decide (nkT (Spot.d q.2) ∈ ks.map some)) = true
              · rw [c, Bool.true_and] at e
                refine .inr ⟨?_, hK _ _ ⟨rfl, _, o2, fun c hc => hr c (List.mem_cons_of_mem _ hc), rfl, e⟩⟩
                intro hm
                obtain ⟨x, hx, ex⟩ := List.mem_map.mp hm
                have := List.all_eq_true.mp c x hx
                simp only [Function.comp_def] at ex
                rw [this] at ex
                cases ex
              · rw [Bool.not_eq_true] at c
                rw [c, Bool.false_and] at e
                rw [← e] at hq2
                refine .inl ⟨?_, hq2⟩
                rw [List.all_eq_false] at c
                obtain ⟨x, hx, ex⟩ := c
                refine List.mem_map.mpr ⟨x, hx, ?_⟩
                simp only [Function.comp_def]
                rw [Bool.not_eq_true] at ex
                exact ex
        · refine .inr ⟨c0, ?_⟩
          simpa only [hnd, c0, decide_true, decide_false, Bool.true_and, Bool.false_and] using hq
      · refine .inr ⟨?_, ?_⟩
        · intro e
          apply hnd
          have e2 : ((ds.filterMap nkT).foldl addK []).length = ds.length := by exact_mod_cast e
          simpa using hml.2.1 (by rw [e2, hfl]; simp) (by simp)
        · simpa only [hnd, decide_false, Bool.false_and] using hq
    · refine .inl ⟨?_, ?_⟩
      · rw [Bool.not_eq_true, List.all_eq_false] at hb
        obtain ⟨x, hx, e⟩ := hb
        exact List.mem_map.mpr ⟨x, hx, by simpa using e⟩
      · rw [Bool.not_eq_true] at hb
        simpa [unlinedF, hb] using hq
  all_goals
    simp [isi]
    exact ⟨kd, t, rfl, ⟨rows, ht⟩, by simpa [unlinedF] using hq⟩
end WL
set_option Elab.async false
set_option linter.all false
set_option maxRecDepth 100000
set_option maxHeartbeats 4000000
namespace WL
open PySem PySem.Spec PyProof.Rows L2 DL
/-! ### bounded data -/
def le2 : List Nat → List Nat → Prop
  | [], _ => True
  | a :: as, bs => a ≤ bs.headD 0 ∧ le2 as bs.tail
theorem le2_hd : ∀ {as bs : List Nat}, le2 as bs → as.headD 0 ≤ bs.headD 0
  | [], _, _ => Nat.zero_le _
  | _ :: _, _, h => h.1
theorem le2_tl : ∀ {as bs : List Nat}, le2 as bs → le2 as.tail bs.tail
  | [], _, _ => trivial
  | _ :: _, _, h => h.2
mutual
theorem T_mono {M M' : Nat} (hM : M ≤ M') : ∀ (d : PyData) (bs bs' : List Nat), le2 bs bs' → T M bs d → T M' bs' d
  | .none, _, _, _, _ => by simp [T]
  | .bool _, _, _, _, _ => by simp [T]
  | .int i, _, _, _, h => by simp only [T] at h ⊢; omega
  | .str z, _, _, _, h => by simpa only [T] using h
  | .list ds, bs, bs', l, h => by
    simp only [T] at h ⊢
    exact ⟨Nat.le_trans h.1 (le2_hd l), TA_mono hM ds _ _ (le2_tl l) h.2⟩
  | .tuple ds, bs, bs', l, h => by
    simp only [T] at h ⊢
    exact ⟨Nat.le_trans h.1 (le2_hd l), TA_mono hM ds _ _ (le2_tl l) h.2⟩
  | .dict _, _, _, _, h => by simp only [T] at h
theorem TA_mono {M M' : Nat} (hM : M ≤ M') : ∀ (ds : List PyData) (bs bs' : List Nat), le2 bs bs' → TA M bs ds → TA M' bs' ds
  | [], _, _, _, _ => by simp [TA]
  | d :: ds, bs, bs', l, h => by
    simp only [TA] at h ⊢
    exact ⟨T_mono hM d _ _ l h.1, TA_mono hM ds _ _ l h.2⟩
end
theorem TA_iff {M : Nat} {bs : List Nat} : ∀ {ds : List PyData}, TA M bs ds ↔ ∀ d ∈ ds, T M bs d
  | [] => by simp [TA]
  | d :: ds => by simp [TA, TA_iff (ds := ds)]
mutual
theorem T_lay {M : Nat} : ∀ (d : PyData) (bs : List Nat), T M bs d → d.canLay0 = true
  | .none, _, _ => by simp [PyData.canLay0]
  | .bool _, _, _ => by simp [PyData.canLay0]
  | .int i, _, _ => by simp [PyData.canLay0]
  | .str z, _, h => by
    simp only [T] at h
    simp only [PyData.canLay0, PyData.strOk, Array.all_eq_true_iff_forall_mem, decide_eq_true_eq]
    intro c hc
    exact h.2 c (by simpa using hc)
  | .list ds, bs, h => by
    simp only [T] at h
    simp only [PyData.canLay0]
    exact TA_lay ds _ h.2
  | .tuple ds, bs, h => by
    simp only [T] at h
    simp only [PyData.canLay0]
    exact TA_lay ds _ h.2
  | .dict _, _, h => by simp only [T] at h
theorem TA_lay {M : Nat} : ∀ (ds : List PyData) (bs : List Nat), TA M bs ds → PyData.canLayAll0 ds = true
  | [], _, _ => by simp [PyData.canLayAll0]
  | d :: ds, bs, h => by
    simp only [TA] at h
    simp only [PyData.canLayAll0, T_lay d _ h.1, TA_lay ds _ h.2, Bool.and_self]
end
mutual
theorem T_depth {M : Nat} : ∀ (d : PyData) (bs : List Nat), T M bs d → d.depth ≤ bs.length + 1
  | .none, _, _ => by simp [PyData.depth]
  | .bool _, _, _ => by simp [PyData.depth]
  | .int i, _, _ => by simp [PyData.depth]
  | .str z, _, h => by simp [PyData.depth]
  | .list ds, bs, h => by
    simp only [T] at h
    have := TA_depth ds _ h.2
    simp only [PyData.depth]
    cases bs with
    | nil =>
      have : ds = [] := by simpa using h.1
      subst this
      simp [PyData.depthAll]
    | cons b bs => simp only [List.tail_cons, List.length_cons] at this ⊢; omega
  | .tuple ds, bs, h => by
    simp only [T] at h
    have := TA_depth ds _ h.2
    simp only [PyData.depth]
    cases bs with
    | nil =>
      have : ds = [] := by simpa using h.1
      subst this
      simp [PyData.depthAll]
    | cons b bs => simp only [List.tail_cons, List.length_cons] at this ⊢; omega
  | .dict _, _, h => by simp only [T] at h
theorem TA_depth {M : Nat} : ∀ (ds : List PyData) (bs : List Nat), TA M bs ds → PyData.depthAll ds ≤ bs.length + 1
  | [], _, _ => by simp [PyData.depthAll]
  | d :: ds, bs, h => by
    simp only [TA] at h
    have := T_depth d _ h.1
    have := TA_depth ds _ h.2
    simp only [PyData.depthAll]
    omega
end
mutual
theorem T_nice {M : Nat} : ∀ (d : PyData) (bs : List Nat), (∀ b ∈ bs, b ≤ 1000000) → T M bs d → nice d = true
  | .none, _, _, _ => by simp [nice]
  | .bool _, _, _, _ => by simp [nice]
  | .int i, _, _, _ => by simp [nice]
  | .str z, _, _, h => by
    simp only [T] at h
    have := h.1
    simp only [nice, decide_eq_true_eq]
    omega
  | .list ds, bs, hb, h => by
    simp only [T] at h
    have h1 : bs.headD 0 ≤ 1000000 := by
      cases bs with
      | nil => simp
      | cons b bs => exact hb b List.mem_cons_self
    simp only [nice, Bool.and_eq_true, decide_eq_true_eq]
    exact ⟨by omega, TA_nice ds _ (fun b h => hb b (List.mem_of_mem_tail h)) h.2⟩
  | .tuple ds, bs, hb, h => by
    simp only [T] at h
    have h1 : bs.headD 0 ≤ 1000000 := by
      cases bs with
      | nil => simp
      | cons b bs => exact hb b List.mem_cons_self
    simp only [nice, Bool.and_eq_true, decide_eq_true_eq]
    exact ⟨by omega, TA_nice ds _ (fun b h => hb b (List.mem_of_mem_tail h)) h.2⟩
  | .dict _, _, _, h => by simp only [T] at h
theorem TA_nice {M : Nat} : ∀ (ds : List PyData) (bs : List Nat), (∀ b ∈ bs, b ≤ 1000000) → TA M bs ds → niceA ds = true
  | [], _, _, _ => by simp [niceA]
  | d :: ds, bs, hb, h => by
    simp only [TA] at h
    simp only [niceA, T_nice d _ hb h.1, TA_nice ds _ hb h.2, Bool.and_self]
end
/-- the breadths' bulk -/
def fb : List Nat → Nat
  | [] => 12
  | b :: bs => 12 + b * (fb bs + 1)
theorem fb12 : ∀ bs : List Nat, 12 ≤ fb bs
  | [] => Nat.le_refl _
  | _ :: _ => Nat.le_add_right _ _
mutual
theorem T_bulk {M : Nat} : ∀ (d : PyData) (bs : List Nat), T M bs d → d.bulk ≤ fb bs
  | .none, _, _ => by simp [PyData.bulk]
  | .bool _, _, _ => by simp [PyData.bulk]
  | .int i, _, _ => by simp [PyData.bulk]
  | .str z, bs, h => by
    simp only [T] at h
    have h1 : z.cps.size ≤ 12 := h.1
    have := fb12 bs
    simp only [PyData.bulk]
    omega
  | .list ds, bs, h => by
    simp only [T] at h
    have h2 := TA_bulk ds _ h.2
    simp only [PyData.bulk]
    cases bs with
    | nil =>
      have : ds = [] := by simpa using h.1
      subst this
      simp [PyData.bulkAll]
    | cons b bs =>
      have h3 : ds.length ≤ b := h.1
      have h4 := Nat.mul_le_mul_right (fb bs + 1) h3
      simp only [List.tail_cons] at h2
      simp only [fb]
      omega
  | .tuple ds, bs, h => by
    simp only [T] at h
    have h2 := TA_bulk ds _ h.2
    simp only [PyData.bulk]
    cases bs with
    | nil =>
      have : ds = [] := by simpa using h.1
      subst this
      simp [PyData.bulkAll]
    | cons b bs =>
      have h3 : ds.length ≤ b := h.1
      have h4 := Nat.mul_le_mul_right (fb bs + 1) h3
      simp only [List.tail_cons] at h2
      simp only [fb]
      omega
  | .dict _, _, h => by simp only [T] at h
theorem TA_bulk {M : Nat} : ∀ (ds : List PyData) (bs : List Nat), TA M bs ds → PyData.bulkAll ds ≤ ds.length * (fb bs + 1)
  | [], _, _ => by simp [PyData.bulkAll]
  | d :: ds, bs, h => by
    simp only [TA] at h
    have := T_bulk d _ h.1
    have := TA_bulk ds _ h.2
    simp only [PyData.bulkAll, List.length_cons, Nat.add_mul, Nat.one_mul] at *
    omega
end
mutual
theorem T_short {M : Nat} (hM : M ≤ 100000000000) : ∀ (d : PyData) (bs : List Nat), T M bs d → d.leavesShort 13 = true ∧ d.showable = true
  | .none, _, _ => by simp [PyData.leavesShort, PyData.showable]
  | .bool _, _, _ => by simp [PyData.leavesShort, PyData.showable]
  | .int i, _, h => by
    simp only [T] at h
    have h1 := PyData.shown_int_le2 (i := i) (by omega) (by omega)
    have h2 : i.natAbs.log2 < 1920 := by
      by_cases e : i.natAbs = 0
      · rw [e]; decide
      · have := (Nat.log2_lt e (k := 40)).mpr (by omega)
        omega
    simp only [PyData.leavesShort, PyData.showable, decide_eq_true_eq]
    exact ⟨h1, h2⟩
  | .str z, _, h => by
    simp only [T] at h
    simp only [PyData.leavesShort, PyData.showable, List.all_eq_true, decide_eq_true_eq, and_true]
    intro c hc
    have := h.2 c hc
    omega
  | .list ds, bs, h => by
    simp only [T] at h
    simp only [PyData.leavesShort, PyData.showable]
    exact TA_short hM ds _ h.2
  | .tuple ds, bs, h => by
    simp only [T] at h
    simp only [PyData.leavesShort, PyData.showable]
    exact TA_short hM ds _ h.2
  | .dict _, _, h => by simp only [T] at h
theorem TA_short {M : Nat} (hM : M ≤ 100000000000) : ∀ (ds : List PyData) (bs : List Nat), TA M bs ds → PyData.leavesShortAll 13 ds = true ∧ PyData.showableAll ds = true
  | [], _, _ => by simp [PyData.leavesShortAll, PyData.showableAll]
  | d :: ds, bs, h => by
    simp only [TA] at h
    simp only [PyData.leavesShortAll, PyData.showableAll, T_short hM d _ h.1, TA_short hM ds _ h.2, Bool.and_self, and_self]
end
theorem T_shaped {M : Nat} {bs : List Nat} {d : PyData} (h : T M bs d) (hb : bs.length ≤ 50) : SeqAt.shaped d = true := by
  have := T_depth d bs h
  simp only [SeqAt.shaped, T_lay d bs h, Bool.true_and, decide_eq_true_eq]
  omega
theorem T_shows {M : Nat} {bs : List Nat} {x : PyData} {l : List PyData} (hM : M ≤ 100000000000) (h : T M bs (.list (x :: l))) (hb : bs.length ≤ 30) (hf : fb bs ≤ 1048576) :
    ((PyData.list (x :: l)).showable && (decide ((PyData.list (x :: l)).shown.length ≤ 16777216) && decide ((PyData.list (x :: l)).depth ≤ 32))) = true := by
  have h1 := T_short hM _ _ h
  have h2 := T_depth _ _ h
  have h3 := T_bulk _ _ h
  have e : (2 : Nat) ^ 20 = 1048576 := by decide
  have h4 := PyData.shown_fits_bulk (B := 13) (by decide) (by decide) h1.1 (by rw [e]; exact Nat.le_trans h3 hf)
  rw [sizeLine_eq] at h4
  rw [h1.2]
  simp only [Bool.true_and, Bool.and_eq_true, decide_eq_true_eq]
  exact ⟨h4, by omega⟩
end WL
set_option Elab.async false
set_option linter.all false
set_option maxRecDepth 100000
set_option maxHeartbeats 4000000
namespace WL
open PySem PySem.Spec PyProof.Rows L2 DL
/-! ### cuts, bounded lists -/
theorem cut_drop {α : Type} (xs : List α) (k : Nat) : DL.cutD xs (some (k : Int)) none = xs.drop k := by
  unfold DL.cutD
  rw [HT.sIx_none, HT.sIx_nat]
  by_cases h : k ≤ xs.length
  · rw [Nat.min_eq_left h, List.take_of_length_le (by rw [List.length_drop]; omega)]
  · rw [Nat.min_eq_right (by omega), List.drop_eq_nil_of_le (Nat.le_refl _), List.drop_eq_nil_of_le (by omega)]
    simp
theorem cut_mid {α : Type} (xs : List α) (k j : Nat) : (DL.cutD xs (some (k : Int)) (some (j : Int))).length ≤ j - k := by
  unfold DL.cutD
  rw [HT.sIx_nat, HT.sIx_nat, List.length_take, List.length_drop]
  omega
theorem mem_cut {α : Type} {xs : List α} {lo hi : Option Int} {x : α} (h : x ∈ DL.cutD xs lo hi) : x ∈ xs := by
  unfold DL.cutD at h
  exact List.mem_of_mem_drop (List.mem_of_mem_take h)
theorem T_list {M b : Nat} {bs : List Nat} {l : List PyData} (hl : l.length ≤ b) (hm : ∀ y ∈ l, T M bs y) : T M (b :: bs) (.list l) := by
  simp only [T, List.headD_cons, List.tail_cons]
  exact ⟨hl, TA_iff.mpr hm⟩
theorem T_tup {M b : Nat} {bs : List Nat} {l : List PyData} (hl : l.length ≤ b) (hm : ∀ y ∈ l, T M bs y) : T M (b :: bs) (.tuple l) := by
  simp only [T, List.headD_cons, List.tail_cons]
  exact ⟨hl, TA_iff.mpr hm⟩
theorem T_list' {M b : Nat} {bs : List Nat} {l : List PyData} (h : T M (b :: bs) (.list l)) : l.length ≤ b ∧ ∀ y ∈ l, T M bs y := by
  simp only [T, List.headD_cons, List.tail_cons] at h
  exact ⟨h.1, TA_iff.mp h.2⟩
theorem T_tup' {M b : Nat} {bs : List Nat} {l : List PyData} (h : T M (b :: bs) (.tuple l)) : l.length ≤ b ∧ ∀ y ∈ l, T M bs y := by
  simp only [T, List.headD_cons, List.tail_cons] at h
  exact ⟨h.1, TA_iff.mp h.2⟩
theorem T_int {M : Nat} {bs : List Nat} {i : Int} (h : i.natAbs ≤ M) : T M bs (.int i) := by simp only [T]; exact h
theorem T_ints {M b : Nat} {bs : List Nat} {l : List Int} (hl : l.length ≤ b) (hm : ∀ i ∈ l, i.natAbs ≤ M) : T M (b :: bs) (.tuple (l.map .int)) :=
  T_tup (by simpa using hl) fun y hy => by
    obtain ⟨i, hi, rfl⟩ := List.mem_map.mp hy
    exact T_int (hm i hi)
theorem T_sv {a b s : Nat} {kd : Kd} {v : Sv} (h : sok a b kd v) (ha : a ≤ s) : T b [s, 2] v.d := by
  cases kd <;> cases v <;> first | exact h.elim | skip
  · exact T_int h
  · exact T_ints (Nat.le_trans h.1 ha) h.2
  · exact T_ints (Nat.le_trans h.1 ha) h.2
  · refine T_tup (by simpa using Nat.le_trans h.1 ha) fun y hy => ?_
    obtain ⟨r, hr, rfl⟩ := List.mem_map.mp hy
    refine T_tup (by simp) fun z hz => ?_
    have := h.2 r hr
    simp at hz
    rcases hz with e | e <;> subst e
    · simp only [T]; exact this.2
    · exact T_int this.1
theorem T_spot {a b s : Nat} {kd : Kd} {p : Spot} (h : sok a b kd p.2) (ha : a ≤ s) (hl : p.1.length ≤ s) (hc : ∀ i ∈ p.1, 0 ≤ i ∧ i < 4) (hb : 4 ≤ b) : T b [2, s, 2] (Spot.d p) := by
  refine T_tup (by simp) fun y hy => ?_
  simp at hy
  rcases hy with e | e <;> subst e
  · exact T_ints hl fun i hi => by have := hc i hi; omega
  · exact T_sv h ha
theorem ofS_codes (s : String) : ∀ c ∈ (Str.ofString s).cps.toList, c < 1114112 := by
  intro c hc
  rw [Str.ofString_eq_toList] at hc
  simp at hc
  obtain ⟨a, _, rfl⟩ := hc
  have := a.valid
  simp only [UInt32.isValidChar, Nat.isValidChar] at this
  show a.val.toNat < 1114112
  omega
theorem tidy_int {i : Int} (h : i.natAbs < 1000000) : tidy (Str.ofString (toString i)) := by
  refine ⟨?_, ofS_codes _⟩
  have h1 := int_text_length_le10 (a := i) (k := 6) (by decide) (by omega)
  have e : (Str.ofString (toString i)).length = (toString i).length := by rw [Str.ofString_eq_toList]; simp [Str.length, String.length_toList]
  omega
end WL
set_option Elab.async false
set_option linter.all false
set_option maxRecDepth 100000
set_option maxHeartbeats 4000000
namespace WL
open PySem PySem.Spec PyProof.Rows L2 DL
theorem rowsGo_app : ∀ (es es' : List Ev) (place : Nat) (found : List Rw) (cs : List (Int × Nat)), rowsGo (es ++ es') place found cs = (rowsGo es place found cs).bind fun x => rowsGo es' (place + es.length) x.1 x.2
  | [], es', place, found, cs => by simp [rowsGo]
  | e :: es, es', place, found, cs => by
    have ih := fun place found cs => rowsGo_app es es' place found cs
    have hp : place + 1 + es.length = place + (es.length + 1) := by omega
    cases e with
    | beg h w => simp only [List.cons_append, rowsGo, ih, List.length_cons, hp]
    | fin h a =>
      simp only [List.cons_append, rowsGo, List.length_cons]
      cases cat cs h with
      | none => rfl
      | some c =>
        simp only
        cases found[c]? with
        | none => rfl
        | some r => simp only [ih, hp]
theorem cat_put (cs : List (Int × Nat)) (h : Int) (n : Nat) : cat (cput cs h n) h = some n := by
  unfold cput
  by_cases c : (cs.any fun x => decide (x.1 = h)) = true
  · rw [if_pos c]
    unfold cat
    induction cs with
    | nil => simp at c
    | cons a cs ih =>
      rw [List.map_cons, List.find?_cons]
      by_cases c2 : a.1 = h
      · simp [c2]
      · rw [if_neg c2]
        simp only [c2, decide_false]
        apply ih
        simpa [List.any_cons, c2] using c
  · rw [if_neg c]
    unfold cat
    rw [List.find?_append]
    have : (cs.find? fun x => decide (x.1 = h)) = none := by
      rw [List.find?_eq_none]
      intro x hx e
      exact c (List.any_eq_true.mpr ⟨x, hx, e⟩)
    rw [this]
    simp
theorem cat_put_ne {cs : List (Int × Nat)} {h g : Int} {n : Nat} (hg : g ≠ h) : cat (cput cs h n) g = cat cs g := by
  unfold cput
  by_cases c : (cs.any fun x => decide (x.1 = h)) = true
  · rw [if_pos c]
    clear c
    unfold cat
    induction cs with
    | nil => rfl
    | cons a cs ih =>
      rw [List.map_cons, List.find?_cons, List.find?_cons]
      by_cases c2 : a.1 = h
      · have h3 : ¬ h = g := fun e => hg e.symm
        have h4 : ¬ a.1 = g := fun e => h3 (c2 ▸ e)
        simp only [c2, if_true, h3, decide_false]
        exact ih
      · rw [if_neg c2]
        by_cases c3 : a.1 = g
        · simp [c3]
        · simp only [c3, decide_false]
          exact ih
  · rw [if_neg c]
    unfold cat
    rw [List.find?_append]
    have h3 : ¬ h = g := fun e => hg e.symm
    cases cs.find? fun x => decide (x.1 = g) with
    | some x => rfl
    | none => simp [h3]
/-- an entry of the busy hands -/
def BusyOk (kd : Kd) (cs : List (Int × Nat)) (nr : Nat) (kv : Key × PyData) : Prop :=
  ∃ (h : Int) (own : Nat) (w : Wi) (told : Option An), kv = (.inl h, .tuple [.int (own : Int), w.d, .tuple (told.toList.map An.d)]) ∧ w.ok kd ∧ own < 4 ∧ (∀ a, told = some a → a.ok 100000) ∧ ∃ c, cat cs h = some c ∧ c < nr
structure TaInv (kd : Kd) (es : List Ev) (rows : List Rw) (cs : List (Int × Nat)) (kvs : List (Key × PyData)) (s : Sv) (row : List Nat) (j : Nat) : Prop where
  go : rowsGo es 0 [] [] = some (rows, cs)
  nrow : rows.length ≤ 4
  len : es.length ≤ j
  wish : ∀ r ∈ rows, r.wish.ok kd
  wishE : ∀ h w, Ev.beg h w ∈ es → w.ok kd ∧ small 2000000000 h
  ans : ∀ h a, Ev.fin h a ∈ es → a.ok 100000 ∧ small 2000000000 h
  fin : ∀ r ∈ rows, ∀ n, r.fin = some n → ∃ h a, es[n]? = some (.fin h a)
  busy : ∀ kv ∈ kvs, BusyOk kd cs rows.length kv
  klen : kvs.length ≤ j
  st : sok (3 + j) (999 + 1000 * j) kd s
  rlen : row.length ≤ j
  rlt : ∀ c ∈ row, c < 4
theorem ta_skip {kd es rows cs kvs s row j} (I : TaInv kd es rows cs kvs s row j) : TaInv kd es rows cs kvs s row (j + 1) :=
  { I with len := Nat.le_succ_of_le I.len, klen := Nat.le_succ_of_le I.klen, st := sok_mono I.st (by omega) (by omega), rlen := Nat.le_succ_of_le I.rlen }
theorem mem_putD {kvs : List (Key × PyData)} {k : Key} {v : PyData} {x : Key × PyData} (h : x ∈ putD kvs k v) : x ∈ kvs ∨ x = (k, v) := by
  unfold putD at h
  split at h
  · obtain ⟨y, hy, e⟩ := List.mem_map.mp h
    by_cases c : y.1 = k
    · rw [if_pos c, c] at e; exact .inr e.symm
    · rw [if_neg c] at e; subst e; exact .inl hy
  · rcases List.mem_append.mp h with e | e
    · exact .inl e
    · rw [List.mem_singleton] at e; exact .inr e
theorem putD_len (kvs : List (Key × PyData)) (k : Key) (v : PyData) : (putD kvs k v).length ≤ kvs.length + 1 := by
  unfold putD
  split <;> simp
theorem valD_put (kvs : List (Key × PyData)) (k : Key) (v : PyData) : valD (putD kvs k v) k = some v := by
  unfold putD
  by_cases c : (kvs.any fun kv => decide (kv.1 = k)) = true
  · rw [if_pos c]
    unfold valD
    induction kvs with
    | nil => simp at c
    | cons a kvs ih =>
      rw [List.map_cons, List.find?_cons]
      by_cases c2 : a.1 = k
      · simp [c2]
      · rw [if_neg c2]
        simp only [c2, decide_false]
        apply ih
        simpa [List.any_cons, c2] using c
  · rw [if_neg c]
    unfold valD
    rw [List.find?_append]
    have : (kvs.find? fun x => decide (x.1 = k)) = none := by
      rw [List.find?_eq_none]
      intro x hx e
      exact c (List.any_eq_true.mpr ⟨x, hx, e⟩)
    rw [this]
    simp
theorem valD_mem {kvs : List (Key × PyData)} {k : Key} {v : PyData} (h : valD kvs k = some v) : (k, v) ∈ kvs := by
  unfold valD at h
  obtain ⟨x, h1, h2⟩ := Option.map_eq_some_iff.mp h
  have h3 := List.find?_some h1
  simp only [decide_eq_true_eq] at h3
  have := List.mem_of_find?_eq_some h1
  subst h2; subst h3
  exact this
theorem ta_beg {kd es rows cs kvs s row j} {h : Int} {w : Wi} (I : TaInv kd es rows cs kvs s row j) (hh : small 2000000000 h) (hw : w.ok kd) (hr : rows.length < 4) :
    TaInv kd (es ++ [.beg h w]) (rows ++ [⟨h, w, es.length, none⟩]) (cput cs h rows.length) (putD kvs (.inl h) (.tuple [.int (rows.length : Int), w.d, .tuple []])) s row (j + 1) where
  go := by rw [rowsGo_app, I.go]; simp [rowsGo]
  nrow := by simp; omega
  len := by have := I.len; simp; omega
  wish := fun r hr2 => by
    rcases List.mem_append.mp hr2 with e | e
    · exact I.wish r e
    · rw [List.mem_singleton] at e; subst e; exact hw
  wishE := fun h2 w2 hm => by
    rcases List.mem_append.mp hm with e | e
    · exact I.wishE h2 w2 e
    · rw [List.mem_singleton] at e; cases e; exact ⟨hw, hh⟩
  ans := fun h2 w2 hm => by
    rcases List.mem_append.mp hm with e | e
    · exact I.ans h2 w2 e
    · rw [List.mem_singleton] at e; cases e
  fin := fun r hr2 n hn => by
    rcases List.mem_append.mp hr2 with e | e
    · obtain ⟨h2, a, e2⟩ := I.fin r e n hn
      exact ⟨h2, a, by rw [List.getElem?_append_left (List.getElem?_eq_some_iff.mp e2).1]; exact e2⟩
    · rw [List.mem_singleton] at e; subst e; cases hn
  busy := fun kv hkv => by
    rcases mem_putD hkv with e | e
    · obtain ⟨h2, own, w2, told, e1, e2, e3, e4, c, e5, e6⟩ := I.busy kv e
      refine ⟨h2, own, w2, told, e1, e2, e3, e4, ?_⟩
      by_cases x : h2 = h
      · subst x; exact ⟨rows.length, cat_put _ _ _, by simp⟩
      · exact ⟨c, by rw [cat_put_ne x]; exact e5, by simp; omega⟩
    · subst e
      exact ⟨h, rows.length, w, none, rfl, hw, hr, (fun _ h => by cases h), rows.length, cat_put _ _ _, by simp⟩
  klen := by have := putD_len kvs (.inl h) (.tuple [.int (rows.length : Int), w.d, .tuple []]); have := I.klen; omega
  st := sok_mono I.st (by omega) (by omega)
  rlen := Nat.le_succ_of_le I.rlen
  rlt := I.rlt
theorem ta_did {kd es rows cs kvs s row j} {h : Int} {own : Nat} {w : Wi} {v : PyData} (I : TaInv kd es rows cs kvs s row j) (hj : j < 20) (hm : (Sum.inl h, v) ∈ kvs) (hw : w.ok kd) (ho : own < 4) :
    TaInv kd es rows cs (putD kvs (.inl h) (.tuple [.int (own : Int), w.d, .tuple [(step kd s w).2.d]])) (step kd s w).1 (row ++ [own]) (j + 1) where
  go := I.go
  nrow := I.nrow
  len := Nat.le_succ_of_le I.len
  wish := I.wish
  wishE := I.wishE
  ans := I.ans
  fin := I.fin
  busy := fun kv hkv => by
    rcases mem_putD hkv with e | e
    · exact I.busy kv e
    · subst e
      obtain ⟨h2, own2, w2, told, e1, e2, e3, e4, c, e5, e6⟩ := I.busy _ hm
      cases e1
      exact ⟨h, own, w, some (step kd s w).2, rfl, hw, ho, fun a ha => by
        cases ha
        exact step_ans (sok_ok I.st (by omega) (by omega) (by omega)) hw, c, e5, e6⟩
  klen := by have := putD_len kvs (.inl h) (.tuple [.int (own : Int), w.d, .tuple [(step kd s w).2.d]]); have := I.klen; omega
  st := sok_mono (step_sok I.st hw) (by omega) (by omega)
  rlen := by have := I.rlen; simp; omega
  rlt := fun c hc => by
    rcases List.mem_append.mp hc with e | e
    · exact I.rlt c e
    · rw [List.mem_singleton] at e; subst e; exact ho
theorem ta_fin {kd es rows cs kvs s row j} {h : Int} {a : An} {v : PyData} (I : TaInv kd es rows cs kvs s row j) (hh : small 2000000000 h) (hm : (Sum.inl h, v) ∈ kvs) (ha : a.ok 100000) :
    ∃ rows', rows'.length = rows.length ∧ TaInv kd (es ++ [.fin h a]) rows' cs (dropD kvs (.inl h)) s row (j + 1) := by
  obtain ⟨h2, own2, w2, told, e1, e2, e3, e4, c, e5, e6⟩ := I.busy _ hm
  cases e1
  have hc : rows[c]? = some rows[c] := List.getElem?_eq_getElem e6
  generalize rows[c] = u at hc
  have hu := List.mem_of_getElem? hc
  refine ⟨rows.set c (u.setFin es.length), by simp, ?_⟩
  exact {
    go := by rw [rowsGo_app, I.go]; simp [rowsGo, e5, hc]
    nrow := by simpa using I.nrow
    len := by have := I.len; simp; omega
    wish := fun r hr => by
      rcases List.mem_or_eq_of_mem_set hr with e | e
      · exact I.wish r e
      · subst e; exact I.wish u hu
    wishE := fun h2 w2 hm => by
      rcases List.mem_append.mp hm with e | e
      · exact I.wishE h2 w2 e
      · rw [List.mem_singleton] at e; cases e
    ans := fun h2 w2 hm => by
      rcases List.mem_append.mp hm with e | e
      · exact I.ans h2 w2 e
      · rw [List.mem_singleton] at e; cases e; exact ⟨ha, hh⟩
    fin := fun r hr n hn => by
      rcases List.mem_or_eq_of_mem_set hr with e | e
      · obtain ⟨h2, x, e2⟩ := I.fin r e n hn
        exact ⟨h2, x, by rw [List.getElem?_append_left (List.getElem?_eq_some_iff.mp e2).1]; exact e2⟩
      · subst e
        cases hn
        exact ⟨h, a, by rw [List.getElem?_append_right (Nat.le_refl _)]; simp⟩
    busy := fun kv hkv => by
      have := I.busy kv (List.mem_filter.mp hkv).1
      simpa using this
    klen := by
      have := List.length_filter_le (fun kv : Key × PyData => decide (kv.1 ≠ .inl h)) kvs
      have := I.klen
      show (kvs.filter fun kv => decide (kv.1 ≠ .inl h)).length ≤ _
      omega
    st := sok_mono I.st (by omega) (by omega)
    rlen := Nat.le_succ_of_le I.rlen
    rlt := I.rlt }
theorem ta_tl {kd es rows cs kvs s row j} (I : TaInv kd es rows cs kvs s row j) (hj : j ≤ 20) : Tl kd es rows where
  ok := by unfold rowsOfT; rw [I.go]; rfl
  len := by have := I.len; omega
  nrow := by have := I.nrow; omega
  wish := I.wish
  wishE := I.wishE
  ans := fun h a hm => ⟨by
    have := (I.ans h a hm).1
    cases a <;> first | trivial | exact Nat.le_trans this (by decide), (I.ans h a hm).2⟩
  fin := I.fin
end WL
set_option Elab.async false
set_option linter.all false
set_option maxRecDepth 100000
set_option maxHeartbeats 4000000
namespace WL
open PySem PySem.Spec PyProof.Rows L2 DL
def handF (lo st : Int) : PyData → PyData
  | .int i => .int (lo + st * i)
  | _ => .none
theorem shaped_an (x : An) : SeqAt.shaped (.tuple [x.d]) = true := by cases x <;> simp [An.d, SeqAt.shaped, PyData.canLay0, PyData.canLayAll0, PyData.depth, PyData.depthAll]
theorem pf_law_tale : ∀ ws n Q, p_law_tale ws n Q → g_law_tale (E0 Q) n (startD N_law_tale ws) := by
  rintro _ n Q ⟨kd, a, b, s, k, rfl, ha, hb, hs, hk0, hk1, h3, hq⟩
  have h3' : n + 300 ≤ 1000000000 := h3
  simp
  refine ⟨by simp only [lim]; omega, fun m r hm hr0 hr1 => ⟨by simp only [lim]; omega, fun m2 r2 hm2 hr2 hr3 => ex_atI hr2 (by simpa using hr3) fun lo hlo => ⟨by simp only [lim]; omega, fun m3 r3 hm3 hr4 hr5 => ⟨by omega, by omega, ?_⟩⟩⟩⟩
  obtain ⟨lo, rfl, hlo1, hlo2⟩ : ∃ i : Int, lo = .int i ∧ 0 ≤ i ∧ i ≤ 1000000000 := by
    simp at hlo
    rcases hlo with e | e | e <;> subst e <;> exact ⟨_, rfl, by decide, by decide⟩
  refine dlc_map (handF lo (1 + r)) ?_ (by simp [rngD]; omega) ?_
  · intro d hd acc K ha hk
    obtain ⟨i, hi, rfl⟩ := List.mem_map.mp hd
    have hi := List.mem_range.mp hi
    simp
    exact ⟨.inl ⟨by omega, by omega⟩, ha, hk⟩
  · have hhands : ∀ d ∈ (rngD (2 + r3).toNat).map (handF lo (1 + r)), ∃ h : Int, d = .int h ∧ small 2000000000 h := by
      intro d hd
      obtain ⟨x, hx, rfl⟩ := List.mem_map.mp hd
      obtain ⟨i, hi, rfl⟩ := List.mem_map.mp hx
      have hi := List.mem_range.mp hi
      refine ⟨_, rfl, ?_⟩
      have h1 : (i : Int) ≤ 4 := by omega
      have h2 : 0 ≤ (1 + r) * (i : Int) := Int.mul_nonneg (by omega) (by omega)
      have h4 : (1 + r) * (i : Int) ≤ 5 * 4 := Int.mul_le_mul (by omega) h1 (by omega) (by omega)
      show (lo + (1 + r) * (i : Int)).natAbs ≤ 2000000000
      omega
    have hlen : 0 < ((rngD (2 + r3).toNat).map (handF lo (1 + r))).length ∧ ((rngD (2 + r3).toNat).map (handF lo (1 + r))).length < 1000 := by
      simp [rngD]
      omega
    generalize (rngD (2 + r3).toNat).map (handF lo (1 + r)) = hands at hhands hlen
    intro p p1 p2
    refine ⟨by omega, by omega, ?_⟩
    refine dLoop_ind (I := fun rr m ρ => ∃ (es : List Ev) (rows : List Rw) (cs : List (Int × Nat)) (kvs : List (Key × PyData)) (st : Sv) (row : List Nat) (j : Nat) (o11 o14 o15 o16 o17 o18 o19 o20 : Option W),
      TaInv kd es rows cs kvs st row j ∧ (rows.length : Int) ≤ k ∧ j + rr.length ≤ 20 ∧ m + 8 * rr.length ≤ n + 163 ∧ ρ = [some .box, some (.dat (Kd.d kd)), some (.dat (strsD [a, b])), some (.dat s.d), some (.dat (.int k)), some (.dat (.int (1 + r))), some (.dat (.int lo)), some (.dat (.list hands)), some (.dat st.d),
        some (.olst p (es.map Ev.d)), some (.olst p1 (row.map fun (i : Nat) => PyData.int (i : Int))), o11, some (.odic p2 kvs), some (.dat (.int (rows.length : Int))), o14, o15, o16, o17, o18, o19, o20]) ?_ ?_ _ _ _ ?_
    rotate_left 2
    · refine ⟨[], [], [], [], s, [], 0, none, none, none, none, none, none, none, none, ⟨rfl, by simp, by simp, by simp, by simp, by simp, by simp, by simp, by simp, hs, by simp, by simp⟩, by simpa using hk0, by simp [rngD]; omega, by simp [rngD]; omega, rfl⟩
    · rintro m' _ ⟨es, rows, cs, kvs, st, row, j, o11, o14, o15, o16, o17, o18, o19, o20, I, hmk, hj, hm', rfl⟩
      have := hq m' es rows row (by omega) (ta_tl I (by omega)) (fun h a hm => (I.ans h a hm).1) I.nrow (by have := I.rlen; omega) I.rlt
      simpa using this
    · rintro d rr m' _ ⟨es, rows, cs, kvs, st, row, j, o11, o14, o15, o16, o17, o18, o19, o20, I, hmk, hj, hm', rfl⟩ K2 hK
      simp only [List.length_cons] at hj hm'
      simp
      refine ⟨hlen.1, by omega, by simp only [lim]; omega, fun m4 hand hm4 hhm => ⟨by simp only [lim]; omega, fun m5 way hm5 hw0 hw1 => ?_⟩⟩
      obtain ⟨h, rfl, hh⟩ := hhands hand hhm
      have hin : inW (.dat (.int h)) (.odic p2 kvs) = some (valD kvs (.inl h)).isSome := rfl
      have hkl := I.klen
      have hel := I.len
      have hrl := I.rlen
      cases hv : valD kvs (.inl h) with
      | none =>
        rw [hv] at hin
        by_cases c : (rows.length : Int) < k
        · simp [hin, hv, c]
          refine .inr ⟨kd, a, b, rfl, ha, hb, by simp only [lim]; omega, fun m6 w hm6 hw => ⟨[w.d, .tuple []], rfl, by simp, by omega, _, valD_put _ _ _, .dat w.d, by simp, [w.d], rfl, by simp, by omega, ?_⟩⟩
          have := hK m6 _ ⟨_, _, _, _, st, row, j + 1, o11, some (.dat d), some (.dat (.int h)), some (.dat (.int way)), o17, o18, o19, o20, ta_beg I hh hw (by omega), by simp; omega, by omega, by omega, rfl⟩
          simpa [Ev.d] using this
        · simp [hin, hv, c]
          exact ⟨by omega, hK m5 _ ⟨es, rows, cs, kvs, st, row, j + 1, _, _, _, _, _, _, _, _, ta_skip I, hmk, by omega, by omega, rfl⟩⟩
      | some v =>
        rw [hv] at hin
        have hm6 := valD_mem hv
        obtain ⟨h2, own, w, told, e1, e2, e3, e4, cc, e5, e6⟩ := I.busy _ hm6
        cases e1
        by_cases c : 0 < way
        · cases told with
          | none =>
            simp [hin, hv, c]
            refine .inr ⟨st, rfl, w, rfl, sok_ok I.st (by omega) (by show _ ≤ 1000000; omega) (by show _ ≤ 1000000; omega), e2, _, rfl, rfl, _, _, rfl, _, _, rfl, rfl, by omega, by omega, ?_⟩
            have := hK m5 _ ⟨es, rows, cs, _, _, _, j + 1, o11, some (.dat d), some (.dat (.int h)), some (.dat (.int way)), some (.dat (.int own)), some (.dat w.d), some (.dat (.tuple [])), some (.dat (step kd st w).2.d), ta_did I (by omega) hm6 e2 e3, hmk, by omega, by omega, rfl⟩
            simpa using this
          | some x =>
            simp [hin, hv, c]
            obtain ⟨rows', hr', I'⟩ := ta_fin I hh hm6 (e4 x rfl)
            refine .inr ⟨shaped_an x, by omega, ?_⟩
            have := hK m5 _ ⟨_, rows', cs, _, st, row, j + 1, o11, some (.dat d), some (.dat (.int h)), some (.dat (.int way)), some (.dat (.int own)), some (.dat w.d), some (.dat (.tuple [x.d])), o20, I', by rw [hr']; exact hmk, by omega, by omega, rfl⟩
            rw [hr'] at this
            simpa [Ev.d] using this
        · simp [hin, hv, c]
          exact ⟨by omega, hK m5 _ ⟨es, rows, cs, kvs, st, row, j + 1, _, _, _, _, _, _, _, _, ta_skip I, hmk, by omega, by omega, rfl⟩⟩
end WL
set_option Elab.async false
set_option linter.all false
set_option maxRecDepth 100000
set_option maxHeartbeats 4000000
namespace WL
open PySem PySem.Spec PyProof.Rows L2 DL
theorem rowsGo_set {h : Int} {a a' : An} : ∀ (es : List Ev) (i place : Nat) (found : List Rw) (cs : List (Int × Nat)), es[i]? = some (.fin h a) → rowsGo (es.set i (.fin h a')) place found cs = rowsGo es place found cs
  | [], i, _, _, _, e => by simp at e
  | e :: es, 0, place, found, cs, h => by
    simp at h
    subst h
    simp [rowsGo]
  | e :: es, i + 1, place, found, cs, h => by
    have ih := fun place found cs => rowsGo_set (h := _) (a := a) (a' := a') es i place found cs (by simpa using h)
    cases e with
    | beg h2 w => simp only [List.set_cons_succ, rowsGo, ih]
    | fin h2 b =>
      simp only [List.set_cons_succ, rowsGo]
      cases cat cs h2 with
      | none => rfl
      | some c =>
        simp only
        cases found[c]? with
        | none => rfl
        | some r => simp only [ih]
theorem tl_set {kd : Kd} {t : List Ev} {rows : List Rw} {i : Nat} {h : Int} {a a' : An} (ht : Tl kd t rows) (e : t[i]? = some (.fin h a)) (ha : a'.ok 1000000) : Tl kd (t.set i (.fin h a')) rows := by
  have hs := (ht.ans h a (List.mem_of_getElem? e)).2
  refine ⟨?_, by simpa using ht.len, ht.nrow, ht.wish, fun h2 w hm => ?_, fun h2 b hm => ?_, fun r hr n hn => ?_⟩
  · have := ht.ok
    unfold rowsOfT at this ⊢
    rw [rowsGo_set t i 0 [] [] e]
    exact this
  · rcases List.mem_or_eq_of_mem_set hm with h3 | h3
    · exact ht.wishE h2 w h3
    · cases h3
  · rcases List.mem_or_eq_of_mem_set hm with h3 | h3
    · exact ht.ans h2 b h3
    · cases h3; exact ⟨ha, hs⟩
  · obtain ⟨h2, b, hb⟩ := ht.fin r hr n hn
    by_cases c : i = n
    · subst c
      rw [e] at hb
      exact ⟨h, a', by rw [List.getElem?_set_self]; (have := (List.getElem?_eq_some_iff.mp e).1; exact this)⟩
    · exact ⟨h2, b, by rw [List.getElem?_set_ne c]; exact hb⟩
theorem ans_set {t : List Ev} {i b : Nat} {h : Int} {a' : An} (ht : ansOk b t) (ha : a'.ok b) : ansOk b (t.set i (.fin h a')) := by
  intro h2 x hm
  rcases List.mem_or_eq_of_mem_set hm with h3 | h3
  · exact ht h2 x h3
  · cases h3; exact ha
theorem an_mono {b b' : Nat} {x : An} (h : x.ok b) (hb : b ≤ b') : x.ok b' := by
  cases x <;> first | trivial | exact Nat.le_trans h hb
def isFin : Ev → Bool
  | .fin _ _ => true
  | _ => false
def endF : PyData → Option PyData
  | .tuple [.int k, .tuple (.str w :: _)] => if w = "end" then some (.int k) else none
  | _ => none
theorem pf_law_bent : ∀ ws n Q, p_law_bent ws n Q → g_law_bent (E0 Q) n (startD N_law_bent ws) := by
  rintro _ n Q ⟨kd, t, rows, b, rfl, ht, ha, h1, h2, h3, hq⟩
  have h3' : n + 3 ≤ 1000000000 := h3
  have hlen := ht.len
  have hans : ∀ a, (∃ h, Ev.fin h a ∈ t) → a.ok (b + 1) := fun a ⟨h, hm⟩ => an_mono (ha h a hm) (by omega)
  have hok : ∀ t', Tl kd t' rows → ansOk (b + 1) t' → ∀ m, m ≤ n + 3 → Q (.dat (talD t')) m := fun t' h1 h2 m hm => hq m t' hm h1 h2
  simp
  refine dlc_fm endF ?_ (by rw [enumD_len, List.length_map]; omega) ?_
  · intro d hd acc K ha hk
    obtain ⟨i, e, he, rfl⟩ := mem_enum hd
    cases e with
    | beg h w => simp [endF, Ev.d] at hk; simpa [Ev.d] using hk
    | fin h a => simp [endF, Ev.d] at hk; simpa [Ev.d, ha] using hk
  · have el : (enumD (t.map Ev.d)).filterMap endF = (((List.range t.length).filter fun i => ((t[i]?).map isFin).getD false).map fun (i : Nat) => (i : Int)).map PyData.int := by
      rw [List.map_map, enum_fm Ev.d _ (fun i => if ((t[i]?).map isFin).getD false = true then some (.int (i : Int)) else none) t ?_, ← filter_fm]
      · rfl
      · intro i e he
        cases e <;> simp [he, endF, Ev.d, isFin]
    rw [el]
    have ends : ∀ d ∈ (((List.range t.length).filter fun i => ((t[i]?).map isFin).getD false).map fun (i : Nat) => (i : Int)).map PyData.int, ∃ (i : Nat) (h : Int) (a : An), d = .int (i : Int) ∧ t[i]? = some (.fin h a) := by
      intro d hd
      obtain ⟨x, hx, rfl⟩ := List.mem_map.mp hd
      obtain ⟨i, hi, rfl⟩ := List.mem_map.mp hx
      have := (List.mem_filter.mp hi).2
      cases e : t[i]? with
      | none => rw [e] at this; simp at this
      | some ev =>
        rw [e] at this
        cases ev with
        | beg h w => simp [isFin] at this
        | fin h a => exact ⟨i, h, a, rfl, e⟩
    have lenL : ((((List.range t.length).filter fun i => ((t[i]?).map isFin).getD false).map fun (i : Nat) => (i : Int)).map PyData.int).length ≤ 60 := by
      rw [List.length_map, List.length_map]
      have := List.length_filter_le (fun i => ((t[i]?).map isFin).getD false) (List.range t.length)
      rw [List.length_range] at this
      omega
    refine ⟨shaped_lst _, shaped_lst [], ?_⟩
    generalize (((List.range t.length).filter fun i => ((t[i]?).map isFin).getD false).map fun (i : Nat) => (i : Int)).map PyData.int = L at ends lenL
    cases L with
    | nil =>
      refine .inr ⟨by simp [PyData.eqv, PyData.eqvAll], ?_⟩
      exact hok t ht (fun h a hm => an_mono (ha h a hm) (by omega)) _ (by omega)
    | cons x L =>
      refine .inl ⟨by simp [PyData.eqv, PyData.eqvAll], by simp, by omega, by simp only [lim]; omega, fun m d hm hd => ⟨by simp, by omega, by simp only [lim]; omega, fun m2 d2 hm2 hd2 => ?_⟩⟩
      obtain ⟨i, h, a, rfl, hi⟩ := ends d hd
      obtain ⟨j, h2, a2, rfl, hj⟩ := ends d2 hd2
      have hi2 : atI (t.map Ev.d) (i : Int) = some (.tuple [.str "end", .int h, a.d]) := by rw [atI_nat, List.getElem?_map, hi]; rfl
      have hj2 : atI (t.map Ev.d) (j : Int) = some (.tuple [.str "end", .int h2, a2.d]) := by rw [atI_nat, List.getElem?_map, hj]; rfl
      have cutA : ∀ x y z : PyData, DL.cutD [x, y, z] none (some 2) = [x, y] := fun x y z => cut_take [x, y, z] 2
      have cutB : ∀ x y z : PyData, DL.cutD [x, y, z] (some 2) none = [z] := fun x y z => cut_drop [x, y, z] 2
      have hil := (List.getElem?_eq_some_iff.mp hi).1
      have hjl := (List.getElem?_eq_some_iff.mp hj).1
      have a1 := (ht.ans h a (List.mem_of_getElem? hi)).1
      have a3 := (ht.ans h2 a2 (List.mem_of_getElem? hj)).1
      have b1 := hans a ⟨h, List.mem_of_getElem? hi⟩
      have b3 := hans a2 ⟨h2, List.mem_of_getElem? hj⟩
      have ans0 : ansOk (b + 1) t := fun h a hm => an_mono (ha h a hm) (by omega)
      have t1 := tl_set ht hi a3
      have t1a := ans_set (i := i) (h := h) ans0 b3
      simp [hi2, hj2, cutA, cutB]
      refine ⟨i, ixN_nat hil, j, ixN_nat hjl, ?_⟩
      by_cases c : i = j
      · subst c
        rw [hi] at hj
        cases hj
        have e2 : (t.set i (.fin h a))[i]? = some (.fin h a) := by rw [List.getElem?_set_self hil]
        have t2 := tl_set t1 e2 a1
        have t2a := ans_set (i := i) (h := h) t1a b1
        have e3 : ((t.set i (.fin h a)).set i (.fin h a))[i]? = some (.fin h a) := by rw [List.getElem?_set_self (by simpa using hil)]
        refine .inr ⟨rfl, a, rfl, by simp only [lim]; omega, fun m3 y hm3 hy => ⟨[y.d], rfl, by simp, by simp, i, ixN_nat hil, ?_⟩⟩
        have y1 : y.ok (b + 1) := hy b h1 (ha h a (List.mem_of_getElem? hi))
        have := hok _ (tl_set t2 e3 (an_mono y1 (by omega))) (ans_set t2a y1) m3 (by omega)
        simp only [talD, List.map_set] at this
        exact this
      · refine .inl ⟨by omega, ?_⟩
        have e2 : (t.set i (.fin h a2))[j]? = some (.fin h2 a2) := by rw [List.getElem?_set_ne c]; exact hj
        have := hok _ (tl_set t1 e2 a1) (ans_set t1a b1) m2 (by omega)
        simp only [talD, List.map_set] at this
        exact this
end WL
set_option Elab.async false
set_option linter.all false
set_option maxRecDepth 100000
set_option maxHeartbeats 4000000
namespace WL
open PySem PySem.Spec PyProof.Rows L2 DL
/-- how many counts below k a spot still lacks -/
def fr (p : Spot) : Nat → Nat
  | 0 => 0
  | k + 1 => fr p k + (if memI k p.1 = true then 0 else 1)
theorem fr_mono (p : Spot) : ∀ {j k : Nat}, j ≤ k → fr p j ≤ fr p k
  | j, 0, h => by
    have : j = 0 := by omega
    subst this
    exact Nat.le_refl _
  | j, k + 1, h => by
    by_cases c : j = k + 1
    · subst c; exact Nat.le_refl _
    · have := fr_mono p (j := j) (k := k) (by omega)
      simp only [fr]
      omega
theorem fr_le (p : Spot) : ∀ k, fr p k ≤ k
  | 0 => Nat.le_refl _
  | k + 1 => by
    have := fr_le p k
    simp only [fr]
    split <;> omega
theorem aft_fr (kd : Kd) (t : List Ev) (rows : List Rw) (p : Spot) : ∀ k, ((List.range k).filterMap (aftF kd t rows p)).length ≤ fr p k
  | 0 => Nat.le_refl _
  | k + 1 => by
    have := aft_fr kd t rows p k
    rw [aft_succ, List.length_append]
    simp only [fr]
    cases e : aftF kd t rows p k with
    | none => simp; omega
    | some x =>
      obtain ⟨r, _, h2, _⟩ := aftF_some e
      rw [h2]
      simp
      omega
theorem fr_next {p q : Spot} {i : Nat} (hi : memI i p.1 = false) (hq : ∀ j : Nat, memI j q.1 = true ↔ (memI j p.1 = true ∨ j = i)) : ∀ k, fr p k = fr q k + (if i < k then 1 else 0)
  | 0 => by simp [fr]
  | k + 1 => by
    have ih := fr_next hi hq k
    have h := hq k
    simp only [fr, ih]
    by_cases c : k = i
    · subst c
      have : memI k q.1 = true := h.mpr (.inr rfl)
      rw [this, hi]
      simp
    · by_cases c2 : memI k p.1 = true
      · have : memI k q.1 = true := h.mpr (.inl c2)
        rw [this, c2]
        simp only [if_true]
        by_cases c3 : i < k
        · rw [if_pos c3, if_pos (by omega)]
        · rw [if_neg c3, if_neg (by omega)]
      · have : ¬ memI k q.1 = true := fun e => (h.mp e).elim c2 c
        rw [if_neg c2, if_neg this]
        by_cases c3 : i < k
        · rw [if_pos c3, if_pos (by omega)]
        · rw [if_neg c3, if_neg (by omega)]
def wt : Nat → Nat
  | 0 => 1
  | k + 1 => 1 + (k + 1) * wt k
theorem wt_pos : ∀ k, 1 ≤ wt k
  | 0 => Nat.le_refl _
  | _ + 1 => Nat.le_add_right _ _
def pot : List Spot → Nat
  | [] => 0
  | p :: l => wt (fr p 4) + pot l
theorem pot_app : ∀ a b : List Spot, pot (a ++ b) = pot a + pot b
  | [], b => by simp [pot]
  | p :: a, b => by simp only [List.cons_append, pot, pot_app a b]; omega
theorem pot_len : ∀ a : List Spot, a.length ≤ pot a
  | [] => Nat.le_refl _
  | p :: a => by
    have := pot_len a
    have := wt_pos (fr p 4)
    simp only [List.length_cons, pot]
    omega
theorem pot_eq {w : Nat} : ∀ l : List Spot, (∀ p ∈ l, fr p 4 = w) → pot l = l.length * wt w
  | [], _ => by simp [pot]
  | p :: l, h => by
    have h1 := h p List.mem_cons_self
    have := pot_eq l fun q hq => h q (List.mem_cons_of_mem _ hq)
    simp only [pot, h1, this, List.length_cons, Nat.add_mul]
    omega
/-- a spot among the closed ones -/
def Good (kd : Kd) (p : Spot) : Prop := p.1.length + fr p 4 ≤ 8 ∧ (∀ i ∈ p.1, 0 ≤ i ∧ i < 4) ∧ sok (10 - fr p 4) (5998 - 1000 * fr p 4) kd p.2
theorem good_ok {kd : Kd} {p : Spot} (h : Good kd p) : SpotOk kd p := ⟨by have := h.1; omega, h.2.1, sok_mono h.2.2 (by omega) (by omega)⟩
theorem good_start {kd : Kd} {p : Spot} (h : p.1.length ≤ 4 ∧ (∀ i ∈ p.1, 0 ≤ i ∧ i < 4) ∧ sok 6 1998 kd p.2) : Good kd p := by
  have := fr_le p 4
  exact ⟨by omega, h.2.1, sok_mono h.2.2 (by omega) (by omega)⟩
theorem good_next {kd : Kd} {t : List Ev} {rows : List Rw} {p : Spot} {x : Nat × Spot} (hw : ∀ r ∈ rows, r.wish.ok kd) (hn : rows.length ≤ 4) (h : Good kd p) (hx : x ∈ afterF kd t rows p) : Good kd x.2 ∧ fr p 4 = fr x.2 4 + 1 := by
  obtain ⟨r, h1, h2, h3, h4⟩ := afterF_mem hx
  have hf := fr_next (p := p) (q := x.2) (i := x.1) h3 (fun j => by
    rw [h4, memI_iff, memI_iff, (isort_perm _).mem_iff, List.mem_append, List.mem_singleton]
    constructor
    · rintro (h | h)
      · exact .inl h
      · exact .inr (by omega)
    · rintro (h | h)
      · exact .inl h
      · subst h; exact .inr rfl) 4
  rw [if_pos (by omega)] at hf
  have hl : x.2.1.length = p.1.length + 1 := by rw [h4]; simp only; rw [(isort_perm _).length_eq]; simp
  refine ⟨⟨by have := h.1; omega, fun i hi => ?_, ?_⟩, hf⟩
  · rw [h4] at hi
    simp only at hi
    rw [(isort_perm _).mem_iff, List.mem_append, List.mem_singleton] at hi
    rcases hi with e | e
    · exact h.2.1 i e
    · subst e; omega
  · have := step_sok h.2.2 (hw r (List.mem_of_getElem? h1))
    have hb := fr_le p 4
    have e2 : x.2.2 = (step kd p.2 r.wish).1 := by rw [h4]
    rw [e2]
    exact sok_mono this (by omega) (by omega)
def ClZ (kd : Kd) (t : List Ev) (rows : List Rw) (l : List Spot) (p p1 : Addr) (n k n' : Nat) (ρ : Rho) : Prop :=
  n' = n ∧ ∃ (A B : List Spot) (ks : List NestedKey) (o1 o2 : Option W), k = pot B ∧ ρ = [some (.dat (Kd.d kd)), some (.dat (talD t)), some (.dat (spotsD l)), some (.dat (rowsD rows)), some (.olst p ((A ++ B).map Spot.d)), some (.onst p1 ks), some (.dat (.int (A.length : Int))), o1, o2] ∧
      A.length + pot B ≤ 130 ∧ (∀ x ∈ A ++ B, Good kd x) ∧ ks.length ≤ (A ++ B).length
theorem addK_len (ks : List NestedKey) (k : NestedKey) : (addK ks k).length ≤ ks.length + 1 := by unfold addK; split <;> simp
theorem pf_law_closed : ∀ ws n Q, p_law_closed ws n Q → g_law_closed (E0 Q) n (startD N_law_closed ws) := by
  rintro _ n Q ⟨kd, t, rows, l, rfl, ht, hn, hl, hp, hq⟩
  simp
  refine ⟨kd, t, rfl, rows, ht, fun p p1 => ?_⟩
  refine dLoop_ind (I := fun r m ρ => m = n ∧ ∃ (F R : List Spot) (ks : List NestedKey) (o1 o2 : Option W), r = R.map Spot.d ∧ ρ = [some (.dat (Kd.d kd)), some (.dat (talD t)), some (.dat (spotsD l)), some (.dat (rowsD rows)), some (.olst p (F.map Spot.d)), some (.onst p1 ks), some (.dat (.int 0)), o1, o2] ∧
    F.length + R.length ≤ 2 ∧ (∀ x ∈ F, Good kd x) ∧ (∀ x ∈ R, Good kd x) ∧ ks.length ≤ F.length) ?_ ?_ _ _ _ ⟨rfl, [], l, [], none, none, rfl, rfl, by simpa using hl, by simp, fun x hx => good_start (hp x hx), by simp⟩
  · rintro m _ ⟨rfl, F, R, ks, o1, o2, he, rfl, hl2, hF, hR, hk⟩
    have : R = [] := by cases R with | nil => rfl | cons a b => simp at he
    subst this
    have hpot : pot F ≤ 130 := by
      have hw : ∀ x : Spot, wt (fr x 4) ≤ 65 := fun x => by
        have := fr_le x 4
        have h : ∀ k, k ≤ 4 → wt k ≤ 65 := by decide
        exact h _ this
      simp at hl2
      match F, hl2 with
      | [], _ => simp [pot]
      | [a], _ => have := hw a; simp [pot]; omega
      | [a, b], _ => have := hw a; have := hw b; simp [pot]; omega
    refine ⟨ClZ kd t rows l p p1 m, ⟨_, rfl, [], F, ks, o1, o2, rfl, rfl, by simpa using hpot, by simpa using hF, by simpa using hk⟩, ?_⟩
    rintro k n1 _ ⟨rfl, A, B, ks, o1, o2, rfl, rfl, h1, h2, h3⟩
    cases B with
    | nil =>
      simp at h2
      simp [pot] at h1
      have := hq A h1 fun x hx => good_ok (h2 x.1 x.2 hx)
      simpa using this
    | cons x B =>
      have hx : Good kd x := h2 x (by simp)
      have hat : atI (A.map Spot.d ++ x.d :: B.map Spot.d) (A.length : Int) = some x.d := by
        rw [atI_nat, List.getElem?_append_right (by simp)]
        simp
      have hok : Sv.ok B6 kd x.2 := sok_ok hx.2.2 (by omega) (by show _ ≤ 1000000; omega) (by show _ ≤ 1000000; omega)
      have hS : (afterF kd t rows x).length ≤ fr x 4 := by
        rw [afterF_eq]
        exact Nat.le_trans (aft_fr kd t rows x rows.length) (fr_mono x hn)
      simp
      refine .inr ⟨by omega, fun n' ρ => ∃ m', m' < pot (x :: B) ∧ ClZ kd t rows l p p1 n1 m' n' ρ, fun n ρ h => h, x.d, hat, t, rfl, rows, rfl, x.1, x.2, rfl, ht, hok, by have := hx.1; omega, ?_⟩
      rw [show ((x.1, x.2) : Spot) = x from rfl, beh_vals]
      refine dLoop_ind (I := fun r m ρ => m = n1 ∧ ∃ (G : List Spot) (R : List (Nat × Spot)) (ks : List NestedKey) (o2 : Option W), r = R.map (fun y => Spot.d y.2) ∧ ρ = [some (.dat (Kd.d kd)), some (.dat (talD t)), some (.dat (spotsD l)), some (.dat (rowsD rows)), some (.olst p ((A ++ x :: B ++ G).map Spot.d)), some (.onst p1 ks), some (.dat (.int (A.length : Int))), o1, o2] ∧
        G.length + R.length ≤ (afterF kd t rows x).length ∧ (∀ y ∈ G, Good kd y ∧ fr x 4 = fr y 4 + 1) ∧ (∀ y ∈ R, y ∈ afterF kd t rows x) ∧ ks.length ≤ (A ++ x :: B ++ G).length) ?_ ?_ _ _ _ ⟨rfl, [], afterF kd t rows x, ks, o2, rfl, by simp, by simp, by simp, fun _ h => h, by simpa using h3⟩
      · rintro m _ ⟨rfl, G, R, ks, o2, he, rfl, hl3, hG, hR3, hk3⟩
        have hgl : G.length ≤ fr x 4 := by omega
        have hpg : pot G + 1 ≤ wt (fr x 4) := by
          cases e : fr x 4 with
          | zero =>
            have : G = [] := by
              rw [e] at hgl
              exact List.length_eq_zero_iff.mp (by omega)
            subst this
            simp [pot, wt]
          | succ g =>
            have := pot_eq (w := g) G fun y hy => by have := (hG y hy).2; omega
            rw [e] at hgl
            have h5 := Nat.mul_le_mul_right (wt g) hgl
            simp only [wt]
            omega
        simp
        refine ⟨pot (B ++ G), ?_, rfl, A ++ [x], B ++ G, ks, o1, o2, rfl, ?_, ?_, ?_, ?_⟩
        · rw [pot_app]; simp only [pot]; omega
        · simp
        · rw [pot_app]; simp only [pot] at h1; simp; omega
        · intro y hy
          simp only [List.mem_append, List.mem_singleton] at hy
          rcases hy with (e | e) | e | e
          · exact h2 y (by simp [e])
          · subst e; exact hx
          · exact h2 y (by simp [e])
          · exact (hG y e).1
        · simpa using hk3
      · rintro d r m _ ⟨rfl, G, R, ks, o2, he, rfl, hl3, hG, hR3, hk3⟩ K2 hK
        cases R with
        | nil => simp at he
        | cons y R =>
          cases he
          simp only [List.length_cons] at hl3
          have hy := good_next ht.wish hn hx (hR3 y List.mem_cons_self)
          obtain ⟨k, ek⟩ := nk_spot y.2
          have hR4 : ∀ z ∈ R, z ∈ afterF kd t rows x := fun z hz => hR3 z (List.mem_cons_of_mem _ hz)
          have hAB : (A ++ x :: B ++ G).length < 16777216 := by
            have := pot_len B
            have := fr_le x 4
            simp only [pot] at h1
            simp
            omega
          by_cases c : k ∈ ks
          · have := hK m _ ⟨rfl, G, R, ks, some (.dat (Spot.d y.2)), rfl, rfl, by omega, hG, hR4, hk3⟩
            simp at this
            simpa [ek, c] using this
          · have := hK m _ ⟨rfl, G ++ [y.2], R, addK ks k, some (.dat (Spot.d y.2)), rfl, rfl, by simp; omega, fun z hz => by
              rcases List.mem_append.mp hz with e | e
              · exact hG z e
              · rw [List.mem_singleton] at e; subst e; exact hy, hR4, by
                have := addK_len ks k
                simp at hk3 ⊢
                omega⟩
            have h5 : ks.length < 16777216 := by omega
            simp at this hAB
            simp [ek, c, h5]
            refine ⟨by omega, ?_⟩
            simpa using this
  · rintro d r m _ ⟨rfl, F, R, ks, o1, o2, he, rfl, hl2, hF, hR, hk⟩ K2 hK
    cases R with
    | nil => simp at he
    | cons x R =>
      cases he
      simp only [List.length_cons] at hl2
      obtain ⟨k, ek⟩ := nk_spot x
      have hR2 : ∀ y ∈ R, Good kd y := fun y hy => hR y (List.mem_cons_of_mem _ hy)
      by_cases c : k ∈ ks
      · have := hK m _ ⟨rfl, F, R, ks, some (.dat (Spot.d x)), o2, rfl, rfl, by omega, hF, hR2, hk⟩
        simpa [ek, c] using this
      · have := hK m _ ⟨rfl, F ++ [x], R, addK ks k, some (.dat (Spot.d x)), o2, rfl, rfl, by simp; omega, fun y hy => by
          rcases List.mem_append.mp hy with e | e
          · exact hF y e
          · rw [List.mem_singleton] at e; subst e; exact hR _ List.mem_cons_self, hR2, by have := addK_len ks k; simp; omega⟩
        have h5 : ks.length < 16777216 := by omega
        have h6 : F.length < 16777216 := by omega
        simp at this
        simpa [ek, c, h5, h6] using this
end WL
set_option Elab.async false
set_option linter.all false
set_option maxRecDepth 100000
set_option maxHeartbeats 4000000
namespace WL
open PySem PySem.Spec PyProof.Rows L2 DL
theorem filter_fm' {α β : Type} (p : α → Bool) (q : α → β) : ∀ l : List α, (l.filter p).map q = l.filterMap fun i => if p i = true then some (q i) else none
  | [] => rfl
  | a :: l => by
    rw [List.filter_cons, List.filterMap_cons, ← filter_fm' p q l]
    by_cases h : p a = true <;> simp [h]
theorem pf_law_counts_bent : ∀ ws n Q, p_law_counts_bent ws n Q → g_law_counts_bent (E0 Q) n (startD N_law_counts_bent ws) := by
  rintro _ n Q ⟨cs, k, M, s, rfl, h1, h2, h3, h4, h5, h6, h7, hq⟩
  have mk : ∀ m' (l : List PyData), m' ≤ n + 1 → l.length ≤ s + 1 → (∀ y ∈ l, y ∈ cs.map .int ∨ T (M + 1) [2] y) → Q (.dat (.tuple l)) m' := fun m' l h8 h9 h10 => hq m' _ h8 (T_tup h9 fun y hy => (h10 y hy).elim (fun hy => by
    obtain ⟨i, hi, rfl⟩ := List.mem_map.mp hy
    have h11 : i.natAbs ≤ M := h1 i hi
    exact T_int (by omega)) id)
  have mkL : ∀ m', m' ≤ n + 1 → Q (.dat (.list (cs.map .int))) m' := fun m' h8 => hq m' _ h8 (T_list (by simp; omega) fun y hy => by
    obtain ⟨i, hi, rfl⟩ := List.mem_map.mp hy
    have h11 : i.natAbs ≤ M := h1 i hi
    exact T_int (by omega))
  have hr : cs.length ≤ 1000 := by omega
  have L0 : (DL.cutD (cs.map PyData.int) (some (-1)) none).length ≤ 1 := by
    unfold DL.cutD
    have e : HT.sIx (cs.map PyData.int).length 0 (some (-1)) = (cs.map PyData.int).length - 1 := by
      unfold HT.sIx
      simp
      omega
    rw [e, HT.sIx_none, List.length_take, List.length_drop]
    omega
  simp
  refine ⟨by omega, by omega, by omega, ?_⟩
  refine dlc_fm (fun d => match d with | .int i => if i ∈ cs then none else some (.int i) | _ => none) ?_ (by simp [rngD]; omega) ?_
  · intro d hd acc K ha hk
    obtain ⟨i, hi, rfl⟩ := List.mem_map.mp hd
    have hin : inW (.dat (.int (i : Int))) (.dat (.tuple (cs.map .int))) = some (decide ((i : Int) ∈ cs)) := by simp [inW, intsOf_map]
    by_cases c : (i : Int) ∈ cs <;> simp [c] at hk <;> simpa [hin, ha, c] using hk
  · have el : (rngD k).filterMap (fun d => match d with | .int i => if i ∈ cs then none else some (.int i) | _ => none) = (((List.range k).filter fun (i : Nat) => decide ¬ (i : Int) ∈ cs).map fun (i : Nat) => (i : Int)).map PyData.int := by
      rw [List.map_map, filter_fm', rngD, List.filterMap_map]
      congr 1
      funext i
      by_cases c : (i : Int) ∈ cs <;> simp [c]
    rw [el]
    have ec : ∀ l : List Int, DL.cutD (l.map PyData.int) none (some 1) = (l.take 1).map PyData.int := fun l => by
      have := cut_take (l.map PyData.int) 1
      rw [List.map_take]; exact this
    rw [ec]
    have hx : ∀ i ∈ (((List.range k).filter fun (i : Nat) => decide ¬ (i : Int) ∈ cs).map fun (i : Nat) => (i : Int)).take 1, i.natAbs ≤ M := fun i hi => by
      obtain ⟨j, hj, rfl⟩ := List.mem_map.mp (List.mem_of_mem_take hi)
      have := List.mem_range.mp (List.mem_filter.mp hj).1
      omega
    have hl : ((((List.range k).filter fun (i : Nat) => decide ¬ (i : Int) ∈ cs).map fun (i : Nat) => (i : Int)).take 1).length ≤ 1 := by rw [List.length_take]; omega
    generalize (((List.range k).filter fun (i : Nat) => decide ¬ (i : Int) ∈ cs).map fun (i : Nat) => (i : Int)).take 1 = xs at hx hl
    rw [← List.map_append, intsOf_map]
    refine ⟨by rw [List.length_map]; omega, _, rfl, by omega, h7, fun m d hm hd => ?_⟩
    rcases hd with (h | h | h | h | h | h) | h | h | h <;> subst h
    · exact mk m _ hm (by simp; omega) fun y hy => .inl (List.mem_of_mem_tail hy)
    · exact mk m _ hm (by simp; omega) fun y hy => .inl ((List.dropLast_sublist _).subset hy)
    · exact mk m _ hm (by simp; omega) fun y hy => .inl (List.mem_reverse.mp hy)
    · refine mk m _ hm (by simp; omega) fun y hy => ?_
      rcases List.mem_append.mp hy with e | e
      · exact .inl e
      · exact .inl (mem_cut e)
    · exact mkL m hm
    · refine mk m _ hm (by simp; omega) fun y hy => ?_
      rcases List.mem_append.mp hy with e | e
      · exact .inl e
      · rw [List.mem_singleton] at e; subst e; exact .inr (T_int (by omega))
    · refine mk m _ hm (by simp; omega) fun y hy => ?_
      rcases List.mem_append.mp hy with e | e
      · exact .inl e
      · rw [List.mem_singleton] at e; subst e; exact .inr (by simp [T])
    · refine mk m _ hm (by rw [List.length_map, (isort_perm _).length_eq, List.length_append]; omega) fun y hy => ?_
      obtain ⟨i, hi, rfl⟩ := List.mem_map.mp hy
      rcases List.mem_append.mp ((isort_perm _).mem_iff.mp hi) with e | e
      · exact .inl (List.mem_map.mpr ⟨i, e, rfl⟩)
      · exact .inr (T_int (by have := hx i e; omega))
    · refine mk m _ hm (by simp; omega) fun y hy => ?_
      rcases List.mem_cons.mp hy with e | e
      · subst e; exact .inr (T_int (by show (-1 : Int).natAbs ≤ _; omega))
      · exact .inl e
end WL
set_option Elab.async false
set_option linter.all false
set_option maxRecDepth 100000
set_option maxHeartbeats 4000000
namespace WL
open PySem PySem.Spec PyProof.Rows L2 DL
theorem tidy_stem {c d k : Nat} (hc : c < 1114112) (hd : d < 1114112) (hk : k < 8) : tidy ((⟨Array.replicate k c⟩ : Str) ++ (⟨#[d]⟩ : Str)) := by
  have e : ((⟨Array.replicate k c⟩ : Str) ++ (⟨#[d]⟩ : Str)).cps = Array.replicate k c ++ #[d] := rfl
  refine ⟨?_, fun x hx => ?_⟩
  · show Array.size (((⟨Array.replicate k c⟩ : Str) ++ (⟨#[d]⟩ : Str)).cps) ≤ 12
    rw [e]; simp; omega
  · rw [e] at hx
    simp at hx
    rcases hx with ⟨_, h⟩ | h <;> subst h <;> assumption
theorem pf_law_keys : ∀ ws n Q, p_law_keys ws n Q → g_law_keys (E0 Q) n (startD N_law_keys ws) := by
  rintro _ n Q ⟨rfl, h2, hq⟩
  have h2' : n + 4 ≤ 1000000000 := h2
  have l1 : (Str.ofString "abcdefghijklmnopqrstuvwxyz").length ≤ 16777216 := by decide +kernel
  have l2 : (Str.ofString "abcdefghijklmnopqrstuvwxyz").cps.toList.length = 26 := by decide +kernel
  have l3 : ∀ c ∈ (Str.ofString "abcdefghijklmnopqrstuvwxyz").cps.toList, c < 1114112 := ofS_codes _
  have l4 : ∀ (r : Int) (a d : Nat), 0 ≤ r → r < 8 → (⟨Array.replicate r.toNat a⟩ : Str).length + (⟨#[d]⟩ : Str).length ≤ 16777216 := by
    intro r a d h0 h1
    have e1 : (⟨Array.replicate r.toNat a⟩ : Str).length = r.toNat := by simp [Str.length]
    have e2 : (⟨#[d]⟩ : Str).length = 1 := rfl
    omega
  simp
  refine ⟨by simp only [lim]; omega, fun m r hm h0 h1 => ⟨l1, ex_atI h0 (by rw [l2]; exact h1) fun c hc => ⟨by simp only [lim]; omega, fun m2 r2 hm2 h3 h4 => ⟨h3, by omega, by simp only [lim]; omega, fun m3 r3 hm3 h5 h6 => ⟨l1, ex_atI h5 (by rw [l2]; exact h6) fun d hd => ⟨l4 _ _ _ h3 h4, by simp only [lim]; omega, fun m4 r4 hm4 h7 h8 => ⟨l1, ex_atI (by omega) (by rw [l2]; omega) fun e he => ⟨l4 _ _ _ h3 h4, ?_⟩⟩⟩⟩⟩⟩⟩⟩
  exact hq _ _ _ (by omega) (tidy_stem (l3 c hc) (l3 d hd) (by omega)) (tidy_stem (l3 c hc) (l3 e he) (by omega))
end WL
set_option Elab.async false
set_option linter.all false
set_option maxRecDepth 100000
set_option maxHeartbeats 4000000
namespace WL
open PySem PySem.Spec PyProof.Rows L2 DL
theorem pf_law : ∀ ws n Q, p_law ws n Q → g_law (E0 Q) n (startD N_law ws) := by
  rintro _ n Q ⟨ns, rfl, h3, hq⟩
  simp
  refine ⟨ns, rfl, h3, fun l h1 h2 => ⟨rfl, _, rfl, _, rfl, by omega, by simp; omega, ?_⟩⟩
  refine dLoop_ind (I := fun r m ρ => m = n ∧ ∃ (o1 o2 : Option PyData), ρ = [some (.scr ns), some (.dat (intsD l)), o1.map W.dat, none, o2.map W.dat] ∧ ∀ d ∈ r, ∃ k : Nat, d = .int (k : Int) ∧ k < l.length) ?_ ?_ _ _ _ ⟨rfl, none, none, rfl, fun d hd => by
    obtain ⟨k, hk, rfl⟩ := List.mem_map.mp hd
    have := List.mem_range.mp hk
    simp at this
    exact ⟨k, rfl, this⟩⟩
  · rintro m _ ⟨rfl, o1, o2, rfl, _⟩
    simpa using hq
  · rintro d r m _ ⟨rfl, o1, o2, rfl, hr⟩ K2 hK
    obtain ⟨k, rfl, hk⟩ := hr d List.mem_cons_self
    have hr2 : ∀ d ∈ r, ∃ k : Nat, d = .int (k : Int) ∧ k < l.length := fun d hd => hr d (List.mem_cons_of_mem _ hd)
    simp
    refine ⟨l, k, rfl, hk, h2, fun p a y hy0 hy1 => ⟨p, a, y, rfl, hy0, hy1, ?_, by decide, fun m1 x y hm1 => ?_⟩⟩
    · rintro (_ | _ | _ | _ | _ | j) z hj e
      · simp at e; subst e; rfl
      · simp at e; subst e; rfl
      · simp at e; subst e; rfl
      · exact absurd rfl hj
      · cases o2 with
        | none => simp at e
        | some d => simp at e; subst e; rfl
      · simp at e
    · refine dlc_ind (I := fun r acc m' => ∃ j : Nat, acc = List.replicate j (.bool true) ∧ (∀ d ∈ r, ∃ kd : Kd, d = kd.d) ∧ m' + 10000 * r.length ≤ 30000 ∧ j + r.length ≤ 2) ?_ ?_ _ _ _ ⟨0, rfl, fun d hd => by
        simp at hd
        rcases hd with e | e <;> exact ⟨_, e⟩, by simp; omega, by simp⟩
      · rintro acc m' ⟨j, rfl, _, _, _⟩
        have e : boolsOf (List.replicate j (PyData.bool true)) = some (List.replicate j true) := by
          have := boolsOf_map (fun _ : Nat => true) (List.replicate j 0)
          simpa using this
        refine ⟨_, e, .inr ⟨by simp, hK m _ ⟨rfl, some (.int k), o2, by cases o2 <;> rfl, hr2⟩⟩⟩
      · rintro d ds acc m' ⟨j, rfl, hd, hm, hj⟩ K3 hK3
        obtain ⟨kd, rfl⟩ := hd d List.mem_cons_self
        simp only [List.length_cons] at hm hj
        simp
        refine ⟨by simp only [lim]; omega, fun m2 hm2 => ⟨by omega, ?_⟩⟩
        have := hK3 (List.replicate (j + 1) (.bool true)) m2 ⟨j + 1, rfl, fun d hd2 => hd d (List.mem_cons_of_mem _ hd2), by omega, by omega⟩
        rw [List.replicate_succ'] at this
        exact this
end WL
set_option Elab.async false
set_option linter.all false
set_option maxRecDepth 100000
set_option maxHeartbeats 4000000
namespace WL
open PySem PySem.Spec PyProof.Rows L2 DL
theorem pf_law_origin : ∀ ws n Q, p_law_origin ws n Q → g_law_origin (E0 Q) n (startD N_law_origin ws) := by
  rintro _ n Q ⟨kd, a, b, rfl, ha, hb, h2, hq⟩
  have h2' : n + 30 ≤ 1000000000 := h2
  cases kd
  · simp [Kd.d, Kd.s]
    exact ⟨by simp only [lim]; omega, fun m i hm hi => hq m (.num i) (by omega) hi⟩
  · simp [Kd.d, Kd.s]
    refine ⟨by simp only [lim]; omega, fun m r hm h0 h1 => ⟨by omega, by omega, ?_⟩⟩
    refine dlc_ind (I := fun r acc m' => ∃ l : List Int, acc = l.map .int ∧ (∀ i ∈ l, small 999 i) ∧ l.length + r.length ≤ 3 ∧ m' + 4 * r.length ≤ n + 13) ?_ ?_ _ _ _ ⟨[], rfl, by simp, by simp [rngD]; omega, by simp [rngD]; omega⟩
    · rintro acc m' ⟨l, rfl, hl, h3, h4⟩
      exact hq m' (.seq l) (by omega) ⟨by simp at h3; exact h3, hl⟩
    · rintro d ds acc m' ⟨l, rfl, hl, h3, h4⟩ K2 hK
      simp only [List.length_cons] at h3 h4
      simp
      refine ⟨by simp only [lim]; omega, fun m2 i hm2 hi => ⟨by omega, ?_⟩⟩
      have := hK ((l ++ [i]).map .int) m2 ⟨l ++ [i], rfl, fun j hj => by
        rcases List.mem_append.mp hj with e | e
        · exact hl j e
        · rw [List.mem_singleton] at e; subst e; exact hi, by simp; omega, by omega⟩
      simpa using this
  · simp [Kd.d, Kd.s]
    refine ⟨by simp only [lim]; omega, fun m r hm h0 h1 => ⟨by omega, by omega, ?_⟩⟩
    refine dlc_ind (I := fun r acc m' => ∃ l : List Int, acc = l.map .int ∧ (∀ i ∈ l, small 999 i) ∧ l.length + r.length ≤ 3 ∧ m' + 4 * r.length ≤ n + 13) ?_ ?_ _ _ _ ⟨[], rfl, by simp, by simp [rngD]; omega, by simp [rngD]; omega⟩
    · rintro acc m' ⟨l, rfl, hl, h3, h4⟩
      exact hq m' (.seq l) (by omega) ⟨by simp at h3; exact h3, hl⟩
    · rintro d ds acc m' ⟨l, rfl, hl, h3, h4⟩ K2 hK
      simp only [List.length_cons] at h3 h4
      simp
      refine ⟨by simp only [lim]; omega, fun m2 i hm2 hi => ⟨by omega, ?_⟩⟩
      have := hK ((l ++ [i]).map .int) m2 ⟨l ++ [i], rfl, fun j hj => by
        rcases List.mem_append.mp hj with e | e
        · exact hl j e
        · rw [List.mem_singleton] at e; subst e; exact hi, by simp; omega, by omega⟩
      simpa using this
  · simp [Kd.d, Kd.s]
    refine ⟨[a, b], rfl, by simp, fun ys hp => ?_⟩
    have hy : ∀ y ∈ ys, tidy y := fun y hy => by
      have := hp.mem_iff.mp hy
      simp at this
      rcases this with e | e <;> subst e <;> assumption
    have hl : ys.length = 2 := hp.length_eq
    refine dlc_ind (I := fun r acc m' => ∃ l : List DL.Row, acc = l.map rowD ∧ (∀ x ∈ l, small 999 x.2 ∧ tidy x.1) ∧ l.length + r.length ≤ 2 ∧ (∀ d ∈ r, ∃ z, d = .str z ∧ tidy z) ∧ m' + 5 * r.length ≤ n + 10) ?_ ?_ _ _ _ ⟨[], rfl, by simp, by simp [hl], fun d hd => by
      obtain ⟨z, hz, rfl⟩ := List.mem_map.mp hd
      exact ⟨z, rfl, hy z hz⟩, by simp [hl]⟩
    · rintro acc m' ⟨l, rfl, hl, h3, _, h4⟩
      exact hq m' (.tab l) (by omega) ⟨by simp at h3; omega, hl⟩
    · rintro d ds acc m' ⟨l, rfl, hl, h3, h5, h4⟩ K2 hK
      obtain ⟨z, rfl, hz⟩ := h5 d List.mem_cons_self
      have h6 : ∀ d ∈ ds, ∃ z, d = .str z ∧ tidy z := fun d hd => h5 d (List.mem_cons_of_mem _ hd)
      simp only [List.length_cons] at h3 h4
      simp
      refine ⟨by simp only [lim]; omega, fun m2 r hm2 h7 h8 => ?_⟩
      by_cases c : r = 0
      · refine .inr ⟨c, by simp only [lim]; omega, fun m3 i hm3 hi => ⟨by omega, ?_⟩⟩
        have := hK ((l ++ [(z, i)]).map rowD) m3 ⟨l ++ [(z, i)], rfl, fun j hj => by
          rcases List.mem_append.mp hj with e | e
          · exact hl j e
          · rw [List.mem_singleton] at e; subst e; exact ⟨hi, hz⟩, by simp; omega, h6, by omega⟩
        simpa [rowD] using this
      · exact .inl ⟨c, hK _ m2 ⟨l, rfl, hl, by omega, h6, by omega⟩⟩
end WL
set_option Elab.async false
set_option linter.all false
set_option maxRecDepth 100000
set_option maxHeartbeats 4000000
namespace WL
open PySem PySem.Spec PyProof.Rows L2 DL
theorem pf_law_other_answer : ∀ ws n Q, p_law_other_answer ws n Q → g_law_other_answer (E0 Q) n (startD N_law_other_answer ws) := by
  rintro _ n Q ⟨x, rfl, h, hq⟩
  have fin : ∀ m y, m ≤ n + 1 → (y = An.none ∨ y = An.tru ∨ (∃ i, y = An.int i ∧ (i = 0 ∨ i = 1)) ∨ ∃ i j, x = An.int i ∧ y = An.int j ∧ (j = i + 1 ∨ j = i - 1)) → Q (.dat y.d) m := by
    intro m y hm hy
    refine hq m y hm fun b hb hx => ?_
    rcases hy with e | e | ⟨i, e, e2⟩ | ⟨i, j, e, e2, e3⟩
    · subst e; trivial
    · subst e; trivial
    · subst e; show i.natAbs ≤ b + 1; omega
    · subst e; subst e2
      have hx' : i.natAbs ≤ b := hx
      show j.natAbs ≤ b + 1
      omega
  cases x with
  | none =>
    simp [An.d, isi]
    refine ⟨h, fun m r hm h0 h1 => ex_atI h0 (by simpa using h1) fun a ha => ?_⟩
    simp at ha
    rcases ha with e | e | e | e <;> subst e
    · exact fin m .none hm (.inl rfl)
    · exact fin m .tru hm (.inr (.inl rfl))
    · exact fin m (.int 1) hm (.inr (.inr (.inl ⟨1, rfl, .inr rfl⟩)))
    · exact fin m (.int 0) hm (.inr (.inr (.inl ⟨0, rfl, .inl rfl⟩)))
  | tru =>
    simp [An.d, isi]
    refine ⟨h, fun m r hm h0 h1 => ex_atI h0 (by simpa using h1) fun a ha => ?_⟩
    simp at ha
    rcases ha with e | e | e | e <;> subst e
    · exact fin m .none hm (.inl rfl)
    · exact fin m .tru hm (.inr (.inl rfl))
    · exact fin m (.int 1) hm (.inr (.inr (.inl ⟨1, rfl, .inr rfl⟩)))
    · exact fin m (.int 0) hm (.inr (.inr (.inl ⟨0, rfl, .inl rfl⟩)))
  | int i =>
    simp [An.d, isi]
    refine ⟨h, fun m r hm h0 h1 => ex_atI h0 (by simpa using h1) fun a ha => ?_⟩
    simp at ha
    rcases ha with e | e | e | e <;> subst e
    · exact fin m (.int (i + 1)) hm (.inr (.inr (.inr ⟨i, i + 1, rfl, rfl, .inl rfl⟩)))
    · exact fin m (.int (i - 1)) hm (.inr (.inr (.inr ⟨i, i - 1, rfl, rfl, .inr rfl⟩)))
    · exact fin m .none hm (.inl rfl)
    · exact fin m (.int 0) hm (.inr (.inr (.inl ⟨0, rfl, .inl rfl⟩)))
end WL
set_option Elab.async false
set_option linter.all false
set_option maxRecDepth 100000
set_option maxHeartbeats 4000000
namespace WL
open PySem PySem.Spec PyProof.Rows L2 DL
theorem tidy_lit {s : String} (h : (Str.ofString s).length ≤ 12) : tidy (Str.ofString s) := ⟨h, ofS_codes s⟩
theorem T_an {x : An} {B : Nat} {bs : List Nat} (h : x.ok B) : T B bs x.d := by
  cases x
  · simp [An.d, T]
  · simp [An.d, T]
  · exact T_int h
theorem T_wish {w : Wi} {kd : Kd} (h : w.ok kd) : T 2000000000 [20, 2] w.d := by
  have k1 : tidy (Str.ofString "add") := tidy_lit (by decide +kernel)
  have k2 : tidy (Str.ofString "lift") := tidy_lit (by decide +kernel)
  have k3 : tidy (Str.ofString "read") := tidy_lit (by decide +kernel)
  have k4 : tidy (Str.ofString "put") := tidy_lit (by decide +kernel)
  have k5 : tidy (Str.ofString "take") := tidy_lit (by decide +kernel)
  have k6 : tidy (Str.ofString "set") := tidy_lit (by decide +kernel)
  have k7 : tidy (Str.ofString "get") := tidy_lit (by decide +kernel)
  have k8 : tidy (Str.ofString "drop") := tidy_lit (by decide +kernel)
  have i1 : ∀ {i : Int}, small 1000 i → i.natAbs ≤ 2000000000 := fun h => Nat.le_trans h (by decide)
  cases kd <;> cases w <;> first | exact h.elim | skip
  · simp only [Wi.d, T, TA, k1, i1 h, List.length_cons, List.length_nil]; decide
  · simp only [Wi.d, T, TA, k2, i1 h, List.length_cons, List.length_nil]; decide
  · simp only [Wi.d, T, TA, k3, List.length_cons, List.length_nil]; decide
  · simp only [Wi.d, T, TA, k4, i1 h, List.length_cons, List.length_nil]; decide
  · simp only [Wi.d, T, TA, k5, List.length_cons, List.length_nil]; decide
  · simp only [Wi.d, T, TA, k4, i1 h, List.length_cons, List.length_nil]; decide
  · simp only [Wi.d, T, TA, k5, List.length_cons, List.length_nil]; decide
  · simp only [Wi.d, T, TA, k6, h.2, i1 h.1, List.length_cons, List.length_nil]; decide
  · have h2 : tidy _ := h
    simp only [Wi.d, T, TA, k7, h2, List.length_cons, List.length_nil]; decide
  · have h2 : tidy _ := h
    simp only [Wi.d, T, TA, k8, h2, List.length_cons, List.length_nil]; decide
theorem T_tale {kd : Kd} {t : List Ev} {rows : List Rw} (ht : Tl kd t rows) : T 2000000000 [140, 3, 20, 2] (talD t) := by
  have k1 : tidy (Str.ofString "begin") := tidy_lit (by decide +kernel)
  have k2 : tidy (Str.ofString "end") := tidy_lit (by decide +kernel)
  refine T_list (by have := ht.len; simp; omega) fun y hy => ?_
  obtain ⟨e, he, rfl⟩ := List.mem_map.mp hy
  cases e with
  | beg h w =>
    have := ht.wishE h w he
    refine T_tup (by simp) fun z hz => ?_
    simp only [List.mem_cons, List.not_mem_nil, or_false] at hz
    rcases hz with e | e | e <;> subst e
    · simp only [T]; exact k1
    · exact T_int this.2
    · exact T_wish this.1
  | fin h a =>
    have := ht.ans h a he
    refine T_tup (by simp) fun z hz => ?_
    simp only [List.mem_cons, List.not_mem_nil, or_false] at hz
    rcases hz with e | e | e <;> subst e
    · simp only [T]; exact k2
    · exact T_int this.2
    · exact T_mono (M := 1000000) (by decide) _ [20, 2] [20, 2] (by simp [le2]) (T_an this.1)
theorem th_ok {kd : Kd} {d : PyData} (h : Th d) : ThOk kd d := by
  refine ⟨T_nice d [140, 2, 20, 2] (by simp) h, fun ds e => ?_⟩
  subst e
  obtain ⟨h1, h2⟩ := T_list' h
  refine ⟨by omega, fun c hc cs s e hs => ?_⟩
  subst e
  have h3 := (T_tup' (h2 _ hc)).2
  have h4 := T_tup' (h3 (.tuple cs) List.mem_cons_self)
  have h5 := h3 s (List.mem_cons_of_mem _ List.mem_cons_self)
  refine ⟨by omega, ?_⟩
  obtain ⟨h6, h7⟩ := isState_sv hs
  generalize svOf kd s = v at h6 h7
  subst h7
  cases kd <;> cases v <;> first | exact h6.elim | skip
  · have : T 10000 [20, 2] (.int _) := h5
    simp only [T] at this
    exact Nat.le_trans this (by decide)
  · rename_i l
    obtain ⟨h8, h9⟩ := T_tup' h5
    refine ⟨by simp at h8; show _ ≤ 1000000; omega, fun i hi => ?_⟩
    have := h9 (.int i) (List.mem_map.mpr ⟨i, hi, rfl⟩)
    simp only [T] at this
    exact Nat.le_trans this (by decide)
  · rename_i l
    obtain ⟨h8, h9⟩ := T_tup' h5
    refine ⟨by simp at h8; show _ ≤ 1000000; omega, fun i hi => ?_⟩
    have := h9 (.int i) (List.mem_map.mpr ⟨i, hi, rfl⟩)
    simp only [T] at this
    exact Nat.le_trans this (by decide)
  · rename_i l
    obtain ⟨h8, h9⟩ := T_tup' h5
    refine ⟨by simp at h8; omega, fun r hr => ?_⟩
    have h10 := (T_tup' (h9 (rowD r) (List.mem_map.mpr ⟨r, hr, rfl⟩))).2
    have h11 := h10 (.str r.1) (by simp)
    have h12 := h10 (.int r.2) (by simp)
    simp only [T] at h11 h12
    exact ⟨Nat.le_trans h12 (by decide), Nat.le_trans h11.1 (by decide)⟩
theorem rep_tale {kd : Kd} {t : List Ev} {rows : List Rw} {d : PyData} (ht : Tl kd t rows) (hd : Th d) : reprGW [.dat (.list [talD t, d])] = some (.dat (.str (PyData.list [talD t, d]).shown)) := by
  have h1 : T 2000000000 [2, 140, 3, 20, 2] (.list [talD t, d]) := T_list (by simp) fun y hy => by
    simp only [List.mem_cons, List.not_mem_nil, or_false] at hy
    rcases hy with e | e <;> subst e
    · exact T_tale ht
    · exact T_mono (by decide) _ _ _ (by simp [le2]) hd
  have h2 := T_shows (by decide) h1 (by decide) (by decide)
  simp only [reprGW]
  rw [if_pos h2]
theorem rep_two (x y : Bool) : reprGW [.dat (.list [.bool x, .bool y])] = some (.dat (.str (PyData.list [.bool x, .bool y]).shown)) := by
  have h1 : T 1 [2] (.list [.bool x, .bool y]) := T_list (by simp) fun z hz => by
    simp only [List.mem_cons, List.not_mem_nil, or_false] at hz
    rcases hz with e | e <;> subst e <;> simp [T]
  have h2 := T_shows (by decide) h1 (by decide) (by decide)
  simp only [reprGW]
  rw [if_pos h2]
theorem pf_law_right : ∀ ws n Q, p_law_right ws n Q → g_law_right (E0 Q) n (startD N_law_right ws) := by
  rintro _ n Q ⟨kd, rfl, h3, hq⟩
  have h3' : n + 10000 ≤ 1000000000 := h3
  simp
  refine ⟨by simp only [lim]; omega, fun m a b hm ha hb => ?_⟩
  refine dLoop_ind (I := fun rr m' ρ => ∃ os : List (Option W), os.length = 11 ∧ ρ = some .box :: some (.dat (Kd.d kd)) :: some (.dat (strsD [a, b])) :: os ∧ m' + 2000 * rr.length ≤ n + 5000) ?_ ?_ _ _ _ ⟨_, rfl, rfl, by simp [rngD]; omega⟩
  · rintro m' _ ⟨os, _, rfl, hm'⟩
    simpa using hq m' (by omega)
  · rintro d rr m' _ ⟨os, hos, rfl, hm'⟩ K2 hK
    match os, hos with
    | [o3, o4, o5, o6, o7, o8, o9, o10, o11, o12, o13], _ =>
    simp only [List.length_cons] at hm'
    simp [-reprGW]
    refine ⟨kd, a, b, rfl, ha, hb, by simp only [lim]; omega, fun m1 s hm1 hs => ⟨rfl, by simp only [lim]; omega, fun m2 r hm2 hr0 hr1 => ⟨rfl, kd, a, b, s, r, rfl, ha, hb, hs, hr0, by omega, by simp only [lim]; omega, fun m3 t rows row hm3 ht hans hrl hl hc => ⟨_, rfl, _, rfl, rfl, _, _, rfl, _, _, rfl, rfl, by simp only [lim]; omega, fun m4 r2 hm4 hr2 hr3 => ⟨by omega, by omega, ?_⟩⟩⟩⟩⟩
    refine dLoop_ind (I := fun rr m' ρ => ∃ (t : List Ev) (j : Nat) (o5 : Option W), Tl kd t rows ∧ ansOk (100000 + j) t ∧ j + rr.length ≤ 3 ∧ m' + 3 * rr.length ≤ m4 + 9 ∧ ρ = [some .box, some (.dat (Kd.d kd)), some (.dat (strsD [a, b])), some (.dat d), some (.dat s.d), o5, o6, o7, some (.dat (talD t)), some (.dat (.list (row.map fun (i : Nat) => PyData.int (i : Int)))), o10, o11, o12, o13]) ?_ ?_ _ _ _ ⟨t, 0, o5, ht, hans, by simp [rngD]; omega, by simp [rngD]; omega, rfl⟩
    · rintro m5 _ ⟨t, j, o5, ht, hans, _, hm5, rfl⟩
      simp [-reprGW]
      refine ⟨kd, t, rows, s, row, rfl, ht, hrl, hs, hl, hc, by simp only [lim]; omega, fun m6 ds hm6 hds hth => ⟨_, rfl, ?_⟩⟩
      refine dLoop_ind (I := fun rr m' ρ => m' = m6 ∧ ∃ (x y : Int) (o7 o10 o11 o12 : Option W), ρ = [some .box, some (.dat (Kd.d kd)), some (.dat (strsD [a, b])), some (.dat d), some (.dat s.d), o5, some (.dat (.list [.int x, .int y])), o7, some (.dat (talD t)), some (.dat (.list (row.map fun (i : Nat) => PyData.int (i : Int)))), o10, o11, o12, o13] ∧ (∀ d ∈ rr, Th d) ∧
        0 ≤ x ∧ 0 ≤ y ∧ (0 < x → ∃ d, orderF kd t rows s d = true) ∧ (0 < y → ∃ d, unlinedF kd t rows s d = true)) ?_ ?_ _ _ _ ⟨rfl, 0, 0, o7, o10, o11, o12, rfl, hth, by decide, by decide, by simp, by simp⟩
      · rintro m7 _ ⟨rfl, x, y, o7, o10, o11, o12, rfl, _, hx0, hy0, hx, hy⟩
        have nx := hK m7 _ ⟨[some (.dat d), some (.dat s.d), o5, some (.dat (.list [.int x, .int y])), o7, some (.dat (talD t)), some (.dat (.list (row.map fun (i : Nat) => PyData.int (i : Int)))), o10, o11, o12, o13], rfl, rfl, by omega⟩
        by_cases c1 : 0 < x
        · by_cases c2 : 0 < y
          · obtain ⟨d1, e1⟩ := hx c1
            obtain ⟨d2, e2⟩ := hy c2
            exact (no_both ht.wish (shp_sok hs) e1 e2).elim
          · simpa [c1, c2] using nx
        · simpa [c1] using nx
      · rintro e rr m7 _ ⟨rfl, x, y, o7, o10, o11, o12, rfl, hr, hx0, hy0, hx, hy⟩ K3 hK3
        have hthe := hr e List.mem_cons_self
        have hr2 : ∀ d ∈ rr, Th d := fun d h => hr d (List.mem_cons_of_mem _ h)
        have hok := th_ok (kd := kd) hthe
        simp [-reprGW, rep_tale ht hthe, rep_two]
        refine ⟨t, rfl, rows, s, rfl, ht, hs, hok, t, rfl, rows, s, rfl, ht, hs, hok, t, rfl, rows, s, rfl, ht, hs, hok, t, rfl, rows, s, rfl, ht, hs, hok, .inl ⟨rfl, ?_⟩⟩
        simp [dlc]
        refine hK3 m7 _ ⟨rfl, x + if orderF kd t rows s e = true then 1 else 0, y + if unlinedF kd t rows s e = true then 1 else 0, _, _, _, _, rfl, hr2, by split <;> omega, by split <;> omega, fun h => ?_, fun h => ?_⟩
        · by_cases c : orderF kd t rows s e = true
          · exact ⟨e, c⟩
          · rw [if_neg c] at h; exact hx (by omega)
        · by_cases c : unlinedF kd t rows s e = true
          · exact ⟨e, c⟩
          · rw [if_neg c] at h; exact hy (by omega)
    · rintro e rr m5 _ ⟨t, j, o5, ht, hans, hj, hm5, rfl⟩ K3 hK3
      simp only [List.length_cons] at hj hm5
      simp
      refine ⟨kd, t, rows, 100000 + j, rfl, ht, hans, by omega, by omega, by simp only [lim]; omega, fun m6 t' hm6 ht' hans' => ⟨rfl, ?_⟩⟩
      exact hK3 m6 _ ⟨t', j + 1, some (.dat e), ht', hans', by omega, by omega, rfl⟩
end WL
set_option Elab.async false
set_option linter.all false
set_option maxRecDepth 100000
set_option maxHeartbeats 4000000
namespace WL
open PySem PySem.Spec PyProof.Rows L2 DL
theorem cut_mid2 {α : Type} (xs : List α) (k j : Nat) : (DL.cutD xs (some (k : Int)) (some (j : Int))).length ≤ xs.length - k := by
  unfold DL.cutD
  rw [HT.sIx_nat, HT.sIx_nat, List.length_take, List.length_drop]
  omega
theorem pf_law_row_bent : ∀ ws n Q, p_law_row_bent ws n Q → g_law_row_bent (E0 Q) n (startD N_law_row_bent ws) := by
  rintro _ n Q ⟨ds, k, M, b, s, rfl, ht, h1, h2, h3, h4, h5, h6, h7, hq⟩
  obtain ⟨hb, hm⟩ := T_list' ht
  have hsh : SeqAt.shaped (.list ds) = true := T_shaped ht (by simp)
  have h7' : n + 5 ≤ 1000000000 := h7
  have el : ∀ y ∈ ds, T (M + 1) [2, s + 1, 2] y := fun y hy => T_mono (by omega) y _ _ (by simp [le2]) (hm y hy)
  have mk : ∀ m' (l : List PyData), m' ≤ n + 5 → l.length ≤ ds.length + 1 → (∀ y ∈ l, y ∈ ds ∨ T (M + 1) [2, s + 1, 2] y) → Q (.dat (.list l)) m' := fun m' l h8 h9 h10 => hq m' _ h8 (T_list (by omega) fun y hy => (h10 y hy).elim (el y) id)
  have mkT : ∀ m', m' ≤ n + 5 → Q (.dat (.tuple ds)) m' := fun m' h8 => hq m' _ h8 (T_tup (by omega) el)
  have odd : ∀ d, T 1 [2, 2] d → T (M + 1) [2, s + 1, 2] d := fun d hd => T_mono (by omega) d _ _ (by simp [le2]; omega) hd
  simp
  refine ⟨by omega, by simp only [lim]; omega, fun m r hm1 h0 hr => ⟨by simp only [lim]; omega, fun m2 r2 hm2 h8 h9 => ?_⟩⟩
  obtain ⟨j, rfl⟩ := Int.eq_ofNat_of_zero_le h0
  have e1 : ((j : Int) + 1) = ((j + 1 : Nat) : Int) := by omega
  have L0 : (DL.cutD ds none (some (j : Int))).length ≤ j ∧ (DL.cutD ds none (some (j : Int))).length ≤ ds.length := by rw [cut_take]; simp; omega
  have L1 : (DL.cutD ds (some (j : Int)) none).length = ds.length - j := by rw [cut_drop]; simp
  have L2 : (DL.cutD ds (some ((j : Int) + 1)) none).length = ds.length - (j + 1) := by rw [e1, cut_drop]; simp
  have L4 : (DL.cutD ds (some (j : Int)) (some ((j : Int) + 1))).length ≤ 1 := by rw [e1]; have := cut_mid ds j (j + 1); omega
  have e2 : ((j : Int) + 2) = ((j + 2 : Nat) : Int) := by omega
  have L3 : (DL.cutD ds (some ((j : Int) + 2)) none).length = ds.length - (j + 2) := by rw [e2, cut_drop]; simp
  have L5 : (DL.cutD ds (some (j : Int)) (some ((j : Int) + 2))).length ≤ 2 := by rw [e2]; have := cut_mid ds j (j + 2); omega
  have L7 := cut_mid2 ds j (j + 2)
  rw [← e2] at L7
  have c : r2 = 0 ∨ r2 = 1 ∨ r2 = 2 ∨ r2 = 3 ∨ r2 = 4 ∨ r2 = 5 := by omega
  rcases c with h | h | h | h | h | h <;> subst h
  · refine .inr ⟨rfl, by omega, mk m2 _ (by omega) (by simp; omega) fun y hy => ?_⟩
    rcases List.mem_append.mp hy with e | e <;> exact .inl (mem_cut e)
  · refine .inl ⟨by decide, .inr ⟨rfl, by omega, by omega, mk m2 _ (by omega) (by simp; omega) fun y hy => ?_⟩⟩
    rcases List.mem_append.mp hy with e | e
    · exact .inl (mem_cut e)
    · rcases List.mem_append.mp e with e | e <;> exact .inl (mem_cut e)
  · refine .inl ⟨by decide, .inl ⟨by decide, .inr ⟨rfl, by omega, by omega, mk m2 _ (by omega) (by simp; omega) fun y hy => ?_⟩⟩⟩
    rcases List.mem_append.mp hy with e | e
    · exact .inl (mem_cut e)
    · rcases List.mem_append.mp e with e | e
      · exact .inl (mem_cut (List.mem_reverse.mp e))
      · exact .inl (mem_cut e)
  · refine .inl ⟨by decide, .inl ⟨by decide, .inl ⟨by decide, .inr ⟨rfl, by simp only [lim]; omega, fun m3 d hm3 hd => ⟨by omega, by omega, mk m3 _ (by omega) (by simp; omega) fun y hy => ?_⟩⟩⟩⟩⟩
    rcases List.mem_append.mp hy with e | e
    · exact .inl (mem_cut e)
    · rcases List.mem_cons.mp e with e | e
      · subst e; exact .inr (odd _ hd)
      · exact .inl (mem_cut e)
  · refine .inl ⟨by decide, .inl ⟨by decide, .inl ⟨by decide, .inl ⟨by decide, .inr ⟨rfl, by omega, ?_⟩⟩⟩⟩⟩
    refine dlc_fm (fun d => match d with | .int i => if (ds.any fun z => PyData.eqv z (.int i)) = true then none else some (.int i) | _ => none) ?_ (by simp [rngD]; omega) ?_
    · intro d hd acc K ha hk
      obtain ⟨i, hi, rfl⟩ := List.mem_map.mp hd
      have hin : inW (.dat (.int (i : Int))) (.dat (.list ds)) = some (ds.any fun z => PyData.eqv z (.int (i : Int))) := by
        show (if (SeqAt.shaped (.int (i : Int)) && SeqAt.shaped (.list ds)) = true then some (ds.any fun z => PyData.eqv z (.int (i : Int))) else none) = _
        rw [hsh, T_shaped (M := i) (bs := []) (T_int (by omega)) (by simp)]
        rfl
      by_cases c : (ds.any fun z => PyData.eqv z (.int (i : Int))) = true
      · simp only [c] at hk
        rw [c] at hin
        simp at hk
        simpa [hin, ha] using hk
      · rw [Bool.not_eq_true] at c
        simp only [c] at hk
        rw [c] at hin
        simp at hk
        simpa [hin, ha] using hk
    · have L6 : ∀ l : List PyData, (DL.cutD l none (some 1)).length ≤ 1 := fun l => by
        have := cut_take l 1
        have e : (DL.cutD l none (some 1)) = l.take 1 := this
        rw [e]; simp; omega
      refine ⟨by have := L6 ((rngD k).filterMap fun d => match d with | .int i => if (ds.any fun z => PyData.eqv z (.int i)) = true then none else some (.int i) | _ => none); omega, mk m2 _ (by omega) ?_ fun y hy => ?_⟩
      · rw [List.length_append]
        exact Nat.add_le_add_left (L6 _) _
      · rcases List.mem_append.mp hy with e | e
        · exact .inl e
        · obtain ⟨d, hd, e⟩ := List.mem_filterMap.mp (mem_cut e)
          obtain ⟨i, hi, rfl⟩ := List.mem_map.mp hd
          have hi := List.mem_range.mp hi
          simp only at e
          split at e
          · cases e
          · cases e; exact .inr (T_int (by omega))
  · exact .inl ⟨by decide, .inl ⟨by decide, .inl ⟨by decide, .inl ⟨by decide, .inl ⟨by decide, mkT m2 (by omega)⟩⟩⟩⟩⟩
end WL
set_option Elab.async false
set_option linter.all false
set_option maxRecDepth 100000
set_option maxHeartbeats 4000000
namespace WL
open PySem PySem.Spec PyProof.Rows L2 DL
theorem pf_law_state_bent : ∀ ws n Q, p_law_state_bent ws n Q → g_law_state_bent (E0 Q) n (startD N_law_state_bent ws) := by
  rintro _ n Q ⟨kd, d, M, s, rfl, hs, ht, h1, h2, h3, h4, h5, hq⟩
  cases kd
  · cases d <;> simp [isState, isNum] at hs
    rename_i i
    simp only [T] at ht
    simp [Kd.d, Kd.s]
    refine ⟨h5, fun m r hm h0 h1' => ⟨by omega, ex_atI h0 (by simpa using h1') fun a ha => hq m a hm ?_⟩⟩
    simp at ha
    rcases ha with e | e | e | e | e | e <;> subst e
    · exact T_int (by omega)
    · exact T_int (by omega)
    · simp [T]
    · simp [T]
    · simp [T, TA]
    · simp only [T]; exact tidy_int (by omega)
  all_goals
    cases d <;> simp only [isState] at hs <;> first | cases hs | skip
    rename_i ds
    obtain ⟨hl, hm⟩ := T_tup' ht
    have L0 : ∀ l : List PyData, (DL.cutD l none (some 1)).length ≤ 1 := fun l => by
      have := cut_take l 1
      have e : (DL.cutD l none (some 1)) = l.take 1 := this
      rw [e]; simp; omega
    have := L0 ds
    simp [Kd.d, Kd.s]
    have el : ∀ y ∈ ds, T (M + 1) [2] y := fun y hy => T_mono (by omega) y _ _ (by simp [le2]) (hm y hy)
    have mk : ∀ l : List PyData, l.length ≤ s + 1 → (∀ y ∈ l, y ∈ ds ∨ T (M + 1) [2] y) → T (M + 1) [s + 1, 2] (.tuple l) := fun l h6 h7 => T_tup h6 fun y hy => (h7 y hy).elim (el y) id
    refine ⟨h5, fun m r hm h0 h1' => ⟨by omega, by omega, ex_atI h0 (by simpa using h1') fun a ha => hq m a hm ?_⟩⟩
    simp only [List.mem_cons, List.not_mem_nil, or_false] at ha
    rcases ha with e | e | e | e | e | e <;> subst e
    · refine mk _ (by simp; omega) fun y hy => ?_
      rcases List.mem_append.mp hy with e | e
      · exact .inl e
      · exact .inl (mem_cut e)
    · exact mk _ (by simp; omega) fun y hy => .inl (List.mem_of_mem_tail hy)
    · exact mk _ (by simp; omega) fun y hy => .inl (List.mem_reverse.mp hy)
    · exact T_list (by omega) el
    · refine mk _ (by simp; omega) fun y hy => ?_
      rcases List.mem_append.mp hy with e | e
      · exact .inl e
      · rw [List.mem_singleton] at e; subst e; exact .inr (by simp [T])
    · refine mk _ (by simp; omega) fun y hy => ?_
      rcases List.mem_append.mp hy with e | e
      · exact .inl e
      · rw [List.mem_singleton] at e; subst e
        exact .inr (T_tup (by simp) fun z hz => by
          simp at hz
          rcases hz with e | e <;> subst e
          · simp only [T]; unfold tidy; decide +kernel
          · exact T_int (by show (1 : Int).natAbs ≤ _; omega))
end WL
set_option Elab.async false
set_option linter.all false
set_option maxRecDepth 100000
set_option maxHeartbeats 4000000
namespace WL
open PySem PySem.Spec PyProof.Rows L2 DL
theorem pf_law_things : ∀ ws n Q, p_law_things ws n Q → g_law_things (E0 Q) n (startD N_law_things ws) := by
  rintro _ n Q ⟨kd, t, rows, s, row, rfl, ht, hr, hs, hl, hc, h3, hq⟩
  have h3' : n + 400 ≤ 1000000000 := h3
  have hne : neW (.dat kd.d) (.dat (.str (Str.ofString "table"))) = some (.dat (.bool (!decide (kd = .table)))) := by cases kd <;> simp [neW, Kd.d, Kd.s]
  have hmul : kd ≠ .table → ∃ st2 : Sv, mulAllW (.dat s.d) (.dat (.int 2)) = some (.dat st2.d) ∧ sok 6 1998 kd st2 := by
    intro hk
    have fl : ∀ l : List PyData, flatRep 2 l = l ++ l := fun l => by simp [flatRep, List.replicate]
    cases kd <;> cases s <;> first | exact hs.elim | exact absurd rfl hk | skip
    · rename_i i
      exact ⟨.num (i * 2), by simp [mulAllW, Sv.d], by
        have h : i.natAbs ≤ 999 := hs
        show (i * 2).natAbs ≤ 1998
        omega⟩
    all_goals
      rename_i l
      have h1 := hs.1
      refine ⟨.seq (l ++ l), ?_, by simp; omega, fun i hi => ?_⟩
      · have h2 : (l.map PyData.int).length ≤ 1000 := by rw [List.length_map]; omega
        simp [mulAllW, Sv.d, fl, h2]
        omega
      · rcases List.mem_append.mp hi with e | e <;> exact small_le (hs.2 i e) (by omega)
  simp [-neW, -mulAllW, hne]
  refine ⟨kd, t, rfl, rows, ht, by omega, ?_⟩
  refine dlc_ind (I := fun r acc m => ∃ l : List Int, acc = l.map .int ∧ (∀ i ∈ l, 0 ≤ i ∧ i < 4) ∧ l.length + r.length ≤ 4 ∧ (∀ d ∈ r, ∃ i : Nat, d = .int (i : Int) ∧ i < 4) ∧ m + r.length ≤ n + 4) ?_ ?_ _ _ _ ⟨[], rfl, by simp, by simp [rngD]; omega, fun d hd => by
    obtain ⟨i, hi, rfl⟩ := List.mem_map.mp hd
    have := List.mem_range.mp hi
    exact ⟨i, rfl, by omega⟩, by simp [rngD]; omega⟩
  · rintro acc m ⟨l, rfl, hl1, hl2, _, hm⟩
    simp at hl2
    have hp1 : ∀ p ∈ [(([], s) : Spot)], p.1.length ≤ 4 ∧ (∀ i ∈ p.1, 0 ≤ i ∧ i < 4) ∧ sok 6 1998 kd p.2 := by
      intro p hp
      rw [List.mem_singleton] at hp
      subst hp
      exact ⟨by simp, by simp, sok_mono hs (by omega) (by omega)⟩
    have hp2 : ∀ st2, sok 6 1998 kd st2 → ∀ p ∈ [(([], s) : Spot), (l, st2)], p.1.length ≤ 4 ∧ (∀ i ∈ p.1, 0 ≤ i ∧ i < 4) ∧ sok 6 1998 kd p.2 := by
      intro st2 h2 p hp
      rcases List.mem_cons.mp hp with e | e
      · exact hp1 p (by rw [e]; simp)
      · rw [List.mem_singleton] at e
        subst e
        exact ⟨hl2, hl1, h2⟩
    have tR1 : T 20 [20, 2, 2, 2] (.list (row.map fun (i : Nat) => PyData.int (i : Int))) := T_list (by simpa using hl) fun y hy => by
      obtain ⟨i, hi, rfl⟩ := List.mem_map.mp hy
      exact T_int (by have := hc i hi; omega)
    have tR2 : T 20 [20, 2, 2, 2] (.list (row.map fun (i : Nat) => PyData.int (i : Int)).reverse) := T_list (by simpa using hl) fun y hy => by
      obtain ⟨i, hi, rfl⟩ := List.mem_map.mp (List.mem_reverse.mp hy)
      exact T_int (by have := hc i hi; omega)
    have tL : ∀ L : List Spot, L.length ≤ 130 → (∀ p ∈ L, SpotOk kd p) → T 8000 [130, 2, 12, 2] (spotsD L) := fun L h1 h2 => T_list (by simpa using h1) fun y hy => by
      obtain ⟨q, hq, rfl⟩ := List.mem_map.mp hy
      have := h2 q hq
      exact T_spot this.2.2 (Nat.le_refl _) (by have := this.1; omega) this.2.1 (by decide)
    have toTh : ∀ {M b s : Nat} {d : PyData}, T M [b, 2, s, 2] d → M ≤ 10000 → b ≤ 140 → s ≤ 20 → Th d := fun h h1 h2 h3 => T_mono h1 _ _ _ (by simp [le2]; omega) h
    have hbase : ∀ d1 d2, T 1 [2, 2] d1 → T 1 [2, 2] d2 → ∀ d ∈ [.list [], .none, d1, .list [d2]], Th d := by
      intro d1 d2 h1 h2 d hd
      simp at hd
      rcases hd with e | e | e | e <;> subst e
      · simp [T, TA]
      · simp [T]
      · exact T_mono (by decide) _ _ _ (by simp [le2]) h1
      · exact T_list (by simp) fun y hy => by
          rw [List.mem_singleton] at hy
          subst hy
          exact T_mono (by decide) _ _ _ (by simp [le2]) h2
    by_cases ck : kd = .table
    · refine .inl ⟨ck, kd, t, rows, [([], s), (l, .tab [])], rfl, ht, hr, by simp, hp2 (.tab []) (by subst ck; exact ⟨by simp, by simp⟩), fun L1 hL1 hG1 => ⟨rfl, kd, t, rows, [([], s)], rfl, ht, hr, by simp, hp1, fun L2 hL2 hG2 => ⟨by simp only [lim]; omega, fun m1 d1 hm1 hd1 => ⟨by simp only [lim]; omega, fun m2 d2 hm2 hd2 => ⟨_, rfl, by simp, fun p => ?_⟩⟩⟩⟩⟩
      refine dLoop_ind (I := fun rr m' ρ => ∃ (xs : List PyData) (o10 o11 : Option W), ρ = [some .box, some (.dat (Kd.d kd)), some (.dat (talD t)), some (.dat s.d), some (.dat (.list (row.map fun (i : Nat) => PyData.int (i : Int)))), some (.dat (.int (rows.length : Int))), some (.dat (.tuple [.tuple (l.map .int), .tuple []])), none, some (.dat (spotsD L1)),
        some (.olst p (.list (row.map fun (i : Nat) => PyData.int (i : Int)) :: .list (row.map fun (i : Nat) => PyData.int (i : Int)).reverse :: spotsD L2 :: spotsD L1 :: xs)), o10, o11] ∧ (∀ d ∈ xs, Th d) ∧ xs.length + rr.length = 16 ∧ m' + 12 * rr.length ≤ n + 200 ∧ ∀ d ∈ rr, ∃ i : Nat, d = .int (i : Int)) ?_ ?_ _ _ _ ⟨[.list [], .none, d1, .list [d2]], none, none, rfl, hbase d1 d2 hd1 hd2, by simp [rngD], by simp [rngD]; omega, fun d hd => by
        obtain ⟨i, _, rfl⟩ := List.mem_map.mp hd
        exact ⟨i, rfl⟩⟩
      · rintro m' _ ⟨xs, o10, o11, rfl, hxs, hxl, hm', _⟩
        simp at hxl
        have := hq m' (.list (row.map fun (i : Nat) => PyData.int (i : Int)) :: .list (row.map fun (i : Nat) => PyData.int (i : Int)).reverse :: spotsD L2 :: spotsD L1 :: xs) (by omega) (by simp; omega) fun d hd => by
          simp only [List.mem_cons] at hd
          rcases hd with e | e | e | e | e
          · subst e; exact toTh tR1 (by decide) (by decide) (by decide)
          · subst e; exact toTh tR2 (by decide) (by decide) (by decide)
          · subst e; exact toTh (tL L2 hL2 hG2) (by decide) (by decide) (by decide)
          · subst e; exact toTh (tL L1 hL1 hG1) (by decide) (by decide) (by decide)
          · exact hxs d e
        simpa using this
      · rintro d rr m' _ ⟨xs, o10, o11, rfl, hxs, hxl, hm', hrr⟩ K2 hK
        obtain ⟨i, rfl⟩ := hrr d List.mem_cons_self
        have hrr2 : ∀ d ∈ rr, ∃ i : Nat, d = .int (i : Int) := fun d h => hrr d (List.mem_cons_of_mem _ h)
        simp only [List.length_cons] at hxl hm'
        have fin : ∀ x m2, Th x → m2 + 12 * rr.length ≤ n + 200 → K2 m2 [some .box, some (.dat (Kd.d kd)), some (.dat (talD t)), some (.dat s.d), some (.dat (.list (row.map fun (i : Nat) => PyData.int (i : Int)))), some (.dat (.int (rows.length : Int))), some (.dat (.tuple [.tuple (l.map .int), .tuple []])), none, some (.dat (spotsD L1)),
            some (.olst p (.list (row.map fun (i : Nat) => PyData.int (i : Int)) :: .list (row.map fun (i : Nat) => PyData.int (i : Int)).reverse :: spotsD L2 :: spotsD L1 :: (xs ++ [x]))), some (.dat (.int (i : Int))), some (.dat x)] := fun x m2 hx hm2 => hK m2 _ ⟨xs ++ [x], _, _, rfl, fun d hd => by
          rcases List.mem_append.mp hd with e | e
          · exact hxs d e
          · rw [List.mem_singleton] at e; subst e; exact hx, by simp; omega, hm2, hrr2⟩
        simp
        refine ⟨by simp only [lim]; omega, fun m5 r hm5 h0 h1 => ?_⟩
        by_cases c : r = 0
        · refine .inr ⟨c, _, rows.length, 20, 20, 2, rfl, tR1, by omega, by decide, by decide, by decide, by decide, by decide, by simp only [lim]; omega, fun m6 x hm6 hx => ⟨rfl, ?_⟩⟩
          cases x
          case dict => exact absurd hx (by simp [T])
          case list ds2 =>
            simp [isi]
            by_cases c3 : (i : Int) % 3 = 0
            · exact .inr ⟨c3, ds2, rows.length, 21, 21, 3, rfl, hx, by omega, by decide, by decide, by decide, by decide, by decide, by simp only [lim]; omega, fun m7 x2 hm7 hx2 => ⟨rfl, x2, rfl, by omega, fin _ _ (toTh hx2 (by decide) (by decide) (by decide)) (by omega)⟩⟩
            · exact .inl ⟨c3, by omega, fin _ _ (toTh hx (by decide) (by decide) (by decide)) (by omega)⟩
          all_goals
            simp [isi]
            exact ⟨by omega, by simpa using fin _ m6 (toTh hx (by decide) (by decide) (by decide)) (by omega)⟩
        · refine .inl ⟨c, by simp only [lim]; omega, fun m6 r6 hm6 h6 h7 => ?_⟩
          obtain ⟨L, e, hL⟩ : ∃ L : List Spot, atI (PyData.list (row.map fun (i : Nat) => PyData.int (i : Int)) :: PyData.list (row.map fun (i : Nat) => PyData.int (i : Int)).reverse :: spotsD L2 :: spotsD L1 :: xs) (2 + r6) = some (spotsD L) ∧ T 8000 [130, 2, 12, 2] (spotsD L) := by
            have : r6 = 0 ∨ r6 = 1 := by omega
            rcases this with e | e <;> subst e
            · exact ⟨L2, by rw [show (2 : Int) + 0 = ((2 : Nat) : Int) from rfl, atI_nat]; rfl, tL L2 hL2 hG2⟩
            · exact ⟨L1, by rw [show (2 : Int) + 1 = ((3 : Nat) : Int) from rfl, atI_nat]; rfl, tL L1 hL1 hG1⟩
          refine ⟨_, e, kd, _, rows.length, 8000, 130, 12, rfl, hL, by omega, by decide, by decide, by decide, by decide, by decide, by simp only [lim]; omega, fun m7 x hm7 hx => ⟨rfl, ?_⟩⟩
          cases x
          case dict => exact absurd hx (by simp [T])
          case list ds2 =>
            simp [isi]
            by_cases c3 : (i : Int) % 3 = 0
            · exact .inr ⟨c3, kd, ds2, rows.length, 8001, 131, 13, rfl, hx, by omega, by decide, by decide, by decide, by decide, by decide, by simp only [lim]; omega, fun m8 x2 hm8 hx2 => ⟨rfl, x2, rfl, by omega, fin _ _ (toTh hx2 (by decide) (by decide) (by decide)) (by omega)⟩⟩
            · exact .inl ⟨c3, by omega, fin _ _ (toTh hx (by decide) (by decide) (by decide)) (by omega)⟩
          all_goals
            simp [isi]
            exact ⟨by omega, by simpa using fin _ m7 (toTh hx (by decide) (by decide) (by decide)) (by omega)⟩
    · obtain ⟨st2, e, hst⟩ := hmul ck
      refine .inr ⟨ck, _, e, [st2.d], rfl, by simp, kd, t, rows, [([], s), (l, st2)], rfl, ht, hr, by simp, hp2 st2 hst, fun L1 hL1 hG1 => ⟨rfl, kd, t, rows, [([], s)], rfl, ht, hr, by simp, hp1, fun L2 hL2 hG2 => ⟨by simp only [lim]; omega, fun m1 d1 hm1 hd1 => ⟨by simp only [lim]; omega, fun m2 d2 hm2 hd2 => ⟨_, rfl, by simp, fun p => ?_⟩⟩⟩⟩⟩
      refine dLoop_ind (I := fun rr m' ρ => ∃ (xs : List PyData) (o10 o11 : Option W), ρ = [some .box, some (.dat (Kd.d kd)), some (.dat (talD t)), some (.dat s.d), some (.dat (.list (row.map fun (i : Nat) => PyData.int (i : Int)))), some (.dat (.int (rows.length : Int))), some (.dat (.tuple [.tuple (l.map .int), st2.d])), none, some (.dat (spotsD L1)),
        some (.olst p (.list (row.map fun (i : Nat) => PyData.int (i : Int)) :: .list (row.map fun (i : Nat) => PyData.int (i : Int)).reverse :: spotsD L2 :: spotsD L1 :: xs)), o10, o11] ∧ (∀ d ∈ xs, Th d) ∧ xs.length + rr.length = 16 ∧ m' + 12 * rr.length ≤ n + 200 ∧ ∀ d ∈ rr, ∃ i : Nat, d = .int (i : Int)) ?_ ?_ _ _ _ ⟨[.list [], .none, d1, .list [d2]], none, none, rfl, hbase d1 d2 hd1 hd2, by simp [rngD], by simp [rngD]; omega, fun d hd => by
        obtain ⟨i, _, rfl⟩ := List.mem_map.mp hd
        exact ⟨i, rfl⟩⟩
      · rintro m' _ ⟨xs, o10, o11, rfl, hxs, hxl, hm', _⟩
        simp at hxl
        have := hq m' (.list (row.map fun (i : Nat) => PyData.int (i : Int)) :: .list (row.map fun (i : Nat) => PyData.int (i : Int)).reverse :: spotsD L2 :: spotsD L1 :: xs) (by omega) (by simp; omega) fun d hd => by
          simp only [List.mem_cons] at hd
          rcases hd with e | e | e | e | e
          · subst e; exact toTh tR1 (by decide) (by decide) (by decide)
          · subst e; exact toTh tR2 (by decide) (by decide) (by decide)
          · subst e; exact toTh (tL L2 hL2 hG2) (by decide) (by decide) (by decide)
          · subst e; exact toTh (tL L1 hL1 hG1) (by decide) (by decide) (by decide)
          · exact hxs d e
        simpa using this
      · rintro d rr m' _ ⟨xs, o10, o11, rfl, hxs, hxl, hm', hrr⟩ K2 hK
        obtain ⟨i, rfl⟩ := hrr d List.mem_cons_self
        have hrr2 : ∀ d ∈ rr, ∃ i : Nat, d = .int (i : Int) := fun d h => hrr d (List.mem_cons_of_mem _ h)
        simp only [List.length_cons] at hxl hm'
        have fin : ∀ x m2, Th x → m2 + 12 * rr.length ≤ n + 200 → K2 m2 [some .box, some (.dat (Kd.d kd)), some (.dat (talD t)), some (.dat s.d), some (.dat (.list (row.map fun (i : Nat) => PyData.int (i : Int)))), some (.dat (.int (rows.length : Int))), some (.dat (.tuple [.tuple (l.map .int), st2.d])), none, some (.dat (spotsD L1)),
            some (.olst p (.list (row.map fun (i : Nat) => PyData.int (i : Int)) :: .list (row.map fun (i : Nat) => PyData.int (i : Int)).reverse :: spotsD L2 :: spotsD L1 :: (xs ++ [x]))), some (.dat (.int (i : Int))), some (.dat x)] := fun x m2 hx hm2 => hK m2 _ ⟨xs ++ [x], _, _, rfl, fun d hd => by
          rcases List.mem_append.mp hd with e | e
          · exact hxs d e
          · rw [List.mem_singleton] at e; subst e; exact hx, by simp; omega, hm2, hrr2⟩
        simp
        refine ⟨by simp only [lim]; omega, fun m5 r hm5 h0 h1 => ?_⟩
        by_cases c : r = 0
        · refine .inr ⟨c, _, rows.length, 20, 20, 2, rfl, tR1, by omega, by decide, by decide, by decide, by decide, by decide, by simp only [lim]; omega, fun m6 x hm6 hx => ⟨rfl, ?_⟩⟩
          cases x
          case dict => exact absurd hx (by simp [T])
          case list ds2 =>
            simp [isi]
            by_cases c3 : (i : Int) % 3 = 0
            · exact .inr ⟨c3, ds2, rows.length, 21, 21, 3, rfl, hx, by omega, by decide, by decide, by decide, by decide, by decide, by simp only [lim]; omega, fun m7 x2 hm7 hx2 => ⟨rfl, x2, rfl, by omega, fin _ _ (toTh hx2 (by decide) (by decide) (by decide)) (by omega)⟩⟩
            · exact .inl ⟨c3, by omega, fin _ _ (toTh hx (by decide) (by decide) (by decide)) (by omega)⟩
          all_goals
            simp [isi]
            exact ⟨by omega, by simpa using fin _ m6 (toTh hx (by decide) (by decide) (by decide)) (by omega)⟩
        · refine .inl ⟨c, by simp only [lim]; omega, fun m6 r6 hm6 h6 h7 => ?_⟩
          obtain ⟨L, e, hL⟩ : ∃ L : List Spot, atI (PyData.list (row.map fun (i : Nat) => PyData.int (i : Int)) :: PyData.list (row.map fun (i : Nat) => PyData.int (i : Int)).reverse :: spotsD L2 :: spotsD L1 :: xs) (2 + r6) = some (spotsD L) ∧ T 8000 [130, 2, 12, 2] (spotsD L) := by
            have : r6 = 0 ∨ r6 = 1 := by omega
            rcases this with e | e <;> subst e
            · exact ⟨L2, by rw [show (2 : Int) + 0 = ((2 : Nat) : Int) from rfl, atI_nat]; rfl, tL L2 hL2 hG2⟩
            · exact ⟨L1, by rw [show (2 : Int) + 1 = ((3 : Nat) : Int) from rfl, atI_nat]; rfl, tL L1 hL1 hG1⟩
          refine ⟨_, e, kd, _, rows.length, 8000, 130, 12, rfl, hL, by omega, by decide, by decide, by decide, by decide, by decide, by simp only [lim]; omega, fun m7 x hm7 hx => ⟨rfl, ?_⟩⟩
          cases x
          case dict => exact absurd hx (by simp [T])
          case list ds2 =>
            simp [isi]
            by_cases c3 : (i : Int) % 3 = 0
            · exact .inr ⟨c3, kd, ds2, rows.length, 8001, 131, 13, rfl, hx, by omega, by decide, by decide, by decide, by decide, by decide, by simp only [lim]; omega, fun m8 x2 hm8 hx2 => ⟨rfl, x2, rfl, by omega, fin _ _ (toTh hx2 (by decide) (by decide) (by decide)) (by omega)⟩⟩
            · exact .inl ⟨c3, by omega, fin _ _ (toTh hx (by decide) (by decide) (by decide)) (by omega)⟩
          all_goals
            simp [isi]
            exact ⟨by omega, by simpa using fin _ m7 (toTh hx (by decide) (by decide) (by decide)) (by omega)⟩
  · rintro d ds acc m ⟨l, rfl, hl1, hl2, hd, hm⟩ K hK
    obtain ⟨i, rfl, hi⟩ := hd d List.mem_cons_self
    have hd2 : ∀ d ∈ ds, ∃ i : Nat, d = .int (i : Int) ∧ i < 4 := fun d h => hd d (List.mem_cons_of_mem _ h)
    simp only [List.length_cons] at hl2 hm
    simp
    refine ⟨by simp only [lim]; omega, fun m2 r hm2 h0 h1 => ?_⟩
    by_cases c : r = 0
    · have := hK _ m2 ⟨l ++ [(i : Int)], rfl, fun j hj => by
        rcases List.mem_append.mp hj with e | e
        · exact hl1 j e
        · rw [List.mem_singleton] at e; subst e; omega, by simp; omega, hd2, by omega⟩
      simp at this
      exact .inr ⟨c, by omega, this⟩
    · exact .inl ⟨c, hK _ m2 ⟨l, rfl, hl1, by omega, hd2, by omega⟩⟩
end WL
set_option Elab.async false
set_option linter.all false
set_option maxRecDepth 100000
set_option maxHeartbeats 4000000
namespace WL
open PySem PySem.Spec PyProof.Rows L2 DL
theorem pf_law_unlined_bent : ∀ ws n Q, p_law_unlined_bent ws n Q → g_law_unlined_bent (E0 Q) n (startD N_law_unlined_bent ws) := by
  rintro _ n Q ⟨kd, ds, k, M, b, s, rfl, ht, h1, h2, h3, h4, h5, h6, h7, hq⟩
  obtain ⟨hb, hm⟩ := T_list' ht
  have hsh : SeqAt.shaped (.list ds) = true := T_shaped ht (by simp)
  have h7' : n + 5 ≤ 1000000000 := h7
  have el : ∀ y ∈ ds, T (M + 1) [2, s + 1, 2] y := fun y hy => T_mono (by omega) y _ _ (by simp [le2]) (hm y hy)
  have mk : ∀ m' (l : List PyData), m' ≤ n + 5 → l.length ≤ ds.length + 1 → (∀ y ∈ l, y ∈ ds ∨ T (M + 1) [2, s + 1, 2] y) → Q (.dat (.list l)) m' := fun m' l h8 h9 h10 => hq m' _ h8 (T_list (by omega) fun y hy => (h10 y hy).elim (el y) id)
  have mkT : ∀ m', m' ≤ n + 5 → Q (.dat (.tuple ds)) m' := fun m' h8 => hq m' _ h8 (T_tup (by omega) el)
  have odd : ∀ d, T 1 [2, 2] d → T (M + 1) [2, s + 1, 2] d := fun d hd => T_mono (by omega) d _ _ (by simp [le2]; omega) hd
  simp
  refine ⟨by omega, by simp only [lim]; omega, fun m r hm1 h0 hr => ⟨by simp only [lim]; omega, fun m2 r2 hm2 h8 h9 => ?_⟩⟩
  obtain ⟨j, rfl⟩ := Int.eq_ofNat_of_zero_le h0
  have e1 : ((j : Int) + 1) = ((j + 1 : Nat) : Int) := by omega
  have L0 : (DL.cutD ds none (some (j : Int))).length ≤ j ∧ (DL.cutD ds none (some (j : Int))).length ≤ ds.length := by rw [cut_take]; simp; omega
  have L1 : (DL.cutD ds (some (j : Int)) none).length = ds.length - j := by rw [cut_drop]; simp
  have L2 : (DL.cutD ds (some ((j : Int) + 1)) none).length = ds.length - (j + 1) := by rw [e1, cut_drop]; simp
  have L4 : (DL.cutD ds (some (j : Int)) (some ((j : Int) + 1))).length ≤ 1 := by rw [e1]; have := cut_mid ds j (j + 1); omega
  have at3 : ∀ {α : Prop}, m2 + 1 ≤ lim ∧ ∀ (m : Nat) (d : PyData), m ≤ m2 + 1 → T 1 [2, 2] d → (DL.cutD ds none (some (j : Int))).length ≤ 16777215 ∧ (DL.cutD ds none (some (j : Int))).length + 1 + (DL.cutD ds (some (j : Int)) none).length ≤ 16777216 ∧ Q (W.dat (PyData.list (DL.cutD ds none (some (j : Int)) ++ d :: DL.cutD ds (some (j : Int)) none))) m := by
    intro _
    refine ⟨by simp only [lim]; omega, fun m3 d hm3 hd => ⟨by omega, by omega, mk m3 _ (by omega) (by simp; omega) fun y hy => ?_⟩⟩
    rcases List.mem_append.mp hy with e | e
    · exact .inl (mem_cut e)
    · rcases List.mem_cons.mp e with e | e
      · subst e; exact .inr (odd _ hd)
      · exact .inl (mem_cut e)
  by_cases c0 : r2 = 0
  · subst c0
    refine .inr ⟨rfl, by omega, mk m2 _ (by omega) (by simp; omega) fun y hy => ?_⟩
    rcases List.mem_append.mp hy with e | e <;> exact .inl (mem_cut e)
  refine .inl ⟨c0, ?_⟩
  by_cases c1 : r2 = 1
  · subst c1
    refine .inr ⟨rfl, by omega, by omega, mk m2 _ (by omega) (by simp; omega) fun y hy => ?_⟩
    rcases List.mem_append.mp hy with e | e
    · exact .inl (mem_cut e)
    · rcases List.mem_append.mp e with e | e <;> exact .inl (mem_cut e)
  refine .inl ⟨c1, ?_⟩
  by_cases c2 : r2 = 2
  · subst c2
    refine .inr ⟨rfl, by simp only [lim]; omega, fun m3 r3 hm3 h10 h11 => ?_⟩
    by_cases c : r3 = 0
    · exact .inr ⟨c, mkT _ (by omega)⟩
    · exact .inl ⟨c, mk m3 _ (by omega) (by simp) fun y hy => .inl (List.mem_reverse.mp hy)⟩
  refine .inl ⟨c2, ?_⟩
  by_cases c3 : r2 = 3
  · exact .inr ⟨c3, at3 (α := True)⟩
  refine .inl ⟨c3, ?_⟩
  by_cases cl : j = ds.length
  · exact .inr ⟨by omega, at3 (α := True)⟩
  have hj : j < ds.length := by omega
  have ha : ds[j] ∈ ds := List.getElem_mem hj
  have hat : atI ds (j : Int) = some ds[j] := by rw [atI_nat]; exact List.getElem?_eq_getElem hj
  refine .inl ⟨by omega, ds[j], hat, k, rfl, T_nice _ _ (by simp; omega) (hm _ ha), ?_⟩
  generalize ds[j] = a at ha hat
  by_cases cs : isSpot kd k a = true
  · refine .inr ⟨cs, a, hat, ?_⟩
    have put : ∀ m' x, m' ≤ n + 5 → T (M + 1) [2, s + 1, 2] x → (DL.cutD ds none (some (j : Int))).length ≤ 16777215 ∧ (DL.cutD ds none (some (j : Int))).length + 1 + (DL.cutD ds (some ((j : Int) + 1)) none).length ≤ 16777216 ∧ Q (W.dat (PyData.list (DL.cutD ds none (some (j : Int)) ++ x :: DL.cutD ds (some ((j : Int) + 1)) none))) m' := by
      intro m' x hm' hx
      refine ⟨by omega, by omega, mk m' _ hm' (by simp; omega) fun y hy => ?_⟩
      rcases List.mem_append.mp hy with e | e
      · exact .inl (mem_cut e)
      · rcases List.mem_cons.mp e with e | e
        · subst e; exact .inr hx
        · exact .inl (mem_cut e)
    have hta := hm _ ha
    unfold isSpot at cs
    split at cs
    · rename_i c1 c2
      simp only [Bool.and_eq_true] at cs
      obtain ⟨l, rfl, hl⟩ := belows (k := (k : Int)) cs.1.2
      have ht2 := (T_tup' hta).2
      have t1 : T M [s, 2] (.tuple (l.map .int)) := ht2 _ (by simp)
      have t2 : T M [s, 2] c2 := ht2 _ (by simp)
      have t3 := T_mono (M' := M + 1) (by omega) _ _ [s + 1, 2] (by simp [le2]) t1
      have t4 := T_mono (M' := M + 1) (by omega) _ _ [s + 1, 2] (by simp [le2]) t2
      have pr : ∀ x y, T (M + 1) [s + 1, 2] x → T (M + 1) [s + 1, 2] y → T (M + 1) [2, s + 1, 2] (.tuple [x, y]) := fun x y hx hy => T_tup (by simp) fun z hz => by
        simp at hz
        rcases hz with e | e <;> subst e <;> assumption
      have hsm : ∀ i ∈ l, small M i := fun i hi => by
        have := (T_tup' t1).2 _ (List.mem_map.mpr ⟨i, hi, rfl⟩)
        simp only [T] at this
        exact this
      refine ⟨[_, _], rfl, rfl, _, _, rfl, _, _, rfl, rfl, ?_⟩
      by_cases c4 : r2 = 4
      · exact .inr ⟨c4, put m2 _ (by omega) (T_list (by simp) fun z hz => by
          simp at hz
          rcases hz with e | e <;> subst e <;> assumption)⟩
      refine .inl ⟨c4, ?_⟩
      by_cases c5 : r2 = 5
      · exact .inr ⟨c5, put m2 _ (by omega) (T_tup (by simp) fun z hz => by
          simp at hz
          subst hz; assumption)⟩
      refine .inl ⟨c5, ?_⟩
      by_cases c6 : r2 = 6
      · refine .inr ⟨c6, kd, c2, M, s, rfl, cs.1.1, t2, by omega, h3, h5, h6, by simp only [lim]; omega, fun m' d' hm' hd' => ⟨[d'], rfl, by simp, put m' _ (by omega) (pr _ _ t3 hd')⟩⟩
      · refine .inl ⟨c6, l, k, M, s, rfl, hsm, by simpa using (T_tup' t1).1, by omega, by omega, h3, h6, by simp only [lim]; omega, fun m' d' hm' hd' => ⟨[d', c2], rfl, by simp, put m' _ (by omega) (pr _ _ hd' t4)⟩⟩
    · cases cs
  · exact .inl ⟨by simpa using cs, at3 (α := True)⟩
end WL
set_option Elab.async false
set_option linter.all false
set_option maxRecDepth 100000
set_option maxHeartbeats 4000000
namespace WL
open PySem PySem.Spec PyProof.Rows L2 DL
theorem pf_law_wish : ∀ ws n Q, p_law_wish ws n Q → g_law_wish (E0 Q) n (startD N_law_wish ws) := by
  rintro _ n Q ⟨kd, a, b, rfl, ha, hb, h2, hq⟩
  have h2' : n + 6 ≤ 1000000000 := h2
  cases kd
  · simp [Kd.d, Kd.s]
    refine ⟨by simp only [lim]; omega, fun m d hm hd => ?_⟩
    rcases hd with h | h | h <;> subst h
    · simp
      exact ⟨by simp only [lim]; omega, fun m1 i hm1 hi => hq m1 (.add i) (by omega) (small_le hi (by decide))⟩
    · simp
      exact ⟨by simp only [lim]; omega, fun m1 i hm1 hi => hq m1 (.lift i) (by omega) (small_le hi (by decide))⟩
    · simp
      exact hq m .read (by omega) trivial
  · simp [Kd.d, Kd.s]
    refine ⟨by simp only [lim]; omega, fun m r hm h0 h1 => ?_⟩
    by_cases c : r = 0
    · exact .inr ⟨c, by simp only [lim]; omega, fun m1 i hm1 hi => hq m1 (.put i) (by omega) (small_le hi (by decide))⟩
    · exact .inl ⟨c, hq m .take (by omega) trivial⟩
  · simp [Kd.d, Kd.s]
    refine ⟨by simp only [lim]; omega, fun m r hm h0 h1 => ?_⟩
    by_cases c : r = 0
    · exact .inr ⟨c, by simp only [lim]; omega, fun m1 i hm1 hi => hq m1 (.put i) (by omega) (small_le hi (by decide))⟩
    · exact .inl ⟨c, hq m .take (by omega) trivial⟩
  · simp [Kd.d, Kd.s]
    refine ⟨by simp only [lim]; omega, fun m d hm hd => ⟨by simp only [lim]; omega, fun m1 k hm1 hk => ?_⟩⟩
    obtain ⟨z, rfl, hz⟩ : ∃ z, k = .str z ∧ tidy z := by
      rcases hk with h | h <;> subst h
      · exact ⟨a, rfl, ha⟩
      · exact ⟨b, rfl, hb⟩
    rcases hd with h | h | h <;> subst h
    · simp
      exact ⟨by simp only [lim]; omega, fun m2 i hm2 hi => hq m2 (.set z i) (by omega) ⟨small_le hi (by decide), hz⟩⟩
    · simp
      exact hq m1 (.get z) (by omega) hz
    · simp
      exact hq m1 (.drop z) (by omega) hz
end WL
set_option Elab.async false
set_option linter.all false
set_option maxRecDepth 100000
set_option maxHeartbeats 4000000
/-! the join -/
namespace WL
open PySem PySem.Spec PyProof.Rows L2 DL
theorem len_Tale_init : ∀ ws n Q, p_Tale_init ws n Q → ws.length + 1 = P_Tale_init.length := by
  rintro _ _ _ ⟨_, _, _, rfl, _⟩
  rfl
theorem len_Tale_behind (K : PySem.W.Frag) : ∀ ws n Q, p_Tale_behind (He.ga K "Tale") ws n Q → ws.length = P_Tale_behind.length := by
  rintro _ _ _ ⟨_, _, _, _, rfl, _⟩
  rfl
theorem len_Tale_is_spot (K : PySem.W.Frag) : ∀ ws n Q, p_Tale_is_spot (He.ga K "Tale") ws n Q → ws.length = P_Tale_is_spot.length := by
  rintro _ _ _ ⟨_, _, _, _, rfl, _⟩
  rfl
theorem len_law_cells : ∀ ws n Q, p_law_cells ws n Q → ws.length = P_law_cells.length := by
  rintro _ _ _ ⟨_, rfl, _⟩
  rfl
theorem len_law_box : ∀ ws n Q, p_law_box ws n Q → ws.length = P_law_box.length := by
  rintro _ _ _ ⟨_, _, rfl, _⟩
  rfl
theorem len_law_take : ∀ ws n Q, p_law_take ws n Q → ws.length = P_law_take.length := by
  rintro _ _ _ ⟨_, rfl, _⟩
  rfl
theorem len_law_one_of : ∀ ws n Q, p_law_one_of ws n Q → ws.length = P_law_one_of.length := by
  rintro _ _ _ ⟨_, rfl, _⟩
  rfl
theorem len_law_number : ∀ ws n Q, p_law_number ws n Q → ws.length = P_law_number.length := by
  rintro _ _ _ ⟨rfl, _⟩
  rfl
theorem len_law_keys : ∀ ws n Q, p_law_keys ws n Q → ws.length = P_law_keys.length := by
  rintro _ _ _ ⟨rfl, _⟩
  rfl
theorem len_law_wish : ∀ ws n Q, p_law_wish ws n Q → ws.length = P_law_wish.length := by
  rintro _ _ _ ⟨_, _, _, rfl, _⟩
  rfl
theorem len_law_origin : ∀ ws n Q, p_law_origin ws n Q → ws.length = P_law_origin.length := by
  rintro _ _ _ ⟨_, _, _, rfl, _⟩
  rfl
theorem len_law_tale : ∀ ws n Q, p_law_tale ws n Q → ws.length = P_law_tale.length := by
  rintro _ _ _ ⟨_, _, _, _, _, rfl, _⟩
  rfl
theorem len_law_other_answer : ∀ ws n Q, p_law_other_answer ws n Q → ws.length = P_law_other_answer.length := by
  rintro _ _ _ ⟨_, rfl, _⟩
  rfl
theorem len_law_bent : ∀ ws n Q, p_law_bent ws n Q → ws.length = P_law_bent.length := by
  rintro _ _ _ ⟨_, _, _, _, rfl, _⟩
  rfl
theorem len_law_closed : ∀ ws n Q, p_law_closed ws n Q → ws.length = P_law_closed.length := by
  rintro _ _ _ ⟨_, _, _, _, rfl, _⟩
  rfl
theorem len_law_odd : ∀ ws n Q, p_law_odd ws n Q → ws.length = P_law_odd.length := by
  rintro _ _ _ ⟨rfl, _⟩
  rfl
theorem len_law_state_bent : ∀ ws n Q, p_law_state_bent ws n Q → ws.length = P_law_state_bent.length := by
  rintro _ _ _ ⟨_, _, _, _, rfl, _⟩
  rfl
theorem len_law_counts_bent : ∀ ws n Q, p_law_counts_bent ws n Q → ws.length = P_law_counts_bent.length := by
  rintro _ _ _ ⟨_, _, _, _, rfl, _⟩
  rfl
theorem len_law_unlined_bent : ∀ ws n Q, p_law_unlined_bent ws n Q → ws.length = P_law_unlined_bent.length := by
  rintro _ _ _ ⟨_, _, _, _, _, _, rfl, _⟩
  rfl
theorem len_law_row_bent : ∀ ws n Q, p_law_row_bent ws n Q → ws.length = P_law_row_bent.length := by
  rintro _ _ _ ⟨_, _, _, _, _, rfl, _⟩
  rfl
theorem len_law_things : ∀ ws n Q, p_law_things ws n Q → ws.length = P_law_things.length := by
  rintro _ _ _ ⟨_, _, _, _, _, rfl, _⟩
  rfl
theorem len_law_two_sorts : ∀ ws n Q, p_law_two_sorts ws n Q → ws.length = P_law_two_sorts.length := by
  rintro _ _ _ ⟨rfl, _⟩
  rfl
theorem len_law_right : ∀ ws n Q, p_law_right ws n Q → ws.length = P_law_right.length := by
  rintro _ _ _ ⟨_, rfl, _⟩
  rfl
theorem len_law : ∀ ws n Q, p_law ws n Q → ws.length = P_law.length := by
  rintro _ _ _ ⟨_, rfl, _⟩
  rfl
theorem len_Tale_is_all (K : PySem.W.Frag) : ∀ ws n Q, p_Tale_is_all (He.ga K "Tale") ws n Q → ws.length = P_Tale_is_all.length := by
  rintro ws _ _ ⟨_, _, _, _, h, _⟩
  rcases h with rfl | rfl <;> rfl
theorem law_run {P : Program} {w : World} {K : PySem.W.Frag} {mg : Str → Option Value} {base : Heap} (B : Bn K mg) {es : Array DictEntry} {nd : Nat} (KD : KDict K w (He.ga K "DOERS") es nd) (fd : FuncData)
    (F : FunD K "law" "law" (defArgs s_law) (defBody s_law) (defScope s_law) [] [] (He.ga K "law") fd) : FnG P w K mg base CX0 L_law (He.ga K "law") fd P_law (spD ⟨w, K⟩ p_law) := by
  have D_is_number := def_is_number (P := P) (w := w) (K := K) (base := base) B len1 pf_is_number
  have D_is_below := def_is_below (P := P) (w := w) (K := K) (base := base) B D_is_number len2 pf_is_below
  have D_is_name := def_is_name (P := P) (w := w) (K := K) (base := base) B len1 pf_is_name
  have D_is_tuple_of := def_is_tuple_of (P := P) (w := w) (K := K) (base := base) B len2 pf_is_tuple_of
  have D_is_row := def_is_row (P := P) (w := w) (K := K) (base := base) B D_is_number D_is_name D_is_tuple_of len1 pf_is_row
  have D_is_state := def_is_state (P := P) (w := w) (K := K) (base := base) B D_is_number D_is_row len2 pf_is_state
  have D_begun := def_begun (P := P) (w := w) (K := K) (base := base) B len1 pf_begun
  have D_counted := def_counted (P := P) (w := w) (K := K) (base := base) B len2 pf_counted
  have D_piled := def_piled (P := P) (w := w) (K := K) (base := base) B len2 pf_piled
  have D_queued := def_queued (P := P) (w := w) (K := K) (base := base) B len2 pf_queued
  have D_tabled := def_tabled (P := P) (w := w) (K := K) (base := base) B len2 pf_tabled
  have D_done := def_done (P := P) (w := w) (K := K) (base := base) B KD D_counted D_piled D_queued D_tabled len3 (pf_done K)
  have D_wishes_in := def_wishes_in (P := P) (w := w) (K := K) (base := base) B len1 pf_wishes_in
  have D_is_same := def_is_same (P := P) (w := w) (K := K) (base := base) B len2 pf_is_same
  have D_first_spot := def_first_spot (P := P) (w := w) (K := K) (base := base) B D_begun len2 pf_first_spot
  have D_Tale_init := def_Tale_init (P := P) (w := w) (K := K) (base := base) B D_wishes_in len_Tale_init (pf_Tale_init K)
  have D_Tale_is_all := def_Tale_is_all (P := P) (w := w) (K := K) (base := base) B (len_Tale_is_all K) (pf_Tale_is_all K)
  have D_Tale_behind := def_Tale_behind (P := P) (w := w) (K := K) (base := base) B D_done D_is_same (len_Tale_behind K) (pf_Tale_behind K)
  have D_Tale_is_spot := def_Tale_is_spot (P := P) (w := w) (K := K) (base := base) B D_is_state D_is_tuple_of D_is_below (len_Tale_is_spot K) (pf_Tale_is_spot K)
  have D_shows_unlined := def_shows_unlined (P := P) (w := w) (K := K) (base := base) B D_Tale_init D_Tale_is_spot D_first_spot D_Tale_behind D_Tale_is_all len4 (pf_shows_unlined K)
  have D_shows_order := def_shows_order (P := P) (w := w) (K := K) (base := base) B D_first_spot D_Tale_init D_is_below D_Tale_is_all D_Tale_behind len4 (pf_shows_order K)
  have D_law_cells := def_law_cells (P := P) (w := w) (K := K) (base := base) B len_law_cells pf_law_cells
  have D_law_box := def_law_box (P := P) (w := w) (K := K) (base := base) B len_law_box pf_law_box
  have D_law_take := def_law_take (P := P) (w := w) (K := K) (base := base) B len_law_take pf_law_take
  have D_law_one_of := def_law_one_of (P := P) (w := w) (K := K) (base := base) B D_law_take len_law_one_of pf_law_one_of
  have D_law_number := def_law_number (P := P) (w := w) (K := K) (base := base) B D_law_take len_law_number pf_law_number
  have D_law_keys := def_law_keys (P := P) (w := w) (K := K) (base := base) B D_law_take len_law_keys pf_law_keys
  have D_law_wish := def_law_wish (P := P) (w := w) (K := K) (base := base) B D_law_one_of D_law_number D_law_take len_law_wish pf_law_wish
  have D_law_origin := def_law_origin (P := P) (w := w) (K := K) (base := base) B D_law_number D_law_take len_law_origin pf_law_origin
  have D_law_did := def_law_did (P := P) (w := w) (K := K) (base := base) B len3 pf_law_did
  have D_law_tale := def_law_tale (P := P) (w := w) (K := K) (base := base) B D_law_take D_law_one_of D_law_wish D_law_did len_law_tale pf_law_tale
  have D_law_rows := def_law_rows (P := P) (w := w) (K := K) (base := base) B len1 pf_law_rows
  have D_law_ahead := def_law_ahead (P := P) (w := w) (K := K) (base := base) B len2 pf_law_ahead
  have D_law_fits := def_law_fits (P := P) (w := w) (K := K) (base := base) B len3 pf_law_fits
  have D_law_after := def_law_after (P := P) (w := w) (K := K) (base := base) B D_law_ahead D_law_did D_law_fits len4 pf_law_after
  have D_law_is_all := def_law_is_all (P := P) (w := w) (K := K) (base := base) B len2 pf_law_is_all
  have D_law_is_order := def_law_is_order (P := P) (w := w) (K := K) (base := base) B D_law_rows D_law_ahead D_law_did D_law_fits D_law_is_all len4 pf_law_is_order
  have D_law_other_answer := def_law_other_answer (P := P) (w := w) (K := K) (base := base) B D_law_take len_law_other_answer pf_law_other_answer
  have D_law_bent := def_law_bent (P := P) (w := w) (K := K) (base := base) B D_law_one_of D_law_other_answer len_law_bent pf_law_bent
  have D_law_is_number := def_law_is_number (P := P) (w := w) (K := K) (base := base) B len1 pf_law_is_number
  have D_law_is_name := def_law_is_name (P := P) (w := w) (K := K) (base := base) B len1 pf_law_is_name
  have D_law_is_state := def_law_is_state (P := P) (w := w) (K := K) (base := base) B D_law_is_number D_law_is_name len2 pf_law_is_state
  have D_law_is_spot := def_law_is_spot (P := P) (w := w) (K := K) (base := base) B D_law_is_state len3 pf_law_is_spot
  have D_law_is_unlined := def_law_is_unlined (P := P) (w := w) (K := K) (base := base) B D_law_rows D_law_is_spot D_law_is_all D_law_after len4 pf_law_is_unlined
  have D_law_closed := def_law_closed (P := P) (w := w) (K := K) (base := base) B D_law_rows D_law_after len_law_closed pf_law_closed
  have D_law_odd := def_law_odd (P := P) (w := w) (K := K) (base := base) B D_law_one_of len_law_odd pf_law_odd
  have D_law_state_bent := def_law_state_bent (P := P) (w := w) (K := K) (base := base) B D_law_take len_law_state_bent pf_law_state_bent
  have D_law_counts_bent := def_law_counts_bent (P := P) (w := w) (K := K) (base := base) B D_law_one_of len_law_counts_bent pf_law_counts_bent
  have D_law_unlined_bent := def_law_unlined_bent (P := P) (w := w) (K := K) (base := base) B D_law_take D_law_is_spot D_law_odd D_law_state_bent D_law_counts_bent len_law_unlined_bent pf_law_unlined_bent
  have D_law_row_bent := def_law_row_bent (P := P) (w := w) (K := K) (base := base) B D_law_take D_law_odd len_law_row_bent pf_law_row_bent
  have D_law_things := def_law_things (P := P) (w := w) (K := K) (base := base) B D_law_rows D_law_take D_law_closed D_law_odd D_law_row_bent D_law_unlined_bent len_law_things pf_law_things
  have D_law_right := def_law_right (P := P) (w := w) (K := K) (base := base) B KD D_law_keys D_law_origin D_law_tale D_law_take D_law_bent D_law_things D_law_is_order D_law_is_unlined D_shows_order D_shows_unlined len_law_right pf_law_right
  have D_law_two_sorts := def_law_two_sorts (P := P) (w := w) (K := K) (base := base) B D_law_take len_law_two_sorts pf_law_two_sorts
  exact fn_g F sc_law len_law (fun cdv A outer st H E hgu hr => bd_law B D_law_cells D_law_two_sorts D_law_right D_law_box _ cdv A outer st H E hgu hr) pf_law
theorem law_sp {w : World} {K : PySem.W.Frag} {H : Hp} {a : Addr} {ns : List Int} (hl : ns.length ≤ 63) (hO : Only H) (hS : SqL K H a (ns.map V.int)) : spD ⟨w, K⟩ p_law [.ref a] H (fun v _ => v = .bl true) fun _ _ _ => False := by
  refine ⟨none, H, 0, [.scr ns], fun x _ => x = .dat (.bool true), Same.refl H, (fun _ h => by cases h), .cons ⟨a, rfl, ?_⟩ .nil, rfl, ⟨ns, rfl, hl, rfl⟩, fun v F' H' m x _ _ r _ hx => ?_⟩
  · rcases hS with h | h
    · rcases h with h | ⟨o, h⟩
      · rcases hO a with e | ⟨o, xs, e⟩
        · rw [e] at h; cases h
        · rw [e] at h; cases h
      · exact .inl ⟨o, h⟩
    · exact .inr (.inr h)
  · subst hx
    exact dq_bl r
end WL
open PySem PySem.W PySem.Calls PyProof.Rows
theorem PySem.Challenge.cw_wishlane_k69_whole_papers_spoilt_anywher_holds : PySem.Challenge.rw_wishlane_k69_whole_papers_spoilt_anywher.Holds := by
  w_on; o_law
  refine HandSHeadRun.head_any (r := OpenLaw.row PySem.Challenge.rw_wishlane_k69_whole_papers_spoilt_anywher) (q := view (OpenLaw.row PySem.Challenge.rw_wishlane_k69_whole_papers_spoilt_anywher).prog [70]) (H := WL.hk) (ob := WL.ob) (M := 3000) (loose := WL.loL) (d := HandSHeadRun.topDef (OpenLaw.row PySem.Challenge.rw_wishlane_k69_whole_papers_spoilt_anywher).prog 70) (kwd := []) WL.ob_eq
    (by kernel_rfl) (fun s => by kernel_rfl) WL.run (by kernel_rfl) (by kernel_rfl) (by kernel_rfl) (by rfl) (by first | assumption | decide +kernel) (by decide +kernel) ⟨rfl, rfl, rfl, rfl, rfl, by decide +kernel⟩ ?hw ?hc
  case hw => w_witness2
  case hc =>
    refine L2.walk_ofG (l := PySem.Challenge.rw_wishlane_k69_whole_papers_spoilt_anywher) (n := 63) (k := WL.L_law) (x := "_law_script") (CX := L2.CX0) rfl (by decide) (by kernel_rfl) ⟨rfl, by decide, by decide⟩ ?F (fun _ _ _ _ z => z)
    intro w mg fa h Y G hmg0
    obtain ⟨K, KX, c⟩ := Y
    have hmg : mg ("law" : PySem.Str) = some (.ref fa) := by
      have e : (HandSHeadRun.topDef (OpenLaw.row PySem.Challenge.rw_wishlane_k69_whole_papers_spoilt_anywher).prog 70).name = ("law" : PySem.Str) := by kernel_rfl
      rw [← e]
      exact hmg0
    have B : WL.Bn K mg := ⟨⟨h, KX, G⟩, c.t.d, c.more⟩
    obtain ⟨es, nd, KD⟩ := c.t.tab 0 rfl
    obtain ⟨fd, F⟩ := B.says.def_ 53 (d := WL.d_law) rfl
    have e := hmg.symm.trans B.g_law
    cases e
    have b := L2.FunD.bindsA (ps := ["_law_script"]) F fun _ _ _ _ _ _ us hl => match us, hl with | [_], _ => rfl
    exact ⟨K, fd, _, KX, fun s v => b s [v] rfl, fun H a ns hl hO hS => WL.law_sp hl hO hS, fun base _ _ => WL.law_run B KD fd F⟩

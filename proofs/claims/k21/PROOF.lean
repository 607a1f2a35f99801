import PyProof.Rows.All
import Wide.All
import OpenK.AllK
import Wide.FinOn
import PyProof.Rows.TupMore
import HandS.ForMost
import HandS.TupMul
import HandS.Style
import KE.SortData
import HandS.SetFor
import HandS.TupSets
import HandS.Zip
import KE.GoesZip
import KE.GoesMore
import HandS.TupAny
import HandS.Wide
import HandS.Base
import HandS.Call
import HandS.Ends
import HandS.Defaults
import HandS.HeadEnd
import HandS.HeadHook1
import HandS.StrMore
import HandS.Deep
import HandS.IsInst
import HandS.Dict
import KE.DataCmp
import HandS.Conv
import HandS.RaiseMore
import KE.DataMinMax
import KE.GoesEnum
import HandS.More
import HandS.Text
import HandS.CallLocal
import HandS.Comp
import HandS.List
import HandS.Codes
import HandS.Words
import HandS.HeadHook2
import HandS.HeadHook4
import KE.DatumMoreOrd
import KE.KStateDown
import HandS.Head0
import HandS.Head1
import HandS.Head2
import PySem.Challenge.RW_sharedtools_k21_what_worlds_are
set_option Elab.async false
set_option linter.all false
set_option Elab.async false
set_option linter.all false
set_option maxRecDepth 100000
set_option maxHeartbeats 4000000
/-! Dn, part R0: rules that the layer lacks. -/
namespace Dn
open PySem PySem.Spec PyProof.Rows L2

/-! ### t[::-1] of a tuple -/
theorem rev_adj (n : Nat) : Builtin.Slice.sliceAdjust none none (-1) (n : Int) = ((n : Int) - 1, -1) := rfl
theorem rev_places (n : Nat) : Builtin.Slice.slicePlaces ((n : Int) - 1) (-1) (-1) = n := by
  unfold Builtin.Slice.slicePlaces
  have z : ¬ ((-1 : Int) > 0) := by decide
  rw [if_neg z]
  by_cases c : (n : Int) - 1 > -1
  · rw [if_pos c]
    have : ((n : Int) - 1 - -1 - 1) / (- -1) = (n : Int) - 1 := by
      rw [show (- -1 : Int) = 1 from rfl, Int.ediv_one]
      omega
    omega
  · rw [if_neg c]
    omega
theorem rev_pick (l : List Value) : ((List.range l.length).filterMap fun (k : Nat) => l.toArray[((l.length : Int) - 1 + (k : Int) * -1).toNat]?).toArray = l.reverse.toArray := by
  have e : (List.range l.length).filterMap (fun (k : Nat) => l.toArray[((l.length : Int) - 1 + (k : Int) * -1).toNat]?) = l.reverse := by
    refine List.ext_getElem? fun i => ?_
    have step : ∀ k ∈ List.range l.length, l.toArray[((l.length : Int) - 1 + (k : Int) * -1).toNat]? = some (l.reverse.getD k .none) := fun k hk => by
      have hk := List.mem_range.mp hk
      have e1 : ((l.length : Int) - 1 + (k : Int) * -1).toNat = l.length - 1 - k := by omega
      rw [e1, List.getElem?_toArray, List.getElem?_eq_getElem (by omega), List.getD_eq_getElem?_getD, List.getElem?_eq_getElem (by rw [List.length_reverse]; exact hk), List.getElem_reverse]
      rfl
    have all : (List.range l.length).filterMap (fun (k : Nat) => l.toArray[((l.length : Int) - 1 + (k : Int) * -1).toNat]?) = (List.range l.length).map fun k => l.reverse.getD k .none := by
      have gen : ∀ (ks : List Nat) (f : Nat → Option Value) (g : Nat → Value), (∀ k ∈ ks, f k = some (g k)) → ks.filterMap f = ks.map g := fun ks f g => by
        induction ks with
        | nil => intro _; rfl
        | cons k ks ih =>
          intro h
          rw [List.filterMap_cons, h k (List.mem_cons_self ..), List.map_cons, ih fun x hx => h x (List.mem_cons_of_mem _ hx)]
      exact gen _ _ _ step
    rw [all, List.getElem?_map]
    by_cases hi : i < l.length
    · rw [List.getElem?_range hi]
      show some (l.reverse.getD i .none) = _
      rw [List.getD_eq_getElem?_getD, List.getElem?_eq_getElem (by rw [List.length_reverse]; exact hi)]
      rfl
    · rw [List.getElem?_eq_none (by rw [List.length_range]; omega), List.getElem?_eq_none (by rw [List.length_reverse]; omega)]
      rfl
  rw [e]
section
variable {prog : Program} {w : World} {A : Around} {E : Value → Shared → Prop} {s : Shared}
theorem rev_applied {sl : Addr} {vl vu vs : Value} {n : Nat} {Q : Int × Int × Nat → Shared → Prop} (hs : s.heap.IsSliceOf sl vl vu vs) (pl : IsPart vl none) (pu : IsPart vu none) (pst : IsPart vs (some (-1)))
    (h : Q ((n : Int) - 1, -1, n) s) : wpAny (model prog w) A (Builtin.Slice.sliceApplied (.ref sl) (pure (n : Int))) Q E s := by
  obtain ⟨ob, h1, h2, h3⟩ := id hs
  unfold Builtin.Slice.sliceApplied Builtin.Slice.sliceFields
  refine wpAny_bind (wpAny_bind (wpAny_field h1 h3 (x := vl) rfl (wpAny_bind (wpAny_field h1 h3 (x := vu) rfl (wpAny_bind (wpAny_field h1 h3 (x := vs) rfl (wpAny_pure ?_)))))))
  refine wpAny_bind (HT.slicePart_ pst ?_)
  show wpAny _ _ (if ((-1 : Int) == 0) = true then _ else _) _ _ s
  rw [if_neg (by decide)]
  refine wpAny_bind (HT.slicePart_ pl (wpAny_bind (HT.slicePart_ pu (wpAny_bind (wpAny_pure ?_)))))
  show wpAny _ _ (pure ((Builtin.Slice.sliceAdjust none none (-1) (n : Int)).1, (-1 : Int), Builtin.Slice.slicePlaces (Builtin.Slice.sliceAdjust none none (-1) (n : Int)).1 (Builtin.Slice.sliceAdjust none none (-1) (n : Int)).2 (-1))) _ _ s
  rw [rev_adj, rev_places]
  exact wpAny_pure h
theorem getItem_tuple_rev {t sl : Addr} {l : List Value} {vl vu vs : Value} {Q : Value → Shared → Prop} (ht : IsTup s.heap t l.toArray) (hs : s.heap.IsSliceOf sl vl vu vs) (pl : IsPart vl none) (pu : IsPart vu none) (pst : IsPart vs (some (-1)))
    (h : Q (.ref s.heap.objs.size) { s with heap := s.heap.push { cls := .type "tuple", data := .seq l.reverse.toArray } }) (hsz : l.length ≤ sizeLine) : wpAny (model prog w) A (getItem (.ref t) (.ref sl)) Q E s := by
  have fit : sizeOk (.seq l.reverse.toArray) := by
    show l.reverse.toArray.size ≤ sizeLine
    rw [List.size_toArray, List.length_reverse]
    exact hsz
  obtain ⟨ob, h1, h2, h3⟩ := id hs
  have ty : s.TypeIs (.ref sl) "slice" := ⟨ob, h1, h2⟩
  unfold getItem
  try with_reducible refine wpAny_holding ?_
  first | refine wpAny_bind (wpAny_pure ?_) | skip
  refine wpAny_bind (wpAny_sequenceKey ht.typeIs (by decide) ?_)
  refine wpAny_bind (wpAny_callSpecial?_slot (name := Str.ofString "__getitem__") ht.typeIs PyProof.Rows.slot_tuple_getitem (wpAny_call_entry PyProof.Rows.slot_tuple_getitem ht.typeIs entry_tuple_getitem ?_ (args_tuple_getitem _ _)))
  show wpAny _ _ (Builtin.Tuple.tupleItemsOf (.ref t) >>= _) _ _ s
  refine wpAny_bind (tupleItemsOf_ ht ?_)
  refine wpAny_bind (wpAny_typeOf ty ?_)
  rw [if_pos (by decide)]
  refine wpAny_bind (rev_applied hs pl pu pst ?_)
  have no : ¬ (((((l.toArray.size : Nat) : Int) - 1) == 0 && (-1 : Int) == 1 && l.toArray.size == l.toArray.size) = true) := by simp
  show wpAny _ _ (if ((((l.toArray.size : Nat) : Int) - 1) == 0 && (-1 : Int) == 1 && l.toArray.size == l.toArray.size) = true then _ else _) _ _ s
  rw [if_neg no]
  have pk : ((List.range l.toArray.size).filterMap fun (k : Nat) => l.toArray[(((l.toArray.size : Nat) : Int) - 1 + (k : Int) * -1).toNat]?).toArray = l.reverse.toArray := by
    rw [List.size_toArray]
    exact rev_pick l
  rw [pk]
  first
    | exact wpAny_bind (m := Builtin.Tuple.tupleExact _) (wpAny_newObj_type (wpAny_pure ⟨_, rfl, wpAny_pure h⟩) fit)
    | exact wpAny_bind (m := Builtin.Tuple.tupleExact _) (wpAny_newObj_type (wpAny_bind (wpAny_pure (wpAny_pure ⟨_, rfl, wpAny_pure h⟩))) fit)
end
def tRevT (K : PySem.W.Frag) (te : TE) : TE := fun σ H Q => te σ H fun x H1 => ∃ a xs, x = .ref a ∧ SqT K H1 a xs ∧ ∀ p, H1 p = none → Q (.ref p) (upd H1 p (.tup xs.reverse))
theorem pe_revT {X : Cx} {e : Expr} {te : TE} {k : Nat} {p1 p2 p3 pos : Pos} (he : PE X e te) : PE X (.Subscript e (.Slice none none (some (.UnaryOp .USub (.Constant (.int 1) k p1) p2)) p3) pos) (tRevT X.K te) := by
  refine ⟨fun pins s σ H Q I h => Subscript_ (thn (he.run pins s σ H _ I h) fun v s1 r1 => ?_)⟩
  obtain ⟨x, H1, I1, r1, a, xs, rfl, hx, q⟩ := r1
  cases r1
  have stp : PO X (some (.UnaryOp .USub (.Constant (.int 1) k p1) p2)) (tPart (tUn (rU fun i => .int (-i)) (tC (.int 1)))) := po_some (pe_un un_neg pe_int)
  refine wpAny_Slice (thn (po_none.run pins s1 σ H1 (fun o H2 => o = none ∧ H2 = H1) I1 ⟨rfl, rfl⟩) fun vl s2 y2 => ?_)
  obtain ⟨l, H2, I2, pl, rfl, rfl⟩ := y2
  refine thn (po_none.run pins s2 σ H2 (fun o H3 => o = none ∧ H3 = H2) I2 ⟨rfl, rfl⟩) fun vu s3 y3 => ?_
  obtain ⟨u, H3, I3, pu, rfl, rfl⟩ := y3
  refine thn (stp.run pins s3 σ H3 (fun o H4 => o = some (-1) ∧ H4 = H3) I3 ⟨1, rfl, -1, rfl, rfl, rfl⟩) fun vs s4 y4 => ?_
  obtain ⟨o, H4, I4, pst, rfl, rfl⟩ := y4
  have I5 : Inv X pins σ H4 { s4 with heap := s4.heap.push { cls := .type "slice", data := .fields #[vl, vu, vs] } } := I4.kept (t' := s4.toks) fun b ob q => Heap.get?_push_of_some _ q
  obtain ⟨its, r, ht, hz⟩ := I5.tuple hx
  have hlen := r.length
  show wpAny (model X.prog X.w) X.A (subscriptTail e (.Slice none none (some (.UnaryOp .USub (.Constant (.int 1) k p1) p2)) p3) (.ref a) (.ref s4.heap.objs.size)) (EP X pins σ Q) X.xe { s4 with heap := s4.heap.push { cls := .type "slice", data := .fields #[vl, vu, vs] } }
  refine tail_any (ops := [.ref a, .ref s4.heap.objs.size]) ht.typeIs PyProof.Rows.slot_tuple_getitem.lookup ?_ (by with_unfolding_all rfl)
  refine getItem_tuple_rev (l := its) ht (Heap.IsSliceOf.new _ vl vu vs) pl pu pst ?_ (by omega)
  refine ⟨.ref _, _, I5.laid (t' := s4.toks) (o := .tup xs.reverse) (fun b ob q => Heap.get?_push_of_some _ q) (Nat.le_refl _) ?_, rfl, q _ (I5.hok.fresh (Nat.le_refl _))⟩
  exact ⟨by rw [List.length_reverse]; exact hz, _, r.reverse, IsTup.new _ _⟩

/-! ### sorted of a tuple -/
section
variable {prog : Program} {w : World} {A : Around} {E : Value → Shared → Prop} {s : Shared}
theorem collect_tuple {t : Addr} {us : List Value} {P : List Value → Shared → Prop} (ht : IsTup s.heap t us.toArray)
    (k : P us { s with heap := (s.heap.push (seqObj "list" #[] 0)).update s.heap.objs.size (Obj.mapSeq (· ++ us.toArray)) }) (fit : us.length ≤ sizeLine) : wpAny (model prog w) A (collect (.ref t)) P E s := by
  obtain ⟨ob, h1, h2, m, h3⟩ := id ht
  have fresh : (s.heap.push (seqObj "list" #[] 0)).get? t = some ob := Heap.get?_push_of_some _ h1
  have mine : (s.heap.push (seqObj "list" #[] 0)).get? s.heap.objs.size = some (seqObj "list" #[] 0) := Heap.get?_push_size _ rfl
  unfold collect
  refine wpAny_bind (wpAny_runValue (codeAny_builtin entry_proto_collect' ?_))
  show wpAny _ _ (do again (.builtin "list.__iadd__" ⟨[← newList [], .ref t], []⟩)) _ _ s
  refine wpAny_bind (wpAny_newList (wpAny_pure ⟨Code.quiet_builtin _ (by decide +kernel), codeAny_builtin entry_list_iadd' ?_⟩))
  show wpAny _ _ (Builtin.List.listExtendWith (.ref s.heap.objs.size) (.ref t) (.ref s.heap.objs.size)) _ _ { s with heap := s.heap.push (seqObj "list" #[] 0) }
  unfold Builtin.List.listExtendWith
  refine wpAny_bind (wpAny_typeOf (T := "tuple") ⟨ob, fresh, h2⟩ ?_)
  rw [if_pos (by rw [show (Value.type "tuple" == Value.type "tuple") = true from rfl]; simp)]
  refine wpAny_bind (listItems_at fresh h3 ?_)
  refine wpAny_bind (listItems_at (xs := #[]) (n := 0) mine rfl ?_)
  rw [if_neg (by simp)]
  refine wpAny_bind (listUpdate_at (xs := #[]) (n := 0) mine rfl ?_ (Nat.zero_le _) (by show (#[] ++ us.toArray).size ≤ sizeLine + 1; simp only [Array.size_append, List.size_toArray, List.length_nil]; omega))
  refine wpAny_pure ?_
  show wpAny (model prog w) A (do
      let o ← load s.heap.objs.size
      match o.data with
      | .seq xs _ => pure xs.toList
      | _ => unsupported "internal:collect") P E { s with heap := (s.heap.push (seqObj "list" #[] 0)).update s.heap.objs.size (Obj.mapSeq (· ++ us.toArray)) }
  refine wpAny_bind (wpAny_load (get?_update_seq mine _) ?_)
  show wpAny _ _ (pure ((#[] : Array Value) ++ us.toArray).toList) P E _
  have e : ((#[] : Array Value) ++ us.toArray).toList = us := by simp
  rw [e]
  exact wpAny_pure k
theorem sortedT_vals {κ : PyProof.Rows.KeyKind} {t : Addr} {us : List Value} {Q : Value → Shared → Prop} (ht : IsTup s.heap t us.toArray) (S : PySem.W.SortsAt prog w A.in1.in1 { s with heap := PySem.W.sortingHeap (PySem.W.copyHeap s.heap us) (s.heap.objs.size + 1) us } κ us) (hL : us.length ≤ sizeLine)
    (h : Q (.ref (s.heap.objs.size + 1)) { s with heap := PyProof.Rows.sortedAll s.heap us (PySem.W.sortVals κ false us us).toArray }) : wpAny (model prog w) A (call (.builtin "sorted") [.ref t]) Q E s := by
  refine call_function_entry_kw kind_sorted plain_sorted entry_sorted (args_sorted1 _) ?_
  unfold Builtin.«sorted»
  refine wpAny_bind (m := checkCount "sorted" 1 1 _) (wpAny_pure ?_)
  refine wpAny_bind (collect_tuple ht ?_ hL)
  refine wpAny_bind (wpAny_newList ?_ hL)
  have z : ((s.heap.push (seqObj "list" #[] 0)).update s.heap.objs.size (Obj.mapSeq (· ++ us.toArray))).objs.size = s.heap.objs.size + 1 := by
    rw [Heap.size_update, size_push']
  show wpAny _ _ _ _ _ { s with heap := PySem.W.copyHeap s.heap us }
  rw [z]
  refine wpAny_bind (wpAny_holding (wpAny_call_entry_kw slot_list_sort ⟨_, PySem.W.copyHeap_at s.heap us, rfl⟩ entry_list_sort ?b (args_list_sort _)))
  case b =>
    show wpAny (model prog w) A.in1.in1 (Builtin.«list.sort» ⟨[.ref (s.heap.objs.size + 1)], []⟩) _ _ _
    refine wpAny_mono (PySem.W.list_sort_vals (s := { s with heap := PySem.W.copyHeap s.heap us }) (P := fun f s' => f = .done (.ret .none) ∧ Q (.ref (s.heap.objs.size + 1)) s') (PySem.W.copyHeap_at s.heap us) S hL ⟨rfl, h⟩) (fun f s' hf => ?_) fun _ _ e => e
    obtain ⟨rfl, hq⟩ := hf
    exact ⟨_, rfl, wpAny_pure ⟨_, rfl, hq⟩⟩
theorem sortedT_data {β : Type} {R : Value → β → Prop} {enc : β → PyData} {t : Addr} {us : List Value} {bs : List β} {Q : Value → Shared → Prop} (ht : IsTup s.heap t us.toArray) (e : PySem.W.EachIs R us bs) (er : PySem.W.EachIs (fun v b => ∃ as, Reads s.heap v (enc b) as) us bs) (hal : PySem.W.AllAlike (bs.map enc)) (hk : PySem.W.Sortable (bs.map enc)) (hL : bs.length ≤ sizeLine)
    (hu : ∀ b, b ∈ bs → A.units + 2 + (enc b).depth < cLine) (h : ∀ out, out.length = bs.length → PySem.W.EachIs R out (bs.mergeSort (PySem.W.dataLe false enc)) → Q (.ref (s.heap.objs.size + 1)) { s with heap := PyProof.Rows.sortedAll s.heap us (List.toArray out) }) :
    wpAny (model prog w) A (call (.builtin "sorted") [.ref t]) Q E s := by
  have later : PySem.W.EachIs (fun v b => ∃ as, Reads (PySem.W.sortingHeap (PySem.W.copyHeap s.heap us) (s.heap.objs.size + 1) us) v (enc b) as) us bs := er.mono fun _ _ ⟨as, r⟩ => ⟨as, PyProof.Rows.Reads.keeps (fun _ _ => PySem.W.sorting_copy_old) r⟩
  have S := PySem.W.SortsAt.data (prog := prog) (w := w) (A := A.in1.in1) (s := { s with heap := PySem.W.sortingHeap (PySem.W.copyHeap s.heap us) (s.heap.objs.size + 1) us }) (PySem.W.each_map (R := fun v d => ∃ as, Reads (PySem.W.sortingHeap (PySem.W.copyHeap s.heap us) (s.heap.objs.size + 1) us) v d as) enc later) hal hk (PySem.W.bound_map hu)
  exact sortedT_vals ht S (by rw [e.length]; exact hL) (h _ (by rw [PySem.W.sortVals_length false rfl]; exact e.length) (PySem.W.sortVals_data false e later hal))
end

/-! ### () * k -/
theorem tuple_mul0 (l : Addr) (n : Nat) (dd : Option Addr) (sl : Array (Option Value)) (x : Int) (u : Tok) (c0 : (decide (x < -(2 ^ 63)) || decide (x ≥ 2 ^ 63)) = false) :
    Meets (Builtin.«tuple.__mul__» ⟨[.ref l, .int x u], []⟩) (fun _ R s => s.heap.get? l = some { cls := .type "tuple", dict := dd, data := .seq #[] n, slots := sl } ∧ R (.ok (.ret (Value.ref l))) s) :=
  .of_wp fun prog w A R s h => by
    obtain ⟨hp, g, d, tk, os⟩ := s
    obtain ⟨hl, h⟩ := h
    have f1 := AutoSeq1.idx_int
    wp_walk using wpAny_loadPart' hl
    repeat (first
      | (refine wpAny_ite_false (decide_eq_false (by rw [c0]; exact Bool.false_ne_true)) ?_; wp_walk using wpAny_loadPart' hl)
      | (refine wpAny_ite_true (by simp) ?_; wp_walk using wpAny_loadPart' hl))
    exact ⟨_, rfl, h⟩
def rRep0 (K : PySem.W.Frag) : R2 := fun x y H Q => ∃ l k, x = .ref l ∧ y = .int k ∧ SqT K H l [] ∧ 0 ≤ k ∧ k ≤ 1000 ∧ Q (.ref l) H
theorem op_rep0 {X : Cx} : OpR X (binaryOp .Mult) (rRep0 X.K) := by
  intro pins s σ H x y v u Q I rx ry h
  obtain ⟨l, k, rfl, rfl, hT, h1, h2, q⟩ := h
  cases rx
  obtain ⟨t, rfl⟩ := ry
  obtain ⟨its, r, ⟨⟨cls, dd, data, sl⟩, ho, hc, n, hd⟩, hs⟩ := I.tuple hT
  simp only at hc hd
  subst hc hd
  cases r
  have c0 : (decide (k < -(2 ^ 63)) || decide (k ≥ 2 ^ 63)) = false := by
    rw [decide_eq_false (by omega), decide_eq_false (by omega)] <;> rfl
  refine wpAny_binaryOp_repeat_ref (T := "tuple") (U := "int") (by decide) ⟨_, ho, rfl⟩ (fun s' => typeIs_int s' k t) noFill_tuple_mul F.fills_int_mul F.slot_int_rmul repeat_tuple F.slot_int_index.lookup
    (call_meets F.slot_int_rmul (typeIs_int s k t) F.entry_int_rmul (F.args_int_rmul_2 _ _) (int_rmul_tuple k t l #[] n dd sl)
      ⟨ho, rfl, ⟨_, ho, rfl⟩, call_meets F.slot_tuple_mul ⟨_, ho, rfl⟩ F.entry_tuple_mul (F.args_tuple_mul_2 _ _) (tuple_mul0 l n dd sl k t c0) ⟨ho, ?_⟩⟩)
  exact ⟨.ref l, H, I, rfl, q⟩
end Dn

set_option Elab.async false
set_option linter.all false
set_option maxRecDepth 100000
set_option maxHeartbeats 4000000
/-! Dn, part R1: a rule that the layer lacks: set(t), t a tuple of tuples of ints. -/
namespace Dn
open PySem PySem.Spec PyProof.Rows L2
section
variable {P : Program} {w : World} {A : Around} {E : Value → Shared → Prop} {s : Shared}
abbrev newS (w : World) : Obj := { cls := .type "set", dict := none, data := .set #[] 0 (.fresh 0 0 (!w.params.followText "set-order")) }
theorem call_setT_tups {l : Addr} {items : Array Value} (ks : List (Addr × List Int)) {Q : Value → Shared → Prop} (hh : A.handled = none) (hl : s.heap.IsTuple l items) (hit : items.toList = ks.map fun p => Value.ref p.1)
    (hk : ∀ p ∈ ks, IsT P w s.heap p.2 p.1) (hfew : ks.length < 64) (hu : A.units + 3 < cLine)
    (h : ∀ (h' : Heap) (tk : Nat) L es ep t, SetTR P w h' s.heap.objs.size L es ep t → Got ks ks.length L → (∀ b o, s.heap.get? b = some o → h'.get? b = some o) → Q (.ref s.heap.objs.size) { s with heap := h', toks := tk }) :
    wpAny (model P w) A (call (.type "set") [.ref l]) Q E s := by
  have hisz : items.size = ks.length := by simpa using congrArg List.length hit
  have hval : ∀ (i : Nat) (v : Value), items[i]? = some v → ∃ p, ks[i]? = some p ∧ v = .ref p.1 := fun i v hv => by
    rw [← Array.getElem?_toList, hit, List.getElem?_map] at hv
    obtain ⟨p, hp, e⟩ := Option.map_eq_some_iff.mp hv
    exact ⟨p, hp, e.symm⟩
  have free : ∀ b, s.heap.objs.size ≤ b → s.heap.get? b = none := fun b hb => by
    cases q : s.heap.get? b with
    | none => rfl
    | some o => exact absurd (Nat.lt_of_lt_of_le (Heap.lt_size q) hb) (Nat.lt_irrefl _)
  obtain ⟨c, tl, hmro⟩ := F.called_set.mro
  have hmade := F.called_set.made
  have hsub := F.called_set.sub
  refine wpAny_call (codeAny_of_tree ?_)
  show wpAny _ _ (callAny (.type "set") _) _ _ _
  refine wpAny_pure ⟨Code.quiet_builtin _ (by decide +kernel), codeAny_builtin F.entry_type_call ?_⟩
  rw [Around.under_plain (weight_type_call_type "set" [.ref l] []) rfl]
  have h1 := F.called_set.notType
  have h2 := F.called_set.canCreate
  have hct := F.typeCall_set_1 (.ref l)
  repeat (any_goals (first | assumption | wp_step))
  refine codeAny_mono (code_set_led1 (.ref l) (E := E) (Q₁ := fun obj s₁ => obj = .ref s.heap.objs.size ∧ s₁ = { s with heap := s.heap.push (newS w) }) ⟨rfl, rfl⟩) fun r s₁ hr => ?_
  cases r with
  | error e => exact hr
  | ok fl =>
    cases fl with
    | ret obj =>
      obtain ⟨rfl, rfl⟩ := hr
      have hS : (s.heap.push (newS w)).get? s.heap.objs.size = some (newS w) := Heap.get?_push_size _ rfl
      have hT : Shared.TypeIs { s with heap := s.heap.push (newS w) } (.ref s.heap.objs.size) "set" := ⟨_, hS, rfl⟩
      have hli := F.called_set.init.lookup
      have hbi := F.called_set.init.bind (.ref s.heap.objs.size)
      repeat (any_goals (first | assumption | wp_step))
      refine codeAny_mono (codeAny_call_builtin (R := wants (fun r s₂ => r = .none ∧ ∃ h' tk L es ep t, s₂ = { s with heap := h', toks := tk } ∧ SetTR P w h' s.heap.objs.size L es ep t ∧ Got ks ks.length L ∧
          (∀ b o, s.heap.get? b = some o → h'.get? b = some o)) E) F.called_set.init.plain F.entry_set_init (check_set_init_1 hT ?_)) fun r₂ s₂ hr₂ => ?_
      · obtain ⟨⟨ocls, odict, odata, oslots⟩, hol, hcl, nl, hdl⟩ := hl
        simp only at hcl hdl
        subst hcl; subst hdl
        have hol' : (s.heap.push (newS w)).get? l = some { cls := .type "tuple", dict := odict, data := .seq items nl, slots := oslots } := Heap.get?_push_of_some _ hol
        have hsls := F.sub_tuple_set
        have hslf := F.sub_tuple_frozenset
        have hne : (Value.type "tuple" == Value.type "dict") = false := by decide
        have hl1 : (s.heap.push (newS w)).IsTuple l items := ⟨_, hol', rfl, nl, rfl⟩
        unfold Builtin.«set.__init__» noKeywords Builtin.Frozenset.updateFrom
        generalize hPI : pyIter = PI
        wp_walk
        subst hPI
        refine wpAny_pyIter_tuple hl1 ?_
        refine wpAny_bind (wpAny_runValue ?_)
        have hlS : l < s.heap.objs.size := Heap.lt_size hol
        have hh3 : A.in1.in1.in1.handled = none := by simp [hh]
        have hz1 : (s.heap.push (newS w)).objs.size = s.heap.objs.size + 1 := Heap.size_push ..
        have hneI : l ≠ (s.heap.push (newS w)).objs.size := by rw [hz1]; exact Nat.ne_of_lt (Nat.lt_succ_of_lt hlS)
        have hSf : s.heap.objs.size ∉ [(s.heap.push (newS w)).objs.size, l] := by
          simp only [List.mem_cons, List.not_mem_nil, or_false, not_or]
          exact ⟨by rw [hz1]; exact Nat.ne_of_lt (Nat.lt_succ_self _), Nat.ne_of_gt hlS⟩
        refine set_update_tups ((Walks.tuple hh3 _ l hneI items).toS) s.heap.objs.size hSf ks hisz hfew hval s.heap hk (free _ (Nat.le_refl _)) (fun b hb => free b (by rw [List.mem_singleton.mp hb]; omega)) hu (items.size - 0) 0 _ (by omega) (Nat.zero_le _)
          ⟨⟨_, Heap.get?_push_size _ rfl, rfl, rfl⟩, (hl1.push _)⟩ (fun b o e => Heap.get?_push_of_some _ (Heap.get?_push_of_some _ e)) ?hS0 ?hR
        case hS0 => exact ⟨[], #[], 0, _, setTR_fresh (Heap.get?_push_of_some _ hS), Got.zero ks⟩
        case hR =>
          intro s' L es ep t hm hS' g' hkp
          obtain ⟨h', g2, d', tk', os'⟩ := s'
          have eg : g2 = s.gens := hm.gens
          have ed : d' = s.drawn := hm.drawn
          have eo : os' = s.os := hm.os
          subst eg; subst ed; subst eo
          show wpAny _ _ _ _ _ _
          refine wpAny_pure ?_
          show wpAny _ _ (ret Value.none) _ _ _
          rw [hisz] at g'
          exact wpAny_pure ⟨rfl, h', tk', L, es, ep, t, rfl, hS', g', hkp⟩
      · cases r₂ with
        | error e => exact hr₂
        | ok fl₂ =>
          cases fl₂ with
          | ret r =>
            obtain ⟨rfl, h', tk, L, es, ep, t, rfl, hS', g', hk'⟩ := hr₂
            repeat (any_goals (first | assumption | wp_step))
            exact h _ _ _ _ _ _ hS' g' hk'
          | _ => exact hr₂.elim
    | _ => exact hr.elim
end
/-! ### sorted(set(t)) -/
def rSortSet (K : PySem.W.Frag) : V → Hp → VK → Prop := fun x H Q => ∃ (l : Addr) (ks : List (Addr × List Int)), x = .ref l ∧ SqT K H l (ks.map fun p => V.ref p.1) ∧ (∀ p ∈ ks, SqT K H p.1 (p.2.map V.int)) ∧ ks.length < 64 ∧ (∀ p ∈ ks, p.2.length = 2 ∧ TS.Bd 64 p.2) ∧
  ∀ (L : List (Addr × List Int)) (p : Addr), (∀ q ∈ L, q ∈ ks) → (∀ q ∈ ks, q.2 ∈ L.map (·.2)) → (L.map (·.2)).Nodup → L.Pairwise (fun q r => TS.code 64 q.2 ≤ TS.code 64 r.2) → H p = none → Q (.ref p) (upd H p (.lst (L.map fun q => V.ref q.1)))
theorem pe_sortSet {X : Cx} {a : Expr} {ta : TE} {p p2 q pos : Pos} (hg : Gl X "sorted") (hm : X.mg "sorted" = none) (hg2 : Gl X "set") (hm2 : X.mg "set" = none) (ha : PE X a ta) (hc : X.calm = true) (hu : X.A.units + 64 < cLine)
    (na : starEach [a] X.env = (false, eval a X.env) :: starEach [] X.env) : PE X (.Call (.Name "sorted" p) [.Call (.Name "set" p2) [a] [] q] [] pos) (tUn (rSortSet X.K) ta) := by
  refine ⟨fun pins s σ H Q I h => ?_⟩
  refine Call_ (ld_blt I hg hm boot_sorted ?_)
  refine PyProof.Rows.callWith_builtin1 (PyProof.Rows.args_cons ?_ rfl) rfl rfl
  refine Call_ (ld_blt I hg2 hm2 boot_set ?_)
  refine PyProof.Rows.callWith_type1 (PyProof.Rows.args_cons (thn (ha.run pins s σ H _ I h) fun v s1 ⟨x, H1, I1, r1, q1⟩ => PyProof.Rows.args_nil ?_) na) na rfl
  obtain ⟨l, ks, rfl, hq, hk, hl, hb, q1⟩ := q1
  cases r1
  obtain ⟨its, r, pl, hz⟩ := I1.tuple hq
  refine call_setT_tups (P := X.prog) (w := X.w) ks (I1.ok.hd hc) pl (by simpa using refs_of_vals r) (fun p hp => I1.isT (hk p hp)) hl (by omega) fun h' tk L es ep t R g k => ?_
  refine PyProof.Rows.args_nil ?_
  have J : Inv X pins σ H1 { s1 with heap := h', toks := tk } := I1.kept fun b o e => k b o e
  have mem : ∀ q ∈ L, q ∈ ks := fun q hq => List.mem_of_mem_take (g.sub q hq)
  refine sorted_setT R (J.ok.hd hc) (by decide : 1 ≤ 2) (B := 64) (fun p hp => hb p (mem p hp)) fun s' p out c L' k2 g2 o2 hp hgt hout pm pw => ?_
  have hfew : L'.length < 64 := by rw [pm.length_eq]; exact R.few
  have hlen : (L'.map fun q => V.ref q.1).length ≤ sizeLine := by rw [List.length_map, sizeLine_eq]; omega
  have hn : H1 p = none := J.hok.fresh hp
  have hv : Vals (L'.map fun q => V.ref q.1) out.toList := by rw [hout]; exact vals_of_refs L'
  have J2 : Inv X pins σ (upd H1 p (.lst (L'.map fun q => V.ref q.1))) { { s1 with heap := h', toks := tk } with heap := s'.heap, gens := s'.gens, drawn := s'.drawn, toks := s'.toks } :=
    J.call (ch := []) (Un.laid k2 hp hn) (J.hok.laid k2 hp ⟨hlen, out.toList, c, hv, hgt⟩) (by rw [g2]; exact J.bare) (fun _ z => nomatch z)
  have e : s' = { { s1 with heap := h', toks := tk } with heap := s'.heap, gens := s'.gens, drawn := s'.drawn, toks := s'.toks } := by
    cases s'
    cases s1
    cases o2
    rfl
  rw [e]
  exact ⟨.ref p, _, J2, rfl, q1 L' p (fun q hq => mem q (pm.mem_iff.mp hq)) (fun q hq => (pm.map (·.2)).mem_iff.mpr (g.all q (by rw [List.take_length]; exact hq))) ((pm.map (·.2)).nodup_iff.mpr R.nd) pw hn⟩
end Dn

set_option Elab.async false
set_option linter.all false
set_option maxRecDepth 100000
set_option maxHeartbeats 4000000
/-! Dn, part R2: zip of sequences of any two kinds, also with a name as target. -/
namespace Dn
open PySem PySem.Spec PyProof.Rows L2
abbrev zO (TI TO : Addr) (f g : Value) : Obj := { cls := .type "zip", dict := none, data := .fields #[f, g, .bool false, .ref TI, .ref TO], slots := #[] }
def SeqIs (t : Bool) (h : Heap) (l : Addr) (xs : Array Value) : Prop := match t with
  | true => h.IsTuple l xs
  | false => h.IsList l xs
def IterIs (t : Bool) (h : Heap) (i l : Addr) (k : Nat) : Prop := match t with
  | true => h.IsTupleIter i l k
  | false => h.IsListIter i l k
def SqB (t : Bool) (K : PySem.W.Frag) (H : Hp) (a : Addr) (xs : List V) : Prop := match t with
  | true => SqT K H a xs
  | false => SqL K H a xs
abbrev itO (t : Bool) (l : Addr) : Obj := match t with
  | true => { cls := .type "tuple_iterator", data := .fields #[.ref l, .int 0 0] }
  | false => { cls := .type "list_iterator", data := .fields #[.ref l, .int 0 0] }
abbrev zb1 (t : Bool) (h : Heap) (a : Addr) : Heap := h.push (itO t a)
abbrev zb2 (t u : Bool) (h : Heap) (a b : Addr) : Heap := (zb1 t h a).push (itO u b)
abbrev zb3 (t u : Bool) (h : Heap) (a b : Addr) : Heap := (zb2 t u h a b).push { cls := .type "tuple", data := .seq #[.ref h.objs.size, .ref (zb1 t h a).objs.size] }
abbrev zb4 (t u : Bool) (h : Heap) (a b : Addr) : Heap := (zb3 t u h a b).push { cls := .type "tuple", data := .seq #[.none, .none] }
abbrev zb5 (t u : Bool) (h : Heap) (a b : Addr) : Heap := (zb4 t u h a b).push (zO (zb2 t u h a b).objs.size (zb3 t u h a b).objs.size .none (.bool false))
theorem zipB_new (t u : Bool) (a b : Addr) (xs ys : Array Value) :
    Meets (Builtin.«zip.__new__» ⟨[.type "zip", .ref a, .ref b], []⟩) (fun _ R s => SeqIs t s.heap a xs ∧ SeqIs u s.heap b ys ∧ R (.ok (.ret (.ref (zb4 t u s.heap a b).objs.size))) { s with heap := zb5 t u s.heap a b }) := by
  cases t <;> cases u
  · exact .of_wp fun prog w A R s h => by
      obtain ⟨hp, gg, dd, tk, os⟩ := s; obtain ⟨ha, hb, h⟩ := h
      have hsub := sub_zip
      have L1 : Heap.IsList (Shared.heap ⟨hp, gg, dd, tk, os⟩) a xs := ha
      have L2 : Heap.IsList (Shared.heap ⟨hp.push { cls := .type "list_iterator", data := .fields #[.ref a, .int 0 0] }, gg, dd, tk, os⟩) b ys := Heap.IsList.push hb _
      wp_walk using wpAny_pyIter_list L1, wpAny_pyIter_list L2
      exact ⟨_, rfl, h⟩
  · exact .of_wp fun prog w A R s h => by
      obtain ⟨hp, gg, dd, tk, os⟩ := s; obtain ⟨ha, hb, h⟩ := h
      have hsub := sub_zip
      have L1 : Heap.IsList (Shared.heap ⟨hp, gg, dd, tk, os⟩) a xs := ha
      have L2 : Heap.IsTuple (Shared.heap ⟨hp.push { cls := .type "list_iterator", data := .fields #[.ref a, .int 0 0] }, gg, dd, tk, os⟩) b ys := Heap.IsTuple.push hb _
      wp_walk using wpAny_pyIter_list L1, wpAny_pyIter_tuple L2
      exact ⟨_, rfl, h⟩
  · exact .of_wp fun prog w A R s h => by
      obtain ⟨hp, gg, dd, tk, os⟩ := s; obtain ⟨ha, hb, h⟩ := h
      have hsub := sub_zip
      have L1 : Heap.IsTuple (Shared.heap ⟨hp, gg, dd, tk, os⟩) a xs := ha
      have L2 : Heap.IsList (Shared.heap ⟨hp.push { cls := .type "tuple_iterator", data := .fields #[.ref a, .int 0 0] }, gg, dd, tk, os⟩) b ys := Heap.IsList.push hb _
      wp_walk using wpAny_pyIter_tuple L1, wpAny_pyIter_list L2
      exact ⟨_, rfl, h⟩
  · exact .of_wp fun prog w A R s h => by
      obtain ⟨hp, gg, dd, tk, os⟩ := s; obtain ⟨ha, hb, h⟩ := h
      have hsub := sub_zip
      have L1 : Heap.IsTuple (Shared.heap ⟨hp, gg, dd, tk, os⟩) a xs := ha
      have L2 : Heap.IsTuple (Shared.heap ⟨hp.push { cls := .type "tuple_iterator", data := .fields #[.ref a, .int 0 0] }, gg, dd, tk, os⟩) b ys := Heap.IsTuple.push hb _
      wp_walk using wpAny_pyIter_tuple L1, wpAny_pyIter_tuple L2
      exact ⟨_, rfl, h⟩
section
variable {prog : Program} {w : World} {A : Around} {E : Value → Shared → Prop} {s : Shared}
theorem iterIs_new {t : Bool} {h : Heap} {i a : Addr} (e : h.get? i = some (itO t a)) : IterIs t h i a 0 := by
  cases t
  · exact ⟨_, e, rfl, rfl⟩
  · exact ⟨_, e, rfl, rfl⟩
theorem call_zipB {t u : Bool} {a b : Addr} {xs ys : Array Value} {Q : Value → Shared → Prop} (ha : SeqIs t s.heap a xs) (hb : SeqIs u s.heap b ys)
    (h : ∀ h', IsZip h' (s.heap.objs.size + 4) (s.heap.objs.size + 2) (s.heap.objs.size + 3) .none → IsPair h' (s.heap.objs.size + 2) (.ref s.heap.objs.size) (.ref (s.heap.objs.size + 1)) → IsPair h' (s.heap.objs.size + 3) .none .none →
      IterIs t h' s.heap.objs.size a 0 → IterIs u h' (s.heap.objs.size + 1) b 0 → (∀ c o, s.heap.get? c = some o → h'.get? c = some o) → Q (.ref (s.heap.objs.size + 4)) { s with heap := h' }) :
    wpAny (model prog w) A (call (.type "zip") [.ref a, .ref b]) Q E s := by
  refine callType_new F.called_zip (by decide) (F.typeCall_zip_2 _ _) (F.newCall_zip_2 _ _) (fun obj => F.args_object_init_3 obj _ _) F.entry_zip_new (zipB_new t u a b xs ys) ⟨ha, hb, ?_⟩
  have e1 : (zb1 t s.heap a).objs.size = s.heap.objs.size + 1 := Heap.size_push ..
  have e2 : (zb2 t u s.heap a b).objs.size = s.heap.objs.size + 2 := by rw [Heap.size_push, e1]
  have e3 : (zb3 t u s.heap a b).objs.size = s.heap.objs.size + 3 := by rw [Heap.size_push, e2]
  have e4 : (zb4 t u s.heap a b).objs.size = s.heap.objs.size + 4 := by rw [Heap.size_push, e3]
  have g5 : (zb5 t u s.heap a b).get? (zb4 t u s.heap a b).objs.size = some _ := Heap.get?_push_size _ rfl
  have g4 : (zb5 t u s.heap a b).get? (zb3 t u s.heap a b).objs.size = some _ := Heap.get?_push_of_some _ (Heap.get?_push_size _ rfl)
  have g3 : (zb5 t u s.heap a b).get? (zb2 t u s.heap a b).objs.size = some _ := Heap.get?_push_of_some _ (Heap.get?_push_of_some _ (Heap.get?_push_size _ rfl))
  have g2 : (zb5 t u s.heap a b).get? (zb1 t s.heap a).objs.size = some _ := Heap.get?_push_of_some _ (Heap.get?_push_of_some _ (Heap.get?_push_of_some _ (Heap.get?_push_size _ (by cases u <;> rfl))))
  have g1 : (zb5 t u s.heap a b).get? s.heap.objs.size = some _ := Heap.get?_push_of_some _ (Heap.get?_push_of_some _ (Heap.get?_push_of_some _ (Heap.get?_push_of_some _ (Heap.get?_push_size _ (by cases t <;> rfl)))))
  show _ ∧ _
  rw [e2, e3, e4] at g5
  rw [e1, e2] at g3
  rw [e3] at g4
  rw [e1] at g2
  rw [e4]
  exact ⟨⟨_, g5, rfl⟩, h _ g5 g3 g4 (iterIs_new g1) (iterIs_new g2) fun c o x => Heap.get?_push_of_some _ (Heap.get?_push_of_some _ (Heap.get?_push_of_some _ (Heap.get?_push_of_some _ (Heap.get?_push_of_some _ x))))⟩
theorem draws_B (hh : A.handled = none) (t : Bool) (i l : Addr) (ne : l ≠ i) (xs : Array Value) : Draws prog w A i [i, l] xs.size (fun k v => xs[k]? = some v) (fun k h => IterIs t h i l k ∧ SeqIs t h l xs) := by
  cases t
  · exact Draws.list hh i l ne xs
  · exact Draws.tuple hh i l ne xs
theorem sep_of {z TI TO i1 i2 a b : Addr} (D : ZipApart z TI TO i1 i2 a b) : ZipSep2 z TI TO i1 i2 [i1, a] [i2, b] where
  TIz := D.TIz
  TOz := D.TOz
  TITO := D.TITO
  TIi1 := D.TIi1
  mem1 := by simp
  zf1 := by
    simp only [List.mem_cons, List.not_mem_nil, or_false, not_or]
    exact ⟨Ne.symm D.i1z, Ne.symm D.l1z⟩
  Tf1 := by
    simp only [List.mem_cons, List.not_mem_nil, or_false, not_or]
    exact ⟨D.TOi1, Ne.symm D.l1TO⟩
  TIi2 := D.TIi2
  mem2 := by simp
  zf2 := by
    simp only [List.mem_cons, List.not_mem_nil, or_false, not_or]
    exact ⟨Ne.symm D.i2z, Ne.symm D.l2z⟩
  Tf2 := by
    simp only [List.mem_cons, List.not_mem_nil, or_false, not_or]
    exact ⟨D.TOi2, Ne.symm D.l2TO⟩
  sep1_2 := by
    simp only [List.mem_cons, List.not_mem_nil, or_false, not_or]
    exact ⟨D.i12, Ne.symm D.l2i1⟩
  sep2_1 := by
    simp only [List.mem_cons, List.not_mem_nil, or_false, not_or]
    exact ⟨Ne.symm D.i12, Ne.symm D.l1i2⟩
/-! ### a zip whose last tuple may live on -/
def OldF (f : Value) : Prop := f = .none ∨ ∃ T : Nat, f = rawInt T
theorem alive_any {a : Addr} {Q : Option Obj → Shared → Prop} (h : Q (s.heap.get? a) s) : wpAny (model prog w) A (loadIfAlive a) Q E s := fun _ _ _ => h
theorem isFree_any {z TI TO : Addr} {f g : Value} {Q : Bool → Shared → Prop} (hz : s.heap.get? z = some (zO TI TO f g)) (h0 : OldF f) (ht : Q true s)
    (hf : ∀ h' g', h'.get? z = some (zO TI TO f g') → Heap.SameBut z s.heap h' → Q false { s with heap := h' }) : wpAny (model prog w) A (Builtin.SmallTypes.ownedTupleIsFree (.ref z)) Q E s := by
  unfold Builtin.SmallTypes.ownedTupleIsFree
  rcases h0 with rfl | ⟨T, rfl⟩
  · exact wpAny_bind (wpAny_field hz rfl (x := .none) rfl (wpAny_pure ht))
  refine wpAny_bind (wpAny_field hz rfl (x := rawInt T) rfl ?_)
  show wpAny _ _ (loadIfAlive ((T : Int).toNat) >>= _) _ _ _
  rw [Int.toNat_natCast]
  refine wpAny_bind (alive_any ?_)
  cases s.heap.get? T with
  | none =>
    simp only [Option.isNone_none, if_true]
    exact wpAny_pure ht
  | some o =>
    simp only [Option.isNone_some, Bool.false_eq_true, if_false]
    refine wpAny_bind (wpAny_field hz rfl (x := g) rfl ?_)
    by_cases c : (g != Value.bool true) = true
    · rw [if_pos c]
      exact wpAny_bind (wpAny_setField_rec hz (by simp) fun h1 hz1 hs1 => wpAny_pure (hf h1 (.bool true) hz1 hs1))
    · rw [if_neg c]
      exact wpAny_pure (hf s.heap g hz (Heap.SameBut.refl _ _))
section
variable {z TI TO i1 i2 : Addr} {fp1 fp2 : List Addr} {n1 n2 i : Nat} {P1 P2 : Nat → Value → Prop} {St1 St2 : Nat → Heap → Prop} {a1 a2 f g : Value}
theorem zipN_item {Q : Value → Shared → Prop} (S : ZipSep2 z TI TO i1 i2 fp1 fp2) (D1 : Draws prog w A i1 fp1 n1 P1 St1) (D2 : Draws prog w A i2 fp2 n2 P2 St2) (hz : s.heap.get? z = some (zO TI TO f g)) (h0 : OldF f)
    (hTI : IsTupOf2 s.heap TI (.ref i1) (.ref i2)) (hTO : IsTupOf2 s.heap TO a1 a2) (st1 : St1 i s.heap) (st2 : St2 i s.heap) (lt1 : i < n1) (lt2 : i < n2)
    (hQ : ∀ x1 x2 h' tk f' g', P1 i x1 → P2 i x2 → h'.get? z = some (zO TI TO f' g') → OldF f' → (∃ b1 b2, IsTupOf2 h' TO b1 b2) → St1 (i + 1) h' → St2 (i + 1) h' → IsTupOf2 h' s.heap.objs.size x1 x2 →
      (∀ c o, c ≠ z → c ≠ TO → c ≠ i1 → c ≠ i2 → s.heap.get? c = some o → h'.get? c = some o) → Q (.ref s.heap.objs.size) { s with heap := h', toks := tk }) :
    wpAny (model prog w) A (Builtin.«zip.__next__» ⟨[.ref z], []⟩) (fun fin s' => ∃ v, fin = .done (.ret v) ∧ Q v s') E s := by
  obtain ⟨hp, gg, dd, tk0, os⟩ := s
  show wpAny _ _ (field (.ref z) 2 >>= _) _ _ _
  refine wpAny_bind (wpAny_field hz rfl (x := .bool false) rfl ?_)
  show wpAny _ _ (field (.ref z) 3 >>= _) _ _ _
  refine wpAny_bind (wpAny_field hz rfl (x := .ref TI) rfl ?_)
  refine wpAny_bind (wpAny_seqItems hTI rfl ?_)
  show wpAny _ _ (Builtin.SmallTypes.ownedTupleIsFree (.ref z) >>= _) _ _ _
  refine wpAny_bind (isFree_any hz h0 ?_ fun p0 g0 hz0 hs0 => ?_)
  · simp only [if_true]
    refine wpAny_bind (wpAny_rule ?_)
    refine wpAny_bind (wpAny_field hz rfl (x := .ref TO) rfl ?_)
    refine wpAny_bind (wpAny_setField_rec hz (by simp) fun p0 hz0 hs0 => ?_)
    replace hz0 : p0.get? z = some (zO TI TO .ellipsis g) := hz0
    replace hs0 : Heap.SameBut z hp p0 := hs0
    refine wpAny_bind ?_
    simp only [List.zipIdx_cons, List.zipIdx_nil, List.forIn_cons, List.forIn_nil]
    refine wpAny_bind (wpAny_bind (wpAny_onRaise ?_))
    show wpAny _ _ (Builtin.SmallTypes.nextOf (.ref i1) >>= _) _ _ ⟨p0, gg, dd, tk0, os⟩
    refine wpAny_bind (D1.item i _ _ _ lt1 (D1.over st1 hs0 S.zf1) fun x1 q1 tk1 hx1 sn1 hq1 => wpAny_pure ?_)
    replace hq1 : Heap.SameBut i1 p0 q1 := hq1
    have U1 : IsTupOf2 q1 TO a1 a2 := hq1.extBut _ _ S.Ti1 (hs0.extBut _ _ S.TOz hTO)
    refine wpAny_bind (wpAny_seqItems (s := ⟨q1, gg, dd, tk1, os⟩) U1 rfl ?_)
    refine wpAny_bind (updateSeq_IsTupOf2 (s := ⟨q1, gg, dd, tk1, os⟩) U1 fun p1 T1 hs1 => ?_)
    replace T1 : IsTupOf2 p1 TO x1 a2 := T1
    replace hs1 : Heap.SameBut TO q1 p1 := hs1
    refine wpAny_bind (wpAny_letGo (wpAny_pure ?_))
    refine wpAny_bind (wpAny_bind (wpAny_onRaise ?_))
    show wpAny _ _ (Builtin.SmallTypes.nextOf (.ref i2) >>= _) _ _ ⟨p1, gg, dd, tk1, os⟩
    refine wpAny_bind (D2.item i _ _ _ lt2 (D2.over (D2.over (D2.over st2 hs0 S.zf2) hq1 S.sep1_2) hs1 S.Tf2) fun x2 q2 tk2 hx2 sn2 hq2 => wpAny_pure ?_)
    replace hq2 : Heap.SameBut i2 p1 q2 := hq2
    have U2 : IsTupOf2 q2 TO x1 a2 := hq2.extBut _ _ S.Ti2 T1
    refine wpAny_bind (wpAny_seqItems (s := ⟨q2, gg, dd, tk2, os⟩) U2 rfl ?_)
    refine wpAny_bind (updateSeq_IsTupOf2 (s := ⟨q2, gg, dd, tk2, os⟩) U2 fun p2 T2 hs2 => ?_)
    replace T2 : IsTupOf2 p2 TO x1 x2 := T2
    replace hs2 : Heap.SameBut TO q2 p2 := hs2
    refine wpAny_bind (wpAny_letGo (wpAny_pure (wpAny_pure ?_)))
    refine wpAny_bind (wpAny_seqItems (s := ⟨p2, gg, dd, tk2, os⟩) T2 rfl ?_)
    refine wpAny_bind (wpAny_newTuple ?_)
    have sz : p2.objs.size = hp.objs.size := by rw [hs2.1, hq2.1, hs1.1, hq1.1, hs0.1]
    have zz : p2.get? z = some (zO TI TO .ellipsis g) := hs2.extBut _ _ S.TOz.symm (hq2.extBut _ _ S.zi2 (hs1.extBut _ _ S.TOz.symm (hq1.extBut _ _ S.zi1 hz0)))
    have kk : ∀ c o, c ≠ z → c ≠ TO → c ≠ i1 → c ≠ i2 → hp.get? c = some o → p2.get? c = some o := fun c o cz cT c1 c2 e => hs2.extBut _ _ cT (hq2.extBut _ _ c2 (hs1.extBut _ _ cT (hq1.extBut _ _ c1 (hs0.extBut _ _ cz e))))
    have j1 : St1 (i + 1) p2 := D1.over (D1.over (D1.over sn1 hs1 S.Tf1) hq2 S.sep2_1) hs2 S.Tf1
    have j2 : St2 (i + 1) p2 := D2.over sn2 hs2 S.Tf2
    have zlt : z < p2.objs.size := Heap.lt_size zz
    show wpAny _ _ (Builtin.SmallTypes.ownedTupleHandOut (.ref z) (.ref p2.objs.size) >>= _) _ _ ⟨p2.push { cls := .type "tuple", data := .seq #[x1, x2] }, gg, dd, tk2, os⟩
    refine wpAny_bind ?_
    unfold Builtin.SmallTypes.ownedTupleHandOut
    have z6 : (p2.push { cls := .type "tuple", data := .seq #[x1, x2] }).get? z = some (zO TI TO .ellipsis g) := Heap.get?_push_of_some _ zz
    refine wpAny_bind (wpAny_setField_rec z6 (by simp) fun p7 z7 hs7 => ?_)
    replace z7 : p7.get? z = some (zO TI TO (rawInt p2.objs.size) g) := z7
    refine wpAny_setField_rec z7 (by simp) fun p8 z8 hs8 => ?_
    replace z8 : p8.get? z = some (zO TI TO (rawInt p2.objs.size) (.bool false)) := z8
    replace hs7 : Heap.SameBut z (p2.push { cls := .type "tuple", data := .seq #[x1, x2] }) p7 := hs7
    replace hs8 : Heap.SameBut z p7 p8 := hs8
    have up : ∀ c o, c ≠ z → p2.get? c = some o → p8.get? c = some o := fun c o c1 e => hs8.extBut _ _ c1 (hs7.extBut _ _ c1 (Heap.get?_push_of_some _ e))
    have T8 : IsTupOf2 p8 p2.objs.size x1 x2 := hs8.extBut _ _ (Nat.ne_of_gt zlt) (hs7.extBut _ _ (Nat.ne_of_gt zlt) (Heap.get?_push_size _ rfl))
    rw [sz] at z8 T8
    refine wpAny_pure ⟨_, rfl, ?_⟩
    show Q (.ref p2.objs.size) ⟨p8, gg, dd, tk2, os⟩
    rw [sz]
    exact hQ x1 x2 p8 tk2 _ _ hx1 hx2 z8 (.inr ⟨_, rfl⟩) ⟨_, _, up _ _ S.TOz T2⟩ (D1.frame _ _ _ j1 fun b hb o e => up b o (fun q => S.zf1 (q ▸ hb)) e) (D2.frame _ _ _ j2 fun b hb o e => up b o (fun q => S.zf2 (q ▸ hb)) e) T8 fun c o cz cT c1 c2 e => up c o cz (kk c o cz cT c1 c2 e)
  · replace hs0 : Heap.SameBut z hp p0 := hs0
    simp only [Bool.false_eq_true, if_false]
    refine wpAny_bind ?_
    rw [← Array.forIn_toList]
    simp only [List.forIn_cons, List.forIn_nil]
    refine wpAny_bind (wpAny_bind (wpAny_holding ?_))
    show wpAny _ _ (Builtin.SmallTypes.nextOf (.ref i1) >>= _) _ _ ⟨p0, gg, dd, tk0, os⟩
    refine wpAny_bind (D1.item i _ _ _ lt1 (D1.over st1 hs0 S.zf1) fun x1 q1 tk1 hx1 sn1 hq1 => wpAny_pure ?_)
    replace hq1 : Heap.SameBut i1 p0 q1 := hq1
    refine wpAny_pure ?_
    refine wpAny_bind (wpAny_bind (wpAny_holding ?_))
    show wpAny _ _ (Builtin.SmallTypes.nextOf (.ref i2) >>= _) _ _ ⟨q1, gg, dd, tk1, os⟩
    refine wpAny_bind (D2.item i _ _ _ lt2 (D2.over (D2.over st2 hs0 S.zf2) hq1 S.sep1_2) fun x2 q2 tk2 hx2 sn2 hq2 => wpAny_pure ?_)
    replace hq2 : Heap.SameBut i2 q1 q2 := hq2
    refine wpAny_pure (wpAny_pure ?_)
    show wpAny _ _ (newTuple [x1, x2] >>= _) _ _ _
    refine wpAny_bind (wpAny_newTuple ?_)
    have sz : q2.objs.size = hp.objs.size := by rw [hq2.1, hq1.1, hs0.1]
    have zz : q2.get? z = some (zO TI TO f g0) := hq2.extBut _ _ S.zi2 (hq1.extBut _ _ S.zi1 hz0)
    have kk : ∀ c o, c ≠ z → c ≠ i1 → c ≠ i2 → hp.get? c = some o → q2.get? c = some o := fun c o cz c1 c2 e => hq2.extBut _ _ c2 (hq1.extBut _ _ c1 (hs0.extBut _ _ cz e))
    have j1 : St1 (i + 1) q2 := D1.over sn1 hq2 S.sep2_1
    have T8 : IsTupOf2 (q2.push { cls := .type "tuple", data := .seq #[x1, x2] }) q2.objs.size x1 x2 := Heap.get?_push_size _ rfl
    refine wpAny_pure ⟨_, rfl, ?_⟩
    show Q (.ref q2.objs.size) _
    rw [sz] at T8 ⊢
    exact hQ x1 x2 _ tk2 _ _ hx1 hx2 (Heap.get?_push_of_some _ zz) h0 ⟨_, _, Heap.get?_push_of_some _ (kk _ _ S.TOz S.Ti1 S.Ti2 hTO)⟩ (D1.frame _ _ _ j1 fun b hb o e => Heap.get?_push_of_some _ e) (D2.frame _ _ _ sn2 fun b hb o e => Heap.get?_push_of_some _ e) T8 fun c o cz cT c1 c2 e => Heap.get?_push_of_some _ (kk c o cz c1 c2 e)
theorem zipN_end {Q : Fin → Shared → Prop} (S : ZipSep2 z TI TO i1 i2 fp1 fp2) (D1 : Draws prog w A i1 fp1 n1 P1 St1) (D2 : Draws prog w A i2 fp2 n2 P2 St2) (hz : s.heap.get? z = some (zO TI TO f g)) (h0 : OldF f)
    (hTI : IsTupOf2 s.heap TI (.ref i1) (.ref i2)) (hTO : IsTupOf2 s.heap TO a1 a2) (st1 : St1 i s.heap) (st2 : St2 i s.heap) (le1 : i ≤ n1) (le2 : i ≤ n2) (hend : i = n1 ∨ i = n2)
    (hE : ∀ h' tk e, (∀ c o, c ≠ z → c ≠ TO → c ≠ i1 → c ≠ i2 → s.heap.get? c = some o → h'.get? c = some o) → (∃ o, h'.get? e = some o ∧ o.cls = .type "StopIteration") → E (.ref e) { s with heap := h', toks := tk }) :
    wpAny (model prog w) A (Builtin.«zip.__next__» ⟨[.ref z], []⟩) Q E s := by
  obtain ⟨hp, gg, dd, tk0, os⟩ := s
  show wpAny _ _ (field (.ref z) 2 >>= _) _ _ _
  refine wpAny_bind (wpAny_field hz rfl (x := .bool false) rfl ?_)
  show wpAny _ _ (field (.ref z) 3 >>= _) _ _ _
  refine wpAny_bind (wpAny_field hz rfl (x := .ref TI) rfl ?_)
  refine wpAny_bind (wpAny_seqItems hTI rfl ?_)
  show wpAny _ _ (Builtin.SmallTypes.ownedTupleIsFree (.ref z) >>= _) _ _ _
  refine wpAny_bind (isFree_any hz h0 ?_ fun p0 g0 hz0 hs0 => ?_)
  · simp only [if_true]
    refine wpAny_bind (wpAny_rule ?_)
    refine wpAny_bind (wpAny_field hz rfl (x := .ref TO) rfl ?_)
    refine wpAny_bind (wpAny_setField_rec hz (by simp) fun p0 hz0 hs0 => ?_)
    replace hz0 : p0.get? z = some (zO TI TO .ellipsis g) := hz0
    replace hs0 : Heap.SameBut z hp p0 := hs0
    refine wpAny_bind ?_
    simp only [List.zipIdx_cons, List.zipIdx_nil, List.forIn_cons, List.forIn_nil]
    refine wpAny_bind (wpAny_bind (wpAny_onRaise ?_))
    show wpAny _ _ (Builtin.SmallTypes.nextOf (.ref i1) >>= _) _ _ ⟨p0, gg, dd, tk0, os⟩
    by_cases lt1 : i < n1
    · refine wpAny_bind (D1.item i _ _ _ lt1 (D1.over st1 hs0 S.zf1) fun x1 q1 tk1 hx1 sn1 hq1 => wpAny_pure ?_)
      replace hq1 : Heap.SameBut i1 p0 q1 := hq1
      have U1 : IsTupOf2 q1 TO a1 a2 := hq1.extBut _ _ S.Ti1 (hs0.extBut _ _ S.TOz hTO)
      refine wpAny_bind (wpAny_seqItems (s := ⟨q1, gg, dd, tk1, os⟩) U1 rfl ?_)
      refine wpAny_bind (updateSeq_IsTupOf2 (s := ⟨q1, gg, dd, tk1, os⟩) U1 fun p1 T1 hs1 => ?_)
      replace T1 : IsTupOf2 p1 TO x1 a2 := T1
      replace hs1 : Heap.SameBut TO q1 p1 := hs1
      refine wpAny_bind (wpAny_letGo (wpAny_pure ?_))
      have hi2 : i = n2 := by omega
      refine wpAny_bind (wpAny_bind (wpAny_onRaise ?_))
      show wpAny _ _ (Builtin.SmallTypes.nextOf (.ref i2) >>= _) _ _ ⟨p1, gg, dd, tk1, os⟩
      refine wpAny_bind (D2.done ⟨p1, gg, dd, tk1, os⟩ _ _ (by rw [← hi2]; exact (D2.over (D2.over (D2.over st2 hs0 S.zf2) hq1 S.sep1_2) hs1 S.Tf2)) fun q e hq he => ?_)
      replace hq : Heap.ExtBut i2 p1 q := hq
      obtain ⟨oe, hoe, hce⟩ := he
      replace hoe : q.get? e = some oe := hoe
      have zq : q.get? z = some (zO TI TO .ellipsis g) := hq _ _ S.zi2 (hs1.extBut _ _ S.TOz.symm (hq1.extBut _ _ S.zi1 hz0))
      have ez : e ≠ z := fun x => by subst x; rw [zq] at hoe; cases hoe; simp at hce
      refine wpAny_setField_rec (s := ⟨q, gg, dd, tk1, os⟩) zq (by simp) fun q' _ hq' => ?_
      replace hq' : Heap.SameBut z q q' := hq'
      exact hE q' tk1 e (fun c o cz cT c1 c2 x => hq'.extBut _ _ cz (hq _ _ c2 (hs1.extBut _ _ cT (hq1.extBut _ _ c1 (hs0.extBut _ _ cz x))))) ⟨oe, hq'.extBut _ _ ez hoe, hce⟩
    · have hi1 : i = n1 := by omega
      refine wpAny_bind (D1.done ⟨p0, gg, dd, tk0, os⟩ _ _ (by rw [← hi1]; exact (D1.over st1 hs0 S.zf1)) fun q e hq he => ?_)
      replace hq : Heap.ExtBut i1 p0 q := hq
      obtain ⟨oe, hoe, hce⟩ := he
      replace hoe : q.get? e = some oe := hoe
      have zq : q.get? z = some (zO TI TO .ellipsis g) := hq _ _ S.zi1 hz0
      have ez : e ≠ z := fun x => by subst x; rw [zq] at hoe; cases hoe; simp at hce
      refine wpAny_setField_rec (s := ⟨q, gg, dd, tk0, os⟩) zq (by simp) fun q' _ hq' => ?_
      replace hq' : Heap.SameBut z q q' := hq'
      exact hE q' tk0 e (fun c o cz cT c1 c2 x => hq'.extBut _ _ cz (hq _ _ c1 (hs0.extBut _ _ cz x))) ⟨oe, hq'.extBut _ _ ez hoe, hce⟩
  · replace hs0 : Heap.SameBut z hp p0 := hs0
    simp only [Bool.false_eq_true, if_false]
    refine wpAny_bind ?_
    rw [← Array.forIn_toList]
    simp only [List.forIn_cons, List.forIn_nil]
    refine wpAny_bind (wpAny_bind (wpAny_holding ?_))
    show wpAny _ _ (Builtin.SmallTypes.nextOf (.ref i1) >>= _) _ _ ⟨p0, gg, dd, tk0, os⟩
    by_cases lt1 : i < n1
    · refine wpAny_bind (D1.item i _ _ _ lt1 (D1.over st1 hs0 S.zf1) fun x1 q1 tk1 hx1 sn1 hq1 => wpAny_pure ?_)
      replace hq1 : Heap.SameBut i1 p0 q1 := hq1
      have hi2 : i = n2 := by omega
      refine wpAny_pure ?_
      refine wpAny_bind (wpAny_bind (wpAny_holding ?_))
      show wpAny _ _ (Builtin.SmallTypes.nextOf (.ref i2) >>= _) _ _ ⟨q1, gg, dd, tk1, os⟩
      refine wpAny_bind (D2.done ⟨q1, gg, dd, tk1, os⟩ _ _ (by rw [← hi2]; exact D2.over (D2.over st2 hs0 S.zf2) hq1 S.sep1_2) fun q e hq he => ?_)
      replace hq : Heap.ExtBut i2 q1 q := hq
      exact hE q tk1 e (fun c o cz cT c1 c2 x => hq _ _ c2 (hq1.extBut _ _ c1 (hs0.extBut _ _ cz x))) he
    · have hi1 : i = n1 := by omega
      refine wpAny_bind (D1.done ⟨p0, gg, dd, tk0, os⟩ _ _ (by rw [← hi1]; exact (D1.over st1 hs0 S.zf1)) fun q e hq he => ?_)
      replace hq : Heap.ExtBut i1 p0 q := hq
      exact hE q tk0 e (fun c o cz cT c1 c2 x => hq _ _ c1 (hs0.extBut _ _ cz x)) he
theorem pyNext_zipN_item {Q : Option Value → Shared → Prop} (S : ZipSep2 z TI TO i1 i2 fp1 fp2) (D1 : Draws prog w A.in1 i1 fp1 n1 P1 St1) (D2 : Draws prog w A.in1 i2 fp2 n2 P2 St2) (hz : s.heap.get? z = some (zO TI TO f g)) (h0 : OldF f)
    (hTI : IsTupOf2 s.heap TI (.ref i1) (.ref i2)) (hTO : IsTupOf2 s.heap TO a1 a2) (st1 : St1 i s.heap) (st2 : St2 i s.heap) (lt1 : i < n1) (lt2 : i < n2)
    (hQ : ∀ x1 x2 h' tk f' g', P1 i x1 → P2 i x2 → h'.get? z = some (zO TI TO f' g') → OldF f' → (∃ b1 b2, IsTupOf2 h' TO b1 b2) → St1 (i + 1) h' → St2 (i + 1) h' → IsTupOf2 h' s.heap.objs.size x1 x2 →
      (∀ c o, c ≠ z → c ≠ TO → c ≠ i1 → c ≠ i2 → s.heap.get? c = some o → h'.get? c = some o) → Q (some (.ref s.heap.objs.size)) { s with heap := h', toks := tk }) : wpAny (model prog w) A (pyNext (.ref z)) Q E s := by
  have ty : s.TypeIs (.ref z) "zip" := ⟨_, hz, rfl⟩
  unfold pyNext
  exact wpAny_bind (wpAny_attempt (wpAny_callSpecial?_slot (name := Str.ofString "__next__") ty F.slot_zip_next (wpAny_call_entry F.slot_zip_next ty F.entry_zip_next
      (zipN_item S D1 D2 hz h0 hTI hTO st1 st2 lt1 lt2 fun x1 x2 h' tk f' g' y1 y2 b1 b2 b3 b4 b5 b6 b7 => wpAny_pure (hQ x1 x2 h' tk f' g' y1 y2 b1 b2 b3 b4 b5 b6 b7)) (F.args_zip_next_1 _))))
theorem pyNext_zipN_end {Q : Option Value → Shared → Prop} (S : ZipSep2 z TI TO i1 i2 fp1 fp2) (D1 : Draws prog w A.in1 i1 fp1 n1 P1 St1) (D2 : Draws prog w A.in1 i2 fp2 n2 P2 St2) (hz : s.heap.get? z = some (zO TI TO f g)) (h0 : OldF f)
    (hTI : IsTupOf2 s.heap TI (.ref i1) (.ref i2)) (hTO : IsTupOf2 s.heap TO a1 a2) (st1 : St1 i s.heap) (st2 : St2 i s.heap) (le1 : i ≤ n1) (le2 : i ≤ n2) (hend : i = n1 ∨ i = n2)
    (hQ : ∀ h' tk, (∀ c o, c ≠ z → c ≠ TO → c ≠ i1 → c ≠ i2 → s.heap.get? c = some o → h'.get? c = some o) → Q none { s with heap := h', toks := tk }) : wpAny (model prog w) A (pyNext (.ref z)) Q E s := by
  have ty : s.TypeIs (.ref z) "zip" := ⟨_, hz, rfl⟩
  unfold pyNext
  refine wpAny_bind (wpAny_attempt (wpAny_callSpecial?_slot (name := Str.ofString "__next__") ty F.slot_zip_next (wpAny_call_entry F.slot_zip_next ty F.entry_zip_next
      (zipN_end S D1 D2 hz h0 hTI hTO st1 st2 le1 le2 hend fun h' tk e hk he => ?_) (F.args_zip_next_1 _))))
  obtain ⟨oo, ho, hc⟩ := he
  exact wpAny_bind (wpAny_isInstance (T := "StopIteration") (b := true) ⟨oo, ho, hc⟩ isSubtype_stop (wpAny_pure (hQ _ _ hk)))
end
end
/-! ### the turns -/
theorem seqB_ok {X : Cx} {t : Bool} {pins : List (Addr × Obj)} {σ : L2.St} {H : Hp} {s : Shared} {a : Addr} {xs : List V} (I : Inv X pins σ H s) (h : SqB t X.K H a xs) : ∃ its : List Value, Vals xs its ∧ SeqIs t s.heap a its.toArray ∧ a < s.heap.objs.size := by
  cases t
  · obtain ⟨its, rv, p, _⟩ := I.list h
    exact ⟨its, rv, p.isList, p.lt⟩
  · obtain ⟨its, rv, p, _⟩ := I.tuple h
    obtain ⟨o, ho, _⟩ := id p
    exact ⟨its, rv, p, Heap.lt_size ho⟩
theorem seqB_inj {X : Cx} {t : Bool} {pins : List (Addr × Obj)} {σ : L2.St} {H : Hp} {s : Shared} {a : Addr} {xs ys : List V} (I : Inv X pins σ H s) (h : SqB t X.K H a xs) (h' : SqB t X.K H a ys) : xs = ys := by
  cases t
  · exact I.list_inj h h'
  · exact I.tuple_inj h h'
theorem iterIs_obj {t : Bool} {h : Heap} {i a : Addr} {k : Nat} (e : IterIs t h i a k) : ∃ o, h.get? i = some o ∧ ∀ v, o.data ≠ .cell v := by
  cases t
  · obtain ⟨o, h1, _, h2⟩ := e
    exact ⟨o, h1, fun v q => by rw [h2] at q; cases q⟩
  · obtain ⟨o, h1, _, h2⟩ := e
    exact ⟨o, h1, fun v q => by rw [h2] at q; cases q⟩
theorem iterIs_at {t : Bool} {h h' : Heap} {i a : Addr} {k : Nat} (e : IterIs t h i a k) (st : ∀ o, h.get? i = some o → h'.get? i = some o) : IterIs t h' i a k := by
  cases t
  · exact Heap.IsListIter.at e st
  · exact Heap.IsTupleIter.at e st
def ItzB (t u : Bool) (K : PySem.W.Frag) (a b : Addr) : L2.It :=
  ⟨fun i H => ∃ (xs ys : List V) (x y : V), SqB t K H a xs ∧ SqB u K H b ys ∧ xs[i]? = some x ∧ ys[i]? = some y,
    fun i H v H' => ∃ T x y, v = .ref T ∧ H T = none ∧ H' = upd H T (.tup [x, y]) ∧ (∀ xs, SqB t K H a xs → xs[i]? = some x) ∧ ∀ ys, SqB u K H b ys → ys[i]? = some y,
    fun i H => ∃ xs ys : List V, SqB t K H a xs ∧ SqB u K H b ys ∧ i ≤ xs.length ∧ i ≤ ys.length ∧ (i = xs.length ∨ i = ys.length)⟩
/-- behind the turn of a zip: its target lets the tuple go, or keeps it -/
def isTT : Expr → Bool
  | .Tuple .. => true
  | .Name .. => false
  | _ => false
def okT : Expr → Bool
  | .Tuple .. => true
  | .Name .. => true
  | _ => false
theorem letGo_any {prog : Program} {w : World} {A : Around} {E : Value → Shared → Prop} {s : Shared} {tg : Expr} (ht : okT tg = true) {z TI TO T : Addr} {f g : Value} {Q : Unit → Shared → Prop} (hz : s.heap.get? z = some (zO TI TO f g)) (h0 : OldF f)
    (hQ : ∀ h' f', h'.get? z = some (zO TI TO f' g) → OldF f' → Heap.SameBut z s.heap h' → Q () { s with heap := h' }) : wpAny (model prog w) A (letOwnedTupleGo tg (.ref z) (.ref T)) Q E s := by
  cases tg with
  | Name x p =>
    unfold letOwnedTupleGo
    exact wpAny_pure (hQ _ _ hz h0 (Heap.SameBut.refl _ _))
  | Tuple elts x1 pos =>
    unfold letOwnedTupleGo
    refine wpAny_bind (wpAny_load hz ?_)
    by_cases c : (["enumerate", "zip", "dict_itemiterator", "dict_reverseitemiterator", "odict_iterator", "itertools.zip_longest", "itertools.pairwise"].contains "zip" && (#[f, g, .bool false, .ref TI, .ref TO] : Array Value)[0]? == some (rawInt T)) = true
    · show wpAny _ _ (if _ then _ else _) Q E s
      rw [if_pos c]
      refine wpAny_bind (wpAny_rule ?_)
      show wpAny _ _ (setField (.ref z) 0 .none) Q E s
      exact wpAny_setField_rec hz (by simp) fun h' hz' hs' => hQ h' _ hz' (.inl rfl) hs'
    · show wpAny _ _ (if _ then _ else _) Q E s
      rw [if_neg c]
      exact wpAny_pure (hQ _ _ hz h0 (Heap.SameBut.refl _ _))
  | _ => cases ht
theorem turn_zipB {P : Program} {w : World} {K : PySem.W.Frag} {tg : Expr} (ht : okT tg = true) {t u : Bool} {a b z TI TO i1 i2 : Addr} (D : ZipApart z TI TO i1 i2 a b) :
    Turn P w K tg (ItzB t u K a b) [z, TI, TO, i1, i2] z (fun i h => (∃ f g, h.get? z = some (zO TI TO f g) ∧ OldF f) ∧ IsPair h TI (.ref i1) (.ref i2) ∧ (∃ x y, IsPair h TO x y) ∧ IterIs t h i1 a i ∧ IterIs u h i2 b i) where
  mem := by simp
  obj := fun i h st c hc => by
    obtain ⟨⟨f, g, hz, _⟩, hTI, ⟨x, y, hTO⟩, h1, h2⟩ := st
    have e' : c = z ∨ c = TI ∨ c = TO ∨ c = i1 ∨ c = i2 := by simpa using hc
    rcases e' with q | q | q | q | q
    · rw [q]; exact ⟨_, hz, fun v q => nomatch q⟩
    · rw [q]; exact ⟨_, hTI, fun v q => nomatch q⟩
    · rw [q]; exact ⟨_, hTO, fun v q => nomatch q⟩
    · rw [q]; exact iterIs_obj h1
    · rw [q]; exact iterIs_obj h2
  keep := fun i h h' st k => by
    obtain ⟨⟨f, g, hz, h0⟩, hTI, ⟨x, y, hTO⟩, h1, h2⟩ := st
    exact ⟨⟨f, g, k z (by simp) _ hz, h0⟩, k TI (by simp) _ hTI, ⟨x, y, k TO (by simp) _ hTO⟩, iterIs_at h1 fun o q => k i1 (by simp) o q, iterIs_at h2 fun o q => k i2 (by simp) o q⟩
  item := by
    intro X hP hw hK hc i pins s σ H E I hf st hg
    subst hP hw hK
    obtain ⟨⟨f, g, hz, h0⟩, hTI, ⟨x0, y0, hTO⟩, h1, h2⟩ := st
    obtain ⟨xs, ys, x, y, hqx, hqy, hx, hy⟩ := hg
    obtain ⟨its, rv, p, _⟩ := seqB_ok I hqx
    obtain ⟨its2, rv2, p2, _⟩ := seqB_ok I hqy
    obtain ⟨v1, hv1, ru⟩ := rv.get hx
    obtain ⟨v2, hv2, ru2⟩ := rv2.get hy
    have lt : ∀ {c o}, s.heap.get? c = some o → c < s.heap.objs.size := fun e => Heap.lt_size e
    have zl : z < s.heap.objs.size := lt hz
    have g1 : i < its.toArray.size := by rw [List.size_toArray]; exact (List.getElem?_eq_some_iff.mp hv1).1
    have g2 : i < its2.toArray.size := by rw [List.size_toArray]; exact (List.getElem?_eq_some_iff.mp hv2).1
    refine pyNext_zipN_item (sep_of D) (draws_B (A := X.A.in1) (I.ok.hd hc) t i1 a D.l1i1 its.toArray) (draws_B (A := X.A.in1) (I.ok.hd hc) u i2 b D.l2i2 its2.toArray) hz h0 hTI hTO ⟨h1, p⟩ ⟨h2, p2⟩ g1 g2 fun w1 w2 h' tk f' g' hw1 hw2 z' h0' TO' j1 j2 hT hk => ?_
    have e1 : w1 = v1 := by
      have : its.toArray[i]? = some v1 := by simpa using hv1
      rw [this] at hw1
      exact (Option.some.inj hw1).symm
    have e2 : w2 = v2 := by
      have : its2.toArray[i]? = some v2 := by simpa using hv2
      rw [this] at hw2
      exact (Option.some.inj hw2).symm
    subst e1 e2
    refine ⟨_, rfl, letGo_any (s := { s with heap := h', toks := tk }) ht z' h0' fun h'' f'' z'' h0'' sb => ?_⟩
    have T2 : h''.get? s.heap.objs.size = some { cls := .type "tuple", data := .seq #[w1, w2] } := (sb.2 _ (Nat.ne_of_gt zl)).trans hT
    have new : ObjOk X.prog X.w (upd H s.heap.objs.size (.tup [x, y])) h'' s.heap.objs.size (.tup [x, y]) := ⟨by show 2 ≤ sizeLine; decide, [w1, w2], .cons ru (.cons ru2 .nil), ⟨_, T2, rfl, _, rfl⟩⟩
    have I1 : Inv X pins σ (upd H s.heap.objs.size (.tup [x, y])) { s with heap := h'', toks := tk } :=
      I.turnedNew (ch := [z, TI, TO, i1, i2]) (fun c o hb q => (sb.2 c (fun q' => hb (by simp [q']))).trans (hk c o (fun q' => hb (by simp [q'])) (fun q' => hb (by simp [q'])) (fun q' => hb (by simp [q'])) (fun q' => hb (by simp [q'])) q)) hf (Nat.le_refl _) new
    obtain ⟨b1, b2, TO'⟩ := TO'
    refine ⟨.ref s.heap.objs.size, _, I1, rfl, ⟨_, x, y, rfl, I.hok.fresh (Nat.le_refl _), rfl, fun l hl => by rw [seqB_inj I hl hqx]; exact hx, fun l hl => by rw [seqB_inj I hl hqy]; exact hy⟩, ⟨⟨f'', g', z'', h0''⟩, ?_, ⟨b1, b2, ?_⟩, ?_, ?_⟩, fun c hcm => ?_⟩
    · exact (sb.2 _ D.TIz).trans (hk _ _ D.TIz D.TITO D.TIi1 D.TIi2 hTI)
    · exact (sb.2 _ D.TOz).trans TO'
    · exact iterIs_at j1.1 fun o q => (sb.2 _ D.i1z).trans q
    · exact iterIs_at j2.1 fun o q => (sb.2 _ D.i2z).trans q
    · have hlt : c < s.heap.objs.size := by
        have e' : c = z ∨ c = TI ∨ c = TO ∨ c = i1 ∨ c = i2 := by simpa using hcm
        rcases e' with q | q | q | q | q
        · rw [q]; exact zl
        · rw [q]; exact lt hTI
        · rw [q]; exact lt hTO
        · rw [q]; obtain ⟨_, e, _⟩ := iterIs_obj h1; exact lt e
        · rw [q]; obtain ⟨_, e, _⟩ := iterIs_obj h2; exact lt e
      rw [upd_ne (Nat.ne_of_lt hlt)]
      exact (hf c hcm).1
  done := by
    intro X hP hw hK hc i pins s σ H E I hf st hg
    subst hP hw hK
    obtain ⟨⟨f, g, hz, h0⟩, hTI, ⟨x0, y0, hTO⟩, h1, h2⟩ := st
    obtain ⟨xs, ys, hqx, hqy, l1, l2, hend⟩ := hg
    obtain ⟨its, rv, p, _⟩ := seqB_ok I hqx
    obtain ⟨its2, rv2, p2, _⟩ := seqB_ok I hqy
    have n1 := rv.length
    have n2 := rv2.length
    exact pyNext_zipN_end (sep_of D) (draws_B (A := X.A.in1) (I.ok.hd hc) t i1 a D.l1i1 its.toArray) (draws_B (A := X.A.in1) (I.ok.hd hc) u i2 b D.l2i2 its2.toArray) hz h0 hTI hTO ⟨h1, p⟩ ⟨h2, p2⟩ (by rw [List.size_toArray]; omega) (by rw [List.size_toArray]; omega) (by rw [List.size_toArray, List.size_toArray]; omega) fun h' tk hk =>
      ⟨rfl, I.turnedL (ch := [z, TI, TO, i1, i2]) (fun c o hb q => hk c o (fun q' => hb (by simp [q'])) (fun q' => hb (by simp [q'])) (fun q' => hb (by simp [q'])) (fun q' => hb (by simp [q'])) q) hf⟩
  self := fun A i s Q E st h => by
    obtain ⟨⟨f, g, hz, _⟩, _⟩ := st
    have ty : s.TypeIs (.ref z) "zip" := ⟨_, hz, rfl⟩
    refine wpAny_pyIter_slot ty F.slot_zip_iter (wpAny_call_entry F.slot_zip_iter ty F.entry_zip_iter ?_ (F.args_zip_iter_1 _))
    show wpAny _ _ (ret (.ref z)) _ _ s
    exact wpAny_pure ⟨_, rfl, "zip", _, ty, F.slot_zip_next.lookup, h⟩
def iZipB (K : PySem.W.Frag) (ta : TA) : TI := fun σ H R => ta σ H fun vs H1 => ∃ a b xs ys t u, vs = [.ref a, .ref b] ∧ SqB t K H1 a xs ∧ SqB u K H1 b ys ∧ R (ItzB t u K a b) H1
theorem pi_zipB {X : Cx} {e e2 : Expr} {ta : TA} {p pos : Pos} {tg : Expr} (ht : okT tg = true) (hg : Gl X "zip") (hm : X.mg "zip" = none) (ha : PA X [e, e2] ta)
    (hs : starEach [e, e2] X.env = (false, eval e X.env) :: starEach [e2] X.env := by rfl) (hpl : (backTo pos (starEach [e2] X.env)).any (·.1) = false := by rfl) : PI X tg (.Call (.Name "zip" p) [e, e2] [] pos) (iZipB X.K ta) := by
  refine ⟨fun pins s σ H R I h => ?_⟩
  refine Call_ (ld_blt I hg hm PyProof.Rows.boot_zip (PyProof.Rows.callWith_type1 (thn (ha.run pos pins s σ H _ I h) fun us s1 ⟨vs, H1, I1, r1, q1⟩ => ?_) hs hpl))
  obtain ⟨a, b, xs, ys, t, u, ex, hqx, hqy, q⟩ := q1
  subst ex
  cases r1 with
  | cons r rr =>
    cases rr with
    | cons r' rr =>
      cases rr
      cases r
      cases r'
      have fresh5 : ∀ c, c ∈ [s1.heap.objs.size + 4, s1.heap.objs.size + 2, s1.heap.objs.size + 3, s1.heap.objs.size, s1.heap.objs.size + 1] → FpOk X pins H1 c := fun c hcm => by
        have e' : c = s1.heap.objs.size + 4 ∨ c = s1.heap.objs.size + 2 ∨ c = s1.heap.objs.size + 3 ∨ c = s1.heap.objs.size ∨ c = s1.heap.objs.size + 1 := by simpa using hcm
        have le : s1.heap.objs.size ≤ c := by
          rcases e' with z | z | z | z | z
          · rw [z]; exact Nat.le_add_right _ _
          · rw [z]; exact Nat.le_add_right _ _
          · rw [z]; exact Nat.le_add_right _ _
          · rw [z]; exact Nat.le_refl _
          · rw [z]; exact Nat.le_add_right _ _
        exact I1.fpOk le (I1.hok.fresh le)
      obtain ⟨its, rv, p1, lt1⟩ := seqB_ok I1 hqx
      obtain ⟨its2, rv2, p2, lt2⟩ := seqB_ok I1 hqy
      refine call_zipB p1 p2 fun h' hz hTI hTO h1 h2 hk => wpAny_pyIter_zip hz ?_
      have I2 : Inv X pins σ H1 { s1 with heap := h' } := I1.kept (t' := s1.toks) hk
      exact ⟨s1.heap.objs.size + 4, [s1.heap.objs.size + 4, s1.heap.objs.size + 2, s1.heap.objs.size + 3, s1.heap.objs.size, s1.heap.objs.size + 1], _, _, H1, rfl, I2, turn_zipB ht (PySem.W.ktu_apart s1.heap.objs.size a b lt1 lt2), ⟨⟨_, _, hz, .inl rfl⟩, hTI, ⟨_, _, hTO⟩, h1, h2⟩, fresh5, q⟩
end Dn

set_option Elab.async false
set_option linter.all false
set_option maxRecDepth 100000
set_option maxHeartbeats 4000000
/-! Dn, part R3: t * 1. -/
namespace Dn
open PySem PySem.Spec PyProof.Rows L2
theorem tuple_mul1 (l : Addr) (its : Array Value) (n : Nat) (dd : Option Addr) (sl : Array (Option Value)) (u : Tok) :
    Meets (Builtin.«tuple.__mul__» ⟨[.ref l, .int 1 u], []⟩) (fun _ R s => s.heap.get? l = some { cls := .type "tuple", dict := dd, data := .seq its n, slots := sl } ∧ R (.ok (.ret (Value.ref l))) s) :=
  .of_wp fun prog w A R s h => by
    obtain ⟨hp, g, d, tk, os⟩ := s
    obtain ⟨hl, h⟩ := h
    have f1 := AutoSeq1.idx_int
    have c0 : (decide ((1 : Int) < -(2 ^ 63)) || decide ((1 : Int) ≥ 2 ^ 63)) = false := by decide
    wp_walk using wpAny_loadPart' hl
    repeat (first
      | (refine wpAny_ite_false (decide_eq_false (by rw [c0]; exact Bool.false_ne_true)) ?_; wp_walk using wpAny_loadPart' hl)
      | (refine wpAny_ite_true (by simp) ?_; wp_walk using wpAny_loadPart' hl))
    exact ⟨_, rfl, h⟩
def rRep1 (K : PySem.W.Frag) : R2 := fun x y H Q => ∃ l xs, x = .ref l ∧ y = .int 1 ∧ SqT K H l xs ∧ Q (.ref l) H
theorem op_rep1 {X : Cx} : OpR X (binaryOp .Mult) (rRep1 X.K) := by
  intro pins s σ H x y v u Q I rx ry h
  obtain ⟨l, xs, rfl, rfl, hT, q⟩ := h
  cases rx
  obtain ⟨t, rfl⟩ := ry
  obtain ⟨its, r, ⟨⟨cls, dd, data, sl⟩, ho, hc, n, hd⟩, hs⟩ := I.tuple hT
  simp only at hc hd
  subst hc hd
  refine wpAny_binaryOp_repeat_ref (T := "tuple") (U := "int") (by decide) ⟨_, ho, rfl⟩ (fun s' => typeIs_int s' 1 t) noFill_tuple_mul F.fills_int_mul F.slot_int_rmul repeat_tuple F.slot_int_index.lookup
    (call_meets F.slot_int_rmul (typeIs_int s 1 t) F.entry_int_rmul (F.args_int_rmul_2 _ _) (int_rmul_tuple 1 t l its.toArray n dd sl)
      ⟨ho, rfl, ⟨_, ho, rfl⟩, call_meets F.slot_tuple_mul ⟨_, ho, rfl⟩ F.entry_tuple_mul (F.args_tuple_mul_2 _ _) (tuple_mul1 l its.toArray n dd sl t) ⟨ho, ?_⟩⟩)
  exact ⟨.ref l, H, I, rfl, q⟩
end Dn

set_option Elab.async false
set_option linter.all false
set_option maxRecDepth 100000
set_option maxHeartbeats 4000000
/-! Dn, part V: the law's own function, entered by the judge's caller alone (so nothing is being shown: guards = some []). -/
namespace Dn
open PySem PySem.Spec PyProof.Rows L2
/-- f, entered from the caller -/
def RunC (P : Program) (w : World) (K : PySem.W.Frag) (mg : Str → Option Value) (base : Heap) (CX : CXT) (f : Addr) (fd : FuncData) (ps : List Str) (sp : Sp) : Prop :=
  ∀ (outer : List PySem.Env) (s : Shared) (H : Hp) (args : Args) (us : List Value) (vs : List V) (Q : VK) (E : XK), Env0 P w K mg base callerA outer s H → BindsTo s fd args (ps.zip us) → Vals vs us → sp vs H Q E →
    codeAny (model P w) callerA (.call (.ref f) args) (CR CX outer P w H s Q E) s
theorem caller_guards (env : PySem.Env) : (callerA.deeper env).guards = some [] := rfl
section
variable {P : Program} {w : World} {K : PySem.W.Frag} {mg : Str → Option Value} {base : Heap} {CX : CXT} {k : Nat} {f : Addr} {x qual : Str} {params : Arguments} {body : List Stmt} {scope : Scope} {dvs : List V} {kws : List (Str × V)} {fd : FuncData} {N ps : List Str} {sp : Sp}
/-- a def by its body, the body read around the caller alone -/
theorem runC_of (F : FunD K x qual params body scope [] [] f fd) (S : FnScope N ps scope) (hr : Room (k + 1) callerA) (len : ∀ vs H Q E, sp vs H Q E → vs.length = ps.length)
    (hbody : ∀ (cdv : Value) (outer : List PySem.Env) (s : Shared) (H : Hp) (vs : List V) (Q : VK) (E : XK), Room k (callerA.deeper (envOfC qual scope s.heap.objs.size f cdv)) → sp vs H Q E →
      ∃ t, PSs (cxOf CX P w K mg base N qual scope f cdv callerA outer s H E) body t ∧ t { nx := fun _ H' => Q .non H', rt := Q } (L2.start N vs) H) : RunC P w K mg base CX f fd ps sp := by
  obtain ⟨oc, od, dV, kV, doc, pm, an, cdv, ct, osl, rfl, lk, hcd, _, _⟩ := F.ex
  intro outer s H args us vs Q E e0 hb r hsp
  have KX : K.In s.heap := e0.mod.kin.keeps fun b o e => (e0.bs b o e).1
  have par : ∀ y ∈ ps.zip us, scope.names.lookup y.1 = some .local ∨ (scope.names.lookup y.1 = some .cell ∧ ((cellsFrom (s.heap.objs.size + 1) scope.names []).lookup y.1).isSome = true) := fun y hy => by
    rcases S.par y.1 (List.of_mem_zip hy).1 with q | q
    · exact .inl q
    · exact .inr ⟨q, PySem.W.cellsFrom_some _ _ _ (.inl q)⟩
  refine codeAny_call_function hr.depth (KX _ _ lk) rfl S.co S.gen rfl (PySem.W.codeRec_of KX hcd) (hb _ _ _ _ (wpAny_newFunctionEnv_cells S.kind par fun env he s1 z => ?_))
  subst he
  refine ⟨(e0.mod.nolimit.keeps fun b o e => (e0.bs b o e).1).keeps z.toInCall.keep, codeAny_func ?_⟩
  obtain ⟨t, ht, hq⟩ := hbody cdv outer s H vs Q E (hr.deeper _) hsp
  refine wpAny_mono (ht.run [] s1 (L2.start N vs) H _ (inv_start S hr.hd e0 (len _ _ _ _ hsp) r z) hq) (fun fl s' hs => ?_) fun e s' hs => hs
  cases fl with
  | ret u =>
    obtain ⟨v, σ', H', J, rv, q⟩ := hs
    exact ⟨v, H', J.os, J.bare, J.base, J.hok, rv, q⟩
  | next =>
    obtain ⟨σ', H', J, q⟩ := hs
    exact ⟨.non, H', J.os, J.bare, J.base, J.hok, rfl, q⟩
  | brk => obtain ⟨_, _, _, q⟩ := hs; exact False.elim q
  | cont => obtain ⟨_, _, _, q⟩ := hs; exact False.elim q
end
section
variable {P : Program} {w : World} {K : PySem.W.Frag} {h : Heap} {a : Addr} {vs : List Value} {ns : List Int}
/-- what stands at the beginning: the script's list, if the module does not own it -/
theorem script_hp (KX : K.In h) (ha : h.get? a = some { cls := .type "list", data := .seq vs.toArray }) (hi : IntsAre vs ns) (hl : ns.length ≤ sizeLine) :
    ∃ H : Hp, Only H ∧ SqL K H a (ns.map V.int) ∧ HOk P w H h ∧ ∀ b, H b ≠ none → b = a ∧ K.lookup a = none := by
  have rv := vals_ints hi
  cases hk : K.lookup a with
  | some o =>
    have e := KX a o hk
    rw [ha] at e
    cases e
    exact ⟨fun _ => none, fun _ => .inl rfl, .inr ⟨_, vs.toArray, _, hk, rfl, rfl, rfl, by rw [List.size_toArray, hi.length]; exact hl, by simpa using rv⟩, fun b u z => (nomatch (show (none : Option HO) = some u from z)), fun b z => (z rfl).elim⟩
  | none =>
    have at_ : ∀ b u, (if b = a then some (HO.frz { cls := .type "list", data := .seq vs.toArray } (.lst (ns.map V.int))) else none) = some u → b = a ∧ u = HO.frz { cls := .type "list", data := .seq vs.toArray } (.lst (ns.map V.int)) := fun b u z => by
      by_cases hb : b = a
      · rw [if_pos hb] at z; exact ⟨hb, (Option.some.inj z).symm⟩
      · rw [if_neg hb] at z; cases z
    refine ⟨fun b => if b = a then some (.frz { cls := .type "list", data := .seq vs.toArray } (.lst (ns.map V.int))) else none, fun b => ?_, .inl (.inr ⟨_, if_pos rfl⟩), fun b u z => ?_, fun b z => ⟨?_, rfl⟩⟩
    · show (if b = a then _ else _) = none ∨ _
      by_cases hb : b = a
      · exact .inr ⟨_, _, if_pos hb⟩
      · exact .inl (if_neg hb)
    · obtain ⟨rfl, rfl⟩ := at_ b u z
      exact ⟨ha, by rw [List.length_map]; exact hl, vs, _, rv, ha⟩
    · exact Decidable.byContradiction fun hb => z (if_neg hb)
variable {mg mb : Str → Option Value} {CX : CXT} {fa : Addr} {fd : FuncData} {x : Str} {sp : Sp} {s₁ : Shared}
theorem law_callC (KX : K.In s₁.heap) (hns : s₁.heap.Ns mainGlobals mg) (hb : s₁.heap.Ns builtinsNs mb) (hbb : ∀ x : Str, x ≠ "__name__" → mb x = bootBuiltins x) (hlim : s₁.heap.NoLimit) (hg : s₁.gens = #[])
    (ha : s₁.heap.get? a = some { cls := .type "list", data := .seq vs.toArray }) (hi : IntsAre vs ns) (hl : ns.length ≤ sizeLine)
    (F : ∀ base : Heap, K.In base → base.Ns mainGlobals mg → RunC P w K mg base CX fa fd [x] sp) (hbind : ∀ (s : Shared) (u : Value), BindsTo s fd ⟨[u], []⟩ [(x, u)])
    (hsp : ∀ H : Hp, Only H → SqL K H a (ns.map V.int) → sp [.ref a] H (fun v _ => v = .bl true) fun _ _ _ => False)
    (hCX : ∀ H e s', CX [] H s₁ (fun _ _ _ => False) e s' → False) :
    codeAny (model P w) callerA (.call (.ref fa) ⟨[.ref a], []⟩) (fun r s' => r = .ok (.ret (.bool true)) ∧ OldK s₁.heap s'.heap ∧ s'.os = s₁.os ∧ AllBare s'.gens) s₁ := by
  obtain ⟨H, hO, hS, hok, own⟩ := script_hp (P := P) (w := w) KX ha hi hl
  -- what is not the script's list stands in the hidden heap as it was
  have stay : ∀ {b : Addr} {o : Obj}, s₁.heap.get? b = some o → (b = a → K.lookup a ≠ none ∨ ∃ es ep, o.data = .dict es ep) → (hidT s₁.heap H).get? b = some o := fun {b o} e no => hidT_get e (by
    cases q : H b with
    | none => rfl
    | some u =>
      obtain ⟨rfl, kn⟩ := own b (by rw [q]; simp)
      rcases no rfl with z | ⟨es, ep, z⟩
      · exact (z kn).elim
      · rw [ha] at e
        cases e
        cases (show Data.seq vs.toArray _ = Data.dict es ep from z))
  have nsK : ∀ {b : Addr} {m : Str → Option Value}, s₁.heap.Ns b m → (hidT s₁.heap H).Ns b m := fun {b m} ⟨o, es, ep, e, d, r⟩ => ⟨o, es, ep, stay e fun _ => .inr ⟨es, ep, d⟩, d, r⟩
  have hKb : K.In (hidT s₁.heap H) := fun b o e => stay (KX b o e) fun z => .inl (by rw [← z, e]; simp)
  have e0 : Env0 P w K mg (hidT s₁.heap H) callerA [] s₁ H :=
    ⟨rfl, ⟨hKb, nsK hns, ⟨mb, nsK hb, hbb⟩, let ⟨mc, h1, h2⟩ := hlim; ⟨mc, nsK h1, h2⟩⟩, fun b o e => of_hidT e, Nat.le_of_eq (hidT_size _ _), trivial, fun b hb => absurd (show b ∈ ([] : List Addr) from hb) (by simp), hok, .of_eq hg⟩
  refine codeAny_mono (F _ hKb (nsK hns) [] s₁ H ⟨[.ref a], []⟩ [.ref a] [.ref a] _ _ e0 (hbind s₁ (.ref a)) (.cons rfl .nil) (hsp H hO hS)) fun r s' z => ?_
  cases r with
  | error e => exact (hCX H e s' z).elim
  | ok fl =>
    cases fl with
    | ret u =>
      obtain ⟨v, H', os, bare, un, hok', rv, q⟩ := z
      cases (show v = .bl true from q)
      cases (show u = Value.bool true from rv)
      refine ⟨rfl, OldK.of_keep fun b o e => ?_, os, bare⟩
      rcases hO b with n | ⟨ob, xs, f⟩
      · exact un.keep b o e n (fun z => absurd (show b ∈ ([] : List Addr) from z) (by simp)) (by simp)
      · have e1 := (hok b _ f).1
        rw [e] at e1
        cases e1
        exact (hok' b _ (un.frzs b _ _ f)).1
    | _ => exact False.elim z
end
theorem walk_ofC {l : PySem.W.OpenLaw} {n : Nat} {q : Program} {loose : List Str} {XP : (Str → Option Value) → Heap → Prop} {YP : World → Heap → Prop} {d : DefRec} {CX : CXT} {x : Str} (hn : l.most = some n) (hn2 : n ≤ sizeLine) (hdf : d.params.defaults = [])
    (F : ∀ (w : World) (mg : Str → Option Value) (fa : Addr) (h : Heap), YP w h → h.Ns mainGlobals mg → mg d.name = some (.ref fa) →
      ∃ (K : PySem.W.Frag) (fd : FuncData) (sp : Sp), K.In h ∧ (∀ (s : Shared) (u : Value), BindsTo s fd ⟨[u], []⟩ [(x, u)]) ∧
        (∀ (H : Hp) (a : Addr) (ns : List Int), ns.length ≤ n → Only H → SqL K H a (ns.map V.int) → sp [.ref a] H (fun v _ => v = .bl true) fun _ _ _ => False) ∧
        ∀ base : Heap, K.In base → base.Ns mainGlobals mg → RunC l.prog w K mg base CX fa fd [x] sp)
    (hCX : ∀ (H : Hp) (s : Shared) (e : Value) (s' : Shared), CX [] H s (fun _ _ _ => False) e s' → False) : PySem.W.WalkO q loose XP YP l.row.toRowW d [] (fun f vs => PySem.call f vs) := by
  refine Att.attach_call hn hdf fun w s₀ s₁ mg mb fa o pm cd doc a vs ns G Y ho hd hcd hmg hobj hints hlen hg => ?_
  obtain ⟨K, fd, sp, KX, hb, hsp, hF⟩ := F w mg fa _ Y G.T.g hmg
  exact law_callC KX G.T.g G.T.b G.T.builtins G.T.nolimit hg hobj hints (Nat.le_trans hlen hn2) hF hb (fun H hO hS => hsp H a ns hlen hO hS) fun H e s' => hCX H s₁ e s'
end Dn

set_option Elab.async false
set_option linter.all false
set_option maxRecDepth 100000
/-! Dn, part A: data by value over the abstract heap; what a state owns. -/
namespace Dn
open PySem PySem.Spec PyProof.Rows L2

abbrev D := PyData
/-- what a slot may own besides a list: a dict (t: its keys are tuples); k, kt: a dict that is never written, its object told -/
inductive OV where
  | m (t : Bool) (kvs : List (D × D))
  | k (kvs : List (D × D)) (o : Obj) (ks : List (Key × V))
  | kt (kvs : List (D × D)) (o : Obj) (ks : List (List Key × V))
  /-- a def of the module, by its name -/
  | fn (x : Str)
/-- a slot's value: data (never written), a list of the slot's own, another thing of its own -/
inductive SV where
  | d (x : D)
  | l (xs : List D)
  | ow (w : OV)
/-- a dict's key, as data -/
def kyD : Key → D
  | .inl n => .int n
  | .inr x => .str x

mutual
def noD : D → Bool
  | .dict _ => false
  | .list xs => noDs xs
  | .tuple xs => noDs xs
  | .none => true
  | .bool _ => true
  | .int _ => true
  | .str _ => true
def noDs : List D → Bool
  | [] => true
  | x :: xs => noD x && noDs xs
end
mutual
theorem noD_lay : ∀ x : D, PyData.canLay0 x = true → noD x = true
  | .none, _ => rfl
  | .bool _, _ => rfl
  | .int _, _ => rfl
  | .str _, _ => rfl
  | .list xs, h => by
    unfold noD
    exact noDs_lay xs (by simpa [PyData.canLay0] using h)
  | .tuple xs, h => by
    unfold noD
    exact noDs_lay xs (by simpa [PyData.canLay0] using h)
  | .dict _, h => by simp [PyData.canLay0] at h
theorem noDs_lay : ∀ xs : List D, PyData.canLayAll0 xs = true → noDs xs = true
  | [], _ => rfl
  | x :: xs, h => by
    have h' : PyData.canLay0 x = true ∧ PyData.canLayAll0 xs = true := by simpa [PyData.canLayAll0] using h
    unfold noDs
    rw [noD_lay x h'.1, noDs_lay xs h'.2]
    rfl
end
def SqZ (K : PySem.W.Frag) (H : Hp) (a : Addr) (xs : List V) : Prop :=
  (∃ o, H a = some (.frz o (.lst xs))) ∨
    ∃ (o : Obj) (its : Array Value) (n : Nat), K.lookup a = some o ∧ o.cls = .type "list" ∧ o.dict = none ∧ o.data = .seq its n ∧ its.size ≤ sizeLine ∧ Vals xs its.toList
/-- texts alone, one at least (a tuple of these may be written in the module's top) -/
def isStrD : D → Bool
  | .str _ => true
  | _ => false
def strsD (ds : List D) : Bool := !ds.isEmpty && ds.all isStrD
mutual
/-- a value that stands for data -/
inductive Rp (K : PySem.W.Frag) (H : Hp) : D → V → Prop
  | non : Rp K H .none .non
  | bl (b : Bool) : Rp K H (.bool b) (.bl b)
  | int (i : Int) : Rp K H (.int i) (.int i)
  | str (x : Str) : Rp K H (.str x) (.str x)
  | lst {a : Addr} {xs : List V} {ds : List D} : SqZ K H a xs → RpAll K H ds xs → Rp K H (.list ds) (.ref a)
  | tupS {a : Addr} {xs : List V} {ds : List D} : SqT K H a xs → RpAll K H ds xs → (H a = some (.tup xs) ∨ strsD ds = true) → Rp K H (.tuple ds) (.ref a)
  /-- a dict that is never written -/
  | dctK {a : Addr} {o : Obj} {kvs : List (D × D)} {ks : List (Key × V)} : H a = some (.frz o (.dK ks)) → RpKs K H kvs ks → Rp K H (.dict kvs) (.ref a)
  /-- .. with tuples as keys -/
  | dctT {a : Addr} {o : Obj} {kvs : List (D × D)} {ks : List (List Key × V)} : H a = some (.frz o (.dT ks)) → RpTs K H kvs ks → Rp K H (.dict ((.none, .none) :: kvs)) (.ref a)
inductive RpAll (K : PySem.W.Frag) (H : Hp) : List D → List V → Prop
  | nil : RpAll K H [] []
  | cons {v : V} {vs : List V} {d : D} {ds : List D} : Rp K H d v → RpAll K H ds vs → RpAll K H (d :: ds) (v :: vs)
inductive RpKs (K : PySem.W.Frag) (H : Hp) : List (D × D) → List (Key × V) → Prop
  | nil : RpKs K H [] []
  | cons {k : Key} {v : V} {ks : List (Key × V)} {d : D} {kvs : List (D × D)} : Rp K H d v → RpKs K H kvs ks → RpKs K H ((kyD k, d) :: kvs) ((k, v) :: ks)
inductive RpTs (K : PySem.W.Frag) (H : Hp) : List (D × D) → List (List Key × V) → Prop
  | nil : RpTs K H [] []
  | cons {k : List Key} {v : V} {ks : List (List Key × V)} {d : D} {kvs : List (D × D)} : Rp K H d v → RpTs K H kvs ks → RpTs K H ((.tuple (k.map kyD), d) :: kvs) ((k, v) :: ks)
end
theorem Rp.tup {K : PySem.W.Frag} {H : Hp} {a : Addr} {xs : List V} {ds : List D} (h : H a = some (.tup xs)) (r : RpAll K H ds xs) : Rp K H (.tuple ds) (.ref a) := .tupS (.inl (.inl h)) r (.inl h)
/-- what can't be written is as it was -/
def NM (H H' : Hp) : Prop := ∀ b o, H b = some o → ¬ Mut (some o) → H' b = some o
section
variable {K : PySem.W.Frag} {H H' : Hp} {a p : Addr} {xs vs ws : List V} {ds es : List D} {x : D} {v : V}
theorem NM.refl : NM H H := fun _ _ e _ => e
theorem NM.new {o : HO} (n : H p = none) : NM H (upd H p o) := fun b o e _ => by
  rw [upd_ne (ne_of_none e n)]
  exact e
theorem NM.mut {o : HO} (m : Mut (H p)) : NM H (upd H p o) := fun b u e n => by
  have hb : b ≠ p := fun z => by
    subst z
    rw [e] at m
    exact n m
  rw [upd_ne hb]
  exact e
theorem SqZ.sq (h : SqZ K H a xs) : SqL K H a xs := by
  rcases h with ⟨o, h⟩ | h
  · exact .inl (.inr ⟨o, h⟩)
  · exact .inr h
theorem SqZ.stay (n : NM H H') (h : SqZ K H a xs) : SqZ K H' a xs := by
  rcases h with ⟨o, h⟩ | h
  · exact .inl ⟨o, n _ _ h (fun z => z)⟩
  · exact .inr h
theorem SqT_stay (n : NM H H') (h : SqT K H a xs) : SqT K H' a xs := by
  rcases h with (h | ⟨o, h⟩) | h
  · exact .inl (.inl (n _ _ h (fun z => z)))
  · exact .inl (.inr ⟨o, n _ _ h (fun z => z)⟩)
  · exact .inr h
mutual
theorem Rp.stay (n : NM H H') : ∀ (x : D) (v : V), Rp K H x v → Rp K H' x v
  | .none, _, h => by cases h; exact .non
  | .bool b, _, h => by cases h; exact .bl b
  | .int b, _, h => by cases h; exact .int b
  | .str b, _, h => by cases h; exact .str b
  | .list ds, _, h => by
    cases h with
    | lst h1 h2 => exact .lst (h1.stay n) (RpAll.stay n ds _ h2)
  | .tuple ds, _, h => by
    cases h with
    | tupS h1 h2 h3 => exact .tupS (SqT_stay n h1) (RpAll.stay n ds _ h2) (h3.imp (fun z => n _ _ z (fun z => z)) id)
  | .dict [], _, h => by
    cases h with
    | dctK e r => exact .dctK (n _ _ e (fun z => z)) (RpKs.stay n [] _ r)
  | .dict ((a, b) :: kvs), _, h => by
    cases h with
    | dctK e r => exact .dctK (n _ _ e (fun z => z)) (RpKs.stay n ((a, b) :: kvs) _ r)
    | dctT e r => exact .dctT (n _ _ e (fun z => z)) (RpTs.stay n kvs _ r)
theorem RpAll.stay (n : NM H H') : ∀ (ds : List D) (vs : List V), RpAll K H ds vs → RpAll K H' ds vs
  | [], _, h => by cases h; exact .nil
  | d :: ds, _, h => by
    cases h with
    | cons h1 h2 => exact .cons (Rp.stay n d _ h1) (RpAll.stay n ds _ h2)
theorem RpKs.stay (n : NM H H') : ∀ (kvs : List (D × D)) (ks : List (Key × V)), RpKs K H kvs ks → RpKs K H' kvs ks
  | [], _, h => by cases h; exact .nil
  | (_, d) :: kvs, _, h => by
    cases h with
    | cons h1 h2 => exact .cons (Rp.stay n d _ h1) (RpKs.stay n kvs _ h2)
theorem RpTs.stay (n : NM H H') : ∀ (kvs : List (D × D)) (ks : List (List Key × V)), RpTs K H kvs ks → RpTs K H' kvs ks
  | [], _, h => by cases h; exact .nil
  | (_, d) :: kvs, _, h => by
    cases h with
    | cons h1 h2 => exact .cons (Rp.stay n d _ h1) (RpTs.stay n kvs _ h2)
end
theorem RpAll.len : ∀ {ds : List D} {vs : List V}, RpAll K H ds vs → ds.length = vs.length
  | _, _, .nil => rfl
  | _, _, .cons _ t => congrArg Nat.succ t.len
theorem RpAll.get : ∀ {ds : List D} {vs : List V} {i : Nat} {x : D}, RpAll K H ds vs → ds[i]? = some x → ∃ v, vs[i]? = some v ∧ Rp K H x v
  | _, _, _, _, .nil, e => by simp at e
  | _, _, 0, _, .cons r _, e => by simp at e; subst e; exact ⟨_, rfl, r⟩
  | _, _, i + 1, x, .cons _ t, e => by
    obtain ⟨u, h1, h2⟩ := RpAll.get (i := i) (x := x) t (by simpa using e)
    exact ⟨u, by simpa using h1, h2⟩
theorem RpAll.getV {i : Nat} {v : V} (h : RpAll K H ds vs) (e : vs[i]? = some v) : ∃ x, ds[i]? = some x ∧ Rp K H x v := by
  have hi : i < vs.length := by
    rcases Nat.lt_or_ge i vs.length with z | z
    · exact z
    · rw [List.getElem?_eq_none z] at e; cases e
  have hd : i < ds.length := by rw [h.len]; exact hi
  obtain ⟨u, h1, h2⟩ := h.get (List.getElem?_eq_getElem hd)
  rw [e] at h1
  cases h1
  exact ⟨_, List.getElem?_eq_getElem hd, h2⟩
theorem RpAll.of : ∀ {ds : List D} {vs : List V}, ds.length = vs.length → (∀ (i : Nat) x v, ds[i]? = some x → vs[i]? = some v → Rp K H x v) → RpAll K H ds vs
  | [], [], _, _ => .nil
  | [], _ :: _, l, _ => by simp at l
  | _ :: _, [], l, _ => by simp at l
  | x :: ds, v :: vs, l, h => .cons (h 0 x v rfl rfl) (RpAll.of (by simpa using l) fun i y w e1 e2 => h (i + 1) y w (by simpa using e1) (by simpa using e2))
theorem RpAll.app : ∀ {ds es : List D} {vs ws : List V}, RpAll K H ds vs → RpAll K H es ws → RpAll K H (ds ++ es) (vs ++ ws)
  | _, _, _, _, .nil, s => s
  | _, _, _, _, .cons r t, s => .cons r (RpAll.app t s)
theorem RpAll.take : ∀ {ds : List D} {vs : List V} (n : Nat), RpAll K H ds vs → RpAll K H (ds.take n) (vs.take n)
  | _, _, 0, _ => .nil
  | _, _, _ + 1, .nil => .nil
  | _, _, n + 1, .cons r t => .cons r (RpAll.take n t)
theorem RpAll.drop : ∀ {ds : List D} {vs : List V} (n : Nat), RpAll K H ds vs → RpAll K H (ds.drop n) (vs.drop n)
  | _, _, 0, r => r
  | _, _, _ + 1, .nil => .nil
  | _, _, n + 1, .cons _ t => RpAll.drop n t
theorem RpAll.set (r : Rp K H x v) : ∀ {ds : List D} {vs : List V} (i : Nat), RpAll K H ds vs → RpAll K H (ds.set i x) (vs.set i v)
  | _, _, _, .nil => .nil
  | _, _, 0, .cons _ t => .cons r t
  | _, _, i + 1, .cons q t => .cons q (RpAll.set r i t)
theorem RpAll.one (r : Rp K H x v) : RpAll K H [x] [v] := .cons r .nil
theorem RpAll.rev : ∀ {ds : List D} {vs : List V}, RpAll K H ds vs → RpAll K H ds.reverse vs.reverse
  | _, _, .nil => .nil
  | _, _, .cons r t => by
    rw [List.reverse_cons, List.reverse_cons]
    exact (RpAll.rev t).app (.one r)
theorem RpAll.erase : ∀ {ds : List D} {vs : List V} (i : Nat), RpAll K H ds vs → RpAll K H (ds.eraseIdx i) (vs.eraseIdx i)
  | _, _, _, .nil => .nil
  | _, _, 0, .cons _ t => t
  | _, _, i + 1, .cons q t => .cons q (RpAll.erase i t)
theorem RpAll.dropLast {ds : List D} {vs : List V} (h : RpAll K H ds vs) : RpAll K H ds.dropLast vs.dropLast := by
  rw [List.dropLast_eq_take, List.dropLast_eq_take, h.len]
  exact h.take _
theorem RpAll.rep (h : RpAll K H ds vs) : ∀ k : Nat, RpAll K H (List.replicate k ds).flatten (List.replicate k vs).flatten
  | 0 => .nil
  | k + 1 => by
    rw [List.replicate_succ, List.replicate_succ, List.flatten_cons, List.flatten_cons]
    exact h.app (RpAll.rep h k)
theorem RpAll.nil_iff (h : RpAll K H ds vs) : vs = [] ↔ ds = [] := by
  have := h.len
  constructor
  · rintro rfl; exact List.length_eq_zero_iff.mp this
  · rintro rfl; exact List.length_eq_zero_iff.mp this.symm
theorem RpAll.ints : ∀ {ns : List Int} {vs : List V}, RpAll K H (ns.map PyData.int) vs → vs = ns.map V.int
  | [], _, h => by cases h; rfl
  | n :: ns, _, h => by
    have h' : RpAll K H (PyData.int n :: ns.map PyData.int) _ := h
    cases h' with
    | cons r t => cases r; rw [RpAll.ints t]; rfl
theorem RpAll.bls : ∀ {ns : List Bool} {vs : List V}, RpAll K H (ns.map PyData.bool) vs → vs = ns.map V.bl
  | [], _, h => by cases h; rfl
  | n :: ns, _, h => by
    have h' : RpAll K H (PyData.bool n :: ns.map PyData.bool) _ := h
    cases h' with
    | cons r t => cases r; rw [RpAll.bls t]; rfl
theorem rp_ints (K : PySem.W.Frag) (H : Hp) : ∀ ns : List Int, RpAll K H (ns.map PyData.int) (ns.map V.int)
  | [] => .nil
  | n :: ns => .cons (.int n) (rp_ints K H ns)
mutual
theorem Rp.dp : ∀ (x : D) (v : V), noD x = true → Rp K H x v → Dp K H v x
  | .none, _, _, h => by cases h; exact .non
  | .bool b, _, _, h => by cases h; exact .bl b
  | .int b, _, _, h => by cases h; exact .int b
  | .str b, _, _, h => by cases h; exact .str b
  | .list ds, _, c, h => by
    cases h with
    | lst h1 h2 => exact .lst h1.sq (RpAll.dp ds _ (by simpa [noD] using c) h2)
  | .tuple ds, _, c, h => by
    cases h with
    | tupS h1 h2 _ => exact .tup h1 (RpAll.dp ds _ (by simpa [noD] using c) h2)
  | .dict _, _, c, h => by simp [noD] at c
theorem RpAll.dp : ∀ (ds : List D) (vs : List V), noDs ds = true → RpAll K H ds vs → DpAll K H vs ds
  | [], _, _, h => by cases h; exact .nil
  | d :: ds, _, c, h => by
    have c' : noD d = true ∧ noDs ds = true := by simpa [noDs] using c
    cases h with
    | cons h1 h2 => exact .cons (Rp.dp d _ c'.1 h1) (RpAll.dp ds _ c'.2 h2)
end
end

/-! ### what is owned -/
def RX (K : PySem.W.Frag) (H : Hp) : OV → V → (Addr → Prop) → Prop
  | .m false kvs, v, G => ∃ p ks, v = .ref p ∧ H p = some (.dK ks) ∧ RpKs K H kvs ks ∧ ∀ a, G a ↔ a = p
  | .m true kvs, v, G => ∃ p ks, v = .ref p ∧ H p = some (.dT ks) ∧ RpTs K H kvs ks ∧ ∀ a, G a ↔ a = p
  | .k kvs o ks, v, G => ∃ p, v = .ref p ∧ H p = some (.frz o (.dK ks)) ∧ RpKs K H kvs ks ∧ ∀ a, ¬ G a
  | .kt kvs o ks, v, G => ∃ p, v = .ref p ∧ H p = some (.frz o (.dT ks)) ∧ RpTs K H kvs ks ∧ ∀ a, ¬ G a
  | .fn x, v, G => v = .ref (He.ga K x) ∧ ∀ a, ¬ G a
def RS (K : PySem.W.Frag) (H : Hp) : SV → V → (Addr → Prop) → Prop
  | .ow w, v, G => RX K H w v G
  | .d x, v, G => Rp K H x v ∧ ∀ a, ¬ G a
  | .l xs, v, G => ∃ p vs, v = .ref p ∧ H p = some (.lst vs) ∧ RpAll K H xs vs ∧ ∀ a, G a ↔ a = p
inductive Ow (K : PySem.W.Frag) (H : Hp) : List (SV × V) → (Addr → Prop) → Prop
  | nil {F : Addr → Prop} : (∀ a, ¬ F a) → Ow K H [] F
  | cons {s : SV} {v : V} {G F F' : Addr → Prop} {L : List (SV × V)} : RS K H s v G → Ow K H L F → (∀ a, G a → ¬ F a) → (∀ a, F' a ↔ G a ∨ F a) → Ow K H ((s, v) :: L) F'
section
variable {K : PySem.W.Frag} {H H' : Hp} {a p : Addr} {vs ws : List V} {xs ys : List D} {x : D} {v : V} {s : SV} {L L' : List (SV × V)} {F G : Addr → Prop}
theorem RX.mu : ∀ {w : OV}, RX K H w v G → G a → ∃ o, H a = some o ∧ Mut (some o)
  | .m false _, h, g => by
    obtain ⟨p, ks, _, e, _, hg⟩ := h
    cases (hg a).mp g
    exact ⟨_, e, trivial⟩
  | .m true _, h, g => by
    obtain ⟨p, ks, _, e, _, hg⟩ := h
    cases (hg a).mp g
    exact ⟨_, e, trivial⟩
  | .k _ _ _, h, g => by
    obtain ⟨p, _, _, _, hg⟩ := h
    exact absurd g (hg a)
  | .kt _ _ _, h, g => by
    obtain ⟨p, _, _, _, hg⟩ := h
    exact absurd g (hg a)
  | .fn _, h, g => absurd g (h.2 a)
theorem RX.stay (n : NM H H') (k : ∀ a, G a → H' a = H a) : ∀ {w : OV}, RX K H w v G → RX K H' w v G
  | .m false _, h => by
    obtain ⟨p, ks, e0, e, r, hg⟩ := h
    exact ⟨p, ks, e0, (k p ((hg p).mpr rfl)).trans e, RpKs.stay n _ _ r, hg⟩
  | .m true _, h => by
    obtain ⟨p, ks, e0, e, r, hg⟩ := h
    exact ⟨p, ks, e0, (k p ((hg p).mpr rfl)).trans e, RpTs.stay n _ _ r, hg⟩
  | .k _ _ _, h => by
    obtain ⟨p, e0, e, r, hg⟩ := h
    exact ⟨p, e0, n _ _ e (fun z => z), RpKs.stay n _ _ r, hg⟩
  | .kt _ _ _, h => by
    obtain ⟨p, e0, e, r, hg⟩ := h
    exact ⟨p, e0, n _ _ e (fun z => z), RpTs.stay n _ _ r, hg⟩
  | .fn _, h => h
theorem RS.mu : ∀ {s : SV}, RS K H s v G → G a → ∃ o, H a = some o ∧ Mut (some o)
  | .ow _, h, g => RX.mu h g
  | .d _, h, g => absurd g (h.2 a)
  | .l _, h, g => by
    obtain ⟨p, vs, _, e, _, hg⟩ := h
    cases (hg a).mp g
    exact ⟨_, e, trivial⟩
theorem RS.stay (n : NM H H') (k : ∀ a, G a → H' a = H a) : ∀ {s : SV}, RS K H s v G → RS K H' s v G
  | .ow _, h => RX.stay n k h
  | .d _, h => ⟨Rp.stay n _ _ h.1, h.2⟩
  | .l _, h => by
    obtain ⟨p, vs, e0, e, r, hg⟩ := h
    exact ⟨p, vs, e0, (k p ((hg p).mpr rfl)).trans e, RpAll.stay n _ _ r, hg⟩
theorem Ow.mu (h : Ow K H L F) : ∀ {a : Addr}, F a → ∃ o, H a = some o ∧ Mut (some o) := by
  induction h with
  | nil n => intro a z; exact absurd z (n a)
  | cons r _ _ e ih =>
    intro a z
    rcases (e a).mp z with z | z
    · exact r.mu z
    · exact ih z
theorem Ow.stay (n : NM H H') (h : Ow K H L F) : (∀ a, F a → H' a = H a) → Ow K H' L F := by
  induction h with
  | nil n => intro _; exact .nil n
  | cons r _ d e ih =>
    intro k
    exact .cons (r.stay n fun a g => k a ((e a).mpr (.inl g))) (ih fun a z => k a ((e a).mpr (.inr z))) d e
theorem Ow.perm (q : L.Perm L') : ∀ {F : Addr → Prop}, Ow K H L F → Ow K H L' F := by
  induction q with
  | nil => intro F h; exact h
  | cons x _ ih =>
    intro F h
    cases h with
    | cons r t d e => exact .cons r (ih t) d e
  | swap x y l =>
    intro F h
    cases h with
    | cons r t d e =>
      cases t with
      | cons r2 t2 d2 e2 =>
        refine .cons r2 (.cons (F' := fun a => _ ∨ _) r t2 (fun a g z => d a g ((e2 a).mpr (.inr z))) fun a => Iff.rfl) (fun a g z => ?_) fun a => ?_
        · rcases z with z | z
          · exact d a z ((e2 a).mpr (.inl g))
          · exact d2 a g z
        · rw [e, e2]
          constructor
          · rintro (z | z | z)
            · exact .inr (.inl z)
            · exact .inl z
            · exact .inr (.inr z)
          · rintro (z | z | z)
            · exact .inr (.inl z)
            · exact .inl z
            · exact .inr (.inr z)
  | trans _ _ h1 h2 => intro F h; exact h2 (h1 h)
theorem Ow.tail (h : Ow K H ((s, v) :: L) F) : ∃ F', Ow K H L F' := by
  cases h with
  | cons r t d e => exact ⟨_, t⟩
theorem Ow.head (h : Ow K H ((s, v) :: L) F) : ∃ G, RS K H s v G := by
  cases h with
  | cons r t d e => exact ⟨_, r⟩
theorem Ow.mem (h : Ow K H L F) : (s, v) ∈ L → ∃ G, RS K H s v G := by
  induction h with
  | nil n => intro m; cases m
  | cons r _ d e ih =>
    intro m
    rcases List.mem_cons.mp m with z | z
    · cases z; exact ⟨_, r⟩
    · exact ih z
theorem Ow.sub (h : Ow K H L F) : ∀ {L' : List (SV × V)}, L'.Sublist L → ∃ F', Ow K H L' F' ∧ ∀ a, F' a → F a := by
  induction h with
  | nil n => intro L' q; cases q; exact ⟨_, .nil n, fun _ z => z⟩
  | cons r t d e ih =>
    intro L' q
    cases q with
    | cons _ q =>
      obtain ⟨F', h, k⟩ := ih q
      exact ⟨F', h, fun a z => (e a).mpr (.inr (k a z))⟩
    | cons_cons _ q =>
      obtain ⟨F', h, k⟩ := ih q
      exact ⟨fun a => _ ∨ F' a, .cons r h (fun a g z => d a g (k a z)) fun a => Iff.rfl, fun a z => (e a).mpr (z.imp id (k a))⟩
theorem Ow.pure (r : Rp K H x v) (h : Ow K H L F) : Ow K H ((.d x, v) :: L) F :=
  .cons (G := fun _ => False) ⟨r, fun _ z => z⟩ h (fun _ z => z.elim) fun a => ⟨.inr, fun z => z.elim False.elim id⟩
theorem Ow.rp (h : Ow K H L F) (m : (SV.d x, v) ∈ L) : Rp K H x v := by
  obtain ⟨G, r⟩ := h.mem m
  exact r.1
theorem Ow.rl (h : Ow K H L F) (m : (SV.l xs, v) ∈ L) : ∃ p vs, v = .ref p ∧ H p = some (.lst vs) ∧ RpAll K H xs vs := by
  obtain ⟨G, p, vs, e, q, r, _⟩ := h.mem m
  exact ⟨p, vs, e, q, r⟩
theorem Ow.new {o : HO} (n : H p = none) (h : Ow K H L F) : Ow K (upd H p o) L F :=
  h.stay (.new n) fun a z => by
    obtain ⟨o, e, _⟩ := h.mu z
    exact upd_ne (ne_of_none e n)
theorem Ow.newl (n : H p = none) (r : RpAll K H xs vs) (h : Ow K H L F) : ∃ F', Ow K (upd H p (.lst vs)) ((.l xs, .ref p) :: L) F' :=
  ⟨fun a => a = p ∨ F a, .cons (G := fun a => a = p) ⟨p, vs, rfl, upd_same, RpAll.stay (.new n) _ _ r, fun _ => Iff.rfl⟩ (h.new n) (fun a z f => by
    subst z
    obtain ⟨o, e, _⟩ := h.mu f
    rw [n] at e; cases e) fun _ => Iff.rfl⟩
theorem Ow.newx {w : OV} {o : HO} (n : H p = none) (r : RX K (upd H p o) w (.ref p) (fun a => a = p)) (h : Ow K H L F) : ∃ F', Ow K (upd H p o) ((.ow w, .ref p) :: L) F' :=
  ⟨fun a => a = p ∨ F a, .cons (G := fun a => a = p) r (h.new n) (fun a z f => by
    subst z
    obtain ⟨o, e, _⟩ := h.mu f
    rw [n] at e; cases e) fun _ => Iff.rfl⟩
/-- what a slot owns at one place is changed there -/
theorem Ow.mutx {s s' : SV} {o : HO} (h : Ow K H ((s, .ref p) :: L) F) (hs : ∀ G, RS K H s (.ref p) G → G p) (r : RS K (upd H p o) s' (.ref p) (fun a => a = p)) : ∃ F', Ow K (upd H p o) ((s', .ref p) :: L) F' := by
  cases h with
  | cons r1 t d e =>
    have g := hs _ r1
    have m : Mut (H p) := by
      obtain ⟨u, e, mu⟩ := r1.mu g
      rw [e]; exact mu
    refine ⟨fun a => a = p ∨ _, .cons (G := fun a => a = p) r (t.stay (.mut m) fun a z => upd_ne fun q => ?_) (fun a z f => ?_) fun _ => Iff.rfl⟩
    · subst q; exact d a g z
    · subst z; exact d a g f
/-- .. and never written again -/
theorem Ow.frzx {s : SV} {x : D} {o : HO} (h : Ow K H ((s, .ref p) :: L) F) (hs : ∀ G, RS K H s (.ref p) G → G p) (r : Rp K (upd H p o) x (.ref p)) : ∃ F', Ow K (upd H p o) ((.d x, .ref p) :: L) F' := by
  cases h with
  | cons r1 t d e =>
    have g := hs _ r1
    have m : Mut (H p) := by
      obtain ⟨u, e, mu⟩ := r1.mu g
      rw [e]; exact mu
    exact ⟨_, Ow.pure r (t.stay (.mut m) fun a z => upd_ne fun q => by subst q; exact d a g z)⟩
theorem Ow.mut (h : Ow K H ((.l xs, .ref p) :: L) F) (r : RpAll K H ys ws) : ∃ F', Ow K (upd H p (.lst ws)) ((.l ys, .ref p) :: L) F' := by
  cases h with
  | cons r1 t d e =>
    obtain ⟨q, vs, e1, e2, r2, hg⟩ := r1
    cases e1
    have m : Mut (H p) := by rw [e2]; trivial
    refine ⟨fun a => a = p ∨ _, .cons (G := fun a => a = p) ⟨p, ws, rfl, upd_same, RpAll.stay (.mut m) _ _ r, fun _ => Iff.rfl⟩ (t.stay (.mut m) fun a z => upd_ne fun q => ?_) (fun a z f => ?_) fun _ => Iff.rfl⟩
    · subst q; exact d a ((hg a).mpr rfl) z
    · subst z; exact d a ((hg a).mpr rfl) f
theorem Ow.frz {o : Obj} (h : Ow K H ((.l xs, .ref p) :: L) F) (e : H p = some (.lst vs)) : ∃ F', Ow K (upd H p (.frz o (.lst vs))) ((.d (.list xs), .ref p) :: L) F' := by
  cases h with
  | cons r1 t d e0 =>
    obtain ⟨q, vs', e1, e2, r2, hg⟩ := r1
    cases e1
    rw [e] at e2
    cases e2
    have m : Mut (H p) := by rw [e]; trivial
    exact ⟨_, Ow.pure (.lst (.inl ⟨o, upd_same⟩) (RpAll.stay (.mut m) _ _ r2)) (t.stay (.mut m) fun a z => upd_ne fun q => by subst q; exact d a ((hg a).mpr rfl) z)⟩
end

/-! ### the state of a body: slots, and what lies beside them -/
abbrev Env := List (Option SV)
def pick : Env → L2.St → List (SV × V)
  | some s :: ρ, some v :: σ => (s, v) :: pick ρ σ
  | _ :: ρ, _ :: σ => pick ρ σ
  | _, _ => []
structure StR (K : PySem.W.Frag) (H : Hp) (α : List (SV × V)) (ρ : Env) (σ : L2.St) : Prop where
  len : ρ.length = σ.length
  ok : ∀ (i : Nat) s, ρ[i]? = some (some s) → ∃ v, σ[i]? = some (some v)
  ow : ∃ F, Ow K H (α ++ pick ρ σ) F
section
variable {K : PySem.W.Frag} {H H' : Hp} {α β : List (SV × V)} {ρ : Env} {σ : L2.St} {i : Nat} {s s' : SV} {v : V}
theorem pick_take : ∀ {ρ : Env} {σ : L2.St} {i : Nat}, ρ[i]? = some (some s) → σ[i]? = some (some v) → (pick ρ σ).Perm ((s, v) :: pick (ρ.set i none) σ)
  | [], _, _, h, _ => by simp at h
  | _ :: _, [], _, _, h => by simp at h
  | o :: ρ, w :: σ, 0, h1, h2 => by
    simp at h1 h2
    subst h1 h2
    simp [pick]
  | o :: ρ, w :: σ, i + 1, h1, h2 => by
    have ih := pick_take (ρ := ρ) (σ := σ) (i := i) (by simpa using h1) (by simpa using h2)
    rw [List.set_cons_succ]
    cases o with
    | none => cases w <;> exact ih
    | some t =>
      cases w with
      | none => exact ih
      | some w => exact (List.Perm.cons _ ih).trans (List.Perm.swap _ _ _)
theorem pick_put : ∀ {ρ : Env} {σ : L2.St} {i : Nat}, i < ρ.length → i < σ.length → (pick (ρ.set i (some s)) (σ.set i (some v))).Perm ((s, v) :: pick (ρ.set i none) σ)
  | [], _, _, h, _ => by simp at h
  | _ :: _, [], _, _, h => by simp at h
  | o :: ρ, w :: σ, 0, h1, h2 => by
    simp [pick]
  | o :: ρ, w :: σ, i + 1, h1, h2 => by
    have ih := pick_put (ρ := ρ) (σ := σ) (i := i) (by simpa using h1) (by simpa using h2)
    rw [List.set_cons_succ, List.set_cons_succ, List.set_cons_succ]
    cases o with
    | none => cases w <;> exact ih
    | some t =>
      cases w with
      | none => exact ih
      | some w => exact (List.Perm.cons _ ih).trans (List.Perm.swap _ _ _)
theorem pick_nv {x : Option V} : ∀ {ρ : Env} {σ : L2.St} {i : Nat}, pick (ρ.set i none) (σ.set i x) = pick (ρ.set i none) σ
  | [], _, _ => by simp [pick]
  | _ :: _, [], _ => by simp
  | o :: ρ, w :: σ, 0 => by simp [pick]
  | o :: ρ, w :: σ, i + 1 => by
    have ih := pick_nv (x := x) (ρ := ρ) (σ := σ) (i := i)
    rw [List.set_cons_succ, List.set_cons_succ]
    cases o with
    | none => cases w <;> exact ih
    | some t =>
      cases w with
      | none => exact ih
      | some w => exact congrArg (List.cons (t, w)) ih
theorem pick_sub : ∀ {ρ : Env} {σ : L2.St} {i : Nat}, (pick (ρ.set i none) σ).Sublist (pick ρ σ)
  | [], _, _ => by simp [pick]
  | _ :: _, [], _ => by simp [pick]
  | o :: ρ, w :: σ, 0 => by
    cases o with
    | none => cases w <;> simp [pick]
    | some t => cases w <;> simp [pick]
  | o :: ρ, w :: σ, i + 1 => by
    have ih := pick_sub (ρ := ρ) (σ := σ) (i := i)
    rw [List.set_cons_succ]
    cases o with
    | none => cases w <;> exact ih
    | some t =>
      cases w with
      | none => exact ih
      | some w => exact ih.cons_cons _
theorem pick_mem (h1 : ρ[i]? = some (some s)) (h2 : σ[i]? = some (some v)) : (s, v) ∈ pick ρ σ := (pick_take h1 h2).mem_iff.mpr (List.mem_cons_self ..)
theorem StR.slot (h : StR K H α ρ σ) (e : ρ[i]? = some (some s)) : ∃ v, σ[i]? = some (some v) ∧ (s, v) ∈ α ++ pick ρ σ := by
  obtain ⟨v, e2⟩ := h.ok i s e
  exact ⟨v, e2, List.mem_append_right _ (pick_mem e e2)⟩
theorem StR.perm (q : α.Perm β) (h : StR K H α ρ σ) : StR K H β ρ σ := by
  obtain ⟨F, o⟩ := h.ow
  exact ⟨h.len, h.ok, F, o.perm (q.append_right _)⟩
theorem StR.sub (q : β.Sublist α) (h : StR K H α ρ σ) : StR K H β ρ σ := by
  obtain ⟨F, o⟩ := h.ow
  obtain ⟨F', o', _⟩ := o.sub (q.append_right _)
  exact ⟨h.len, h.ok, F', o'⟩
theorem StR.drop (h : StR K H ((s, v) :: α) ρ σ) : StR K H α ρ σ := h.sub (List.sublist_cons_self _ _)
theorem StR.dropL (h : StR K H (β ++ α) ρ σ) : StR K H α ρ σ := h.sub (List.sublist_append_right _ _)
theorem set_ok {ρ : Env} {σ : L2.St} {i : Nat} {o : Option SV} (h : ∀ (j : Nat) s, ρ[j]? = some (some s) → ∃ v, σ[j]? = some (some v)) (hi : ∀ s, o = some s → ∃ v, σ[i]? = some (some v)) :
    ∀ (j : Nat) s, (ρ.set i o)[j]? = some (some s) → ∃ v, σ[j]? = some (some v) := fun j s e => by
  by_cases hj : i = j
  · subst hj
    by_cases hl : i < ρ.length
    · rw [List.getElem?_set_self hl] at e
      exact hi s (Option.some.inj e)
    · rw [List.getElem?_eq_none (by simpa using hl)] at e; cases e
  · rw [List.getElem?_set_ne hj] at e
    exact h j s e
/-- a slot is forgotten -/
theorem StR.forget (i : Nat) (h : StR K H α ρ σ) : StR K H α (ρ.set i none) σ := by
  obtain ⟨F, o⟩ := h.ow
  obtain ⟨F', o', _⟩ := o.sub (List.Sublist.append_left pick_sub α)
  exact ⟨by rw [List.length_set]; exact h.len, set_ok h.ok (fun s e => by cases e), F', o'⟩
/-- a slot's value is taken out -/
theorem StR.take (h : StR K H α ρ σ) (e : ρ[i]? = some (some s)) (e2 : σ[i]? = some (some v)) : StR K H ((s, v) :: α) (ρ.set i none) σ := by
  obtain ⟨F, o⟩ := h.ow
  exact ⟨by rw [List.length_set]; exact h.len, set_ok h.ok (fun s e => by cases e), F, o.perm (((pick_take e e2).append_left α).trans List.perm_middle)⟩
/-- .. and laid back, otherwise perhaps -/
theorem StR.back (h : StR K H ((s, v) :: α) (ρ.set i none) σ) (hi : i < ρ.length) (e2 : σ[i]? = some (some v)) : StR K H α (ρ.set i (some s)) σ := by
  obtain ⟨F, o⟩ := h.ow
  have hl := h.len
  rw [List.length_set] at hl
  refine ⟨by rw [List.length_set]; exact hl, fun j t e => ?_, F, o.perm ?_⟩
  · by_cases hj : i = j
    · subst hj; exact ⟨_, e2⟩
    · rw [List.getElem?_set_ne hj] at e
      refine h.ok j t ?_
      rw [List.getElem?_set_ne hj]
      exact e
  · have q := pick_put (s := s) (v := v) (ρ := ρ) (σ := σ) hi (by omega)
    have hs : σ.set i (some v) = σ := by
      have hlt : i < σ.length := by omega
      rw [List.getElem?_eq_getElem hlt] at e2
      rw [← Option.some.inj e2, List.set_getElem_self]
    rw [hs] at q
    exact (List.perm_middle.symm.trans ((q.symm).append_left α))
/-- a value is stored at a slot -/
theorem StR.put (h : StR K H ((s, v) :: α) ρ σ) (hi : i < ρ.length) : StR K H α (ρ.set i (some s)) (σ.set i (some v)) := by
  obtain ⟨F, o⟩ := (h.forget i).ow
  have hl := h.len
  refine ⟨by simpa using hl, fun j t e => ?_, F, o.perm ?_⟩
  · by_cases hj : i = j
    · subst hj
      exact ⟨v, by rw [List.getElem?_set_self (by omega)]⟩
    · rw [List.getElem?_set_ne hj] at e ⊢
      exact h.ok j t e
  · have q := pick_put (s := s) (v := v) (ρ := ρ) (σ := σ) hi (by omega)
    exact (List.perm_middle.symm.trans ((q.symm).append_left α))
/-- what a step of an operation gives: whatever was owned is owned, and the new value too -/
def Step (K : PySem.W.Frag) (H : Hp) (s : SV) (v : V) (H' : Hp) : Prop := ∀ L F, Ow K H L F → ∃ F', Ow K H' ((s, v) :: L) F'
theorem Step.d {x : D} (r : Rp K H x v) : Step K H (.d x) v H := fun _ F h => ⟨F, h.pure r⟩
theorem Step.tup {ds : List D} {vs : List V} {p : Addr} (n : H p = none) (r : RpAll K H ds vs) : Step K H (.d (.tuple ds)) (.ref p) (upd H p (.tup vs)) :=
  fun _ F h => ⟨F, (h.new n).pure (.tup upd_same (RpAll.stay (.new n) _ _ r))⟩
theorem Step.lst {ds : List D} {vs : List V} {p : Addr} (n : H p = none) (r : RpAll K H ds vs) : Step K H (.l ds) (.ref p) (upd H p (.lst vs)) :=
  fun _ F h => h.newl n r
theorem StR.step (t : Step K H s v H') (h : StR K H α ρ σ) : StR K H' ((s, v) :: α) ρ σ := by
  obtain ⟨F, o⟩ := h.ow
  obtain ⟨F', o'⟩ := t _ _ o
  exact ⟨h.len, h.ok, F', o'⟩
theorem StR.pure {x : D} (r : Rp K H x v) (h : StR K H α ρ σ) : StR K H ((.d x, v) :: α) ρ σ := h.step (.d r)
theorem StR.mem (h : StR K H α ρ σ) (m : (s, v) ∈ α ++ pick ρ σ) : ∃ G, RS K H s v G := by
  obtain ⟨F, o⟩ := h.ow
  exact o.mem m
/-- every heap that keeps all that is owned -/
theorem StR.ofOw (h : StR K H α ρ σ) (k : ∀ F, Ow K H (α ++ pick ρ σ) F → ∃ F', Ow K H' (β ++ pick ρ σ) F') : StR K H' β ρ σ := by
  obtain ⟨F, o⟩ := h.ow
  obtain ⟨F', o'⟩ := k F o
  exact ⟨h.len, h.ok, F', o'⟩
end
end Dn

set_option Elab.async false
set_option linter.all false
set_option maxRecDepth 100000
/-! Dn, part B: a small language, its meaning over data by value. -/
namespace Dn
open PySem PySem.Spec PyProof.Rows L2

/-! ### answers -/
inductive R (α : Type) where
  | ok (a : α)
  | exc (c : Str) (x : D)
  | bad
def R.bind {α β : Type} : R α → (α → R β) → R β
  | .ok a, f => f a
  | .exc c x, _ => .exc c x
  | .bad, _ => .bad
instance : Monad R where
  pure := .ok
  bind := R.bind
section
variable {α β : Type}
@[simp] theorem ok_bind (a : α) (f : α → R β) : (R.ok a >>= f) = f a := rfl
@[simp] theorem bad_bind (f : α → R β) : ((R.bad : R α) >>= f) = .bad := rfl
@[simp] theorem exc_bind (c : Str) (x : D) (f : α → R β) : ((R.exc c x : R α) >>= f) = .exc c x := rfl
theorem bind_ok {x : R α} {f : α → R β} {b : β} (h : (x >>= f) = .ok b) : ∃ a, x = .ok a ∧ f a = .ok b := by
  cases x with
  | ok a => exact ⟨a, rfl, h⟩
  | exc c x => cases h
  | bad => cases h
theorem ok_inj {a b : α} (h : R.ok a = R.ok b) : a = b := by cases h; rfl
end

/-! ### operands -/
/-- an operand: a value made, or a slot's -/
inductive O where
  | val (s : SV)
  | var (i : Nat)
def rd (ρ : Env) (i : Nat) : R SV := match ρ[i]? with
  | some (some s) => .ok s
  | _ => .bad
def O.get (ρ : Env) : O → R SV
  | .val s => .ok s
  | .var i => rd ρ i
def rdL (ρ : Env) (i : Nat) : R (List D) := match ρ[i]? with
  | some (some (.l xs)) => .ok xs
  | _ => .bad
def O.newL : O → R (List D)
  | .val (.l ys) => .ok ys
  | _ => .bad
def isD : SV → R D
  | .d x => .ok x
  | _ => .bad
/-- taken for good: a slot's only where it is data -/
def O.use (ρ : Env) : O → R SV
  | .val s => .ok s
  | .var i => (do let s ← rd ρ i; let x ← isD s; .ok (.d x))
def O.useD (ρ : Env) (o : O) : R D := (do let s ← o.use ρ; isD s)
def gets (ρ : Env) : List O → R (List SV)
  | [] => .ok []
  | o :: os => (do let s ← o.get ρ; let r ← gets ρ os; .ok (s :: r))
/-- operands taken for good -/
def uses (ρ : Env) : List O → R (List SV)
  | [] => .ok []
  | o :: os => (do let s ← o.use ρ; let r ← uses ρ os; .ok (s :: r))
/-- stored one behind the other -/
def puts : List Nat → List SV → Env → R Env
  | [], [], ρ => .ok ρ
  | i :: is, s :: ss, ρ => if i < ρ.length then puts is ss (ρ.set i (some s)) else .bad
  | _, _, _ => .bad
def useDs (ρ : Env) : List O → R (List D)
  | [] => .ok []
  | o :: os => (do let s ← o.useD ρ; let r ← useDs ρ os; .ok (s :: r))
def isB : SV → R Bool
  | .d (.bool b) => .ok b
  | _ => .bad
def O.tru (ρ : Env) (o : O) : R Bool := (do let s ← o.get ρ; isB s)
def isOwn : SV → Bool
  | .d _ => false
  | .l _ => true
  | .ow _ => true
/-- a value as data, to be looked at -/
def SV.dat : SV → D
  | .d x => x
  | .l xs => .list xs
  | .ow (.m false kvs) => .dict kvs
  | .ow (.m true kvs) => .dict ((.none, .none) :: kvs)
  | .ow (.k kvs _ _) => .dict kvs
  | .ow (.kt kvs _ _) => .dict ((.none, .none) :: kvs)
  | .ow (.fn _) => .dict []
/-- no def -/
def noFn : SV → R SV
  | .ow (.fn _) => .bad
  | .ow (.m t kvs) => .ok (.ow (.m t kvs))
  | .ow (.k kvs o ks) => .ok (.ow (.k kvs o ks))
  | .ow (.kt kvs o ks) => .ok (.ow (.kt kvs o ks))
  | .d x => .ok (.d x)
  | .l xs => .ok (.l xs)
/-- the items of a sequence -/
def items : SV → R (List D)
  | .l xs => .ok xs
  | .d (.list xs) => .ok xs
  | .d (.tuple xs) => .ok xs
  | _ => .bad

def isTup : SV → Bool
  | .d (.tuple _) => true
  | _ => false

/-! ### dicts -/
def isKy : D → Bool
  | .int _ => true
  | .str _ => true
  | _ => false
/-- a key of a dict of this kind -/
def keyOk : Bool → D → Bool
  | false, x => isKy x
  | true, .tuple ds => ds.all isKy && !strsD ds
  | true, _ => false
def eqKy : D → D → Bool
  | .int a, .int b => decide (a = b)
  | .str a, .str b => decide (a = b)
  | _, _ => false
def eqKs : List D → List D → Bool
  | [], [] => true
  | x :: xs, y :: ys => eqKy x y && eqKs xs ys
  | _, _ => false
def eqK : D → D → Bool
  | .tuple xs, .tuple ys => eqKs xs ys
  | x, y => eqKy x y
def valD (kvs : List (D × D)) (k : D) : Option D := (kvs.find? fun p => eqK p.1 k).map (·.2)
def putD (kvs : List (D × D)) (k v : D) : List (D × D) := if (kvs.any fun p => eqK p.1 k) then kvs.map fun p => if eqK p.1 k then (p.1, v) else p else kvs ++ [(k, v)]
def mergeD (kvs more : List (D × D)) : List (D × D) := more.foldl (fun acc p => putD acc p.1 p.2) kvs
/-- a dict, its own or one that is never written -/
def SV.dic : SV → R (Bool × List (D × D))
  | .ow (.m t kvs) => .ok (t, kvs)
  | .d (.dict ((.none, .none) :: kvs)) => .ok (true, kvs)
  | .d (.dict kvs) => .ok (false, kvs)
  | _ => .bad
/-- what a for walks: a sequence's items, the keys of a dict that is never written -/
def seqI : SV → R (List D)
  | .d (.dict ((.none, .none) :: kvs)) => .ok (kvs.map (·.1))
  | .d (.dict kvs) => .ok (kvs.map (·.1))
  | s => items s
def kvsD : List D → R (List (D × D))
  | [] => .ok []
  | .tuple [k, v] :: r => if isKy k = true then (do let kvs ← kvsD r; .ok ((k, v) :: kvs)) else .bad
  | _ => .bad
def getD1 (s : SV) (k : D) : R (Option D) := (do let p ← s.dic; if keyOk p.1 k = true then .ok (valD p.2 k) else .bad)

/-! ### operations -/
inductive BOp where
  | add | sub | mul | fdiv | mod | pow | shl | shr | band
  deriving DecidableEq
inductive COp where
  | eq | ne | lt | le | gt | ge | is_ | isn | in_ | nin
  deriving DecidableEq
inductive BF where
  | len | abs | min | max | sum | any | all | int | tuple | list | sorted | repr | str | bool | lenset | sortedset | lrng | trng | dict
  deriving DecidableEq
inductive Ty where
  | int | bool | str | tuple | list | dict
  deriving DecidableEq
abbrev LIM : Nat := 16777216
def opB : BOp → SV → SV → R SV
  | .add, .d (.int i), .d (.int j) => .ok (.d (.int (i + j)))
  | .add, .d (.str x), .d (.str y) => if x.length + y.length ≤ LIM then .ok (.d (.str (x ++ y))) else .bad
  | .add, .d (.tuple xs), .d (.tuple ys) => if xs.length + ys.length ≤ LIM then .ok (.d (.tuple (xs ++ ys))) else .bad
  | .add, .l xs, .l ys => if xs.length + ys.length ≤ LIM then .ok (.l (xs ++ ys)) else .bad
  | .sub, .d (.int i), .d (.int j) => .ok (.d (.int (i - j)))
  | .mul, .d (.int i), .d (.int j) => if i.natAbs.log2 + j.natAbs.log2 < 1000000 then .ok (.d (.int (i * j))) else .bad
  | .mul, .d (.tuple []), .d (.int k) => if 0 ≤ k ∧ k ≤ 1000 then .ok (.d (.tuple [])) else .bad
  | .mul, .d (.tuple xs), .d (.int k) => if xs ≠ [] ∧ 2 ≤ k ∧ k ≤ 1000 ∧ xs.length ≤ 1000 then .ok (.d (.tuple (List.replicate k.toNat xs).flatten)) else if k = 1 then .ok (.d (.tuple xs)) else .bad
  | .mul, .l xs, .d (.int k) => if 0 ≤ k ∧ k ≤ LIM ∧ xs.length * k.toNat ≤ LIM then .ok (.l (List.replicate k.toNat xs).flatten) else .bad
  | .fdiv, .d (.int i), .d (.int j) => if 0 < j ∧ j.natAbs.log2 < 9000 then .ok (.d (.int (i / j))) else .bad
  | .mod, .d (.int i), .d (.int j) => if 0 < j then .ok (.d (.int (i % j))) else .bad
  | .pow, .d (.int i), .d (.int j) => if 0 ≤ j ∧ j ≤ 1000000 ∧ i.natAbs < 2 ^ 64 then .ok (.d (.int (i ^ j.toNat))) else .bad
  | .shl, .d (.int i), .d (.int j) => if 0 ≤ j ∧ j ≤ 1000000 ∧ i.natAbs < 2 ^ 64 then .ok (.d (.int (i * 2 ^ j.toNat))) else .bad
  | .shr, .d (.int i), .d (.int j) => if 0 ≤ j then .ok (.d (.int (i / 2 ^ j.toNat))) else .bad
  | .band, .d (.int i), .d (.int j) => .ok (.d (.int (Builtin.bitAnd i j)))
  | _, _, _ => .bad
def bD (b : Bool) : R SV := .ok (.d (.bool b))
def eqS (x y : D) : R Bool := match x, y with
  | .int i, .int j => .ok (i == j)
  | .bool i, .bool j => .ok (i == j)
  | .str i, .str j => .ok (i == j)
  | x, y => if SeqAt.shaped x = true ∧ SeqAt.shaped y = true then .ok (PyData.eqv x y) else .bad
def ltS : SV → SV → R Bool
  | .d (.int i), .d (.int j) => .ok (decide (i < j))
  | _, _ => .bad
def notN : D → Bool
  | .none => false
  | _ => true
/-- x < y of data that are alike -/
def ltD : SV → SV → R Bool
  | .d (.int i), .d (.int j) => .ok (decide (i < j))
  | .d x, .d y => if PySem.W.alike x y = true ∧ notN x = true ∧ SeqAt.shaped x = true ∧ SeqAt.shaped y = true then .ok (PySem.W.dataLt x y) else .bad
  | _, _ => .bad
def inS (x : D) (y : SV) : R Bool := match y with
  | .d (.str z) => (match x with | .str c => .ok (!(Builtin.Str.occurrences z c 0 z.length 1).isEmpty) | _ => .bad)
  | .d (.dict kvs) => (do let o ← getD1 (.d (.dict kvs)) x; .ok o.isSome)
  | .ow w => (do let o ← getD1 (.ow w) x; .ok o.isSome)
  | y => (do let ds ← items y; if SeqAt.shaped x = true ∧ SeqAt.shaped (.list ds) = true then .ok (ds.any fun z => PyData.eqv z x) else .bad)
def isS : SV → SV → R Bool
  | .d .none, .d .none => .ok true
  | .d _, .d .none => .ok false
  | .l _, .d .none => .ok false
  | .ow _, .d .none => .ok false
  | .d (.bool a), .d (.bool b) => .ok (a == b)
  | _, _ => .bad
def opC : COp → SV → SV → R SV
  | .eq, x, y => (do let b ← eqS x.dat y.dat; bD b)
  | .ne, x, y => (do let b ← eqS x.dat y.dat; bD (!b))
  | .lt, x, y => (do let b ← ltD x y; bD b)
  | .gt, x, y => (do let b ← ltS y x; bD b)
  | .le, x, y => (do let b ← ltS y x; bD (!b))
  | .ge, x, y => (do let b ← ltS x y; bD (!b))
  | .is_, x, y => (do let b ← isS x y; bD b)
  | .isn, x, y => (do let b ← isS x y; bD (!b))
  | .in_, .d x, y => (do let b ← inS x y; bD b)
  | .nin, .d x, y => (do let b ← inS x y; bD (!b))
  | _, _, _ => .bad
def idxS : SV → SV → R SV
  | .d (.str z), .d (.int i) => if z.length ≤ LIM then (match atI z.cps.toList i with | some c => .ok (.d (.str ⟨#[c]⟩)) | none => .bad) else .bad
  | .ow w, .d k => (do let o ← getD1 (.ow w) k; match o with | some x => .ok (.d x) | none => .bad)
  | .d (.dict kvs), .d k => (do let o ← getD1 (.d (.dict kvs)) k; match o with | some x => .ok (.d x) | none => .bad)
  | s, .d (.int i) => (do let ds ← items s; match atI ds i with | some x => .ok (.d x) | none => .bad)
  | _, _ => .bad
def cutD (xs : List D) (lo hi : Option Int) : List D := (xs.drop (HT.sIx xs.length 0 lo)).take (HT.sIx xs.length xs.length hi - HT.sIx xs.length 0 lo)
def cutB (s : SV) (lo hi : Option Int) : R SV := match s with
  | .d (.tuple xs) => .ok (.d (.tuple (cutD xs lo hi)))
  | .d (.list xs) => .ok (.l (cutD xs lo hi))
  | .l xs => .ok (.l (cutD xs lo hi))
  | _ => .bad
def revB : SV → R SV
  | .d (.list xs) => .ok (.l xs.reverse)
  | .l xs => .ok (.l xs.reverse)
  | .d (.tuple xs) => .ok (.d (.tuple xs.reverse))
  | _ => .bad
def intsD : List D → R (List Int)
  | [] => .ok []
  | .int i :: r => (do let ns ← intsD r; .ok (i :: ns))
  | _ => .bad
def pairsD : List D → R (List (Int × Int))
  | [] => .ok []
  | .tuple [.int i, .int j] :: r => (do let ps ← pairsD r; .ok ((i, j) :: ps))
  | _ => .bad
def prD (p : Int × Int) : D := .tuple [.int p.1, .int p.2]
def ltQ (p q : Int × Int) : Bool := decide (p.1 < q.1) || (decide (p.1 = q.1) && decide (p.2 < q.2))
def srtU (ps : List (Int × Int)) : List (Int × Int) := ps.eraseDups.mergeSort fun p q => !ltQ q p
def lowQ (p : Int × Int) : Bool := decide (0 ≤ p.1) && (decide (p.1 < 64) && (decide (0 ≤ p.2) && decide (p.2 < 64)))
def boolsD : List D → R (List Bool)
  | [] => .ok []
  | .bool i :: r => (do let ns ← boolsD r; .ok (i :: ns))
  | _ => .bad
def maxI (n : Int) (ns : List Int) : Int := ns.foldl (fun a b => if b > a then b else a) n
def minI (n : Int) (ns : List Int) : Int := ns.foldl (fun a b => if b < a then b else a) n
/-- the list's items: of a list, not of a tuple -/
def listOf : SV → R (List D)
  | .l xs => .ok xs
  | .d (.list xs) => .ok xs
  | _ => .bad
def allInts (ds : List D) : Bool := ds.all fun d => match d with | .int _ => true | _ => false
def tupNE : D → Bool
  | .tuple (_ :: _) => true
  | _ => false
def notNT : D → Bool
  | .none => false
  | .tuple _ => false
  | _ => true
def isUnit : List D → Bool
  | [.tuple []] => true
  | _ => false
/-- things of one kind, that sort -/
def sortOk (ds : List D) : Bool := (ds.all fun d => ds.all fun e => PySem.W.alike d e) && ((ds.all fun d => decide (d.depth ≤ 64)) && (((ds.all tupNE || ds.all notNT) || isUnit ds) && decide (ds.length ≤ LIM)))
def tupOf : SV → R (List D)
  | .d (.tuple xs) => .ok xs
  | _ => .bad
def rngD (lo hi : Int) : List D := (List.range (hi - lo).toNat).map fun i => PyData.int (lo + (i : Nat))
def rngOk (lo hi : Int) : Bool := decide (-(2 ^ 62) ≤ lo) && decide (lo < 2 ^ 62) && decide (-(2 ^ 62) ≤ hi) && decide (hi < 2 ^ 62)
def seqD : D → Bool
  | .list _ => true
  | .tuple _ => true
  | _ => false
/-- what repr shows -/
def showOk (x : D) : Bool := seqD x && (noD x && (x.showable && (!x.hasDict && (decide (x.depth ≤ 64) && decide (x.shown.length ≤ LIM)))))
/-- the greatest, the least of things that are alike -/
def altOk (ds : List D) : Bool := (ds.all fun d => ds.all fun e => PySem.W.alike d e) && ((ds.all notN) && (ds.all fun d => decide (d.depth ≤ 64)))
def bestD (mx : Bool) (x : D) (xs : List D) : D := xs.foldl (fun a y => if (if mx then PySem.W.dataLt a y else PySem.W.dataLt y a) then y else a) x
def bestS (mx : Bool) : List D → R SV
  | [] => .bad
  | x :: xs => if altOk (x :: xs) = true then .ok (.d (bestD mx x xs)) else .bad
def opF : BF → SV → R SV
  | .len, .d (.str z) => if z.length ≤ LIM then .ok (.d (.int z.length)) else .bad
  | .len, s => (do let ds ← items s; .ok (.d (.int ds.length)))
  | .abs, .d (.int i) => .ok (.d (.int (if i < 0 then -i else i)))
  | .int, .d (.int i) => .ok (.d (.int i))
  | .int, .d (.bool b) => .ok (.d (.int (if b then 1 else 0)))
  | .int, .d (.str z) => (match PySem.intText? z with | some n => if z.length ≤ 640 then .ok (.d (.int n)) else .bad | none => .bad)
  | .str, .d (.int i) => if i.natAbs.log2 < 1920 then .ok (.d (.str (toString i))) else .bad
  | .sum, s => (do let ds ← listOf s; let ns ← intsD ds; .ok (.d (.int ns.sum)))
  | .max, s => (do let ds ← items s; bestS true ds)
  | .min, s => (do let ds ← items s; bestS false ds)
  | .any, s => (do let ds ← listOf s; let ns ← boolsD ds; .ok (.d (.bool (ns.any id))))
  | .all, s => (do let ds ← listOf s; let ns ← boolsD ds; .ok (.d (.bool (ns.all id))))
  | .tuple, s => (do let ds ← items s; .ok (.d (.tuple ds)))
  | .list, .ow (.m _ kvs) => .ok (.l (kvs.map (·.1)))
  | .list, s => (do let ds ← items s; .ok (.l ds))
  | .sorted, s => (do
      let ds ← items s
      if sortOk ds = true then .ok (.l (ds.mergeSort (PySem.W.dataLe false id))) else .bad)
  | .repr, .d .none => .ok (.d (.str "None"))
  | .repr, .d (.int i) => if i.natAbs.log2 < 1920 then .ok (.d (.str (toString i))) else .bad
  | .repr, .d (.str z) => if (reprText z).length ≤ LIM then .ok (.d (.str (reprText z))) else .bad
  | .repr, .d x => if showOk x = true then .ok (.d (.str x.shown)) else .bad
  | .lrng, .d (.int n) => if rngOk 0 n = true ∧ n ≤ 1000000 then .ok (.l (rngD 0 n)) else .bad
  | .trng, .d (.int n) => if rngOk 0 n = true ∧ n ≤ 1000000 then .ok (.d (.tuple (rngD 0 n))) else .bad
  | .dict, s => (do let ds ← listOf s; let kvs ← kvsD ds; .ok (.ow (.m false (mergeD [] kvs))))
  | .sortedset, s => (do let ds ← tupOf s; let ps ← pairsD ds; if ps.length < 64 ∧ ps.all lowQ = true then .ok (.l ((srtU ps).map prD)) else .bad)
  | .lenset, s => (do let ds ← tupOf s; let ns ← intsD ds; if ns.length ≤ 4000 then .ok (.d (.int (ns.eraseDups.length : Nat))) else .bad)
  | _, _ => .bad
def opF2 : BF → SV → SV → R SV
  | .max, .d (.int i), .d (.int j) => .ok (.d (.int (if j > i then j else i)))
  | .min, .d (.int i), .d (.int j) => .ok (.d (.int (if j < i then j else i)))
  | _, _, _ => .bad
def isiS : Ty → SV → Bool
  | .int, .d (.int _) => true
  | .int, .d (.bool _) => true
  | .bool, .d (.bool _) => true
  | .str, .d (.str _) => true
  | .tuple, .d (.tuple _) => true
  | .list, .d (.list _) => true
  | .list, .l _ => true
  | .dict, .d (.dict _) => true
  | .dict, .ow _ => true
  | _, _ => false

/-- methods of texts with one argument -/
inductive TM where
  | join | split | index
  deriving DecidableEq
def isT : SV → R Str
  | .d (.str z) => .ok z
  | _ => .bad
def strsOf : List D → R (List Str)
  | [] => .ok []
  | .str z :: r => (do let zs ← strsOf r; .ok (z :: zs))
  | _ => .bad
def opT : TM → Str → SV → R SV
  | .join, z, s => (do let ds ← items s; let ys ← strsOf ds; if (ys.map (·.length)).sum + ys.length * z.length ≤ 16777216 then .ok (.d (.str (Txt.join z ys))) else .bad)
  | .split, z, .d (.str y) => if (y.length == 0) = false ∧ z.length + 2 ≤ LIM then .ok (.l ((Txt.split z y).map PyData.str)) else .bad
  | .index, z, .d (.str y) => (match Txt.index0 z y with | some k => .ok (.d (.int (k : Nat))) | none => .bad)
  | _, _, _ => .bad
def isFn : SV → R Str
  | .ow (.fn x) => .ok x
  | _ => .bad
/-- methods that change a list, or look at it -/
inductive Mth where
  | pop | insert | index
  deriving DecidableEq
def opM : Mth → List D → List D → R (D × List D)
  | .pop, xs, [.int i] => if ¬ (-(2 ^ 62) ≤ i ∧ i < 2 ^ 62) then .bad else (match L2.ixN xs.length i with
    | some k => (match xs[k]? with
      | some y => .ok (y, xs.eraseIdx k)
      | none => .bad)
    | none => .bad)
  | .insert, xs, [.int i, x] => if 0 ≤ i ∧ i < 2 ^ 62 ∧ xs.length < LIM then .ok (.none, xs.take i.toNat ++ [x] ++ xs.drop i.toNat) else .bad
  | .index, xs, [x] => if SeqAt.shaped (.list xs) = true ∧ SeqAt.shaped x = true then (match xs.findIdx? (fun z => PyData.eqv z x) with
    | some j => .ok (.int (j : Nat), xs)
    | none => .bad) else .bad
  | _, _, _ => .bad

/-- o[k] = x, in its place -/
def putS : SV → SV → D → R SV
  | .l xs, .d (.int j), x => (match ixN xs.length j with
    | some n => .ok (.l (xs.set n x))
    | none => .bad)
  | .ow (.m t kvs), .d k, x => if keyOk t k = true ∧ kvs.length < LIM then .ok (.ow (.m t (putD kvs k x))) else .bad
  | _, _, _ => .bad
/-! ### the language -/
inductive Fl where
  | nx | brk | cnt
  | ret (s : SV)
/-- how a parameter is used: left as it is; changed in its place; anything -/
inductive PM where
  | ro | rw | pu
  deriving DecidableEq
structure Gl0 where
  fn : Str → List SV → R (SV × List (Option SV))
  md : Str → List PM
  gl : Str → Option D
  fuel : Nat
mutual
inductive Tg where
  | n (i : Nat)
  | t (ts : Tgs)
inductive Tgs where
  | nil
  | cons (t : Tg) (r : Tgs)
end
mutual
inductive E where
  | non
  | bl (b : Bool)
  | int (i : Int)
  | str (x : Str)
  | var (i : Nat)
  | mv (i : Nat)
  | fz (e : E)
  | glob (x : Str)
  | tup (es : Es)
  | lst (es : Es)
  | bin (op : BOp) (a b : E)
  | neg (a : E)
  | cmp (op : COp) (a b : E)
  | chain (op op' : COp) (a b c : E)
  | and (a b : E)
  | or (a b : E)
  | not (a : E)
  | ifx (c a b : E)
  | idx (a b : E)
  | slB (a lo hi : E)
  | slF (a lo : E)
  | slT (a hi : E)
  | rev (a : E)
  | call (f : Str) (es : Es)
  | bf (f : BF) (a : E)
  | bf2 (f : BF) (a b : E)
  | isi (t : Ty) (a : E)
  | lc0 (own : List (Str × Nat)) (t : Tg) (it : It) (e : E)
  | lc1 (own : List (Str × Nat)) (t : Tg) (it : It) (c e : E)
  | app (i : Nat) (e : E)
  | ext (i : Nat) (e : E)
  | mth (m : Mth) (i : Nat) (es : Es)
  | dct0
  | dct1 (k v : Int)
  | dctO (t : Bool)
  | dctP (k v : E)
  | get1 (a k : E)
  | get2 (a k x : E)
  | tm (m : TM) (a b : E)
  | fnv (x : Str)
  | callv (cs : List Str) (i : Nat) (es : Es)
inductive Es where
  | nil
  | cons (e : E) (r : Es)
inductive It where
  | e (x : E)
  | rng1 (x : E)
  | rng2 (x y : E)
  | enum (x : E)
  | zip (x y : E)
end
mutual
inductive S where
  | asg (t : Tg) (e : E)
  | par (is : List Nat) (es : Es)
  | seti (i : Nat) (k e : E)
  | aug (i : Nat) (e : E)
  | ex (e : E)
  | ret (e : E)
  | retn
  | ife (c : E) (a b : Ss)
  | whl (c : E) (b : Ss)
  | for_ (t : Tg) (it : It) (b : Ss)
  | brk
  | cnt
  | pas
  | dead
inductive Ss where
  | nil
  | cons (s : S) (r : Ss)
end

/-! ### meaning -/
mutual
def Tg.put : Tg → D → Env → R Env
  | .n i, d, ρ => if i < ρ.length then .ok (ρ.set i (some (.d d))) else .bad
  | .t ts, .tuple ds, ρ => ts.puts ds ρ
  | .t _, _, _ => .bad
def Tgs.puts : Tgs → List D → Env → R Env
  | .nil, [], ρ => .ok ρ
  | .cons t r, d :: ds, ρ => (do let ρ ← t.put d ρ; r.puts ds ρ)
  | _, _, _ => .bad
end
def wipeE (own : List (Str × Nat)) (ρ : Env) : Env := own.foldr (fun p r => r.set p.2 none) ρ
def keepD : Option (Option SV) → Option SV
  | some (some (.d x)) => some (.d x)
  | _ => none
/-- the slots of a comprehension's own names, as they were ahead of it (data alone) -/
def mrg (own : List (Str × Nat)) (ρ1 ρ : Env) : Env := own.foldr (fun p r => r.set p.2 (keepD ρ1[p.2]?)) ρ
def lcGo (own : List (Str × Nat)) (step : D → Env → R (Option D × Env)) : List D → List D → Env → R (List D × Env)
  | [], acc, ρ => .ok (acc, ρ)
  | d :: ds, acc, ρ => (do
    let (o, ρ) ← step d ρ
    match o with
    | some x => if acc.length < LIM then lcGo own step ds (acc ++ [x]) (wipeE own ρ) else .bad
    | none => lcGo own step ds acc (wipeE own ρ))
def forGo (t : Tg) (b : Env → R (Fl × Env)) : List D → Env → R (Fl × Env)
  | [], ρ => .ok (.nx, ρ)
  | d :: ds, ρ => (do
    let ρ ← t.put d ρ
    let (f, ρ) ← b ρ
    match f with
    | .ret s => .ok (.ret s, ρ)
    | .brk => .ok (.nx, ρ)
    | _ => forGo t b ds ρ)
def whGo (c : Env → R (Bool × Env)) (b : Env → R (Fl × Env)) : Nat → Env → R (Fl × Env)
  | 0, _ => .bad
  | n + 1, ρ => (do
    let (k, ρ) ← c ρ
    if k = true then (do
      let (f, ρ) ← b ρ
      match f with
      | .ret s => .ok (.ret s, ρ)
      | .brk => .ok (.nx, ρ)
      | _ => whGo c b n ρ)
    else .ok (.nx, ρ))

def enumD : Nat → List D → List D
  | _, [] => []
  | i, d :: ds => .tuple [.int (i : Nat), d] :: enumD (i + 1) ds
def zipD : List D → List D → List D
  | a :: as, b :: bs => .tuple [a, b] :: zipD as bs
  | _, _ => []
def isI : SV → R Int
  | .d (.int i) => .ok i
  | _ => .bad
def own1 : List O → List SV → List Nat
  | .var i :: os, s :: ss => if isOwn s then i :: own1 os ss else own1 os ss
  | _ :: os, _ :: ss => own1 os ss
  | _, _ => []
/-- behind a call: what became of the lists that were handed in -/
def wb : List PM → List O → List SV → List (Option SV) → Env → Env
  | m :: ms, o :: os, s :: ss, a :: as, ρ => match o, isOwn s, m with
    | .var i, true, .rw => wb ms os ss as (ρ.set i a)
    | .var i, true, .pu => wb ms os ss as (ρ.set i none)
    | _, _, _ => wb ms os ss as ρ
  | _, _, _, _, ρ => ρ
section
variable (Γ : Gl0)
mutual
def E.den : E → Env → R (O × Env)
  | .non, ρ => .ok (.val (.d .none), ρ)
  | .bl b, ρ => .ok (.val (.d (.bool b)), ρ)
  | .int i, ρ => .ok (.val (.d (.int i)), ρ)
  | .str x, ρ => .ok (.val (.d (.str x)), ρ)
  | .var i, ρ => (do let _ ← rd ρ i; .ok (.var i, ρ))
  | .mv i, ρ => (do let s ← rd ρ i; .ok (.val s, ρ.set i none))
  | .fz e, ρ => (do let (o, ρ) ← e.den ρ; let s ← o.use ρ; let s ← noFn s; .ok (.val (.d s.dat), ρ))
  | .glob x, ρ => match Γ.gl x with
    | some d => .ok (.val (.d d), ρ)
    | none => .bad
  | .tup es, ρ => (do let (os, ρ) ← es.dens ρ; let ds ← useDs ρ os; .ok (.val (.d (.tuple ds)), ρ))
  | .lst es, ρ => (do let (os, ρ) ← es.dens ρ; let ds ← useDs ρ os; .ok (.val (.l ds), ρ))
  | .bin op a b, ρ => (do let (x, ρ) ← a.den ρ; let (y, ρ) ← b.den ρ; let s ← x.get ρ; let t ← y.get ρ; let r ← opB op s t; .ok (.val r, ρ))
  | .neg a, ρ => (do let (x, ρ) ← a.den ρ; let s ← x.get ρ; let i ← isI s; .ok (.val (.d (.int (-i))), ρ))
  | .cmp op a b, ρ => (do let (x, ρ) ← a.den ρ; let (y, ρ) ← b.den ρ; let s ← x.get ρ; let t ← y.get ρ; let r ← opC op s t; .ok (.val r, ρ))
  | .chain op op' a b c, ρ => (do
    let (x, ρ) ← a.den ρ; let (y, ρ) ← b.den ρ; let s ← x.get ρ; let t ← y.get ρ; let r ← opC op s t; let k ← isB r
    if k = true then (do let (z, ρ) ← c.den ρ; let t ← y.get ρ; let u ← z.get ρ; let r ← opC op' t u; .ok (.val r, ρ)) else .ok (.val (.d (.bool false)), ρ))
  | .and a b, ρ => (do let (x, ρ) ← a.den ρ; let k ← x.tru ρ; if k = true then b.den ρ else .ok (.val (.d (.bool false)), ρ))
  | .or a b, ρ => (do let (x, ρ) ← a.den ρ; let k ← x.tru ρ; if k = true then .ok (.val (.d (.bool true)), ρ) else b.den ρ)
  | .not a, ρ => (do let (x, ρ) ← a.den ρ; let k ← x.tru ρ; .ok (.val (.d (.bool (!k))), ρ))
  | .ifx c a b, ρ => (do let (x, ρ) ← c.den ρ; let k ← x.tru ρ; if k = true then a.den ρ else b.den ρ)
  | .idx a b, ρ => (do let (x, ρ) ← a.den ρ; let (y, ρ) ← b.den ρ; let s ← x.get ρ; let t ← y.get ρ; let r ← idxS s t; .ok (.val r, ρ))
  | .slB a lo hi, ρ => (do let (x, ρ) ← a.den ρ; let (y, ρ) ← lo.den ρ; let t ← y.get ρ; let i ← isI t; let (z, ρ) ← hi.den ρ; let s ← x.get ρ; let u ← z.get ρ; let j ← isI u; let r ← cutB s (some i) (some j); .ok (.val r, ρ))
  | .slF a lo, ρ => (do let (x, ρ) ← a.den ρ; let (y, ρ) ← lo.den ρ; let s ← x.get ρ; let t ← y.get ρ; let i ← isI t; let r ← cutB s (some i) none; .ok (.val r, ρ))
  | .slT a hi, ρ => (do let (x, ρ) ← a.den ρ; let (z, ρ) ← hi.den ρ; let s ← x.get ρ; let u ← z.get ρ; let j ← isI u; let r ← cutB s none (some j); .ok (.val r, ρ))
  | .rev a, ρ => (do let (x, ρ) ← a.den ρ; let s ← x.get ρ; let r ← revB s; .ok (.val r, ρ))
  | .call f es, ρ => (do
    let (os, ρ) ← es.dens ρ
    let ss ← gets ρ os
    if (own1 os ss).Nodup ∧ (Γ.md f).length = os.length then (do
      let (r, as) ← Γ.fn f ss
      .ok (.val r, wb (Γ.md f) os ss as ρ))
    else .bad)
  | .bf f a, ρ => (do let (x, ρ) ← a.den ρ; let s ← x.get ρ; let r ← opF f s; .ok (.val r, ρ))
  | .bf2 f a b, ρ => (do let (x, ρ) ← a.den ρ; let (y, ρ) ← b.den ρ; let s ← x.get ρ; let t ← y.get ρ; let r ← opF2 f s t; .ok (.val r, ρ))
  | .isi T a, ρ => (do let (x, ρ) ← a.den ρ; let s ← x.get ρ; let s ← noFn s; .ok (.val (.d (.bool (isiS T s))), ρ))
  | .lc0 own t it e, ρ => (do
    let (ds, ρ1) ← it.den ρ
    let (r, ρ2) ← lcGo own (fun d ρ => (do let ρ ← t.put d ρ; let (o, ρ) ← e.den ρ; let x ← o.useD ρ; .ok (some x, ρ))) ds [] (wipeE own ρ1)
    .ok (.val (.l r), mrg own ρ1 ρ2))
  | .lc1 own t it c e, ρ => (do
    let (ds, ρ1) ← it.den ρ
    let (r, ρ2) ← lcGo own (fun d ρ => (do let ρ ← t.put d ρ; let (b, ρ) ← c.den ρ; let k ← b.tru ρ; if k = true then (do let (o, ρ) ← e.den ρ; let x ← o.useD ρ; .ok (some x, ρ)) else .ok (none, ρ))) ds [] (wipeE own ρ1)
    .ok (.val (.l r), mrg own ρ1 ρ2))
  | .app i e, ρ => (do
    let _ ← rdL ρ i
    let (o, ρ) ← e.den ρ
    let x ← o.useD ρ
    let xs ← rdL ρ i
    if xs.length < LIM then .ok (.val (.d .none), ρ.set i (some (.l (xs ++ [x])))) else .bad)
  | .ext i e, ρ => (do
    let _ ← rdL ρ i
    let (o, ρ) ← e.den ρ
    let ys ← o.newL
    let xs ← rdL ρ i
    if xs.length + ys.length ≤ LIM then .ok (.val (.d .none), ρ.set i (some (.l (xs ++ ys)))) else .bad)
  | .mth m i es, ρ => (do
    let _ ← rdL ρ i
    let (os, ρ) ← es.dens ρ
    let ds ← useDs ρ os
    let xs ← rdL ρ i
    let (r, ys) ← opM m xs ds
    .ok (.val (.d r), ρ.set i (some (.l ys))))
  | .dct0, ρ => .ok (.val (.d (.dict [])), ρ)
  | .dct1 k v, ρ => .ok (.val (.d (.dict [(.int k, .int v)])), ρ)
  | .dctO t, ρ => .ok (.val (.ow (.m t [])), ρ)
  | .dctP k v, ρ => (do let (o, ρ) ← k.den ρ; let (p, ρ) ← v.den ρ; let x ← o.useD ρ; let y ← p.useD ρ; if isKy x = true then .ok (.val (.ow (.m false [(x, y)])), ρ) else .bad)
  | .get1 a k, ρ => (do let (o, ρ) ← a.den ρ; let s0 ← o.get ρ; let _ ← s0.dic; let (p, ρ) ← k.den ρ; let s ← o.get ρ; let x ← p.useD ρ; let v ← getD1 s x; .ok (.val (.d (v.getD .none)), ρ))
  | .get2 a k z, ρ => (do let (o, ρ) ← a.den ρ; let s0 ← o.get ρ; let _ ← s0.dic; let (p, ρ) ← k.den ρ; let (q, ρ) ← z.den ρ; let s ← o.get ρ; let x ← p.useD ρ; let y ← q.useD ρ; let v ← getD1 s x; .ok (.val (.d (v.getD y)), ρ))
  | .tm m a b, ρ => (do let (x, ρ) ← a.den ρ; let s0 ← x.get ρ; let z ← isT s0; let (y, ρ) ← b.den ρ; let t ← y.get ρ; let r ← opT m z t; .ok (.val r, ρ))
  | .fnv x, ρ => .ok (.val (.ow (.fn x)), ρ)
  | .callv cs i es, ρ => (do let s ← rd ρ i; let x ← isFn s; let (os, ρ) ← es.dens ρ; let ds ← useDs ρ os; if cs.contains x = true then (do let (r, _) ← Γ.fn x (ds.map .d); .ok (.val r, ρ)) else .bad)
def Es.dens : Es → Env → R (List O × Env)
  | .nil, ρ => .ok ([], ρ)
  | .cons e r, ρ => (do let (o, ρ) ← e.den ρ; let (os, ρ) ← r.dens ρ; .ok (o :: os, ρ))
def It.den : It → Env → R (List D × Env)
  | .e x, ρ => (do let (o, ρ) ← x.den ρ; let s ← o.get ρ; let ds ← seqI s; .ok (ds, ρ))
  | .rng1 x, ρ => (do let (o, ρ) ← x.den ρ; let s ← o.get ρ; let n ← isI s; if rngOk 0 n = true then .ok (rngD 0 n, ρ) else .bad)
  | .rng2 x y, ρ => (do let (o, ρ) ← x.den ρ; let (p, ρ) ← y.den ρ; let s ← o.get ρ; let t ← p.get ρ; let m ← isI s; let n ← isI t; if rngOk m n = true then .ok (rngD m n, ρ) else .bad)
  | .enum x, ρ => (do let (o, ρ) ← x.den ρ; let s ← o.get ρ; let ds ← items s; .ok (enumD 0 ds, ρ))
  | .zip x y, ρ => (do let (o, ρ) ← x.den ρ; let (p, ρ) ← y.den ρ; let s ← o.get ρ; let t ← p.get ρ; let ds ← items s; let es ← items t; .ok (zipD ds es, ρ))
end
/-- a condition -/
def E.test (c : E) (ρ : Env) : R (Bool × Env) := (do let (o, ρ) ← c.den Γ ρ; let k ← o.tru ρ; .ok (k, ρ))
def O.give (o : O) (ρ : Env) : R SV := o.use ρ
mutual
def S.den : S → Env → R (Fl × Env)
  | .asg (.n i) e, ρ => (do let (o, ρ) ← e.den Γ ρ; let s ← o.use ρ; if i < ρ.length then .ok (.nx, ρ.set i (some s)) else .bad)
  | .par is es, ρ => (do let (os, ρ) ← es.dens Γ ρ; let ss ← uses ρ os; let ρ ← puts is ss ρ; .ok (.nx, ρ))
  | .asg (.t ts) e, ρ => (do let (o, ρ) ← e.den Γ ρ; let d ← o.useD ρ; let ρ ← (Tg.t ts).put d ρ; .ok (.nx, ρ))
  | .seti i k e, ρ => (do
    let (o, ρ) ← e.den Γ ρ
    let _ ← rd ρ i
    let (q, ρ) ← k.den Γ ρ
    let x ← o.useD ρ
    let t ← q.get ρ
    let w ← rd ρ i
    let w' ← putS w t x
    .ok (.nx, ρ.set i (some w')))
  | .aug i e, ρ => (do let s ← rd ρ i; let a ← isI s; let (o, ρ) ← e.den Γ ρ; let t ← o.get ρ; let b ← isI t; if i < ρ.length then .ok (.nx, ρ.set i (some (.d (.int (a + b))))) else .bad)
  | .ex e, ρ => (do let (_, ρ) ← e.den Γ ρ; .ok (.nx, ρ))
  | .ret e, ρ => (do let (o, ρ) ← e.den Γ ρ; let s ← o.use ρ; .ok (.ret s, ρ))
  | .retn, ρ => .ok (.ret (.d .none), ρ)
  | .ife c a b, ρ => (do let (k, ρ) ← c.test Γ ρ; if k = true then a.dens ρ else b.dens ρ)
  | .whl c b, ρ => whGo (fun ρ => c.test Γ ρ) (fun ρ => b.dens ρ) Γ.fuel ρ
  | .for_ t it b, ρ => (do let (ds, ρ) ← it.den Γ ρ; forGo t (fun ρ => b.dens ρ) ds ρ)
  | .brk, ρ => .ok (.brk, ρ)
  | .cnt, ρ => .ok (.cnt, ρ)
  | .pas, ρ => .ok (.nx, ρ)
  | .dead, _ => .bad
def Ss.dens : Ss → Env → R (Fl × Env)
  | .nil, ρ => .ok (.nx, ρ)
  | .cons s r, ρ => (do
    let (f, ρ) ← s.den ρ
    match f with
    | .nx => r.dens ρ
    | f => .ok (f, ρ))
end
end
end Dn

set_option Elab.async false
set_option linter.all false
set_option maxRecDepth 100000
set_option maxHeartbeats 4000000
/-! Dn, part C: the operations by the layer's rules. -/
namespace Dn
open PySem PySem.Spec PyProof.Rows L2

section
variable {K : PySem.W.Frag} {H H' : Hp}
theorem noFn_ok {s t : SV} (h : noFn s = .ok t) : t = s ∧ ∀ x, s ≠ .ow (.fn x) := by
  cases s with
  | d x => cases h; exact ⟨rfl, fun _ z => by cases z⟩
  | l x => cases h; exact ⟨rfl, fun _ z => by cases z⟩
  | ow w => cases w <;> first | (cases h; exact ⟨rfl, fun _ z => by cases z⟩) | cases h
/-- an operator's rule serves a meaning -/
def Ok2 (K : PySem.W.Frag) (r : R2) (f : SV → SV → R SV) : Prop := ∀ (H : Hp) (sa sb : SV) (va vb : V) (Ga Gb : Addr → Prop) (s : SV) (Q : VK),
  RS K H sa va Ga → RS K H sb vb Gb → f sa sb = .ok s → (∀ v H', Step K H s v H' → Q v H') → r va vb H Q
def Ok1 (K : PySem.W.Frag) (r : V → Hp → VK → Prop) (f : SV → R SV) : Prop := ∀ (H : Hp) (sa : SV) (va : V) (Ga : Addr → Prop) (s : SV) (Q : VK),
  RS K H sa va Ga → f sa = .ok s → (∀ v H', Step K H s v H' → Q v H') → r va H Q
theorem lim_eq : (LIM : Nat) = sizeLine := by rw [sizeLine_eq]
theorem RpAll.cut {xs : List D} {vs : List V} (h : RpAll K H xs vs) (lo hi : Option Int) : RpAll K H (cutD xs lo hi) (cutV vs lo hi) := by
  unfold cutD cutV
  rw [h.len]
  exact (h.drop _).take _
/-! ### dicts -/
theorem kyD_rp {k : Key} {v : V} (h : Rp K H (kyD k) v) : v = kV k := by
  cases k with
  | inl n => cases h; rfl
  | inr x => cases h; rfl
theorem kyD_of {d : D} (h : isKy d = true) : ∃ k, d = kyD k := by
  cases d with
  | int n => exact ⟨.inl n, rfl⟩
  | str x => exact ⟨.inr x, rfl⟩
  | _ => cases h
theorem kyT_of {ds : List D} (h : (ds.all isKy && !strsD ds) = true) : (ds.all isKy) = true ∧ strsD ds = false := by
  rw [Bool.and_eq_true, Bool.not_eq_true'] at h; exact h
theorem kyDs_of : ∀ {ds : List D}, (ds.all isKy) = true → ∃ ks : List Key, ds = ks.map kyD
  | [], _ => ⟨[], rfl⟩
  | d :: ds, h => by
    rw [List.all_cons, Bool.and_eq_true] at h
    obtain ⟨k, rfl⟩ := kyD_of h.1
    obtain ⟨ks, rfl⟩ := kyDs_of h.2
    exact ⟨k :: ks, rfl⟩
theorem kyDs_rp : ∀ {ks : List Key} {vs : List V}, RpAll K H (ks.map kyD) vs → vs = ks.map kV
  | [], _, h => by cases h; rfl
  | k :: ks, _, h => by
    have h' : RpAll K H (kyD k :: ks.map kyD) _ := h
    cases h' with
    | cons h1 h2 => rw [kyD_rp h1, kyDs_rp h2]; rfl
theorem eqKy_kyD (a b : Key) : eqKy (kyD a) (kyD b) = decide (a = b) := by
  cases a <;> cases b <;> simp [kyD, eqKy]
theorem eqKs_kyD : ∀ a b : List Key, eqKs (a.map kyD) (b.map kyD) = decide (a = b)
  | [], [] => rfl
  | [], _ :: _ => rfl
  | _ :: _, [] => rfl
  | x :: a, y :: b => by
    show (eqKy (kyD x) (kyD y) && eqKs (a.map kyD) (b.map kyD)) = _
    rw [eqKy_kyD, eqKs_kyD a b, Bool.eq_iff_iff]
    simp
theorem eqK_kyD (a b : Key) : eqK (kyD a) (kyD b) = decide (a = b) := by
  rw [← eqKy_kyD]
  cases a <;> cases b <;> rfl
theorem eqK_kyDs (a b : List Key) : eqK (.tuple (a.map kyD)) (.tuple (b.map kyD)) = decide (a = b) := eqKs_kyD a b
/-- what a look-up gives, told twice -/
def RelD (K : PySem.W.Frag) (H : Hp) : Option D → Option V → Prop
  | none, none => True
  | some x, some v => Rp K H x v
  | _, _ => False
theorem valD_cons {p : D × D} {kvs : List (D × D)} {k : D} : valD (p :: kvs) k = if eqK p.1 k = true then some p.2 else valD kvs k := by
  unfold valD
  rw [List.find?_cons]
  cases h : eqK p.1 k with
  | true => rfl
  | false => rfl
theorem RpKs.val : ∀ {kvs : List (D × D)} {ks : List (Key × V)} (k : Key), RpKs K H kvs ks → RelD K H (valD kvs (kyD k)) (valV ks k)
  | _, _, _, .nil => trivial
  | _, _, k, .cons (k := j) h1 h2 => by
    rw [valD_cons, eqK_kyD]
    by_cases e : j = k
    · rw [if_pos (decide_eq_true e), valV_pos e]; exact h1
    · rw [if_neg (by simpa using e), valV_neg e]; exact RpKs.val k h2
theorem RpTs.val : ∀ {kvs : List (D × D)} {ks : List (List Key × V)} (k : List Key), RpTs K H kvs ks → RelD K H (valD kvs (.tuple (k.map kyD))) (valV ks k)
  | _, _, _, .nil => trivial
  | _, _, k, .cons (k := j) h1 h2 => by
    rw [valD_cons, eqK_kyDs]
    by_cases e : j = k
    · rw [if_pos (decide_eq_true e), valV_pos e]; exact h1
    · rw [if_neg (by simpa using e), valV_neg e]; exact RpTs.val k h2
theorem RelD.isSome {o : Option D} {u : Option V} (h : RelD K H o u) : u.isSome = o.isSome := by
  cases o <;> cases u <;> first | rfl | exact h.elim
theorem RelD.get {o : Option D} {u : Option V} {x : D} {v : V} (h : RelD K H o u) (d : Rp K H x v) : Rp K H (o.getD x) (u.getD v) := by
  cases o <;> cases u <;> first | exact d | exact h | exact h.elim
theorem RpKs.any (k : Key) : ∀ {kvs : List (D × D)} {ks : List (Key × V)}, RpKs K H kvs ks → (kvs.any fun p => eqK p.1 (kyD k)) = ks.any fun kv => decide (kv.1 = k)
  | _, _, .nil => rfl
  | _, _, .cons _ h2 => by rw [List.any_cons, List.any_cons, RpKs.any k h2, eqK_kyD]
theorem RpKs.repl (k : Key) {y : D} {v : V} (r : Rp K H y v) : ∀ {kvs : List (D × D)} {ks : List (Key × V)}, RpKs K H kvs ks → RpKs K H (kvs.map fun p => if eqK p.1 (kyD k) then (p.1, y) else p) (ks.map fun kv => if kv.1 = k then (kv.1, v) else kv)
  | _, _, .nil => .nil
  | _, _, .cons (k := j) h1 h2 => by
    rw [List.map_cons, List.map_cons, eqK_kyD]
    by_cases e : j = k
    · rw [if_pos (by simpa using e), if_pos e]; exact .cons r (RpKs.repl k r h2)
    · rw [if_neg (by simpa using e), if_neg e]; exact .cons h1 (RpKs.repl k r h2)
theorem RpKs.app : ∀ {kvs ls : List (D × D)} {ks ms : List (Key × V)}, RpKs K H kvs ks → RpKs K H ls ms → RpKs K H (kvs ++ ls) (ks ++ ms)
  | _, _, _, _, .nil, h => h
  | _, _, _, _, .cons h1 h2, h => .cons h1 (RpKs.app h2 h)
theorem RpKs.put (k : Key) {y : D} {v : V} (r : Rp K H y v) {kvs : List (D × D)} {ks : List (Key × V)} (h : RpKs K H kvs ks) : RpKs K H (putD kvs (kyD k) y) (putK ks k v) := by
  unfold putD putK
  rw [h.any k]
  split
  · exact h.repl k r
  · exact h.app (.cons r .nil)
theorem RpTs.any (k : List Key) : ∀ {kvs : List (D × D)} {ks : List (List Key × V)}, RpTs K H kvs ks → (kvs.any fun p => eqK p.1 (.tuple (k.map kyD))) = ks.any fun kv => decide (kv.1 = k)
  | _, _, .nil => rfl
  | _, _, .cons _ h2 => by rw [List.any_cons, List.any_cons, RpTs.any k h2, eqK_kyDs]
theorem RpTs.repl (k : List Key) {y : D} {v : V} (r : Rp K H y v) : ∀ {kvs : List (D × D)} {ks : List (List Key × V)}, RpTs K H kvs ks → RpTs K H (kvs.map fun p => if eqK p.1 (.tuple (k.map kyD)) then (p.1, y) else p) (ks.map fun kv => if kv.1 = k then (kv.1, v) else kv)
  | _, _, .nil => .nil
  | _, _, .cons (k := j) h1 h2 => by
    rw [List.map_cons, List.map_cons, eqK_kyDs]
    by_cases e : j = k
    · rw [if_pos (by simpa using e), if_pos e]; exact .cons r (RpTs.repl k r h2)
    · rw [if_neg (by simpa using e), if_neg e]; exact .cons h1 (RpTs.repl k r h2)
theorem RpTs.app : ∀ {kvs ls : List (D × D)} {ks ms : List (List Key × V)}, RpTs K H kvs ks → RpTs K H ls ms → RpTs K H (kvs ++ ls) (ks ++ ms)
  | _, _, _, _, .nil, h => h
  | _, _, _, _, .cons h1 h2, h => .cons h1 (RpTs.app h2 h)
theorem RpTs.put (k : List Key) {y : D} {v : V} (r : Rp K H y v) {kvs : List (D × D)} {ks : List (List Key × V)} (h : RpTs K H kvs ks) : RpTs K H (putD kvs (.tuple (k.map kyD)) y) (putK ks k v) := by
  unfold putD putK
  rw [h.any k]
  split
  · exact h.repl k r
  · exact h.app (.cons r .nil)
theorem RpKs.len : ∀ {kvs : List (D × D)} {ks : List (Key × V)}, RpKs K H kvs ks → kvs.length = ks.length
  | _, _, .nil => rfl
  | _, _, .cons _ h => congrArg Nat.succ h.len
theorem RpTs.len : ∀ {kvs : List (D × D)} {ks : List (List Key × V)}, RpTs K H kvs ks → kvs.length = ks.length
  | _, _, .nil => rfl
  | _, _, .cons _ h => congrArg Nat.succ h.len
/-- a dict as it is read -/
def DicAt (K : PySem.W.Frag) (H : Hp) (p : Addr) : Bool → List (D × D) → Prop
  | false, kvs => ∃ ks, Rd H p (.dK ks) ∧ RpKs K H kvs ks
  | true, kvs => ∃ ks, Rd H p (.dT ks) ∧ RpTs K H kvs ks
theorem dic_ok {s : SV} {v : V} {G : Addr → Prop} {t : Bool} {kvs : List (D × D)} (h : RS K H s v G) (e : s.dic = .ok (t, kvs)) : ∃ p, v = .ref p ∧ DicAt K H p t kvs := by
  cases s with
  | l xs => cases e
  | ow w =>
    cases w with
    | k _ _ _ => cases e
    | kt _ _ _ => cases e
    | fn _ => cases e
    | m t' kvs' =>
      cases e
      cases t with
      | false =>
        obtain ⟨p, ks, rfl, h1, h2, _⟩ := h
        exact ⟨p, rfl, ks, .inl h1, h2⟩
      | true =>
        obtain ⟨p, ks, rfl, h1, h2, _⟩ := h
        exact ⟨p, rfl, ks, .inl h1, h2⟩
  | d x =>
    obtain ⟨h, _⟩ := h
    cases h with
    | @dctK a o kvs' ks h1 h2 =>
      have e' : SV.dic (.d (.dict kvs')) = .ok (false, kvs') := by
        cases h2 with
        | nil => rfl
        | @cons k v ks d kvs h3 h4 => cases k <;> rfl
      rw [e'] at e
      cases e
      exact ⟨_, rfl, ks, .inr ⟨o, h1⟩, h2⟩
    | @dctT a o kvs' ks h1 h2 => cases e; exact ⟨_, rfl, ks, .inr ⟨o, h1⟩, h2⟩
    | _ => cases e
/-- a look-up -/
theorem dic_get {t : Bool} {kvs : List (D × D)} {p : Addr} {k : D} {vk : V} (h : DicAt K H p t kvs) (c : keyOk t k = true) (hk : Rp K H k vk) : ∃ u, DGet H p vk u ∧ RelD K H (valD kvs k) u := by
  cases t with
  | false =>
    obtain ⟨ks, h1, h2⟩ := h
    obtain ⟨j, rfl⟩ := kyD_of (show isKy k = true from c)
    exact ⟨_, .inl ⟨ks, j, h1, kyD_rp hk, rfl⟩, h2.val j⟩
  | true =>
    obtain ⟨ks, h1, h2⟩ := h
    cases k with
    | tuple ds =>
      obtain ⟨c1, c2⟩ := kyT_of (show (ds.all isKy && !strsD ds) = true from c)
      obtain ⟨js, rfl⟩ := kyDs_of c1
      cases hk with
      | tupS _ h4 h3 =>
        replace h3 := h3.resolve_right (by rw [c2]; exact Bool.false_ne_true)
        rw [kyDs_rp h4] at h3
        exact ⟨_, .inr ⟨ks, js, _, h1, rfl, h3, rfl⟩, h2.val js⟩
    | _ => cases c
theorem getD1_ok {s : SV} {v vk : V} {G : Addr → Prop} {k : D} {o : Option D} (h : RS K H s v G) (hk : Rp K H k vk) (e : getD1 s k = .ok o) : ∃ p u, v = .ref p ∧ DGet H p vk u ∧ RelD K H o u := by
  obtain ⟨⟨t, kvs⟩, e1, e2⟩ := bind_ok e
  obtain ⟨p, rfl, d⟩ := dic_ok h e1
  have e3 : (if keyOk t k = true then R.ok (valD kvs k) else .bad) = .ok o := e2
  by_cases c : keyOk t k = true
  · rw [if_pos c] at e3
    cases e3
    obtain ⟨u, h1, h2⟩ := dic_get d c hk
    exact ⟨p, u, rfl, h1, h2⟩
  · rw [if_neg c] at e3; cases e3
theorem dic_isD {s : SV} {v : V} {G : Addr → Prop} {q : Bool × List (D × D)} (h : RS K H s v G) (e : s.dic = .ok q) : ∃ p, v = .ref p ∧ IsD H p := by
  obtain ⟨t, kvs⟩ := q
  obtain ⟨p, rfl, d⟩ := dic_ok h e
  cases t with
  | false => obtain ⟨ks, h1, _⟩ := d; exact ⟨p, rfl, .inl ⟨ks, h1⟩⟩
  | true => obtain ⟨ks, h1, _⟩ := d; exact ⟨p, rfl, .inr ⟨ks, h1⟩⟩
theorem items_seq {s : SV} {v : V} {G : Addr → Prop} {ds : List D} (h : RS K H s v G) (e : items s = .ok ds) : ∃ p vs, v = .ref p ∧ (SqL K H p vs ∨ SqT K H p vs) ∧ RpAll K H ds vs := by
  cases s with
  | ow w => cases e
  | l xs =>
    obtain ⟨p, vs, e1, e2, r, _⟩ := h
    cases e
    exact ⟨p, vs, e1, .inl (.of e2), r⟩
  | d x =>
    obtain ⟨h, _⟩ := h
    cases h with
    | @lst a xs ds' h1 h2 => cases e; exact ⟨a, xs, rfl, .inl h1.sq, h2⟩
    | @tupS a xs ds' h1 h2 _ => cases e; exact ⟨a, xs, rfl, .inr h1, h2⟩
    | _ => cases e
theorem listOf_seq {s : SV} {v : V} {G : Addr → Prop} {ds : List D} (h : RS K H s v G) (e : listOf s = .ok ds) : ∃ p vs, v = .ref p ∧ SqL K H p vs ∧ RpAll K H ds vs := by
  cases s with
  | ow w => cases e
  | l xs =>
    obtain ⟨p, vs, e1, e2, r, _⟩ := h
    cases e
    exact ⟨p, vs, e1, .of e2, r⟩
  | d x =>
    obtain ⟨h, _⟩ := h
    cases h with
    | @lst a xs ds' h1 h2 => cases e; exact ⟨a, xs, rfl, h1.sq, h2⟩
    | _ => cases e
theorem shaped_lay {x : D} (h : SeqAt.shaped x = true) : noD x = true := by
  unfold SeqAt.shaped at h
  rw [Bool.and_eq_true] at h
  exact noD_lay x h.1
mutual
theorem noD_alike : ∀ x : D, PySem.W.alike x x = true → noD x = true
  | .none, _ => rfl
  | .bool _, _ => rfl
  | .int _, _ => rfl
  | .str _, _ => rfl
  | .list xs, h => by
    unfold noD
    exact noDs_alike xs (by simpa [PySem.W.alike] using h)
  | .tuple xs, h => by
    unfold noD
    exact noDs_alike xs (by simpa [PySem.W.alike] using h)
  | .dict _, h => by simp [PySem.W.alike] at h
theorem noDs_alike : ∀ xs : List D, PySem.W.alikeAll xs xs = true → noDs xs = true
  | [], _ => rfl
  | x :: xs, h => by
    obtain ⟨h1, h2⟩ := PySem.W.alike_all_cons h
    unfold noDs
    rw [noD_alike x h1, noDs_alike xs h2]
    rfl
end
theorem shaped_dep {x : D} (h : SeqAt.shaped x = true) : PyData.depth x ≤ 64 := by
  unfold SeqAt.shaped at h
  rw [Bool.and_eq_true, decide_eq_true_eq] at h
  exact h.2
theorem RS.dp {s : SV} {v : V} {G : Addr → Prop} (c : noD s.dat = true) (h : RS K H s v G) : Dp K H v s.dat := by
  cases s with
  | ow w => cases w with
    | m t kvs => cases t <;> simp [SV.dat, noD] at c
    | k _ _ _ => simp [SV.dat, noD] at c
    | kt _ _ _ => simp [SV.dat, noD] at c
    | fn _ => simp [SV.dat, noD, noDs] at c
  | l xs =>
    obtain ⟨p, vs, e1, e2, r, _⟩ := h
    subst e1
    exact .lst (.of e2) (RpAll.dp _ _ (by simpa [SV.dat, noD] using c) r)
  | d x => exact Rp.dp _ _ c h.1
def big : D → Bool
  | .list _ => true
  | .dict _ => true
  | _ => false
theorem RS.scal {s : SV} {v : V} {G : Addr → Prop} (h : RS K H s v G) : big s.dat = true ∨ Rp K H s.dat v := by
  cases s with
  | ow w => cases w with
    | m t kvs => cases t <;> exact .inl rfl
    | k _ _ _ => exact .inl rfl
    | kt _ _ _ => exact .inl rfl
    | fn _ => exact .inl rfl
  | l xs => exact .inl rfl
  | d x => exact .inr h.1
theorem intsD_eq : ∀ {ds : List D} {ns : List Int}, intsD ds = .ok ns → ds = ns.map PyData.int
  | [], _, h => by cases h; rfl
  | .int i :: r, _, h => by
    obtain ⟨ns, e, h⟩ := bind_ok (show (intsD r >>= fun ns => R.ok (i :: ns)) = _ from h)
    cases h
    rw [intsD_eq e]; rfl
  | .none :: _, _, h => by cases h
  | .bool _ :: _, _, h => by cases h
  | .str _ :: _, _, h => by cases h
  | .list _ :: _, _, h => by cases h
  | .tuple _ :: _, _, h => by cases h
  | .dict _ :: _, _, h => by cases h
theorem boolsD_eq : ∀ {ds : List D} {ns : List Bool}, boolsD ds = .ok ns → ds = ns.map PyData.bool
  | [], _, h => by cases h; rfl
  | .bool i :: r, _, h => by
    obtain ⟨ns, e, h⟩ := bind_ok (show (boolsD r >>= fun ns => R.ok (i :: ns)) = _ from h)
    cases h
    rw [boolsD_eq e]; rfl
  | .none :: _, _, h => by cases h
  | .int _ :: _, _, h => by cases h
  | .str _ :: _, _, h => by cases h
  | .list _ :: _, _, h => by cases h
  | .tuple _ :: _, _, h => by cases h
  | .dict _ :: _, _, h => by cases h
end

/-! ### + - * .. -/
def rOr (r r' : R2) : R2 := fun x y H Q => r x y H Q ∨ r' x y H Q
def rB (K : PySem.W.Frag) : BOp → R2
  | .add => rOr (rI0 fun i j => .int (i + j)) (rOr (fun x y H Q => ∃ i j, x = .str i ∧ y = .str j ∧ i.length + j.length ≤ sizeLine ∧ Q (.str (i ++ j)) H) (rOr (rCatA K) rCat))
  | .sub => rI0 fun i j => .int (i - j)
  | .mul => rOr (rI CMulW fun i j => .int (i * j)) (rOr (rRepT K) (rOr rRep (rOr (rRep0 K) (rRep1 K))))
  | .fdiv => rI CDivW fun i j => .int (i / j)
  | .mod => rI (fun _ j => 0 < j) fun i j => .int (i % j)
  | .pow => rI CPow fun i j => .int (i ^ j.toNat)
  | .shl => rI CPow fun i j => .int (i * 2 ^ j.toNat)
  | .shr => rI (fun _ j => 0 ≤ j) fun i j => .int (i / 2 ^ j.toNat)
  | .band => rI0 fun i j => .int (Builtin.bitAnd i j)
def BOp.py : BOp → Operator
  | .add => .Add
  | .sub => .Sub
  | .mul => .Mult
  | .fdiv => .FloorDiv
  | .mod => .Mod
  | .pow => .Pow
  | .shl => .LShift
  | .shr => .RShift
  | .band => .BitAnd
theorem op_B {X : Cx} (op : BOp) : OpR X (binaryOp op.py) (rB X.K op) := by
  cases op with
  | add => exact op_add.or (op_add_str.or (op_catA.or op_cat))
  | sub => exact op_sub
  | mul => exact op_mulW.or (op_repT.or (op_rep.or (op_rep0.or op_rep1)))
  | fdiv => exact op_fdivW
  | mod => exact op_mod
  | pow => exact op_pow
  | shl => exact op_shl
  | shr => exact op_shr
  | band => exact op_and
section
variable {K : PySem.W.Frag}
theorem rs_int {H : Hp} {i : Int} {v : V} {G : Addr → Prop} (h : RS K H (.d (.int i)) v G) : v = .int i := by
  obtain ⟨h, _⟩ := h; cases h; rfl
theorem rs_str {H : Hp} {i : Str} {v : V} {G : Addr → Prop} (h : RS K H (.d (.str i)) v G) : v = .str i := by
  obtain ⟨h, _⟩ := h; cases h; rfl
theorem rs_bl {H : Hp} {i : Bool} {v : V} {G : Addr → Prop} (h : RS K H (.d (.bool i)) v G) : v = .bl i := by
  obtain ⟨h, _⟩ := h; cases h; rfl
theorem rs_tup {H : Hp} {ds : List D} {v : V} {G : Addr → Prop} (h : RS K H (.d (.tuple ds)) v G) : ∃ p vs, v = .ref p ∧ SqT K H p vs ∧ RpAll K H ds vs ∧ Rp K H (.tuple ds) (.ref p) := by
  obtain ⟨h, _⟩ := h
  cases h with
  | tupS h1 h2 h3 => exact ⟨_, _, rfl, h1, h2, .tupS h1 h2 h3⟩
theorem if_ok {c : Prop} [Decidable c] {α : Type} {a b : α} (h : (if c then R.ok a else R.bad) = .ok b) : c ∧ a = b := by
  by_cases hc : c
  · rw [if_pos hc] at h; exact ⟨hc, ok_inj h⟩
  · rw [if_neg hc] at h; cases h
theorem ok_int2 {C : Int → Int → Prop} {g : Int → Int → Int} {f : SV → SV → R SV} (hf : ∀ sa sb s, f sa sb = .ok s → ∃ i j, sa = .d (.int i) ∧ sb = .d (.int j) ∧ C i j ∧ s = .d (.int (g i j))) : Ok2 K (rI C fun i j => .int (g i j)) f := by
  intro H sa sb va vb Ga Gb s Q h1 h2 e q
  obtain ⟨i, j, rfl, rfl, hc, rfl⟩ := hf _ _ _ e
  exact ⟨i, j, rs_int h1, rs_int h2, hc, q _ _ (.d (.int _))⟩
theorem ok_int20 {g : Int → Int → Int} {f : SV → SV → R SV} (hf : ∀ sa sb s, f sa sb = .ok s → ∃ i j, sa = .d (.int i) ∧ sb = .d (.int j) ∧ s = .d (.int (g i j))) : Ok2 K (rI0 fun i j => .int (g i j)) f := by
  intro H sa sb va vb Ga Gb s Q h1 h2 e q
  obtain ⟨i, j, rfl, rfl, rfl⟩ := hf _ _ _ e
  exact ⟨i, j, rs_int h1, rs_int h2, q _ _ (.d (.int _))⟩
theorem ok_B (op : BOp) : Ok2 K (rB K op) (opB op) := by
  cases op with
  | add =>
    intro H sa sb va vb Ga Gb s Q h1 h2 e q
    unfold opB at e
    split at e
    all_goals try (next hop => cases hop; done)
    · next i j hop => cases e; exact .inl ⟨i, j, rs_int h1, rs_int h2, q _ _ (.d (.int _))⟩
    · next x y hop => 
      obtain ⟨hc, rfl⟩ := if_ok e
      rw [lim_eq] at hc
      exact .inr (.inl ⟨x, y, rs_str h1, rs_str h2, hc, q _ _ (.d (.str _))⟩)
    · next xs ys hop =>
      obtain ⟨hc, rfl⟩ := if_ok e
      rw [lim_eq] at hc
      obtain ⟨p, vs, rfl, t1, r1, z1⟩ := rs_tup h1
      obtain ⟨p2, vs2, rfl, t2, r2, z2⟩ := rs_tup h2
      refine .inr (.inr (.inl ⟨p, p2, vs, vs2, rfl, rfl, t1, t2, by rw [← r1.len, ← r2.len]; exact hc, fun z => ?_, fun _ z => ?_, fun _ _ p3 n => ?_⟩))
      · have := r1.nil_iff.mp z; subst this
        exact q _ _ (.d z2)
      · have := r2.nil_iff.mp z; subst this
        rw [List.append_nil] at q
        exact q _ _ (.d z1)
      · exact q _ _ (.tup n (r1.app r2))
    · next xs ys hop =>
      obtain ⟨hc, rfl⟩ := if_ok e
      rw [lim_eq] at hc
      obtain ⟨p, vs, rfl, t1, r1, _⟩ := h1
      obtain ⟨p2, vs2, rfl, t2, r2, _⟩ := h2
      exact .inr (.inr (.inr ⟨p, p2, vs, vs2, rfl, rfl, t1, t2, by rw [← r1.len, ← r2.len]; exact hc, fun p3 n => q _ _ (.lst n (r1.app r2))⟩))
    · cases e
  | sub =>
    exact ok_int20 fun sa sb s e => by
      unfold opB at e
      split at e
      all_goals try (next hop => cases hop; done)
      all_goals try (cases e; done)
      next i j hop =>
      cases e
      exact ⟨i, j, rfl, rfl, rfl⟩
  | mul =>
    intro H sa sb va vb Ga Gb s Q h1 h2 e q
    unfold opB at e
    split at e
    all_goals try (next hop => cases hop; done)
    all_goals try (cases e; done)
    · next i j hop =>
      obtain ⟨hc, rfl⟩ := if_ok e
      exact .inl ⟨i, j, rs_int h1, rs_int h2, hc, q _ _ (.d (.int _))⟩
    · next k hop =>
      obtain ⟨⟨c1, c2⟩, rfl⟩ := if_ok e
      obtain ⟨p, vs, rfl, t1, r1, z1⟩ := rs_tup h1
      cases r1
      exact .inr (.inr (.inr (.inl ⟨p, k, rfl, rs_int h2, t1, c1, c2, q _ _ (.d z1)⟩)))
    · next xs k _ hop =>
      obtain ⟨p, vs, rfl, t1, r1, z1⟩ := rs_tup h1
      by_cases cc : xs ≠ [] ∧ 2 ≤ k ∧ k ≤ 1000 ∧ xs.length ≤ 1000
      case neg =>
        rw [if_neg cc] at e
        obtain ⟨rfl, rfl⟩ := if_ok e
        exact .inr (.inr (.inr (.inr ⟨p, vs, rfl, rs_int h2, t1, q _ _ (.d z1)⟩)))
      rw [if_pos cc] at e
      obtain ⟨c1, c2, c3, c4⟩ := cc
      cases e
      exact .inr (.inl ⟨p, k, vs, rfl, rs_int h2, t1, fun z => c1 (r1.nil_iff.mp z), c2, c3, by rw [← r1.len]; exact c4, fun p3 n => q _ _ (.tup n (r1.rep _))⟩)
    · next xs k hop =>
      obtain ⟨⟨c1, c2, c3⟩, rfl⟩ := if_ok e
      obtain ⟨p, vs, rfl, t1, r1, _⟩ := h1
      rw [lim_eq] at c3
      exact .inr (.inr (.inl ⟨p, k, vs, rfl, rs_int h2, t1, by omega, by have : (LIM : Int) = 16777216 := rfl; omega, by rw [← r1.len]; exact c3, fun p3 n => q _ _ (.lst n (r1.rep _))⟩))
  | fdiv =>
    exact ok_int2 fun sa sb s e => by
      unfold opB at e
      split at e
      all_goals try (next hop => cases hop; done)
      all_goals try (cases e; done)
      next i j hop =>
      obtain ⟨hc, rfl⟩ := if_ok e
      exact ⟨i, j, rfl, rfl, hc, rfl⟩
  | mod =>
    exact ok_int2 fun sa sb s e => by
      unfold opB at e
      split at e
      all_goals try (next hop => cases hop; done)
      all_goals try (cases e; done)
      next i j hop =>
      obtain ⟨hc, rfl⟩ := if_ok e
      exact ⟨i, j, rfl, rfl, hc, rfl⟩
  | pow =>
    exact ok_int2 fun sa sb s e => by
      unfold opB at e
      split at e
      all_goals try (next hop => cases hop; done)
      all_goals try (cases e; done)
      next i j hop =>
      obtain ⟨hc, rfl⟩ := if_ok e
      exact ⟨i, j, rfl, rfl, hc, rfl⟩
  | shl =>
    exact ok_int2 (g := fun i j => i * 2 ^ j.toNat) fun sa sb s e => by
      unfold opB at e
      split at e
      all_goals try (next hop => cases hop; done)
      all_goals try (cases e; done)
      next i j hop =>
      obtain ⟨hc, rfl⟩ := if_ok e
      exact ⟨i, j, rfl, rfl, hc, rfl⟩
  | shr =>
    exact ok_int2 (g := fun i j => i / 2 ^ j.toNat) fun sa sb s e => by
      unfold opB at e
      split at e
      all_goals try (next hop => cases hop; done)
      all_goals try (cases e; done)
      next i j hop =>
      obtain ⟨hc, rfl⟩ := if_ok e
      exact ⟨i, j, rfl, rfl, hc, rfl⟩
  | band =>
    exact ok_int20 fun sa sb s e => by
      unfold opB at e
      split at e
      all_goals try (next hop => cases hop; done)
      all_goals try (cases e; done)
      next i j hop =>
      cases e
      exact ⟨i, j, rfl, rfl, rfl⟩
end

/-! ### comparisons -/
def COp.py : COp → CmpOp
  | .eq => .Eq
  | .ne => .NotEq
  | .lt => .Lt
  | .le => .LtE
  | .gt => .Gt
  | .ge => .GtE
  | .is_ => .Is
  | .isn => .IsNot
  | .in_ => .In
  | .nin => .NotIn
def rInT (K : PySem.W.Frag) (neg : Bool) : R2 := fun x y H Q => ∃ d ds, Dp K H x d ∧ (Dp K H y (.list ds) ∨ Dp K H y (.tuple ds)) ∧ SeqAt.shaped d = true ∧ SeqAt.shaped (.list ds) = true ∧ Q (.bl (if neg then !(ds.any fun z => PyData.eqv z d) else ds.any fun z => PyData.eqv z d)) H
theorem op_inT {X : Cx} (hu : X.A.units + 65 < cLine) : OpR X (compareOp .In) (rInT X.K false) := by
  intro pins s σ H x y v u Q I rx ry h
  obtain ⟨d, ds, hd, he, sd, se, q⟩ := h
  obtain ⟨as, r1⟩ := Dp.reads I d x v hd rx
  rcases he with he | he
  · obtain ⟨bs, r2⟩ := Dp.reads I (.list ds) y u he ry
    exact SeqAt.in_list_reads r2 r1 (SeqAt.canLay_of_shaped se) (SeqAt.canLay_of_shaped sd) (room_in_shaped sd hu) ⟨.bl _, H, I, rfl, q⟩
  · obtain ⟨bs, r2⟩ := Dp.reads I (.tuple ds) y u he ry
    exact SeqAt.in_tuple_reads r2 r1 (SeqAt.canLay_of_shaped se) (SeqAt.canLay_of_shaped sd) (room_in_shaped sd hu) ⟨.bl _, H, I, rfl, q⟩
theorem op_ninT {X : Cx} (hu : X.A.units + 65 < cLine) : OpR X (compareOp .NotIn) (rInT X.K true) := by
  intro pins s σ H x y v u Q I rx ry h
  obtain ⟨d, ds, hd, he, sd, se, q⟩ := h
  obtain ⟨as, r1⟩ := Dp.reads I d x v hd rx
  rcases he with he | he
  · obtain ⟨bs, r2⟩ := Dp.reads I (.list ds) y u he ry
    exact SeqAt.notIn_list_reads r2 r1 (SeqAt.canLay_of_shaped se) (SeqAt.canLay_of_shaped sd) (room_in_shaped sd hu) ⟨.bl _, H, I, rfl, q⟩
  · obtain ⟨bs, r2⟩ := Dp.reads I (.tuple ds) y u he ry
    exact SeqAt.notIn_tuple_reads r2 r1 (SeqAt.canLay_of_shaped se) (SeqAt.canLay_of_shaped sd) (room_in_shaped sd hu) ⟨.bl _, H, I, rfl, q⟩
def rLtD (K : PySem.W.Frag) : R2 := fun x y H Q => ∃ d e, Dp K H x d ∧ Dp K H y e ∧ PySem.W.alike d e = true ∧ d ≠ .none ∧ PyData.depth d ≤ 64 ∧ Q (.bl (PySem.W.dataLt d e)) H
theorem op_ltD {X : Cx} (hu : X.A.units + 65 < cLine) : OpR X (compareOp .Lt) (rLtD X.K) := by
  intro pins s σ H x y v u Q I rx ry h
  obtain ⟨d, e, h1, h2, al, nn, dp, q⟩ := h
  obtain ⟨as, r1⟩ := Dp.reads I d x v h1 rx
  obtain ⟨bs, r2⟩ := Dp.reads I e y u h2 ry
  exact PySem.W.lt_data r1 r2 al nn (by have := Nat.min_le_left d.depth e.depth; omega) ⟨.bl _, H, I, rfl, q⟩
/-- k in d, a dict -/
def rInD (neg : Bool) : R2 := fun x y H Q => ∃ p u, y = .ref p ∧ DGet H p x u ∧ Q (.bl (if neg then !u.isSome else u.isSome)) H
theorem op_inDic {X : Cx} (hu : X.A.units + 1 < cLine) : OpR X (compareOp .In) (rInD false) := by
  intro pins s σ H x y v u Q I rx ry h
  obtain ⟨p, w, rfl, g, q⟩ := h
  cases ry
  exact d_in hu I g rx fun s' I' => ⟨.bl _, H, I', rfl, q⟩
theorem op_ninDic {X : Cx} (hu : X.A.units + 1 < cLine) : OpR X (compareOp .NotIn) (rInD true) := by
  intro pins s σ H x y v u Q I rx ry h
  obtain ⟨p, w, rfl, g, q⟩ := h
  cases ry
  exact d_notIn hu I g rx fun s' I' => ⟨.bl _, H, I', rfl, q⟩
def rC (K : PySem.W.Frag) : COp → R2
  | .eq => rOr rEq (rEqD K)
  | .ne => rOr rNe (rNeD K)
  | .lt => rOr (rI0 fun i j => .bl (decide (i < j))) (rLtD K)
  | .le => rI0 fun i j => .bl (decide (i ≤ j))
  | .gt => rI0 fun i j => .bl (decide (j < i))
  | .ge => rI0 fun i j => .bl (decide (j ≤ i))
  | .is_ => rOr (fun x y H Q => y = .non ∧ Q (.bl (decide (x = .non))) H) rIsB
  | .isn => rOr (fun x y H Q => y = .non ∧ Q (.bl (!decide (x = .non))) H) rNotB
  | .in_ => rOr (rInT K false) (rOr (rInD false) fun x y H Q => ∃ i j, x = .str i ∧ y = .str j ∧ Q (.bl (!(Builtin.Str.occurrences j i 0 j.length 1).isEmpty)) H)
  | .nin => rOr (rInT K true) (rOr (rInD true) fun x y H Q => ∃ i j, x = .str i ∧ y = .str j ∧ Q (.bl (!(!(Builtin.Str.occurrences j i 0 j.length 1).isEmpty))) H)
theorem op_C {X : Cx} (hu : X.A.units + 65 < cLine) (op : COp) : OpR X (compareOp op.py) (rC X.K op) := by
  cases op with
  | eq => exact op_eq.or (op_eqD (Nat.lt_of_succ_lt hu))
  | ne => exact op_ne.or (op_neD (Nat.lt_of_succ_lt hu))
  | lt => exact op_lt.or (op_ltD hu)
  | le => exact op_le
  | gt => exact op_gt
  | ge => exact op_ge
  | is_ => exact op_isN.or op_isBl
  | isn => exact op_notN.or op_notBl
  | in_ => exact (op_inT hu).or ((op_inDic (by omega)).or op_in_str)
  | nin => exact (op_ninT hu).or ((op_ninDic (by omega)).or op_notin_str)
section
variable {K : PySem.W.Frag} {H : Hp}
/-- equality: the scalars at once, all else as data -/
theorem eqS_ok {sa sb : SV} {va vb : V} {Ga Gb : Addr → Prop} {b : Bool} (h1 : RS K H sa va Ga) (h2 : RS K H sb vb Gb) (e : eqS sa.dat sb.dat = .ok b) :
    (scal va vb = true ∧ decide (va = vb) = b) ∨ (SeqAt.shaped sa.dat = true ∧ SeqAt.shaped sb.dat = true ∧ PyData.eqv sa.dat sb.dat = b) := by
  have d1 := h1.scal
  have d2 := h2.scal
  generalize sa.dat = x at d1 e
  generalize sb.dat = y at d2 e
  have one : ∀ {x : D} {v : V}, big x = false → (big x = true ∨ Rp K H x v) → Rp K H x v := fun n z => z.elim (fun e => by rw [n] at e; cases e) id
  unfold eqS at e
  split at e
  · have d1 := one rfl d1
    have d2 := one rfl d2
    cases d1; cases d2; cases e; exact .inl ⟨rfl, dec_int⟩
  · have d1 := one rfl d1
    have d2 := one rfl d2
    cases d1; cases d2; cases e; exact .inl ⟨rfl, dec_bl⟩
  · have d1 := one rfl d1
    have d2 := one rfl d2
    cases d1; cases d2; cases e; exact .inl ⟨rfl, dec_str⟩
  · obtain ⟨⟨c1, c2⟩, rfl⟩ := if_ok e
    exact .inr ⟨c1, c2, rfl⟩
theorem ltS_ok {sa sb : SV} {va vb : V} {Ga Gb : Addr → Prop} {b : Bool} (h1 : RS K H sa va Ga) (h2 : RS K H sb vb Gb) (e : ltS sa sb = .ok b) : ∃ i j : Int, va = .int i ∧ vb = .int j ∧ b = decide (i < j) := by
  unfold ltS at e
  split at e
  · cases e; exact ⟨_, _, rs_int h1, rs_int h2, rfl⟩
  · cases e
theorem isS_ok {sa sb : SV} {va vb : V} {Ga Gb : Addr → Prop} {b : Bool} (h1 : RS K H sa va Ga) (h2 : RS K H sb vb Gb) (e : isS sa sb = .ok b) :
    (vb = .non ∧ decide (va = .non) = b) ∨ ∃ i j : Bool, va = .bl i ∧ vb = .bl j ∧ b = decide (i = j) := by
  have nn : ∀ {v : V} {G : Addr → Prop}, RS K H (.d .none) v G → v = .non := fun h => by
    obtain ⟨h, _⟩ := h; cases h; rfl
  unfold isS at e
  split at e
  · cases e; rw [nn h1, nn h2]; exact .inl ⟨rfl, rfl⟩
  · next x hx =>
    cases e
    rw [nn h2]
    refine .inl ⟨rfl, decide_eq_false fun z => ?_⟩
    obtain ⟨h1, _⟩ := h1
    subst z
    cases h1
    exact hx rfl
  · cases e
    rw [nn h2]
    obtain ⟨p, vs, rfl, _⟩ := h1
    exact .inl ⟨rfl, rfl⟩
  · next w =>
    cases e
    rw [nn h2]
    cases w with
    | m t kvs => cases t <;> (obtain ⟨p, vs, rfl, _⟩ := h1; exact .inl ⟨rfl, rfl⟩)
    | k _ _ _ => obtain ⟨p, rfl, _⟩ := h1; exact .inl ⟨rfl, rfl⟩
    | kt _ _ _ => obtain ⟨p, rfl, _⟩ := h1; exact .inl ⟨rfl, rfl⟩
    | fn _ => obtain ⟨rfl, _⟩ := h1; exact .inl ⟨rfl, rfl⟩
  · next a c =>
    cases e
    exact .inr ⟨a, c, rs_bl h1, rs_bl h2, Bool.beq_eq_decide_eq a c⟩
  · cases e
theorem inS_ok {x : D} {sb : SV} {va vb : V} {Ga Gb : Addr → Prop} {b : Bool} (h1 : RS K H (.d x) va Ga) (h2 : RS K H sb vb Gb) (e : inS x sb = .ok b) :
    (∃ d ds, Dp K H va d ∧ (Dp K H vb (.list ds) ∨ Dp K H vb (.tuple ds)) ∧ SeqAt.shaped d = true ∧ SeqAt.shaped (.list ds) = true ∧ b = ds.any fun z => PyData.eqv z d) ∨ (∃ p u, vb = .ref p ∧ DGet H p va u ∧ b = u.isSome) ∨ ∃ i j, va = .str i ∧ vb = .str j ∧ b = !(Builtin.Str.occurrences j i 0 j.length 1).isEmpty := by
  unfold inS at e
  split at e
  · next z =>
    cases x with
    | str c => cases e; exact .inr (.inr ⟨c, z, rs_str h1, rs_str h2, rfl⟩)
    | _ => cases e
  · obtain ⟨o, e1, e⟩ := bind_ok e
    cases e
    obtain ⟨p, u, rfl, g, r⟩ := getD1_ok h2 h1.1 e1
    exact .inr (.inl ⟨p, u, rfl, g, r.isSome.symm⟩)
  · obtain ⟨o, e1, e⟩ := bind_ok e
    cases e
    obtain ⟨p, u, rfl, g, r⟩ := getD1_ok h2 h1.1 e1
    exact .inr (.inl ⟨p, u, rfl, g, r.isSome.symm⟩)
  · left
    obtain ⟨ds, e1, e⟩ := bind_ok e
    obtain ⟨⟨c1, c2⟩, rfl⟩ := if_ok e
    obtain ⟨p, vs, rfl, sq, r⟩ := items_seq h2 e1
    have c3 : noDs ds = true := by
      have := shaped_lay c2
      simpa [noD] using this
    refine ⟨x, ds, Rp.dp x va (shaped_lay c1) h1.1, ?_, c1, c2, rfl⟩
    rcases sq with sq | sq
    · exact .inl (.lst sq (RpAll.dp _ _ c3 r))
    · exact .inr (.tup sq (RpAll.dp _ _ c3 r))
theorem bD_ok {b : Bool} {s : SV} (e : bD b = .ok s) : s = .d (.bool b) := by cases e; rfl
theorem ok_C (op : COp) : Ok2 K (rC K op) (opC op) := by
  intro H sa sb va vb Ga Gb s Q h1 h2 e q
  cases op with
  | eq =>
    obtain ⟨b, e0, e2⟩ := bind_ok e
    cases bD_ok e2
    rcases eqS_ok h1 h2 e0 with ⟨c, rfl⟩ | ⟨c1, c2, rfl⟩
    · exact .inl ⟨c, q _ _ (.d (.bl _))⟩
    · exact .inr ⟨_, _, h1.dp (shaped_lay c1), h2.dp (shaped_lay c2), c1, c2, q _ _ (.d (.bl _))⟩
  | ne =>
    obtain ⟨b, e0, e2⟩ := bind_ok e
    cases bD_ok e2
    rcases eqS_ok h1 h2 e0 with ⟨c, rfl⟩ | ⟨c1, c2, rfl⟩
    · exact .inl ⟨c, q _ _ (.d (.bl _))⟩
    · exact .inr ⟨_, _, h1.dp (shaped_lay c1), h2.dp (shaped_lay c2), c1, c2, q _ _ (.d (.bl _))⟩
  | lt =>
    obtain ⟨b, e0, e2⟩ := bind_ok e
    cases bD_ok e2
    unfold ltD at e0
    split at e0
    · cases e0
      exact .inl ⟨_, _, rs_int h1, rs_int h2, q _ _ (.d (.bl _))⟩
    · obtain ⟨⟨c1, c2, c3, c4⟩, rfl⟩ := if_ok e0
      next x y hx =>
      have nn : x ≠ .none := fun z => by rw [z] at c2; cases c2
      exact .inr ⟨x, y, Rp.dp x va (shaped_lay c3) h1.1, Rp.dp y vb (shaped_lay c4) h2.1, c1, nn, shaped_dep c3, q _ _ (.d (.bl _))⟩
    · cases e0
  | gt =>
    obtain ⟨b, e0, e2⟩ := bind_ok e
    cases bD_ok e2
    obtain ⟨i, j, rfl, rfl, rfl⟩ := ltS_ok h2 h1 e0
    exact ⟨j, i, rfl, rfl, q _ _ (.d (.bl _))⟩
  | le =>
    obtain ⟨b, e0, e2⟩ := bind_ok e
    cases bD_ok e2
    obtain ⟨i, j, rfl, rfl, rfl⟩ := ltS_ok h2 h1 e0
    refine ⟨j, i, rfl, rfl, ?_⟩
    show Q (.bl (decide (j ≤ i))) H
    rw [show decide (j ≤ i) = !decide (i < j) by rw [Bool.eq_iff_iff]; simp]
    exact q _ _ (.d (.bl _))
  | ge =>
    obtain ⟨b, e0, e2⟩ := bind_ok e
    cases bD_ok e2
    obtain ⟨i, j, rfl, rfl, rfl⟩ := ltS_ok h1 h2 e0
    refine ⟨i, j, rfl, rfl, ?_⟩
    show Q (.bl (decide (j ≤ i))) H
    rw [show decide (j ≤ i) = !decide (i < j) by rw [Bool.eq_iff_iff]; simp]
    exact q _ _ (.d (.bl _))
  | is_ =>
    obtain ⟨b, e0, e2⟩ := bind_ok e
    cases bD_ok e2
    rcases isS_ok h1 h2 e0 with ⟨rfl, rfl⟩ | ⟨i, j, rfl, rfl, rfl⟩
    · exact .inl ⟨rfl, q _ _ (.d (.bl _))⟩
    · exact .inr ⟨i, j, rfl, rfl, q _ _ (.d (.bl _))⟩
  | isn =>
    obtain ⟨b, e0, e2⟩ := bind_ok e
    cases bD_ok e2
    rcases isS_ok h1 h2 e0 with ⟨rfl, rfl⟩ | ⟨i, j, rfl, rfl, rfl⟩
    · exact .inl ⟨rfl, q _ _ (.d (.bl _))⟩
    · exact .inr ⟨i, j, rfl, rfl, q _ _ (.d (.bl _))⟩
  | in_ =>
    cases sa with
    | l xs => cases e
    | ow w => cases e
    | d x =>
      obtain ⟨b, e0, e2⟩ := bind_ok e
      cases bD_ok e2
      rcases inS_ok h1 h2 e0 with ⟨d, ds, a1, a2, a3, a4, rfl⟩ | ⟨p, u, a1, a2, rfl⟩ | ⟨i, j, a1, a2, rfl⟩
      · exact .inl ⟨d, ds, a1, a2, a3, a4, q _ _ (.d (.bl _))⟩
      · exact .inr (.inl ⟨p, u, a1, a2, q _ _ (.d (.bl _))⟩)
      · exact .inr (.inr ⟨i, j, a1, a2, q _ _ (.d (.bl _))⟩)
  | nin =>
    cases sa with
    | l xs => cases e
    | ow w => cases e
    | d x =>
      obtain ⟨b, e0, e2⟩ := bind_ok e
      cases bD_ok e2
      rcases inS_ok h1 h2 e0 with ⟨d, ds, a1, a2, a3, a4, rfl⟩ | ⟨p, u, a1, a2, rfl⟩ | ⟨i, j, a1, a2, rfl⟩
      · exact .inl ⟨d, ds, a1, a2, a3, a4, q _ _ (.d (.bl _))⟩
      · exact .inr (.inl ⟨p, u, a1, a2, q _ _ (.d (.bl _))⟩)
      · exact .inr (.inr ⟨i, j, a1, a2, q _ _ (.d (.bl _))⟩)
end

/-! ### items, slices -/
section
variable {K : PySem.W.Frag} {H : Hp}
theorem atI_rp {ds : List D} {vs : List V} {i : Int} {x : D} (r : RpAll K H ds vs) (e : atI ds i = some x) : ∃ v, atI vs i = some v ∧ Rp K H x v := by
  unfold atI at e ⊢
  rw [← r.len]
  cases h : ixN ds.length i with
  | none => rw [h] at e; cases e
  | some j =>
    rw [h] at e
    exact r.get e
/-- d[k], a dict -/
def rIxD : R2 := fun x y H Q => ∃ p v, x = .ref p ∧ DGet H p y (some v) ∧ Q v H
theorem ok_idx : Ok2 K (rOr (rIx K) rIxD) idxS := by
  intro H sa sb va vb Ga Gb s Q h1 h2 e q
  have main : ∀ {i : Int}, sb = .d (.int i) → (do let ds ← items sa; match atI ds i with | some x => R.ok (SV.d x) | none => R.bad) = .ok s → rOr (rIx K) rIxD va vb H Q := by
    intro i e0 e7
    left
    subst e0
    obtain ⟨ds, e1, e⟩ := bind_ok e7
    obtain ⟨p, vs, rfl, sq, r⟩ := items_seq h1 e1
    have e2 : (match atI ds i with | some x => R.ok (SV.d x) | none => R.bad) = .ok s := e
    cases h : atI ds i with
    | none => rw [h] at e2; cases e2
    | some x =>
      rw [h] at e2
      cases e2
      obtain ⟨v, h3, h4⟩ := atI_rp r h
      rcases sq with sq | sq
      · exact .inl ⟨p, vs, i, v, rfl, rs_int h2, sq, h3, q _ _ (.d h4)⟩
      · exact .inr (.inl ⟨p, vs, i, v, rfl, rs_int h2, sq, h3, q _ _ (.d h4)⟩)
  have dicd : ∀ {k : D} (_ : Rp K H k vb), (do let o ← getD1 sa k; match o with | some x => R.ok (SV.d x) | none => R.bad) = .ok s → rOr (rIx K) rIxD va vb H Q := by
    intro k hk e
    obtain ⟨o, e1, e⟩ := bind_ok e
    obtain ⟨p, u, rfl, g, r⟩ := getD1_ok h1 hk e1
    cases o with
    | none => cases e
    | some x =>
      cases e
      cases u with
      | none => exact r.elim
      | some v => exact .inr ⟨p, v, rfl, g, q _ _ (.d r)⟩
  unfold idxS at e
  split at e
  · next z i =>
    obtain ⟨hc, e⟩ : z.length ≤ LIM ∧ (match atI z.cps.toList i with | some c => R.ok (SV.d (.str ⟨#[c]⟩)) | none => R.bad) = .ok s := by
      by_cases hc : z.length ≤ LIM
      · rw [if_pos hc] at e; exact ⟨hc, e⟩
      · rw [if_neg hc] at e; cases e
    cases h : atI z.cps.toList i with
    | none => rw [h] at e; cases e
    | some c =>
      rw [h] at e
      cases e
      rw [lim_eq] at hc
      exact .inl (.inr (.inr ⟨z, i, c, rs_str h1, rs_int h2, hc, h, q _ _ (.d (.str _))⟩))
  · next w k => exact dicd h2.1 e
  · next kvs k => exact dicd h2.1 e
  · next i _ _ _ => exact main rfl e
  · cases e
def rSl (K : PySem.W.Frag) : V → Option Int → Option Int → Hp → VK → Prop := fun x lo hi H Q => rSlA K x lo hi H Q ∨ rSlL K x lo hi H Q
theorem sl_any {X : Cx} : SlR X (rSl X.K) := sl_tupA.or sl_list
theorem cut_whole {xs : List D} {lo hi : Option Int} (h : HT.sIx xs.length 0 lo = 0 ∧ HT.sIx xs.length xs.length hi = xs.length) : cutD xs lo hi = xs := by
  unfold cutD
  rw [h.1, h.2]
  simp
theorem ok_cut {sa s : SV} {va : V} {Ga : Addr → Prop} {lo hi : Option Int} {Q : VK} (h1 : RS K H sa va Ga) (e : cutB sa lo hi = .ok s) (q : ∀ v H', Step K H s v H' → Q v H') : rSl K va lo hi H Q := by
  cases sa with
  | ow w => cases e
  | l xs =>
    obtain ⟨p, vs, rfl, e1, r, _⟩ := h1
    cases e
    exact .inr ⟨p, vs, rfl, .of e1, fun p2 n => q _ _ (.lst n (r.cut lo hi))⟩
  | d x =>
    obtain ⟨h1, _⟩ := h1
    cases h1 with
    | @lst a xs ds h2 h3 =>
      cases e
      exact .inr ⟨a, xs, rfl, h2.sq, fun p2 n => q _ _ (.lst n (h3.cut lo hi))⟩
    | @tupS a xs ds h2 h3 h4 =>
      cases e
      refine .inl ⟨a, xs, rfl, h2, fun z => ?_, fun _ p2 n => q _ _ (.tup n (h3.cut lo hi))⟩
      have z2 : HT.sIx ds.length 0 lo = 0 ∧ HT.sIx ds.length ds.length hi = ds.length := by rw [h3.len]; exact z
      rw [cut_whole z2] at q
      exact q _ _ (.d (.tupS h2 h3 h4))
    | _ => cases e
end
end Dn

set_option Elab.async false
set_option linter.all false
set_option maxRecDepth 100000
set_option maxHeartbeats 4000000
/-! Dn, part D: the built-in functions by the layer's rules. -/
namespace Dn
open PySem PySem.Spec PyProof.Rows L2

def OkF (K : PySem.W.Frag) (r : List V → Hp → VK → Prop) (f : SV → R SV) : Prop := ∀ (H : Hp) (sa : SV) (va : V) (Ga : Addr → Prop) (s : SV) (Q : VK),
  RS K H sa va Ga → f sa = .ok s → (∀ v H', Step K H s v H' → Q v H') → r [va] H Q
def OkF2 (K : PySem.W.Frag) (r : List V → Hp → VK → Prop) (f : SV → SV → R SV) : Prop := ∀ (H : Hp) (sa sb : SV) (va vb : V) (Ga Gb : Addr → Prop) (s : SV) (Q : VK),
  RS K H sa va Ga → RS K H sb vb Gb → f sa sb = .ok s → (∀ v H', Step K H s v H' → Q v H') → r [va, vb] H Q
theorem mem_maxI : ∀ (r : List Int) (n : Int), maxI n r ∈ n :: r ∧ ∀ y ∈ n :: r, y ≤ maxI n r
  | [], n => ⟨List.mem_cons_self .., fun y h => by simp at h; subst h; exact Int.le_refl _⟩
  | b :: r, n => by
    have e : maxI n (b :: r) = maxI (if b > n then b else n) r := rfl
    rw [e]
    obtain ⟨h1, h2⟩ := mem_maxI r (if b > n then b else n)
    generalize maxI (if b > n then b else n) r = M at h1 h2 ⊢
    refine ⟨?_, fun y hy => ?_⟩
    · rcases List.mem_cons.mp h1 with z | z
      · rw [z]; split
        · exact List.mem_cons_of_mem _ (List.mem_cons_self ..)
        · exact List.mem_cons_self ..
      · exact List.mem_cons_of_mem _ (List.mem_cons_of_mem _ z)
    · have h0 := h2 (if b > n then b else n) (List.mem_cons_self ..)
      rcases List.mem_cons.mp hy with z | z
      · subst z; split at h0 <;> omega
      · rcases List.mem_cons.mp z with z | z
        · subst z; split at h0 <;> omega
        · exact h2 y (List.mem_cons_of_mem _ z)
theorem mem_minI : ∀ (r : List Int) (n : Int), minI n r ∈ n :: r ∧ ∀ y ∈ n :: r, minI n r ≤ y
  | [], n => ⟨List.mem_cons_self .., fun y h => by simp at h; subst h; exact Int.le_refl _⟩
  | b :: r, n => by
    have e : minI n (b :: r) = minI (if b < n then b else n) r := rfl
    rw [e]
    obtain ⟨h1, h2⟩ := mem_minI r (if b < n then b else n)
    generalize minI (if b < n then b else n) r = M at h1 h2 ⊢
    refine ⟨?_, fun y hy => ?_⟩
    · rcases List.mem_cons.mp h1 with z | z
      · rw [z]; split
        · exact List.mem_cons_of_mem _ (List.mem_cons_self ..)
        · exact List.mem_cons_self ..
      · exact List.mem_cons_of_mem _ (List.mem_cons_of_mem _ z)
    · have h0 := h2 (if b < n then b else n) (List.mem_cons_self ..)
      rcases List.mem_cons.mp hy with z | z
      · subst z; split at h0 <;> omega
      · rcases List.mem_cons.mp z with z | z
        · subst z; split at h0 <;> omega
        · exact h2 y (List.mem_cons_of_mem _ z)

/-! ### sorted -/
def srt (ds : List D) : List D := ds.mergeSort (PySem.W.dataLe false id)
def rSortD (K : PySem.W.Frag) : List V → Hp → VK → Prop := fun vs H Q => ∃ (a : Addr) (xs : List V) (ds : List D), vs = [V.ref a] ∧ (SqL K H a xs ∨ SqT K H a xs) ∧ RpAll K H ds xs ∧ sortOk ds = true ∧
  ∀ (ws : List V) (p : Addr), H p = none → RpAll K H (srt ds) ws → Q (.ref p) (upd H p (.lst ws))
section
variable {X : Cx}
theorem each_rp {K : PySem.W.Frag} {H : Hp} : ∀ {ds : List D} {vs : List V} {us : List Value}, RpAll K H ds vs → Vals vs us → PySem.W.EachIs (fun u d => ∃ v, RelV v u ∧ Rp K H d v) us ds
  | _, _, _, .nil, .nil => .nil
  | _, _, _, .cons r t, .cons q z => .cons ⟨_, q, r⟩ (each_rp t z)
theorem each_rpN {K : PySem.W.Frag} {H : Hp} : ∀ {ds : List D} {vs : List V} {us : List Value}, noDs ds = true → RpAll K H ds vs → Vals vs us → PySem.W.EachIs (fun u d => ∃ v, RelV v u ∧ Rp K H d v ∧ noD d = true) us ds
  | _, _, _, _, .nil, .nil => .nil
  | d :: ds, _, _, c, .cons r t, .cons q z => by
    have c' : noD d = true ∧ noDs ds = true := by simpa [noDs] using c
    exact .cons ⟨_, q, r, c'.1⟩ (each_rpN c'.2 t z)
theorem noDs_of : ∀ {ds : List D}, (∀ d ∈ ds, noD d = true) → noDs ds = true
  | [], _ => rfl
  | d :: ds, h => by
    unfold noDs
    rw [h d (List.mem_cons_self ..), noDs_of fun x hx => h x (List.mem_cons_of_mem _ hx)]
    rfl
theorem rp_each {K : PySem.W.Frag} {H : Hp} : ∀ {us : List Value} {ds : List D}, PySem.W.EachIs (fun u d => ∃ v, RelV v u ∧ Rp K H d v) us ds → ∃ vs, RpAll K H ds vs ∧ Vals vs us
  | _, _, .nil => ⟨[], .nil, .nil⟩
  | _, _, .cons ⟨v, q, r⟩ t => by
    obtain ⟨vs, h1, h2⟩ := rp_each t
    exact ⟨v :: vs, .cons r h1, .cons q h2⟩
open PySem.W in
/-- nothing is asked of one thing alone -/
theorem sortsUnit {prog : Program} {w : World} {A : Around} {s : Shared} {vs : List Value} (hu : A.units + 60 < cLine) (e : EachIs (fun v d => ∃ as, Reads s.heap v d as) vs [PyData.tuple []]) : SortsAt prog w A s (dataKind s.heap [PyData.tuple []]) vs := by
  have hal : AllAlike [PyData.tuple []] := fun d hd d' hd' => by
    cases List.mem_singleton.mp hd
    cases List.mem_singleton.mp hd'
    rfl
  have hl : vs.length = 1 := e.length
  refine ⟨fun v hv => ?_, tuples' true, ?_, fun h2 => by omega⟩
  · obtain ⟨d, hd, as, r⟩ := e.left v hv
    exact ⟨_, dataKind_some hal hd r⟩
  · intro E x y a b Q ha hb hq
    obtain ⟨d, as, hd, ra, rfl⟩ := dataKind_inv ha
    obtain ⟨d', as', hd', rb, rfl⟩ := dataKind_inv hb
    cases List.mem_singleton.mp hd
    cases List.mem_singleton.mp hd'
    have hq' : Q (dataLt (.tuple []) (.tuple [])) s := hq
    rw [dataLt_tuple] at hq'
    cases ra with
    | @tuple l o xs n _ _ h1 h2 h3 h4 =>
      cases rb with
      | @tuple l' o' xs' n' _ _ k1 k2 k3 k4 =>
        have n1 : xs.size = ([] : List PyData).length := by simpa using SeqAt.ReadsAll.length _ _ _ h4
        have n2 : xs'.size = ([] : List PyData).length := by simpa using SeqAt.ReadsAll.length _ _ _ k4
        exact kat_lt h1 h3 k1 k3 (katLex_alike [] [] 0 _ _ _ _ h4 k4 rfl (by simp [PyData.depthAll]; omega) (fun hb _ x r t ex => by cases ex) (by rw [n1, n2]) hq')
theorem cr_sortD (hu : X.A.units + 100 < cLine) : CallR X (.builtin "sorted") (rSortD X.K) := by
  intro pins s σ H vs us Q I r h
  obtain ⟨a, xs, ds, rfl, hs, rp, so, q⟩ := h
  rw [Vals.ref1 r]
  unfold sortOk at so
  simp only [Bool.and_eq_true, List.all_eq_true, decide_eq_true_eq, Bool.or_eq_true] at so
  obtain ⟨c1, c2, c3, c4⟩ := so
  have hid : ds.map id = ds := List.map_id ds
  have al : PySem.W.AllAlike (ds.map id) := fun d hd d' hd' => by
    rw [hid] at hd hd'; exact c1 d hd d' hd'
  have so' : ∀ (s' : Shared) (vs' : List Value), PySem.W.EachIs (fun v d => ∃ as, Reads s'.heap v d as) vs' ds → PySem.W.SortsAt X.prog X.w X.A.in1.in1 s' (PySem.W.dataKind s'.heap (ds.map id)) vs' := fun s' vs' e => by
    rw [hid]
    have dp2 : ∀ b, b ∈ ds → X.A.units + 2 + PyData.depth b < cLine := fun b hb => by
      have := c2 b hb
      omega
    rw [hid] at al
    rcases c3 with (c3 | c3) | c3
    · refine PySem.W.SortsAt.data e al (.inl fun d hd => ?_) dp2
      have := c3 d hd
      unfold tupNE at this
      split at this
      · exact ⟨_, _, rfl⟩
      · cases this
    · refine PySem.W.SortsAt.data e al (.inr fun d hd => ?_) dp2
      have := c3 d hd
      unfold notNT at this
      split at this
      · cases this
      · cases this
      · next h1 h2 => exact ⟨fun z => h1 z, fun xs z => h2 xs z⟩
    · have : ds = [.tuple []] := by
        unfold isUnit at c3
        split at c3
        · rfl
        · cases c3
      subst this
      exact sortsUnit (by show X.A.units + 2 + 60 < cLine; omega) e
  have dp : ∀ b, b ∈ ds → X.A.units + 2 + PyData.depth (id b) < cLine := fun b hb => by
    have := c2 b hb
    show X.A.units + 2 + PyData.depth b < cLine
    omega
  have nd := noDs_of fun d hd => noD_alike d (c1 d hd d hd)
  have fin : ∀ (its : List Value), Vals xs its → ∀ out : List Value, out.length = ds.length → PySem.W.EachIs (fun u d => ∃ v, RelV v u ∧ Rp X.K H d v) out (ds.mergeSort (PySem.W.dataLe false id)) →
      EP X pins σ Q (.ref (s.heap.objs.size + 1)) { s with heap := PyProof.Rows.sortedAll s.heap its (List.toArray out) } := fun its rv out ho eo => by
    obtain ⟨ws, h1, h2⟩ := rp_each eo
    obtain ⟨ep, he'⟩ := PyProof.Rows.sortedAll_at s.heap its out.toArray
    have hlen : ws.length ≤ sizeLine := by
      rw [h2.length, ho, ← lim_eq]; exact c4
    refine ⟨.ref _, upd H (s.heap.objs.size + 1) (.lst ws), I.laid (t' := s.toks) (fun _ _ => PyProof.Rows.sortedAll_old) (Nat.le_succ _) ⟨hlen, out, ep, h2, ?_⟩, rfl, q ws _ (I.hok.fresh (Nat.le_succ _)) h1⟩
    simpa using he'
  rcases hs with hs | hs
  · obtain ⟨its, rv, hl, hz⟩ := I.list hs
    have e0 := each_rp rp rv
    have e1 := each_rpN nd rp rv
    have er := e1.mono fun u d ⟨v, q1, q2, q3⟩ => Dp.reads I d v u (Rp.dp _ _ q3 q2) q1
    have later : PySem.W.EachIs (fun v b => ∃ as, Reads (PySem.W.sortingHeap (PySem.W.copyHeap s.heap its) (s.heap.objs.size + 1) its) v (id b) as) its ds := er.mono fun _ _ ⟨as, r⟩ => ⟨as, PyProof.Rows.Reads.keeps (fun _ _ => PySem.W.sorting_copy_old) r⟩
    exact PySem.W.sorted_vals hl.isList (so' { s with heap := PySem.W.sortingHeap (PySem.W.copyHeap s.heap its) (s.heap.objs.size + 1) its } its later) (by rw [e1.length, ← lim_eq]; exact c4)
      (fin its rv _ (by rw [PySem.W.sortVals_length false rfl]; exact e1.length) (PySem.W.sortVals_data false e0 later al))
  · obtain ⟨its, rv, hl, hz⟩ := I.tuple hs
    have e0 := each_rp rp rv
    have e1 := each_rpN nd rp rv
    have er := e1.mono fun u d ⟨v, q1, q2, q3⟩ => Dp.reads I d v u (Rp.dp _ _ q3 q2) q1
    have later : PySem.W.EachIs (fun v b => ∃ as, Reads (PySem.W.sortingHeap (PySem.W.copyHeap s.heap its) (s.heap.objs.size + 1) its) v (id b) as) its ds := er.mono fun _ _ ⟨as, r⟩ => ⟨as, PyProof.Rows.Reads.keeps (fun _ _ => PySem.W.sorting_copy_old) r⟩
    exact sortedT_vals hl (so' { s with heap := PySem.W.sortingHeap (PySem.W.copyHeap s.heap its) (s.heap.objs.size + 1) its } its later) (by rw [e1.length, ← lim_eq]; exact c4)
      (fin its rv _ (by rw [PySem.W.sortVals_length false rfl]; exact e1.length) (PySem.W.sortVals_data false e0 later al))
end

/-! ### len(set(t)) -/
def rLenSet (K : PySem.W.Frag) : V → Hp → VK → Prop := fun x H Q => ∃ (l : Addr) (ns : List Int), x = .ref l ∧ SqT K H l (ns.map V.int) ∧ ns.length ≤ 4000 ∧ Q (.int (ns.eraseDups.length : Nat)) H
theorem eraseDups_spec : ∀ (n : Nat) (l : List Int), l.length ≤ n → l.eraseDups.Nodup ∧ ∀ a, a ∈ l.eraseDups ↔ a ∈ l
  | 0, [], _ => by simp
  | n + 1, [], _ => by simp
  | n + 1, a :: l, h => by
    rw [List.eraseDups_cons]
    have hl : (l.filter fun b => !b == a).length ≤ n := Nat.le_trans (List.length_filter_le _ _) (by simpa using h)
    obtain ⟨h1, h2⟩ := eraseDups_spec n _ hl
    refine ⟨List.nodup_cons.mpr ⟨fun z => ?_, h1⟩, fun b => ?_⟩
    · have := (h2 a).mp z
      simp at this
    · rw [List.mem_cons, List.mem_cons, h2, List.mem_filter]
      constructor
      · rintro (z | ⟨z, _⟩)
        · exact .inl z
        · exact .inr z
      · rintro (z | z)
        · exact .inl z
        · by_cases e : b = a
          · exact .inl e
          · exact .inr ⟨z, by simp [e]⟩
theorem nodup_len {l m : List Int} (h1 : l.Nodup) (h2 : m.Nodup) (h : ∀ a, a ∈ l ↔ a ∈ m) : l.length = m.length :=
  ((List.perm_ext_iff_of_nodup h1 h2).mpr h).length_eq
theorem pe_lenSet {X : Cx} {a : Expr} {ta : TE} {p p2 q pos : Pos} (hg : Gl X "len") (hm : X.mg "len" = none) (hg2 : Gl X "set") (hm2 : X.mg "set" = none) (ha : PE X a ta) (hc : X.calm = true)
    (na : starEach [a] X.env = (false, eval a X.env) :: starEach [] X.env) : PE X (.Call (.Name "len" p) [.Call (.Name "set" p2) [a] [] q] [] pos) (tUn (rLenSet X.K) ta) := by
  refine ⟨fun pins s σ H Q I h => ?_⟩
  refine Call_ (ld_blt I hg hm boot_len ?_)
  refine PyProof.Rows.callWith_builtin1 (PyProof.Rows.args_cons ?_ rfl) rfl rfl
  refine Call_ (ld_blt I hg2 hm2 boot_set ?_)
  refine PyProof.Rows.callWith_type1 (PyProof.Rows.args_cons (thn (ha.run pins s σ H _ I h) fun v s1 ⟨x, H1, I1, r1, q1⟩ => PyProof.Rows.args_nil ?_) na) na rfl
  obtain ⟨l, ns, rfl, hq, hl, q1⟩ := q1
  cases r1
  obtain ⟨its, r, pl, hz⟩ := I1.tuple hq
  refine call_set_tupI ns (I1.ok.hd hc) pl (by simpa using r.ints) (by unfold scanBound; omega) fun h' tk c hS _ hk => ?_
  refine PyProof.Rows.args_nil ?_
  obtain ⟨o, es, ep, t, ho, hex, hd, _, hnd, hmem, hsb, hf, hn, _⟩ := hS
  have I2 : Inv X pins σ H1 { s1 with heap := h', toks := tk } := I1.kept fun b o e => hk b o e
  obtain ⟨d1, d2⟩ := eraseDups_spec ns.length ns (Nat.le_refl _)
  have e1 : es.size = ns.eraseDups.length := by
    have := nodup_len hnd d1 fun k => by rw [d2, ← hmem]; simp
    rw [← this]
    simp
  refine call_len_set ho hex hd hf (by unfold scanBound at hsb; omega) ⟨.int ns.eraseDups.length, H1, I2.tok _, ⟨_, by rw [e1]⟩, q1⟩

/-! ### max, min of a list or tuple of things that are alike -/
theorem bestD_mem (mx : Bool) : ∀ (x : D) (xs : List D), bestD mx x xs ∈ x :: xs
  | x, [] => List.mem_cons_self ..
  | x, y :: ys => by
    show bestD mx (if (if mx then PySem.W.dataLt x y else PySem.W.dataLt y x) then y else x) ys ∈ _
    have := bestD_mem mx (if (if mx then PySem.W.dataLt x y else PySem.W.dataLt y x) then y else x) ys
    rcases List.mem_cons.mp this with z | z
    · rw [z]
      by_cases c : (if mx then PySem.W.dataLt x y else PySem.W.dataLt y x) = true
      · rw [if_pos c]; exact List.mem_cons_of_mem _ (List.mem_cons_self ..)
      · rw [if_neg c]; exact List.mem_cons_self ..
    · exact List.mem_cons_of_mem _ (List.mem_cons_of_mem _ z)
theorem each_reads {h : Heap} : ∀ {us : List Value} {ds : List D}, PySem.W.EachIs (fun u d => ∃ as, Reads h u d as) us ds → ∃ as, ReadsAll h us ds as
  | _, _, .nil => ⟨_, .nil⟩
  | _, _, .cons ⟨as, r⟩ t => by
    obtain ⟨bs, rs⟩ := each_reads t
    exact ⟨_, .cons r rs⟩
theorem each_at {α β : Type} {R : α → β → Prop} : ∀ {us : List α} {ds : List β}, PySem.W.EachIs R us ds → ∀ {i : Nat} {u : α} {d : β}, us[i]? = some u → ds[i]? = some d → R u d
  | _, _, .nil, _, _, _, h, _ => by simp at h
  | _, _, .cons r t, 0, _, _, h, h' => by simp at h h'; subst h h'; exact r
  | _, _, .cons r t, i + 1, _, _, h, h' => each_at t (i := i) (by simpa using h) (by simpa using h')
def rBest (K : PySem.W.Frag) (mx : Bool) : List V → Hp → VK → Prop := fun vs H Q => ∃ (a : Addr) (ys : List V) (x : D) (xs : List D), vs = [V.ref a] ∧ (SqL K H a ys ∨ SqT K H a ys) ∧ RpAll K H (x :: xs) ys ∧ altOk (x :: xs) = true ∧ ∀ w, Rp K H (bestD mx x xs) w → Q w H
theorem depthAll_le {m : Nat} : ∀ {ds : List D}, (∀ d ∈ ds, d.depth ≤ m) → PyData.depthAll ds ≤ m
  | [], _ => by simp only [PyData.depthAll]; omega
  | d :: ds, h => by
    simp only [PyData.depthAll]
    have h1 := h d (List.mem_cons_self ..)
    have h2 := depthAll_le (ds := ds) fun x hx => h x (List.mem_cons_of_mem _ hx)
    omega
theorem bestD_max (x : D) (xs : List D) : bestD true x xs = PySem.W.maxD x xs := rfl
theorem bestD_min (x : D) (xs : List D) : bestD false x xs = PySem.W.minD x xs := rfl
theorem cr_best {X : Cx} (hc : X.calm = true) (hu : X.A.units + 100 < cLine) (mx : Bool) : CallR X (if mx then .builtin "max" else .builtin "min") (rBest X.K mx) := by
  intro pins s σ H vs us Q I r h
  obtain ⟨a, ys, x, xs, rfl, hs, rp, so, q⟩ := h
  rw [Vals.ref1 r]
  unfold altOk at so
  simp only [Bool.and_eq_true, List.all_eq_true, decide_eq_true_eq] at so
  obtain ⟨c1, c2, c3⟩ := so
  have al : PySem.W.AlikeAll (x :: xs) := ⟨c1, fun d hd z => by have := c2 d hd; rw [z] at this; cases this⟩
  have nd := noDs_of fun d hd => noD_alike d (c1 d hd d hd)
  have dp : X.A.units + 1 + PyData.depthAll (x :: xs) < cLine := by
    have := depthAll_le (m := 64) c3
    omega
  have fin : ∀ (its : List Value), Vals ys its → (∀ (i : Nat) v, its[i]? = some v → ∀ d, (x :: xs)[i]? = some d → ∃ as, Reads s.heap v d as) → ∀ (i : Nat) (v : Value) (h' : Heap) (tk : Nat) (bs : List Addr), its.toArray[i]? = some v → Reads h' v (bestD mx x xs) bs → (∀ b o, s.heap.get? b = some o → h'.get? b = some o) → EP X pins σ Q v { s with heap := h', toks := tk } := fun its rv rd i v h' tk bs hv hr hk => by
    have hv : its[i]? = some v := by simpa using hv
    have hl : i < ys.length := by
      rw [rv.length]
      exact (List.getElem?_eq_some_iff.mp hv).1
    obtain ⟨u, hu', ru⟩ := rv.get (List.getElem?_eq_getElem hl)
    rw [hv] at hu'
    cases hu'
    obtain ⟨d, hd, rd2⟩ := rp.getV (List.getElem?_eq_getElem hl)
    obtain ⟨as, r1⟩ := rd i v hv d hd
    have dm := List.mem_of_getElem? hd
    have e : d = bestD mx x xs := PySem.W.alike_unique d _ v as bs (c1 d dm _ (bestD_mem mx x xs)) (PySem.W.reads_keeps hk r1) hr
    exact ⟨ys[i], H, I.kept (t' := tk) hk, ru, q _ (e ▸ rd2)⟩
  have rdA : ∀ (its : List Value), Vals ys its → (∃ as, ReadsAll s.heap its (x :: xs) as) ∧ ∀ (i : Nat) v, its[i]? = some v → ∀ d, (x :: xs)[i]? = some d → ∃ as, Reads s.heap v d as := fun its rv => by
    have e1 := (each_rpN nd rp rv).mono fun u d ⟨v, q1, q2, q3⟩ => Dp.reads I d v u (Rp.dp _ _ q3 q2) q1
    refine ⟨each_reads e1, fun i v hv d hd => each_at e1 hv hd⟩
  rcases hs with hs | hs
  · obtain ⟨its, rv, hl, hz⟩ := I.list hs
    obtain ⟨⟨as, ra⟩, rd⟩ := rdA its rv
    cases mx with
    | true => exact PySem.W.max_list_data (I.ok.hd hc) hl.isList (by simpa using ra) al dp fun i v h' tk bs hv hr hk => fin its rv rd i v h' tk bs hv hr hk
    | false => exact PySem.W.min_list_data (I.ok.hd hc) hl.isList (by simpa using ra) al dp fun i v h' tk bs hv hr hk => fin its rv rd i v h' tk bs hv hr hk
  · obtain ⟨its, rv, hl, hz⟩ := I.tuple hs
    obtain ⟨⟨as, ra⟩, rd⟩ := rdA its rv
    cases mx with
    | true => exact PySem.W.max_tuple_data (I.ok.hd hc) hl (by simpa using ra) al dp fun i v h' tk bs hv hr hk => fin its rv rd i v h' tk bs hv hr hk
    | false => exact PySem.W.min_tuple_data (I.ok.hd hc) hl (by simpa using ra) al dp fun i v h' tk bs hv hr hk => fin its rv rd i v h' tk bs hv hr hk
/-! ### each built-in -/
def BF.id : BF → String
  | .len => "len" | .abs => "abs" | .min => "min" | .max => "max" | .sum => "sum" | .any => "any" | .all => "all" | .int => "int" | .tuple => "tuple" | .list => "list"
  | .sorted => "sorted" | .repr => "repr" | .str => "str" | .bool => "bool" | .lenset => "len" | .sortedset => "sorted" | .lrng => "list" | .trng => "tuple" | .dict => "dict"
def BF.py : BF → Value
  | .len => .builtin "len" | .abs => .builtin "abs" | .min => .builtin "min" | .max => .builtin "max" | .sum => .builtin "sum" | .any => .builtin "any" | .all => .builtin "all"
  | .int => .type "int" | .tuple => .type "tuple" | .list => .type "list" | .sorted => .builtin "sorted" | .repr => .builtin "repr" | .str => .type "str" | .bool => .type "bool" | .lenset => .builtin "len" | .sortedset => .builtin "sorted" | .lrng => .type "list" | .trng => .type "tuple" | .dict => .type "dict"
/-- forms that are one call of a name -/
def BF.pl : BF → Bool
  | .lenset => false
  | .sortedset => false
  | .lrng => false
  | .trng => false
  | .repr => false
  | _ => true
def rF (K : PySem.W.Frag) : BF → List V → Hp → VK → Prop
  | .len => fun xs H Q => (∃ p ys, xs = [.ref p] ∧ (SqL K H p ys ∨ SqT K H p ys) ∧ Q (.int ys.length) H) ∨ (∃ z, xs = [.str z] ∧ z.length ≤ sizeLine ∧ Q (.int z.length) H)
  | .abs => fun xs H Q => ∃ i, xs = [.int i] ∧ Q (.int (if i < 0 then -i else i)) H
  | .int => fun xs H Q => ((∃ i, xs = [.int i] ∧ Q (.int i) H) ∨ ∃ k, xs = [.bl k] ∧ Q (.int (if k then 1 else 0)) H) ∨ ∃ a n, xs = [.str a] ∧ PySem.intText? a = some n ∧ a.length ≤ 640 ∧ Q (.int n) H
  | .str => fun xs H Q => ∃ i, xs = [.int i] ∧ i.natAbs.log2 < 1920 ∧ Q (.str (toString i)) H
  | .sum => rSum K
  | .max => rBest K true
  | .min => rBest K false
  | .any => rAny K
  | .all => rAll K
  | .tuple => fun xs H Q => ∃ p ys, xs = [.ref p] ∧ ((SqL K H p ys ∧ ∀ l, H l = none → Q (.ref l) (upd H l (.tup ys))) ∨ (SqT K H p ys ∧ Q (.ref p) H))
  | .list => fun xs H Q => (∃ p ys, xs = [.ref p] ∧ (SqL K H p ys ∨ SqT K H p ys) ∧ ∀ l, H l = none → Q (.ref l) (upd H l (.lst ys))) ∨ rListD xs H Q ∨ ∃ d kvs, xs = [.ref d] ∧ Rd H d (.dT kvs) ∧ ∀ p bs, H p = none → IsKeys H kvs bs → Q (.ref p) (upd H p (.lst (bs.map V.ref)))
  | .dict => fun xs H Q => ∃ (a : Addr) (ps : List Addr) (kvs : List (Key × V)), xs = [.ref a] ∧ SqL K H a (ps.map V.ref) ∧ Paired (fun p kv => SqT K H p [kV kv.1, kv.2]) ps kvs ∧ ∀ p, H p = none → Q (.ref p) (upd H p (.dK (mergeK [] kvs)))
  | .sorted => rSortD K
  | _ => fun _ _ _ => False
theorem call_F {X : Cx} (hc : X.calm = true) (hu : X.A.units + 100 < cLine) (f : BF) : CallR X f.py (rF X.K f) := by
  cases f with
  | len => exact call_len_seq.or call_len_str
  | abs => exact call_abs
  | int => exact call_int1.or call_int_str
  | str => exact call_str_int
  | sum => exact cr_sum hc
  | max => exact cr_best hc hu true
  | min => exact cr_best hc hu false
  | any => exact cr_any hc
  | all => exact cr_all hc
  | tuple => exact call_tuple_of
  | list => exact call_list_of.or ((call_list_dK hc).or (call_list_dT hc))
  | dict => exact call_dictP hc
  | sorted => exact cr_sortD hu
  | _ => exact fun _ _ _ _ _ _ _ _ _ h => False.elim h
section
variable {K : PySem.W.Frag}
theorem ints_of_list {H : Hp} {s : SV} {v : V} {G : Addr → Prop} {ds : List D} {ns : List Int} (h : RS K H s v G) (e1 : listOf s = .ok ds) (e2 : intsD ds = .ok ns) : ∃ p, v = .ref p ∧ SqL K H p (ns.map V.int) := by
  obtain ⟨p, vs, rfl, sq, r⟩ := listOf_seq h e1
  rw [intsD_eq e2] at r
  rw [RpAll.ints r] at sq
  exact ⟨p, rfl, sq⟩
theorem bls_of_list {H : Hp} {s : SV} {v : V} {G : Addr → Prop} {ds : List D} {ns : List Bool} (h : RS K H s v G) (e1 : listOf s = .ok ds) (e2 : boolsD ds = .ok ns) : ∃ p, v = .ref p ∧ SqL K H p (ns.map V.bl) := by
  obtain ⟨p, vs, rfl, sq, r⟩ := listOf_seq h e1
  rw [boolsD_eq e2] at r
  rw [RpAll.bls r] at sq
  exact ⟨p, rfl, sq⟩
theorem _root_.Dn.RpKs.keys {H : Hp} : ∀ {kvs : List (D × D)} {ks : List (Key × V)}, RpKs K H kvs ks → RpAll K H (kvs.map (·.1)) (ks.map fun kv => kV kv.1)
  | _, _, .nil => .nil
  | _, _, .cons (k := j) _ h2 => .cons (by cases j <;> constructor) h2.keys
theorem rp_kyDs {H : Hp} : ∀ ks : List Key, RpAll K H (ks.map kyD) (ks.map kV)
  | [] => .nil
  | k :: ks => .cons (by cases k <;> constructor) (rp_kyDs ks)
theorem _root_.Dn.RpTs.keys {H : Hp} : ∀ {kvs : List (D × D)} {ks : List (List Key × V)} {bs : List Addr}, RpTs K H kvs ks → IsKeys H ks bs → RpAll K H (kvs.map (·.1)) (bs.map V.ref)
  | _, _, _, .nil, h => by cases h; exact .nil
  | _, _, _, .cons (k := j) _ h2, h => by
    cases h with
    | cons h3 h4 => exact .cons (.tup h3 (rp_kyDs j)) (h2.keys h4)
theorem _root_.Dn.RpKs.merge {H : Hp} : ∀ {more : List (D × D)} {ms : List (Key × V)}, RpKs K H more ms → ∀ {kvs : List (D × D)} {ks : List (Key × V)}, RpKs K H kvs ks → RpKs K H (mergeD kvs more) (mergeK ks ms)
  | _, _, .nil, _, _, h => h
  | _, _, .cons (k := j) h1 h2, _, _, h => RpKs.merge h2 (h.put j h1)
theorem kvsD_rp {H : Hp} : ∀ {ds : List D} {kvs : List (D × D)} {vs : List V}, kvsD ds = .ok kvs → RpAll K H ds vs → ∃ (ps : List Addr) (ks : List (Key × V)), vs = ps.map V.ref ∧ Paired (fun p kv => SqT K H p [kV kv.1, kv.2]) ps ks ∧ RpKs K H kvs ks := by
  intro ds
  induction ds with
  | nil => intro kvs vs e h; cases e; cases h; exact ⟨[], [], rfl, .nil, .nil⟩
  | cons d r ih =>
    intro kvs vs e h
    unfold kvsD at e
    split at e
    · next z => cases z
    · next k v r' z =>
      cases z
      by_cases c : isKy k = true
      · rw [if_pos c] at e
        obtain ⟨kvs', e1, e2⟩ := bind_ok e
        cases e2
        obtain ⟨j, rfl⟩ := kyD_of c
        cases h with
        | cons h1 h2 =>
          obtain ⟨ps, ks, rfl, h3, h4⟩ := ih e1 h2
          cases h1 with
          | @tupS a xs _ h5 h6 _ =>
            cases h6 with
            | cons h7 h8 =>
              cases h8 with
              | @cons w ws _ _ h9 h10 =>
                cases h10
                rw [kyD_rp h7] at h5
                exact ⟨a :: ps, (j, w) :: ks, rfl, .cons (h5) h3, .cons h9 h4⟩
      · rw [if_neg c] at e; cases e
    · cases e
theorem Step.newD {H : Hp} {kvs : List (D × D)} {ks : List (Key × V)} {p : Addr} (n : H p = none) (r : RpKs K H kvs ks) : Step K H (.ow (.m false kvs)) (.ref p) (upd H p (.dK ks)) :=
  fun _ F h => h.newx n ⟨p, ks, rfl, upd_same, RpKs.stay (.new n) _ _ r, fun _ => Iff.rfl⟩
theorem Step.newT {H : Hp} {kvs : List (D × D)} {ks : List (List Key × V)} {p : Addr} (n : H p = none) (r : RpTs K H kvs ks) : Step K H (.ow (.m true kvs)) (.ref p) (upd H p (.dT ks)) :=
  fun _ F h => h.newx n ⟨p, ks, rfl, upd_same, RpTs.stay (.new n) _ _ r, fun _ => Iff.rfl⟩
theorem ok_best {H : Hp} {mx : Bool} {sa s : SV} {va : V} {Ga : Addr → Prop} {ds : List D} {Q : VK} (h1 : RS K H sa va Ga) (e1 : items sa = .ok ds) (e2 : bestS mx ds = .ok s) (q : ∀ v H', Step K H s v H' → Q v H') : rBest K mx [va] H Q := by
  obtain ⟨p, vs, rfl, sq, r⟩ := items_seq h1 e1
  cases ds with
  | nil => cases e2
  | cons x xs =>
    obtain ⟨c, rfl⟩ := if_ok (show (if altOk (x :: xs) = true then R.ok (SV.d (bestD mx x xs)) else R.bad) = .ok s from e2)
    exact ⟨p, vs, x, xs, rfl, sq, r, c, fun w hw => q _ _ (.d hw)⟩
theorem ok_F (f : BF) (hf : f.pl = true) : OkF K (rF K f) (opF f) := by
  intro H sa va Ga s Q h1 e q
  cases f with
  | len =>
    have main : (do let ds ← items sa; R.ok (SV.d (.int ds.length))) = .ok s → rF K .len [va] H Q := fun e => by
      obtain ⟨ds, e1, e⟩ := bind_ok e
      cases e
      obtain ⟨p, vs, rfl, sq, r⟩ := items_seq h1 e1
      rw [r.len] at q
      exact .inl ⟨p, vs, rfl, sq, q _ _ (.d (.int _))⟩
    cases sa with
    | ow w => cases e
    | l xs => exact main e
    | d x =>
      cases x with
      | str z =>
        obtain ⟨hc, rfl⟩ := if_ok (show (if z.length ≤ LIM then R.ok (SV.d (.int z.length)) else R.bad) = .ok s from e)
        rw [lim_eq] at hc
        rw [rs_str h1]
        exact .inr ⟨z, rfl, hc, q _ _ (.d (.int _))⟩
      | _ => exact main e
  | abs =>
    cases sa with
    | ow w => cases e
    | l xs => cases e
    | d x =>
      cases x with
      | int i => cases e; rw [rs_int h1]; exact ⟨i, rfl, q _ _ (.d (.int _))⟩
      | _ => cases e
  | int =>
    cases sa with
    | ow w => cases e
    | l xs => cases e
    | d x =>
      cases x with
      | int i => cases e; rw [rs_int h1]; exact .inl (.inl ⟨i, rfl, q _ _ (.d (.int _))⟩)
      | bool b => cases e; rw [rs_bl h1]; exact .inl (.inr ⟨b, rfl, q _ _ (.d (.int _))⟩)
      | str z =>
        have e' : (match PySem.intText? z with | some n => if z.length ≤ 640 then R.ok (SV.d (.int n)) else .bad | none => .bad) = .ok s := e
        cases hz : PySem.intText? z with
        | none => rw [hz] at e'; cases e'
        | some n =>
          rw [hz] at e'
          obtain ⟨c, rfl⟩ := if_ok (show (if z.length ≤ 640 then R.ok (SV.d (.int n)) else .bad) = .ok s from e')
          rw [rs_str h1]
          exact .inr ⟨z, n, rfl, hz, c, q _ _ (.d (.int _))⟩
      | _ => cases e
  | str =>
    cases sa with
    | ow w => cases e
    | l xs => cases e
    | d x =>
      cases x with
      | int i =>
        obtain ⟨c, rfl⟩ := if_ok (show (if i.natAbs.log2 < 1920 then R.ok (SV.d (.str (toString i))) else .bad) = .ok s from e)
        rw [rs_int h1]
        exact ⟨i, rfl, c, q _ _ (.d (.str _))⟩
      | _ => cases e
  | sum =>
    obtain ⟨ds, e1, e2⟩ := bind_ok (show (do let ds ← listOf sa; let ns ← intsD ds; R.ok (SV.d (.int ns.sum))) = .ok s from by cases sa <;> first | exact e | (rename_i x; cases x <;> exact e))
    obtain ⟨ns, e3, e4⟩ := bind_ok e2
    cases e4
    obtain ⟨p, rfl, sq⟩ := ints_of_list h1 e1 e3
    exact ⟨p, ns, rfl, sq, q _ _ (.d (.int _))⟩
  | max =>
    obtain ⟨ds, e1, e2⟩ := bind_ok (show (do let ds ← items sa; bestS true ds) = .ok s from by cases sa <;> first | exact e | (rename_i x; cases x <;> exact e))
    exact ok_best h1 e1 e2 q
  | min =>
    obtain ⟨ds, e1, e2⟩ := bind_ok (show (do let ds ← items sa; bestS false ds) = .ok s from by cases sa <;> first | exact e | (rename_i x; cases x <;> exact e))
    exact ok_best h1 e1 e2 q
  | any =>
    obtain ⟨ds, e1, e2⟩ := bind_ok (show (do let ds ← listOf sa; let ns ← boolsD ds; R.ok (SV.d (.bool (ns.any id)))) = .ok s from by cases sa <;> first | exact e | (rename_i x; cases x <;> exact e))
    obtain ⟨ns, e3, e4⟩ := bind_ok e2
    cases e4
    obtain ⟨p, rfl, sq⟩ := bls_of_list h1 e1 e3
    exact ⟨p, ns, rfl, sq, q _ _ (.d (.bl _))⟩
  | all =>
    obtain ⟨ds, e1, e2⟩ := bind_ok (show (do let ds ← listOf sa; let ns ← boolsD ds; R.ok (SV.d (.bool (ns.all id)))) = .ok s from by cases sa <;> first | exact e | (rename_i x; cases x <;> exact e))
    obtain ⟨ns, e3, e4⟩ := bind_ok e2
    cases e4
    obtain ⟨p, rfl, sq⟩ := bls_of_list h1 e1 e3
    exact ⟨p, ns, rfl, sq, q _ _ (.d (.bl _))⟩
  | tuple =>
    obtain ⟨ds, e1, e2⟩ := bind_ok (show (do let ds ← items sa; R.ok (SV.d (.tuple ds))) = .ok s from by cases sa <;> first | exact e | (rename_i x; cases x <;> exact e))
    cases e2
    have lst : (∃ p vs, va = .ref p ∧ SqL K H p vs ∧ RpAll K H ds vs) → rF K .tuple [va] H Q := fun ⟨p, vs, z, sq, r⟩ => by
      subst z
      exact ⟨p, vs, rfl, .inl ⟨sq, fun l n => q _ _ (.tup n r)⟩⟩
    cases sa with
    | ow w => cases e1
    | l xs => exact lst (listOf_seq (s := .l xs) h1 e1)
    | d x =>
      cases x with
      | list xs => exact lst (listOf_seq (s := .d (.list xs)) h1 e1)
      | tuple xs =>
        cases e1
        obtain ⟨h1, _⟩ := h1
        cases h1 with
        | @tupS a ys _ h2 h3 h4 => exact ⟨a, ys, rfl, .inr ⟨h2, q _ _ (.d (.tupS h2 h3 h4))⟩⟩
      | _ => cases e1
  | list =>
    cases sa with
    | ow w =>
      cases w with
      | k _ _ _ => cases e
      | kt _ _ _ => cases e
      | fn _ => cases e
      | m t kvs =>
        cases e
        cases t with
        | false =>
          obtain ⟨p, ks, rfl, hp, r, _⟩ := h1
          exact .inr (.inl ⟨p, ks, rfl, hp, fun l n => q _ _ (.lst n r.keys)⟩)
        | true =>
          obtain ⟨p, ks, rfl, hp, r, _⟩ := h1
          exact .inr (.inr ⟨p, ks, rfl, .inl hp, fun l bs n hb => q _ _ (.lst n (r.keys hb))⟩)
    | l xs =>
      cases e
      obtain ⟨p, vs, rfl, sq, r⟩ := items_seq (s := .l xs) h1 rfl
      exact .inl ⟨p, vs, rfl, sq, fun l n => q _ _ (.lst n r)⟩
    | d x =>
      obtain ⟨ds, e1, e2⟩ := bind_ok (show (do let ds ← items (.d x); R.ok (SV.l ds)) = .ok s from by cases x <;> exact e)
      cases e2
      obtain ⟨p, vs, rfl, sq, r⟩ := items_seq h1 e1
      exact .inl ⟨p, vs, rfl, sq, fun l n => q _ _ (.lst n r)⟩
  | dict =>
    obtain ⟨ds, e1, e2⟩ := bind_ok (show (do let ds ← listOf sa; let kvs ← kvsD ds; R.ok (SV.ow (.m false (mergeD [] kvs)))) = .ok s from by cases sa <;> first | exact e | (rename_i x; cases x <;> exact e))
    obtain ⟨kvs, e3, e4⟩ := bind_ok e2
    cases e4
    obtain ⟨p, vs, rfl, sq, r⟩ := listOf_seq h1 e1
    obtain ⟨ps, ks, rfl, h2, h3⟩ := kvsD_rp e3 r
    exact ⟨p, ps, ks, rfl, sq, h2, fun l n => q _ _ (Step.newD n (RpKs.merge h3 .nil))⟩
  | sorted =>
    obtain ⟨ds, e1, e2⟩ := bind_ok (show (do let ds ← items sa; if sortOk ds = true then R.ok (SV.l (ds.mergeSort (PySem.W.dataLe false id))) else R.bad) = .ok s from by cases sa <;> first | exact e | (rename_i x; cases x <;> exact e))
    obtain ⟨c, rfl⟩ := if_ok e2
    obtain ⟨p, vs, rfl, sq, r⟩ := items_seq h1 e1
    exact ⟨p, vs, ds, rfl, sq, r, c, fun ws p2 n r2 => q _ _ (.lst n r2)⟩
  | lenset => cases hf
  | lrng => cases hf
  | trng => cases hf
  | sortedset => cases hf
  | repr => cases hf
  | _ => cases sa <;> first | (cases e; done) | (rename_i x; cases x <;> cases e)
theorem ok_lenset : Ok1 K (rLenSet K) (opF .lenset) := by
  intro H sa va Ga s Q h1 e q
  have e' : (do let ds ← tupOf sa; let ns ← intsD ds; if ns.length ≤ 4000 then R.ok (SV.d (.int (ns.eraseDups.length : Nat))) else R.bad) = .ok s := by
    cases sa <;> first | exact e | (rename_i x; cases x <;> exact e)
  obtain ⟨ds, e1, e2⟩ := bind_ok e'
  obtain ⟨ns, e3, e4⟩ := bind_ok e2
  obtain ⟨c, rfl⟩ := if_ok e4
  cases sa with
  | ow w => cases e1
  | l xs => cases e1
  | d x =>
    obtain ⟨h1, _⟩ := h1
    cases h1 with
    | @tupS a xs ds' h2 h3 _ =>
      cases e1
      rw [intsD_eq e3] at h3
      rw [RpAll.ints h3] at h2
      exact ⟨a, ns, rfl, h2, c, q _ _ (.d (.int _))⟩
    | _ => cases e1
/-! ### repr(x) -/
def rRepr (K : PySem.W.Frag) : List V → Hp → VK → Prop := fun xs H Q => (∃ z, xs = [.str z] ∧ (reprText z).length ≤ sizeLine ∧ Q (.str (reprText z)) H) ∨ (xs = [.non] ∧ Q (.str "None") H) ∨ (∃ i, xs = [.int i] ∧ i.natAbs.log2 < 1920 ∧ Q (.str (toString i)) H) ∨ ∃ (a : Addr) (d : D), xs = [V.ref a] ∧ Rp K H d (.ref a) ∧ showOk d = true ∧ Q (.str d.shown) H
theorem call_repr {X : Cx} (hg : X.A.guards = some []) (hu : X.A.units + 100 < cLine) : CallR X (.builtin "repr") (rRepr X.K) := by
  intro pins s σ H xs us Q I r h
  rcases h with ⟨z, rfl, hz, q⟩ | ⟨rfl, q⟩ | h | ⟨a, d, rfl, hr, ok, q⟩
  · obtain ⟨u, rfl, t, rfl⟩ := vals1 r
    exact PySem.P.repr_of_str ⟨.str _, H, I.tok _, ⟨_, rfl⟩, q⟩ hz
  · obtain ⟨u, rfl, r1⟩ := vals1 r
    cases (show u = Value.none from r1)
    exact PySem.P.repr_of_none ⟨.str "None", H, I.tok _, ⟨_, rfl⟩, q⟩
  · exact SkE.call_repr_int pins s σ H xs us Q I r h
  rw [Vals.ref1 r]
  unfold showOk at ok
  simp only [Bool.and_eq_true, Bool.not_eq_true', decide_eq_true_eq] at ok
  obtain ⟨_, h1, h2, h3, h4, h5⟩ := ok
  obtain ⟨as, rd⟩ := Dp.reads I d (.ref a) (.ref a) (Rp.dp _ _ h1 hr) rfl
  exact repr_of_reads' rd h2 (PyData.noDict_hsm h3) hg (by omega) (fun _ _ e => e) (fun h' u tk hk => ⟨.str d.shown, H, I.kept (t' := tk) hk, ⟨u, rfl⟩, q⟩) (by rw [sizeLine_eq]; exact h5)
theorem ok_repr : OkF K (rRepr K) (opF .repr) := by
  intro H sa va Ga s Q h1 e q
  cases sa with
  | ow w => cases e
  | l xs => cases e
  | d x =>
    obtain ⟨h1, _⟩ := h1
    cases h1 with
    | @lst a xs ds h2 h3 =>
      obtain ⟨c, rfl⟩ := if_ok (show (if showOk (.list ds) = true then R.ok (SV.d (.str (PyData.shown (.list ds)))) else R.bad) = .ok s from e)
      exact .inr (.inr (.inr ⟨a, _, rfl, .lst h2 h3, c, q _ _ (.d (.str _))⟩))
    | @tupS a xs ds h2 h3 h4 =>
      obtain ⟨c, rfl⟩ := if_ok (show (if showOk (.tuple ds) = true then R.ok (SV.d (.str (PyData.shown (.tuple ds)))) else R.bad) = .ok s from e)
      exact .inr (.inr (.inr ⟨a, _, rfl, .tupS h2 h3 h4, c, q _ _ (.d (.str _))⟩))
    | non => cases e; exact .inr (.inl ⟨rfl, q _ _ (.d (.str _))⟩)
    | int i =>
      obtain ⟨c, rfl⟩ := if_ok (show (if i.natAbs.log2 < 1920 then R.ok (SV.d (.str (toString i))) else R.bad) = .ok s from e)
      exact .inr (.inr (.inl ⟨i, rfl, c, q _ _ (.d (.str _))⟩))
    | bl b =>
      obtain ⟨c, rfl⟩ := if_ok (show (if showOk (.bool b) = true then R.ok (SV.d (.str (PyData.shown (.bool b)))) else R.bad) = .ok s from e)
      cases c
    | str b =>
      obtain ⟨c, rfl⟩ := if_ok (show (if (reprText b).length ≤ LIM then R.ok (SV.d (.str (reprText b))) else R.bad) = .ok s from e)
      rw [lim_eq] at c
      exact .inl ⟨b, rfl, c, q _ _ (.d (.str _))⟩
    | @dctK a o kvs ks h2 h3 =>
      obtain ⟨c, rfl⟩ := if_ok (show (if showOk (.dict kvs) = true then R.ok (SV.d (.str (PyData.shown (.dict kvs)))) else R.bad) = .ok s from e)
      cases c
    | @dctT a o kvs ks h2 h3 =>
      obtain ⟨c, rfl⟩ := if_ok (show (if showOk (.dict ((.none, .none) :: kvs)) = true then R.ok (SV.d (.str (PyData.shown (.dict ((.none, .none) :: kvs))))) else R.bad) = .ok s from e)
      cases c
/-! ### sorted(set(t)) -/
theorem pairsD_eq : ∀ {ds : List D} {ps : List (Int × Int)}, pairsD ds = .ok ps → ds = ps.map prD := by
  intro ds
  induction ds with
  | nil => intro ps h; cases h; rfl
  | cons d r ih =>
    intro ps h
    unfold pairsD at h
    split at h
    · next e => cases e
    · next i j r' e =>
      cases e
      obtain ⟨qs, e, h⟩ := bind_ok h
      cases h
      rw [ih e]; rfl
    · cases h
theorem eraseDupsQ_spec : ∀ (n : Nat) (l : List (Int × Int)), l.length ≤ n → l.eraseDups.Nodup ∧ ∀ a, a ∈ l.eraseDups ↔ a ∈ l
  | 0, [], _ => by simp
  | n + 1, [], _ => by simp
  | n + 1, a :: l, h => by
    rw [List.eraseDups_cons]
    have hl : (l.filter fun b => !b == a).length ≤ n := Nat.le_trans (List.length_filter_le _ _) (by simpa using h)
    obtain ⟨h1, h2⟩ := eraseDupsQ_spec n _ hl
    refine ⟨List.nodup_cons.mpr ⟨fun z => ?_, h1⟩, fun b => ?_⟩
    · have := (h2 a).mp z
      simp at this
    · rw [List.mem_cons, List.mem_cons, h2, List.mem_filter]
      constructor
      · rintro (z | ⟨z, _⟩)
        · exact .inl z
        · exact .inr z
      · rintro (z | z)
        · exact .inl z
        · by_cases e : b = a
          · exact .inl e
          · exact .inr ⟨z, by simpa using e⟩
theorem ltQ_iff {p q : Int × Int} : ltQ p q = true ↔ p.1 < q.1 ∨ (p.1 = q.1 ∧ p.2 < q.2) := by
  simp [ltQ]
theorem srtU_mem {ps : List (Int × Int)} {q : Int × Int} : q ∈ srtU ps ↔ q ∈ ps := by
  unfold srtU
  rw [List.mem_mergeSort]
  exact (eraseDupsQ_spec _ ps (Nat.le_refl _)).2 q
theorem srtU_rise (ps : List (Int × Int)) : (srtU ps).Pairwise fun p q => ltQ p q = true := by
  have h1 : (srtU ps).Pairwise fun p q => (!ltQ q p) = true := List.pairwise_mergeSort (fun a b c x y => by
    simp only [Bool.not_eq_true', Bool.eq_false_iff, ne_eq, ltQ_iff] at *
    omega) (fun a b => by
    simp only [Bool.or_eq_true, Bool.not_eq_true', Bool.eq_false_iff, ne_eq, ltQ_iff]
    omega) _
  have h2 : (srtU ps).Nodup := ((List.mergeSort_perm _ _).nodup_iff).mpr (eraseDupsQ_spec _ ps (Nat.le_refl _)).1
  refine (h1.and h2).imp fun {p q} h => ?_
  obtain ⟨h3, h4⟩ := h
  simp only [Bool.not_eq_true', Bool.eq_false_iff, ne_eq, ltQ_iff] at h3
  rw [ltQ_iff]
  by_cases e : p.1 = q.1
  · have : p.2 ≠ q.2 := fun e2 => h4 (Prod.ext e e2)
    omega
  · omega
theorem rise_eq : ∀ {l m : List (Int × Int)}, (l.Pairwise fun p q => ltQ p q = true) → (m.Pairwise fun p q => ltQ p q = true) → (∀ a, a ∈ l ↔ a ∈ m) → l = m
  | [], [], _, _, _ => rfl
  | [], b :: m, _, _, h => by have := (h b).mpr (List.mem_cons_self ..); cases this
  | a :: l, [], _, _, h => by have := (h a).mp (List.mem_cons_self ..); cases this
  | a :: l, b :: m, h1, h2, h => by
    rw [List.pairwise_cons] at h1 h2
    have e : a = b := by
      rcases List.mem_cons.mp ((h a).mp (List.mem_cons_self ..)) with z | z
      · exact z
      · rcases List.mem_cons.mp ((h b).mpr (List.mem_cons_self ..)) with y | y
        · exact y.symm
        · have p1 := ltQ_iff.mp (h1.1 b y)
          have p2 := ltQ_iff.mp (h2.1 a z)
          omega
    subst e
    have irr : ∀ x, ltQ a x = true → x ≠ a := fun x hx e => by
      rw [e, ltQ_iff] at hx
      omega
    rw [rise_eq h1.2 h2.2 fun x => ⟨fun hx => ?_, fun hx => ?_⟩]
    · rcases List.mem_cons.mp ((h x).mp (List.mem_cons_of_mem _ hx)) with z | z
      · exact absurd z (irr x (h1.1 x hx))
      · exact z
    · rcases List.mem_cons.mp ((h x).mpr (List.mem_cons_of_mem _ hx)) with z | z
      · exact absurd z (irr x (h2.1 x hx))
      · exact z
theorem pairs_refs : ∀ {ps : List (Int × Int)} {vs : List V}, RpAll K H (ps.map prD) vs → ∃ ks : List (Addr × List Int), vs = ks.map (fun p => V.ref p.1) ∧ (∀ p ∈ ks, H p.1 = some (.tup (p.2.map V.int))) ∧ ks.map (·.2) = ps.map fun p => [p.1, p.2]
  | [], _, h => by cases h; exact ⟨[], rfl, by simp, rfl⟩
  | p :: ps, _, h => by
    have h' : RpAll K H (prD p :: ps.map prD) _ := h
    cases h' with
    | cons r t =>
      obtain ⟨ks, rfl, h1, h2⟩ := pairs_refs t
      have r' : Rp K H (.tuple [.int p.1, .int p.2]) _ := r
      cases r' with
      | @tupS a xs _ _ h4 h3 =>
        replace h3 := h3.resolve_right (fun z => by cases z)
        have : xs = [p.1, p.2].map V.int := RpAll.ints (ns := [p.1, p.2]) h4
        subst this
        exact ⟨(a, [p.1, p.2]) :: ks, rfl, fun q hq => (by
          rcases List.mem_cons.mp hq with rfl | z
          · exact h3
          · exact h1 q z), by rw [List.map_cons, List.map_cons, h2]⟩
theorem refs_pairs {H' : Hp} : ∀ {L : List (Addr × List Int)} {us : List (Int × Int)}, (∀ p ∈ L, H' p.1 = some (.tup (p.2.map V.int))) → L.map (·.2) = us.map (fun p => [p.1, p.2]) → RpAll K H' (us.map prD) (L.map fun p => V.ref p.1)
  | [], [], _, _ => .nil
  | [], _ :: _, _, h => by cases h
  | _ :: _, [], _, h => by cases h
  | l :: L, u :: us, h1, h2 => by
    rw [List.map_cons, List.map_cons] at h2
    injection h2 with h3 h4
    have hs := h1 l (List.mem_cons_self ..)
    rw [h3] at hs
    exact .cons (.tup hs (.cons (.int _) (.cons (.int _) .nil))) (refs_pairs (fun p hp => h1 p (List.mem_cons_of_mem _ hp)) h4)
theorem unmap_pairs : ∀ (L : List (Addr × List Int)) (ps : List (Int × Int)), (∀ q ∈ L, q.2 ∈ ps.map fun p => [p.1, p.2]) → ∃ us : List (Int × Int), L.map (·.2) = us.map (fun p => [p.1, p.2]) ∧ ∀ u ∈ us, u ∈ ps
  | [], _, _ => ⟨[], rfl, by simp⟩
  | l :: L, ps, h => by
    obtain ⟨us, h1, h2⟩ := unmap_pairs L ps fun q hq => h q (List.mem_cons_of_mem _ hq)
    obtain ⟨u, hu, e⟩ := List.mem_map.mp (h l (List.mem_cons_self ..))
    exact ⟨u :: us, by rw [List.map_cons, List.map_cons, h1, e], fun x hx => by
      rcases List.mem_cons.mp hx with rfl | z
      · exact hu
      · exact h2 x z⟩
theorem ok_sortset : Ok1 K (rSortSet K) (opF .sortedset) := by
  intro H sa va Ga s Q h1 e q
  have e' : (do let ds ← tupOf sa; let ps ← pairsD ds; if ps.length < 64 ∧ ps.all lowQ = true then R.ok (SV.l ((srtU ps).map prD)) else R.bad) = .ok s := by
    cases sa <;> first | exact e | (rename_i x; cases x <;> exact e)
  obtain ⟨ds, e1, e2⟩ := bind_ok e'
  obtain ⟨ps, e3, e4⟩ := bind_ok e2
  obtain ⟨⟨c1, c2⟩, rfl⟩ := if_ok e4
  have low : ∀ p ∈ ps, 0 ≤ p.1 ∧ p.1 < 64 ∧ 0 ≤ p.2 ∧ p.2 < 64 := fun p hp => by
    have := List.all_eq_true.mp c2 p hp
    simpa [lowQ] using this
  cases sa with
  | ow w => cases e1
  | l xs => cases e1
  | d x =>
    obtain ⟨h1, _⟩ := h1
    cases h1 with
    | @tupS a xs ds' h2 h3 _ =>
      cases e1
      rw [pairsD_eq e3] at h3
      obtain ⟨ks, rfl, k1, k2⟩ := pairs_refs h3
      have kl : ks.length = ps.length := by simpa using congrArg List.length k2
      refine ⟨a, ks, rfl, h2, fun p hp => .inl (.inl (k1 p hp)), by omega, fun p hp => ?_, fun L p m1 m2 nd rise hn => ?_⟩
      · have : p.2 ∈ ps.map fun p => [p.1, p.2] := by rw [← k2]; exact List.mem_map.mpr ⟨p, hp, rfl⟩
        obtain ⟨u, hu, e⟩ := List.mem_map.mp this
        have := low u hu
        rw [← e]
        refine ⟨rfl, fun m hm => ?_⟩
        simp at hm
        omega
      · obtain ⟨us, e5, m3⟩ := unmap_pairs L ps fun q hq => by rw [← k2]; exact List.mem_map.mpr ⟨q, m1 q hq, rfl⟩
        have inj : ∀ p q : Int × Int, ([p.1, p.2] : List Int) = [q.1, q.2] → p = q := fun p q e => by
          injection e with e1 e2
          injection e2 with e2 _
          exact Prod.ext e1 e2
        have m4 : ∀ u, u ∈ us ↔ u ∈ ps := fun u => ⟨m3 u, fun hu => by
          have : [u.1, u.2] ∈ ks.map (·.2) := by rw [k2]; exact List.mem_map.mpr ⟨u, hu, rfl⟩
          obtain ⟨q, hq, e⟩ := List.mem_map.mp this
          have := m2 q hq
          rw [e, e5] at this
          obtain ⟨v, hv, e6⟩ := List.mem_map.mp this
          rw [← inj v u e6]
          exact hv⟩
        have r1 : us.Pairwise fun p q => ltQ p q = true := by
          have n2 : (us.map fun p => [p.1, p.2]).Nodup := by rw [← e5]; exact nd
          have n3 : us.Pairwise fun p q => ([p.1, p.2] : List Int) ≠ [q.1, q.2] := List.pairwise_map.mp n2
          have r2 : (us.map fun p => [p.1, p.2]).Pairwise fun x y => TS.code 64 x ≤ TS.code 64 y := by rw [← e5]; exact List.pairwise_map.mpr rise
          refine ((List.pairwise_map.mp r2).and n3).imp_of_mem fun {p q} hp hq h => ?_
          have b1 := low p (m3 p hp)
          have b2 := low q (m3 q hq)
          exact ltQ_iff.mpr (L2.pair_lt h.1 h.2 ⟨b1.1, b1.2.1⟩ ⟨b1.2.2.1, b1.2.2.2⟩ ⟨b2.1, b2.2.1⟩ ⟨b2.2.2.1, b2.2.2.2⟩)
        have e7 : us = srtU ps := rise_eq r1 (srtU_rise ps) fun u => by rw [m4, srtU_mem]
        rw [← e7] at q
        refine q _ _ (.lst hn (refs_pairs (fun x hx => ?_) e5))
        exact k1 x (m1 x hx)
    | _ => cases e1
/-- max(a, b), min(a, b) -/
def rF2 : BF → List V → Hp → VK → Prop
  | .max => fun xs H Q => ∃ i j, xs = [.int i, .int j] ∧ Q (.int (if j > i then j else i)) H
  | .min => fun xs H Q => ∃ i j, xs = [.int i, .int j] ∧ Q (.int (if j < i then j else i)) H
  | _ => fun _ _ _ => False
theorem call_F2 {X : Cx} (hc : X.calm = true) (f : BF) : CallR X f.py (rF2 f) := by
  cases f with
  | max => exact call_max2 hc
  | min => exact call_min2 hc
  | _ => exact fun _ _ _ _ _ _ _ _ _ h => False.elim h
theorem ok_F2 (f : BF) : OkF2 K (rF2 f) (opF2 f) := by
  intro H sa sb va vb Ga Gb s Q h1 h2 e q
  cases f with
  | max =>
    cases sa with
    | ow w => cases e
    | l xs => cases e
    | d x =>
      cases x with
      | int i =>
        cases sb with
        | ow w => cases e
        | l xs => cases e
        | d y =>
          cases y with
          | int j => cases e; rw [rs_int h1, rs_int h2]; exact ⟨i, j, rfl, q _ _ (.d (.int _))⟩
          | _ => cases e
      | _ => cases e
  | min =>
    cases sa with
    | ow w => cases e
    | l xs => cases e
    | d x =>
      cases x with
      | int i =>
        cases sb with
        | ow w => cases e
        | l xs => cases e
        | d y =>
          cases y with
          | int j => cases e; rw [rs_int h1, rs_int h2]; exact ⟨i, j, rfl, q _ _ (.d (.int _))⟩
          | _ => cases e
      | _ => cases e
  | _ => cases e
/-- isinstance -/
def Ty.id : Ty → String
  | .int => "int" | .bool => "bool" | .str => "str" | .tuple => "tuple" | .list => "list" | .dict => "dict"
theorem kb_list (T : Ty) : kitB "list" T.id = some (match T with | .list => true | _ => false) := by cases T <;> decide +kernel
theorem kb_non (T : Ty) : kitB "NoneType" T.id = some false := by cases T <;> decide +kernel
theorem kb_bool (T : Ty) : kitB "bool" T.id = some (match T with | .int => true | .bool => true | _ => false) := by cases T <;> decide +kernel
theorem kb_int (T : Ty) : kitB "int" T.id = some (match T with | .int => true | _ => false) := by cases T <;> decide +kernel
theorem kb_str (T : Ty) : kitB "str" T.id = some (match T with | .str => true | _ => false) := by cases T <;> decide +kernel
theorem kb_tup (T : Ty) : kitB "tuple" T.id = some (match T with | .tuple => true | _ => false) := by cases T <;> decide +kernel
theorem kb_dict (T : Ty) : kitB "dict" T.id = some (match T with | .dict => true | _ => false) := by cases T <;> decide +kernel
/-- a value's type, the frozen dicts with tuples as keys too -/
def TyZ (K : PySem.W.Frag) (H : Hp) (v : V) (t : Value) : Prop := TyX K H v t ∨ (t = .type "dict" ∧ ∃ a o kvs, v = .ref a ∧ H a = some (.frz o (.dT kvs)))
theorem kit_ofZ {X : Cx} {pins : List (Addr × Obj)} {σ : L2.St} {H : Hp} {s : Shared} {x : V} {u t : Value} (I : Inv X pins σ H s) (rx : RelV x u) (ty : TyZ X.K H x t) : ∃ P : Heap → Prop, PySem.W.KitX X.K u t P ∧ P s.heap ∧ u ≠ .builtin "__main__.__loader__#opaque" := by
  rcases ty with ty | ⟨rfl, a, ob, kvs, rfl, ea⟩
  · exact kit_of I rx ty
  · cases (show u = Value.ref a from rx)
    obtain ⟨_, _, _, xs, _, o, es, ep, h1, h2, _⟩ := (show ObjOk X.prog X.w H s.heap a (.frz ob (.dT kvs)) from I.hok a _ ea)
    exact ⟨_, PySem.W.kitx_dict, ⟨o, h1, h2.1⟩, fun z => nomatch z⟩
def rIsiZ (K : PySem.W.Frag) : List V → Hp → VK → Prop := fun xs H Q => ∃ (x c : V) (t u : Value) (b : Bool), xs = [x, c] ∧ ClsV c u ∧ TyZ K H x t ∧ PySem.W.kitOne K t u = some b ∧ Q (.bl b) H
theorem call_isiZ {X : Cx} : CallR X (.builtin "isinstance") (rIsiZ X.K) := by
  intro pins s σ H xs us Q I r h
  obtain ⟨x, c, t, u, b, rfl, k, ty, e, q⟩ := h
  obtain ⟨u1, u2, rfl, r1, r2⟩ := vals2 r
  have e2 := k.eq r2
  subst e2
  obtain ⟨P, Z, p, hx⟩ := kit_ofZ I r1 ty
  exact PySem.W.kia_one Z I.kIn p e hx fun tk => ⟨.bl b, H, I.tok tk, rfl, q⟩
theorem ok_isi {H : Hp} {sa : SV} {va : V} {Ga : Addr → Prop} (T : Ty) (hf : ∀ x, sa ≠ .ow (.fn x)) (h1 : RS K H sa va Ga) : ∃ t, TyZ K H va t ∧ PySem.W.kitOne K t (.type T.id) = some (isiS T sa) := by
  cases sa with
  | ow w =>
    cases w with
    | fn x => exact absurd rfl (hf x)
    | k _ _ _ =>
      obtain ⟨p, rfl, e, _⟩ := h1
      exact ⟨_, .inl (.fDict e), kit_ty ((kb_dict T).trans (by cases T <;> rfl))⟩
    | kt _ _ _ =>
      obtain ⟨p, rfl, e, _⟩ := h1
      exact ⟨_, .inr ⟨rfl, _, _, _, rfl, e⟩, kit_ty ((kb_dict T).trans (by cases T <;> rfl))⟩
    | m t kvs =>
      cases t with
      | false =>
        obtain ⟨p, vs, rfl, e, _⟩ := h1
        exact ⟨_, .inl (.base (.dK e)), kit_ty ((kb_dict T).trans (by cases T <;> rfl))⟩
      | true =>
        obtain ⟨p, vs, rfl, e, _⟩ := h1
        exact ⟨_, .inl (.base (.dT e)), kit_ty ((kb_dict T).trans (by cases T <;> rfl))⟩
  | l xs =>
    obtain ⟨p, vs, rfl, e, _⟩ := h1
    exact ⟨_, .inl (.base (.lst e)), kit_ty ((kb_list T).trans (by cases T <;> rfl))⟩
  | d x =>
    obtain ⟨h1, _⟩ := h1
    cases h1 with
    | non => exact ⟨_, .inl (.base .non), kit_ty ((kb_non T).trans (by cases T <;> rfl))⟩
    | bl b => exact ⟨_, .inl (.base (.bl b)), kit_ty ((kb_bool T).trans (by cases T <;> rfl))⟩
    | int b => exact ⟨_, .inl (.base (.int b)), kit_ty ((kb_int T).trans (by cases T <;> rfl))⟩
    | str b => exact ⟨_, .inl (.base (.str b)), kit_ty ((kb_str T).trans (by cases T <;> rfl))⟩
    | @lst a xs ds h2 h3 =>
      have q : kitB "list" T.id = some (isiS T (.d (.list ds))) := (kb_list T).trans (by cases T <;> rfl)
      rcases h2 with ⟨o, h2⟩ | ⟨o, its, n, h4, h5, _⟩
      · exact ⟨_, .inl (.base (.frz h2)), kit_ty q⟩
      · exact ⟨_, .inl (.kList h4 h5), kit_ty q⟩
    | @tupS a xs ds h2 h3 _ =>
      have q : kitB "tuple" T.id = some (isiS T (.d (.tuple ds))) := (kb_tup T).trans (by cases T <;> rfl)
      rcases h2 with (h2 | ⟨o, h2⟩) | ⟨o, its, n, h4, h5, _⟩
      · exact ⟨_, .inl (.base (.tup h2)), kit_ty q⟩
      · exact ⟨_, .inl (.fTuple h2), kit_ty q⟩
      · exact ⟨_, .inl (.kTuple h4 h5), kit_ty q⟩
    | dctK e => exact ⟨_, .inl (.fDict e), kit_ty ((kb_dict T).trans (by cases T <;> rfl))⟩
    | dctT e => exact ⟨_, .inr ⟨rfl, _, _, _, rfl, e⟩, kit_ty ((kb_dict T).trans (by cases T <;> rfl))⟩
end
end Dn

set_option Elab.async false
set_option linter.all false
set_option maxRecDepth 100000
set_option maxHeartbeats 4000000
/-! Dn, part E: the readings by meanings; what a loop walks. -/
namespace Dn
open PySem PySem.Spec PyProof.Rows L2

def tmp : O → V → List (SV × V)
  | .val s, v => [(s, v)]
  | .var _, _ => []
def vok (σ : L2.St) : O → V → Prop
  | .val _, _ => True
  | .var i, v => σ[i]? = some (some v)
def OSt (K : PySem.W.Frag) (H : Hp) (α : List (SV × V)) (ρ : Env) (σ : L2.St) (o : O) (v : V) : Prop := vok σ o v ∧ StR K H (tmp o v ++ α) ρ σ
def tmps : List O → List V → List (SV × V)
  | o :: os, v :: vs => tmps os vs ++ tmp o v
  | _, _ => []
def voks (σ : L2.St) : List O → List V → Prop
  | [], [] => True
  | o :: os, v :: vs => vok σ o v ∧ voks σ os vs
  | _, _ => False
def OLs (K : PySem.W.Frag) (H : Hp) (α : List (SV × V)) (ρ : Env) (σ : L2.St) (os : List O) (vs : List V) : Prop := voks σ os vs ∧ StR K H (tmps os vs ++ α) ρ σ
/-- an expression, by its meaning -/
def rE (K : PySem.W.Frag) (f : Env → R (O × Env)) : TE := fun σ H Q => ∃ α ρ o ρ', f ρ = .ok (o, ρ') ∧ StR K H α ρ σ ∧ ∀ v H', OSt K H' α ρ' σ o v → Q v H'
def rT (K : PySem.W.Frag) (f : Env → R (Bool × Env)) : TT := fun σ H Q => ∃ α ρ b ρ', f ρ = .ok (b, ρ') ∧ StR K H α ρ σ ∧ ∀ H', StR K H' α ρ' σ → Q b H'
def rA (K : PySem.W.Frag) (f : Env → R (List O × Env)) : TA := fun σ H Q => ∃ α ρ os ρ', f ρ = .ok (os, ρ') ∧ StR K H α ρ σ ∧ ∀ vs H', OLs K H' α ρ' σ os vs → Q vs H'
theorem PE.weak {X : Cx} {e : Expr} {t t' : TE} (h : PE X e t) (w : ∀ σ H Q, t' σ H Q → t σ H Q) : PE X e t' := ⟨fun pins s σ H Q I hw => h.run pins s σ H Q I (w σ H Q hw)⟩
theorem PT.weak {X : Cx} {e : Expr} {t t' : TT} (h : PT X e t) (w : ∀ σ H Q, t' σ H Q → t σ H Q) : PT X e t' := ⟨fun pins s σ H Q I hw => h.run pins s σ H Q I (w σ H Q hw)⟩
theorem PA.weak {X : Cx} {e : List Expr} {t t' : TA} (h : PA X e t) (w : ∀ σ H Q, t' σ H Q → t σ H Q) : PA X e t' := ⟨fun pos pins s σ H Q I hw => h.run pos pins s σ H Q I (w σ H Q hw)⟩
theorem PS.weak {X : Cx} {e : Stmt} {t t' : TS} (h : PS X e t) (w : ∀ D σ H, t' D σ H → t D σ H) : PS X e t' := ⟨fun pins s σ H D I hw => h.run pins s σ H D I (w D σ H hw)⟩
theorem PSs.weak {X : Cx} {e : List Stmt} {t t' : TS} (h : PSs X e t) (w : ∀ D σ H, t' D σ H → t D σ H) : PSs X e t' := ⟨fun pins s σ H D I hw => h.run pins s σ H D I (w D σ H hw)⟩
theorem PI.weak {X : Cx} {tg e : Expr} {t t' : TI} (h : PI X tg e t) (w : ∀ σ H Q, t' σ H Q → t σ H Q) : PI X tg e t' := ⟨fun pins s σ H Q I hw => h.run pins s σ H Q I (w σ H Q hw)⟩
theorem PI.or {X : Cx} {tg e : Expr} {t t' : TI} (h : PI X tg e t) (h' : PI X tg e t') : PI X tg e fun σ H Q => t σ H Q ∨ t' σ H Q := ⟨fun pins s σ H Q I hw => hw.elim (h.run pins s σ H Q I) (h'.run pins s σ H Q I)⟩
theorem PE.or {X : Cx} {e : Expr} {t t' : TE} (h : PE X e t) (h' : PE X e t') : PE X e fun σ H Q => t σ H Q ∨ t' σ H Q := ⟨fun pins s σ H Q I hw => hw.elim (h.run pins s σ H Q I) (h'.run pins s σ H Q I)⟩
/-- a meaning that never is -/
theorem PE.bad {X : Cx} {e : Expr} {f : Env → R (O × Env)} (h : ∀ ρ a, f ρ ≠ .ok a) : PE X e (rE X.K f) := ⟨fun _ _ _ _ _ _ hw => by
  obtain ⟨_, _, _, _, e, _⟩ := hw
  exact absurd e (h _ _)⟩
section
variable {K : PySem.W.Frag} {H H' : Hp} {α γ : List (SV × V)} {ρ ρ' : Env} {σ : L2.St} {o : O} {v : V} {s : SV}
theorem rd_ok {i : Nat} (e : rd ρ i = .ok s) : ρ[i]? = some (some s) := by
  unfold rd at e
  split at e
  · next t h => cases e; exact h
  · cases e
theorem isD_ok {x : D} (e : isD s = .ok x) : s = .d x := by
  cases s with
  | d y => cases e; rfl
  | l xs => cases e
  | ow w => cases e
theorem held (h : StR K H γ ρ σ) (k : vok σ o v) (m : ∀ p ∈ tmp o v, p ∈ γ) (e : o.get ρ = .ok s) : ∃ G, RS K H s v G := by
  cases o with
  | val t =>
    cases e
    exact h.mem (List.mem_append_left _ (m _ (List.mem_singleton.mpr rfl)))
  | var i =>
    have e1 := rd_ok e
    exact h.mem (List.mem_append_right _ (pick_mem e1 k))
theorem OSt.get (h : OSt K H α ρ σ o v) (e : o.get ρ = .ok s) : ∃ G, RS K H s v G := held h.2 h.1 (fun p m => List.mem_append_left _ m) e
theorem OSt.use (h : OSt K H α ρ σ o v) (e : o.use ρ = .ok s) : StR K H ((s, v) :: α) ρ σ := by
  cases o with
  | val t => cases e; exact h.2
  | var i =>
    obtain ⟨t, e1, e2⟩ := bind_ok (show (rd ρ i >>= fun s => isD s >>= fun x => R.ok (SV.d x)) = .ok s from e)
    obtain ⟨x, e3, e4⟩ := bind_ok e2
    cases e4
    cases isD_ok e3
    obtain ⟨G, r⟩ := h.get (s := .d x) e1
    exact StR.pure r.1 h.2
theorem OSt.useD {x : D} (h : OSt K H α ρ σ o v) (e : o.useD ρ = .ok x) : StR K H ((.d x, v) :: α) ρ σ := by
  obtain ⟨t, e1, e2⟩ := bind_ok (show (o.use ρ >>= fun s => isD s) = .ok x from e)
  cases isD_ok e2
  exact h.use e1
theorem useD_rp {x : D} (h : StR K H γ ρ σ) (k : vok σ o v) (m : ∀ p ∈ tmp o v, p ∈ γ) (e : o.useD ρ = .ok x) : Rp K H x v := by
  obtain ⟨t, e1, e2⟩ := bind_ok (show (o.use ρ >>= fun s => isD s) = .ok x from e)
  cases isD_ok e2
  have e3 : o.get ρ = .ok (.d x) := by
    cases o with
    | val t => exact e1
    | var i =>
      obtain ⟨t, e1, e2⟩ := bind_ok (show (rd ρ i >>= fun s => isD s >>= fun x => R.ok (SV.d x)) = .ok (.d x) from e1)
      obtain ⟨y, e3, e4⟩ := bind_ok e2
      cases e4
      cases isD_ok e3
      exact e1
  obtain ⟨G, r⟩ := held h k m e3
  exact r.1
theorem OSt.st (h : OSt K H α ρ σ o v) : StR K H α ρ σ := h.2.dropL
theorem useDs_rp : ∀ {os : List O} {vs : List V} {ds : List D}, StR K H γ ρ σ → voks σ os vs → (∀ p ∈ tmps os vs, p ∈ γ) → useDs ρ os = .ok ds → RpAll K H ds vs
  | [], [], _, _, _, _, e => by cases e; exact .nil
  | [], _ :: _, _, _, k, _, _ => k.elim
  | _ :: _, [], _, _, k, _, _ => k.elim
  | o :: os, v :: vs, ds, h, k, m, e => by
    obtain ⟨x, e1, e2⟩ := bind_ok (show (o.useD ρ >>= fun s => useDs ρ os >>= fun r => R.ok (s :: r)) = .ok ds from e)
    obtain ⟨r, e3, e4⟩ := bind_ok e2
    cases e4
    exact .cons (useD_rp h k.1 (fun p z => m p (List.mem_append_right _ z)) e1) (useDs_rp h k.2 (fun p z => m p (List.mem_append_left _ z)) e3)
/-- one operand, then another -/
theorem rE.two {fa fb : Env → R (O × Env)} {ρ1 ρ2 : Env} {oa ob : O} {k : V → V → Hp → Prop} (ha : fa ρ = .ok (oa, ρ1)) (hb : fb ρ1 = .ok (ob, ρ2)) (h : StR K H α ρ σ)
    (q : ∀ va vb H2, vok σ oa va → vok σ ob vb → StR K H2 (tmp ob vb ++ (tmp oa va ++ α)) ρ2 σ → k va vb H2) : rE K fa σ H fun va H1 => rE K fb σ H1 fun vb H2 => k va vb H2 :=
  ⟨α, ρ, oa, ρ1, ha, h, fun va H1 h1 => ⟨_, ρ1, ob, ρ2, hb, h1.2, fun vb H2 h2 => q va vb H2 h1.1 h2.1 h2.2⟩⟩
theorem rE.one {fa : Env → R (O × Env)} {ρ1 : Env} {oa : O} {k : V → Hp → Prop} (ha : fa ρ = .ok (oa, ρ1)) (h : StR K H α ρ σ) (q : ∀ va H1, OSt K H1 α ρ1 σ oa va → k va H1) : rE K fa σ H k :=
  ⟨α, ρ, oa, ρ1, ha, h, q⟩
theorem sub2 {a b : List (SV × V)} {p : SV × V} : (p :: α).Sublist (p :: (a ++ (b ++ α))) := by
  refine List.Sublist.cons_cons _ ?_
  exact (List.sublist_append_right b α).trans (List.sublist_append_right a _)
theorem sub1 {a : List (SV × V)} {p : SV × V} : (p :: α).Sublist (p :: (a ++ α)) := List.Sublist.cons_cons _ (List.sublist_append_right a _)
theorem OSt.val (h : StR K H ((s, v) :: α) ρ σ) : OSt K H α ρ σ (.val s) v := ⟨trivial, h⟩
end

/-! ### operators -/
section
variable {X : Cx} {a b : Expr} {fa fb : Env → R (O × Env)} {pos : Pos}
def den2 (fa fb : Env → R (O × Env)) (f : SV → SV → R SV) : Env → R (O × Env) := fun ρ => (do let (x, ρ) ← fa ρ; let (y, ρ) ← fb ρ; let s ← x.get ρ; let t ← y.get ρ; let r ← f s t; .ok (.val r, ρ))
def den1 (fa : Env → R (O × Env)) (f : SV → R SV) : Env → R (O × Env) := fun ρ => (do let (x, ρ) ← fa ρ; let s ← x.get ρ; let r ← f s; .ok (.val r, ρ))
theorem den2_ok {f : SV → SV → R SV} {ρ ρ' : Env} {o : O} (e : den2 fa fb f ρ = .ok (o, ρ')) : ∃ oa ρ1 ob sa sb s, fa ρ = .ok (oa, ρ1) ∧ fb ρ1 = .ok (ob, ρ') ∧ oa.get ρ' = .ok sa ∧ ob.get ρ' = .ok sb ∧ f sa sb = .ok s ∧ o = .val s := by
  obtain ⟨⟨oa, ρ1⟩, e1, e⟩ := bind_ok e
  obtain ⟨⟨ob, ρ2⟩, e2, e⟩ := bind_ok e
  obtain ⟨sa, e3, e⟩ := bind_ok e
  obtain ⟨sb, e4, e⟩ := bind_ok e
  obtain ⟨s, e5, e⟩ := bind_ok e
  cases e
  exact ⟨oa, ρ1, ob, sa, sb, s, e1, e2, e3, e4, e5, rfl⟩
theorem den1_ok {f : SV → R SV} {ρ ρ' : Env} {o : O} (e : den1 fa f ρ = .ok (o, ρ')) : ∃ oa sa s, fa ρ = .ok (oa, ρ') ∧ oa.get ρ' = .ok sa ∧ f sa = .ok s ∧ o = .val s := by
  obtain ⟨⟨oa, ρ1⟩, e1, e⟩ := bind_ok e
  obtain ⟨sa, e3, e⟩ := bind_ok e
  obtain ⟨s, e5, e⟩ := bind_ok e
  cases e
  exact ⟨oa, sa, s, e1, e3, e5, rfl⟩
theorem weak2 {K : PySem.W.Frag} {r : R2} {f : SV → SV → R SV} (ok : Ok2 K r f) : ∀ σ H Q, rE K (den2 fa fb f) σ H Q → tOp r (rE K fa) (rE K fb) σ H Q := by
  rintro σ H Q ⟨α, ρ, o, ρ', e, h, q⟩
  obtain ⟨oa, ρ1, ob, sa, sb, s, e1, e2, e3, e4, e5, rfl⟩ := den2_ok e
  refine rE.two e1 e2 h fun va vb H2 k1 k2 h2 => ?_
  obtain ⟨Ga, r1⟩ := held h2 k1 (fun p m => List.mem_append_right _ (List.mem_append_left _ m)) e3
  obtain ⟨Gb, r2⟩ := held h2 k2 (fun p m => List.mem_append_left _ m) e4
  exact ok H2 sa sb va vb Ga Gb s Q r1 r2 e5 fun v H3 t => q v H3 (.val ((h2.step t).sub sub2))
theorem weak1 {K : PySem.W.Frag} {r : V → Hp → VK → Prop} {f : SV → R SV} (ok : Ok1 K r f) : ∀ σ H Q, rE K (den1 fa f) σ H Q → tUn r (rE K fa) σ H Q := by
  rintro σ H Q ⟨α, ρ, o, ρ', e, h, q⟩
  obtain ⟨oa, sa, s, e1, e3, e5, rfl⟩ := den1_ok e
  refine rE.one e1 h fun va H1 h1 => ?_
  obtain ⟨Ga, r1⟩ := h1.get e3
  exact ok H1 sa va Ga s Q r1 e5 fun v H3 t => q v H3 (.val ((h1.2.step t).sub sub1))
theorem se_op {op : Operator} {r : R2} {f : SV → SV → R SV} (ho : OpR X (binaryOp op) r) (ok : Ok2 X.K r f) (ha : PE X a (rE X.K fa)) (hb : PE X b (rE X.K fb)) : PE X (.BinOp a op b pos) (rE X.K (den2 fa fb f)) :=
  PE.weak (pe_op ho ha hb) (weak2 ok)
theorem se_cmp {op : CmpOp} {r : R2} {f : SV → SV → R SV} (ho : OpR X (compareOp op) r) (ok : Ok2 X.K r f) (ha : PE X a (rE X.K fa)) (hb : PE X b (rE X.K fb)) (hm : behindInMarks op b = false) : PE X (.Compare a [op] [b] pos) (rE X.K (den2 fa fb f)) :=
  PE.weak (pe_cmpR ho ha hb hm) (weak2 ok)
theorem ix_dic (hu : X.A.units + 1 < cLine) : IxR X rIxD := by
  intro value slice pins s σ H x y v u Q I rx ry q hs
  obtain ⟨p, w, rfl, g, q⟩ := q
  obtain rfl : v = Value.ref p := rx
  have hT := dict_typeIs I g
  unfold subscriptTail
  refine wpAny_bind ?_
  rw [getitemInPython_of_ne hT.not_modules]
  refine wpAny_bind (wpAny_specialOf hT PySem.F.slot_dict_getitem.lookup ?_)
  have fin : wpAny (model X.prog X.w) X.A (subscripted slice false (.ref p) u) (fun r s₃ => wpAny (model X.prog X.w) X.A (letTemporaryGo value (.ref p) r >>= fun _ => pure r) (EP X pins σ Q) X.xe s₃) X.xe s := by
    rw [hs]
    exact wpAny_operating (wpAny_mono (d_getItem hu I g ry fun w' s3 I3 rw' => ⟨w, H, I3, rw', q⟩) (fun r s₃ h₃ => wpAny_bind (wpAny_letTemporaryGo (wpAny_pure h₃))) fun _ _ x => x)
  first
    | exact wpAny_pure (wpAny_bind fin)
    | exact wpAny_bind (wpAny_pure (wpAny_bind fin))
    | exact wpAny_bind fin
theorem se_idx (hu : X.A.units + 1 < cLine) (ha : PE X a (rE X.K fa)) (hb : PE X b (rE X.K fb)) (hs : PlainIx b) : PE X (.Subscript a b pos) (rE X.K (den2 fa fb idxS)) :=
  PE.weak (pe_ix (IxR.or ix_seq (ix_dic hu)) ha hb hs) (weak2 ok_idx)
/-- a test whose answer is a truth -/
def tru (f : Env → R (O × Env)) : Env → R (Bool × Env) := fun ρ => (do let (o, ρ) ← f ρ; let k ← o.tru ρ; .ok (k, ρ))
theorem tru_ok {f : Env → R (O × Env)} {ρ ρ' : Env} {k : Bool} (e : tru f ρ = .ok (k, ρ')) : ∃ o, f ρ = .ok (o, ρ') ∧ o.get ρ' = .ok (.d (.bool k)) := by
  obtain ⟨⟨o, ρ1⟩, e1, e⟩ := bind_ok e
  obtain ⟨k', e2, e⟩ := bind_ok e
  cases e
  obtain ⟨s, e3, e4⟩ := bind_ok (show (o.get ρ' >>= fun s => isB s) = .ok k from e2)
  refine ⟨o, e1, ?_⟩
  rw [e3]
  unfold isB at e4
  split at e4
  · cases e4; rfl
  · cases e4
theorem tru_mk {f : Env → R (O × Env)} {ρ ρ' : Env} {o : O} {k : Bool} (e : f ρ = .ok (o, ρ')) (e2 : o.get ρ' = .ok (.d (.bool k))) : tru f ρ = .ok (k, ρ') := by
  unfold tru
  rw [e]
  show (o.tru ρ' >>= fun k => R.ok (k, ρ')) = _
  unfold O.tru
  rw [e2]
  rfl
theorem weakT {K : PySem.W.Frag} : ∀ σ H Q, rT K (tru fa) σ H Q → tB (rE K fa) σ H Q := by
  rintro σ H Q ⟨α, ρ, k, ρ', e, h, q⟩
  obtain ⟨o, e1, e2⟩ := tru_ok e
  refine rE.one e1 h fun va H1 h1 => ?_
  obtain ⟨Ga, r1⟩ := h1.get e2
  exact ⟨k, rs_bl r1, q H1 h1.st⟩
theorem st_cmp {op : CmpOp} {r : R2} {f : SV → SV → R SV} (ho : OpR X (compareOp op) r) (ok : Ok2 X.K r f) (ha : PE X a (rE X.K fa)) (hb : PE X b (rE X.K fb)) (hm : behindInMarks op b = false) : PT X (.Compare a [op] [b] pos) (rT X.K (tru (den2 fa fb f))) :=
  PT.weak (pt_cmpR ho ha hb hm) fun σ H Q h => by
    obtain ⟨α, ρ, k, ρ', e, hst, q⟩ := h
    obtain ⟨o, e1, e2⟩ := tru_ok e
    refine weak2 ok σ H _ ⟨α, ρ, o, ρ', e1, hst, fun v H' h' => ?_⟩
    obtain ⟨Ga, r1⟩ := h'.get e2
    exact ⟨k, rs_bl r1, q H' h'.st⟩
theorem st_val {e : Expr} (h : PE X e (rE X.K fa)) (he : ∀ whole, isTrue e X.env whole = (do let v ← whole; standAt e.pos; holding [v] (truthy v))) : PT X e (rT X.K (tru fa)) := PT.weak (pt_val h he) weakT
end

/-! ### enumerate of a tuple -/
def IteT (K : PySem.W.Frag) (a : Addr) : L2.It :=
  ⟨fun i H => ∃ (xs : List V) (x : V), SqT K H a xs ∧ xs[i]? = some x, fun i H v H' => ∃ T x, v = .ref T ∧ H T = none ∧ H' = upd H T (.tup [.int (i : Nat), x]) ∧ ∀ xs, SqT K H a xs → xs[i]? = some x, fun i H => ∃ xs : List V, SqT K H a xs ∧ i = xs.length⟩
theorem turn_enumT {P : Program} {w : World} {K : PySem.W.Frag} {elts : List Expr} {kk : Nat} {tpos : Pos} (a e it : Addr) (hae : a ≠ it) :
    Turn P w K (.Tuple elts kk tpos) (IteT K a) [e, it] e (fun i h => (∃ old, IsEnum h e it ((i : Nat) : Int) old) ∧ h.IsTupleIter it a i ∧ e ≠ it ∧ e ≠ a) where
  mem := by simp
  obj := fun i h st b hb => by
    obtain ⟨⟨old, he⟩, ⟨o, ho, hc, hd⟩, _⟩ := st
    have e' : b = e ∨ b = it := by simpa using hb
    rcases e' with z | z
    · rw [z]; exact ⟨_, he, fun v q => nomatch q⟩
    · rw [z]; exact ⟨o, ho, fun v q => by rw [hd] at q; cases q⟩
  keep := fun i h h' st k => let ⟨⟨old, he⟩, hi, hne⟩ := st; ⟨⟨old, k e (by simp) _ he⟩, hi.at fun o q => k it (by simp) o q, hne⟩
  item := by
    intro X hP hw hK hc i pins s σ H E I hf st hg
    subst hP hw hK
    obtain ⟨⟨old, he⟩, hit, hne, hea⟩ := st
    obtain ⟨xs, x, hq, hx⟩ := hg
    obtain ⟨its, rv, p, hz⟩ := I.tuple hq
    obtain ⟨u, hu, ru⟩ := rv.get hx
    have hel : e < s.heap.objs.size := Heap.lt_size he
    have hil : it < s.heap.objs.size := by obtain ⟨_, q, _⟩ := hit; exact Heap.lt_size q
    have hlt : i < its.toArray.size := by
      rcases Nat.lt_or_ge i its.toArray.size with z | z
      · exact z
      · rw [List.getElem?_eq_none (by simpa using z)] at hu; cases hu
    refine wpAny_pyNext_enum_itemD (Draws.tuple (A := X.A.in1) (I.ok.hd hc) it a hae its.toArray) he ⟨hit, p⟩ hlt hne (fun z => ?_) fun x' h' tk hP ho hs' hT hsz hk => ?_
    · rcases List.mem_cons.mp z with z | z
      · exact hne z
      · exact hea (List.mem_singleton.mp z)
    · have ex : x' = u := by
        rw [show its.toArray[i]? = some u by simpa using hu] at hP
        exact (Option.some.inj hP).symm
      subst ex
      refine ⟨_, rfl, wpAny_letOwnedTupleGo_enum (s := { s with heap := h', toks := tk + 1 }) ho fun h'' he' sb => ?_⟩
      have hT2 : h''.get? s.heap.objs.size = some { cls := .type "tuple", data := .seq #[.int i tk, x'] } := (sb.2 _ (Nat.ne_of_gt hel)).trans hT
      have new : ObjOk X.prog X.w (upd H s.heap.objs.size (.tup [.int (i : Nat), x])) h'' s.heap.objs.size (.tup [.int (i : Nat), x]) :=
        ⟨by show 2 ≤ sizeLine; decide, [.int i tk, x'], .cons ⟨_, rfl⟩ (.cons ru .nil), ⟨_, hT2, rfl, _, rfl⟩⟩
      have I1 : Inv X pins σ (upd H s.heap.objs.size (.tup [.int (i : Nat), x])) { s with heap := h'', toks := tk + 1 } :=
        I.turnedNew (ch := [e, it]) (fun b ob hb q => (sb.2 b (fun z => hb (by simp [z]))).trans (hk b ob (fun z => hb (by simp [z])) (fun z => hb (by simp [z])) q)) hf (Nat.le_refl _) new
      refine ⟨.ref s.heap.objs.size, _, I1, rfl, ⟨_, x, rfl, I.hok.fresh (Nat.le_refl _), rfl, fun ys hy => by rw [I.tuple_inj hy hq]; exact hx⟩, ⟨⟨x', ?_⟩, hs'.1.at fun o q => (sb.2 it (Ne.symm hne)).trans q, hne, hea⟩, fun b hb => ?_⟩
      · have e1 : ((i + 1 : Nat) : Int) = (i : Int) + 1 := by omega
        rw [e1]; exact he'
      · have hb' : b < s.heap.objs.size := by
          have e' : b = e ∨ b = it := by simpa using hb
          rcases e' with z | z
          · rw [z]; exact hel
          · rw [z]; exact hil
        rw [upd_ne (Nat.ne_of_lt hb')]
        exact (hf b hb).1
  done := by
    intro X hP hw hK hc i pins s σ H E I hf st hg
    subst hP hw hK
    obtain ⟨⟨old, he⟩, hit, hne, hea⟩ := st
    obtain ⟨xs, hq, hx⟩ := hg
    obtain ⟨its, rv, p, hz⟩ := I.tuple hq
    obtain ⟨f0, f1, f2, f3, f4, f5⟩ := hf it (by simp)
    have hl := rv.length
    have ei : i = its.toArray.size := by simp; omega
    subst ei
    exact wpAny_pyNext_enum_endD (Draws.tuple (A := X.A.in1) (I.ok.hd hc) it a hae its.toArray) he ⟨hit, p⟩ fun h' eb => ⟨rfl, I.turned (t' := s.toks) (fun b o hb q => eb b o hb q) f0 f1 f3 f4 f5⟩
  self := fun A i s Q E st h => let ⟨⟨_, he⟩, _⟩ := st; wpAny_pyIter_enum he h
set_option maxHeartbeats 8000000 in
theorem meets_enumT {v : Value} {o : Obj} {H : Heap → Prop} (B : Begins v o H) :
    Meets (Builtin.«enumerate.__new__» ⟨[.type "enumerate", v], []⟩) (fun _ R s => H s.heap ∧
      R (.ok (.ret (.ref (s.heap.push o).objs.size))) { s with heap := (s.heap.push o).push { cls := .type "enumerate", data := .fields #[.none, .bool false, .ref s.heap.objs.size, rawInt 0, .none, .none] } }) :=
  .of_wp fun prog w A R s h => by
    obtain ⟨hp, g, d, tk, os⟩ := s; obtain ⟨h1, h⟩ := h
    have hsub := sub_enumerate
    have q1 : ∀ {A' : Around} {E : Value → Shared → Prop} {Q : Value → Shared → Prop}, Q (.ref hp.objs.size) ⟨hp.push o, g, d, tk, os⟩ → wpAny (model prog w) A' (pyIter v) Q E ⟨hp, g, d, tk, os⟩ :=
      fun q => B.iter prog w _ _ ⟨hp, g, d, tk, os⟩ _ h1 q
    wp_walk using q1
    refine wpAny_stack_any fun st => wpAny_pure ?_
    split
    · rename_i c _ _ _ _ _
      cases (c == Value.type "enumerate")
      · wp_walk using q1
        exact ⟨_, rfl, h⟩
      · wp_walk using q1
        exact ⟨_, rfl, h⟩
    · wp_walk using q1
      exact ⟨_, rfl, h⟩
theorem call_enumT {prog : Program} {w : World} {A : Around} {E : Value → Shared → Prop} {s : Shared} {l : Addr} {items : Array Value} {Q : Value → Shared → Prop} (hL : s.heap.IsTuple l items)
    (h : ∀ h', IsEnum h' (s.heap.objs.size + 1) s.heap.objs.size 0 .none → h'.IsTupleIter s.heap.objs.size l 0 → h'.objs.size = s.heap.objs.size + 2 →
      (∀ b o, s.heap.get? b = some o → h'.get? b = some o) → Q (.ref (s.heap.objs.size + 1)) { s with heap := h' }) :
    wpAny (model prog w) A (call (.type "enumerate") [.ref l]) Q E s := by
  refine callType_new F.called_enumerate (by decide) (F.typeCall_enumerate_1 _) (F.newCall_enumerate_1 _) (fun obj => F.args_object_init_2 obj _) F.entry_enumerate_new
    (meets_enumT (begins_tuple l items)) ⟨hL, ?_⟩
  have hz : (s.heap.push { cls := .type "tuple_iterator", data := .fields #[.ref l, .int 0 0] }).objs.size = s.heap.objs.size + 1 := Heap.size_push ..
  show _ ∧ _
  rw [hz]
  have he : IsEnum ((s.heap.push { cls := .type "tuple_iterator", data := .fields #[.ref l, .int 0 0] }).push
      { cls := .type "enumerate", data := .fields #[.none, .bool false, .ref s.heap.objs.size, rawInt 0, .none, .none] }) (s.heap.objs.size + 1) s.heap.objs.size 0 .none := by
    have := Heap.get?_push_size (s.heap.push { cls := .type "tuple_iterator", data := .fields #[.ref l, .int 0 0] })
      (o := { cls := .type "enumerate", data := .fields #[.none, .bool false, .ref s.heap.objs.size, rawInt 0, .none, .none] }) rfl
    rw [hz] at this; exact this
  refine ⟨⟨_, he, rfl⟩, h _ he ⟨_, Heap.get?_push_of_some _ (Heap.get?_push_size _ rfl), rfl, rfl⟩ (by rw [Heap.size_push, hz]) fun b o x => Heap.get?_push_of_some _ (Heap.get?_push_of_some _ x)⟩
def iEnumT (K : PySem.W.Frag) (ta : TA) : TI := fun σ H R => ta σ H fun vs H1 => ∃ a xs, vs = [.ref a] ∧ SqT K H1 a xs ∧ R (IteT K a) H1
theorem pi_enumT {X : Cx} {e : Expr} {ta : TA} {p pos tpos : Pos} {elts : List Expr} {kk : Nat} (hg : Gl X "enumerate") (hm : X.mg "enumerate" = none) (ha : PA X [e] ta) (hs : starEach [e] X.env = [(false, eval e X.env)]) :
    PI X (.Tuple elts kk tpos) (.Call (.Name "enumerate" p) [e] [] pos) (iEnumT X.K ta) := by
  refine ⟨fun pins s σ H R I h => ?_⟩
  refine Call_ (ld_blt I hg hm boot_enumerate (PyProof.Rows.callWith_type1 (thn (ha.run pos pins s σ H _ I h) fun us s1 ⟨vs, H1, I1, r1, q1⟩ => ?_) hs rfl))
  obtain ⟨a, xs, ex, hq, q⟩ := q1
  subst ex
  cases r1 with
  | cons r rr =>
    cases rr
    cases r
    obtain ⟨its, rv, p', hz⟩ := I1.tuple hq
    obtain ⟨oa, hoa, _⟩ := id p'
    have hal : a < s1.heap.objs.size := Heap.lt_size hoa
    refine call_enumT (show s1.heap.IsTuple a its.toArray from p') fun h' he hit hsz hk => wpAny_pyIter_enum he ?_
    have I2 : Inv X pins σ H1 { s1 with heap := h' } := I1.kept (t' := s1.toks) hk
    refine ⟨s1.heap.objs.size + 1, [s1.heap.objs.size + 1, s1.heap.objs.size], _, _, H1, rfl, I2, turn_enumT a (s1.heap.objs.size + 1) s1.heap.objs.size (Nat.ne_of_lt hal), ⟨⟨.none, he⟩, hit, Nat.succ_ne_self _, Nat.ne_of_gt (Nat.lt_succ_of_lt hal)⟩, fun b hb => ?_, q⟩
    have e' : b = s1.heap.objs.size + 1 ∨ b = s1.heap.objs.size := by simpa using hb
    have hle : s1.heap.objs.size ≤ b := by
      rcases e' with z | z
      · rw [z]; exact Nat.le_add_right _ _
      · rw [z]; exact Nat.le_refl _
    exact I1.fpOk hle (I1.hok.fresh hle)
end Dn

set_option Elab.async false
set_option linter.all false
set_option maxRecDepth 100000
set_option maxHeartbeats 4000000
/-! Dn, part F: which slots a piece may touch; how a piece is held against the text. -/
namespace Dn
open PySem PySem.Spec PyProof.Rows L2

/-! ### slots that may be touched -/
mutual
def Tg.slots : Tg → List Nat
  | .n i => [i]
  | .t ts => ts.slots
def Tgs.slots : Tgs → List Nat
  | .nil => []
  | .cons t r => t.slots ++ r.slots
end
/-- slots of which an expression may hand on the very value -/
def E.vars : E → List Nat
  | .var i => [i]
  | .and _ b => b.vars
  | .or _ b => b.vars
  | .ifx _ a b => a.vars ++ b.vars
  | _ => []
def callT : List PM → Es → List Nat
  | .ro :: ms, .cons _ r => callT ms r
  | _ :: ms, .cons e r => e.vars ++ callT ms r
  | [], .cons e r => e.vars ++ callT [] r
  | _, .nil => []
section
variable (md : Str → List PM)
mutual
def E.tch : E → List Nat
  | .mv i => [i]
  | .fz e => e.tch
  | .tup es => es.tch
  | .lst es => es.tch
  | .bin _ a b => a.tch ++ b.tch
  | .neg a => a.tch
  | .cmp _ a b => a.tch ++ b.tch
  | .chain _ _ a b c => a.tch ++ (b.tch ++ c.tch)
  | .and a b => a.tch ++ b.tch
  | .or a b => a.tch ++ b.tch
  | .not a => a.tch
  | .ifx c a b => c.tch ++ (a.tch ++ b.tch)
  | .idx a b => a.tch ++ b.tch
  | .slB a lo hi => a.tch ++ (lo.tch ++ hi.tch)
  | .slF a lo => a.tch ++ lo.tch
  | .slT a hi => a.tch ++ hi.tch
  | .rev a => a.tch
  | .call f es => callT (md f) es ++ es.tch
  | .bf _ a => a.tch
  | .bf2 _ a b => a.tch ++ b.tch
  | .isi _ a => a.tch
  | .lc0 own t it e => own.map (·.2) ++ (t.slots ++ (it.tch ++ e.tch))
  | .lc1 own t it c e => own.map (·.2) ++ (t.slots ++ (it.tch ++ (c.tch ++ e.tch)))
  | .app i e => i :: e.tch
  | .ext i e => i :: e.tch
  | .mth _ i es => i :: es.tch
  | .dctP k v => k.tch ++ v.tch
  | .get1 a k => a.tch ++ k.tch
  | .get2 a k z => a.tch ++ (k.tch ++ z.tch)
  | .tm _ a b => a.tch ++ b.tch
  | .callv _ _ es => es.tch
  | _ => []
def Es.tch : Es → List Nat
  | .nil => []
  | .cons e r => e.tch ++ r.tch
def It.tch : It → List Nat
  | .e x => x.tch
  | .rng1 x => x.tch
  | .rng2 x y => x.tch ++ y.tch
  | .enum x => x.tch
  | .zip x y => x.tch ++ y.tch
end
mutual
def S.tch : S → List Nat
  | .asg t e => t.slots ++ e.tch md
  | .par is es => is ++ es.tch md
  | .seti i k e => i :: (k.tch md ++ e.tch md)
  | .aug i e => i :: e.tch md
  | .ex e => e.tch md
  | .ret e => e.tch md
  | .ife c a b => c.tch md ++ (a.tch ++ b.tch)
  | .whl c b => c.tch md ++ b.tch
  | .for_ t it b => t.slots ++ (it.tch md ++ b.tch)
  | _ => []
def Ss.tch : Ss → List Nat
  | .nil => []
  | .cons s r => s.tch ++ r.tch
end
end
mutual
def S.asgs : S → List Nat
  | .asg t _ => t.slots
  | .par is _ => is
  | .aug i _ => [i]
  | .ife _ a b => a.asgs ++ b.asgs
  | .whl _ b => b.asgs
  | .for_ t _ b => t.slots ++ b.asgs
  | _ => []
def Ss.asgs : Ss → List Nat
  | .nil => []
  | .cons s r => s.asgs ++ r.asgs
end
def It.vars : It → List Nat
  | .e x => x.vars
  | .enum x => x.vars
  | .zip x y => x.vars ++ y.vars
  | _ => []

/-! ### what isn't touched stays -/
def Pr {α : Type} (T : List Nat) (ρ : Env) (x : R (α × Env)) : Prop := ∀ a ρ', x = .ok (a, ρ') → ∀ i, i ∉ T → ρ'[i]? = ρ[i]?
section
variable {α β : Type} {T T' : List Nat} {ρ ρ1 : Env}
theorem Pr.trans {x : R (α × Env)} (h : Pr T ρ1 x) (e : ∀ i, i ∉ T → ρ1[i]? = ρ[i]?) : Pr T ρ x := fun a ρ' ex i hi => (h a ρ' ex i hi).trans (e i hi)
theorem Pr.bind {x : R (α × Env)} {f : α × Env → R (β × Env)} (h : Pr T ρ x) (k : ∀ a ρ1, x = .ok (a, ρ1) → Pr T ρ1 (f (a, ρ1))) : Pr T ρ (x >>= f) := fun b ρ' e i hi => by
  obtain ⟨⟨a, ρ1⟩, e1, e2⟩ := bind_ok e
  exact (k a ρ1 e1 b ρ' e2 i hi).trans (h a ρ1 e1 i hi)
theorem Pr.bind0 {x : R α} {f : α → R (β × Env)} (k : ∀ a, x = .ok a → Pr T ρ (f a)) : Pr T ρ (x >>= f) := fun b ρ' e i hi => by
  obtain ⟨a, e1, e2⟩ := bind_ok e
  exact k a e1 b ρ' e2 i hi
theorem Pr.ret {a : α} : Pr T ρ (.ok (a, ρ)) := fun b ρ' e i hi => by cases e; rfl
theorem Pr.bad : Pr T ρ (.bad : R (α × Env)) := fun b ρ' e i hi => by cases e
theorem Pr.ite {c : Prop} [Decidable c] {x y : R (α × Env)} (h : Pr T ρ x) (h' : Pr T ρ y) : Pr T ρ (if c then x else y) := by
  split
  · exact h
  · exact h'
theorem Pr.mono {x : R (α × Env)} (h : Pr T ρ x) (m : ∀ i, i ∈ T → i ∈ T') : Pr T' ρ x := fun a ρ' e i hi => h a ρ' e i fun z => hi (m i z)
theorem Pr.l {x : R (α × Env)} (h : Pr T ρ x) : Pr (T ++ T') ρ x := h.mono fun _ z => List.mem_append_left _ z
theorem Pr.r {x : R (α × Env)} (h : Pr T ρ x) : Pr (T' ++ T) ρ x := h.mono fun _ z => List.mem_append_right _ z
theorem Pr.retS {a : α} {i : Nat} {o : Option SV} (hi : i ∈ T) : Pr T ρ (.ok (a, ρ.set i o)) := fun b ρ' e j hj => by
  cases e
  exact List.getElem?_set_ne fun (z : i = j) => hj (z ▸ hi)
theorem wipeE_get : ∀ {own : List (Str × Nat)} {ρ : Env} {i : Nat}, i ∉ own.map (·.2) → (wipeE own ρ)[i]? = ρ[i]?
  | [], _, _, _ => rfl
  | p :: own, ρ, i, h => by
    rw [List.map_cons, List.mem_cons, not_or] at h
    show ((wipeE own ρ).set p.2 none)[i]? = _
    rw [List.getElem?_set_ne (fun z => h.1 z.symm)]
    exact wipeE_get h.2
theorem mrg_get : ∀ {own : List (Str × Nat)} {ρ1 ρ : Env} {i : Nat}, i ∉ own.map (·.2) → (mrg own ρ1 ρ)[i]? = ρ[i]?
  | [], _, _, _, _ => rfl
  | p :: own, ρ1, ρ, i, h => by
    rw [List.map_cons, List.mem_cons, not_or] at h
    show ((mrg own ρ1 ρ).set p.2 (keepD ρ1[p.2]?))[i]? = _
    rw [List.getElem?_set_ne (fun z => h.1 z.symm)]
    exact mrg_get h.2
mutual
theorem Tg.put_get : ∀ (t : Tg) (d : D) (ρ ρ' : Env), t.put d ρ = .ok ρ' → ∀ i, i ∉ t.slots → ρ'[i]? = ρ[i]?
  | .n j, d, ρ, ρ', e, i, hi => by
    obtain ⟨_, rfl⟩ := if_ok (show (if j < ρ.length then R.ok (ρ.set j (some (.d d))) else .bad) = .ok ρ' from e)
    exact List.getElem?_set_ne fun z => hi (by subst z; exact List.mem_singleton.mpr rfl)
  | .t ts, d, ρ, ρ', e, i, hi => by
    cases d with
    | tuple ds => exact Tgs.puts_get ts ds ρ ρ' e i hi
    | _ => cases e
theorem Tgs.puts_get : ∀ (t : Tgs) (ds : List D) (ρ ρ' : Env), t.puts ds ρ = .ok ρ' → ∀ i, i ∉ t.slots → ρ'[i]? = ρ[i]?
  | .nil, [], ρ, ρ', e, i, _ => by cases e; rfl
  | .nil, _ :: _, ρ, ρ', e, i, _ => by cases e
  | .cons t r, [], ρ, ρ', e, i, _ => by cases e
  | .cons t r, d :: ds, ρ, ρ', e, i, hi => by
    obtain ⟨ρ1, e1, e2⟩ := bind_ok (show (t.put d ρ >>= fun ρ => r.puts ds ρ) = .ok ρ' from e)
    exact (Tgs.puts_get r ds ρ1 ρ' e2 i fun z => hi (List.mem_append_right _ z)).trans (Tg.put_get t d ρ ρ1 e1 i fun z => hi (List.mem_append_left _ z))
end
theorem lcGo_pr {own : List (Str × Nat)} {step : D → Env → R (Option D × Env)} (ho : ∀ i, i ∈ own.map (·.2) → i ∈ T) (hs : ∀ d ρ, Pr T ρ (step d ρ)) : ∀ (ds acc : List D) (ρ : Env), Pr T ρ (lcGo own step ds acc ρ)
  | [], acc, ρ => Pr.ret
  | d :: ds, acc, ρ => by
    refine Pr.bind (hs d ρ) fun o ρ1 _ => ?_
    have w : ∀ i, i ∉ T → (wipeE own ρ1)[i]? = ρ1[i]? := fun i hi => wipeE_get fun z => hi (ho i z)
    cases o with
    | some x => exact Pr.ite ((lcGo_pr ho hs ds _ _).trans w) .bad
    | none => exact (lcGo_pr ho hs ds _ _).trans w
theorem forGo_pr {t : Tg} {b : Env → R (Fl × Env)} (ht : ∀ i, i ∈ t.slots → i ∈ T) (hb : ∀ ρ, Pr T ρ (b ρ)) : ∀ (ds : List D) (ρ : Env), Pr T ρ (forGo t b ds ρ)
  | [], ρ => Pr.ret
  | d :: ds, ρ => by
    refine Pr.bind0 fun ρ1 e1 => Pr.trans ?_ fun i hi => Tg.put_get t d ρ ρ1 e1 i fun z => hi (ht i z)
    refine Pr.bind (hb ρ1) fun f ρ2 _ => ?_
    cases f with
    | ret s => exact Pr.ret
    | brk => exact Pr.ret
    | nx => exact forGo_pr ht hb ds ρ2
    | cnt => exact forGo_pr ht hb ds ρ2
theorem whGo_pr {c : Env → R (Bool × Env)} {b : Env → R (Fl × Env)} (hc : ∀ ρ, Pr T ρ (c ρ)) (hb : ∀ ρ, Pr T ρ (b ρ)) : ∀ (n : Nat) (ρ : Env), Pr T ρ (whGo c b n ρ)
  | 0, ρ => Pr.bad
  | n + 1, ρ => by
    refine Pr.bind (hc ρ) fun k ρ1 _ => Pr.ite (Pr.bind (hb ρ1) fun f ρ2 _ => ?_) Pr.ret
    cases f with
    | ret s => exact Pr.ret
    | brk => exact Pr.ret
    | nx => exact whGo_pr hc hb n ρ2
    | cnt => exact whGo_pr hc hb n ρ2
/-- a def that hands on a slot's very value has it among its vars -/
theorem E.vars_ok (Γ : Gl0) : ∀ (e : E) (ρ ρ' : Env) (i : Nat), e.den Γ ρ = .ok (.var i, ρ') → i ∈ e.vars
  | .var j, ρ, ρ', i, e => by
    obtain ⟨_, _, e⟩ := bind_ok (show (rd ρ j >>= fun _ => R.ok (O.var j, ρ)) = .ok (.var i, ρ') from e)
    cases e
    exact List.mem_singleton.mpr rfl
  | .and a b, ρ, ρ', i, e => by
    obtain ⟨⟨x, ρ1⟩, e1, e⟩ := bind_ok (show (a.den Γ ρ >>= fun p => p.1.tru p.2 >>= fun k => if k = true then b.den Γ p.2 else R.ok (O.val (.d (.bool false)), p.2)) = .ok (.var i, ρ') from e)
    obtain ⟨k, e2, e⟩ := bind_ok e
    cases k with
    | true => exact E.vars_ok Γ b _ _ i e
    | false => cases e
  | .or a b, ρ, ρ', i, e => by
    obtain ⟨⟨x, ρ1⟩, e1, e⟩ := bind_ok (show (a.den Γ ρ >>= fun p => p.1.tru p.2 >>= fun k => if k = true then R.ok (O.val (.d (.bool true)), p.2) else b.den Γ p.2) = .ok (.var i, ρ') from e)
    obtain ⟨k, e2, e⟩ := bind_ok e
    cases k with
    | false => exact E.vars_ok Γ b _ _ i e
    | true => cases e
  | .ifx c a b, ρ, ρ', i, e => by
    obtain ⟨⟨x, ρ1⟩, e1, e⟩ := bind_ok (show (c.den Γ ρ >>= fun p => p.1.tru p.2 >>= fun k => if k = true then a.den Γ p.2 else b.den Γ p.2) = .ok (.var i, ρ') from e)
    obtain ⟨k, e2, e⟩ := bind_ok e
    cases k with
    | true => exact List.mem_append_left _ (E.vars_ok Γ a _ _ i e)
    | false => exact List.mem_append_right _ (E.vars_ok Γ b _ _ i e)
  | .non, _, _, _, e => by cases e
  | .bl _, _, _, _, e => by cases e
  | .int _, _, _, _, e => by cases e
  | .str _, _, _, _, e => by cases e
  | .mv j, ρ, ρ', i, e => by
    obtain ⟨_, _, e⟩ := bind_ok (show (rd ρ j >>= fun s => R.ok (O.val s, ρ.set j none)) = .ok (.var i, ρ') from e)
    cases e
  | .fz a, ρ, ρ', i, e => by
    obtain ⟨_, _, e⟩ := bind_ok (show (a.den Γ ρ >>= fun p => p.1.use p.2 >>= fun s => noFn s >>= fun s => R.ok (O.val (.d s.dat), p.2)) = .ok (.var i, ρ') from e)
    obtain ⟨_, _, e⟩ := bind_ok e
    obtain ⟨_, _, e⟩ := bind_ok e
    cases e
  | .glob x, ρ, ρ', i, e => by
    have e' : (match Γ.gl x with | some d => R.ok (O.val (.d d), ρ) | none => .bad) = .ok (.var i, ρ') := e
    cases h : Γ.gl x with
    | none => rw [h] at e'; cases e'
    | some d => rw [h] at e'; cases e'
  | .tup es, ρ, ρ', i, e => by
    obtain ⟨_, _, e⟩ := bind_ok (show (es.dens Γ ρ >>= fun p => useDs p.2 p.1 >>= fun ds => R.ok (O.val (.d (.tuple ds)), p.2)) = .ok (.var i, ρ') from e)
    obtain ⟨_, _, e⟩ := bind_ok e
    cases e
  | .lst es, ρ, ρ', i, e => by
    obtain ⟨_, _, e⟩ := bind_ok (show (es.dens Γ ρ >>= fun p => useDs p.2 p.1 >>= fun ds => R.ok (O.val (.l ds), p.2)) = .ok (.var i, ρ') from e)
    obtain ⟨_, _, e⟩ := bind_ok e
    cases e
  | .bin op a b, ρ, ρ', i, e => by
    obtain ⟨_, _, _, _, _, _, _, _, _, _, _, z⟩ := den2_ok (show den2 (a.den Γ) (b.den Γ) (opB op) ρ = .ok (.var i, ρ') from e)
    cases z
  | .cmp op a b, ρ, ρ', i, e => by
    obtain ⟨_, _, _, _, _, _, _, _, _, _, _, z⟩ := den2_ok (show den2 (a.den Γ) (b.den Γ) (opC op) ρ = .ok (.var i, ρ') from e)
    cases z
  | .idx a b, ρ, ρ', i, e => by
    obtain ⟨_, _, _, _, _, _, _, _, _, _, _, z⟩ := den2_ok (show den2 (a.den Γ) (b.den Γ) idxS ρ = .ok (.var i, ρ') from e)
    cases z
  | .bf2 f a b, ρ, ρ', i, e => by
    obtain ⟨_, _, _, _, _, _, _, _, _, _, _, z⟩ := den2_ok (show den2 (a.den Γ) (b.den Γ) (opF2 f) ρ = .ok (.var i, ρ') from e)
    cases z
  | .bf f a, ρ, ρ', i, e => by
    obtain ⟨_, _, _, _, _, _, z⟩ := den1_ok (show den1 (a.den Γ) (opF f) ρ = .ok (.var i, ρ') from e)
    cases z
  | .rev a, ρ, ρ', i, e => by
    obtain ⟨_, _, _, _, _, _, z⟩ := den1_ok (show den1 (a.den Γ) revB ρ = .ok (.var i, ρ') from e)
    cases z
  | .neg a, ρ, ρ', i, e => by
    obtain ⟨_, _, e⟩ := bind_ok (show (a.den Γ ρ >>= fun p => p.1.get p.2 >>= fun s => isI s >>= fun i => R.ok (O.val (.d (.int (-i))), p.2)) = .ok (.var i, ρ') from e)
    obtain ⟨_, _, e⟩ := bind_ok e
    obtain ⟨_, _, e⟩ := bind_ok e
    cases e
  | .isi T a, ρ, ρ', i, e => by
    obtain ⟨_, _, e⟩ := bind_ok (show (a.den Γ ρ >>= fun p => p.1.get p.2 >>= fun s => noFn s >>= fun s => R.ok (O.val (.d (.bool (isiS T s))), p.2)) = .ok (.var i, ρ') from e)
    obtain ⟨_, _, e⟩ := bind_ok e
    obtain ⟨_, _, e⟩ := bind_ok e
    cases e
  | .not a, ρ, ρ', i, e => by
    obtain ⟨_, _, e⟩ := bind_ok (show (a.den Γ ρ >>= fun p => p.1.tru p.2 >>= fun k => R.ok (O.val (.d (.bool (!k))), p.2)) = .ok (.var i, ρ') from e)
    obtain ⟨_, _, e⟩ := bind_ok e
    cases e
  | .chain op op' a b c, ρ, ρ', i, e => by
    obtain ⟨⟨x, ρ1⟩, _, e⟩ := bind_ok e
    obtain ⟨⟨y, ρ2⟩, _, e⟩ := bind_ok e
    obtain ⟨_, _, e⟩ := bind_ok e
    obtain ⟨_, _, e⟩ := bind_ok e
    obtain ⟨_, _, e⟩ := bind_ok e
    obtain ⟨k, _, e⟩ := bind_ok e
    cases k with
    | false => cases e
    | true =>
      obtain ⟨⟨z, ρ3⟩, _, e⟩ := bind_ok e
      obtain ⟨_, _, e⟩ := bind_ok e
      obtain ⟨_, _, e⟩ := bind_ok e
      obtain ⟨_, _, e⟩ := bind_ok e
      cases e
  | .slB a lo hi, ρ, ρ', i, e => by
    obtain ⟨⟨x, ρ1⟩, _, e⟩ := bind_ok e
    obtain ⟨⟨y, ρ2⟩, _, e⟩ := bind_ok e
    obtain ⟨_, _, e⟩ := bind_ok e
    obtain ⟨_, _, e⟩ := bind_ok e
    obtain ⟨⟨z, ρ3⟩, _, e⟩ := bind_ok e
    obtain ⟨_, _, e⟩ := bind_ok e
    obtain ⟨_, _, e⟩ := bind_ok e
    obtain ⟨_, _, e⟩ := bind_ok e
    obtain ⟨_, _, e⟩ := bind_ok e
    cases e
  | .slF a lo, ρ, ρ', i, e => by
    obtain ⟨⟨x, ρ1⟩, _, e⟩ := bind_ok e
    obtain ⟨⟨y, ρ2⟩, _, e⟩ := bind_ok e
    obtain ⟨_, _, e⟩ := bind_ok e
    obtain ⟨_, _, e⟩ := bind_ok e
    obtain ⟨_, _, e⟩ := bind_ok e
    obtain ⟨_, _, e⟩ := bind_ok e
    cases e
  | .slT a lo, ρ, ρ', i, e => by
    obtain ⟨⟨x, ρ1⟩, _, e⟩ := bind_ok e
    obtain ⟨⟨y, ρ2⟩, _, e⟩ := bind_ok e
    obtain ⟨_, _, e⟩ := bind_ok e
    obtain ⟨_, _, e⟩ := bind_ok e
    obtain ⟨_, _, e⟩ := bind_ok e
    obtain ⟨_, _, e⟩ := bind_ok e
    cases e
  | .call f es, ρ, ρ', i, e => by
    obtain ⟨⟨os, ρ1⟩, _, e⟩ := bind_ok e
    obtain ⟨ss, _, e⟩ := bind_ok e
    have e2 : (if (own1 os ss).Nodup ∧ (Γ.md f).length = os.length then (Γ.fn f ss >>= fun p => R.ok (O.val p.1, wb (Γ.md f) os ss p.2 ρ1)) else .bad) = .ok (.var i, ρ') := e
    split at e2
    · obtain ⟨_, _, e⟩ := bind_ok e2
      cases e
    · cases e2
  | .lc0 own t it x, ρ, ρ', i, e => by
    obtain ⟨_, _, e⟩ := bind_ok e
    obtain ⟨_, _, e⟩ := bind_ok e
    cases e
  | .lc1 own t it c x, ρ, ρ', i, e => by
    obtain ⟨_, _, e⟩ := bind_ok e
    obtain ⟨_, _, e⟩ := bind_ok e
    cases e
  | .app j x, ρ, ρ', i, e => by
    obtain ⟨_, _, e⟩ := bind_ok e
    obtain ⟨⟨o, ρ1⟩, _, e⟩ := bind_ok e
    obtain ⟨d, _, e⟩ := bind_ok e
    obtain ⟨xs, _, e⟩ := bind_ok e
    obtain ⟨_, z⟩ := if_ok e
    cases z
  | .ext j x, ρ, ρ', i, e => by
    obtain ⟨_, _, e⟩ := bind_ok e
    obtain ⟨⟨o, ρ1⟩, _, e⟩ := bind_ok e
    obtain ⟨d, _, e⟩ := bind_ok e
    obtain ⟨xs, _, e⟩ := bind_ok e
    obtain ⟨_, z⟩ := if_ok e
    cases z
  | .mth m j es, ρ, ρ', i, e => by
    obtain ⟨_, _, e⟩ := bind_ok e
    obtain ⟨⟨o, ρ1⟩, _, e⟩ := bind_ok e
    obtain ⟨d, _, e⟩ := bind_ok e
    obtain ⟨xs, _, e⟩ := bind_ok e
    obtain ⟨⟨r, ys⟩, _, e⟩ := bind_ok e
    cases e
  | .dct0, ρ, ρ', i, e => by cases e
  | .dct1 k v, ρ, ρ', i, e => by cases e
  | .dctO t, ρ, ρ', i, e => by cases e
  | .dctP k v, ρ, ρ', i, e => by
    obtain ⟨⟨o, ρ1⟩, _, e⟩ := bind_ok e
    obtain ⟨⟨p, ρ2⟩, _, e⟩ := bind_ok e
    obtain ⟨x, _, e⟩ := bind_ok e
    obtain ⟨y, _, e⟩ := bind_ok e
    obtain ⟨_, z⟩ := if_ok e
    cases z
  | .tm m a b, ρ, ρ', i, e => by
    obtain ⟨⟨o, ρ1⟩, _, e⟩ := bind_ok e
    obtain ⟨_, _, e⟩ := bind_ok e
    obtain ⟨_, _, e⟩ := bind_ok e
    obtain ⟨⟨p, ρ2⟩, _, e⟩ := bind_ok e
    obtain ⟨_, _, e⟩ := bind_ok e
    obtain ⟨_, _, e⟩ := bind_ok e
    cases e
  | .fnv x, ρ, ρ', i, e => by cases e
  | .callv cs j es, ρ, ρ', i, e => by
    obtain ⟨_, _, e⟩ := bind_ok e
    obtain ⟨x, _, e⟩ := bind_ok e
    obtain ⟨⟨p, ρ2⟩, _, e⟩ := bind_ok e
    obtain ⟨ds, _, e⟩ := bind_ok e
    have e' : (if cs.contains x = true then (Γ.fn x (ds.map .d) >>= fun p => R.ok (O.val p.1, ρ2)) else .bad) = .ok (.var i, ρ') := e
    by_cases c : cs.contains x = true
    · rw [if_pos c] at e'
      obtain ⟨_, _, e'⟩ := bind_ok e'
      cases e'
    · rw [if_neg c] at e'; cases e'
  | .get1 a k, ρ, ρ', i, e => by
    obtain ⟨⟨o, ρ1⟩, _, e⟩ := bind_ok e
    obtain ⟨_, _, e⟩ := bind_ok e
    obtain ⟨_, _, e⟩ := bind_ok e
    obtain ⟨⟨p, ρ2⟩, _, e⟩ := bind_ok e
    obtain ⟨_, _, e⟩ := bind_ok e
    obtain ⟨_, _, e⟩ := bind_ok e
    obtain ⟨_, _, e⟩ := bind_ok e
    cases e
  | .get2 a k z, ρ, ρ', i, e => by
    obtain ⟨⟨o, ρ1⟩, _, e⟩ := bind_ok e
    obtain ⟨_, _, e⟩ := bind_ok e
    obtain ⟨_, _, e⟩ := bind_ok e
    obtain ⟨⟨p, ρ2⟩, _, e⟩ := bind_ok e
    obtain ⟨⟨q, ρ3⟩, _, e⟩ := bind_ok e
    obtain ⟨_, _, e⟩ := bind_ok e
    obtain ⟨_, _, e⟩ := bind_ok e
    obtain ⟨_, _, e⟩ := bind_ok e
    obtain ⟨_, _, e⟩ := bind_ok e
    cases e
def esVars : Es → List O → Prop
  | .nil, [] => True
  | .cons e r, o :: os => (∀ i, o = .var i → i ∈ e.vars) ∧ esVars r os
  | _, _ => False
theorem Es.vars_ok (Γ : Gl0) : ∀ (es : Es) (ρ ρ' : Env) (os : List O), es.dens Γ ρ = .ok (os, ρ') → esVars es os
  | .nil, ρ, ρ', os, e => by cases e; trivial
  | .cons a r, ρ, ρ', os, e => by
    obtain ⟨⟨o, ρ1⟩, e1, e⟩ := bind_ok (show (a.den Γ ρ >>= fun p => r.dens Γ p.2 >>= fun q => R.ok (p.1 :: q.1, q.2)) = .ok (os, ρ') from e)
    obtain ⟨⟨os2, ρ2⟩, e2, e⟩ := bind_ok e
    cases e
    exact ⟨fun i z => by subst z; exact E.vars_ok Γ a _ _ i e1, Es.vars_ok Γ r _ _ _ e2⟩
theorem wb_pr : ∀ (ms : List PM) (es : Es) (os : List O) (ss : List SV) (as : List (Option SV)) (ρ : Env) (i : Nat), esVars es os → i ∉ callT ms es → (wb ms os ss as ρ)[i]? = ρ[i]?
  | [], _, _, _, _, _, _, _, _ => by unfold wb; rfl
  | _ :: _, _, [], _, _, _, _, _, _ => by unfold wb; rfl
  | _ :: _, _, _ :: _, [], _, _, _, _, _ => by unfold wb; rfl
  | _ :: _, _, _ :: _, _ :: _, [], _, _, _, _ => by unfold wb; rfl
  | _ :: _, .nil, _ :: _, _ :: _, _ :: _, _, _, h, _ => h.elim
  | m :: ms, .cons e r, o :: os, s :: ss, a :: as, ρ, i, h, hi => by
    have ih := fun ρ hi => wb_pr ms r os ss as ρ i h.2 hi
    cases m with
    | ro =>
      have e1 : wb (.ro :: ms) (o :: os) (s :: ss) (a :: as) ρ = wb ms os ss as ρ := by
        cases o <;> cases hs : isOwn s <;> simp [wb, hs]
      rw [e1]
      exact ih ρ hi
    | rw =>
      have hi2 : i ∉ e.vars ++ callT ms r := hi
      rw [List.mem_append, not_or] at hi2
      cases o with
      | val t =>
        have e1 : wb (.rw :: ms) (.val t :: os) (s :: ss) (a :: as) ρ = wb ms os ss as ρ := by cases hs : isOwn s <;> simp [wb]
        rw [e1]
        exact ih ρ hi2.2
      | var k =>
        have hk : k ≠ i := fun z => hi2.1 (z ▸ h.1 k rfl)
        cases hs : isOwn s with
        | false =>
          have e1 : wb (.rw :: ms) (.var k :: os) (s :: ss) (a :: as) ρ = wb ms os ss as ρ := by simp [wb, hs]
          rw [e1]
          exact ih ρ hi2.2
        | true =>
          have e1 : wb (.rw :: ms) (.var k :: os) (s :: ss) (a :: as) ρ = wb ms os ss as (ρ.set k a) := by simp [wb, hs]
          rw [e1, ih _ hi2.2, List.getElem?_set_ne hk]
    | pu =>
      have hi2 : i ∉ e.vars ++ callT ms r := hi
      rw [List.mem_append, not_or] at hi2
      cases o with
      | val t =>
        have e1 : wb (.pu :: ms) (.val t :: os) (s :: ss) (a :: as) ρ = wb ms os ss as ρ := by cases hs : isOwn s <;> simp [wb]
        rw [e1]
        exact ih ρ hi2.2
      | var k =>
        have hk : k ≠ i := fun z => hi2.1 (z ▸ h.1 k rfl)
        cases hs : isOwn s with
        | false =>
          have e1 : wb (.pu :: ms) (.var k :: os) (s :: ss) (a :: as) ρ = wb ms os ss as ρ := by simp [wb, hs]
          rw [e1]
          exact ih ρ hi2.2
        | true =>
          have e1 : wb (.pu :: ms) (.var k :: os) (s :: ss) (a :: as) ρ = wb ms os ss as (ρ.set k none) := by simp [wb, hs]
          rw [e1, ih _ hi2.2, List.getElem?_set_ne hk]
theorem mem_l {α : Type} {a : α} {x y : List α} (h : a ∈ x) : a ∈ x ++ y := List.mem_append_left _ h
theorem mem_r {α : Type} {a : α} {x y : List α} (h : a ∈ y) : a ∈ x ++ y := List.mem_append_right _ h
theorem puts_get : ∀ (is : List Nat) (ss : List SV) (ρ ρ' : Env), puts is ss ρ = .ok ρ' → ∀ i, i ∉ is → ρ'[i]? = ρ[i]?
  | [], [], ρ, ρ', e, i, _ => by cases e; rfl
  | [], _ :: _, _, _, e, _, _ => by cases e
  | _ :: _, [], _, _, e, _, _ => by cases e
  | j :: is, s :: ss, ρ, ρ', e, i, hi => by
    have e' : (if j < ρ.length then puts is ss (ρ.set j (some s)) else .bad) = .ok ρ' := e
    by_cases c : j < ρ.length
    · rw [if_pos c] at e'
      rw [puts_get is ss _ _ e' i fun z => hi (List.mem_cons_of_mem _ z), List.getElem?_set_ne fun z => hi (by rw [z]; exact List.mem_cons_self ..)]
    · rw [if_neg c] at e'; cases e'
mutual
theorem E.pr (Γ : Gl0) : ∀ (e : E) (ρ : Env), Pr (e.tch Γ.md) ρ (e.den Γ ρ)
  | .non, ρ => Pr.ret
  | .bl _, ρ => Pr.ret
  | .int _, ρ => Pr.ret
  | .str _, ρ => Pr.ret
  | .var i, ρ => Pr.bind0 fun _ _ => Pr.ret
  | .mv i, ρ => Pr.bind0 fun _ _ => Pr.retS (List.mem_singleton.mpr rfl)
  | .fz a, ρ => Pr.bind (E.pr Γ a ρ) fun _ _ _ => Pr.bind0 fun _ _ => Pr.bind0 fun _ _ => Pr.ret
  | .glob x, ρ => fun a ρ' e i hi => by
    have e' : (match Γ.gl x with | some d => R.ok (O.val (.d d), ρ) | none => .bad) = .ok (a, ρ') := e
    cases h : Γ.gl x with
    | none => rw [h] at e'; cases e'
    | some d => rw [h] at e'; cases e'; rfl
  | .tup es, ρ => Pr.bind (Es.pr Γ es ρ) fun _ _ _ => Pr.bind0 fun _ _ => Pr.ret
  | .lst es, ρ => Pr.bind (Es.pr Γ es ρ) fun _ _ _ => Pr.bind0 fun _ _ => Pr.ret
  | .bin op a b, ρ => Pr.bind (E.pr Γ a ρ).l fun _ ρ1 _ => Pr.bind (E.pr Γ b ρ1).r fun _ _ _ => Pr.bind0 fun _ _ => Pr.bind0 fun _ _ => Pr.bind0 fun _ _ => Pr.ret
  | .neg a, ρ => Pr.bind (E.pr Γ a ρ) fun _ _ _ => Pr.bind0 fun _ _ => Pr.bind0 fun _ _ => Pr.ret
  | .cmp op a b, ρ => Pr.bind (E.pr Γ a ρ).l fun _ ρ1 _ => Pr.bind (E.pr Γ b ρ1).r fun _ _ _ => Pr.bind0 fun _ _ => Pr.bind0 fun _ _ => Pr.bind0 fun _ _ => Pr.ret
  | .chain op op' a b c, ρ => Pr.bind (E.pr Γ a ρ).l fun _ ρ1 _ => Pr.bind (E.pr Γ b ρ1).l.r fun _ ρ2 _ => Pr.bind0 fun _ _ => Pr.bind0 fun _ _ => Pr.bind0 fun _ _ => Pr.bind0 fun _ _ =>
    Pr.ite (Pr.bind (E.pr Γ c ρ2).r.r fun _ _ _ => Pr.bind0 fun _ _ => Pr.bind0 fun _ _ => Pr.bind0 fun _ _ => Pr.ret) Pr.ret
  | .and a b, ρ => Pr.bind (E.pr Γ a ρ).l fun _ ρ1 _ => Pr.bind0 fun _ _ => Pr.ite (E.pr Γ b ρ1).r Pr.ret
  | .or a b, ρ => Pr.bind (E.pr Γ a ρ).l fun _ ρ1 _ => Pr.bind0 fun _ _ => Pr.ite Pr.ret (E.pr Γ b ρ1).r
  | .not a, ρ => Pr.bind (E.pr Γ a ρ) fun _ _ _ => Pr.bind0 fun _ _ => Pr.ret
  | .ifx c a b, ρ => Pr.bind (E.pr Γ c ρ).l fun _ ρ1 _ => Pr.bind0 fun _ _ => Pr.ite (E.pr Γ a ρ1).l.r (E.pr Γ b ρ1).r.r
  | .idx a b, ρ => Pr.bind (E.pr Γ a ρ).l fun _ ρ1 _ => Pr.bind (E.pr Γ b ρ1).r fun _ _ _ => Pr.bind0 fun _ _ => Pr.bind0 fun _ _ => Pr.bind0 fun _ _ => Pr.ret
  | .slB a lo hi, ρ => Pr.bind (E.pr Γ a ρ).l fun _ ρ1 _ => Pr.bind (E.pr Γ lo ρ1).l.r fun _ ρ2 _ => Pr.bind0 fun _ _ => Pr.bind0 fun _ _ => Pr.bind (E.pr Γ hi ρ2).r.r fun _ _ _ => Pr.bind0 fun _ _ => Pr.bind0 fun _ _ => Pr.bind0 fun _ _ => Pr.bind0 fun _ _ => Pr.ret
  | .slF a lo, ρ => Pr.bind (E.pr Γ a ρ).l fun _ ρ1 _ => Pr.bind (E.pr Γ lo ρ1).r fun _ _ _ => Pr.bind0 fun _ _ => Pr.bind0 fun _ _ => Pr.bind0 fun _ _ => Pr.bind0 fun _ _ => Pr.ret
  | .slT a hi, ρ => Pr.bind (E.pr Γ a ρ).l fun _ ρ1 _ => Pr.bind (E.pr Γ hi ρ1).r fun _ _ _ => Pr.bind0 fun _ _ => Pr.bind0 fun _ _ => Pr.bind0 fun _ _ => Pr.bind0 fun _ _ => Pr.ret
  | .rev a, ρ => Pr.bind (E.pr Γ a ρ) fun _ _ _ => Pr.bind0 fun _ _ => Pr.bind0 fun _ _ => Pr.ret
  | .call f es, ρ => Pr.bind (Es.pr Γ es ρ).r fun os ρ1 eo => Pr.bind0 fun ss _ => Pr.ite (Pr.bind0 fun p _ => fun a ρ' e i hi => by
      cases e
      exact wb_pr _ es _ _ _ _ i (Es.vars_ok Γ es _ _ _ eo) fun z => hi (mem_l z)) .bad
  | .bf f a, ρ => Pr.bind (E.pr Γ a ρ) fun _ _ _ => Pr.bind0 fun _ _ => Pr.bind0 fun _ _ => Pr.ret
  | .bf2 f a b, ρ => Pr.bind (E.pr Γ a ρ).l fun _ ρ1 _ => Pr.bind (E.pr Γ b ρ1).r fun _ _ _ => Pr.bind0 fun _ _ => Pr.bind0 fun _ _ => Pr.bind0 fun _ _ => Pr.ret
  | .isi T a, ρ => Pr.bind (E.pr Γ a ρ) fun _ _ _ => Pr.bind0 fun _ _ => Pr.bind0 fun _ _ => Pr.ret
  | .lc0 own t it x, ρ => Pr.bind (It.pr Γ it ρ).l.r.r fun ds ρ1 _ => by
    have w : ∀ i, i ∉ E.tch Γ.md (.lc0 own t it x) → (wipeE own ρ1)[i]? = ρ1[i]? := fun i hi => wipeE_get fun z => hi (mem_l z)
    refine Pr.bind (Pr.trans (lcGo_pr (T := E.tch Γ.md (.lc0 own t it x)) (fun i z => mem_l z) (fun d ρ2 => Pr.bind0 fun ρ3 e3 => Pr.trans (Pr.bind ((E.pr Γ x ρ3).r.r.r) fun _ _ _ => Pr.bind0 fun _ _ => Pr.ret) fun i hi => Tg.put_get t d _ _ e3 i fun z => hi (mem_r (mem_l z))) ds [] (wipeE own ρ1)) w) fun r ρ2 _ => ?_
    intro a ρ' e i hi
    cases e
    exact mrg_get fun z => hi (mem_l z)
  | .lc1 own t it c x, ρ => Pr.bind (It.pr Γ it ρ).l.r.r fun ds ρ1 _ => by
    have w : ∀ i, i ∉ E.tch Γ.md (.lc1 own t it c x) → (wipeE own ρ1)[i]? = ρ1[i]? := fun i hi => wipeE_get fun z => hi (mem_l z)
    refine Pr.bind (Pr.trans (lcGo_pr (T := E.tch Γ.md (.lc1 own t it c x)) (fun i z => mem_l z) (fun d ρ2 => Pr.bind0 fun ρ3 e3 => Pr.trans (Pr.bind ((E.pr Γ c ρ3).l.r.r.r) fun _ ρ4 _ => Pr.bind0 fun _ _ => Pr.ite (Pr.bind ((E.pr Γ x ρ4).r.r.r.r) fun _ _ _ => Pr.bind0 fun _ _ => Pr.ret) Pr.ret) fun i hi => Tg.put_get t d _ _ e3 i fun z => hi (mem_r (mem_l z))) ds [] (wipeE own ρ1)) w) fun r ρ2 _ => ?_
    intro a ρ' e i hi
    cases e
    exact mrg_get fun z => hi (mem_l z)
  | .app j x, ρ => Pr.bind0 fun _ _ => Pr.bind ((E.pr Γ x ρ).mono fun i z => List.mem_cons_of_mem _ z) fun o ρ1 _ => Pr.bind0 fun d _ => Pr.bind0 fun xs _ => Pr.ite (Pr.retS (List.mem_cons_self ..)) .bad
  | .ext j x, ρ => Pr.bind0 fun _ _ => Pr.bind ((E.pr Γ x ρ).mono fun i z => List.mem_cons_of_mem _ z) fun o ρ1 _ => Pr.bind0 fun d _ => Pr.bind0 fun xs _ => Pr.ite (Pr.retS (List.mem_cons_self ..)) .bad
  | .mth m j es, ρ => Pr.bind0 fun _ _ => Pr.bind ((Es.pr Γ es ρ).mono fun i z => List.mem_cons_of_mem _ z) fun os ρ1 _ => Pr.bind0 fun ds _ => Pr.bind0 fun xs _ => Pr.bind0 fun p _ => Pr.retS (List.mem_cons_self ..)
  | .dct0, ρ => Pr.ret
  | .dct1 k v, ρ => Pr.ret
  | .dctO t, ρ => Pr.ret
  | .dctP k v, ρ => Pr.bind (E.pr Γ k ρ).l fun _ ρ1 _ => Pr.bind (E.pr Γ v ρ1).r fun _ _ _ => Pr.bind0 fun _ _ => Pr.bind0 fun _ _ => Pr.ite Pr.ret .bad
  | .tm m a b, ρ => Pr.bind (E.pr Γ a ρ).l fun _ ρ1 _ => Pr.bind0 fun _ _ => Pr.bind0 fun _ _ => Pr.bind (E.pr Γ b ρ1).r fun _ _ _ => Pr.bind0 fun _ _ => Pr.bind0 fun _ _ => Pr.ret
  | .fnv x, ρ => Pr.ret
  | .callv cs j es, ρ => Pr.bind0 fun _ _ => Pr.bind0 fun _ _ => Pr.bind (Es.pr Γ es ρ) fun _ _ _ => Pr.bind0 fun _ _ => Pr.ite (Pr.bind0 fun _ _ => Pr.ret) .bad
  | .get1 a k, ρ => Pr.bind (E.pr Γ a ρ).l fun _ ρ1 _ => Pr.bind0 fun _ _ => Pr.bind0 fun _ _ => Pr.bind (E.pr Γ k ρ1).r fun _ _ _ => Pr.bind0 fun _ _ => Pr.bind0 fun _ _ => Pr.bind0 fun _ _ => Pr.ret
  | .get2 a k z, ρ => Pr.bind (E.pr Γ a ρ).l fun _ ρ1 _ => Pr.bind0 fun _ _ => Pr.bind0 fun _ _ => Pr.bind (E.pr Γ k ρ1).l.r fun _ ρ2 _ => Pr.bind (E.pr Γ z ρ2).r.r fun _ _ _ => Pr.bind0 fun _ _ => Pr.bind0 fun _ _ => Pr.bind0 fun _ _ => Pr.bind0 fun _ _ => Pr.ret
theorem Es.pr (Γ : Gl0) : ∀ (e : Es) (ρ : Env), Pr (e.tch Γ.md) ρ (e.dens Γ ρ)
  | .nil, ρ => Pr.ret
  | .cons e r, ρ => Pr.bind (E.pr Γ e ρ).l fun _ ρ1 _ => Pr.bind (Es.pr Γ r ρ1).r fun _ _ _ => Pr.ret
theorem It.pr (Γ : Gl0) : ∀ (e : It) (ρ : Env), Pr (e.tch Γ.md) ρ (e.den Γ ρ)
  | .e x, ρ => Pr.bind (E.pr Γ x ρ) fun _ _ _ => Pr.bind0 fun _ _ => Pr.bind0 fun _ _ => Pr.ret
  | .rng1 x, ρ => Pr.bind (E.pr Γ x ρ) fun _ _ _ => Pr.bind0 fun _ _ => Pr.bind0 fun _ _ => Pr.ite Pr.ret .bad
  | .rng2 x y, ρ => Pr.bind (E.pr Γ x ρ).l fun _ ρ1 _ => Pr.bind (E.pr Γ y ρ1).r fun _ _ _ => Pr.bind0 fun _ _ => Pr.bind0 fun _ _ => Pr.bind0 fun _ _ => Pr.bind0 fun _ _ => Pr.ite Pr.ret .bad
  | .enum x, ρ => Pr.bind (E.pr Γ x ρ) fun _ _ _ => Pr.bind0 fun _ _ => Pr.bind0 fun _ _ => Pr.ret
  | .zip x y, ρ => Pr.bind (E.pr Γ x ρ).l fun _ ρ1 _ => Pr.bind (E.pr Γ y ρ1).r fun _ _ _ => Pr.bind0 fun _ _ => Pr.bind0 fun _ _ => Pr.bind0 fun _ _ => Pr.bind0 fun _ _ => Pr.ret
end
theorem E.prT (Γ : Gl0) (c : E) (ρ : Env) : Pr (c.tch Γ.md) ρ (c.test Γ ρ) := Pr.bind (E.pr Γ c ρ) fun _ _ _ => Pr.bind0 fun _ _ => Pr.ret
mutual
theorem S.pr (Γ : Gl0) : ∀ (e : S) (ρ : Env), Pr (e.tch Γ.md) ρ (e.den Γ ρ)
  | .asg (.n j) e, ρ => Pr.bind (E.pr Γ e ρ).r fun _ ρ1 _ => Pr.bind0 fun _ _ => Pr.ite (Pr.retS (mem_l (List.mem_singleton.mpr rfl))) .bad
  | .par is es, ρ => Pr.bind (Es.pr Γ es ρ).r fun _ ρ1 _ => Pr.bind0 fun ss _ => Pr.bind0 fun ρ2 e2 => Pr.trans Pr.ret fun i hi => puts_get is ss _ _ e2 i fun z => hi (mem_l z)
  | .asg (.t ts) e, ρ => Pr.bind (E.pr Γ e ρ).r fun _ ρ1 _ => Pr.bind0 fun d _ => Pr.bind0 fun ρ2 e2 => Pr.trans Pr.ret fun i hi => Tg.put_get (.t ts) d _ _ e2 i fun z => hi (mem_l z)
  | .seti j k e, ρ => Pr.bind ((E.pr Γ e ρ).mono fun i z => List.mem_cons_of_mem _ (mem_r z)) fun _ ρ1 _ => Pr.bind0 fun _ _ => Pr.bind ((E.pr Γ k ρ1).mono fun i z => List.mem_cons_of_mem _ (mem_l z)) fun _ ρ2 _ => Pr.bind0 fun x _ => Pr.bind0 fun _ _ => Pr.bind0 fun w _ => Pr.bind0 fun w' _ => Pr.retS (List.mem_cons_self ..)
  | .aug j e, ρ => Pr.bind0 fun _ _ => Pr.bind0 fun _ _ => Pr.bind ((E.pr Γ e ρ).mono fun i z => List.mem_cons_of_mem _ z) fun _ _ _ => Pr.bind0 fun _ _ => Pr.bind0 fun _ _ => Pr.ite (Pr.retS (List.mem_cons_self ..)) .bad
  | .ex e, ρ => Pr.bind (E.pr Γ e ρ) fun _ _ _ => Pr.ret
  | .ret e, ρ => Pr.bind (E.pr Γ e ρ) fun _ _ _ => Pr.bind0 fun _ _ => Pr.ret
  | .retn, ρ => Pr.ret
  | .ife c a b, ρ => Pr.bind (E.prT Γ c ρ).l fun _ ρ1 _ => Pr.ite (Ss.pr Γ a ρ1).l.r (Ss.pr Γ b ρ1).r.r
  | .whl c b, ρ => whGo_pr (fun ρ => (E.prT Γ c ρ).l) (fun ρ => (Ss.pr Γ b ρ).r) Γ.fuel ρ
  | .for_ t it b, ρ => Pr.bind (It.pr Γ it ρ).l.r fun ds ρ1 _ => forGo_pr (fun i z => mem_l z) (fun ρ => (Ss.pr Γ b ρ).r.r) ds ρ1
  | .brk, ρ => Pr.ret
  | .cnt, ρ => Pr.ret
  | .pas, ρ => Pr.ret
  | .dead, ρ => Pr.bad
theorem Ss.pr (Γ : Gl0) : ∀ (e : Ss) (ρ : Env), Pr (e.tch Γ.md) ρ (e.dens Γ ρ)
  | .nil, ρ => Pr.ret
  | .cons s r, ρ => Pr.bind (S.pr Γ s ρ).l fun f ρ1 _ => by
    cases f with
    | nx => exact (Ss.pr Γ r ρ1).r
    | brk => exact Pr.ret
    | cnt => exact Pr.ret
    | ret s => exact Pr.ret
end
end
end Dn

set_option Elab.async false
set_option linter.all false
set_option maxRecDepth 100000
set_option maxHeartbeats 4000000
/-! Dn, part G: expressions, each form by its rule. -/
namespace Dn
open PySem PySem.Spec PyProof.Rows L2

def Agr (A : List Nat) (σ σ' : L2.St) : Prop := ∀ i, i ∉ A → σ'[i]? = σ[i]?
theorem Agr.refl {A : List Nat} {σ : L2.St} : Agr A σ σ := fun _ _ => rfl
theorem Agr.trans {A : List Nat} {σ σ1 σ2 : L2.St} (a : Agr A σ σ1) (b : Agr A σ1 σ2) : Agr A σ σ2 := fun i hi => (b i hi).trans (a i hi)
theorem Agr.mono {A B : List Nat} {σ σ' : L2.St} (a : Agr A σ σ') (m : ∀ i, i ∈ A → i ∈ B) : Agr B σ σ' := fun i hi => a i fun z => hi (m i z)

/-! ### names, constants -/
section
variable {X : Cx} {pos : Pos}
theorem se_var {i : Nat} {x : Str} (hN : X.N[i]? = some x) (hv : Vis X.env.scope x) (hd : (x == ("__debug__" : Str)) = false) (hcd : (x == ("__classdict__" : Str)) = false) :
    PE X (.Name x pos) (rE X.K fun ρ => (do let _ ← rd ρ i; .ok (.var i, ρ))) :=
  PE.weak (pe_var hN hv hd hcd) fun σ H Q h => by
    obtain ⟨α, ρ, o, ρ', e, hs, q⟩ := h
    obtain ⟨s, e1, e⟩ := bind_ok e
    cases e
    obtain ⟨v, e2, _⟩ := hs.slot (rd_ok e1)
    exact ⟨v, e2, q v H ⟨e2, hs⟩⟩
theorem se_mv {i : Nat} {x : Str} (hN : X.N[i]? = some x) (hv : Vis X.env.scope x) (hd : (x == ("__debug__" : Str)) = false) (hcd : (x == ("__classdict__" : Str)) = false) :
    PE X (.Name x pos) (rE X.K fun ρ => (do let s ← rd ρ i; .ok (.val s, ρ.set i none))) :=
  PE.weak (pe_var hN hv hd hcd) fun σ H Q h => by
    obtain ⟨α, ρ, o, ρ', e, hs, q⟩ := h
    obtain ⟨s, e1, e⟩ := bind_ok e
    cases e
    obtain ⟨v, e2, _⟩ := hs.slot (rd_ok e1)
    exact ⟨v, e2, q v H (.val (hs.take (rd_ok e1) e2))⟩
theorem se_data {e : Expr} {d : D} {v : V} (h : PE X e (tC v)) (r : ∀ H, Rp X.K H d v) : PE X e (rE X.K fun ρ => .ok (.val (.d d), ρ)) :=
  PE.weak h fun σ H Q h => by
    obtain ⟨α, ρ, o, ρ', e, hs, q⟩ := h
    cases e
    exact q v H (.val (hs.pure (r H)))
theorem pe_frz {e : Expr} {t : TE} (h : PE X e t) : PE X e fun σ H Q => t σ H fun v H1 => (∃ p ho, v = .ref p ∧ H1 p = some ho ∧ Mut (some ho) ∧ ∀ od, Q v (upd H1 p (.frz od ho))) ∨ Q v H1 :=
  ⟨fun pins s σ H Q I hw => thn (h.run pins s σ H _ I hw) fun u s1 ⟨v, H1, I1, r1, q1⟩ => by
    rcases q1 with ⟨p, ho, rfl, hp, mu, q1⟩ | q1
    · obtain ⟨od, I2⟩ := I1.lock hp mu
      exact ⟨_, _, I2, r1, q1 od⟩
    · exact ⟨v, H1, I1, r1, q1⟩⟩
/-- what is owned, read as data that is never written again -/
theorem Ow.frzs {K : PySem.W.Frag} {H : Hp} {s : SV} {v : V} {L : List (SV × V)} {F : Addr → Prop} (hf : ∀ x, s ≠ .ow (.fn x)) (h : Ow K H ((s, v) :: L) F) : (∃ F', Ow K H ((.d s.dat, v) :: L) F') ∨ ∃ p ho, v = .ref p ∧ H p = some ho ∧ Mut (some ho) ∧ ∀ od, ∃ F', Ow K (upd H p (.frz od ho)) ((.d s.dat, v) :: L) F' := by
  cases s with
  | d x => exact .inl ⟨F, h⟩
  | l xs =>
    obtain ⟨p, vs, rfl, hp, r⟩ := h.rl (List.mem_cons_self ..)
    exact .inr ⟨p, _, rfl, hp, trivial, fun od => h.frz hp⟩
  | ow w =>
    obtain ⟨G, r⟩ := h.head
    cases w with
    | fn x => exact absurd rfl (hf x)
    | k kvs o ks =>
      obtain ⟨p, rfl, e, r, _⟩ := r
      obtain ⟨F', t⟩ := h.tail
      exact .inl ⟨_, t.pure (.dctK e r)⟩
    | kt kvs o ks =>
      obtain ⟨p, rfl, e, r, _⟩ := r
      obtain ⟨F', t⟩ := h.tail
      exact .inl ⟨_, t.pure (.dctT e r)⟩
    | m t kvs =>
      cases t with
      | false =>
        obtain ⟨p, ks, rfl, hp, r, hg⟩ := r
        refine .inr ⟨p, _, rfl, hp, trivial, fun od => h.frzx (fun G r => ?_) ?_⟩
        · obtain ⟨p', _, e, _, _, hg⟩ := r
          cases e
          exact (hg _).mpr rfl
        · have m : Mut (H p) := by rw [hp]; trivial
          exact .dctK upd_same (RpKs.stay (.mut m) _ _ r)
      | true =>
        obtain ⟨p, ks, rfl, hp, r, hg⟩ := r
        refine .inr ⟨p, _, rfl, hp, trivial, fun od => h.frzx (fun G r => ?_) ?_⟩
        · obtain ⟨p', _, e, _, _, hg⟩ := r
          cases e
          exact (hg _).mpr rfl
        · have m : Mut (H p) := by rw [hp]; trivial
          exact .dctT upd_same (RpTs.stay (.mut m) _ _ r)
theorem se_fz {e : Expr} {fa : Env → R (O × Env)} (h : PE X e (rE X.K fa)) : PE X e (rE X.K fun ρ => (do let (o, ρ) ← fa ρ; let s ← o.use ρ; let s ← noFn s; .ok (.val (.d s.dat), ρ))) :=
  PE.weak (pe_frz h) fun σ H Q h => by
    obtain ⟨α, ρ, o, ρ', e, hs, q⟩ := h
    obtain ⟨⟨oa, ρ1⟩, e1, e⟩ := bind_ok e
    obtain ⟨s, e2, e⟩ := bind_ok e
    obtain ⟨s', e3, e4⟩ := bind_ok e
    obtain ⟨rfl, hf⟩ := noFn_ok e3
    cases e4
    refine rE.one e1 hs fun va H1 h1 => ?_
    have h2 := h1.use e2
    obtain ⟨F, o⟩ := h2.ow
    rcases o.frzs hf with ⟨F', o'⟩ | ⟨p, ho, rfl, hp, mu, k⟩
    · exact .inr (q va H1 (.val ⟨h2.len, h2.ok, F', o'⟩))
    · refine .inl ⟨p, ho, rfl, hp, mu, fun od => q _ _ (.val ?_)⟩
      obtain ⟨F', o'⟩ := k od
      exact ⟨h2.len, h2.ok, F', o'⟩
/-- what a name of the top may stand for -/
inductive GV where
  | int (n : Int)
  | str (z : Str)
  | tup (zs : List Str)
  deriving DecidableEq
def GV.dat : GV → D
  | .int n => .int n
  | .str z => .str z
  | .tup zs => .tuple (zs.map PyData.str)
def GlAt (K : PySem.W.Frag) (mg : Str → Option Value) (x : Str) : GV → Prop
  | .int n => ∃ t, mg x = some (.int n t)
  | .str z => ∃ t, mg x = some (.str z t)
  | .tup zs => zs ≠ [] ∧ mg x = some (.ref (He.ga K x)) ∧ ∀ H, SqT K H (He.ga K x) (zs.map V.str)
theorem rp_strs (K : PySem.W.Frag) (H : Hp) : ∀ zs : List Str, RpAll K H (zs.map PyData.str) (zs.map V.str)
  | [] => .nil
  | z :: zs => .cons (.str z) (rp_strs K H zs)
theorem strsD_map {zs : List Str} (h : zs ≠ []) : strsD (zs.map PyData.str) = true := by
  unfold strsD
  cases zs with
  | nil => exact absurd rfl h
  | cons z zs => simp [isStrD]
theorem RpAll.strs {K : PySem.W.Frag} {H : Hp} : ∀ {ns : List Str} {vs : List V}, RpAll K H (ns.map PyData.str) vs → vs = ns.map V.str
  | [], _, h => by cases h; rfl
  | n :: ns, _, h => by
    have h' : RpAll K H (PyData.str n :: ns.map PyData.str) _ := h
    cases h' with
    | cons r t => cases r; rw [RpAll.strs t]; rfl
/-- a name of the top -/
theorem se_glob {x : Str} {g : GV} (hg : Gl X x) (hm : GlAt X.K X.mg x g) (hd : (x == ("__debug__" : Str)) = false) : PE X (.Name x pos) (rE X.K fun ρ => .ok (.val (.d g.dat), ρ)) := by
  cases g with
  | int n =>
    obtain ⟨t, hm⟩ := hm
    exact se_data (pe_glob (v := .int n) hg hm ⟨t, rfl⟩ hd) fun _ => .int n
  | str z =>
    obtain ⟨t, hm⟩ := hm
    exact se_data (pe_glob (v := .str z) hg hm ⟨t, rfl⟩ hd) fun _ => .str z
  | tup zs =>
    obtain ⟨hz, hm, hq⟩ := hm
    exact se_data (pe_glob (v := .ref (He.ga X.K x)) hg hm rfl hd) fun H => .tupS (hq H) (rp_strs X.K H zs) (.inr (strsD_map hz))
theorem Ow.fnp {K : PySem.W.Frag} {H : Hp} {L : List (SV × V)} {F : Addr → Prop} (x : Str) (h : Ow K H L F) : Ow K H ((.ow (.fn x), .ref (He.ga K x)) :: L) F :=
  .cons (G := fun _ => False) ⟨rfl, fun _ z => z⟩ h (fun _ z => z.elim) fun a => ⟨.inr, fun z => z.elim False.elim id⟩
/-- a def of the module, as a value -/
theorem se_fnv {x : Str} (hg : Gl X x) (hm : X.mg x = some (.ref (He.ga X.K x))) (hd : (x == ("__debug__" : Str)) = false) : PE X (.Name x pos) (rE X.K fun ρ => .ok (.val (.ow (.fn x)), ρ)) :=
  PE.weak (pe_glob (v := .ref (He.ga X.K x)) hg hm rfl hd) fun σ H Q h => by
    obtain ⟨α, ρ, o, ρ', e, hs, q⟩ := h
    cases e
    obtain ⟨F, ow⟩ := hs.ow
    exact q _ H (.val ⟨hs.len, hs.ok, F, ow.fnp x⟩)
/-- a dict of which nothing is asked -/
theorem pe_frzD {e : Expr} {t : TE} (h : PE X e t) : PE X e fun σ H Q => t σ H fun v H1 => ∃ p kvs, v = .ref p ∧ H1 p = some (.dK kvs) ∧ ∀ od, Q v (upd H1 p (.frz od (.dK kvs))) :=
  ⟨fun pins s σ H Q I hw => thn (h.run pins s σ H _ I hw) fun u s1 ⟨v, H1, I1, r1, q1⟩ => by
    obtain ⟨p, xs, rfl, hp, q1⟩ := q1
    obtain ⟨od, I2⟩ := I1.lock hp trivial
    exact ⟨_, _, I2, r1, q1 od⟩⟩
theorem upd_upd {H : Hp} {p : Addr} {a b : HO} : upd (upd H p a) p b = upd H p b := by
  funext c
  by_cases h : c = p
  · subst h; rw [upd_same, upd_same]
  · rw [upd_ne h, upd_ne h, upd_ne h]
theorem se_dct0 : PE X (.Dict [] [] pos) (rE X.K fun ρ => .ok (.val (.d (.dict [])), ρ)) :=
  PE.weak (pe_frzD pe_dnewK) fun σ H Q h => by
    obtain ⟨α, ρ, o, ρ', e, hs, q⟩ := h
    cases e
    intro p np
    refine ⟨p, [], rfl, upd_same, fun od => q _ _ (.val ?_)⟩
    rw [upd_upd]
    exact hs.step fun _ F h => ⟨F, (h.new np).pure (.dctK upd_same .nil)⟩
theorem se_dct1 {i j : Int} {k1 k2 : Nat} {p1 p2 : Pos} : PE X (.Dict [some (.Constant (.int i) k1 p1)] [.Constant (.int j) k2 p2] pos) (rE X.K fun ρ => .ok (.val (.d (.dict [(.int i, .int j)])), ρ)) :=
  PE.weak (pe_frzD (pe_disp (pps_cons pe_int pe_int pps_nil) rfl rfl (by simp) (by simp))) fun σ H Q h => by
    obtain ⟨α, ρ, o, ρ', e, hs, q⟩ := h
    cases e
    intro p np
    refine ⟨upd_same, [(.inl i, .int j)], rfl, by simp, p, _, rfl, upd_same, fun od => q _ _ (.val ?_)⟩
    rw [upd_upd, upd_upd]
    exact hs.step fun _ F h => ⟨F, (h.new np).pure (.dctK (ks := [(.inl i, .int j)]) upd_same (.cons (k := .inl i) (.int j) .nil))⟩
/-- dicts of its own -/
theorem se_dctO (t : Bool) : PE X (.Dict [] [] pos) (rE X.K fun ρ => .ok (.val (.ow (.m t [])), ρ)) := by
  cases t with
  | false =>
    refine PE.weak pe_dnewK fun σ H Q h => ?_
    obtain ⟨α, ρ, o, ρ', e, hs, q⟩ := h
    cases e
    exact fun p np => q _ _ (.val (hs.step (Step.newD np .nil)))
  | true =>
    refine PE.weak pe_dnewT fun σ H Q h => ?_
    obtain ⟨α, ρ, o, ρ', e, hs, q⟩ := h
    cases e
    exact fun p np => q _ _ (.val (hs.step (Step.newT np .nil)))
theorem se_dctP {k v : Expr} {fk fv : Env → R (O × Env)} (hk : PE X k (rE X.K fk)) (hv : PE X v (rE X.K fv)) :
    PE X (.Dict [some k] [v] pos) (rE X.K fun ρ => (do let (o, ρ) ← fk ρ; let (p, ρ) ← fv ρ; let x ← o.useD ρ; let y ← p.useD ρ; if isKy x = true then .ok (.val (.ow (.m false [(x, y)])), ρ) else .bad)) :=
  PE.weak (pe_disp (pps_cons hk hv pps_nil) rfl rfl (by simp) (by simp)) fun σ H Q h => by
    obtain ⟨α, ρ, o, ρ', e, hs, q⟩ := h
    obtain ⟨⟨oa, ρ1⟩, e1, e⟩ := bind_ok e
    obtain ⟨⟨ob, ρ2⟩, e2, e⟩ := bind_ok e
    obtain ⟨x, e3, e⟩ := bind_ok e
    obtain ⟨y, e4, e⟩ := bind_ok e
    obtain ⟨c, e5⟩ := if_ok e
    cases e5
    obtain ⟨j, rfl⟩ := kyD_of c
    intro p np
    refine rE.two e1 e2 (hs.step (Step.newD np .nil)) fun va vb H2 k1 k2 h2 => ?_
    have r1 := useD_rp h2 k1 (fun p m => List.mem_append_right _ (List.mem_append_left _ m)) e3
    have r2 := useD_rp h2 k2 (fun p m => List.mem_append_left _ m) e4
    have h3 := h2.sub ((List.sublist_append_right (tmp oa va) _).trans (List.sublist_append_right (tmp ob vb) _))
    obtain ⟨G, p', ks, e6, e7, e8, hg⟩ := h3.mem (List.mem_append_left _ (List.mem_cons_self ..))
    cases e6
    cases e8
    cases kyD_rp r1
    refine ⟨e7, [(j, vb)], rfl, by simp, q _ _ (.val ?_)⟩
    obtain ⟨F, o⟩ := h3.ow
    have m : Mut (H2 p) := by rw [e7]; trivial
    obtain ⟨F', o'⟩ := Ow.mutx (s' := .ow (.m false [(kyD j, y)])) (o := .dK [(j, vb)]) o (fun G r => by
      obtain ⟨p', _, e, _, _, hg⟩ := r
      cases e
      exact (hg _).mpr rfl) ⟨p, [(j, vb)], rfl, upd_same, RpKs.stay (.mut m) _ _ (.cons r2 .nil), fun _ => Iff.rfl⟩
    exact ⟨h3.len, h3.ok, F', o'⟩
/-- displays -/
theorem se_tup {es : List Expr} {k : Nat} {fs : Env → R (List O × Env)} (h : PA X es (rA X.K fs)) (hl : ∀ ρ os ρ', fs ρ = .ok (os, ρ') → os.length ≤ 1000) :
    PE X (.Tuple es k pos) (rE X.K fun ρ => (do let (os, ρ) ← fs ρ; let ds ← useDs ρ os; .ok (.val (.d (.tuple ds)), ρ))) :=
  PE.weak (pe_tup h) fun σ H Q h => by
    obtain ⟨α, ρ, o, ρ', e, hs, q⟩ := h
    obtain ⟨⟨os, ρ1⟩, e1, e⟩ := bind_ok e
    obtain ⟨ds, e2, e⟩ := bind_ok e
    cases e
    refine ⟨α, ρ, os, ρ', e1, hs, fun vs H1 h1 => ?_⟩
    have r := useDs_rp h1.2 h1.1 (fun p m => List.mem_append_left _ m) e2
    have hlen : ds.length ≤ 1000 := by
      have : ∀ (os : List O) (ds : List D), useDs ρ' os = .ok ds → ds.length = os.length := fun os => by
        induction os with
        | nil => intro ds e; cases e; rfl
        | cons o os ih =>
          intro ds e
          obtain ⟨x, _, e⟩ := bind_ok (show (o.useD ρ' >>= fun s => useDs ρ' os >>= fun r => R.ok (s :: r)) = .ok ds from e)
          obtain ⟨r, e3, e⟩ := bind_ok e
          cases e
          exact congrArg Nat.succ (ih r e3)
      rw [this os ds e2]
      exact hl _ _ _ e1
    exact ⟨by rw [← r.len, sizeLine_eq]; omega, fun p n => q _ _ (.val ((h1.2.step (.tup n r)).sub sub1))⟩
theorem se_lst {es : List Expr} {fs : Env → R (List O × Env)} (h : PA X es (rA X.K fs)) (hl : ∀ ρ os ρ', fs ρ = .ok (os, ρ') → os.length ≤ 1000) :
    PE X (.List es pos) (rE X.K fun ρ => (do let (os, ρ) ← fs ρ; let ds ← useDs ρ os; .ok (.val (.l ds), ρ))) :=
  PE.weak (pe_lst h) fun σ H Q h => by
    obtain ⟨α, ρ, o, ρ', e, hs, q⟩ := h
    obtain ⟨⟨os, ρ1⟩, e1, e⟩ := bind_ok e
    obtain ⟨ds, e2, e⟩ := bind_ok e
    cases e
    refine ⟨α, ρ, os, ρ', e1, hs, fun vs H1 h1 => ?_⟩
    have r := useDs_rp h1.2 h1.1 (fun p m => List.mem_append_left _ m) e2
    have hlen : ds.length ≤ 1000 := by
      have : ∀ (os : List O) (ds : List D), useDs ρ' os = .ok ds → ds.length = os.length := fun os => by
        induction os with
        | nil => intro ds e; cases e; rfl
        | cons o os ih =>
          intro ds e
          obtain ⟨x, _, e⟩ := bind_ok (show (o.useD ρ' >>= fun s => useDs ρ' os >>= fun r => R.ok (s :: r)) = .ok ds from e)
          obtain ⟨r, e3, e⟩ := bind_ok e
          cases e
          exact congrArg Nat.succ (ih r e3)
      rw [this os ds e2]
      exact hl _ _ _ e1
    exact ⟨by rw [← r.len, sizeLine_eq]; omega, fun p n => q _ _ (.val ((h1.2.step (.lst n r)).sub sub1))⟩
end

/-! ### argument lists -/
section
variable {X : Cx}
theorem sa_nil : PA X [] (rA X.K fun ρ => .ok ([], ρ)) := PA.weak pa_nil fun σ H Q h => by
  obtain ⟨α, ρ, o, ρ', e, hs, q⟩ := h
  cases e
  exact q [] H ⟨trivial, hs⟩
theorem sa_cons {e : Expr} {es : List Expr} {fa : Env → R (O × Env)} {fs : Env → R (List O × Env)} (ha : PE X e (rE X.K fa)) (hr : PA X es (rA X.K fs)) (hs : starEach (e :: es) X.env = (false, eval e X.env) :: starEach es X.env) :
    PA X (e :: es) (rA X.K fun ρ => (do let (o, ρ) ← fa ρ; let (os, ρ) ← fs ρ; .ok (o :: os, ρ))) := PA.weak (pa_cons ha hr hs) fun σ H Q h => by
  obtain ⟨α, ρ, o, ρ', e, hst, q⟩ := h
  obtain ⟨⟨oa, ρ1⟩, e1, e⟩ := bind_ok e
  obtain ⟨⟨os, ρ2⟩, e2, e⟩ := bind_ok e
  cases e
  refine ⟨α, ρ, oa, ρ1, e1, hst, fun va H1 h1 => ⟨_, ρ1, os, ρ', e2, h1.2, fun vs H2 h2 => q (va :: vs) H2 ⟨⟨h1.1, h2.1⟩, ?_⟩⟩⟩
  show StR X.K H2 ((tmps os vs ++ tmp oa va) ++ α) ρ' σ
  rw [List.append_assoc]
  exact h2.2
end

/-! ### and, or, not, if else, chains, - -/
section
variable {X : Cx} {a b c : Expr} {rest : List Expr} {fa fb fc : Env → R (O × Env)} {pos : Pos}
def dAnd (fa fb : Env → R (O × Env)) : Env → R (O × Env) := fun ρ => (do let (x, ρ) ← fa ρ; let k ← x.tru ρ; if k = true then fb ρ else .ok (.val (.d (.bool false)), ρ))
def dOr (fa fb : Env → R (O × Env)) : Env → R (O × Env) := fun ρ => (do let (x, ρ) ← fa ρ; let k ← x.tru ρ; if k = true then .ok (.val (.d (.bool true)), ρ) else fb ρ)
def dNot (fa : Env → R (O × Env)) : Env → R (O × Env) := fun ρ => (do let (x, ρ) ← fa ρ; let k ← x.tru ρ; .ok (.val (.d (.bool (!k))), ρ))
def dIf (fc fa fb : Env → R (O × Env)) : Env → R (O × Env) := fun ρ => (do let (x, ρ) ← fc ρ; let k ← x.tru ρ; if k = true then fa ρ else fb ρ)
theorem tru_split {α : Type} {f : Env → R (O × Env)} {g : Bool → Env → R α} {ρ : Env} {r : α} (e : (do let (x, ρ) ← f ρ; let k ← x.tru ρ; g k ρ) = .ok r) : ∃ o k ρ1, f ρ = .ok (o, ρ1) ∧ o.get ρ1 = .ok (.d (.bool k)) ∧ g k ρ1 = .ok r := by
  obtain ⟨⟨o, ρ1⟩, e1, e⟩ := bind_ok e
  obtain ⟨k, e2, e⟩ := bind_ok e
  obtain ⟨o', e3, e4⟩ := tru_ok (f := f) (ρ := ρ) (ρ' := ρ1) (k := k) (by
    unfold tru
    rw [e1]
    show (o.tru ρ1 >>= fun k => R.ok (k, ρ1)) = _
    rw [show o.tru ρ1 = .ok k from e2]
    rfl)
  rw [e1] at e3
  cases e3
  exact ⟨o, k, ρ1, e1, e4, e⟩
theorem se_and (ha : PE X a (rE X.K fa)) (hb : PE X (.BoolOp .And (b :: rest) pos) (rE X.K fb)) : PE X (.BoolOp .And (a :: b :: rest) pos) (rE X.K (dAnd fa fb)) :=
  PE.weak (pe_and ha hb) fun σ H Q h => by
    obtain ⟨α, ρ, o, ρ', e, hs, q⟩ := h
    obtain ⟨oa, k, ρ1, e1, e2, e⟩ := tru_split (f := fa) (g := fun k ρ => if k = true then fb ρ else R.ok (O.val (.d (.bool false)), ρ)) e
    refine rE.one e1 hs fun va H1 h1 => ?_
    obtain ⟨G, r⟩ := h1.get e2
    refine ⟨k, rs_bl r, ?_⟩
    cases k with
    | true => exact ⟨α, ρ1, o, ρ', e, h1.st, q⟩
    | false => cases e; exact q _ _ (.val (h1.st.pure (.bl _)))
theorem se_or (ha : PE X a (rE X.K fa)) (hb : PE X (.BoolOp .Or (b :: rest) pos) (rE X.K fb)) : PE X (.BoolOp .Or (a :: b :: rest) pos) (rE X.K (dOr fa fb)) :=
  PE.weak (pe_or ha hb) fun σ H Q h => by
    obtain ⟨α, ρ, o, ρ', e, hs, q⟩ := h
    obtain ⟨oa, k, ρ1, e1, e2, e⟩ := tru_split (f := fa) (g := fun k ρ => if k = true then R.ok (O.val (.d (.bool true)), ρ) else fb ρ) e
    refine rE.one e1 hs fun va H1 h1 => ?_
    obtain ⟨G, r⟩ := h1.get e2
    refine ⟨k, rs_bl r, ?_⟩
    cases k with
    | true => cases e; exact q _ _ (.val (h1.st.pure (.bl _)))
    | false => exact ⟨α, ρ1, o, ρ', e, h1.st, q⟩
theorem se_not (ha : PE X a (rE X.K fa)) : PE X (.UnaryOp .Not a pos) (rE X.K (dNot fa)) :=
  PE.weak (pe_not ha) fun σ H Q h => by
    obtain ⟨α, ρ, o, ρ', e, hs, q⟩ := h
    obtain ⟨oa, k, ρ1, e1, e2, e⟩ := tru_split (f := fa) (g := fun k ρ => R.ok (O.val (.d (.bool (!k))), ρ)) e
    refine rE.one e1 hs fun va H1 h1 => ?_
    obtain ⟨G, r⟩ := h1.get e2
    refine ⟨k, rs_bl r, ?_⟩
    cases e
    exact q _ _ (.val (h1.st.pure (.bl _)))
theorem st_and (ha : PT X a (rT X.K (tru fa))) (hb : PW X (.BoolOp .And (b :: rest) pos) (rT X.K (tru fb))) : PW X (.BoolOp .And (a :: b :: rest) pos) (rT X.K (tru (dAnd fa fb))) :=
  ⟨fun whole pins s σ H Q I h => (pw_and ha hb).run whole pins s σ H Q I (by
    obtain ⟨α, ρ, k, ρ', e, hs, q⟩ := h
    obtain ⟨o, e0, e4⟩ := tru_ok e
    obtain ⟨oa, k1, ρ1, e1, e2, e⟩ := tru_split (f := fa) (g := fun k ρ => if k = true then fb ρ else R.ok (O.val (.d (.bool false)), ρ)) e0
    refine ⟨α, ρ, k1, ρ1, tru_mk e1 e2, hs, fun H1 h1 => ?_⟩
    cases k1 with
    | true =>
      rw [if_pos rfl]
      exact ⟨α, ρ1, k, ρ', tru_mk e e4, h1, q⟩
    | false =>
      rw [if_neg Bool.false_ne_true]
      cases e
      cases e4
      exact q _ h1)⟩
theorem st_or (ha : PT X a (rT X.K (tru fa))) (hb : PW X (.BoolOp .Or (b :: rest) pos) (rT X.K (tru fb))) : PW X (.BoolOp .Or (a :: b :: rest) pos) (rT X.K (tru (dOr fa fb))) :=
  ⟨fun whole pins s σ H Q I h => (pw_or ha hb).run whole pins s σ H Q I (by
    obtain ⟨α, ρ, k, ρ', e, hs, q⟩ := h
    obtain ⟨o, e0, e4⟩ := tru_ok e
    obtain ⟨oa, k1, ρ1, e1, e2, e⟩ := tru_split (f := fa) (g := fun k ρ => if k = true then R.ok (O.val (.d (.bool true)), ρ) else fb ρ) e0
    refine ⟨α, ρ, k1, ρ1, tru_mk e1 e2, hs, fun H1 h1 => ?_⟩
    cases k1 with
    | false =>
      rw [if_neg Bool.false_ne_true]
      exact ⟨α, ρ1, k, ρ', tru_mk e e4, h1, q⟩
    | true =>
      rw [if_pos rfl]
      cases e
      cases e4
      exact q _ h1)⟩
theorem st_not (ha : PT X a (rT X.K (tru fa))) : PT X (.UnaryOp .Not a pos) (rT X.K (tru (dNot fa))) :=
  PT.weak (pt_not ha) fun σ H Q h => by
    obtain ⟨α, ρ, k, ρ', e, hs, q⟩ := h
    obtain ⟨o, e0, e4⟩ := tru_ok e
    obtain ⟨oa, k1, ρ1, e1, e2, e⟩ := tru_split (f := fa) (g := fun k ρ => R.ok (O.val (.d (.bool (!k))), ρ)) e0
    cases e
    cases e4
    exact ⟨α, ρ, k1, ρ', tru_mk e1 e2, hs, q⟩
theorem se_if (hc : PT X c (rT X.K (tru fc))) (ha : PE X a (rE X.K fa)) (hb : PE X b (rE X.K fb)) : PE X (.IfExp c a b pos) (rE X.K (dIf fc fa fb)) :=
  PE.weak (pe_ifExp hc ha hb) fun σ H Q h => by
    obtain ⟨α, ρ, o, ρ', e, hs, q⟩ := h
    obtain ⟨oc, k1, ρ1, e1, e2, e⟩ := tru_split (f := fc) (g := fun k ρ => if k = true then fa ρ else fb ρ) e
    refine ⟨α, ρ, k1, ρ1, tru_mk e1 e2, hs, fun H1 h1 => ?_⟩
    cases k1 with
    | true => rw [if_pos rfl]; exact ⟨α, ρ1, o, ρ', e, h1, q⟩
    | false => rw [if_neg Bool.false_ne_true]; exact ⟨α, ρ1, o, ρ', e, h1, q⟩
theorem se_neg (ha : PE X a (rE X.K fa)) : PE X (.UnaryOp .USub a pos) (rE X.K fun ρ => (do let (x, ρ) ← fa ρ; let s ← x.get ρ; let i ← isI s; .ok (.val (.d (.int (-i))), ρ))) :=
  PE.weak (pe_un un_neg ha) fun σ H Q h => by
    obtain ⟨α, ρ, o, ρ', e, hs, q⟩ := h
    obtain ⟨⟨oa, ρ1⟩, e1, e⟩ := bind_ok e
    obtain ⟨s, e2, e⟩ := bind_ok e
    obtain ⟨i, e3, e⟩ := bind_ok e
    cases e
    refine rE.one e1 hs fun va H1 h1 => ?_
    have es : s = .d (.int i) := by
      unfold isI at e3
      split at e3
      · cases e3; rfl
      · cases e3
    subst es
    obtain ⟨G, r⟩ := h1.get e2
    exact ⟨i, rs_int r, q _ _ (.val (h1.st.pure (.int _)))⟩
def dChain (op op' : COp) (fa fb fc : Env → R (O × Env)) : Env → R (O × Env) := fun ρ => (do
    let (x, ρ) ← fa ρ; let (y, ρ) ← fb ρ; let s ← x.get ρ; let t ← y.get ρ; let r ← opC op s t; let k ← isB r
    if k = true then (do let (z, ρ) ← fc ρ; let t ← y.get ρ; let u ← z.get ρ; let r ← opC op' t u; .ok (.val r, ρ)) else .ok (.val (.d (.bool false)), ρ))
theorem chain_weak (op op' : COp) : ∀ σ H Q, rE X.K (dChain op op' fa fb fc) σ H Q → tChain (rC X.K op) (rC X.K op') (rE X.K fa) (rE X.K fb) (rE X.K fc) σ H Q := fun σ H Q h => by
    obtain ⟨α, ρ, o, ρ', e, hs, q⟩ := h
    obtain ⟨⟨oa, ρ1⟩, e1, e⟩ := bind_ok e
    obtain ⟨⟨ob, ρ2⟩, e2, e⟩ := bind_ok e
    obtain ⟨s, e3, e⟩ := bind_ok e
    obtain ⟨t, e4, e⟩ := bind_ok e
    obtain ⟨r, e5, e⟩ := bind_ok e
    obtain ⟨k, e6, e⟩ := bind_ok e
    have er : r = .d (.bool k) := by
      unfold isB at e6
      split at e6
      · cases e6; rfl
      · cases e6
    subst er
    refine rE.two e1 e2 hs fun va vb H2 k1 k2 h2 => ?_
    obtain ⟨Ga, r1⟩ := held h2 k1 (fun p m => List.mem_append_right _ (List.mem_append_left _ m)) e3
    obtain ⟨Gb, r2⟩ := held h2 k2 (fun p m => List.mem_append_left _ m) e4
    refine ok_C op H2 s t va vb Ga Gb _ _ r1 r2 e5 fun v H3 st => ?_
    have h3 := h2.step st
    obtain ⟨G3, r3⟩ := h3.mem (List.mem_append_left _ (List.mem_cons_self ..))
    refine ⟨k, rs_bl r3, ?_⟩
    cases k with
    | false => rw [if_neg Bool.false_ne_true]; cases e; exact q _ _ (.val (h3.drop.dropL.dropL.pure (.bl _)))
    | true =>
      rw [if_pos rfl]
      obtain ⟨⟨oc, ρ3⟩, e7, e⟩ := bind_ok (show (do let (z, ρ) ← fc ρ2; let t ← ob.get ρ; let u ← z.get ρ; let r ← opC op' t u; R.ok (O.val r, ρ)) = .ok (o, ρ') from e)
      obtain ⟨t', e8, e⟩ := bind_ok e
      obtain ⟨u, e9, e⟩ := bind_ok e
      obtain ⟨r', e10, e⟩ := bind_ok e
      cases e
      refine rE.one e7 h3.drop fun vc H4 h4 => ?_
      obtain ⟨Gb', r4⟩ := held h4.2 k2 (fun p m => List.mem_append_right _ (List.mem_append_left _ m)) e8
      obtain ⟨Gc, r5⟩ := h4.get e9
      exact ok_C op' H4 t' u vb vc _ _ _ _ r4 r5 e10 fun v' H5 st' => q _ _ (.val ((h4.2.step st').sub (List.Sublist.cons_cons _ ((List.sublist_append_right _ _).trans ((List.sublist_append_right _ _).trans (List.sublist_append_right _ _))))))
theorem se_chain (hu : X.A.units + 65 < cLine) (op op' : COp) (ha : PE X a (rE X.K fa)) (hb : PE X b (rE X.K fb)) (hc : PE X c (rE X.K fc)) (hm : lastMarks [op.py, op'.py] [b, c] = false) : PE X (.Compare a [op.py, op'.py] [b, c] pos) (rE X.K (dChain op op' fa fb fc)) :=
  PE.weak (pe_chain (op_C hu op) (op_C hu op') ha hb hc hm) (chain_weak op op')
theorem st_chain (hu : X.A.units + 65 < cLine) (op op' : COp) (ha : PE X a (rE X.K fa)) (hb : PE X b (rE X.K fb)) (hc : PE X c (rE X.K fc)) (hm : lastMarks [op.py, op'.py] [b, c] = false) : PT X (.Compare a [op.py, op'.py] [b, c] pos) (rT X.K (tru (dChain op op' fa fb fc))) :=
  PT.weak (pt_chain (op_C hu op) (op_C hu op') ha hb hc hm) fun σ H Q h => by
    obtain ⟨α, ρ, k, ρ', e, hst, q⟩ := h
    obtain ⟨o, e1, e2⟩ := tru_ok e
    refine chain_weak op op' σ H _ ⟨α, ρ, o, ρ', e1, hst, fun v H' h' => ?_⟩
    obtain ⟨Ga, r1⟩ := h'.get e2
    exact ⟨k, rs_bl r1, q H' h'.st⟩
end

/-! ### slices -/
section
variable {X : Cx} {a lo hi : Expr} {fa fl fh : Env → R (O × Env)} {p2 pos : Pos}
theorem isI_ok {s : SV} {i : Int} (e : isI s = .ok i) : s = .d (.int i) := by
  unfold isI at e
  split at e
  · cases e; rfl
  · cases e
theorem se_slF (ha : PE X a (rE X.K fa)) (hl : PE X lo (rE X.K fl)) : PE X (.Subscript a (.Slice (some lo) none none p2) pos) (rE X.K fun ρ => (do let (x, ρ) ← fa ρ; let (y, ρ) ← fl ρ; let s ← x.get ρ; let t ← y.get ρ; let i ← isI t; let r ← cutB s (some i) none; .ok (.val r, ρ))) :=
  PE.weak (pe_slice sl_any ha (po_some hl) po_none) fun σ H Q h => by
    obtain ⟨α, ρ, o, ρ', e, hs, q⟩ := h
    obtain ⟨⟨oa, ρ1⟩, e1, e⟩ := bind_ok e
    obtain ⟨⟨ob, ρ2⟩, e2, e⟩ := bind_ok e
    obtain ⟨s, e3, e⟩ := bind_ok e
    obtain ⟨t, e4, e⟩ := bind_ok e
    obtain ⟨i, e5, e⟩ := bind_ok e
    obtain ⟨r, e6, e⟩ := bind_ok e
    cases e
    cases isI_ok e5
    refine rE.two e1 e2 hs fun va vb H2 k1 k2 h2 => ?_
    obtain ⟨Ga, r1⟩ := held h2 k1 (fun p m => List.mem_append_right _ (List.mem_append_left _ m)) e3
    obtain ⟨Gb, r2⟩ := held h2 k2 (fun p m => List.mem_append_left _ m) e4
    exact ⟨i, rs_int r2, ok_cut r1 e6 fun v H3 t => q _ _ (.val ((h2.step t).sub sub2))⟩
theorem se_slT (ha : PE X a (rE X.K fa)) (hl : PE X hi (rE X.K fl)) : PE X (.Subscript a (.Slice none (some hi) none p2) pos) (rE X.K fun ρ => (do let (x, ρ) ← fa ρ; let (y, ρ) ← fl ρ; let s ← x.get ρ; let t ← y.get ρ; let i ← isI t; let r ← cutB s none (some i); .ok (.val r, ρ))) :=
  PE.weak (pe_slice sl_any ha po_none (po_some hl)) fun σ H Q h => by
    obtain ⟨α, ρ, o, ρ', e, hs, q⟩ := h
    obtain ⟨⟨oa, ρ1⟩, e1, e⟩ := bind_ok e
    obtain ⟨⟨ob, ρ2⟩, e2, e⟩ := bind_ok e
    obtain ⟨s, e3, e⟩ := bind_ok e
    obtain ⟨t, e4, e⟩ := bind_ok e
    obtain ⟨i, e5, e⟩ := bind_ok e
    obtain ⟨r, e6, e⟩ := bind_ok e
    cases e
    cases isI_ok e5
    refine rE.two e1 e2 hs fun va vb H2 k1 k2 h2 => ?_
    obtain ⟨Ga, r1⟩ := held h2 k1 (fun p m => List.mem_append_right _ (List.mem_append_left _ m)) e3
    obtain ⟨Gb, r2⟩ := held h2 k2 (fun p m => List.mem_append_left _ m) e4
    exact ⟨i, rs_int r2, ok_cut r1 e6 fun v H3 t => q _ _ (.val ((h2.step t).sub sub2))⟩
theorem se_slB (ha : PE X a (rE X.K fa)) (hl : PE X lo (rE X.K fl)) (hh : PE X hi (rE X.K fh)) : PE X (.Subscript a (.Slice (some lo) (some hi) none p2) pos) (rE X.K fun ρ => (do let (x, ρ) ← fa ρ; let (y, ρ) ← fl ρ; let t ← y.get ρ; let i ← isI t; let (z, ρ) ← fh ρ; let s ← x.get ρ; let u ← z.get ρ; let j ← isI u; let r ← cutB s (some i) (some j); .ok (.val r, ρ))) :=
  PE.weak (pe_slice sl_any ha (po_some hl) (po_some hh)) fun σ H Q h => by
    obtain ⟨α, ρ, o, ρ', e, hs, q⟩ := h
    obtain ⟨⟨oa, ρ1⟩, e1, e⟩ := bind_ok e
    obtain ⟨⟨ob, ρ2⟩, e2, e⟩ := bind_ok e
    obtain ⟨t, e4, e⟩ := bind_ok e
    obtain ⟨i, e5, e⟩ := bind_ok e
    obtain ⟨⟨oc, ρ3⟩, e7, e⟩ := bind_ok e
    obtain ⟨s, e3, e⟩ := bind_ok e
    obtain ⟨u, e8, e⟩ := bind_ok e
    obtain ⟨j, e9, e⟩ := bind_ok e
    obtain ⟨r, e6, e⟩ := bind_ok e
    cases e
    cases isI_ok e5
    cases isI_ok e9
    refine rE.one e1 hs fun va H1 h1 => rE.one e2 h1.2 fun vb H2 h2 => ?_
    obtain ⟨Gb, r2⟩ := h2.get e4
    refine ⟨i, rs_int r2, rE.one e7 h2.2 fun vc H3 h3 => ?_⟩
    obtain ⟨Ga, r1⟩ := held h3.2 h1.1 (fun p m => List.mem_append_right _ (List.mem_append_right _ (List.mem_append_left _ m))) e3
    obtain ⟨Gc, r3⟩ := h3.get e8
    exact ⟨j, rs_int r3, ok_cut r1 e6 fun v H3 t => q _ _ (.val ((h3.2.step t).sub (List.Sublist.cons_cons _ ((List.sublist_append_right _ _).trans ((List.sublist_append_right _ _).trans (List.sublist_append_right _ _))))))⟩
theorem se_rev {k : Nat} {p1 p3 : Pos} (ha : PE X a (rE X.K fa)) : PE X (.Subscript a (.Slice none none (some (.UnaryOp .USub (.Constant (.int 1) k p1) p2)) p3) pos) (rE X.K (den1 fa revB)) :=
  PE.weak (Dn.PE.or (pe_revL ha) (pe_revT ha)) fun σ H Q h => by
    obtain ⟨α, ρ, o, ρ', e, h, q⟩ := h
    obtain ⟨oa, sa, s, e1, e3, e5, rfl⟩ := den1_ok e
    cases sa with
    | ow w => cases e5
    | l xs =>
      refine .inl (rE.one e1 h fun va H1 h1 => ?_)
      obtain ⟨G, r⟩ := h1.get e3
      cases e5
      obtain ⟨p, vs, rfl, hp, r, _⟩ := r
      exact ⟨p, vs, rfl, .of hp, fun p2 n => q _ _ (.val ((h1.2.step (.lst n r.rev)).sub sub1))⟩
    | d x =>
      cases x with
      | list ds =>
        refine .inl (rE.one e1 h fun va H1 h1 => ?_)
        obtain ⟨G, r, _⟩ := h1.get e3
        cases r with
        | @lst a xs ds h2 h3 =>
          cases e5
          exact ⟨a, xs, rfl, h2.sq, fun p2 n => q _ _ (.val ((h1.2.step (.lst n h3.rev)).sub sub1))⟩
      | tuple ds =>
        refine .inr (rE.one e1 h fun va H1 h1 => ?_)
        obtain ⟨G, r, _⟩ := h1.get e3
        cases r with
        | @tupS a xs ds h2 h3 _ =>
          cases e5
          exact ⟨a, xs, rfl, h2, fun p2 n => q _ _ (.val ((h1.2.step (.tup n h3.rev)).sub sub1))⟩
      | _ => cases e5
end
end Dn

set_option Elab.async false
set_option linter.all false
set_option maxRecDepth 100000
set_option maxHeartbeats 4000000
/-! Dn, part H: calls, what is walked, comprehensions. -/
namespace Dn
open PySem PySem.Spec PyProof.Rows L2

/-! ### built-ins -/
def BF.nm : BF → Str
  | .len => "len" | .abs => "abs" | .min => "min" | .max => "max" | .sum => "sum" | .any => "any" | .all => "all" | .int => "int" | .tuple => "tuple" | .list => "list"
  | .sorted => "sorted" | .repr => "repr" | .str => "str" | .bool => "bool" | .lenset => "len" | .sortedset => "sorted" | .lrng => "list" | .trng => "tuple" | .dict => "dict"
theorem BF.boot (f : BF) : bootBuiltins f.nm = some f.py := by cases f <;> decide +kernel
theorem BF.nn (f : BF) : f.nm ≠ "__name__" := by cases f <;> decide
theorem BF.nd (f : BF) : (f.nm == ("__debug__" : Str)) = false := by cases f <;> decide
section
variable {X : Cx} {a b : Expr} {es : List Expr} {fa fb : Env → R (O × Env)} {p pos : Pos}
theorem pe_bf (f : BF) {r : List V → Hp → VK → Prop} {t : TA} (hc : CallR X f.py r) (hg : Gl X f.nm) (hm : X.mg f.nm = none) (ha : PA X (a :: es) t)
    (he : starEach (a :: es) X.env = (false, eval a X.env) :: starEach es X.env) (hpl : (backTo pos (starEach es X.env)).any (·.1) = false) : PE X (.Call (.Name f.nm p) (a :: es) [] pos) (tCB r t) := by
  have hv := f.boot
  have hn := f.nn
  have hd := f.nd
  cases f
  all_goals first
    | exact pe_callB hc hg hm hv ha hn hd he hpl
    | exact pe_callTy hc hg hm hv ha hn hd he hpl
theorem se_bf (f : BF) (hf : f.pl = true) (hcl : X.calm = true) (hu : X.A.units + 100 < cLine) (hg : Gl X f.nm) (hm : X.mg f.nm = none) (ha : PE X a (rE X.K fa))
    (he : starEach [a] X.env = [(false, eval a X.env)]) : PE X (.Call (.Name f.nm p) [a] [] pos) (rE X.K (den1 fa (opF f))) :=
  PE.weak (pe_bf f (call_F hcl hu f) hg hm (pa_cons ha pa_nil he) he rfl) fun σ H Q h => by
    obtain ⟨α, ρ, o, ρ', e, h, q⟩ := h
    obtain ⟨oa, sa, s, e1, e3, e5, rfl⟩ := den1_ok e
    refine rE.one e1 h fun va H1 h1 => ?_
    obtain ⟨Ga, r1⟩ := h1.get e3
    exact ok_F f hf H1 sa va Ga s Q r1 e5 fun v H3 t => q v H3 (.val ((h1.2.step t).sub sub1))
theorem se_bf2 (f : BF) (hcl : X.calm = true) (hg : Gl X f.nm) (hm : X.mg f.nm = none) (ha : PE X a (rE X.K fa)) (hb : PE X b (rE X.K fb))
    (he : starEach [a, b] X.env = (false, eval a X.env) :: starEach [b] X.env) (he2 : starEach [b] X.env = [(false, eval b X.env)]) : PE X (.Call (.Name f.nm p) [a, b] [] pos) (rE X.K (den2 fa fb (opF2 f))) :=
  PE.weak (pe_bf f (call_F2 hcl f) hg hm (pa_cons ha (pa_cons hb pa_nil he2) he) he (by rw [he2]; rfl)) fun σ H Q h => by
    obtain ⟨α, ρ, o, ρ', e, h, q⟩ := h
    obtain ⟨oa, ρ1, ob, sa, sb, s, e1, e2, e3, e4, e5, rfl⟩ := den2_ok e
    refine rE.two e1 e2 h fun va vb H2 k1 k2 h2 => ?_
    obtain ⟨Ga, r1⟩ := held h2 k1 (fun p m => List.mem_append_right _ (List.mem_append_left _ m)) e3
    obtain ⟨Gb, r2⟩ := held h2 k2 (fun p m => List.mem_append_left _ m) e4
    exact ok_F2 f H2 sa sb va vb Ga Gb s Q r1 r2 e5 fun v H3 t => q v H3 (.val ((h2.step t).sub sub2))
theorem se_lenset {p2 pq : Pos} (hcl : X.calm = true) (hg : Gl X "len") (hm : X.mg "len" = none) (hg2 : Gl X "set") (hm2 : X.mg "set" = none) (ha : PE X a (rE X.K fa))
    (he : starEach [a] X.env = (false, eval a X.env) :: starEach [] X.env) : PE X (.Call (.Name "len" p) [.Call (.Name "set" p2) [a] [] pq] [] pos) (rE X.K (den1 fa (opF .lenset))) :=
  PE.weak (pe_lenSet hg hm hg2 hm2 ha hcl he) (weak1 ok_lenset)
theorem se_repr (hg0 : X.A.guards = some []) (hu : X.A.units + 100 < cLine) (hg : Gl X "repr") (hm : X.mg "repr" = none) (ha : PE X a (rE X.K fa))
    (he : starEach [a] X.env = (false, eval a X.env) :: starEach [] X.env) : PE X (.Call (.Name "repr" p) [a] [] pos) (rE X.K (den1 fa (opF .repr))) :=
  PE.weak (pe_bf .repr (call_repr hg0 hu) hg hm (pa_cons ha pa_nil he) he rfl) fun σ H Q h => by
    obtain ⟨α, ρ, o, ρ', e, h, q⟩ := h
    obtain ⟨oa, sa, s, e1, e3, e5, rfl⟩ := den1_ok e
    refine rE.one e1 h fun va H1 h1 => ?_
    obtain ⟨Ga, r1⟩ := h1.get e3
    exact ok_repr H1 sa va Ga s Q r1 e5 fun v H3 t => q v H3 (.val ((h1.2.step t).sub sub1))
theorem se_sortset {p2 pq : Pos} (hcl : X.calm = true) (hu : X.A.units + 100 < cLine) (hg : Gl X "sorted") (hm : X.mg "sorted" = none) (hg2 : Gl X "set") (hm2 : X.mg "set" = none) (ha : PE X a (rE X.K fa))
    (he : starEach [a] X.env = (false, eval a X.env) :: starEach [] X.env) : PE X (.Call (.Name "sorted" p) [.Call (.Name "set" p2) [a] [] pq] [] pos) (rE X.K (den1 fa (opF .sortedset))) :=
  PE.weak (pe_sortSet hg hm hg2 hm2 ha hcl (by omega) he) (weak1 ok_sortset)
theorem rgV_rp {K : PySem.W.Frag} {H : Hp} (a b : Int) : RpAll K H (rngD a b) (rgV a b) := by
  unfold rngD rgV
  have : ∀ l : List Nat, RpAll K H (l.map fun i => PyData.int (a + (i : Nat))) (l.map fun i => V.int (a + (i : Nat))) := fun l => by
    induction l with
    | nil => exact .nil
    | cons x l ih => exact .cons (.int _) ih
  exact this _
theorem se_lrng {p2 pq : Pos} (hcl : X.calm = true) (hg : Gl X "list") (hm : X.mg "list" = none) (hg2 : Gl X "range") (hm2 : X.mg "range" = none) (ha : PE X a (rE X.K fa))
    (he : starEach [a] X.env = (false, eval a X.env) :: starEach [] X.env) : PE X (.Call (.Name "list" p) [.Call (.Name "range" p2) [a] [] pq] [] pos) (rE X.K (den1 fa (opF .lrng))) :=
  PE.weak (pe_listRg hcl hg hm (prg_1 hg2 hm2 ha he)) fun σ H Q h => by
    obtain ⟨α, ρ, o, ρ', e, h, q⟩ := h
    obtain ⟨oa, sa, s, e1, e3, e5, rfl⟩ := den1_ok e
    refine rE.one e1 h fun va H1 h1 => ?_
    obtain ⟨Ga, r1⟩ := h1.get e3
    cases sa with
    | ow w => cases e5
    | l xs => cases e5
    | d x =>
      cases x with
      | int n =>
        obtain ⟨⟨c1, c2⟩, rfl⟩ := if_ok e5
        unfold rngOk at c1
        simp only [Bool.and_eq_true, decide_eq_true_eq] at c1
        exact ⟨n, rs_int r1, ⟨by omega, by omega, by omega, by omega, by omega⟩, fun p n => q _ _ (.val ((h1.2.step (.lst n (rgV_rp _ _))).sub sub1))⟩
      | _ => cases e5
theorem se_trng {p2 pq : Pos} (hcl : X.calm = true) (hg : Gl X "tuple") (hm : X.mg "tuple" = none) (hg2 : Gl X "range") (hm2 : X.mg "range" = none) (ha : PE X a (rE X.K fa))
    (he : starEach [a] X.env = (false, eval a X.env) :: starEach [] X.env) : PE X (.Call (.Name "tuple" p) [.Call (.Name "range" p2) [a] [] pq] [] pos) (rE X.K (den1 fa (opF .trng))) :=
  PE.weak (pe_tupRg hcl hg hm (prg_1 hg2 hm2 ha he)) fun σ H Q h => by
    obtain ⟨α, ρ, o, ρ', e, h, q⟩ := h
    obtain ⟨oa, sa, s, e1, e3, e5, rfl⟩ := den1_ok e
    refine rE.one e1 h fun va H1 h1 => ?_
    obtain ⟨Ga, r1⟩ := h1.get e3
    cases sa with
    | ow w => cases e5
    | l xs => cases e5
    | d x =>
      cases x with
      | int n =>
        obtain ⟨⟨c1, c2⟩, rfl⟩ := if_ok e5
        unfold rngOk at c1
        simp only [Bool.and_eq_true, decide_eq_true_eq] at c1
        exact ⟨n, rs_int r1, ⟨by omega, by omega, by omega, by omega, by omega⟩, fun p n => q _ _ (.val ((h1.2.step (.tup n (rgV_rp _ _))).sub sub1))⟩
      | _ => cases e5
def Ty.nm : Ty → Str
  | .int => "int" | .bool => "bool" | .str => "str" | .tuple => "tuple" | .list => "list" | .dict => "dict"
theorem Ty.boot (f : Ty) : bootBuiltins f.nm = some (.type f.id) := by cases f <;> decide +kernel
theorem Ty.nn (f : Ty) : f.nm ≠ "__name__" := by cases f <;> decide
theorem Ty.nd (f : Ty) : (f.nm == ("__debug__" : Str)) = false := by cases f <;> decide
theorem se_isi (T : Ty) {p2 : Pos} (hg : Gl X "isinstance") (hm : X.mg "isinstance" = none) (hg2 : Gl X T.nm) (hm2 : X.mg T.nm = none) (ha : PE X a (rE X.K fa))
    (he : starEach [a, .Name T.nm p2] X.env = (false, eval a X.env) :: starEach [.Name T.nm p2] X.env) :
    PE X (.Call (.Name "isinstance" p) [a, .Name T.nm p2] [] pos) (rE X.K fun ρ => (do let (x, ρ) ← fa ρ; let s ← x.get ρ; let s ← noFn s; .ok (.val (.d (.bool (isiS T s))), ρ))) :=
  PE.weak (pe_callB call_isiZ hg hm (by decide +kernel) (pa_cons ha (pa_cons (pe_bltn (v := .ty T.id) hg2 hm2 T.boot rfl T.nn T.nd) pa_nil rfl) he) (by decide) (by decide) he rfl) fun σ H Q h => by
    obtain ⟨α, ρ, o, ρ', e, h, q⟩ := h
    obtain ⟨⟨oa, ρ1⟩, e1, e⟩ := bind_ok e
    obtain ⟨s, e2, e⟩ := bind_ok e
    obtain ⟨s', e3, e4⟩ := bind_ok e
    obtain ⟨rfl, hf⟩ := noFn_ok e3
    cases e4
    refine rE.one e1 h fun va H1 h1 => ?_
    obtain ⟨Ga, r1⟩ := h1.get e2
    obtain ⟨t, ty, k⟩ := ok_isi T hf r1
    exact ⟨va, .ty T.id, t, _, _, rfl, .ty _, ty, k, q _ _ (.val (h1.st.pure (.bl _)))⟩
end

/-! ### methods of texts -/
def TM.nm : TM → Str
  | .join => "join" | .split => "split" | .index => "index"
theorem mt_index0 {X : Cx} : MtR X "str.index" (fun x xs H Q => ∃ a b k, x = .str a ∧ xs = [.str b] ∧ Txt.index0 a b = some k ∧ Q (.int (k : Nat)) H) := by
  intro pins s σ H x xs v us Q I rx rs h
  obtain ⟨a, b, k, rfl, rfl, hk, hq⟩ := h
  obtain ⟨t, rfl⟩ := rx
  cases rs with
  | cons r1 rs =>
    cases rs
    obtain ⟨u, rfl⟩ := r1
    cases q : Builtin.Str.occurrences a b 0 a.length 1 with
    | nil => unfold Txt.index0 at hk; rw [q] at hk; cases hk
    | cons j rest =>
      unfold Txt.index0 at hk
      rw [q] at hk
      cases hk
      exact PySem.SC.index q ⟨.int (k : Nat), H, I.tok _, ⟨_, rfl⟩, hq⟩
theorem strsOf_eq : ∀ {ds : List D} {ys : List Str}, strsOf ds = .ok ys → ds = ys.map PyData.str
  | [], _, h => by cases h; rfl
  | .str z :: r, _, h => by
    obtain ⟨ns, e, h⟩ := bind_ok (show (strsOf r >>= fun ns => R.ok (z :: ns)) = _ from h)
    cases h
    rw [strsOf_eq e]; rfl
  | .none :: _, _, h => by cases h
  | .bool _ :: _, _, h => by cases h
  | .int _ :: _, _, h => by cases h
  | .list _ :: _, _, h => by cases h
  | .tuple _ :: _, _, h => by cases h
  | .dict _ :: _, _, h => by cases h
def rTM (K : PySem.W.Frag) : TM → V → List V → Hp → VK → Prop
  | .join => fun x xs H Q => ∃ a p, ∃ ys : List Str, x = .str a ∧ xs = [.ref p] ∧ (SqL K H p (ys.map V.str) ∨ SqT K H p (ys.map V.str)) ∧ (ys.map (·.length)).sum + ys.length * a.length ≤ 16777216 ∧ Q (.str (Txt.join a ys)) H
  | .split => fun x xs H Q => ∃ a b, x = .str a ∧ xs = [.str b] ∧ (b.length == 0) = false ∧ a.length + 2 ≤ sizeLine ∧ rNewStrs (Txt.split a b) H Q
  | .index => fun x xs H Q => ∃ a b k, x = .str a ∧ xs = [.str b] ∧ Txt.index0 a b = some k ∧ Q (.int (k : Nat)) H
theorem pe_tm {X : Cx} {o e : Expr} {apos pos : Pos} {to te : TE} (m : TM) (ho : PE X o to) (he : PE X e te) (hs : starEach [e] X.env = [(false, eval e X.env)]) (hbase : attributeBase o m.nm X.env (eval o X.env) = eval o X.env)
    (hline : (apos.endLine == pos.line) = true) : PE X (.Call (.Attribute o m.nm apos) [e] [] pos) (tM1 (rTM X.K m) to te) := by
  cases m with
  | join => exact pe_m1 PySem.F.slot_str_join PySem.F.type_str_join mt_join ho he hs hbase hline
  | split => exact pe_m1 PySem.F.slot_str_split PySem.F.type_str_split mt_split ho he hs hbase hline
  | index => exact pe_m1 PySem.F.slot_str_index PySem.F.type_str_index mt_index0 ho he hs hbase hline
theorem se_tm {X : Cx} {a b : Expr} {fa fb : Env → R (O × Env)} {apos pos : Pos} (m : TM) (ha : PE X a (rE X.K fa)) (hb : PE X b (rE X.K fb)) (hs : starEach [b] X.env = [(false, eval b X.env)]) (hbase : attributeBase a m.nm X.env (eval a X.env) = eval a X.env)
    (hline : (apos.endLine == pos.line) = true) : PE X (.Call (.Attribute a m.nm apos) [b] [] pos) (rE X.K fun ρ => (do let (x, ρ) ← fa ρ; let s0 ← x.get ρ; let z ← isT s0; let (y, ρ) ← fb ρ; let t ← y.get ρ; let r ← opT m z t; .ok (.val r, ρ))) :=
  PE.weak (pe_tm m ha hb hs hbase hline) fun σ H Q h => by
    obtain ⟨α, ρ, o, ρ', e, h, q⟩ := h
    obtain ⟨⟨oa, ρ1⟩, e1, e⟩ := bind_ok e
    obtain ⟨s0, e2, e⟩ := bind_ok e
    obtain ⟨z, e3, e⟩ := bind_ok e
    obtain ⟨⟨ob, ρ2⟩, e4, e⟩ := bind_ok e
    obtain ⟨t, e5, e⟩ := bind_ok e
    obtain ⟨r, e6, e⟩ := bind_ok e
    cases e
    have hz : s0 = .d (.str z) := by
      cases s0 with
      | d x => cases x <;> first | (cases e3; rfl) | cases e3
      | l xs => cases e3
      | ow w => cases e3
    subst hz
    refine rE.one e1 h fun va H1 h1 => ?_
    obtain ⟨G0, r0⟩ := h1.get e2
    have hva := rs_str r0
    refine ⟨⟨z, hva⟩, rE.one e4 h1.2 fun vb H2 h2 => ?_⟩
    obtain ⟨G1, r1⟩ := h2.get e5
    have fin : ∀ (s : SV) (v : V) (H3 : Hp), r = s → Step X.K H2 s v H3 → Q v H3 := fun s v H3 e7 st => by
      subst e7
      exact q v H3 (.val ((h2.2.step st).sub sub2))
    cases m with
    | join =>
      obtain ⟨ds, e7, e8⟩ := bind_ok (show (do let ds ← items t; let ys ← strsOf ds; if (ys.map fun (y : Str) => y.length).sum + ys.length * z.length ≤ 16777216 then R.ok (SV.d (.str (Txt.join z ys))) else .bad) = .ok r from by cases t <;> first | exact e6 | (rename_i x; cases x <;> exact e6))
      obtain ⟨ys, e9, e10⟩ := bind_ok e8
      obtain ⟨c, e11⟩ := if_ok e10
      obtain ⟨p, vs, rfl, sq, rr⟩ := items_seq r1 e7
      rw [strsOf_eq e9] at rr
      rw [RpAll.strs rr] at sq
      exact ⟨z, p, ys, hva, rfl, sq, c, fin _ _ _ e11.symm (.d (.str _))⟩
    | split =>
      cases t with
      | l xs => cases e6
      | ow w => cases e6
      | d x =>
        cases x with
        | str y =>
          obtain ⟨⟨c1, c2⟩, e11⟩ := if_ok (show (if (y.length == 0) = false ∧ z.length + 2 ≤ LIM then R.ok (SV.l ((Txt.split z y).map PyData.str)) else .bad) = .ok r from e6)
          rw [lim_eq] at c2
          exact ⟨z, y, hva, by rw [rs_str r1], c1, c2, fun p n => fin _ _ _ e11.symm (.lst n (rp_strs _ _ _))⟩
        | _ => cases e6
    | index =>
      cases t with
      | l xs => cases e6
      | ow w => cases e6
      | d x =>
        cases x with
        | str y =>
          have e7 : (match Txt.index0 z y with | some k => R.ok (SV.d (.int (k : Nat))) | none => .bad) = .ok r := e6
          cases hk : Txt.index0 z y with
          | none => rw [hk] at e7; cases e7
          | some k =>
            rw [hk] at e7
            cases e7
            exact ⟨z, y, k, hva, by rw [rs_str r1], hk, fin _ _ _ rfl (.d (.int _))⟩
        | _ => cases e6

/-! ### d.get -/
section
variable {X : Cx} {a k z : Expr} {fa fk fz : Env → R (O × Env)} {apos cpos : Pos}
theorem se_get1 (hu : X.A.units + 1 < cLine) (ha : PE X a (rE X.K fa)) (hk : PE X k (rE X.K fk)) (m : M1 X a "get" apos k cpos) :
    PE X (.Call (.Attribute a "get" apos) [k] [] cpos) (rE X.K fun ρ => (do let (o, ρ) ← fa ρ; let s0 ← o.get ρ; let _ ← s0.dic; let (p, ρ) ← fk ρ; let s ← o.get ρ; let x ← p.useD ρ; let v ← getD1 s x; .ok (.val (.d (v.getD .none)), ρ))) :=
  PE.weak (pe_dget1 hu ha hk m) fun σ H Q h => by
    obtain ⟨α, ρ, o, ρ', e, h, q⟩ := h
    obtain ⟨⟨oa, ρ1⟩, e1, e⟩ := bind_ok e
    obtain ⟨s0, e2, e⟩ := bind_ok e
    obtain ⟨d0, e3, e⟩ := bind_ok e
    obtain ⟨⟨ok, ρ2⟩, e4, e⟩ := bind_ok e
    obtain ⟨s, e5, e⟩ := bind_ok e
    obtain ⟨x, e6, e⟩ := bind_ok e
    obtain ⟨u, e7, e⟩ := bind_ok e
    cases e
    refine rE.one e1 h fun va H1 h1 => ?_
    obtain ⟨G0, r0⟩ := h1.get e2
    obtain ⟨p, rfl, d⟩ := dic_isD r0 e3
    refine ⟨p, rfl, d, rE.one e4 h1.2 fun vk H2 h2 => ?_⟩
    obtain ⟨G1, r1⟩ := held h2.2 h1.1 (fun p m => List.mem_append_right _ (List.mem_append_left _ m)) e5
    have rk := useD_rp h2.2 h2.1 (fun p m => List.mem_append_left _ m) e6
    obtain ⟨p', w, e8, g, rel⟩ := getD1_ok r1 rk e7
    cases e8
    exact ⟨w, g, q _ _ (.val ((h2.2.pure (rel.get .non)).sub sub2))⟩
theorem se_get2 (hu : X.A.units + 1 < cLine) (ha : PE X a (rE X.K fa)) (hk : PE X k (rE X.K fk)) (hz : PE X z (rE X.K fz)) (m : M2 X a "get" apos k z cpos) :
    PE X (.Call (.Attribute a "get" apos) [k, z] [] cpos) (rE X.K fun ρ => (do let (o, ρ) ← fa ρ; let s0 ← o.get ρ; let _ ← s0.dic; let (p, ρ) ← fk ρ; let (q, ρ) ← fz ρ; let s ← o.get ρ; let x ← p.useD ρ; let y ← q.useD ρ; let v ← getD1 s x; .ok (.val (.d (v.getD y)), ρ))) :=
  PE.weak (pe_dget2 hu ha hk hz m) fun σ H Q h => by
    obtain ⟨α, ρ, o, ρ', e, h, q⟩ := h
    obtain ⟨⟨oa, ρ1⟩, e1, e⟩ := bind_ok e
    obtain ⟨s0, e2, e⟩ := bind_ok e
    obtain ⟨d0, e3, e⟩ := bind_ok e
    obtain ⟨⟨ok, ρ2⟩, e4, e⟩ := bind_ok e
    obtain ⟨⟨oz, ρ3⟩, e9, e⟩ := bind_ok e
    obtain ⟨s, e5, e⟩ := bind_ok e
    obtain ⟨x, e6, e⟩ := bind_ok e
    obtain ⟨y, e10, e⟩ := bind_ok e
    obtain ⟨u, e7, e⟩ := bind_ok e
    cases e
    refine rE.one e1 h fun va H1 h1 => ?_
    obtain ⟨G0, r0⟩ := h1.get e2
    obtain ⟨p, rfl, d⟩ := dic_isD r0 e3
    refine ⟨p, rfl, d, rE.one e4 h1.2 fun vk H2 h2 => rE.one e9 h2.2 fun vz H3 h3 => ?_⟩
    obtain ⟨G1, r1⟩ := held h3.2 h1.1 (fun p m => List.mem_append_right _ (List.mem_append_right _ (List.mem_append_left _ m))) e5
    have rk := useD_rp h3.2 h2.1 (fun p m => List.mem_append_right _ (List.mem_append_left _ m)) e6
    have rz := useD_rp h3.2 h3.1 (fun p m => List.mem_append_left _ m) e10
    obtain ⟨p', w, e8, g, rel⟩ := getD1_ok r1 rk e7
    cases e8
    exact ⟨w, g, q _ _ (.val ((h3.2.pure (rel.get rz)).sub (List.Sublist.cons_cons _ ((List.sublist_append_right _ _).trans ((List.sublist_append_right _ _).trans (List.sublist_append_right _ _))))))⟩
end

/-! ### append, extend -/
section
variable {X : Cx} {y : Expr} {fe : Env → R (O × Env)} {p apos pos : Pos} {i : Nat} {x : Str}
theorem rdL_ok {ρ : Env} {xs : List D} (e : rdL ρ i = .ok xs) : ρ[i]? = some (some (.l xs)) := by
  unfold rdL at e
  split at e
  · next t h => cases e; exact h
  · cases e
theorem newL_ok {o : O} {ys : List D} (e : o.newL = .ok ys) : o = .val (.l ys) := by
  unfold O.newL at e
  split at e
  · cases e; rfl
  · cases e
theorem StR.lst {K : PySem.W.Frag} {H : Hp} {α : List (SV × V)} {ρ : Env} {σ : L2.St} {xs : List D} {v : V} (h : StR K H α ρ σ) (m : (SV.l xs, v) ∈ α ++ pick ρ σ) : ∃ p vs, v = .ref p ∧ H p = some (.lst vs) ∧ RpAll K H xs vs := by
  obtain ⟨F, o⟩ := h.ow
  exact o.rl m
/-- the slot's own list is changed in its place -/
theorem StR.mut {K : PySem.W.Frag} {H : Hp} {α : List (SV × V)} {ρ : Env} {σ : L2.St} {xs ys : List D} {p : Addr} {ws : List V} (h : StR K H α ρ σ) (e : ρ[i]? = some (some (.l xs))) (e2 : σ[i]? = some (some (.ref p)))
    (r : RpAll K H ys ws) : StR K (upd H p (.lst ws)) α (ρ.set i (some (.l ys))) σ := by
  have h1 := h.take e e2
  have hi : i < ρ.length := by
    rcases Nat.lt_or_ge i ρ.length with z | z
    · exact z
    · rw [List.getElem?_eq_none z] at e; cases e
  obtain ⟨F, o⟩ := h1.ow
  obtain ⟨F', o'⟩ := Ow.mut (ys := ys) (ws := ws) o r
  exact StR.back ⟨h1.len, h1.ok, F', o'⟩ hi e2
theorem se_app (hN : X.N[i]? = some x) (hv : Vis X.env.scope x) (hd : (x == ("__debug__" : Str)) = false) (hcd : (x == ("__classdict__" : Str)) = false) (hy : PE X y (rE X.K fe))
    (he : starEach [y] X.env = [(false, eval y X.env)]) (hl : (apos.endLine == pos.line) = true) :
    PE X (.Call (.Attribute (.Name x p) "append" apos) [y] [] pos) (rE X.K fun ρ => (do
      let _ ← rdL ρ i
      let (o, ρ) ← fe ρ
      let x ← o.useD ρ
      let xs ← rdL ρ i
      if xs.length < LIM then .ok (.val (.d .none), ρ.set i (some (.l (xs ++ [x])))) else .bad)) :=
  PE.weak (pe_bm PySem.F.plainAttrs_list PySem.F.slot_list_append PySem.F.type_list_append mt_append (pe_var hN hv hd hcd) (pa_cons hy pa_nil he) rfl (by rw [he]; rfl) hl he rfl) fun σ H Q h => by
    obtain ⟨α, ρ, o, ρ', e, h, q⟩ := h
    obtain ⟨xs0, e0, e⟩ := bind_ok e
    obtain ⟨⟨oe, ρ1⟩, e1, e⟩ := bind_ok e
    obtain ⟨d, e2, e⟩ := bind_ok e
    obtain ⟨xs, e3, e⟩ := bind_ok e
    obtain ⟨hlt, e⟩ := if_ok e
    cases e
    obtain ⟨v, ev, m⟩ := h.slot (rdL_ok e0)
    obtain ⟨p0, vs0, rfl, hp0, _⟩ := h.lst m
    refine ⟨.ref p0, ev, .inl ⟨rfl, _, .of hp0⟩, rE.one e1 h fun va H1 h1 => ?_⟩
    have h2 := h1.useD e2
    obtain ⟨v', ev', m'⟩ := h2.slot (rdL_ok e3)
    rw [ev] at ev'
    cases ev'
    obtain ⟨p1, vs, e4, hp, r⟩ := h2.lst m'
    cases e4
    obtain ⟨G, rx⟩ := h2.mem (List.mem_append_left _ (List.mem_cons_self ..))
    refine ⟨p0, vs, va, rfl, rfl, hp, by rw [← r.len, ← lim_eq]; exact hlt, q _ _ (.val ?_)⟩
    exact (h2.drop.mut (rdL_ok e3) ev (r.app (.one rx.1))).pure .non
theorem se_ext (hN : X.N[i]? = some x) (hv : Vis X.env.scope x) (hd : (x == ("__debug__" : Str)) = false) (hcd : (x == ("__classdict__" : Str)) = false) (hy : PE X y (rE X.K fe))
    (he : starEach [y] X.env = [(false, eval y X.env)]) (hl : (apos.endLine == pos.line) = true) :
    PE X (.Call (.Attribute (.Name x p) "extend" apos) [y] [] pos) (rE X.K fun ρ => (do
      let _ ← rdL ρ i
      let (o, ρ) ← fe ρ
      let ys ← o.newL
      let xs ← rdL ρ i
      if xs.length + ys.length ≤ LIM then .ok (.val (.d .none), ρ.set i (some (.l (xs ++ ys)))) else .bad)) :=
  PE.weak (pe_bm PySem.F.plainAttrs_list PySem.F.slot_list_extend PySem.F.type_list_extend mt_extend (pe_var hN hv hd hcd) (pa_cons hy pa_nil he) rfl (by rw [he]; rfl) hl he rfl) fun σ H Q h => by
    obtain ⟨α, ρ, o, ρ', e, h, q⟩ := h
    obtain ⟨xs0, e0, e⟩ := bind_ok e
    obtain ⟨⟨oe, ρ1⟩, e1, e⟩ := bind_ok e
    obtain ⟨ys, e2, e⟩ := bind_ok e
    obtain ⟨xs, e3, e⟩ := bind_ok e
    obtain ⟨hlt, e⟩ := if_ok e
    cases e
    cases newL_ok e2
    obtain ⟨v, ev, m⟩ := h.slot (rdL_ok e0)
    obtain ⟨p0, vs0, rfl, hp0, _⟩ := h.lst m
    refine ⟨.ref p0, ev, .inl ⟨rfl, _, .of hp0⟩, rE.one e1 h fun va H1 h1 => ?_⟩
    have h2 : StR X.K H1 ((.l ys, va) :: α) ρ1 σ := h1.2
    obtain ⟨v', ev', m'⟩ := h2.slot (rdL_ok e3)
    rw [ev] at ev'
    cases ev'
    obtain ⟨p1, vs, e4, hp, r⟩ := h2.lst m'
    cases e4
    obtain ⟨p2, ws, rfl, hp2, r2⟩ := h2.lst (List.mem_append_left _ (List.mem_cons_self ..))
    refine ⟨p0, p2, vs, ws, rfl, rfl, hp, hp2, by rw [← r.len, ← r2.len, ← lim_eq]; exact hlt, q _ _ (.val ?_)⟩
    exact (h2.drop.mut (rdL_ok e3) ev (r.app r2)).pure .non
end

/-! ### methods of lists -/
def Mth.nm : Mth → Str
  | .pop => "pop" | .insert => "insert" | .index => "index"
def rMth (K : PySem.W.Frag) : Mth → V → List V → Hp → VK → Prop
  | .pop => rPopAt
  | .insert => fun x vs H Q => ∃ (l : Addr) (xs : List V) (i : Int) (y : V), x = .ref l ∧ vs = [.int i, y] ∧ H l = some (.lst xs) ∧ xs.length < sizeLine ∧ 0 ≤ i ∧ i < 2 ^ 63 ∧ Q .non (upd H l (.lst (xs.take i.toNat ++ [y] ++ xs.drop i.toNat)))
  | .index => rIndexD K
section
variable {X : Cx} {o e : Expr} {es : List Expr} {to : TE} {t : TA} {apos cpos : Pos}
theorem pe_mth (m : Mth) (hu : X.A.units + 65 < cLine) (ho : PE X o to) (ha : PA X (e :: es) t)
    (hbase : attributeBase o m.nm X.env (eval o X.env) = eval o X.env)
    (hfew : ((backTo cpos (starEach (e :: es) X.env)).all (fun x => !x.1) && (backToKw cpos (keywordEach [] X.env)).all (fun x => x.1.isSome)
      && decide ((e :: es).length + ([] : List Keyword).length + (if ([] : List Keyword).isEmpty then 0 else 1) < 30)) = true)
    (hline : (apos.endLine == cpos.line) = true) (hs : starEach (e :: es) X.env = (false, eval e X.env) :: starEach es X.env) (hplain : (backTo cpos (starEach es X.env)).any (·.1) = false) :
    PE X (.Call (.Attribute o m.nm apos) (e :: es) [] cpos) (tBM X.K "list" (rMth X.K m) to t) := by
  cases m with
  | pop => exact pe_bm PySem.F.plainAttrs_list PySem.F.slot_list_pop PySem.F.type_list_pop mt_popAt ho ha hbase hfew hline hs hplain
  | insert => exact pe_bm PySem.F.plainAttrs_list PySem.F.slot_list_insert PySem.F.type_list_insert mt_insert ho ha hbase hfew hline hs hplain
  | index => exact pe_bm PySem.F.plainAttrs_list PySem.F.slot_list_index PySem.F.type_list_index (mt_indexD hu) ho ha hbase hfew hline hs hplain
theorem upd_id {H : Hp} {p : Addr} {o : HO} (h : H p = some o) : upd H p o = H := by
  funext c
  by_cases e : c = p
  · subst e; rw [upd_same, h]
  · rw [upd_ne e]
theorem ok_M {K : PySem.W.Frag} (m : Mth) {H : Hp} {p : Addr} {vs as : List V} {xs ds ys : List D} {r : D} {Q : VK} (hp : H p = some (.lst vs)) (hr : RpAll K H xs vs) (ha : RpAll K H ds as) (e : opM m xs ds = .ok (r, ys))
    (q : ∀ v ws, RpAll K H ys ws → Rp K H r v → Q v (upd H p (.lst ws))) : rMth K m (.ref p) as H Q := by
  cases m with
  | pop =>
    unfold opM at e
    split at e
    · next xs i hm =>
      split at e
      · cases e
      · next hb =>
        split at e
        · next k hk =>
          split at e
          · next y hy =>
            cases e
            obtain ⟨w, hw, rw_⟩ := hr.get hy
            cases ha with
            | cons r1 r2 =>
              cases r1
              cases r2
              have hb' : -(2 ^ 62) ≤ i ∧ i < 2 ^ 62 := Classical.byContradiction fun z => hb z
              obtain ⟨s1, s2, s3, s4⟩ := ixN_seq hk
              exact ⟨p, vs, i, k, w, rfl, rfl, hp, by omega, by omega, by rw [← hr.len]; exact s1, hw, q _ _ (hr.erase k) rw_⟩
          · cases e
        · cases e
    all_goals first
      | cases e
      | (next hm => cases hm)
  | insert =>
    unfold opM at e
    split at e
    all_goals try (next hm => cases hm; done)
    · next hm =>
      obtain ⟨⟨c1, c2, c3⟩, e⟩ := if_ok e
      cases e
      cases ha with
      | cons r1 r2 =>
        cases r1
        cases r2 with
        | cons r3 r4 =>
          cases r4
          exact ⟨p, vs, _, _, rfl, rfl, hp, by rw [← hr.len, ← lim_eq]; exact c3, c1, by omega, q _ _ (((hr.take _).app (.one r3)).app (hr.drop _)) .non⟩
    · cases e
  | index =>
    unfold opM at e
    split at e
    all_goals try (next hm => cases hm; done)
    · next xs _ _ _ x hm =>
      by_cases c : SeqAt.shaped (.list xs) = true ∧ SeqAt.shaped x = true
      · rw [if_pos c] at e
        split at e
        · next j hj =>
          cases e
          cases ha with
          | cons r1 r2 =>
            cases r2
            obtain ⟨hlt, h1, h2⟩ := List.findIdx?_eq_some_iff_getElem.mp hj
            have nd : noDs ys = true := by
              have := shaped_lay c.1
              simpa [noD] using this
            refine ⟨p, _, x, ys, j, ys[j], rfl, rfl, .lst (.of hp) (RpAll.dp _ _ nd hr), Rp.dp _ _ (shaped_lay c.2) r1, c.1, c.2, List.getElem?_eq_getElem hlt, h1, fun m z hm hz => ?_, ?_⟩
            · obtain ⟨hl2, e2⟩ := List.getElem?_eq_some_iff.mp hz
              have := h2 m hm
              rw [e2] at this
              simpa using this
            · have := q _ vs hr (.int _)
              rw [upd_id hp] at this
              exact this
        · cases e
      · rw [if_neg c] at e
        cases e
    · cases e
end
section
variable {X : Cx} {y : Expr} {ys : List Expr} {fs : Env → R (List O × Env)} {p apos pos : Pos} {i : Nat} {x : Str}
theorem se_mth (m : Mth) (hu : X.A.units + 65 < cLine) (hN : X.N[i]? = some x) (hv : Vis X.env.scope x) (hd : (x == ("__debug__" : Str)) = false) (hcd : (x == ("__classdict__" : Str)) = false) (hy : PA X (y :: ys) (rA X.K fs))
    (hfew : ((backTo pos (starEach (y :: ys) X.env)).all (fun x => !x.1) && (backToKw pos (keywordEach [] X.env)).all (fun x => x.1.isSome)
      && decide ((y :: ys).length + ([] : List Keyword).length + (if ([] : List Keyword).isEmpty then 0 else 1) < 30)) = true)
    (hl : (apos.endLine == pos.line) = true) (hs : starEach (y :: ys) X.env = (false, eval y X.env) :: starEach ys X.env) (hplain : (backTo pos (starEach ys X.env)).any (·.1) = false) :
    PE X (.Call (.Attribute (.Name x p) m.nm apos) (y :: ys) [] pos) (rE X.K fun ρ => (do
      let _ ← rdL ρ i
      let (os, ρ) ← fs ρ
      let ds ← useDs ρ os
      let xs ← rdL ρ i
      let (r, zs) ← opM m xs ds
      .ok (.val (.d r), ρ.set i (some (.l zs))))) :=
  PE.weak (pe_mth m hu (pe_var hN hv hd hcd) hy rfl hfew hl hs hplain) fun σ H Q h => by
    obtain ⟨α, ρ, o, ρ', e, h, q⟩ := h
    obtain ⟨xs0, e0, e⟩ := bind_ok e
    obtain ⟨⟨os, ρ1⟩, e1, e⟩ := bind_ok e
    obtain ⟨ds, e2, e⟩ := bind_ok e
    obtain ⟨xs, e3, e⟩ := bind_ok e
    obtain ⟨⟨r, zs⟩, e4, e⟩ := bind_ok e
    cases e
    obtain ⟨v, ev, m'⟩ := h.slot (rdL_ok e0)
    obtain ⟨p0, vs0, rfl, hp0, _⟩ := h.lst m'
    refine ⟨.ref p0, ev, .inl ⟨rfl, _, .of hp0⟩, α, ρ, os, ρ1, e1, h, fun as H1 h1 => ?_⟩
    have ra := useDs_rp h1.2 h1.1 (fun p m => List.mem_append_left _ m) e2
    obtain ⟨v', ev', m''⟩ := h1.2.slot (rdL_ok e3)
    rw [ev] at ev'
    cases ev'
    obtain ⟨p1, vs, e5, hp, rr⟩ := h1.2.lst m''
    cases e5
    refine ok_M m hp rr ra e4 fun v ws rw_ rv => q _ _ (.val ?_)
    have h3 := h1.2.dropL.mut (rdL_ok e3) ev rw_
    have mu : Mut (H1 p0) := by rw [hp]; trivial
    exact h3.pure (Rp.stay (.mut mu) _ _ rv)
end

/-! ### calls of the text's own defs -/
def backs : List (Option SV) → List V → List (SV × V)
  | some s :: as, v :: vs => (s, v) :: backs as vs
  | none :: as, _ :: vs => backs as vs
  | _, _ => []
def lend : List O → List SV → Env → Env
  | .var i :: os, s :: ss, ρ => if isOwn s = true then lend os ss (ρ.set i none) else lend os ss ρ
  | .val _ :: os, _ :: ss, ρ => lend os ss ρ
  | _, _, ρ => ρ
section
variable {K : PySem.W.Frag} {H : Hp} {σ : L2.St}
theorem gets_cons {ρ : Env} {o : O} {os : List O} {ss : List SV} (e : gets ρ (o :: os) = .ok ss) : ∃ s r, o.get ρ = .ok s ∧ gets ρ os = .ok r ∧ ss = s :: r := by
  obtain ⟨s, e1, e⟩ := bind_ok (show (o.get ρ >>= fun s => gets ρ os >>= fun r => R.ok (s :: r)) = .ok ss from e)
  obtain ⟨r, e2, e⟩ := bind_ok e
  cases e
  exact ⟨s, r, e1, e2, rfl⟩
theorem own1_mem {i : Nat} {s : SV} {ρ : Env} (hs : ρ[i]? = some (some s)) (ho : isOwn s = true) : ∀ {os : List O} {ss : List SV}, gets ρ os = .ok ss → O.var i ∈ os → i ∈ own1 os ss
  | [], _, _, m => by cases m
  | o :: os, ss, e, m => by
    obtain ⟨t, r, e1, e2, rfl⟩ := gets_cons e
    rcases List.mem_cons.mp m with z | z
    · subst z
      have := rd_ok e1
      rw [hs] at this
      cases this
      unfold own1
      rw [if_pos ho]
      exact List.mem_cons_self ..
    · have ih := own1_mem hs ho e2 z
      cases o with
      | val t' => exact ih
      | var j =>
        unfold own1
        split
        · exact List.mem_cons_of_mem _ ih
        · exact ih
theorem gets_set {i : Nat} {x : Option SV} {ρ : Env} : ∀ {os : List O} {ss : List SV}, O.var i ∉ os → gets ρ os = .ok ss → gets (ρ.set i x) os = .ok ss
  | [], _, _, e => e
  | o :: os, ss, n, e => by
    obtain ⟨t, r, e1, e2, rfl⟩ := gets_cons e
    rw [List.mem_cons, not_or] at n
    have e3 : o.get (ρ.set i x) = .ok t := by
      cases o with
      | val t' => exact e1
      | var j =>
        have hj : i ≠ j := fun z => n.1 (by rw [z])
        show rd (ρ.set i x) j = .ok t
        unfold rd
        rw [List.getElem?_set_ne hj]
        exact e1
    show (o.get (ρ.set i x) >>= fun s => gets (ρ.set i x) os >>= fun r => R.ok (s :: r)) = _
    rw [e3, ok_bind, gets_set n.2 e2]
    rfl
theorem lend_set {i : Nat} {x : Option SV} : ∀ {os : List O} {ss : List SV} {ρ : Env}, O.var i ∉ os → lend os ss (ρ.set i x) = (lend os ss ρ).set i x
  | [], _, _, _ => by unfold lend; rfl
  | .val t :: os, [], ρ, n => by unfold lend; rfl
  | .val t :: os, s :: ss, ρ, n => by
    rw [List.mem_cons, not_or] at n
    show lend os ss (ρ.set i x) = (lend os ss ρ).set i x
    exact lend_set n.2
  | .var j :: os, [], ρ, n => by unfold lend; rfl
  | .var j :: os, s :: ss, ρ, n => by
    rw [List.mem_cons, not_or] at n
    have hj : i ≠ j := fun z => n.1 (by rw [z])
    unfold lend
    split
    · rw [List.set_comm _ _ hj]
      exact lend_set n.2
    · exact lend_set n.2
theorem lt_of_get {ρ : Env} {i : Nat} {o : Option SV} (e : ρ[i]? = some o) : i < ρ.length := by
  rcases Nat.lt_or_ge i ρ.length with z | z
  · exact z
  · rw [List.getElem?_eq_none z] at e; cases e
theorem lend_ok : ∀ {os : List O} {vs : List V} {ss : List SV} {ρ : Env} {α : List (SV × V)}, gets ρ os = .ok ss → voks σ os vs → (own1 os ss).Nodup → StR K H (tmps os vs ++ α) ρ σ → StR K H (ss.zip vs ++ α) (lend os ss ρ) σ
  | [], [], ss, ρ, α, e, _, _, h => by cases e; exact h
  | [], _ :: _, _, _, _, _, k, _, _ => k.elim
  | _ :: _, [], _, _, _, _, k, _, _ => k.elim
  | o :: os, v :: vs, ss, ρ, α, e, k, nd, h => by
    obtain ⟨s, r, e1, e2, rfl⟩ := gets_cons e
    have h0 : StR K H (tmps os vs ++ (tmp o v ++ α)) ρ σ := by
      rw [← List.append_assoc]
      exact h
    show StR K H ((s, v) :: (r.zip vs ++ α)) _ σ
    cases o with
    | val t =>
      cases e1
      exact (lend_ok (α := (s, v) :: α) e2 k.2 nd h0).perm List.perm_middle
    | var i =>
      have hs := rd_ok e1
      unfold lend
      unfold own1 at nd
      split
      · next ho =>
        rw [if_pos ho] at nd
        obtain ⟨n1, n2⟩ := List.nodup_cons.mp nd
        have nv : O.var i ∉ os := fun z => n1 (own1_mem hs ho e2 z)
        have h1 : StR K H ((s, v) :: (tmps os vs ++ α)) (ρ.set i none) σ := h0.take hs k.1
        exact (lend_ok (α := (s, v) :: α) (gets_set nv e2) k.2 n2 (h1.perm List.perm_middle.symm)).perm List.perm_middle
      · next ho =>
        rw [if_neg ho] at nd
        cases s with
        | ow w => exact absurd rfl ho
        | l xs => exact absurd rfl ho
        | d x =>
          obtain ⟨G, rr⟩ := h0.mem (List.mem_append_right _ (pick_mem hs k.1))
          exact (lend_ok (α := (SV.d x, v) :: α) e2 k.2 nd ((h0.pure rr.1).perm List.perm_middle.symm)).perm List.perm_middle
theorem wb_ok : ∀ {os : List O} {vs : List V} {ss : List SV} {as : List (Option SV)} {ms : List PM} {ρ : Env} {α : List (SV × V)}, gets ρ os = .ok ss → voks σ os vs → (own1 os ss).Nodup → as.length = ss.length → ms.length = os.length →
    (∀ (j : Nat), ms[j]? = some .ro → as[j]? = (ss[j]?).map some) → StR K H (backs as vs ++ α) (lend os ss ρ) σ → StR K H α (wb ms os ss as ρ) σ
  | [], [], ss, as, ms, ρ, α, e, _, _, la, lm, _, h => by
    cases e
    cases as with
    | nil => cases ms with
      | nil => exact h
      | cons _ _ => simp at lm
    | cons _ _ => simp at la
  | [], _ :: _, _, _, _, _, _, _, k, _, _, _, _, _ => k.elim
  | _ :: _, [], _, _, _, _, _, _, k, _, _, _, _, _ => k.elim
  | o :: os, v :: vs, ss, as, ms, ρ, α, e, k, nd, la, lm, hro, h => by
    obtain ⟨s, r, e1, e2, rfl⟩ := gets_cons e
    cases as with
    | nil => simp at la
    | cons a as =>
      cases ms with
      | nil => simp at lm
      | cons m ms =>
        have la' : as.length = r.length := by simpa using la
        have lm' : ms.length = os.length := by simpa using lm
        have hro' : ∀ (j : Nat), ms[j]? = some .ro → as[j]? = (r[j]?).map some := fun j hj => by simpa using hro (j + 1) (by simpa using hj)
        have tailB : ∀ {ρ0 : Env}, StR K H (backs (a :: as) (v :: vs) ++ α) ρ0 σ → StR K H (backs as vs ++ α) ρ0 σ := fun h => by
          cases a with
          | none => exact h
          | some b => exact h.drop
        cases o with
        | val t =>
          have e3 : wb (m :: ms) (.val t :: os) (s :: r) (a :: as) ρ = wb ms os r as ρ := by cases hs : isOwn s <;> cases m <;> simp [wb]
          rw [e3]
          exact wb_ok e2 k.2 nd la' lm' hro' (tailB h)
        | var i =>
          have hs := rd_ok e1
          cases ho : isOwn s with
          | false =>
            have e3 : wb (m :: ms) (.var i :: os) (s :: r) (a :: as) ρ = wb ms os r as ρ := by cases m <;> simp [wb, ho]
            rw [e3]
            have hl : lend (.var i :: os) (s :: r) ρ = lend os r ρ := by rw [lend, if_neg (by rw [ho]; decide)]
            rw [hl] at h
            have nd' : (own1 os r).Nodup := by unfold own1 at nd; rw [if_neg (by rw [ho]; decide)] at nd; exact nd
            exact wb_ok e2 k.2 nd' la' lm' hro' (tailB h)
          | true =>
            have nd' : (i :: own1 os r).Nodup := by unfold own1 at nd; rw [if_pos ho] at nd; exact nd
            obtain ⟨n1, n2⟩ := List.nodup_cons.mp nd'
            have nv : O.var i ∉ os := fun z => n1 (own1_mem hs ho e2 z)
            have hl : lend (.var i :: os) (s :: r) ρ = lend os r (ρ.set i none) := by
              rw [lend, if_pos ho]
            rw [hl, lend_set nv] at h
            have ll : ∀ (os : List O) (ss : List SV) (ρ : Env), (lend os ss ρ).length = ρ.length := fun os => by
              induction os with
              | nil => intro ss ρ; unfold lend; rfl
              | cons o os ih =>
                intro ss ρ
                cases ss with
                | nil => cases o <;> (unfold lend; rfl)
                | cons t ss =>
                  cases o with
                  | val t' => show (lend os ss ρ).length = _; exact ih ss ρ
                  | var j =>
                    unfold lend
                    split
                    · rw [ih, List.length_set]
                    · exact ih ss ρ
            have hi : i < (lend os r ρ).length := by rw [ll]; exact lt_of_get hs
            -- laid back, with whatever became of it
            have back : ∀ {b : SV}, a = some b → StR K H (backs as vs ++ α) (lend os r (ρ.set i (some b))) σ := fun {b} ea => by
              subst ea
              rw [lend_set nv]
              exact StR.back h hi k.1
            cases m with
            | ro =>
              have ea : a = some s := by simpa using hro 0 rfl
              have e3 : wb (.ro :: ms) (.var i :: os) (s :: r) (a :: as) ρ = wb ms os r as ρ := by simp [wb, ho]
              rw [e3]
              have hb := back ea
              have es : ρ.set i (some s) = ρ := by
                have hlt := lt_of_get hs
                rw [List.getElem?_eq_getElem hlt] at hs
                rw [← Option.some.inj hs, List.set_getElem_self]
              rw [es] at hb
              exact wb_ok e2 k.2 n2 la' lm' hro' hb
            | rw =>
              have e3 : wb (.rw :: ms) (.var i :: os) (s :: r) (a :: as) ρ = wb ms os r as (ρ.set i a) := by simp [wb, ho]
              rw [e3]
              refine wb_ok (gets_set nv e2) k.2 n2 la' lm' hro' ?_
              cases a with
              | some b => exact back rfl
              | none => rw [lend_set nv]; exact h
            | pu =>
              have e3 : wb (.pu :: ms) (.var i :: os) (s :: r) (a :: as) ρ = wb ms os r as (ρ.set i none) := by simp [wb, ho]
              rw [e3]
              refine wb_ok (gets_set nv e2) k.2 n2 la' lm' hro' ?_
              rw [lend_set nv]
              exact tailB h
end
/-- a def's promise, by its meaning -/
def spF (K : PySem.W.Frag) (fn : List SV → R (SV × List (Option SV))) : Sp := fun vs H Q _ => ∃ (ss : List SV) (L : List (SV × V)) (r : SV) (as : List (Option SV)), fn ss = .ok (r, as) ∧ ss.length = vs.length ∧
  (∃ F, Ow K H (ss.zip vs ++ L) F) ∧ ∀ v H', (∃ F, Ow K H' ((r, v) :: (backs as vs ++ L)) F) → Q v H'
theorem voks_len {σ : L2.St} : ∀ {os : List O} {vs : List V}, voks σ os vs → os.length = vs.length
  | [], [], _ => rfl
  | [], _ :: _, k => k.elim
  | _ :: _, [], k => k.elim
  | _ :: _, _ :: _, k => congrArg Nat.succ (voks_len k.2)
theorem gets_len {ρ : Env} : ∀ {os : List O} {ss : List SV}, gets ρ os = .ok ss → ss.length = os.length
  | [], _, e => by cases e; rfl
  | o :: os, ss, e => by
    obtain ⟨s, r, _, e2, rfl⟩ := gets_cons e
    exact congrArg Nat.succ (gets_len e2)
def dCall (fn : List SV → R (SV × List (Option SV))) (ms : List PM) (fs : Env → R (List O × Env)) : Env → R (O × Env) := fun ρ => (do
    let (os, ρ) ← fs ρ
    let ss ← gets ρ os
    if (own1 os ss).Nodup ∧ ms.length = os.length then (do
      let (r, as) ← fn ss
      .ok (.val r, wb ms os ss as ρ))
    else .bad)
theorem se_call {X : Cx} {f : Addr} {fd : FuncData} {ps : List Str} {x : Str} {k : Nat} {p pos : Pos} {e : Expr} {es : List Expr} {fn : List SV → R (SV × List (Option SV))} {ms : List PM} {fs : Env → R (List O × Env)}
    (F : FnOk X.prog X.w X.K X.mg X.base CX0 k f fd ps (spF X.K fn)) (hr : Room k X.A) (hg : Gl X x) (hm : X.mg x = some (.ref f)) (hk : PySem.W.keepIn X.K (.ref f) = true) (hb : Binds X.K fd ps [])
    (hro : ∀ ss r as, fn ss = .ok (r, as) → as.length = ss.length ∧ ∀ (j : Nat), ms[j]? = some .ro → as[j]? = (ss[j]?).map some)
    (ha : PA X (e :: es) (rA X.K fs)) (hdb : (x == ("__debug__" : Str)) = false) (he : starEach (e :: es) X.env = (false, eval e X.env) :: starEach es X.env) (hpl : (backTo pos (starEach es X.env)).any (·.1) = false) :
    PE X (.Call (.Name x p) (e :: es) [] pos) (rE X.K (dCall fn ms fs)) :=
  PE.weak (pe_call F hr hg hm hk hb .nil pass0 ha hdb he hpl) fun σ H Q h => by
    obtain ⟨α, ρ, o, ρ', e, h, q⟩ := h
    obtain ⟨⟨os, ρ1⟩, e1, e⟩ := bind_ok e
    obtain ⟨ss, e2, e⟩ := bind_ok e
    obtain ⟨⟨nd, lm⟩, e⟩ : ((own1 os ss).Nodup ∧ ms.length = os.length) ∧ (fn ss >>= fun p => R.ok (O.val p.1, wb ms os ss p.2 ρ1)) = .ok (o, ρ') := by
      by_cases c : (own1 os ss).Nodup ∧ ms.length = os.length
      · have e' : (if (own1 os ss).Nodup ∧ ms.length = os.length then (fn ss >>= fun p => R.ok (O.val p.1, wb ms os ss p.2 ρ1)) else .bad) = .ok (o, ρ') := e
        rw [if_pos c] at e'
        exact ⟨c, e'⟩
      · have e' : (if (own1 os ss).Nodup ∧ ms.length = os.length then (fn ss >>= fun p => R.ok (O.val p.1, wb ms os ss p.2 ρ1)) else .bad) = .ok (o, ρ') := e
        rw [if_neg c] at e'
        cases e'
    obtain ⟨⟨r, as⟩, e3, e⟩ := bind_ok e
    cases e
    refine ⟨α, ρ, os, ρ1, e1, h, fun vs H1 h1 => ?_⟩
    have h2 := lend_ok e2 h1.1 nd h1.2
    obtain ⟨F2, o2⟩ := h2.ow
    obtain ⟨la, hro⟩ := hro ss r as e3
    show spF X.K fn (vs ++ []) H1 Q _
    rw [List.append_nil]
    refine ⟨ss, α ++ pick (lend os ss ρ1) σ, r, as, e3, (gets_len e2).trans (voks_len h1.1), ⟨F2, by rw [← List.append_assoc]; exact o2⟩, fun v H' ⟨F3, o3⟩ => q v H' (.val ?_)⟩
    refine wb_ok e2 h1.1 nd la lm hro ⟨h2.len, h2.ok, F3, o3.perm ?_⟩
    have : ((r, v) :: (backs as vs ++ (α ++ pick (lend os ss ρ1) σ))).Perm (backs as vs ++ ((r, v) :: (α ++ pick (lend os ss ρ1) σ))) := List.perm_middle.symm
    simpa [List.append_assoc] using this

theorem ow_datas {K : PySem.W.Frag} {H : Hp} {L : List (SV × V)} {F : Addr → Prop} (h : Ow K H L F) : ∀ {ds : List D} {vs : List V}, RpAll K H ds vs → Ow K H ((ds.map SV.d).zip vs ++ L) F
  | _, _, .nil => h
  | _, _, .cons r t => Ow.pure r (ow_datas h t)
/-- a call of what a slot holds: a def by its name -/
theorem se_callv {X : Cx} {x : Str} {k i : Nat} {p pos : Pos} {e : Expr} {es : List Expr} {cs : List Str} {Γ : Gl0} {fs : Env → R (List O × Env)}
    (hN : X.N[i]? = some x) (hv : Vis X.env.scope x) (hr : Room k X.A)
    (F : ∀ c, cs.contains c = true → ∃ (fd : FuncData) (ps : List Str), FnOk X.prog X.w X.K X.mg X.base CX0 k (He.ga X.K c) fd ps (spF X.K (Γ.fn c)) ∧ PySem.W.keepIn X.K (.ref (He.ga X.K c)) = true ∧ Binds X.K fd ps [])
    (inj : ∀ c c', cs.contains c = true → cs.contains c' = true → He.ga X.K c = He.ga X.K c' → c = c')
    (ha : PA X (e :: es) (rA X.K fs)) (hdb : (x == ("__debug__" : Str)) = false) (hcd : (x == ("__classdict__" : Str)) = false) (he : starEach (e :: es) X.env = (false, eval e X.env) :: starEach es X.env) (hpl : (backTo pos (starEach es X.env)).any (·.1) = false) :
    PE X (.Call (.Name x p) (e :: es) [] pos) (rE X.K fun ρ => (do let s ← rd ρ i; let c ← isFn s; let (os, ρ) ← fs ρ; let ds ← useDs ρ os; if cs.contains c = true then (do let (r, _) ← Γ.fn c (ds.map .d); .ok (.val r, ρ)) else .bad)) :=
  PE.weak (pe_callA (S := fun f => (cs.find? fun c => He.ga X.K c == f).map fun c => spF X.K (Γ.fn c)) (k := k) (fun f sp e => by
    cases q : cs.find? fun c => He.ga X.K c == f with
    | none => rw [q] at e; cases e
    | some c =>
      rw [q] at e
      cases e
      have hm : c ∈ cs := List.mem_of_find?_eq_some q
      have hf : He.ga X.K c = f := by
        have := List.find?_some q
        exact eq_of_beq this
      obtain ⟨fd, ps, h1, h2, h3⟩ := F c (List.contains_iff_mem.mpr hm)
      exact ⟨fd, ps, hf ▸ h1, hf ▸ h2, h3⟩) hr hN hv ha hdb hcd he hpl) fun σ H Q h => by
    obtain ⟨α, ρ, o, ρ', e, h, q⟩ := h
    obtain ⟨s, e1, e⟩ := bind_ok e
    obtain ⟨c, e2, e⟩ := bind_ok e
    obtain ⟨⟨os, ρ1⟩, e3, e⟩ := bind_ok e
    obtain ⟨ds, e4, e⟩ := bind_ok e
    have e' : (if cs.contains c = true then (Γ.fn c (ds.map .d) >>= fun p => R.ok (O.val p.1, ρ1)) else .bad) = .ok (o, ρ') := e
    by_cases hc : cs.contains c = true
    case neg => rw [if_neg hc] at e'; cases e'
    rw [if_pos hc] at e'
    obtain ⟨⟨r, as⟩, e5, e'⟩ := bind_ok e'
    cases e'
    have hs : s = .ow (.fn c) := by
      cases s with
      | ow w => cases w <;> first | (cases e2; rfl) | cases e2
      | _ => cases e2
    subst hs
    obtain ⟨v, e6, m⟩ := h.slot (rd_ok e1)
    obtain ⟨G, hv, _⟩ := h.mem m
    subst hv
    have hS : (cs.find? fun z => He.ga X.K z == He.ga X.K c) = some c := by
      cases q : cs.find? fun z => He.ga X.K z == He.ga X.K c with
      | none =>
        have := List.find?_eq_none.mp q c (List.contains_iff_mem.mp hc)
        simp at this
      | some z =>
        have h1 : z ∈ cs := List.mem_of_find?_eq_some q
        have h2 : He.ga X.K z = He.ga X.K c := by
          have := List.find?_some q
          exact eq_of_beq this
        rw [inj z c (List.contains_iff_mem.mpr h1) hc h2]
    refine ⟨_, spF X.K (Γ.fn c), e6, congrArg (Option.map fun c => spF X.K (Γ.fn c)) hS, α, ρ, os, ρ', e3, h, fun vs H1 h1 => ?_⟩
    have rr := useDs_rp h1.2 h1.1 (fun p m => List.mem_append_left _ m) e4
    obtain ⟨F2, o2⟩ := h1.2.ow
    refine ⟨ds.map SV.d, (tmps os vs ++ α) ++ pick ρ' σ, r, as, e5, by rw [List.length_map]; exact rr.len, ⟨F2, ow_datas o2 rr⟩, fun v H' ⟨F3, o3⟩ => q v H' (.val ?_)⟩
    obtain ⟨F4, o4, _⟩ := o3.sub (L' := (r, v) :: (α ++ pick ρ' σ)) (List.Sublist.cons_cons _ (by
      rw [List.append_assoc]
      exact (List.sublist_append_right (tmps os vs) _).trans (List.sublist_append_right (backs as vs) _)))
    exact ⟨h1.2.len, h1.2.ok, F4, o4⟩

/-! ### what is walked -/
structure WOk (K : PySem.W.Frag) (J : L2.It) (ds : List D) (P : Hp → Prop) : Prop where
  go : ∀ i H, i < ds.length → P H → J.go i H
  stop : ∀ H, P H → J.stop ds.length H
  yld : ∀ i H x H', i < ds.length → P H → J.yld i H x H' → ∃ d, ds[i]? = some d ∧ Step K H (.d d) x H'
def rI (K : PySem.W.Frag) (vs : List Nat) (f : Env → R (List D × Env)) : TI := fun σ H Rr => ∃ α ρ ds ρ', f ρ = .ok (ds, ρ') ∧ StR K H α ρ σ ∧
  ∀ J H' α' (P : Hp → Prop), StR K H' (α' ++ α) ρ' σ → WOk K J ds P →
    (∀ H'' β ρ'' σ'', StR K H'' (α' ++ β) ρ'' σ'' → (∀ i, i ∈ vs → ρ''[i]? = ρ'[i]? ∧ σ''[i]? = σ[i]?) → P H'') → Rr J H'
def AtL (K : PySem.W.Frag) (a : Addr) (ds : List D) (H : Hp) : Prop := ∃ vs, SqL K H a vs ∧ RpAll K H ds vs
def AtT (K : PySem.W.Frag) (a : Addr) (ds : List D) (H : Hp) : Prop := ∃ vs, SqT K H a vs ∧ RpAll K H ds vs
section
variable {K : PySem.W.Frag} {a b : Addr} {ds es : List D}
theorem get_lt {α : Type} {xs : List α} {i : Nat} (h : i < xs.length) : ∃ x, xs[i]? = some x := ⟨_, List.getElem?_eq_getElem h⟩
theorem wok_list : WOk K (Itl K a) ds (AtL K a ds) where
  go := fun i H hi ⟨vs, s, r⟩ => by
    obtain ⟨v, hv⟩ := get_lt (show i < vs.length by rw [← r.len]; exact hi)
    exact ⟨vs, v, s, hv⟩
  stop := fun H ⟨vs, s, r⟩ => ⟨vs, s, by rw [r.len]; exact Nat.le_refl _⟩
  yld := fun i H x H' hi ⟨vs, s, r⟩ y => by
    obtain ⟨e, y⟩ := y
    subst e
    obtain ⟨d, h1, h2⟩ := r.getV (y vs s)
    exact ⟨d, h1, .d h2⟩
theorem wok_tup : WOk K (Itt K a) ds (AtT K a ds) where
  go := fun i H hi ⟨vs, s, r⟩ => by
    obtain ⟨v, hv⟩ := get_lt (show i < vs.length by rw [← r.len]; exact hi)
    exact ⟨vs, v, s, hv⟩
  stop := fun H ⟨vs, s, r⟩ => ⟨vs, s, by rw [r.len]; exact Nat.le_refl _⟩
  yld := fun i H x H' hi ⟨vs, s, r⟩ y => by
    obtain ⟨e, y⟩ := y
    subst e
    obtain ⟨d, h1, h2⟩ := r.getV (y vs s)
    exact ⟨d, h1, .d h2⟩
theorem rngD_get {lo hi : Int} {i : Nat} (h : i < (hi - lo).toNat) : (rngD lo hi)[i]? = some (.int (lo + (i : Nat))) := by
  unfold rngD
  rw [List.getElem?_map, List.getElem?_range h]
  rfl
theorem rngD_len {lo hi : Int} : (rngD lo hi).length = (hi - lo).toNat := by unfold rngD; simp
theorem wok_rng {lo hi : Int} {n : Nat} (hn : n = (hi - lo).toNat) : WOk K (Itr lo n) (rngD lo hi) (fun _ => True) where
  go := fun i H h _ => by rw [rngD_len, ← hn] at h; exact h
  stop := fun H _ => by rw [rngD_len, ← hn]; exact Nat.le_refl _
  yld := fun i H x H' h _ y => by
    obtain ⟨e1, e2⟩ := y
    subst e1 e2
    rw [rngD_len] at h
    exact ⟨_, rngD_get h, .d (.int _)⟩
theorem enumD_get : ∀ {ds : List D} {k i : Nat} {d : D}, ds[i]? = some d → (enumD k ds)[i]? = some (.tuple [.int ((k + i : Nat) : Int), d])
  | [], _, _, _, h => by simp at h
  | x :: ds, k, 0, d, h => by simp at h; subst h; simp [enumD]
  | x :: ds, k, i + 1, d, h => by
    have := enumD_get (ds := ds) (k := k + 1) (i := i) (d := d) (by simpa using h)
    rw [show k + 1 + i = k + (i + 1) by omega] at this
    simpa [enumD] using this
theorem enumD_len : ∀ {ds : List D} {k : Nat}, (enumD k ds).length = ds.length
  | [], _ => rfl
  | _ :: ds, k => congrArg Nat.succ (enumD_len (ds := ds) (k := k + 1))
theorem wok_enumL : WOk K (Ite K a) (enumD 0 ds) (AtL K a ds) where
  go := fun i H hi ⟨vs, s, r⟩ => by
    rw [enumD_len] at hi
    obtain ⟨v, hv⟩ := get_lt (show i < vs.length by rw [← r.len]; exact hi)
    exact ⟨vs, v, s, hv⟩
  stop := fun H ⟨vs, s, r⟩ => ⟨vs, s, by rw [enumD_len, r.len]; exact Nat.le_refl _⟩
  yld := fun i H x H' hi ⟨vs, s, r⟩ y => by
    obtain ⟨T, v, rfl, n, rfl, y⟩ := y
    obtain ⟨d, h1, h2⟩ := r.getV (y vs s)
    have h3 := enumD_get (k := 0) h1
    rw [Nat.zero_add] at h3
    exact ⟨_, h3, .tup n (.cons (.int _) (.one h2))⟩
theorem wok_enumT : WOk K (IteT K a) (enumD 0 ds) (AtT K a ds) where
  go := fun i H hi ⟨vs, s, r⟩ => by
    rw [enumD_len] at hi
    obtain ⟨v, hv⟩ := get_lt (show i < vs.length by rw [← r.len]; exact hi)
    exact ⟨vs, v, s, hv⟩
  stop := fun H ⟨vs, s, r⟩ => ⟨vs, s, by rw [enumD_len]; exact r.len⟩
  yld := fun i H x H' hi ⟨vs, s, r⟩ y => by
    obtain ⟨T, v, rfl, n, rfl, y⟩ := y
    obtain ⟨d, h1, h2⟩ := r.getV (y vs s)
    have h3 := enumD_get (k := 0) h1
    rw [Nat.zero_add] at h3
    exact ⟨_, h3, .tup n (.cons (.int _) (.one h2))⟩
theorem zipD_get : ∀ {ds es : List D} {i : Nat} {d e : D}, ds[i]? = some d → es[i]? = some e → (zipD ds es)[i]? = some (.tuple [d, e])
  | [], _, _, _, _, h, _ => by simp at h
  | _ :: _, [], _, _, _, _, h => by simp at h
  | x :: ds, y :: es, 0, d, e, h, h' => by simp at h h'; subst h h'; simp [zipD]
  | x :: ds, y :: es, i + 1, d, e, h, h' => by
    have := zipD_get (ds := ds) (es := es) (i := i) (d := d) (e := e) (by simpa using h) (by simpa using h')
    simpa [zipD] using this
theorem zipD_len : ∀ {ds es : List D}, (zipD ds es).length = min ds.length es.length
  | [], _ => by simp [zipD]
  | _ :: _, [] => by simp [zipD]
  | _ :: ds, _ :: es => by simp [zipD, zipD_len (ds := ds) (es := es)]
theorem wok_zipL : WOk K (Itz K a b) (zipD ds es) (fun H => AtL K a ds H ∧ AtL K b es H) where
  go := fun i H hi ⟨⟨vs, s, r⟩, ⟨ws, s2, r2⟩⟩ => by
    rw [zipD_len] at hi
    obtain ⟨v, hv⟩ := get_lt (show i < vs.length by rw [← r.len]; omega)
    obtain ⟨u, hu⟩ := get_lt (show i < ws.length by rw [← r2.len]; omega)
    exact ⟨vs, ws, v, u, s, s2, hv, hu⟩
  stop := fun H ⟨⟨vs, s, r⟩, ⟨ws, s2, r2⟩⟩ => ⟨vs, ws, s, s2, by rw [zipD_len, r.len, r2.len]; omega⟩
  yld := fun i H x H' hi ⟨⟨vs, s, r⟩, ⟨ws, s2, r2⟩⟩ y => by
    obtain ⟨T, v, u, rfl, n, rfl, y, y2⟩ := y
    obtain ⟨d, h1, h2⟩ := r.getV (y vs s)
    obtain ⟨e, h3, h4⟩ := r2.getV (y2 ws s2)
    exact ⟨_, zipD_get h1 h3, .tup n (.cons h2 (.one h4))⟩
theorem wok_zipT : WOk K (RZ.ItzT K a b) (zipD ds es) (fun H => AtT K a ds H ∧ AtT K b es H) where
  go := fun i H hi ⟨⟨vs, s, r⟩, ⟨ws, s2, r2⟩⟩ => by
    rw [zipD_len] at hi
    obtain ⟨v, hv⟩ := get_lt (show i < vs.length by rw [← r.len]; omega)
    obtain ⟨u, hu⟩ := get_lt (show i < ws.length by rw [← r2.len]; omega)
    exact ⟨vs, ws, v, u, s, s2, hv, hu⟩
  stop := fun H ⟨⟨vs, s, r⟩, ⟨ws, s2, r2⟩⟩ => ⟨vs, ws, s, s2, by rw [zipD_len, r.len, r2.len]; omega⟩
  yld := fun i H x H' hi ⟨⟨vs, s, r⟩, ⟨ws, s2, r2⟩⟩ y => by
    obtain ⟨T, v, u, rfl, n, rfl, y, y2⟩ := y
    obtain ⟨d, h1, h2⟩ := r.getV (y vs s)
    obtain ⟨e, h3, h4⟩ := r2.getV (y2 ws s2)
    exact ⟨_, zipD_get h1 h3, .tup n (.cons h2 (.one h4))⟩
def AtB (t : Bool) (K : PySem.W.Frag) (a : Addr) (ds : List D) (H : Hp) : Prop := ∃ vs, SqB t K H a vs ∧ RpAll K H ds vs
theorem wok_zipB {t u : Bool} : WOk K (ItzB t u K a b) (zipD ds es) (fun H => AtB t K a ds H ∧ AtB u K b es H) where
  go := fun i H hi ⟨⟨vs, s, r⟩, ⟨ws, s2, r2⟩⟩ => by
    rw [zipD_len] at hi
    obtain ⟨v, hv⟩ := get_lt (show i < vs.length by rw [← r.len]; omega)
    obtain ⟨u, hu⟩ := get_lt (show i < ws.length by rw [← r2.len]; omega)
    exact ⟨vs, ws, v, u, s, s2, hv, hu⟩
  stop := fun H ⟨⟨vs, s, r⟩, ⟨ws, s2, r2⟩⟩ => ⟨vs, ws, s, s2, by rw [zipD_len, r.len, r2.len]; omega, by rw [zipD_len, r.len, r2.len]; omega, by rw [zipD_len, r.len, r2.len]; omega⟩
  yld := fun i H x H' hi ⟨⟨vs, s, r⟩, ⟨ws, s2, r2⟩⟩ y => by
    obtain ⟨T, v, u, rfl, n, rfl, y, y2⟩ := y
    obtain ⟨d, h1, h2⟩ := r.getV (y vs s)
    obtain ⟨e, h3, h4⟩ := r2.getV (y2 ws s2)
    exact ⟨_, zipD_get h1 h3, .tup n (.cons h2 (.one h4))⟩
theorem seqB_at {s : SV} {v : V} {H : Hp} {G : Addr → Prop} {ds : List D} (h : RS K H s v G) (e : items s = .ok ds) : ∃ p, v = .ref p ∧ AtB (isTup s) K p ds H := by
  cases s with
  | ow w => cases e
  | l xs =>
    obtain ⟨p, vs, e1, e2, r, _⟩ := h
    cases e
    exact ⟨p, e1, vs, .of e2, r⟩
  | d x =>
    obtain ⟨h, _⟩ := h
    cases h with
    | @lst a xs ds' h1 h2 => cases e; exact ⟨a, rfl, xs, h1.sq, h2⟩
    | @tupS a xs ds' h1 h2 _ => cases e; exact ⟨a, rfl, xs, h1, h2⟩
    | _ => cases e
/-- where a sequence stands, told of a value -/
theorem seq_at {s : SV} {v : V} {H : Hp} {G : Addr → Prop} {ds : List D} (h : RS K H s v G) (e : items s = .ok ds) : ∃ p, v = .ref p ∧ ((isTup s = false ∧ AtL K p ds H) ∨ (isTup s = true ∧ AtT K p ds H)) := by
  cases s with
  | ow w => cases e
  | l xs =>
    obtain ⟨p, vs, e1, e2, r, _⟩ := h
    cases e
    exact ⟨p, e1, .inl ⟨rfl, vs, .of e2, r⟩⟩
  | d x =>
    obtain ⟨h, _⟩ := h
    cases h with
    | @lst a xs ds' h1 h2 => cases e; exact ⟨a, rfl, .inl ⟨rfl, xs, h1.sq, h2⟩⟩
    | @tupS a xs ds' h1 h2 _ => cases e; exact ⟨a, rfl, .inr ⟨rfl, xs, h1, h2⟩⟩
    | _ => cases e
/-- an operand stays what it is while its slot does -/
theorem pers {o : O} {v : V} {s : SV} {ρ' : Env} {σ : L2.St} {vs : List Nat} (e : o.get ρ' = .ok s) (k : vok σ o v) (hv : ∀ i, o = .var i → i ∈ vs) {H'' : Hp} {β : List (SV × V)} {ρ'' : Env} {σ'' : L2.St} (h : StR K H'' β ρ'' σ'')
    (m : ∀ p ∈ tmp o v, p ∈ β) (st : ∀ i, i ∈ vs → ρ''[i]? = ρ'[i]? ∧ σ''[i]? = σ[i]?) : ∃ G, RS K H'' s v G := by
  cases o with
  | val t =>
    cases e
    exact h.mem (List.mem_append_left _ (m _ (List.mem_singleton.mpr rfl)))
  | var i =>
    obtain ⟨s1, s2⟩ := st i (hv i rfl)
    have e1 := rd_ok e
    exact h.mem (List.mem_append_right _ (pick_mem (s1.trans e1) (s2.trans k)))
end
section
variable {X : Cx} {tg y z : Expr} {fa fb : Env → R (O × Env)} {vs ws : List Nat} {p pos tpos : Pos}
theorem _root_.Dn.RpKs.getk {K : PySem.W.Frag} {H : Hp} : ∀ {kvs : List (D × D)} {ks : List (Key × V)} {i : Nat} {k : Key} {v : V}, RpKs K H kvs ks → ks[i]? = some (k, v) → (kvs.map (·.1))[i]? = some (kyD k)
  | _, _, _, _, _, .nil, h => by simp at h
  | _, _, 0, _, _, .cons _ _, h => by simp at h; obtain ⟨h1, h2⟩ := h; subst h1; simp
  | _, _, i + 1, k, v, .cons _ t, h => by
    have := t.getk (i := i) (k := k) (v := v) (by simpa using h)
    simpa using this
theorem _root_.Dn.RpTs.getk {K : PySem.W.Frag} {H : Hp} : ∀ {kvs : List (D × D)} {ks : List (List Key × V)} {i : Nat} {k : List Key} {v : V}, RpTs K H kvs ks → ks[i]? = some (k, v) → (kvs.map (·.1))[i]? = some (.tuple (k.map kyD))
  | _, _, _, _, _, .nil, h => by simp at h
  | _, _, 0, _, _, .cons _ _, h => by simp at h; obtain ⟨h1, h2⟩ := h; subst h1; simp
  | _, _, i + 1, k, v, .cons _ t, h => by
    have := t.getk (i := i) (k := k) (v := v) (by simpa using h)
    simpa using this
theorem rp_kyD {K : PySem.W.Frag} {H : Hp} (k : Key) : Rp K H (kyD k) (kV k) := by
  cases k with
  | inl n => exact .int n
  | inr x => exact .str x
theorem wok_keys {K : PySem.W.Frag} {d : Addr} {o : Obj} {kvs : List (D × D)} {ks : List (Key × V)} : WOk K (Itk d o ks) (kvs.map (·.1)) (fun H => H d = some (.frz o (.dK ks)) ∧ RpKs K H kvs ks) where
  go := fun i H hi ⟨h, r⟩ => ⟨h, by rw [List.length_map, r.len] at hi; exact hi⟩
  stop := fun H ⟨h, r⟩ => ⟨h, by rw [List.length_map, r.len]; exact Nat.le_refl _⟩
  yld := fun i H x H' hi ⟨h, r⟩ y => by
    obtain ⟨e, k, v, e2, e3⟩ := y
    subst e e3
    exact ⟨_, r.getk e2, .d (rp_kyD k)⟩
theorem wok_keysT {K : PySem.W.Frag} {d : Addr} {o : Obj} {kvs : List (D × D)} {ks : List (List Key × V)} : WOk K (Itkt d o ks) (kvs.map (·.1)) (fun H => H d = some (.frz o (.dT ks)) ∧ RpTs K H kvs ks) where
  go := fun i H hi ⟨h, r⟩ => ⟨h, by rw [List.length_map, r.len] at hi; exact hi⟩
  stop := fun H ⟨h, r⟩ => ⟨h, by rw [List.length_map, r.len]; exact Nat.le_refl _⟩
  yld := fun i H x H' hi ⟨h, r⟩ y => by
    obtain ⟨e, k, v, q, e2, e3, e4⟩ := y
    subst e e3
    exact ⟨_, r.getk e2, .d (.tup e4 (rp_kyDs k))⟩
/-- what a for walks: a sequence, or a dict that is never written -/
theorem seqI_cases {s : SV} {v : V} {K : PySem.W.Frag} {H : Hp} {G : Addr → Prop} {ds : List D} (h : RS K H s v G) (e : seqI s = .ok ds) :
    items s = .ok ds ∨ (∃ d o kvs ks, v = .ref d ∧ H d = some (.frz o (.dK ks)) ∧ RpKs K H kvs ks ∧ ds = kvs.map (·.1)) ∨ ∃ d o kvs ks, v = .ref d ∧ H d = some (.frz o (.dT ks)) ∧ RpTs K H kvs ks ∧ ds = kvs.map (·.1) := by
  cases s with
  | ow w => exact .inl e
  | l xs => exact .inl e
  | d x =>
    obtain ⟨h, _⟩ := h
    cases h with
    | @dctK a o kvs ks h1 h2 =>
      refine .inr (.inl ⟨a, o, kvs, ks, rfl, h1, h2, ?_⟩)
      have : seqI (.d (.dict kvs)) = .ok (kvs.map (·.1)) := by
        cases h2 with
        | nil => rfl
        | @cons k v ks d kvs h3 h4 => cases k <;> rfl
      rw [this] at e
      cases e
      rfl
    | @dctT a o kvs ks h1 h2 => cases e; exact .inr (.inr ⟨a, o, kvs, ks, rfl, h1, h2, rfl⟩)
    | _ => exact .inl e
def isDct : SV → Bool
  | .d (.dict _) => true
  | _ => false
theorem seqI_not {s : SV} (h : isDct s = false) : seqI s = items s := by
  cases s with
  | ow w => rfl
  | l xs => rfl
  | d x => cases x <;> first | rfl | cases h
theorem items_not {s : SV} {ds : List D} (h : isDct s = true) (e : items s = .ok ds) : False := by
  cases s with
  | ow w => cases h
  | l xs => cases h
  | d x => cases x <;> first | (cases e; done) | (cases h; done)
theorem Step.pinK {K : PySem.W.Frag} {H : Hp} {d : Addr} {o : Obj} {kvs : List (D × D)} {ks : List (Key × V)} (h : H d = some (.frz o (.dK ks))) (r : RpKs K H kvs ks) : Step K H (.ow (.k kvs o ks)) (.ref d) H := fun L F h1 =>
  ⟨F, .cons (G := fun _ => False) ⟨d, rfl, h, r, fun _ z => z⟩ h1 (fun _ z => z.elim) fun a => ⟨.inr, fun z => z.elim False.elim (fun z => z)⟩⟩
theorem Step.pinT {K : PySem.W.Frag} {H : Hp} {d : Addr} {o : Obj} {kvs : List (D × D)} {ks : List (List Key × V)} (h : H d = some (.frz o (.dT ks))) (r : RpTs K H kvs ks) : Step K H (.ow (.kt kvs o ks)) (.ref d) H := fun L F h1 =>
  ⟨F, .cons (G := fun _ => False) ⟨d, rfl, h, r, fun _ z => z⟩ h1 (fun _ z => z.elim) fun a => ⟨.inr, fun z => z.elim False.elim (fun z => z)⟩⟩
theorem si_e (h : PE X y (rE X.K fa)) (hv : ∀ ρ ρ' i, fa ρ = .ok (.var i, ρ') → i ∈ vs) : PI X tg y (rI X.K vs fun ρ => (do let (o, ρ) ← fa ρ; let s ← o.get ρ; let ds ← seqI s; .ok (ds, ρ))) :=
  PI.weak (PI.or (pi_keys h) (PI.or (pi_list h) (pi_tup h))) fun σ H Rr h => by
    obtain ⟨α, ρ, ds, ρ', e, hs, q⟩ := h
    obtain ⟨⟨oa, ρ1⟩, e1, e⟩ := bind_ok e
    obtain ⟨s, e2, e⟩ := bind_ok e
    obtain ⟨ds', e3, e⟩ := bind_ok e
    cases e
    cases hd : isDct s with
    | true =>
      refine .inl (rE.one e1 hs fun va H1 h1 => ?_)
      obtain ⟨G, r⟩ := h1.get e2
      rcases seqI_cases r e3 with z | ⟨d, o, kvs, ks, rfl, w1, w2, rfl⟩ | ⟨d, o, kvs, ks, rfl, w1, w2, rfl⟩
      · exact (items_not hd z).elim
      · refine ⟨d, o, rfl, .inl ⟨ks, w1, q _ H1 ((.ow (.k kvs o ks), .ref d) :: tmp oa (.ref d)) _ (h1.2.step (Step.pinK w1 w2)) wok_keys fun H'' β ρ'' σ'' h'' st => ?_⟩⟩
        obtain ⟨G', p, e5, e6, e7, _⟩ := h''.mem (List.mem_append_left _ (List.mem_cons_self ..))
        cases e5
        exact ⟨e6, e7⟩
      · refine ⟨d, o, rfl, .inr ⟨ks, w1, q _ H1 ((.ow (.kt kvs o ks), .ref d) :: tmp oa (.ref d)) _ (h1.2.step (Step.pinT w1 w2)) wok_keysT fun H'' β ρ'' σ'' h'' st => ?_⟩⟩
        obtain ⟨G', p, e5, e6, e7, _⟩ := h''.mem (List.mem_append_left _ (List.mem_cons_self ..))
        cases e5
        exact ⟨e6, e7⟩
    | false =>
    rw [seqI_not hd] at e3
    right
    cases ht : isTup s with
    | false =>
      refine .inl (rE.one e1 hs fun va H1 h1 => ?_)
      obtain ⟨G, r⟩ := h1.get e2
      obtain ⟨a, rfl, w | w⟩ := seq_at r e3
      · obtain ⟨_, xs, w1, w2⟩ := w
        refine ⟨a, rfl, ⟨xs, w1⟩, q _ H1 (tmp oa (.ref a)) (AtL X.K a ds) h1.2 wok_list fun H'' β ρ'' σ'' h'' st => ?_⟩
        obtain ⟨G', r'⟩ := pers e2 h1.1 (fun i z => hv _ _ i (by rw [e1, z])) h'' (fun p m => List.mem_append_left _ m) st
        obtain ⟨a', ea, w | w⟩ := seq_at r' e3
        · cases ea; exact w.2
        · rw [ht] at w; cases w.1
      · rw [ht] at w; cases w.1
    | true =>
      refine .inr (rE.one e1 hs fun va H1 h1 => ?_)
      obtain ⟨G, r⟩ := h1.get e2
      obtain ⟨a, rfl, w | w⟩ := seq_at r e3
      · rw [ht] at w; cases w.1
      · obtain ⟨_, xs, w1, w2⟩ := w
        refine ⟨a, rfl, ⟨xs, w1⟩, q _ H1 (tmp oa (.ref a)) (AtT X.K a ds) h1.2 wok_tup fun H'' β ρ'' σ'' h'' st => ?_⟩
        obtain ⟨G', r'⟩ := pers e2 h1.1 (fun i z => hv _ _ i (by rw [e1, z])) h'' (fun p m => List.mem_append_left _ m) st
        obtain ⟨a', ea, w | w⟩ := seq_at r' e3
        · rw [ht] at w; cases w.1
        · cases ea; exact w.2
theorem si_enum {elts : List Expr} {kk : Nat} (hg : Gl X "enumerate") (hm : X.mg "enumerate" = none) (h : PE X y (rE X.K fa)) (hv : ∀ ρ ρ' i, fa ρ = .ok (.var i, ρ') → i ∈ vs) (he : starEach [y] X.env = [(false, eval y X.env)]) :
    PI X (.Tuple elts kk tpos) (.Call (.Name "enumerate" p) [y] [] pos) (rI X.K vs fun ρ => (do let (o, ρ) ← fa ρ; let s ← o.get ρ; let ds ← items s; .ok (enumD 0 ds, ρ))) :=
  PI.weak (PI.or (pi_enum hg hm (pa_cons h pa_nil he) he) (pi_enumT hg hm (pa_cons h pa_nil he) he)) fun σ H Rr h => by
    obtain ⟨α, ρ, ds, ρ', e, hs, q⟩ := h
    obtain ⟨⟨oa, ρ1⟩, e1, e⟩ := bind_ok e
    obtain ⟨s, e2, e⟩ := bind_ok e
    obtain ⟨ds', e3, e⟩ := bind_ok e
    cases e
    cases ht : isTup s with
    | false =>
      refine .inl (rE.one e1 hs fun va H1 h1 => ?_)
      obtain ⟨G, r⟩ := h1.get e2
      obtain ⟨a, rfl, w | w⟩ := seq_at r e3
      · obtain ⟨_, xs, w1, w2⟩ := w
        refine ⟨a, xs, rfl, w1, q _ H1 (tmp oa (.ref a)) (AtL X.K a ds') h1.2 wok_enumL fun H'' β ρ'' σ'' h'' st => ?_⟩
        obtain ⟨G', r'⟩ := pers e2 h1.1 (fun i z => hv _ _ i (by rw [e1, z])) h'' (fun p m => List.mem_append_left _ m) st
        obtain ⟨a', ea, w | w⟩ := seq_at r' e3
        · cases ea; exact w.2
        · rw [ht] at w; cases w.1
      · rw [ht] at w; cases w.1
    | true =>
      refine .inr (rE.one e1 hs fun va H1 h1 => ?_)
      obtain ⟨G, r⟩ := h1.get e2
      obtain ⟨a, rfl, w | w⟩ := seq_at r e3
      · rw [ht] at w; cases w.1
      · obtain ⟨_, xs, w1, w2⟩ := w
        refine ⟨a, xs, rfl, w1, q _ H1 (tmp oa (.ref a)) (AtT X.K a ds') h1.2 wok_enumT fun H'' β ρ'' σ'' h'' st => ?_⟩
        obtain ⟨G', r'⟩ := pers e2 h1.1 (fun i z => hv _ _ i (by rw [e1, z])) h'' (fun p m => List.mem_append_left _ m) st
        obtain ⟨a', ea, w | w⟩ := seq_at r' e3
        · rw [ht] at w; cases w.1
        · cases ea; exact w.2
theorem si_zip (ht : okT tg = true) (hg : Gl X "zip") (hm : X.mg "zip" = none) (h : PE X y (rE X.K fa)) (h2 : PE X z (rE X.K fb)) (hv : ∀ ρ ρ' i, fa ρ = .ok (.var i, ρ') → i ∈ vs) (hv2 : ∀ ρ ρ' i, fb ρ = .ok (.var i, ρ') → i ∈ ws)
    (he : starEach [y, z] X.env = (false, eval y X.env) :: starEach [z] X.env) (he2 : starEach [z] X.env = [(false, eval z X.env)]) :
    PI X tg (.Call (.Name "zip" p) [y, z] [] pos) (rI X.K (vs ++ ws) fun ρ => (do let (o, ρ) ← fa ρ; let (p, ρ) ← fb ρ; let s ← o.get ρ; let t ← p.get ρ; let ds ← items s; let es ← items t; .ok (zipD ds es, ρ))) :=
  PI.weak (pi_zipB ht hg hm (pa_cons h (pa_cons h2 pa_nil he2) he) he (by rw [he2]; rfl)) fun σ H Rr h => by
    obtain ⟨α, ρ, ds, ρ', e, hs, q⟩ := h
    obtain ⟨⟨oa, ρ1⟩, e1, e⟩ := bind_ok e
    obtain ⟨⟨ob, ρ2⟩, e2, e⟩ := bind_ok e
    obtain ⟨s, e3, e⟩ := bind_ok e
    obtain ⟨t, e4, e⟩ := bind_ok e
    obtain ⟨ds', e5, e⟩ := bind_ok e
    obtain ⟨es', e6, e⟩ := bind_ok e
    cases e
    refine rE.two e1 e2 hs fun va vb H2 k1 k2 h2 => ?_
    obtain ⟨Ga, r1⟩ := held h2 k1 (fun p m => List.mem_append_right _ (List.mem_append_left _ m)) e3
    obtain ⟨Gb, r2⟩ := held h2 k2 (fun p m => List.mem_append_left _ m) e4
    obtain ⟨a, rfl, w⟩ := seqB_at r1 e5
    obtain ⟨b, rfl, w2⟩ := seqB_at r2 e6
    have pp : ∀ H'' β ρ'' σ'', StR X.K H'' ((tmp ob (.ref b) ++ tmp oa (.ref a)) ++ β) ρ'' σ'' → (∀ i, i ∈ vs ++ ws → ρ''[i]? = ρ'[i]? ∧ σ''[i]? = σ[i]?) → (∃ G, RS X.K H'' s (.ref a) G) ∧ ∃ G, RS X.K H'' t (.ref b) G := fun H'' β ρ'' σ'' h'' st =>
      ⟨pers e3 k1 (vs := vs) (fun i z => hv _ _ i (by rw [e1, z])) h'' (fun p m => List.mem_append_left _ (List.mem_append_right _ m)) fun i hi => st i (List.mem_append_left _ hi),
        pers e4 k2 (vs := ws) (fun i z => hv2 _ _ i (by rw [e2, z])) h'' (fun p m => List.mem_append_left _ (List.mem_append_left _ m)) fun i hi => st i (List.mem_append_right _ hi)⟩
    have h3 : StR X.K H2 ((tmp ob (.ref b) ++ tmp oa (.ref a)) ++ α) ρ' σ := by rw [List.append_assoc]; exact h2
    obtain ⟨xs, w1, _⟩ := w
    obtain ⟨ys, w3, _⟩ := w2
    refine ⟨a, b, xs, ys, isTup s, isTup t, rfl, w1, w3, q _ H2 _ _ h3 (wok_zipB (ds := ds') (es := es')) fun H'' β ρ'' σ'' h'' st => ?_⟩
    obtain ⟨⟨G1, q1⟩, ⟨G2, q2⟩⟩ := pp H'' β ρ'' σ'' h'' st
    obtain ⟨a', ea, w⟩ := seqB_at q1 e5
    obtain ⟨b', eb, w2⟩ := seqB_at q2 e6
    cases ea
    cases eb
    exact ⟨w, w2⟩
theorem si_rng1 (hg : Gl X "range") (hm : X.mg "range" = none) (h : PE X y (rE X.K fa)) (he : starEach [y] X.env = [(false, eval y X.env)]) :
    PI X tg (.Call (.Name "range" p) [y] [] pos) (rI X.K vs fun ρ => (do let (o, ρ) ← fa ρ; let s ← o.get ρ; let n ← isI s; if rngOk 0 n = true then .ok (rngD 0 n, ρ) else .bad)) :=
  PI.weak (pi_range1 hg hm (pa_cons h pa_nil he) he) fun σ H Rr h => by
    obtain ⟨α, ρ, ds, ρ', e, hs, q⟩ := h
    obtain ⟨⟨oa, ρ1⟩, e1, e⟩ := bind_ok e
    obtain ⟨s, e2, e⟩ := bind_ok e
    obtain ⟨n, e3, e⟩ := bind_ok e
    obtain ⟨hr, e⟩ := if_ok e
    cases e
    cases isI_ok e3
    unfold rngOk at hr
    simp only [Bool.and_eq_true, decide_eq_true_eq] at hr
    refine rE.one e1 hs fun va H1 h1 => ?_
    obtain ⟨G, r⟩ := h1.get e2
    exact ⟨n, by rw [rs_int r], hr.1.2, hr.2, q _ H1 (tmp oa va) (fun _ => True) h1.2 (wok_rng (by simp)) fun _ _ _ _ _ _ => trivial⟩
theorem si_rng2 (hg : Gl X "range") (hm : X.mg "range" = none) (h : PE X y (rE X.K fa)) (h2 : PE X z (rE X.K fb)) (he : starEach [y, z] X.env = (false, eval y X.env) :: starEach [z] X.env) (he2 : starEach [z] X.env = [(false, eval z X.env)]) :
    PI X tg (.Call (.Name "range" p) [y, z] [] pos) (rI X.K vs fun ρ => (do let (o, ρ) ← fa ρ; let (p, ρ) ← fb ρ; let s ← o.get ρ; let t ← p.get ρ; let m ← isI s; let n ← isI t; if rngOk m n = true then .ok (rngD m n, ρ) else .bad)) :=
  PI.weak (pi_range2 hg hm (pa_cons h (pa_cons h2 pa_nil he2) he) (by rw [he, he2]) he2) fun σ H Rr h => by
    obtain ⟨α, ρ, ds, ρ', e, hs, q⟩ := h
    obtain ⟨⟨oa, ρ1⟩, e1, e⟩ := bind_ok e
    obtain ⟨⟨ob, ρ2⟩, e2, e⟩ := bind_ok e
    obtain ⟨s, e3, e⟩ := bind_ok e
    obtain ⟨t, e4, e⟩ := bind_ok e
    obtain ⟨m, e5, e⟩ := bind_ok e
    obtain ⟨n, e6, e⟩ := bind_ok e
    obtain ⟨hr, e⟩ := if_ok e
    cases e
    cases isI_ok e5
    cases isI_ok e6
    unfold rngOk at hr
    simp only [Bool.and_eq_true, decide_eq_true_eq] at hr
    refine rE.two e1 e2 hs fun va vb H2 k1 k2 h2 => ?_
    obtain ⟨Ga, r1⟩ := held h2 k1 (fun p m => List.mem_append_right _ (List.mem_append_left _ m)) e3
    obtain ⟨Gb, r2⟩ := held h2 k2 (fun p m => List.mem_append_left _ m) e4
    have h3 : StR X.K H2 ((tmp ob vb ++ tmp oa va) ++ α) ρ' σ := by rw [List.append_assoc]; exact h2
    exact ⟨m, n, by rw [rs_int r1, rs_int r2], ⟨hr.1.1.1, hr.1.1.2, hr.1.2, hr.2⟩, q _ H2 _ (fun _ => True) h3 (wok_rng rfl) fun _ _ _ _ _ _ => trivial⟩
end
end Dn

set_option Elab.async false
set_option linter.all false
set_option maxRecDepth 100000
set_option maxHeartbeats 4000000
/-! Dn, part I: targets; comprehensions. -/
namespace Dn
open PySem PySem.Spec PyProof.Rows L2

/-! ### targets -/
def rG (K : PySem.W.Frag) (T : List Nat) (f : D → Env → R Env) : TG := fun v σ H Q => ∃ α ρ d ρ', f d ρ = .ok ρ' ∧ Rp K H d v ∧ StR K H α ρ σ ∧ ∀ σ', StR K H α ρ' σ' → σ'.length = σ.length → Agr T σ σ' → Q σ' H
def rGs (K : PySem.W.Frag) (T : List Nat) (f : List D → Env → R Env) : TGs := fun vs σ H Q => ∃ α ρ ds ρ', f ds ρ = .ok ρ' ∧ RpAll K H ds vs ∧ StR K H α ρ σ ∧ ∀ σ', StR K H α ρ' σ' → σ'.length = σ.length → Agr T σ σ' → Q σ' H
theorem PG.weak {X : Cx} {e : Expr} {t t' : TG} (h : PG X e t) (w : ∀ v σ H Q, t' v σ H Q → t v σ H Q) : PG X e t' := ⟨fun pins s σ H v u Q I r hw => h.run pins s σ H v u Q I r (w v σ H Q hw)⟩
theorem PGs.weak {X : Cx} {e : List Expr} {t t' : TGs} (h : PGs X e t) (w : ∀ v σ H Q, t' v σ H Q → t v σ H Q) : PGs X e t' := ⟨fun pins s σ H v u Q I r hw => h.run pins s σ H v u Q I r (w v σ H Q hw)⟩
theorem gName_weak {K : PySem.W.Frag} {i : Nat} : ∀ v σ H Q, rG K [i] (Tg.n i).put v σ H Q → gName i v σ H Q := fun v σ H Q h => by
  obtain ⟨α, ρ, d, ρ', e, r, hs, q⟩ := h
  obtain ⟨hi, rfl⟩ := if_ok (show (if i < ρ.length then R.ok (ρ.set i (some (.d d))) else .bad) = .ok ρ' from e)
  refine q _ ((hs.pure r).put hi) (by rw [List.length_set]) fun j hj => ?_
  exact List.getElem?_set_ne fun z => hj (by rw [z]; exact List.mem_singleton.mpr rfl)
section
variable {X : Cx}
theorem sg_name {i : Nat} {x : Str} {pos : Pos} (hN : X.N.Nodup) (hi : X.N[i]? = some x) (hx : Loc X.env.scope x) (hf : X.fn x = true ∨ X.env.scope.names.lookup x = some .local) : PG X (.Name x pos) (rG X.K [i] (Tg.n i).put) :=
  PG.weak (pg_name hN hi hx hf) gName_weak
theorem sgs_nil : PGs X [] (rGs X.K [] Tgs.nil.puts) := PGs.weak pgs_nil fun vs σ H Q h => by
  obtain ⟨α, ρ, ds, ρ', e, r, hs, q⟩ := h
  cases ds with
  | nil => cases e; cases r; exact ⟨rfl, q σ hs rfl Agr.refl⟩
  | cons d ds => cases e
theorem sgs_cons {e : Expr} {es : List Expr} {t : Tg} {r : Tgs} (h1 : PG X e (rG X.K t.slots t.put)) (h2 : PGs X es (rGs X.K r.slots r.puts))
    (hs : (assignEach (e :: es) X.env).map (·.2) = assign e X.env :: (assignEach es X.env).map (·.2)) : PGs X (e :: es) (rGs X.K (Tgs.cons t r).slots (Tgs.cons t r).puts) :=
  PGs.weak (pgs_cons h1 h2 hs) fun vs σ H Q h => by
    obtain ⟨α, ρ, ds, ρ', e, rr, hst, q⟩ := h
    cases ds with
    | nil => cases e
    | cons d ds =>
      obtain ⟨ρ1, e1, e2⟩ := bind_ok (show (t.put d ρ >>= fun ρ => r.puts ds ρ) = .ok ρ' from e)
      cases rr with
      | cons ra rs =>
        refine ⟨_, _, rfl, α, ρ, d, ρ1, e1, ra, hst, fun σ1 h1 l1 a1 => ⟨α, ρ1, ds, ρ', e2, rs, h1, fun σ2 h2 l2 a2 => q σ2 h2 (l2.trans l1) ?_⟩⟩
        exact (a1.mono fun i z => List.mem_append_left _ z).trans (a2.mono fun i z => List.mem_append_right _ z)
theorem puts_len : ∀ {ts : Tgs} {ds : List D} {ρ ρ' : Env}, ts.puts ds ρ = .ok ρ' → ∃ n : Nat, ds.length = n := fun _ => ⟨_, rfl⟩
def Tgs.n : Tgs → Nat
  | .nil => 0
  | .cons _ r => r.n + 1
theorem Tgs.puts_n : ∀ (ts : Tgs) (ds : List D) (ρ ρ' : Env), ts.puts ds ρ = .ok ρ' → ds.length = ts.n
  | .nil, [], _, _, _ => rfl
  | .nil, _ :: _, _, _, e => by cases e
  | .cons _ _, [], _, _, e => by cases e
  | .cons t r, d :: ds, ρ, ρ', e => by
    obtain ⟨ρ1, e1, e2⟩ := bind_ok (show (t.put d ρ >>= fun ρ => r.puts ds ρ) = .ok ρ' from e)
    exact congrArg Nat.succ (Tgs.puts_n r ds ρ1 ρ' e2)
theorem sg_tup {es : List Expr} {k : Nat} {ts : Tgs} {pos : Pos} (hc : X.calm = true) (h : PGs X es (rGs X.K ts.slots ts.puts)) (hn : (assignEach es X.env).length = ts.n) (hst : (assignEach es X.env).findIdx? (·.1) = none) :
    PG X (.Tuple es k pos) (rG X.K (Tg.t ts).slots (Tg.t ts).put) := PG.weak (pg_tup hc h hn hst) fun v σ H Q h => by
  obtain ⟨α, ρ, d, ρ', e, r, hs, q⟩ := h
  cases d with
  | tuple ds =>
    cases r with
    | tupS h1 h2 _ => exact ⟨_, _, rfl, h1, by rw [← h2.len]; exact Tgs.puts_n ts ds ρ ρ' e, α, ρ, ds, ρ', e, h2, hs, q⟩
  | _ => cases e
end

/-! ### a comprehension's own slots -/
def keptL (own : List (Str × Nat)) (ρ1 : Env) (σ : L2.St) : List (SV × V) := match own with
  | [] => []
  | p :: own => match keepD ρ1[p.2]?, σ[p.2]? with
    | some s, some (some v) => (s, v) :: keptL own ρ1 σ
    | _, _ => keptL own ρ1 σ
section
variable {K : PySem.W.Frag} {H : Hp} {α : List (SV × V)} {σ : L2.St}
theorem keepD_ok {o : Option (Option SV)} {s : SV} (e : keepD o = some s) : ∃ x, s = .d x ∧ o = some (some (.d x)) := by
  unfold keepD at e
  split at e
  · cases e; exact ⟨_, rfl, rfl⟩
  · cases e
theorem StR.kept {ρ1 : Env} (h : StR K H α ρ1 σ) : ∀ own : List (Str × Nat), StR K H (keptL own ρ1 σ ++ α) ρ1 σ
  | [] => h
  | p :: own => by
    have ih := h.kept own
    unfold keptL
    split
    · next s v e1 e2 =>
      obtain ⟨x, rfl, e3⟩ := keepD_ok e1
      obtain ⟨G, r⟩ := ih.mem (List.mem_append_right _ (pick_mem e3 e2))
      exact ih.pure r.1
    · exact ih
theorem wipeE_set {own : List (Str × Nat)} {ρ : Env} {i : Nat} : (wipeE own ρ).set i none = wipeE own (ρ.set i none) := by
  induction own with
  | nil => rfl
  | cons p own ih =>
    show ((wipeE own ρ).set p.2 none).set i none = (wipeE own (ρ.set i none)).set p.2 none
    rw [← ih]
    by_cases hj : p.2 = i
    · rw [hj]
    · exact List.set_comm _ _ hj
theorem StR.set_none {ρ : Env} {i : Nat} {x : Option V} (h : StR K H α (ρ.set i none) σ) : StR K H α (ρ.set i none) (σ.set i x) :=
  ⟨by rw [List.length_set (as := σ)]; exact h.len, fun j s e => by
    by_cases hj : i = j
    · subst hj
      by_cases hl : i < ρ.length
      · rw [List.getElem?_set_self hl] at e; cases e
      · rw [List.getElem?_eq_none (by simpa using hl)] at e; cases e
    · obtain ⟨v, q⟩ := h.ok j s e
      exact ⟨v, by rw [List.getElem?_set_ne hj]; exact q⟩, by rw [pick_nv]; exact h.ow⟩
theorem StR.unset_none {ρ : Env} {i : Nat} {x : Option V} (h : StR K H α (ρ.set i none) (σ.set i x)) : StR K H α (ρ.set i none) σ :=
  ⟨by have := h.len; rw [List.length_set (as := σ)] at this; exact this, fun j s e => by
    by_cases hj : i = j
    · subst hj
      by_cases hl : i < ρ.length
      · rw [List.getElem?_set_self hl] at e; cases e
      · rw [List.getElem?_eq_none (by simpa using hl)] at e; cases e
    · obtain ⟨v, q⟩ := h.ok j s e
      rw [List.getElem?_set_ne hj] at q
      exact ⟨v, q⟩, by have := h.ow; rw [pick_nv] at this; exact this⟩
theorem StR.forgetE {ρ : Env} (h : StR K H α ρ σ) : ∀ own : List (Str × Nat), StR K H α (wipeE own ρ) σ
  | [] => h
  | p :: own => (h.forgetE own).forget p.2
theorem StR.wiped : ∀ {own : List (Str × Nat)} {ρ : Env}, StR K H α (wipeE own ρ) σ → StR K H α (wipeE own ρ) (wipe σ (own.map (·.2)))
  | [], _, h => h
  | p :: own, ρ, h => by
    have h1 : StR K H α ((wipeE own ρ).set p.2 none) σ := h
    show StR K H α ((wipeE own ρ).set p.2 none) ((wipe σ (own.map (·.2))).set p.2 none)
    refine StR.set_none ?_
    rw [wipeE_set] at h1 ⊢
    exact StR.wiped h1
theorem StR.unwiped : ∀ {own : List (Str × Nat)} {ρ : Env}, StR K H α (wipeE own ρ) (wipe σ (own.map (·.2))) → StR K H α (wipeE own ρ) σ
  | [], _, h => h
  | p :: own, ρ, h => by
    have h1 : StR K H α ((wipeE own ρ).set p.2 none) ((wipe σ (own.map (·.2))).set p.2 none) := h
    have h2 := h1.unset_none
    show StR K H α ((wipeE own ρ).set p.2 none) σ
    rw [wipeE_set] at h2 ⊢
    exact StR.unwiped h2
theorem StR.merged {ρ1 : Env} (hok : ∀ (i : Nat) s, ρ1[i]? = some (some s) → ∃ v, σ[i]? = some (some v)) : ∀ {own : List (Str × Nat)} {α : List (SV × V)} {ρ : Env}, StR K H (keptL own ρ1 σ ++ α) ρ σ → StR K H α (mrg own ρ1 ρ) σ
  | [], _, _, h => h
  | p :: own, α, ρ, h => by
    show StR K H α ((mrg own ρ1 ρ).set p.2 (keepD ρ1[p.2]?)) σ
    cases e : keepD ρ1[p.2]? with
    | none =>
      have e2 : keptL (p :: own) ρ1 σ = keptL own ρ1 σ := by unfold keptL; rw [e]; cases own <;> rfl
      rw [e2] at h
      exact (StR.merged hok h).forget _
    | some s =>
      obtain ⟨x, rfl, e3⟩ := keepD_ok e
      obtain ⟨v, hv⟩ := hok _ _ e3
      have e2 : keptL (p :: own) ρ1 σ = (SV.d x, v) :: keptL own ρ1 σ := by rw [keptL, e, hv]
      rw [e2] at h
      have h1 : StR K H ((.d x, v) :: α) (mrg own ρ1 ρ) σ := StR.merged hok (α := (.d x, v) :: α) (h.perm List.perm_middle.symm)
      refine (h1.forget p.2).back ?_ hv
      rw [h1.len]
      rcases Nat.lt_or_ge p.2 σ.length with z | z
      · exact z
      · rw [List.getElem?_eq_none z] at hv; cases hv
theorem wipe_same {σ2 : L2.St} {vs : List Nat} (hl : σ2.length = σ.length) (a : Agr vs (wipe σ vs) σ2) : wipe σ2 vs = wipe σ vs := by
  have wi : ∀ (τ : L2.St) (vs : List Nat) (i : Nat), i ∈ vs → i < τ.length → (wipe τ vs)[i]? = some none := fun τ vs => by
    induction vs with
    | nil => intro i m; cases m
    | cons v vs ih =>
      intro i m hi
      unfold wipe
      by_cases hv : v = i
      · subst hv
        rw [List.getElem?_set_self (by rw [wipe_length]; exact hi)]
      · rw [List.getElem?_set_ne hv]
        exact ih i ((List.mem_cons.mp m).resolve_left fun z => hv z.symm) hi
  apply List.ext_getElem?
  intro i
  by_cases hi : i ∈ vs
  · by_cases hl2 : i < σ.length
    · rw [wi _ _ _ hi hl2, wi _ _ _ hi (by rw [hl]; exact hl2)]
    · rw [List.getElem?_eq_none (by rw [wipe_length]; omega), List.getElem?_eq_none (by rw [wipe_length]; omega)]
  · rw [wipe_out hi, a i hi]
theorem StR.mutA {ρ : Env} {xs ys : List D} {p : Addr} {ws : List V} (h : StR K H ((.l xs, .ref p) :: α) ρ σ) (r : RpAll K H ys ws) : StR K (upd H p (.lst ws)) ((.l ys, .ref p) :: α) ρ σ := by
  obtain ⟨F, o⟩ := h.ow
  obtain ⟨F', o'⟩ := Ow.mut (ys := ys) (ws := ws) o r
  exact ⟨h.len, h.ok, F', o'⟩
end

/-! ### comprehensions -/
def stepL (ft : D → Env → R Env) (fc : Env → R (Bool × Env)) (fe : Env → R (O × Env)) : D → Env → R (Option D × Env) := fun d ρ => (do
  let ρ ← ft d ρ
  let (k, ρ) ← fc ρ
  if k = true then (do let (o, ρ) ← fe ρ; let x ← o.useD ρ; .ok (some x, ρ)) else .ok (none, ρ))
def dLc (own : List (Str × Nat)) (ft : D → Env → R Env) (fc : Env → R (Bool × Env)) (fe : Env → R (O × Env)) (fit : Env → R (List D × Env)) : Env → R (O × Env) := fun ρ => (do
  let (ds, ρ1) ← fit ρ
  let (r, ρ2) ← lcGo own (stepL ft fc fe) ds [] (wipeE own ρ1)
  .ok (.val (.l r), mrg own ρ1 ρ2))
theorem stepL_ok {ft : D → Env → R Env} {fc : Env → R (Bool × Env)} {fe : Env → R (O × Env)} {d : D} {ρ ρ' : Env} {o : Option D} (e : stepL ft fc fe d ρ = .ok (o, ρ')) :
    ∃ ρ1, ft d ρ = .ok ρ1 ∧ ∃ k ρ2, fc ρ1 = .ok (k, ρ2) ∧ ((k = true ∧ ∃ oe x, fe ρ2 = .ok (oe, ρ') ∧ oe.useD ρ' = .ok x ∧ o = some x) ∨ (k = false ∧ o = none ∧ ρ' = ρ2)) := by
  obtain ⟨ρ1, e1, e⟩ := bind_ok e
  obtain ⟨⟨k, ρ2⟩, e2, e⟩ := bind_ok e
  refine ⟨ρ1, e1, k, ρ2, e2, ?_⟩
  cases k with
  | true =>
    obtain ⟨⟨oe, ρ3⟩, e3, e⟩ := bind_ok (show (fe ρ2 >>= fun p => p.1.useD p.2 >>= fun x => R.ok (some x, p.2)) = .ok (o, ρ') from e)
    obtain ⟨x, e4, e⟩ := bind_ok e
    cases e
    exact .inl ⟨rfl, oe, x, e3, e4, rfl⟩
  | false => cases e; exact .inr ⟨rfl, rfl, rfl⟩
theorem lcGo_cons {own : List (Str × Nat)} {step : D → Env → R (Option D × Env)} {d : D} {ds acc r : List D} {ρ ρ2 : Env} (e : lcGo own step (d :: ds) acc ρ = .ok (r, ρ2)) :
    ∃ o ρ1, step d ρ = .ok (o, ρ1) ∧ ((∃ x, o = some x ∧ acc.length < LIM ∧ lcGo own step ds (acc ++ [x]) (wipeE own ρ1) = .ok (r, ρ2)) ∨ (o = none ∧ lcGo own step ds acc (wipeE own ρ1) = .ok (r, ρ2))) := by
  obtain ⟨⟨o, ρ1⟩, e1, e⟩ := bind_ok e
  refine ⟨o, ρ1, e1, ?_⟩
  cases o with
  | none => exact .inr ⟨rfl, e⟩
  | some x =>
    by_cases c : acc.length < LIM
    · have e' : (if acc.length < LIM then lcGo own step ds (acc ++ [x]) (wipeE own ρ1) else .bad) = .ok (r, ρ2) := e
      rw [if_pos c] at e'
      exact .inl ⟨x, rfl, c, e'⟩
    · have e' : (if acc.length < LIM then lcGo own step ds (acc ++ [x]) (wipeE own ρ1) else .bad) = .ok (r, ρ2) := e
      rw [if_neg c] at e'
      cases e'
theorem lc_weak {K : PySem.W.Frag} {own : List (Str × Nat)} {vs : List Nat} {t : Tg} {fc : Env → R (Bool × Env)} {fe : Env → R (O × Env)} {fit : Env → R (List D × Env)} {Tc Te : List Nat}
    (ht : ∀ i, i ∈ t.slots → i ∈ own.map (·.2)) (pc : ∀ ρ, Pr Tc ρ (fc ρ)) (pe : ∀ ρ, Pr Te ρ (fe ρ)) (hv : ∀ i, i ∈ vs → i ∉ own.map (·.2) ∧ i ∉ Tc ∧ i ∉ Te) :
    ∀ σ H Q, rE K (dLc own t.put fc fe fit) σ H Q → tLc (rI K vs fit) (rG K t.slots t.put) (rT K fc) (rE K fe) (own.map (·.2)) σ H Q := by
  rintro σ H Q ⟨α, ρ, o, ρ', e, hs, q⟩
  obtain ⟨⟨ds, ρ1⟩, e1, e⟩ := bind_ok e
  obtain ⟨⟨r, ρ2⟩, e2, e⟩ := bind_ok e
  cases e
  refine ⟨α, ρ, ds, ρ1, e1, hs, fun J H1 α' P h1 wk ps Dd hD => ?_⟩
  have h1ok := h1.ok
  let γ := keptL own ρ1 σ ++ α
  let W : Nat → Nat → Hp → Prop := fun i m Hc => ∃ ρx acc, m = ds.length - i ∧ i ≤ ds.length ∧ lcGo own (stepL t.put fc fe) (ds.drop i) acc (wipeE own ρx) = .ok (r, ρ2) ∧
    StR K Hc (α' ++ ((.l acc, .ref Dd) :: γ)) (wipeE own ρx) (wipe σ (own.map (·.2))) ∧ ∀ i, i ∈ vs → (wipeE own ρx)[i]? = ρ1[i]?
  refine ⟨W, ⟨ds.length, ρ1, [], rfl, Nat.zero_le _, e2, ?_, fun i hi => wipeE_get (hv i hi).1⟩, ?_⟩
  · have a1 : StR K H1 (α' ++ γ) ρ1 σ := by
      have := (h1.kept own).perm (β := α' ++ γ) (by
        show (keptL own ρ1 σ ++ (α' ++ α)).Perm (α' ++ (keptL own ρ1 σ ++ α))
        rw [← List.append_assoc, ← List.append_assoc]
        exact List.perm_append_comm.append_right α)
      exact this
    exact ((a1.step (.lst hD .nil)).perm List.perm_middle.symm |>.forgetE own).wiped
  · rintro i m Hc ⟨ρx, acc, rfl, hi, eg, hc, hk⟩
    have hP : P Hc := ps Hc _ _ _ hc fun j hj => ⟨hk j hj, wipe_out (hv j hj).1⟩
    by_cases hlt : i < ds.length
    · refine .inr ⟨wk.go i Hc hlt hP, W (i + 1) (ds.length - (i + 1)), fun H' w => ⟨_, by omega, w⟩, fun x H' y => ?_⟩
      obtain ⟨d, hd, st⟩ := wk.yld i Hc x H' hlt hP y
      rw [List.drop_eq_getElem_cons hlt] at eg
      rw [List.getElem?_eq_getElem hlt] at hd
      rw [Option.some.inj hd] at eg
      obtain ⟨od, ρ3, e3, eg⟩ := lcGo_cons eg
      obtain ⟨ρ4, e4, k, ρ5, e5, ee⟩ := stepL_ok e3
      have h2 := hc.step st
      obtain ⟨G, rx⟩ := h2.mem (List.mem_append_left _ (List.mem_cons_self ..))
      refine ⟨_, _, d, ρ4, e4, rx.1, h2.drop, fun σ2 h3 l2 a2 => ?_⟩
      have hw : wipe σ2 (own.map (·.2)) = wipe σ (own.map (·.2)) := wipe_same (by rw [l2, wipe_length]) (a2.mono ht)
      refine ⟨hw, _, ρ4, k, ρ5, e5, h3, fun H3 h4 => ?_⟩
      have k4 : ∀ j, j ∈ vs → ρ5[j]? = ρ1[j]? := fun j hj => by
        rw [pc ρ4 k ρ5 e5 j (hv j hj).2.1, Tg.put_get t d _ _ e4 j fun z => (hv j hj).1 (ht j z)]
        exact hk j hj
      rcases ee with ⟨rfl, oe, xd, e6, e7, rfl⟩ | ⟨rfl, rfl, rfl⟩
      · show (if true = true then _ else _)
        rw [if_pos rfl]
        rcases eg with ⟨x', ex, hl, eg⟩ | ⟨z, _⟩
        · cases ex
          refine ⟨_, ρ5, oe, ρ3, e6, h4, fun y H4 h5 => ?_⟩
          have h6 := h5.useD e7
          have h7 : StR K H4 ((.l acc, .ref Dd) :: ((.d xd, y) :: (α' ++ γ))) ρ3 σ2 := h6.perm ((List.Perm.cons _ List.perm_middle).trans (List.Perm.swap _ _ _))
          obtain ⟨p, ws, ep, hp, rl⟩ := h7.lst (List.mem_append_left _ (List.mem_cons_self ..))
          cases ep
          obtain ⟨G2, ry⟩ := h7.mem (List.mem_append_left _ (List.mem_cons_of_mem _ (List.mem_cons_self ..)))
          refine ⟨ws, hp, by rw [← rl.len, ← lim_eq]; exact hl, ρ3, acc ++ [xd], rfl, hlt, eg, ?_, fun j hj => ?_⟩
          · have h8 := h7.mutA (rl.app (.one ry.1))
            have h9 : StR K (upd H4 Dd (.lst (ws ++ [y]))) (α' ++ ((.l (acc ++ [xd]), .ref Dd) :: γ)) ρ3 σ2 := (h8.sub (List.Sublist.cons_cons _ (List.sublist_cons_self _ _))).perm List.perm_middle.symm
            rw [← hw]
            exact (h9.forgetE own).wiped
          · rw [wipeE_get (hv j hj).1, pe ρ5 oe ρ3 e6 j (hv j hj).2.2]
            exact k4 j hj
        · cases z
      · show (if false = true then _ else _)
        rw [if_neg Bool.false_ne_true]
        rcases eg with ⟨x', ex, hl, eg⟩ | ⟨_, eg⟩
        · cases ex
        · refine ⟨ρ3, acc, rfl, hlt, eg, ?_, fun j hj => ?_⟩
          · rw [← hw]
            exact (h4.forgetE own).wiped
          · rw [wipeE_get (hv j hj).1]
            exact k4 j hj
    · have hie : i = ds.length := by omega
      subst hie
      rw [List.drop_length] at eg
      have eg' : (R.ok (acc, wipeE own ρx)) = .ok (r, ρ2) := eg
      cases eg'
      refine .inl ⟨wk.stop Hc hP, q _ _ (.val ?_)⟩
      have h5 : StR K Hc (α' ++ (keptL own ρ1 σ ++ ((.l r, .ref Dd) :: α))) (wipeE own ρx) σ := hc.unwiped.perm (List.Perm.append_left α' (List.perm_middle.symm))
      exact StR.merged h1ok h5.dropL
theorem sts_nil {X : Cx} : PTs X [] (rT X.K fun ρ => .ok (true, ρ)) := ⟨fun pins s σ H Q I h => pts_nil.run pins s σ H Q I (by
  obtain ⟨α, ρ, b, ρ', e, hs, q⟩ := h
  cases e
  exact q H hs)⟩
end Dn

set_option Elab.async false
set_option linter.all false
set_option maxRecDepth 100000
set_option maxHeartbeats 4000000
/-! Dn, part J: statements. -/
namespace Dn
open PySem PySem.Spec PyProof.Rows L2

def PostS (K : PySem.W.Frag) (A : List Nat) (α : List (SV × V)) (D : Ends) (σ : L2.St) : Fl → Env → Prop
  | .nx, ρ' => ∀ σ' H', StR K H' α ρ' σ' → Agr A σ σ' → D.nx σ' H'
  | .brk, ρ' => ∀ σ' H', StR K H' α ρ' σ' → Agr A σ σ' → D.bk σ' H'
  | .cnt, ρ' => ∀ σ' H', StR K H' α ρ' σ' → Agr A σ σ' → D.ct σ' H'
  | .ret s, ρ' => ∀ v σ' H', StR K H' ((s, v) :: α) ρ' σ' → Agr A σ σ' → D.rt v H'
def rS (K : PySem.W.Frag) (A : List Nat) (f : Env → R (Fl × Env)) : TS := fun D σ H => ∃ α ρ fl ρ', f ρ = .ok (fl, ρ') ∧ StR K H α ρ σ ∧ PostS K A α D σ fl ρ'
theorem PostS.mono {K : PySem.W.Frag} {A B : List Nat} {α : List (SV × V)} {D : Ends} {σ : L2.St} {fl : Fl} {ρ' : Env} (m : ∀ i, i ∈ A → i ∈ B) (h : PostS K B α D σ fl ρ') : PostS K A α D σ fl ρ' := by
  cases fl with
  | ret s => exact fun v σ' H' st a => h v σ' H' st (a.mono m)
  | nx => exact fun σ' H' st a => h σ' H' st (a.mono m)
  | brk => exact fun σ' H' st a => h σ' H' st (a.mono m)
  | cnt => exact fun σ' H' st a => h σ' H' st (a.mono m)
theorem PostS.pre {K : PySem.W.Frag} {A : List Nat} {α : List (SV × V)} {D : Ends} {σ σ1 : L2.St} {fl : Fl} {ρ' : Env} (a0 : Agr A σ σ1) (h : PostS K A α D σ fl ρ') : PostS K A α D σ1 fl ρ' := by
  cases fl with
  | ret s => exact fun v σ' H' st a => h v σ' H' st (a0.trans a)
  | nx => exact fun σ' H' st a => h σ' H' st (a0.trans a)
  | brk => exact fun σ' H' st a => h σ' H' st (a0.trans a)
  | cnt => exact fun σ' H' st a => h σ' H' st (a0.trans a)

/-! ### what the text's shape settles -/
def noComp : Expr → Bool
  | .ListComp .. => false
  | .SetComp .. => false
  | .DictComp .. => false
  | _ => true
theorem sw_no {e : Expr} {t : Option Expr} {l : Nat} {env : PySem.Env} (h : noComp e = true) : swapsWith e t l env = pure false := by
  cases e <;> first | rfl | cases h
theorem sw_tup {e : Expr} {es : List Expr} {k : Nat} {p : Pos} {l : Nat} {env : PySem.Env} : swapsWithSole [.Tuple es k p] e l env = pure false := by
  cases e <;> rfl
theorem sw_sub {e a b : Expr} {p : Pos} {l : Nat} {env : PySem.Env} : swapsWithSole [.Subscript a b p] e l env = pure false := by
  cases e <;> rfl
def noTup : Expr → Bool
  | .Tuple .. => false
  | _ => true
theorem ss_no {t e : Expr} {env : PySem.Env} (h : noTup e = true) : swappedStores [t] e env = pure none := by
  cases e <;> first | (cases t <;> rfl) | cases h
theorem ss_sub {a b e : Expr} {p : Pos} {env : PySem.Env} : swappedStores [.Subscript a b p] e env = pure none := by
  cases e <;> rfl
def noSet : Expr → Bool
  | .Set .. => false
  | _ => true
theorem fs_no {e : Expr} {env : PySem.Env} (h : noSet e = true) : ∀ x, foldedSetIterable e env x = pure x := by
  intro x
  cases e <;> first | rfl | cases h

/-! ### assignments -/
section
variable {X : Cx} {e : Expr} {fe : Env → R (O × Env)} {te : TE} {pos p' : Pos}
def dAsg (i : Nat) (fe : Env → R (O × Env)) : Env → R (Fl × Env) := fun ρ => (do let (o, ρ) ← fe ρ; let s ← o.use ρ; if i < ρ.length then .ok (.nx, ρ.set i (some s)) else .bad)
theorem asg_weak {K : PySem.W.Frag} {i : Nat} (w : ∀ σ H Q, rE K fe σ H Q → te σ H Q) : ∀ D σ H, rS K [i] (dAsg i fe) D σ H → tAsg te (gName i) D σ H := fun D σ H h => by
  obtain ⟨α, ρ, fl, ρ', e, hs, q⟩ := h
  obtain ⟨⟨o, ρ1⟩, e1, e⟩ := bind_ok e
  obtain ⟨s, e2, e⟩ := bind_ok e
  obtain ⟨hi, e⟩ := if_ok e
  cases e
  refine w _ _ _ (rE.one e1 hs fun va H1 h1 => ?_)
  refine q _ H1 ((h1.use e2).put hi) fun j hj => ?_
  exact List.getElem?_set_ne fun z => hj (by rw [z]; exact List.mem_singleton.mpr rfl)
theorem sk_set {i : Nat} {x : Str} (hN : X.N.Nodup) (hi : X.N[i]? = some x) (hx : Loc X.env.scope x) (he : PE X e (rE X.K fe)) (hs : swapsWith e (some (.Name x p')) pos.line X.env = pure false) (hf : X.fn x = true ∨ X.env.scope.names.lookup x = some .local) :
    PS X (.Assign [.Name x p'] e pos) (rS X.K [i] (dAsg i fe)) := PS.weak (ps_set hN hi hx he hs hf) (asg_weak fun _ _ _ h => h)
theorem sk_asgT {es : List Expr} {k : Nat} {ts : Tgs} (he : PE X e (rE X.K fe)) (hg : PG X (.Tuple es k p') (rG X.K (Tg.t ts).slots (Tg.t ts).put)) (hw : noTup e = true) (h1 : (assignEach [.Tuple es k p'] X.env).map (·.2) = [assign (.Tuple es k p') X.env]) :
    PS X (.Assign [.Tuple es k p'] e pos) (rS X.K (Tg.t ts).slots fun ρ => (do let (o, ρ) ← fe ρ; let d ← o.useD ρ; let ρ ← (Tg.t ts).put d ρ; .ok (.nx, ρ))) :=
  PS.weak (ps_asg he hg sw_tup (ss_no hw) h1) fun D σ H h => by
    obtain ⟨α, ρ, fl, ρ', e, hs, q⟩ := h
    obtain ⟨⟨o, ρ1⟩, e1, e⟩ := bind_ok e
    obtain ⟨d, e2, e⟩ := bind_ok e
    obtain ⟨ρ2, e3, e⟩ := bind_ok e
    cases e
    refine rE.one e1 hs fun va H1 h1 => ?_
    have h2 := h1.useD e2
    obtain ⟨G, r⟩ := h2.mem (List.mem_append_left _ (List.mem_cons_self ..))
    exact ⟨α, ρ1, d, ρ', e3, r.1, h2.drop, fun σ' h' _ a => q σ' H1 h' a⟩
/-! ### a, b = x, y -/
theorem uses_ok {K : PySem.W.Frag} {H : Hp} {ρ : Env} {σ : L2.St} : ∀ {os : List O} {vs : List V} {ss : List SV} {γ : List (SV × V)}, voks σ os vs → StR K H (tmps os vs ++ γ) ρ σ → uses ρ os = .ok ss → StR K H (ss.zip vs ++ γ) ρ σ ∧ ss.length = vs.length
  | [], [], _, _, _, h, e => by cases e; exact ⟨h, rfl⟩
  | [], _ :: _, _, _, k, _, _ => k.elim
  | _ :: _, [], _, _, k, _, _ => k.elim
  | o :: os, v :: vs, ss, γ, k, h, e => by
    obtain ⟨s, e1, e⟩ := bind_ok (show (o.use ρ >>= fun s => uses ρ os >>= fun r => R.ok (s :: r)) = .ok ss from e)
    obtain ⟨r, e2, e⟩ := bind_ok e
    cases e
    have h1 : StR K H (tmp o v ++ (tmps os vs ++ γ)) ρ σ := h.perm (by
      show ((tmps os vs ++ tmp o v) ++ γ).Perm _
      rw [← List.append_assoc]
      exact List.perm_append_comm.append_right _)
    have h2 := OSt.use (α := tmps os vs ++ γ) ⟨k.1, h1⟩ e1
    have h3 : StR K H (tmps os vs ++ ((s, v) :: γ)) ρ σ := h2.perm List.perm_middle.symm
    obtain ⟨h4, h5⟩ := uses_ok k.2 h3 e2
    exact ⟨h4.perm List.perm_middle, congrArg Nat.succ h5⟩
def setVs : List Nat → List V → L2.St → L2.St
  | i :: is, v :: vs, σ => setVs is vs (σ.set i (some v))
  | _, _, σ => σ
theorem setVs_agr : ∀ {is : List Nat} {vs : List V} {σ : L2.St}, Agr is σ (setVs is vs σ)
  | [], _, _ => by unfold setVs; exact Agr.refl
  | _ :: _, [], _ => by unfold setVs; exact Agr.refl
  | i :: is, v :: vs, σ => by
    unfold setVs
    intro j hj
    rw [setVs_agr (is := is) (vs := vs) j fun z => hj (List.mem_cons_of_mem _ z)]
    exact List.getElem?_set_ne fun z => hj (by rw [z]; exact List.mem_cons_self ..)
theorem puts_ok {K : PySem.W.Frag} {H : Hp} : ∀ {is : List Nat} {ss : List SV} {vs : List V} {γ : List (SV × V)} {ρ ρ' : Env} {σ : L2.St}, ss.length = vs.length → StR K H (ss.zip vs ++ γ) ρ σ → puts is ss ρ = .ok ρ' → StR K H γ ρ' (setVs is vs σ)
  | [], [], [], _, _, _, _, _, h, e => by cases e; exact h
  | [], [], _ :: _, _, _, _, _, hl, _, _ => by simp at hl
  | _, _ :: _, [], _, _, _, _, hl, _, _ => by simp at hl
  | [], _ :: _, _, _, _, _, _, _, _, e => by cases e
  | _ :: _, [], _, _, _, _, _, _, _, e => by cases e
  | i :: is, s :: ss, v :: vs, γ, ρ, ρ', σ, hl, h, e => by
    obtain ⟨c, e⟩ : i < ρ.length ∧ puts is ss (ρ.set i (some s)) = .ok ρ' := by
      have e' : (if i < ρ.length then puts is ss (ρ.set i (some s)) else .bad) = .ok ρ' := e
      by_cases c : i < ρ.length
      · rw [if_pos c] at e'; exact ⟨c, e'⟩
      · rw [if_neg c] at e'; cases e'
    have h1 : StR K H ((s, v) :: (ss.zip vs ++ γ)) ρ σ := h
    exact puts_ok (is := is) (by simpa using hl) (h1.put c) e
def okS : Expr → Bool
  | .Starred .. => false
  | _ => true
theorem star_off {vs : List Expr} (h : vs.all okS = true) : (vs.any fun | .Starred .. => true | _ => false) = false := by
  induction vs with
  | nil => rfl
  | cons v vs ih =>
    rw [List.all_cons, Bool.and_eq_true] at h
    rw [List.any_cons, ih h.2]
    cases v <;> first | rfl | cases h.1
theorem ss_par2 {x y : Str} {a b : Expr} {px py pt pt2 : Pos} {kt k2 : Nat} {env : PySem.Env} (hk : env.scope.kind = .function) (hx : env.scope.names.lookup x = some .local) (hy : env.scope.names.lookup y = some .local) (hl : (py.line == px.line) = true) (hne : x ≠ y)
    (ho : [a, b].all okS = true) (h1 : [a, b].all (foldedForSure 8) = false) (h2 : [a, b].all (constantsAlone 8) = false) :
    swappedStores [.Tuple [.Name x px, .Name y py] kt pt] (.Tuple [a, b] k2 pt2) env = pure (some [x, y]) := by
  have kx : env.kindOf x = some .local := hx
  have ky : env.kindOf y = some .local := hy
  have hb : env.blockKind = .function := by unfold Env.blockKind; rw [hk]; rfl
  have hd : ([x, y] : List Str).eraseDups = [x, y] := by
    have hf : (y == x) = false := beq_eq_false_iff_ne.mpr (Ne.symm hne)
    simp [List.eraseDups_cons, List.filter, hf]
  have so := star_off ho
  unfold swappedStores
  simp only [hb, so, h1, h2, List.filterMap_cons, List.filterMap_nil, kx, ky, List.head?_cons, Option.map_some, Option.getD_some, Expr.pos, hl, beq_self_eq_true, Bool.and_self, if_true]
  rw [hd]
  refine (if_neg (show ¬ (false = true) from Bool.false_ne_true)).trans ((if_neg fun z => Bool.noConfusion (show true = false from z.symm.trans so)).trans rfl)
theorem ss_par3 {x y z : Str} {a b c : Expr} {px py pz pt pt2 : Pos} {kt k2 : Nat} {env : PySem.Env} (hk : env.scope.kind = .function) (hx : env.scope.names.lookup x = some .local) (hy : env.scope.names.lookup y = some .local) (hz : env.scope.names.lookup z = some .local)
    (hl : (py.line == px.line) = true) (hl2 : (pz.line == px.line) = true) (hne : x ≠ y) (hne2 : x ≠ z) (hne3 : y ≠ z)
    (ho : [a, b, c].all okS = true) (h1 : [a, b, c].all (foldedForSure 8) = false) (h2 : [a, b, c].all (constantsAlone 8) = false) :
    swappedStores [.Tuple [.Name x px, .Name y py, .Name z pz] kt pt] (.Tuple [a, b, c] k2 pt2) env = pure (some [x, y, z]) := by
  have kx : env.kindOf x = some .local := hx
  have ky : env.kindOf y = some .local := hy
  have kz : env.kindOf z = some .local := hz
  have hb : env.blockKind = .function := by unfold Env.blockKind; rw [hk]; rfl
  have hd : ([x, y, z] : List Str).eraseDups = [x, y, z] := by
    have hf : (y == x) = false := beq_eq_false_iff_ne.mpr (Ne.symm hne)
    have hf2 : (z == x) = false := beq_eq_false_iff_ne.mpr (Ne.symm hne2)
    have hf3 : (z == y) = false := beq_eq_false_iff_ne.mpr (Ne.symm hne3)
    simp [List.eraseDups_cons, List.filter, hf, hf2, hf3]
  have so := star_off ho
  unfold swappedStores
  simp only [hb, so, h1, h2, List.filterMap_cons, List.filterMap_nil, kx, ky, kz, List.head?_cons, Option.map_some, Option.getD_some, Expr.pos, hl, hl2, beq_self_eq_true, Bool.and_self, if_true]
  rw [hd]
  refine (if_neg (show ¬ (false = true) from Bool.false_ne_true)).trans ((if_neg fun z => Bool.noConfusion (show true = false from z.symm.trans so)).trans rfl)
theorem par_weak {K : PySem.W.Frag} {is : List Nat} {fs : Env → R (List O × Env)} {ta : TA} (w : ∀ σ H Q, rA K fs σ H Q → ta σ H Q) (D : Ends) (σ : L2.St) (H : Hp)
    (h : rS K is (fun ρ => (do let (os, ρ) ← fs ρ; let ss ← uses ρ os; let ρ ← puts is ss ρ; .ok (.nx, ρ))) D σ H) : ta σ H fun vs H1 => vs.length = is.length ∧ D.nx (setVs is vs σ) H1 := by
  obtain ⟨α, ρ, fl, ρ', e, hs, q⟩ := h
  obtain ⟨⟨os, ρ1⟩, e1, e⟩ := bind_ok e
  obtain ⟨ss, e2, e⟩ := bind_ok e
  obtain ⟨ρ2, e3, e⟩ := bind_ok e
  cases e
  refine w _ _ _ ⟨α, ρ, os, ρ1, e1, hs, fun vs H1 h1 => ?_⟩
  obtain ⟨h2, hl⟩ := uses_ok h1.1 h1.2 e2
  have hl2 : ∀ (is : List Nat) (ss : List SV) (ρ ρ' : Env), puts is ss ρ = .ok ρ' → ss.length = is.length := fun is => by
    induction is with
    | nil => intro ss ρ ρ' e; cases ss with
      | nil => rfl
      | cons _ _ => cases e
    | cons i is ih => intro ss ρ ρ' e; cases ss with
      | nil => cases e
      | cons s ss =>
        have e' : (if i < ρ.length then puts is ss (ρ.set i (some s)) else .bad) = .ok ρ' := e
        by_cases c : i < ρ.length
        · rw [if_pos c] at e'; exact congrArg Nat.succ (ih _ _ _ e')
        · rw [if_neg c] at e'; cases e'
  exact ⟨by rw [← hl, hl2 _ _ _ _ e3], q _ H1 (puts_ok hl h2 e3) setVs_agr⟩
theorem sk_par2 {i j : Nat} {x y : Str} {a b : Expr} {fs : Env → R (List O × Env)} {px py pt pt2 : Pos} {kt k2 : Nat} (hc : X.calm = true) (hN : X.N.Nodup) (hi : X.N[i]? = some x) (hj : X.N[j]? = some y) (hij : i ≠ j)
    (hx : X.env.scope.names.lookup x = some .local) (hy : X.env.scope.names.lookup y = some .local) (ha : PA X [a, b] (rA X.K fs)) (hk : X.env.scope.kind = .function) (hl : (py.line == px.line) = true)
    (ho : [a, b].all okS = true) (h1 : [a, b].all (foldedForSure 8) = false) (h2 : [a, b].all (constantsAlone 8) = false) :
    PS X (.Assign [.Tuple [.Name x px, .Name y py] kt pt] (.Tuple [a, b] k2 pt2) pos) (rS X.K [i, j] fun ρ => (do let (os, ρ) ← fs ρ; let ss ← uses ρ os; let ρ ← puts [i, j] ss ρ; .ok (.nx, ρ))) := by
  have hne : x ≠ y := fun z => by
    subst z
    have hil : i < X.N.length := (List.getElem?_eq_some_iff.mp hi).1
    exact hij ((List.getElem?_inj hil hN).mp (hi.trans hj.symm))
  refine PS.weak (ps_par hc hN hi hj hij hx hy ha (ss_par2 hk hx hy hl hne ho h1 h2) sw_tup) fun D σ H h => ?_
  have := par_weak (K := X.K) (ta := fun σ H Q => rA X.K fs σ H Q) (fun _ _ _ z => z) D σ H h
  obtain ⟨α, ρ, os, ρ', e, hs, q⟩ := this
  refine ⟨α, ρ, os, ρ', e, hs, fun vs H1 h3 => ?_⟩
  obtain ⟨hlen, q⟩ := q vs H1 h3
  match vs, hlen, q with
  | [v, w], _, q => exact ⟨v, w, rfl, q⟩
theorem sk_par3 {i j l : Nat} {x y z : Str} {a b c : Expr} {fs : Env → R (List O × Env)} {px py pz pt pt2 : Pos} {kt k2 : Nat} (hc : X.calm = true) (hN : X.N.Nodup) (hi : X.N[i]? = some x) (hj : X.N[j]? = some y) (hz : X.N[l]? = some z) (hij : i ≠ j) (hil : i ≠ l) (hjl : j ≠ l)
    (hx : X.env.scope.names.lookup x = some .local) (hy : X.env.scope.names.lookup y = some .local) (hzl : X.env.scope.names.lookup z = some .local) (ha : PA X [a, b, c] (rA X.K fs)) (hk : X.env.scope.kind = .function) (hl : (py.line == px.line) = true) (hl2 : (pz.line == px.line) = true)
    (ho : [a, b, c].all okS = true) (h1 : [a, b, c].all (foldedForSure 8) = false) (h2 : [a, b, c].all (constantsAlone 8) = false) :
    PS X (.Assign [.Tuple [.Name x px, .Name y py, .Name z pz] kt pt] (.Tuple [a, b, c] k2 pt2) pos) (rS X.K [i, j, l] fun ρ => (do let (os, ρ) ← fs ρ; let ss ← uses ρ os; let ρ ← puts [i, j, l] ss ρ; .ok (.nx, ρ))) := by
  have ne : ∀ {i j : Nat} {x y : Str}, X.N[i]? = some x → X.N[j]? = some y → i ≠ j → x ≠ y := fun {i j x y} hi hj hij z => by
    subst z
    have hil : i < X.N.length := (List.getElem?_eq_some_iff.mp hi).1
    exact hij ((List.getElem?_inj hil hN).mp (hi.trans hj.symm))
  refine PS.weak (ps_par3 hc hN hi hj hz hij hil hjl hx hy hzl ha (ss_par3 hk hx hy hzl hl hl2 (ne hi hj hij) (ne hi hz hil) (ne hj hz hjl) ho h1 h2) sw_tup) fun D σ H h => ?_
  have := par_weak (K := X.K) (ta := fun σ H Q => rA X.K fs σ H Q) (fun _ _ _ z => z) D σ H h
  obtain ⟨α, ρ, os, ρ', e, hs, q⟩ := this
  refine ⟨α, ρ, os, ρ', e, hs, fun vs H1 h3 => ?_⟩
  obtain ⟨hlen, q⟩ := q vs H1 h3
  match vs, hlen, q with
  | [v, w, u], _, q => exact ⟨v, w, u, rfl, q⟩
def rSetD : V → V → V → Hp → (Hp → Prop) → Prop := fun o i v H Q => ∃ p H', o = .ref p ∧ DPut H p i v H' ∧ Q H'
theorem set_dic (hu : X.A.units + 1 < cLine) : PSet X rSetD := by
  intro pins s σ H o i v ov iv u Q I ro ri rv h
  obtain ⟨p, H', rfl, g, q⟩ := h
  obtain rfl : ov = Value.ref p := ro
  exact d_setItem hu I g ri rv fun s' I' => ⟨H', I', q⟩
theorem PSet.or {r r' : TSet} (h : PSet X r) (h' : PSet X r') : PSet X fun o i v H Q => r o i v H Q ∨ r' o i v H Q := by
  intro pins s σ H o i v ov iv u Q I ro ri rv q
  rcases q with q | q
  · exact h pins s σ H o i v ov iv u Q I ro ri rv q
  · exact h' pins s σ H o i v ov iv u Q I ro ri rv q
/-- what a slot owns is changed in its place -/
theorem StR.mutx {K : PySem.W.Frag} {H : Hp} {α : List (SV × V)} {ρ : Env} {σ : L2.St} {s s' : SV} {i : Nat} {p : Addr} {o : HO} (h : StR K H α ρ σ) (e : ρ[i]? = some (some s)) (e2 : σ[i]? = some (some (.ref p)))
    (hs : ∀ G, RS K H s (.ref p) G → G p) (r : RS K (upd H p o) s' (.ref p) (fun a => a = p)) : StR K (upd H p o) α (ρ.set i (some s')) σ := by
  have h1 := h.take e e2
  have hi : i < ρ.length := by
    rcases Nat.lt_or_ge i ρ.length with z | z
    · exact z
    · rw [List.getElem?_eq_none z] at e; cases e
  obtain ⟨F, o⟩ := h1.ow
  obtain ⟨F', o'⟩ := Ow.mutx o hs r
  exact StR.back ⟨h1.len, h1.ok, F', o'⟩ hi e2
theorem putS_ok {K : PySem.W.Frag} {H : Hp} {α : List (SV × V)} {ρ : Env} {σ : L2.St} {w w' : SV} {t : SV} {x : D} {v vk vx : V} {G : Addr → Prop} {i : Nat} {D : Hp → Prop} (h : StR K H α ρ σ) (e : ρ[i]? = some (some w)) (e2 : σ[i]? = some (some v))
    (hk : RS K H t vk G) (hx : Rp K H x vx) (ep : putS w t x = .ok w') (q : ∀ H', StR K H' α (ρ.set i (some w')) σ → D H') : rSetL v vk vx H D ∨ rSetD v vk vx H D := by
  obtain ⟨G1, r1⟩ := h.mem (List.mem_append_right _ (pick_mem e e2))
  cases w with
  | d y => cases ep
  | l xs =>
    cases t with
    | l _ => cases ep
    | ow _ => cases ep
    | d k =>
      cases k with
      | int j =>
        have ep : (match ixN xs.length j with | some n => R.ok (SV.l (xs.set n x)) | none => R.bad) = .ok w' := ep
        cases en : ixN xs.length j with
        | none => rw [en] at ep; cases ep
        | some n =>
          rw [en] at ep
          cases ep
          obtain ⟨p, vs, rfl, hp, r, _⟩ := r1
          exact .inl ⟨p, vs, j, n, rfl, rs_int hk, hp, by rw [← r.len]; exact en, q _ (h.mut e e2 (r.set hx n))⟩
      | _ => cases ep
  | ow o =>
    cases t with
    | l _ => cases o <;> cases ep
    | ow _ => cases o <;> cases ep
    | d k =>
      cases o with
      | k _ _ _ => cases ep
      | kt _ _ _ => cases ep
      | fn _ => cases ep
      | m t kvs =>
        obtain ⟨⟨c1, c2⟩, e3⟩ := if_ok (show (if keyOk t k = true ∧ kvs.length < LIM then R.ok (SV.ow (.m t (putD kvs k x))) else .bad) = .ok w' from ep)
        cases e3
        cases t with
        | false =>
          obtain ⟨p, ks, rfl, hp, r, hg⟩ := r1
          obtain ⟨j, rfl⟩ := kyD_of (show isKy k = true from c1)
          have m : Mut (H p) := by rw [hp]; trivial
          refine .inr ⟨p, _, rfl, by rw [kyD_rp hk.1]; exact DPut.k hp (by rw [← r.len, ← lim_eq]; exact c2), q _ (h.mutx e e2 (fun G r => ?_) ⟨p, _, rfl, upd_same, RpKs.stay (.mut m) _ _ (r.put j hx), fun _ => Iff.rfl⟩)⟩
          obtain ⟨p', _, e, _, _, hg⟩ := r
          cases e
          exact (hg _).mpr rfl
        | true =>
          obtain ⟨p, ks, rfl, hp, r, hg⟩ := r1
          have m : Mut (H p) := by rw [hp]; trivial
          cases k with
          | tuple ds =>
            obtain ⟨c3, c4⟩ := kyT_of (show (ds.all isKy && !strsD ds) = true from c1)
            obtain ⟨js, rfl⟩ := kyDs_of c3
            obtain ⟨h3, _⟩ := hk
            cases h3 with
            | @tupS b ys _ _ h4 h3 =>
              replace h3 := h3.resolve_right (by rw [c4]; exact Bool.false_ne_true)
              rw [kyDs_rp h4] at h3
              refine .inr ⟨p, _, rfl, DPut.t hp h3 (by rw [← r.len, ← lim_eq]; exact c2), q _ (h.mutx e e2 (fun G r => ?_) ⟨p, _, rfl, upd_same, RpTs.stay (.mut m) _ _ (r.put js hx), fun _ => Iff.rfl⟩)⟩
              obtain ⟨p', _, e, _, _, hg⟩ := r
              cases e
              exact (hg _).mpr rfl
          | _ => cases c1
theorem sk_seti (hu : X.A.units + 1 < cLine) {i : Nat} {x : Str} {ke : Expr} {fk : Env → R (O × Env)} {px ps : Pos} (hN : X.N[i]? = some x) (hv : Vis X.env.scope x) (hd : (x == ("__debug__" : Str)) = false) (hcd : (x == ("__classdict__" : Str)) = false)
    (hk : PE X ke (rE X.K fk)) (he : PE X e (rE X.K fe))
    (ha : ∀ v, assign (.Subscript (.Name x px) ke ps) X.env v = (do
      let ov ← holding [v] (eval (.Name x px) X.env)
      let iv ← holding [v, ov] (eval ke X.env)
      standAt ps
      holding [v, ov, iv] (setItem ov iv v)
      release [v, ov, iv] [])) :
    PS X (.Assign [.Subscript (.Name x px) ke ps] e pos) (rS X.K [] fun ρ => (do
      let (o, ρ) ← fe ρ
      let _ ← rd ρ i
      let (q, ρ) ← fk ρ
      let x ← o.useD ρ
      let t ← q.get ρ
      let w ← rd ρ i
      let w' ← putS w t x
      .ok (.nx, ρ.set i (some w')))) :=
  PS.weak (ps_asg he (pg_sub (pe_var hN hv hd hcd) hk (PSet.or set_list (set_dic hu)) ha) sw_sub ss_sub rfl) fun D σ H h => by
    obtain ⟨α, ρ, fl, ρ', e, hs, q⟩ := h
    obtain ⟨⟨oa, ρ1⟩, e1, e⟩ := bind_ok e
    obtain ⟨w0, e0, e⟩ := bind_ok e
    obtain ⟨⟨oq, ρ2⟩, e2, e⟩ := bind_ok e
    obtain ⟨d, e3, e⟩ := bind_ok e
    obtain ⟨t, e4, e⟩ := bind_ok e
    obtain ⟨w, e5, e⟩ := bind_ok e
    obtain ⟨w', e6, e⟩ := bind_ok e
    cases e
    refine rE.one e1 hs fun va H1 h1 => ?_
    obtain ⟨v, ev, m⟩ := h1.2.slot (rd_ok e0)
    refine ⟨v, ev, rE.one e2 h1.2 fun vk H2 h2 => ?_⟩
    obtain ⟨G, rk⟩ := h2.get e4
    have rx := useD_rp h2.2 h1.1 (fun p m => List.mem_append_right _ (List.mem_append_left _ m)) e3
    exact putS_ok (h2.2.dropL.dropL) (rd_ok e5) ev rk rx e6 fun H' h' => q _ _ h' Agr.refl
theorem sk_aug {i : Nat} {x : Str} (hN : X.N.Nodup) (hi : X.N[i]? = some x) (hx : Loc X.env.scope x) (he : PE X e (rE X.K fe)) (hf : X.fn x = true ∨ X.env.scope.names.lookup x = some .local) :
    PS X (.AugAssign (.Name x p') .Add e pos) (rS X.K [i] fun ρ => (do let s ← rd ρ i; let a ← isI s; let (o, ρ) ← fe ρ; let t ← o.get ρ; let b ← isI t; if i < ρ.length then .ok (.nx, ρ.set i (some (.d (.int (a + b))))) else .bad)) :=
  PS.weak (ps_aug hN hi hx he ip_add hf) fun D σ H h => by
    obtain ⟨α, ρ, fl, ρ', e, hs, q⟩ := h
    obtain ⟨s, e1, e⟩ := bind_ok e
    obtain ⟨a, e2, e⟩ := bind_ok e
    obtain ⟨⟨o, ρ1⟩, e3, e⟩ := bind_ok e
    obtain ⟨t, e4, e⟩ := bind_ok e
    obtain ⟨b, e5, e⟩ := bind_ok e
    obtain ⟨hi, e⟩ := if_ok e
    cases e
    cases isI_ok e2
    cases isI_ok e5
    obtain ⟨v, ev, m⟩ := hs.slot (rd_ok e1)
    obtain ⟨G, r⟩ := hs.mem m
    refine ⟨v, ev, rE.one e3 hs fun va H1 h1 => ?_⟩
    obtain ⟨G2, r2⟩ := h1.get e4
    refine ⟨a, b, rs_int r, rs_int r2, q _ _ ((h1.st.pure (.int _)).put hi) fun j hj => ?_⟩
    exact List.getElem?_set_ne fun z => hj (by rw [z]; exact List.mem_singleton.mpr rfl)
end

/-! ### blocks, tests, loops -/
section
variable {X : Cx} {e : Expr} {fe : Env → R (O × Env)} {pos p' : Pos} {A B : List Nat} {fa fb : Env → R (Fl × Env)} {st : Stmt} {rest ss ts : List Stmt} {fc : Env → R (Bool × Env)}
theorem PS.wide {K : PySem.W.Frag} (h : PS X st (rS X.K A fa)) (m : ∀ i, i ∈ A → i ∈ B) : PS X st (rS X.K B fa) := PS.weak h fun D σ H h => by
  obtain ⟨α, ρ, fl, ρ', e, hs, q⟩ := h
  exact ⟨α, ρ, fl, ρ', e, hs, q.mono m⟩
theorem sk_nil : PSs X [] (rS X.K [] fun ρ => .ok (.nx, ρ)) := PSs.weak pss_nil fun D σ H h => by
  obtain ⟨α, ρ, fl, ρ', e, hs, q⟩ := h
  cases e
  exact q σ H hs Agr.refl
theorem sk_pass : PS X (.Pass pos) (rS X.K [] fun ρ => .ok (.nx, ρ)) := PS.weak ps_pass fun D σ H h => by
  obtain ⟨α, ρ, fl, ρ', e, hs, q⟩ := h
  cases e
  exact q σ H hs Agr.refl
theorem sk_brk : PS X (.Break pos) (rS X.K [] fun ρ => .ok (.brk, ρ)) := PS.weak ps_break fun D σ H h => by
  obtain ⟨α, ρ, fl, ρ', e, hs, q⟩ := h
  cases e
  exact q σ H hs Agr.refl
theorem sk_cnt : PS X (.Continue pos) (rS X.K [] fun ρ => .ok (.cnt, ρ)) := PS.weak ps_continue fun D σ H h => by
  obtain ⟨α, ρ, fl, ρ', e, hs, q⟩ := h
  cases e
  exact q σ H hs Agr.refl
theorem sk_dead : PS X st (rS X.K [] fun _ => .bad) := PS.weak ps_never fun D σ H h => by
  obtain ⟨α, ρ, fl, ρ', e, hs, q⟩ := h
  cases e
theorem sk_retn : PS X (.Return none pos) (rS X.K [] fun ρ => .ok (.ret (.d .none), ρ)) := PS.weak ps_retN fun D σ H h => by
  obtain ⟨α, ρ, fl, ρ', e, hs, q⟩ := h
  cases e
  exact q .non σ H (hs.pure .non) Agr.refl
theorem sk_ret (he : PE X e (rE X.K fe)) : PS X (.Return (some e) pos) (rS X.K [] fun ρ => (do let (o, ρ) ← fe ρ; let s ← o.use ρ; .ok (.ret s, ρ))) := PS.weak (ps_ret he) fun D σ H h => by
  obtain ⟨α, ρ, fl, ρ', e, hs, q⟩ := h
  obtain ⟨⟨o, ρ1⟩, e1, e⟩ := bind_ok e
  obtain ⟨s, e2, e⟩ := bind_ok e
  cases e
  exact rE.one e1 hs fun va H1 h1 => q va σ H1 (h1.use e2) Agr.refl
theorem sk_ex (he : PE X e (rE X.K fe)) (hs : noComp e = true) : PS X (.Expr e pos) (rS X.K [] fun ρ => (do let (_, ρ) ← fe ρ; .ok (.nx, ρ))) := PS.weak (ps_expr he (sw_no hs)) fun D σ H h => by
  obtain ⟨α, ρ, fl, ρ', e, hs, q⟩ := h
  obtain ⟨⟨o, ρ1⟩, e1, e⟩ := bind_ok e
  cases e
  exact rE.one e1 hs fun va H1 h1 => q σ H1 h1.st Agr.refl
def dSeq (fa fb : Env → R (Fl × Env)) : Env → R (Fl × Env) := fun ρ => (do
  let (f, ρ) ← fa ρ
  match f with
  | .nx => fb ρ
  | f => .ok (f, ρ))
theorem sk_cons (h1 : PS X st (rS X.K A fa)) (h2 : PSs X rest (rS X.K B fb)) : PSs X (st :: rest) (rS X.K (A ++ B) (dSeq fa fb)) := PSs.weak (pss_cons h1 h2) fun D σ H h => by
  obtain ⟨α, ρ, fl, ρ', e, hs, q⟩ := h
  obtain ⟨⟨f, ρ1⟩, e1, e⟩ := bind_ok e
  refine ⟨α, ρ, f, ρ1, e1, hs, ?_⟩
  cases f with
  | nx =>
    intro σ1 H1 h1 a1
    exact ⟨α, ρ1, fl, ρ', e, h1, (q.pre (a1.mono fun i z => List.mem_append_left _ z)).mono fun i z => List.mem_append_right _ z⟩
  | brk => cases e; exact fun σ1 H1 h1 a1 => q σ1 H1 h1 (a1.mono fun i z => List.mem_append_left _ z)
  | cnt => cases e; exact fun σ1 H1 h1 a1 => q σ1 H1 h1 (a1.mono fun i z => List.mem_append_left _ z)
  | ret s => cases e; exact fun v σ1 H1 h1 a1 => q v σ1 H1 h1 (a1.mono fun i z => List.mem_append_left _ z)
def dIfS (fc : Env → R (Bool × Env)) (fa fb : Env → R (Fl × Env)) : Env → R (Fl × Env) := fun ρ => (do let (k, ρ) ← fc ρ; if k = true then fa ρ else fb ρ)
theorem sk_if {c : Expr} (hc : PT X c (rT X.K fc)) (ha : PSs X ss (rS X.K A fa)) (hb : PSs X ts (rS X.K B fb)) : PS X (.If c ss ts pos) (rS X.K (A ++ B) (dIfS fc fa fb)) := PS.weak (ps_if hc ha hb) fun D σ H h => by
  obtain ⟨α, ρ, fl, ρ', e, hs, q⟩ := h
  obtain ⟨⟨k, ρ1⟩, e1, e⟩ := bind_ok e
  refine ⟨α, ρ, k, ρ1, e1, hs, fun H1 h1 => ?_⟩
  cases k with
  | true => rw [if_pos rfl]; exact ⟨α, ρ1, fl, ρ', e, h1, q.mono fun i z => List.mem_append_left _ z⟩
  | false => rw [if_neg Bool.false_ne_true]; exact ⟨α, ρ1, fl, ρ', e, h1, q.mono fun i z => List.mem_append_right _ z⟩
theorem forGo_cons {t : Tg} {b : Env → R (Fl × Env)} {d : D} {ds : List D} {ρ ρ' : Env} {fl : Fl} (e : forGo t b (d :: ds) ρ = .ok (fl, ρ')) :
    ∃ ρ1 f ρ2, t.put d ρ = .ok ρ1 ∧ b ρ1 = .ok (f, ρ2) ∧ (match f with | .ret s => (Fl.ret s, ρ2) = (fl, ρ') | .brk => (Fl.nx, ρ2) = (fl, ρ') | _ => forGo t b ds ρ2 = .ok (fl, ρ')) := by
  obtain ⟨ρ1, e1, e⟩ := bind_ok e
  obtain ⟨⟨f, ρ2⟩, e2, e⟩ := bind_ok e
  refine ⟨ρ1, f, ρ2, e1, e2, ?_⟩
  cases f with
  | nx => exact e
  | cnt => exact e
  | brk => exact ok_inj e
  | ret s => exact ok_inj e
theorem sk_for {tg iter : Expr} {t : Tg} {fit : Env → R (List D × Env)} {vs Tb : List Nat} (hc : X.calm = true) (hx : ∀ e s, ¬ X.xe e s) (hi : PI X tg iter (rI X.K vs fit)) (hg : PG X tg (rG X.K t.slots t.put)) (hb : PSs X ss (rS X.K A fb))
    (hn : noSet iter = true) (pb : ∀ ρ, Pr Tb ρ (fb ρ)) (hv : ∀ i, i ∈ vs → i ∉ t.slots ∧ i ∉ A ∧ i ∉ Tb) :
    PS X (.For tg iter ss [] pos) (rS X.K (t.slots ++ A) fun ρ => (do let (ds, ρ) ← fit ρ; forGo t fb ds ρ)) :=
  PS.weak (ps_for (fun _ _ h => (hx _ _ h).elim) hc hi hg hb (fs_no hn)) fun D σ H h => by
    obtain ⟨α, ρ, fl, ρ', e, hs, q⟩ := h
    obtain ⟨⟨ds, ρ1⟩, e1, e⟩ := bind_ok e
    refine ⟨α, ρ, ds, ρ1, e1, hs, fun J H1 α' P h1 wk ps => ?_⟩
    let W : Nat → Nat → L2.St → Hp → Prop := fun i m σc Hc => ∃ ρx, m = ds.length - i ∧ i ≤ ds.length ∧ forGo t fb (ds.drop i) ρx = .ok (fl, ρ') ∧ StR X.K Hc (α' ++ α) ρx σc ∧ Agr (t.slots ++ A) σ σc ∧ ∀ j, j ∈ vs → ρx[j]? = ρ1[j]?
    refine ⟨W, ⟨ds.length, ρ1, rfl, Nat.zero_le _, e, h1, Agr.refl, fun _ _ => rfl⟩, ?_⟩
    rintro i m σc Hc ⟨ρx, rfl, hi, eg, hcs, ag, hk⟩
    have hnA : ∀ j, j ∈ vs → j ∉ t.slots ++ A := fun j hj z => (List.mem_append.mp z).elim (hv j hj).1 (hv j hj).2.1
    have hP : P Hc := ps Hc _ _ _ hcs fun j hj => ⟨hk j hj, ag j (hnA j hj)⟩
    by_cases hlt : i < ds.length
    · refine .inr ⟨wk.go i Hc hlt hP, W (i + 1) (ds.length - (i + 1)), fun σ' H' w => ⟨_, by omega, w⟩, fun x H' y => ?_⟩
      obtain ⟨d, hd, stp⟩ := wk.yld i Hc x H' hlt hP y
      rw [List.drop_eq_getElem_cons hlt] at eg
      rw [List.getElem?_eq_getElem hlt] at hd
      rw [Option.some.inj hd] at eg
      obtain ⟨ρ3, f, ρ4, e3, e4, eg⟩ := forGo_cons eg
      have h2 := hcs.step stp
      obtain ⟨G, rx⟩ := h2.mem (List.mem_append_left _ (List.mem_cons_self ..))
      refine ⟨_, _, d, ρ3, e3, rx.1, h2.drop, fun σ2 h3 l2 a2 => ⟨_, ρ3, f, ρ4, e4, h3, ?_⟩⟩
      have a3 : Agr (t.slots ++ A) σ σ2 := ag.trans (a2.mono fun i z => List.mem_append_left _ z)
      have k4 : ∀ j, j ∈ vs → ρ4[j]? = ρ1[j]? := fun j hj => by
        rw [pb ρ3 f ρ4 e4 j (hv j hj).2.2, Tg.put_get t d _ _ e3 j (hv j hj).1]
        exact hk j hj
      cases f with
      | nx => exact fun σ3 H3 h4 a4 => ⟨ρ4, rfl, hlt, eg, h4, a3.trans (a4.mono fun i z => List.mem_append_right _ z), k4⟩
      | cnt => exact fun σ3 H3 h4 a4 => ⟨ρ4, rfl, hlt, eg, h4, a3.trans (a4.mono fun i z => List.mem_append_right _ z), k4⟩
      | brk =>
        cases eg
        exact fun σ3 H3 h4 a4 => q σ3 H3 h4.dropL (a3.trans (a4.mono fun i z => List.mem_append_right _ z))
      | ret s =>
        cases eg
        exact fun v σ3 H3 h4 a4 => q v σ3 H3 (h4.sub (List.Sublist.cons_cons _ (List.sublist_append_right _ _))) (a3.trans (a4.mono fun i z => List.mem_append_right _ z))
    · have hie : i = ds.length := by omega
      subst hie
      rw [List.drop_length] at eg
      have eg' : (R.ok (Fl.nx, ρx)) = .ok (fl, ρ') := eg
      cases eg'
      exact .inl ⟨wk.stop Hc hP, q σc Hc hcs.dropL ag⟩
theorem whGo_succ {c : Env → R (Bool × Env)} {b : Env → R (Fl × Env)} {n : Nat} {ρ ρ' : Env} {fl : Fl} (e : whGo c b (n + 1) ρ = .ok (fl, ρ')) :
    ∃ k ρ1, c ρ = .ok (k, ρ1) ∧ ((k = false ∧ fl = .nx ∧ ρ' = ρ1) ∨ (k = true ∧ ∃ f ρ2, b ρ1 = .ok (f, ρ2) ∧ (match f with | .ret s => (Fl.ret s, ρ2) = (fl, ρ') | .brk => (Fl.nx, ρ2) = (fl, ρ') | _ => whGo c b n ρ2 = .ok (fl, ρ')))) := by
  obtain ⟨⟨k, ρ1⟩, e1, e⟩ := bind_ok (show (c ρ >>= fun p => if p.1 = true then (b p.2 >>= fun q => match q.1 with | .ret s => R.ok (Fl.ret s, q.2) | .brk => .ok (.nx, q.2) | _ => whGo c b n q.2) else .ok (.nx, p.2)) = .ok (fl, ρ') from e)
  refine ⟨k, ρ1, e1, ?_⟩
  cases k with
  | false => cases e; exact .inl ⟨rfl, rfl, rfl⟩
  | true =>
    obtain ⟨⟨f, ρ2⟩, e2, e⟩ := bind_ok (show (b ρ1 >>= fun q => match q.1 with | .ret s => R.ok (Fl.ret s, q.2) | .brk => .ok (.nx, q.2) | _ => whGo c b n q.2) = .ok (fl, ρ') from e)
    refine .inr ⟨rfl, f, ρ2, e2, ?_⟩
    cases f with
    | nx => exact e
    | cnt => exact e
    | brk => exact ok_inj e
    | ret s => exact ok_inj e
theorem sk_while {c : Expr} {n : Nat} (hx : ∀ e s, ¬ X.xe e s) (hc : PT X c (rT X.K fc)) (hb : PSs X ss (rS X.K A fb)) : PS X (.While c ss [] pos) (rS X.K A (whGo fc fb n)) :=
  PS.weak (ps_while (fun _ _ h => (hx _ _ h).elim) hc hb) fun D σ H h => by
    obtain ⟨α, ρ, fl, ρ', e, hs, q⟩ := h
    let W : Nat → L2.St → Hp → Prop := fun m σc Hc => ∃ ρx, whGo fc fb m ρx = .ok (fl, ρ') ∧ StR X.K Hc α ρx σc ∧ Agr A σ σc
    refine ⟨W, ⟨n, ρ, e, hs, Agr.refl⟩, ?_⟩
    rintro m σc Hc ⟨ρx, eg, hcs, ag⟩
    cases m with
    | zero => cases eg
    | succ m =>
      obtain ⟨k, ρ1, e1, ee⟩ := whGo_succ eg
      refine ⟨α, ρx, k, ρ1, e1, hcs, fun H1 h1 => ?_⟩
      rcases ee with ⟨rfl, rfl, rfl⟩ | ⟨rfl, f, ρ2, e2, eg⟩
      · show (if false = true then _ else _)
        rw [if_neg Bool.false_ne_true]
        exact q σc H1 h1 ag
      · show (if true = true then _ else _)
        rw [if_pos rfl]
        refine ⟨W m, fun σ' H' w => ⟨m, Nat.lt_succ_self _, w⟩, α, ρ1, f, ρ2, e2, h1, ?_⟩
        cases f with
        | nx => exact fun σ3 H3 h4 a4 => ⟨ρ2, eg, h4, ag.trans a4⟩
        | cnt => exact fun σ3 H3 h4 a4 => ⟨ρ2, eg, h4, ag.trans a4⟩
        | brk =>
          cases eg
          exact fun σ3 H3 h4 a4 => q σ3 H3 h4 (ag.trans a4)
        | ret s =>
          cases eg
          exact fun v σ3 H3 h4 a4 => q v σ3 H3 h4 (ag.trans a4)
end
end Dn

set_option Elab.async false
set_option linter.all false
set_option maxRecDepth 100000
set_option maxHeartbeats 4000000
/-! Dn, part K: a piece is held against the text. -/
namespace Dn
open PySem PySem.Spec PyProof.Rows L2

structure Ck where
  N : List Str
  fns : List Str
  blt : List Str
  md : Str → List PM
  gls : List (Str × GV)
  top : Bool
  fvs : List Str
def visB (sc : Scope) (x : Str) : Bool := match sc.names.lookup x with
  | some .local => true
  | some .cell => true
  | some .free => true
  | _ => false
def locB (sc : Scope) (x : Str) : Bool := match sc.names.lookup x with
  | some .local => true
  | some .cell => true
  | _ => false
def lclB (sc : Scope) (x : Str) : Bool := match sc.names.lookup x with
  | some .local => true
  | _ => false
def glB (sc : Scope) (x : Str) : Bool := match sc.names.lookup x with
  | some .globalImplicit => true
  | _ => false
def slotB (C : Ck) (sc : Scope) (i : Nat) (x : Str) : Bool := decide (C.N[i]? = some x) && (visB sc x && (!(x == ("__debug__" : Str)) && !(x == ("__classdict__" : Str))))
def bltB (C : Ck) (sc : Scope) (x : Str) : Bool := glB sc x && C.blt.contains x
def okx : Expr → Bool
  | .Starred .. => false
  | .Slice .. => false
  | .Set .. => false
  | .NamedExpr .. => false
  | _ => true
def plainT : Expr → Bool
  | .UnaryOp .Not _ _ => false
  | .BoolOp .. => false
  | .IfExp .. => false
  | .Compare .. => false
  | _ => true
def okB (scope : Scope) : Str → Bool := fun x => scope.names.lookup x == some .cell
mutual
def Tg.chk (C : Ck) (sc : Scope) (okc : Str → Bool) : Tg → Expr → Bool
  | .n i, y => match y with
    | .Name x _ => decide (C.N[i]? = some x) && (locB sc x && (okc x || lclB sc x))
    | _ => false
  | .t ts, y => match y with
    | .Tuple ys _ _ => Tgs.chk C sc okc ts ys
    | _ => false
def Tgs.chk (C : Ck) (sc : Scope) (okc : Str → Bool) : Tgs → List Expr → Bool
  | .nil, ys => match ys with
    | [] => true
    | _ :: _ => false
  | .cons t r, ys => match ys with
    | y :: ys => okx y && (Tg.chk C sc okc t y && Tgs.chk C sc okc r ys)
    | [] => false
end
def E.tst : E → Expr → Bool
  | .and a b, y => match y with
    | .BoolOp _ (y1 :: y2 :: ys) p => a.tst y1 && (match ys with
      | [] => b.tst y2
      | _ :: _ => b.tst (.BoolOp .And (y2 :: ys) p))
    | _ => false
  | .or a b, y => match y with
    | .BoolOp _ (y1 :: y2 :: ys) p => a.tst y1 && (match ys with
      | [] => b.tst y2
      | _ :: _ => b.tst (.BoolOp .Or (y2 :: ys) p))
    | _ => false
  | .not a, y => match y with
    | .UnaryOp _ y1 _ => a.tst y1
    | _ => false
  | .cmp .., _ => true
  | .chain .., _ => true
  | .ifx .., _ => false
  | .fz .., _ => false
  | .non, y => plainT y
  | .bl _, y => plainT y
  | .int _, y => plainT y
  | .str _, y => plainT y
  | .var _, y => plainT y
  | .mv _, y => plainT y
  | .glob _, y => plainT y
  | .tup _, y => plainT y
  | .lst _, y => plainT y
  | .bin .., y => plainT y
  | .neg _, y => plainT y
  | .idx .., y => plainT y
  | .slB .., y => plainT y
  | .slF .., y => plainT y
  | .slT .., y => plainT y
  | .rev _, y => plainT y
  | .call .., y => plainT y
  | .bf .., y => plainT y
  | .bf2 .., y => plainT y
  | .isi .., y => plainT y
  | .lc0 .., y => plainT y
  | .lc1 .., y => plainT y
  | .app .., y => plainT y
  | .ext .., y => plainT y
  | .mth .., y => plainT y
  | .dct0, y => plainT y
  | .dct1 .., y => plainT y
  | .dctO _, y => plainT y
  | .dctP .., y => plainT y
  | .get1 .., y => plainT y
  | .get2 .., y => plainT y
  | .tm .., y => plainT y
  | .fnv _, y => plainT y
  | .callv .., y => plainT y
/-- what a method is called of -/
def okO : Expr → Bool
  | .Name .. => true
  | .Subscript .. => true
  | .Constant .. => true
  | _ => false
def Es.n : Es → Nat
  | .nil => 0
  | .cons _ r => r.n + 1
def apart (a b : List Nat) : Bool := a.all fun i => !(b.contains i)
def isTup' : Expr → Bool
  | .Tuple .. => true
  | _ => false
mutual
def E.chk (C : Ck) : E → Scope → (Str → Bool) → Expr → Bool
  | .non, sc, okc, y => match y with
    | .Constant c _ _ => decide (c = .none)
    | _ => false
  | .bl b, sc, okc, y => match y with
    | .Constant c _ _ => decide (c = .bool b)
    | _ => false
  | .int i, sc, okc, y => match y with
    | .Constant c _ _ => decide (c = .int i)
    | _ => false
  | .str x, sc, okc, y => match y with
    | .Constant c _ _ => decide (c = .str x)
    | _ => false
  | .var i, sc, okc, y => match y with
    | .Name x _ => slotB C sc i x
    | _ => false
  | .mv i, sc, okc, y => match y with
    | .Name x _ => slotB C sc i x
    | _ => false
  | .fz e, sc, okc, y => E.chk C e sc okc y
  | .glob x, sc, okc, y => match y with
    | .Name z _ => decide (z = x) && (glB sc x && ((C.gls.lookup x).isSome && !(x == ("__debug__" : Str))))
    | _ => false
  | .tup es, sc, okc, y => match y with
    | .Tuple ys _ _ => decide (es.n ≤ 1000) && Es.chk C es sc okc ys
    | _ => false
  | .lst es, sc, okc, y => match y with
    | .List ys _ => decide (es.n ≤ 1000) && Es.chk C es sc okc ys
    | _ => false
  | .bin op a b, sc, okc, y => match y with
    | .BinOp y1 o y2 _ => decide (o = op.py) && (E.chk C a sc okc y1 && E.chk C b sc okc y2)
    | _ => false
  | .neg a, sc, okc, y => match y with
    | .UnaryOp o y1 _ => decide (o = .USub) && E.chk C a sc okc y1
    | _ => false
  | .cmp op a b, sc, okc, y => match y with
    | .Compare y1 [o] [y2] _ => decide (o = op.py) && (okx y2 && (E.chk C a sc okc y1 && E.chk C b sc okc y2))
    | _ => false
  | .chain op op' a b c, sc, okc, y => match y with
    | .Compare y1 [o, o'] [y2, y3] _ => decide (o = op.py) && (decide (o' = op'.py) && (okx y3 && (E.chk C a sc okc y1 && (E.chk C b sc okc y2 && E.chk C c sc okc y3))))
    | _ => false
  | .and a b, sc, okc, y => match y with
    | .BoolOp o (y1 :: y2 :: ys) p => decide (o = .And) && (E.chk C a sc okc y1 && (match ys with
      | [] => E.chk C b sc okc y2
      | _ :: _ => E.chk C b sc okc (.BoolOp .And (y2 :: ys) p)))
    | _ => false
  | .or a b, sc, okc, y => match y with
    | .BoolOp o (y1 :: y2 :: ys) p => decide (o = .Or) && (E.chk C a sc okc y1 && (match ys with
      | [] => E.chk C b sc okc y2
      | _ :: _ => E.chk C b sc okc (.BoolOp .Or (y2 :: ys) p)))
    | _ => false
  | .not a, sc, okc, y => match y with
    | .UnaryOp o y1 _ => decide (o = .Not) && E.chk C a sc okc y1
    | _ => false
  | .ifx c a b, sc, okc, y => match y with
    | .IfExp y1 y2 y3 _ => c.tst y1 && (E.chk C c sc okc y1 && (E.chk C a sc okc y2 && E.chk C b sc okc y3))
    | _ => false
  | .idx a b, sc, okc, y => match y with
    | .Subscript y1 y2 _ => okx y2 && (E.chk C a sc okc y1 && E.chk C b sc okc y2)
    | _ => false
  | .slB a lo hi, sc, okc, y => match y with
    | .Subscript y1 (.Slice (some y2) (some y3) none _) _ => E.chk C a sc okc y1 && (E.chk C lo sc okc y2 && E.chk C hi sc okc y3)
    | _ => false
  | .slF a lo, sc, okc, y => match y with
    | .Subscript y1 (.Slice (some y2) none none _) _ => E.chk C a sc okc y1 && E.chk C lo sc okc y2
    | _ => false
  | .slT a hi, sc, okc, y => match y with
    | .Subscript y1 (.Slice none (some y3) none _) _ => E.chk C a sc okc y1 && E.chk C hi sc okc y3
    | _ => false
  | .rev a, sc, okc, y => match y with
    | .Subscript y1 (.Slice none none (some (.UnaryOp o (.Constant c _ _) _)) _) _ => decide (o = .USub) && (decide (c = .int 1) && E.chk C a sc okc y1)
    | _ => false
  | .call f es, sc, okc, y => match y with
    | .Call (.Name x _) (y1 :: ys) [] _ => decide (x = f) && (glB sc f && (C.fns.contains f && (!(f == ("__debug__" : Str)) && Es.chk C es sc okc (y1 :: ys))))
    | _ => false
  | .bf f a, sc, okc, y => if f = .lenset then (match y with
    | .Call (.Name x _) [.Call (.Name z _) [y1] [] _] [] _ => decide (x = ("len" : Str)) && (decide (z = ("set" : Str)) && (bltB C sc "len" && (bltB C sc "set" && (okx y1 && E.chk C a sc okc y1))))
    | _ => false) else if f = .sortedset then (match y with
    | .Call (.Name x _) [.Call (.Name z _) [y1] [] _] [] _ => decide (x = ("sorted" : Str)) && (decide (z = ("set" : Str)) && (bltB C sc "sorted" && (bltB C sc "set" && (okx y1 && E.chk C a sc okc y1))))
    | _ => false) else if f = .lrng then (match y with
    | .Call (.Name x _) [.Call (.Name z _) [y1] [] _] [] _ => decide (x = ("list" : Str)) && (decide (z = ("range" : Str)) && (bltB C sc "list" && (bltB C sc "range" && (okx y1 && E.chk C a sc okc y1))))
    | _ => false) else if f = .trng then (match y with
    | .Call (.Name x _) [.Call (.Name z _) [y1] [] _] [] _ => decide (x = ("tuple" : Str)) && (decide (z = ("range" : Str)) && (bltB C sc "tuple" && (bltB C sc "range" && (okx y1 && E.chk C a sc okc y1))))
    | _ => false) else if f = .repr then C.top && (match y with
    | .Call (.Name x _) [y1] [] _ => decide (x = ("repr" : Str)) && (bltB C sc "repr" && (okx y1 && E.chk C a sc okc y1))
    | _ => false) else f.pl && (match y with
    | .Call (.Name x _) [y1] [] _ => decide (x = f.nm) && (bltB C sc f.nm && (okx y1 && E.chk C a sc okc y1))
    | _ => false)
  | .bf2 f a b, sc, okc, y => match y with
    | .Call (.Name x _) [y1, y2] [] _ => decide (x = f.nm) && (bltB C sc f.nm && (okx y1 && (okx y2 && (E.chk C a sc okc y1 && E.chk C b sc okc y2))))
    | _ => false
  | .isi T a, sc, okc, y => match y with
    | .Call (.Name x _) [y1, .Name z _] [] _ => decide (x = ("isinstance" : Str)) && (decide (z = T.nm) && (bltB C sc "isinstance" && (bltB C sc T.nm && (okx y1 && E.chk C a sc okc y1))))
    | _ => false
  | .lc0 own t it e, sc, okc, y => match y with
    | .ListComp ye [⟨yt, yi, [], a⟩] scope _ => decide (a = 0) && (noSet yi && (blkC C.N sc scope own && (t.slots.all (fun i => (own.map (·.2)).contains i) && (apart it.vars (own.map (·.2) ++ e.tch C.md) &&
      (Tg.chk C (relS scope sc) (okB scope) t yt && (It.chk C it sc okc yt yi && E.chk C e (relS scope sc) (okB scope) ye))))))
    | _ => false
  | .lc1 own t it c e, sc, okc, y => match y with
    | .ListComp ye [⟨yt, yi, [yc], a⟩] scope _ => decide (a = 0) && (noSet yi && (blkC C.N sc scope own && (t.slots.all (fun i => (own.map (·.2)).contains i) && (apart it.vars (own.map (·.2) ++ (c.tch C.md ++ e.tch C.md)) &&
      (Tg.chk C (relS scope sc) (okB scope) t yt && (It.chk C it sc okc yt yi && (c.tst yc && (E.chk C c (relS scope sc) (okB scope) yc && E.chk C e (relS scope sc) (okB scope) ye))))))))
    | _ => false
  | .app i e, sc, okc, y => match y with
    | .Call (.Attribute (.Name x _) m ap) [y1] [] p => decide (m = ("append" : Str)) && (slotB C sc i x && (okx y1 && ((ap.endLine == p.line) && E.chk C e sc okc y1)))
    | _ => false
  | .ext i e, sc, okc, y => match y with
    | .Call (.Attribute (.Name x _) m ap) [y1] [] p => decide (m = ("extend" : Str)) && (slotB C sc i x && (okx y1 && ((ap.endLine == p.line) && E.chk C e sc okc y1)))
    | _ => false
  | .mth m i es, sc, okc, y => match y with
    | .Call (.Attribute (.Name x _) m' ap) (y1 :: ys) [] p => decide (m' = m.nm) && (slotB C sc i x && ((ap.endLine == p.line) && (decide (ys.length < 20) && Es.chk C es sc okc (y1 :: ys))))
    | _ => false
  | .dct0, sc, okc, y => match y with
    | .Dict [] [] _ => true
    | _ => false
  | .dct1 i j, sc, okc, y => match y with
    | .Dict [some (.Constant c _ _)] [.Constant c2 _ _] _ => decide (c = .int i) && decide (c2 = .int j)
    | _ => false
  | .dctO t, sc, okc, y => match y with
    | .Dict [] [] _ => true
    | _ => false
  | .dctP k v, sc, okc, y => match y with
    | .Dict [some y1] [y2] _ => E.chk C k sc okc y1 && E.chk C v sc okc y2
    | _ => false
  | .get1 a k, sc, okc, y => match y with
    | .Call (.Attribute y1 m ap) [y2] [] p => decide (m = ("get" : Str)) && (okO y1 && (okx y2 && ((ap.endLine == p.line) && (E.chk C a sc okc y1 && E.chk C k sc okc y2))))
    | _ => false
  | .get2 a k z, sc, okc, y => match y with
    | .Call (.Attribute y1 m ap) [y2, y3] [] p => decide (m = ("get" : Str)) && (okO y1 && (okx y2 && (okx y3 && ((ap.endLine == p.line) && (E.chk C a sc okc y1 && (E.chk C k sc okc y2 && E.chk C z sc okc y3))))))
    | _ => false
  | .tm m a b, sc, okc, y => match y with
    | .Call (.Attribute y1 m' ap) [y2] [] p => decide (m' = m.nm) && (okO y1 && (okx y2 && ((ap.endLine == p.line) && (E.chk C a sc okc y1 && E.chk C b sc okc y2))))
    | _ => false
  | .fnv x, sc, okc, y => match y with
    | .Name z _ => decide (z = x) && (glB sc x && (C.fns.contains x && !(x == ("__debug__" : Str))))
    | _ => false
  | .callv cs i es, sc, okc, y => match y with
    | .Call (.Name x _) (y1 :: ys) [] _ => slotB C sc i x && (cs.all (fun c => C.fns.contains c && C.fvs.contains c) && Es.chk C es sc okc (y1 :: ys))
    | _ => false
def Es.chk (C : Ck) : Es → Scope → (Str → Bool) → List Expr → Bool
  | .nil, sc, okc, ys => match ys with
    | [] => true
    | _ :: _ => false
  | .cons e r, sc, okc, ys => match ys with
    | y :: ys => okx y && (E.chk C e sc okc y && Es.chk C r sc okc ys)
    | [] => false
def It.chk (C : Ck) : It → Scope → (Str → Bool) → Expr → Expr → Bool
  | .e x, sc, okc, _, y => E.chk C x sc okc y
  | .rng1 a, sc, okc, _, y => match y with
    | .Call (.Name x _) [y1] [] _ => decide (x = ("range" : Str)) && (bltB C sc "range" && (okx y1 && E.chk C a sc okc y1))
    | _ => false
  | .rng2 a b, sc, okc, _, y => match y with
    | .Call (.Name x _) [y1, y2] [] _ => decide (x = ("range" : Str)) && (bltB C sc "range" && (okx y1 && (okx y2 && (E.chk C a sc okc y1 && E.chk C b sc okc y2))))
    | _ => false
  | .enum a, sc, okc, tg, y => isTup' tg && (match y with
    | .Call (.Name x _) [y1] [] _ => decide (x = ("enumerate" : Str)) && (bltB C sc "enumerate" && (okx y1 && E.chk C a sc okc y1))
    | _ => false)
  | .zip a b, sc, okc, tg, y => okT tg && (match y with
    | .Call (.Name x _) [y1, y2] [] _ => decide (x = ("zip" : Str)) && (bltB C sc "zip" && (okx y1 && (okx y2 && (E.chk C a sc okc y1 && E.chk C b sc okc y2))))
    | _ => false)
end

/-! ### what a context must give -/
def CalOk (P : Program) (w : World) (K : PySem.W.Frag) (mg : Str → Option Value) (base : Heap) (k : Nat) (Γ : Gl0) (x : Str) : Prop :=
  ∃ (f : Addr) (fd : FuncData) (ps : List Str), FnOk P w K mg base CX0 k f fd ps (spF K (Γ.fn x)) ∧ mg x = some (.ref f) ∧ PySem.W.keepIn K (.ref f) = true ∧ Binds K fd ps [] ∧ He.ga K x = f
structure Gd (C : Ck) (Γ : Gl0) (k : Nat) (X : Cx) (sc : Scope) (okc : Str → Bool) : Prop where
  hN : X.N = C.N
  nd : C.N.Nodup
  hsc : X.env.scope = sc
  kind : sc.kind = .function
  fn : X.fn = okc
  calm : X.calm = true
  room : Room k X.A
  xe : ∀ e s, ¬ X.xe e s
  blt : ∀ x, C.blt.contains x = true → X.mg x = none
  fns : ∀ x, C.fns.contains x = true → CalOk X.prog X.w X.K X.mg X.base k Γ x
  gls : ∀ x g, C.gls.lookup x = some g → Γ.gl x = some g.dat ∧ GlAt X.K X.mg x g
  inj : ∀ x y, C.fvs.contains x = true → C.fvs.contains y = true → He.ga X.K x = He.ga X.K y → x = y
  gd : C.top = true → X.A.guards = some []
def GlOk (Γ : Gl0) : Prop := ∀ x ss r as, Γ.fn x ss = .ok (r, as) → as.length = ss.length ∧ ∀ (j : Nat), (Γ.md x)[j]? = some .ro → as[j]? = (ss[j]?).map some
theorem vis_by {sc : Scope} {x : Str} (h : visB sc x = true) : Vis sc x := by
  unfold visB at h
  split at h <;> first | exact .inl (by assumption) | exact .inr (.inl (by assumption)) | exact .inr (.inr (by assumption)) | cases h
theorem loc_by {sc : Scope} {x : Str} (h : locB sc x = true) : Loc sc x := by
  unfold locB at h
  split at h <;> first | exact .inl (by assumption) | exact .inr (by assumption) | cases h
theorem lcl_by {sc : Scope} {x : Str} (h : lclB sc x = true) : sc.names.lookup x = some .local := by
  unfold lclB at h
  split at h <;> first | assumption | cases h
theorem gl_by {sc : Scope} {x : Str} (h : glB sc x = true) : sc.names.lookup x = some .globalImplicit := by
  unfold glB at h
  split at h <;> first | assumption | cases h
theorem star_ok {y : Expr} {r : List Expr} {env : PySem.Env} (h : okx y = true) : starEach (y :: r) env = (false, eval y env) :: starEach r env := by
  cases y <;> first | rfl | cases h
theorem each_ok {y : Expr} {r : List Expr} {env : PySem.Env} (h : okx y = true) : assignEach (y :: r) env = (false, assign y env) :: assignEach r env := by
  cases y <;> first | rfl | cases h
theorem behind_ok {y : Expr} {op : CmpOp} (h : okx y = true) : behindInMarks op y = false := by
  cases y <;> first | rfl | cases h
theorem plain_ix {y : Expr} (h : okx y = true) : PlainIx y := by
  intro o i
  cases y <;> first | rfl | cases h
theorem plain_true {y : Expr} {env : PySem.Env} (h : plainT y = true) : ∀ whole, isTrue y env whole = (do let v ← whole; standAt y.pos; holding [v] (truthy v)) := by
  intro whole
  cases y <;> first
    | rfl
    | cases h
    | (rename_i op _ _; cases op <;> first | rfl | cases h)
theorem pw_of_pt {X : Cx} {op : BoolOp} {ys : List Expr} {p : Pos} {t : TT} (h : PT X (.BoolOp op ys p) t) : PW X (.BoolOp op ys p) t := ⟨fun whole pins s σ H Q I hw => h.run pins s σ H Q I hw⟩
theorem pe_one {X : Cx} {op : BoolOp} {y : Expr} {p : Pos} {t : TE} (h : PE X y t) : PE X (.BoolOp op [y] p) t := ⟨fun pins s σ H Q I hw => h.run pins s σ H Q I hw⟩
section
variable {C : Ck} {Γ : Gl0} {k : Nat} {X : Cx} {sc : Scope} {okc : Str → Bool}
theorem Gd.slot (g : Gd C Γ k X sc okc) {i : Nat} {x : Str} (h : slotB C sc i x = true) : X.N[i]? = some x ∧ Vis X.env.scope x ∧ (x == ("__debug__" : Str)) = false ∧ (x == ("__classdict__" : Str)) = false := by
  unfold slotB at h
  simp only [Bool.and_eq_true, decide_eq_true_eq, Bool.not_eq_true'] at h
  exact ⟨by rw [g.hN]; exact h.1, by rw [g.hsc]; exact vis_by h.2.1, h.2.2.1, h.2.2.2⟩
theorem Gd.glb (g : Gd C Γ k X sc okc) {x : Str} (h : bltB C sc x = true) : Gl X x ∧ X.mg x = none := by
  unfold bltB at h
  simp only [Bool.and_eq_true] at h
  exact ⟨by show X.env.scope.names.lookup x = _; rw [g.hsc]; exact gl_by h.1, g.blt x h.2⟩
theorem Gd.hu (g : Gd C Γ k X sc okc) : X.A.units + 100 < cLine := by have := g.room.un; omega
theorem Gd.hu1 (g : Gd C Γ k X sc okc) : X.A.units + 1 < cLine := by have := g.room.un; omega
theorem Gd.hu65 (g : Gd C Γ k X sc okc) : X.A.units + 65 < cLine := by have := g.room.un; omega
theorem Gd.blk (g : Gd C Γ k X sc okc) {scope : Scope} {own : List (Str × Nat)} (ok : BlkOk C.N sc scope own) (s : Shared) (H : Hp) (a : Addr) (cl : List (Str × Addr)) (fp : List Addr) :
    Gd C Γ k (X.blk s H scope (compEnvC scope cl a X.env) fp) (relS scope sc) (okB scope) :=
  ⟨g.hN, g.nd, by rw [← g.hsc]; rfl, ok.kind, rfl, g.calm, g.room, fun _ _ h => h, g.blt, g.fns, g.gls, g.inj, g.gd⟩
mutual
theorem Tg.ok : ∀ (t : Tg) {X : Cx} {sc : Scope} {okc : Str → Bool} {y : Expr}, Gd C Γ k X sc okc → Tg.chk C sc okc t y = true → PG X y (rG X.K t.slots t.put)
  | .n i, X, sc, okc, y, g, h => by
    unfold Tg.chk at h
    split at h
    · simp only [Bool.and_eq_true, decide_eq_true_eq, Bool.or_eq_true] at h
      obtain ⟨h1, h2, h3⟩ := h
      refine sg_name (by rw [g.hN]; exact g.nd) (by rw [g.hN]; exact h1) (by rw [g.hsc]; exact loc_by h2) ?_
      rcases h3 with h3 | h3
      · exact .inl (by rw [g.fn]; exact h3)
      · exact .inr (by rw [g.hsc]; exact lcl_by h3)
    · cases h
  | .t ts, X, sc, okc, y, g, h => by
    unfold Tg.chk at h
    split at h
    · obtain ⟨h1, h2, h3⟩ := Tgs.ok ts g h
      exact sg_tup g.calm h1 h2 h3
    · cases h
theorem Tgs.ok : ∀ (ts : Tgs) {X : Cx} {sc : Scope} {okc : Str → Bool} {ys : List Expr}, Gd C Γ k X sc okc → Tgs.chk C sc okc ts ys = true → PGs X ys (rGs X.K ts.slots ts.puts) ∧ (assignEach ys X.env).length = ts.n ∧ (assignEach ys X.env).findIdx? (·.1) = none
  | .nil, X, sc, okc, ys, g, h => by
    unfold Tgs.chk at h
    split at h
    · exact ⟨sgs_nil, rfl, rfl⟩
    · cases h
  | .cons t r, X, sc, okc, ys, g, h => by
    unfold Tgs.chk at h
    split at h
    · simp only [Bool.and_eq_true] at h
      obtain ⟨h1, h2, h3⟩ := h
      obtain ⟨q1, q2, q3⟩ := Tgs.ok r g h3
      have e := fun (z : List Expr) => each_ok (r := z) (env := X.env) h1
      refine ⟨sgs_cons (Tg.ok t g h2) q1 (by rw [e]; rfl), by rw [e, List.length_cons, q2]; rfl, ?_⟩
      rw [e, List.findIdx?_cons, q3]
      rfl
    · cases h
end
theorem mkP {y : Expr} {f : Dn.Env → R (O × Dn.Env)} (h : PE X y (rE X.K f)) : PE X y (rE X.K f) ∧ (plainT y = true → PT X y (rT X.K (tru f))) := ⟨h, fun p => st_val h (plain_true p)⟩
theorem mkF {y : Expr} {f : Dn.Env → R (O × Dn.Env)} (h : PE X y (rE X.K f)) : PE X y (rE X.K f) ∧ (false = true → PT X y (rT X.K (tru f))) := ⟨h, fun p => by cases p⟩
theorem apart_by {a b : List Nat} (h : apart a b = true) : ∀ i, i ∈ a → i ∉ b := fun i hi z => by
  unfold apart at h
  have := List.all_eq_true.mp h i hi
  simp at this
  exact this z
theorem dens_n {Γ : Gl0} : ∀ (es : Es) (ρ : Dn.Env) (os : List O) (ρ' : Dn.Env), es.dens Γ ρ = .ok (os, ρ') → os.length = es.n
  | .nil, ρ, os, ρ', e => by cases e; rfl
  | .cons a r, ρ, os, ρ', e => by
    obtain ⟨⟨o, ρ1⟩, e1, e⟩ := bind_ok (show (a.den Γ ρ >>= fun p => r.dens Γ p.2 >>= fun q => R.ok (p.1 :: q.1, q.2)) = .ok (os, ρ') from e)
    obtain ⟨⟨os2, ρ2⟩, e2, e⟩ := bind_ok e
    cases e
    exact congrArg Nat.succ (dens_n r _ _ _ e2)
end
end Dn

set_option Elab.async false
set_option linter.all false
set_option maxRecDepth 100000
set_option maxHeartbeats 8000000
/-! Dn, part L: what is checked is sound: expressions. -/
namespace Dn
open PySem PySem.Spec PyProof.Rows L2

abbrev PEok (Γ : Gl0) (X : Cx) (e : E) (y : Expr) : Prop := PE X y (rE X.K (e.den Γ)) ∧ (e.tst y = true → PT X y (rT X.K (tru (e.den Γ))))
def lc0Step (Γ : Gl0) (t : Tg) (e : E) : D → Dn.Env → R (Option D × Dn.Env) := fun d ρ => (do let ρ ← t.put d ρ; let (o, ρ) ← e.den Γ ρ; let x ← o.useD ρ; .ok (some x, ρ))
theorem lc0_step {Γ : Gl0} {t : Tg} {e : E} : lc0Step Γ t e = stepL t.put (fun ρ => .ok (true, ρ)) (e.den Γ) := by
  funext d ρ
  unfold lc0Step stepL
  cases e1 : t.put d ρ with
  | exc => rfl
  | bad => rfl
  | ok ρ1 => rfl
def lc1Step (Γ : Gl0) (t : Tg) (c e : E) : D → Dn.Env → R (Option D × Dn.Env) := fun d ρ => (do let ρ ← t.put d ρ; let (b, ρ) ← c.den Γ ρ; let k ← b.tru ρ; if k = true then (do let (o, ρ) ← e.den Γ ρ; let x ← o.useD ρ; .ok (some x, ρ)) else .ok (none, ρ))
theorem lc1_step {Γ : Gl0} {t : Tg} {c e : E} : lc1Step Γ t c e = stepL t.put (tru (c.den Γ)) (e.den Γ) := by
  funext d ρ
  unfold lc1Step stepL tru
  cases e1 : t.put d ρ with
  | exc => rfl
  | bad => rfl
  | ok ρ1 =>
    show (c.den Γ ρ1 >>= _) = ((c.den Γ ρ1 >>= _) >>= _)
    cases c.den Γ ρ1 with
    | exc => rfl
    | bad => rfl
    | ok p =>
      show (p.1.tru p.2 >>= _) = ((p.1.tru p.2 >>= _) >>= _)
      cases p.1.tru p.2 with
      | exc => rfl
      | bad => rfl
      | ok k => rfl
/-- no star among the arguments -/
theorem Es.plain {C : Ck} : ∀ (es : Es) {sc : Scope} {okc : Str → Bool} {ys : List Expr} {env : PySem.Env}, Es.chk C es sc okc ys = true → (starEach ys env).any (·.1) = false
  | .nil, sc, okc, ys, env, h => by
    unfold Es.chk at h
    split at h
    · rfl
    · cases h
  | .cons e r, sc, okc, ys, env, h => by
    unfold Es.chk at h
    split at h
    · simp only [Bool.and_eq_true] at h
      obtain ⟨h1, h2, h3⟩ := h
      rw [star_ok h1, List.any_cons, Es.plain r h3]
      rfl
    · cases h
theorem back_plain {pos : Pos} {l : List (Bool × Sem Value)} (h : l.any (·.1) = false) : (backTo pos l).any (·.1) = false := by
  unfold backTo
  rw [List.any_map]
  exact h
theorem few_ok {cpos : Pos} {env : PySem.Env} {y : Expr} {ys : List Expr} (h : (starEach (y :: ys) env).any (·.1) = false) (hl : ys.length < 20) :
    ((backTo cpos (starEach (y :: ys) env)).all (fun x => !x.1) && (backToKw cpos (keywordEach [] env)).all (fun x => x.1.isSome)
      && decide ((y :: ys).length + ([] : List Keyword).length + (if ([] : List Keyword).isEmpty then 0 else 1) < 30)) = true := by
  have h1 := back_plain (pos := cpos) h
  have h2 : (backTo cpos (starEach (y :: ys) env)).all (fun x => !x.1) = true := by
    rw [List.all_eq_true]
    intro x hx
    rw [List.any_eq_false] at h1
    have := h1 x hx
    simpa using this
  rw [h2]
  have h3 : decide ((y :: ys).length + ([] : List Keyword).length + (if ([] : List Keyword).isEmpty then 0 else 1) < 30) = true := by
    rw [decide_eq_true_eq, List.length_cons, List.length_nil]
    simp
    omega
  rw [h3]
  rfl
theorem base_ok {y : Expr} {m : Str} {env : PySem.Env} (h : okO y = true) : attributeBase y m env (eval y env) = eval y env := by
  cases y <;> first | rfl | cases h
theorem m1_ok {X : Cx} {y1 y2 : Expr} {m : Str} {ap p : Pos} (h1 : okO y1 = true) (h2 : okx y2 = true) (h3 : (ap.endLine == p.line) = true) : M1 X y1 m ap y2 p where
  base := base_ok h1
  few := few_ok (by rw [star_ok h2]; rfl) (by simp)
  line := h3
  trees := by rw [star_ok h2]; rfl
theorem m2_ok {X : Cx} {y1 y2 y3 : Expr} {m : Str} {ap p : Pos} (h1 : okO y1 = true) (h2 : okx y2 = true) (h4 : okx y3 = true) (h3 : (ap.endLine == p.line) = true) : M2 X y1 m ap y2 y3 p where
  base := base_ok h1
  few := few_ok (by rw [star_ok h2, star_ok h4]; rfl) (by simp)
  line := h3
  trees := by rw [star_ok h2, star_ok h4]; rfl
section
variable {C : Ck} {Γ : Gl0} {k : Nat} (hmd : Γ.md = C.md) (hgl : GlOk Γ)
include hmd hgl
mutual
theorem E.ok : ∀ (e : E) {X : Cx} {sc : Scope} {okc : Str → Bool} {y : Expr}, Gd C Γ k X sc okc → E.chk C e sc okc y = true → PEok Γ X e y
  | .non, X, sc, okc, y, g, h => by
    unfold E.chk at h
    split at h
    · cases of_decide_eq_true h
      exact mkP (se_data pe_non fun _ => .non)
    · cases h
  | .bl b, X, sc, okc, y, g, h => by
    unfold E.chk at h
    split at h
    · cases of_decide_eq_true h
      exact mkP (se_data pe_bl fun _ => .bl b)
    · cases h
  | .int i, X, sc, okc, y, g, h => by
    unfold E.chk at h
    split at h
    · cases of_decide_eq_true h
      exact mkP (se_data pe_int fun _ => .int i)
    · cases h
  | .str x, X, sc, okc, y, g, h => by
    unfold E.chk at h
    split at h
    · cases of_decide_eq_true h
      exact mkP (se_data pe_str fun _ => .str x)
    · cases h
  | .var i, X, sc, okc, y, g, h => by
    unfold E.chk at h
    split at h
    · obtain ⟨h1, h2, h3, h4⟩ := g.slot h
      exact mkP (se_var h1 h2 h3 h4)
    · cases h
  | .mv i, X, sc, okc, y, g, h => by
    unfold E.chk at h
    split at h
    · obtain ⟨h1, h2, h3, h4⟩ := g.slot h
      exact mkP (se_mv h1 h2 h3 h4)
    · cases h
  | .fz e, X, sc, okc, y, g, h => by
    unfold E.chk at h
    exact mkF (se_fz (E.ok e g h).1)
  | .glob x, X, sc, okc, y, g, h => by
    unfold E.chk at h
    split at h
    · next z p =>
      simp only [Bool.and_eq_true, decide_eq_true_eq, Bool.not_eq_true'] at h
      obtain ⟨e0, h1, h2, h3⟩ := h
      subst e0
      obtain ⟨n, h4⟩ := Option.isSome_iff_exists.mp h2
      obtain ⟨h5, h6⟩ := g.gls _ n h4
      have e : E.den Γ (.glob z) = fun ρ => .ok (.val (.d n.dat), ρ) := by
        funext ρ
        show (match Γ.gl z with | some d => R.ok (O.val (.d d), ρ) | none => .bad) = _
        rw [h5]
      have q := se_glob (pos := p) (X := X) (by show X.env.scope.names.lookup z = _; rw [g.hsc]; exact gl_by h1) h6 h3
      rw [← e] at q
      exact mkP q
    · cases h
  | .tup es, X, sc, okc, y, g, h => by
    unfold E.chk at h
    split at h
    · simp only [Bool.and_eq_true, decide_eq_true_eq] at h
      exact mkP (se_tup (Es.ok es g h.2) fun ρ os ρ' e => by rw [dens_n es ρ os ρ' e]; exact h.1)
    · cases h
  | .lst es, X, sc, okc, y, g, h => by
    unfold E.chk at h
    split at h
    · simp only [Bool.and_eq_true, decide_eq_true_eq] at h
      exact mkP (se_lst (Es.ok es g h.2) fun ρ os ρ' e => by rw [dens_n es ρ os ρ' e]; exact h.1)
    · cases h
  | .bin op a b, X, sc, okc, y, g, h => by
    unfold E.chk at h
    split at h
    · simp only [Bool.and_eq_true, decide_eq_true_eq] at h
      obtain ⟨rfl, h1, h2⟩ := h
      exact mkP (se_op (op_B op) (ok_B op) (E.ok a g h1).1 (E.ok b g h2).1)
    · cases h
  | .neg a, X, sc, okc, y, g, h => by
    unfold E.chk at h
    split at h
    · simp only [Bool.and_eq_true, decide_eq_true_eq] at h
      obtain ⟨rfl, h1⟩ := h
      exact mkP (se_neg (E.ok a g h1).1)
    · cases h
  | .cmp op a b, X, sc, okc, y, g, h => by
    unfold E.chk at h
    split at h
    · simp only [Bool.and_eq_true, decide_eq_true_eq] at h
      obtain ⟨rfl, h0, h1, h2⟩ := h
      exact ⟨se_cmp (op_C g.hu65 op) (ok_C op) (E.ok a g h1).1 (E.ok b g h2).1 (behind_ok h0), fun _ => st_cmp (op_C g.hu65 op) (ok_C op) (E.ok a g h1).1 (E.ok b g h2).1 (behind_ok h0)⟩
    · cases h
  | .chain op op' a b c, X, sc, okc, y, g, h => by
    unfold E.chk at h
    split at h
    · simp only [Bool.and_eq_true, decide_eq_true_eq] at h
      obtain ⟨rfl, rfl, h0, h1, h2, h3⟩ := h
      exact ⟨se_chain g.hu65 op op' (E.ok a g h1).1 (E.ok b g h2).1 (E.ok c g h3).1 (behind_ok h0), fun _ => st_chain g.hu65 op op' (E.ok a g h1).1 (E.ok b g h2).1 (E.ok c g h3).1 (behind_ok h0)⟩
    · cases h
  | .and a b, X, sc, okc, y, g, h => by
    unfold E.chk at h
    split at h
    · next o y1 y2 ys p =>
      simp only [Bool.and_eq_true, decide_eq_true_eq] at h
      obtain ⟨rfl, h1, h2⟩ := h
      have qa := E.ok a g h1
      cases ys with
      | nil =>
        have qb := E.ok b g h2
        refine ⟨se_and qa.1 (pe_one qb.1), fun ht => ?_⟩
        unfold E.tst at ht
        simp only [Bool.and_eq_true] at ht
        exact (st_and (qa.2 ht.1) (pw_and1 (qb.2 ht.2))).pt
      | cons y3 ys =>
        have qb := E.ok b g h2
        refine ⟨se_and qa.1 qb.1, fun ht => ?_⟩
        unfold E.tst at ht
        simp only [Bool.and_eq_true] at ht
        exact (st_and (qa.2 ht.1) (pw_of_pt (qb.2 ht.2))).pt
    · cases h
  | .or a b, X, sc, okc, y, g, h => by
    unfold E.chk at h
    split at h
    · next o y1 y2 ys p =>
      simp only [Bool.and_eq_true, decide_eq_true_eq] at h
      obtain ⟨rfl, h1, h2⟩ := h
      have qa := E.ok a g h1
      cases ys with
      | nil =>
        have qb := E.ok b g h2
        refine ⟨se_or qa.1 (pe_one qb.1), fun ht => ?_⟩
        unfold E.tst at ht
        simp only [Bool.and_eq_true] at ht
        exact (st_or (qa.2 ht.1) (pw_or1 (qb.2 ht.2))).pt
      | cons y3 ys =>
        have qb := E.ok b g h2
        refine ⟨se_or qa.1 qb.1, fun ht => ?_⟩
        unfold E.tst at ht
        simp only [Bool.and_eq_true] at ht
        exact (st_or (qa.2 ht.1) (pw_of_pt (qb.2 ht.2))).pt
    · cases h
  | .not a, X, sc, okc, y, g, h => by
    unfold E.chk at h
    split at h
    · simp only [Bool.and_eq_true, decide_eq_true_eq] at h
      obtain ⟨rfl, h1⟩ := h
      have qa := E.ok a g h1
      refine ⟨se_not qa.1, fun ht => ?_⟩
      unfold E.tst at ht
      exact st_not (qa.2 ht)
    · cases h
  | .ifx c a b, X, sc, okc, y, g, h => by
    unfold E.chk at h
    split at h
    · simp only [Bool.and_eq_true] at h
      obtain ⟨h0, h1, h2, h3⟩ := h
      exact mkF (se_if ((E.ok c g h1).2 h0) (E.ok a g h2).1 (E.ok b g h3).1)
    · cases h
  | .idx a b, X, sc, okc, y, g, h => by
    unfold E.chk at h
    split at h
    · simp only [Bool.and_eq_true] at h
      obtain ⟨h0, h1, h2⟩ := h
      exact mkP (se_idx g.hu1 (E.ok a g h1).1 (E.ok b g h2).1 (plain_ix h0))
    · cases h
  | .slB a lo hi, X, sc, okc, y, g, h => by
    unfold E.chk at h
    split at h
    · simp only [Bool.and_eq_true] at h
      obtain ⟨h0, h1, h2⟩ := h
      exact mkP (se_slB (E.ok a g h0).1 (E.ok lo g h1).1 (E.ok hi g h2).1)
    · cases h
  | .slF a lo, X, sc, okc, y, g, h => by
    unfold E.chk at h
    split at h
    · simp only [Bool.and_eq_true] at h
      obtain ⟨h0, h1⟩ := h
      exact mkP (se_slF (E.ok a g h0).1 (E.ok lo g h1).1)
    · cases h
  | .slT a hi, X, sc, okc, y, g, h => by
    unfold E.chk at h
    split at h
    · simp only [Bool.and_eq_true] at h
      obtain ⟨h0, h1⟩ := h
      exact mkP (se_slT (E.ok a g h0).1 (E.ok hi g h1).1)
    · cases h
  | .rev a, X, sc, okc, y, g, h => by
    unfold E.chk at h
    split at h
    · simp only [Bool.and_eq_true, decide_eq_true_eq] at h
      obtain ⟨rfl, rfl, h1⟩ := h
      exact mkP (se_rev (E.ok a g h1).1)
    · cases h
  | .call f es, X, sc, okc, y, g, h => by
    unfold E.chk at h
    split at h
    · simp only [Bool.and_eq_true, decide_eq_true_eq, Bool.not_eq_true'] at h
      obtain ⟨rfl, h1, h2, h3, h4⟩ := h
      obtain ⟨fa, fd, ps, F, hm, hk, hb, _⟩ := g.fns _ h2
      cases es with
      | nil => unfold Es.chk at h4; cases h4
      | cons e r =>
        have h4' := h4
        unfold Es.chk at h4'
        simp only [Bool.and_eq_true] at h4'
        exact mkP (se_call F g.room (by show X.env.scope.names.lookup _ = _; rw [g.hsc]; exact gl_by h1) hm hk hb (hgl _) (Es.ok (.cons e r) g h4) h3 (star_ok h4'.1) (back_plain (Es.plain r h4'.2.2)))
    · cases h
  | .bf f a, X, sc, okc, y, g, h => by
    unfold E.chk at h
    split at h
    · next hf =>
      subst hf
      split at h
      · simp only [Bool.and_eq_true, decide_eq_true_eq] at h
        obtain ⟨rfl, rfl, h1, h2, h3, h4⟩ := h
        exact mkP (se_lenset g.calm (g.glb h1).1 (g.glb h1).2 (g.glb h2).1 (g.glb h2).2 (E.ok a g h4).1 (star_ok h3))
      · cases h
    · split at h
      · next hf =>
        subst hf
        split at h
        · simp only [Bool.and_eq_true, decide_eq_true_eq] at h
          obtain ⟨rfl, rfl, h1, h2, h3, h4⟩ := h
          exact mkP (se_sortset g.calm g.hu (g.glb h1).1 (g.glb h1).2 (g.glb h2).1 (g.glb h2).2 (E.ok a g h4).1 (star_ok h3))
        · cases h
      · split at h
        · next hf =>
          subst hf
          split at h
          · simp only [Bool.and_eq_true, decide_eq_true_eq] at h
            obtain ⟨rfl, rfl, h1, h2, h3, h4⟩ := h
            exact mkP (se_lrng g.calm (g.glb h1).1 (g.glb h1).2 (g.glb h2).1 (g.glb h2).2 (E.ok a g h4).1 (star_ok h3))
          · cases h
        · split at h
          · next hf =>
            subst hf
            split at h
            · simp only [Bool.and_eq_true, decide_eq_true_eq] at h
              obtain ⟨rfl, rfl, h1, h2, h3, h4⟩ := h
              exact mkP (se_trng g.calm (g.glb h1).1 (g.glb h1).2 (g.glb h2).1 (g.glb h2).2 (E.ok a g h4).1 (star_ok h3))
            · cases h
          · split at h
            · next hf =>
              subst hf
              rw [Bool.and_eq_true] at h
              obtain ⟨ht, h⟩ := h
              split at h
              · simp only [Bool.and_eq_true, decide_eq_true_eq] at h
                obtain ⟨rfl, h1, h3, h4⟩ := h
                exact mkP (se_repr (g.gd ht) g.hu (g.glb h1).1 (g.glb h1).2 (E.ok a g h4).1 (star_ok h3))
              · cases h
            · rw [Bool.and_eq_true] at h
              obtain ⟨hf, h⟩ := h
              split at h
              · simp only [Bool.and_eq_true, decide_eq_true_eq] at h
                obtain ⟨rfl, h1, h3, h4⟩ := h
                exact mkP (se_bf f hf g.calm g.hu (g.glb h1).1 (g.glb h1).2 (E.ok a g h4).1 (star_ok h3))
              · cases h
  | .bf2 f a b, X, sc, okc, y, g, h => by
    unfold E.chk at h
    split at h
    · simp only [Bool.and_eq_true, decide_eq_true_eq] at h
      obtain ⟨rfl, h1, h2, h3, h4, h5⟩ := h
      exact mkP (se_bf2 f g.calm (g.glb h1).1 (g.glb h1).2 (E.ok a g h4).1 (E.ok b g h5).1 (star_ok h2) (star_ok h3))
    · cases h
  | .isi T a, X, sc, okc, y, g, h => by
    unfold E.chk at h
    split at h
    · simp only [Bool.and_eq_true, decide_eq_true_eq] at h
      obtain ⟨rfl, rfl, h1, h2, h3, h4⟩ := h
      exact mkP (se_isi T (g.glb h1).1 (g.glb h1).2 (g.glb h2).1 (g.glb h2).2 (E.ok a g h4).1 (star_ok h3))
    · cases h
  | .lc0 own t it e, X, sc, okc, y, g, h => by
    unfold E.chk at h
    split at h
    · simp only [Bool.and_eq_true, decide_eq_true_eq] at h
      obtain ⟨rfl, h0, h1, h2, h3, h4, h5, h6⟩ := h
      have ok := blkOk_by h1
      have hts : ∀ i, i ∈ t.slots → i ∈ own.map (·.2) := fun i hi => by
        have := List.all_eq_true.mp h2 i hi
        simpa using this
      have ha := apart_by h3
      have hw := fun σ H Q => lc_weak (K := X.K) (own := own) (vs := it.vars) (fit := it.den Γ) (fe := e.den Γ) (fc := fun ρ => .ok (true, ρ)) (Tc := []) (Te := e.tch C.md) hts (fun ρ => Pr.ret) (fun ρ => by rw [← hmd]; exact E.pr Γ e ρ)
        (fun i hi => ⟨fun z => ha i hi (List.mem_append_left _ z), List.not_mem_nil, fun z => ha i hi (List.mem_append_right _ z)⟩) σ H Q
      have := fun p => PE.weak (pe_lc (pos := p) (g := rG X.K t.slots t.put) (tt := rT X.K fun ρ => .ok (true, ρ)) (te := rE X.K (e.den Γ)) (wi := rI X.K it.vars (it.den Γ)) g.calm (by rw [g.hN]; exact g.nd) (It.ok it g h5) (by rw [g.hN, g.hsc]; exact ok)
        (fun s H a cl fp => Tg.ok t (g.blk ok s H a cl fp) h4) (fun s H a cl fp => sts_nil) (fun s H a cl fp => (E.ok e (g.blk ok s H a cl fp) h6).1) (fs_no h0)) hw
      unfold dLc at this
      rw [← lc0_step] at this
      exact mkP (this _)
    · cases h
  | .lc1 own t it c e, X, sc, okc, y, g, h => by
    unfold E.chk at h
    split at h
    · simp only [Bool.and_eq_true, decide_eq_true_eq] at h
      obtain ⟨rfl, h0, h1, h2, h3, h4, h5, h6, h7, h8⟩ := h
      have ok := blkOk_by h1
      have hts : ∀ i, i ∈ t.slots → i ∈ own.map (·.2) := fun i hi => by
        have := List.all_eq_true.mp h2 i hi
        simpa using this
      have ha := apart_by h3
      have hw := fun σ H Q => lc_weak (K := X.K) (own := own) (vs := it.vars) (fit := it.den Γ) (fe := e.den Γ) (fc := tru (c.den Γ)) (Tc := c.tch C.md) (Te := e.tch C.md) hts (fun ρ => by rw [← hmd]; exact E.prT Γ c ρ) (fun ρ => by rw [← hmd]; exact E.pr Γ e ρ)
        (fun i hi => ⟨fun z => ha i hi (List.mem_append_left _ z), fun z => ha i hi (List.mem_append_right _ (List.mem_append_left _ z)), fun z => ha i hi (List.mem_append_right _ (List.mem_append_right _ z))⟩) σ H Q
      have := fun p => PE.weak (pe_lc (pos := p) (g := rG X.K t.slots t.put) (tt := rT X.K (tru (c.den Γ))) (te := rE X.K (e.den Γ)) (wi := rI X.K it.vars (it.den Γ)) g.calm (by rw [g.hN]; exact g.nd) (It.ok it g h5) (by rw [g.hN, g.hsc]; exact ok)
        (fun s H a cl fp => Tg.ok t (g.blk ok s H a cl fp) h4) (fun s H a cl fp => pts_one ((E.ok c (g.blk ok s H a cl fp) h7).2 h6)) (fun s H a cl fp => (E.ok e (g.blk ok s H a cl fp) h8).1) (fs_no h0)) hw
      unfold dLc at this
      rw [← lc1_step] at this
      exact mkP (this _)
    · cases h
  | .app i e, X, sc, okc, y, g, h => by
    unfold E.chk at h
    split at h
    · simp only [Bool.and_eq_true, decide_eq_true_eq] at h
      obtain ⟨rfl, h1, h2, h3, h4⟩ := h
      obtain ⟨n1, n2, n3, n4⟩ := g.slot h1
      exact mkP (se_app n1 n2 n3 n4 (E.ok e g h4).1 (star_ok h2) h3)
    · cases h
  | .ext i e, X, sc, okc, y, g, h => by
    unfold E.chk at h
    split at h
    · simp only [Bool.and_eq_true, decide_eq_true_eq] at h
      obtain ⟨rfl, h1, h2, h3, h4⟩ := h
      obtain ⟨n1, n2, n3, n4⟩ := g.slot h1
      exact mkP (se_ext n1 n2 n3 n4 (E.ok e g h4).1 (star_ok h2) h3)
    · cases h
  | .mth m i es, X, sc, okc, y, g, h => by
    unfold E.chk at h
    split at h
    · next x m' ap y1 ys p =>
      simp only [Bool.and_eq_true, decide_eq_true_eq] at h
      obtain ⟨rfl, h1, h3, h4, h5⟩ := h
      obtain ⟨n1, n2, n3, n4⟩ := g.slot h1
      have ha := Es.ok es g h5
      cases es with
      | nil => unfold Es.chk at h5; cases h5
      | cons e r =>
        have h5' := h5
        unfold Es.chk at h5'
        simp only [Bool.and_eq_true] at h5'
        exact mkP (se_mth m g.hu65 n1 n2 n3 n4 ha (few_ok (Es.plain (.cons e r) h5) h4) h3 (star_ok h5'.1) (back_plain (Es.plain r h5'.2.2)))
    · cases h
  | .dct0, X, sc, okc, y, g, h => by
    unfold E.chk at h
    split at h
    · exact mkP se_dct0
    · cases h
  | .dct1 i j, X, sc, okc, y, g, h => by
    unfold E.chk at h
    split at h
    · simp only [Bool.and_eq_true, decide_eq_true_eq] at h
      obtain ⟨rfl, rfl⟩ := h
      exact mkP se_dct1
    · cases h
  | .dctO t, X, sc, okc, y, g, h => by
    unfold E.chk at h
    split at h
    · exact mkP (se_dctO t)
    · cases h
  | .dctP a b, X, sc, okc, y, g, h => by
    unfold E.chk at h
    split at h
    · simp only [Bool.and_eq_true] at h
      exact mkP (se_dctP (E.ok a g h.1).1 (E.ok b g h.2).1)
    · cases h
  | .get1 a b, X, sc, okc, y, g, h => by
    unfold E.chk at h
    split at h
    · simp only [Bool.and_eq_true, decide_eq_true_eq] at h
      obtain ⟨rfl, h1, h2, h3, h4, h5⟩ := h
      exact mkP (se_get1 g.hu1 (E.ok a g h4).1 (E.ok b g h5).1 (m1_ok h1 h2 h3))
    · cases h
  | .get2 a b c, X, sc, okc, y, g, h => by
    unfold E.chk at h
    split at h
    · simp only [Bool.and_eq_true, decide_eq_true_eq] at h
      obtain ⟨rfl, h1, h2, h3, h4, h5, h6, h7⟩ := h
      exact mkP (se_get2 g.hu1 (E.ok a g h5).1 (E.ok b g h6).1 (E.ok c g h7).1 (m2_ok h1 h2 h3 h4))
    · cases h
  | .tm m a b, X, sc, okc, y, g, h => by
    unfold E.chk at h
    split at h
    · simp only [Bool.and_eq_true, decide_eq_true_eq] at h
      obtain ⟨rfl, h1, h2, h3, h4, h5⟩ := h
      exact mkP (se_tm m (E.ok a g h4).1 (E.ok b g h5).1 (star_ok h2) (base_ok h1) h3)
    · cases h
  | .fnv x, X, sc, okc, y, g, h => by
    unfold E.chk at h
    split at h
    · simp only [Bool.and_eq_true, decide_eq_true_eq, Bool.not_eq_true'] at h
      obtain ⟨rfl, h1, h2, h3⟩ := h
      obtain ⟨fa, fd, ps, F, hm, hk, hb, hga⟩ := g.fns _ h2
      subst hga
      exact mkP (se_fnv (by show X.env.scope.names.lookup _ = _; rw [g.hsc]; exact gl_by h1) hm h3)
    · cases h
  | .callv cs i es, X, sc, okc, y, g, h => by
    unfold E.chk at h
    split at h
    · simp only [Bool.and_eq_true] at h
      obtain ⟨h1, h2, h4⟩ := h
      obtain ⟨n1, n2, n3, n4⟩ := g.slot h1
      have hc : ∀ c, cs.contains c = true → C.fns.contains c = true ∧ C.fvs.contains c = true := fun c hc => by
        have := List.all_eq_true.mp h2 c (List.contains_iff_mem.mp hc)
        exact Bool.and_eq_true_iff.mp this
      cases es with
      | nil => unfold Es.chk at h4; cases h4
      | cons e r =>
        have h4' := h4
        unfold Es.chk at h4'
        simp only [Bool.and_eq_true] at h4'
        exact mkP (se_callv n1 n2 g.room (fun c z => by
          obtain ⟨fa, fd, ps, F, hm, hk, hb, hga⟩ := g.fns c (hc c z).1
          subst hga
          exact ⟨fd, ps, F, hk, hb⟩) (fun c c' z z' e => g.inj c c' (hc c z).2 (hc c' z').2 e) (Es.ok (.cons e r) g h4) n3 n4 (star_ok h4'.1) (back_plain (Es.plain r h4'.2.2)))
    · cases h
theorem Es.ok : ∀ (es : Es) {X : Cx} {sc : Scope} {okc : Str → Bool} {ys : List Expr}, Gd C Γ k X sc okc → Es.chk C es sc okc ys = true → PA X ys (rA X.K (es.dens Γ))
  | .nil, X, sc, okc, ys, g, h => by
    unfold Es.chk at h
    split at h
    · exact sa_nil
    · cases h
  | .cons e r, X, sc, okc, ys, g, h => by
    unfold Es.chk at h
    split at h
    · simp only [Bool.and_eq_true] at h
      obtain ⟨h1, h2, h3⟩ := h
      exact sa_cons (E.ok e g h2).1 (Es.ok r g h3) (star_ok h1)
    · cases h
theorem It.ok : ∀ (it : It) {X : Cx} {sc : Scope} {okc : Str → Bool} {tg y : Expr}, Gd C Γ k X sc okc → It.chk C it sc okc tg y = true → PI X tg y (rI X.K it.vars (it.den Γ))
  | .e x, X, sc, okc, tg, y, g, h => by
    unfold It.chk at h
    exact si_e (E.ok x g h).1 fun ρ ρ' i e => E.vars_ok Γ x ρ ρ' i e
  | .rng1 a, X, sc, okc, tg, y, g, h => by
    unfold It.chk at h
    split at h
    · simp only [Bool.and_eq_true, decide_eq_true_eq] at h
      obtain ⟨rfl, h1, h2, h3⟩ := h
      exact si_rng1 (g.glb h1).1 (g.glb h1).2 (E.ok a g h3).1 (star_ok h2)
    · cases h
  | .rng2 a b, X, sc, okc, tg, y, g, h => by
    unfold It.chk at h
    split at h
    · simp only [Bool.and_eq_true, decide_eq_true_eq] at h
      obtain ⟨rfl, h1, h2, h3, h4, h5⟩ := h
      exact si_rng2 (g.glb h1).1 (g.glb h1).2 (E.ok a g h4).1 (E.ok b g h5).1 (star_ok h2) (star_ok h3)
    · cases h
  | .enum a, X, sc, okc, tg, y, g, h => by
    unfold It.chk at h
    simp only [Bool.and_eq_true] at h
    obtain ⟨ht, h⟩ := h
    cases tg with
    | Tuple elts kk tp =>
      split at h
      · simp only [Bool.and_eq_true, decide_eq_true_eq] at h
        obtain ⟨rfl, h1, h2, h3⟩ := h
        exact si_enum (g.glb h1).1 (g.glb h1).2 (E.ok a g h3).1 (fun ρ ρ' i e => E.vars_ok Γ a ρ ρ' i e) (star_ok h2)
      · cases h
    | _ => cases ht
  | .zip a b, X, sc, okc, tg, y, g, h => by
    unfold It.chk at h
    simp only [Bool.and_eq_true] at h
    obtain ⟨ht, h⟩ := h
    split at h
    · simp only [Bool.and_eq_true, decide_eq_true_eq] at h
      obtain ⟨rfl, h1, h2, h3, h4, h5⟩ := h
      exact si_zip ht (g.glb h1).1 (g.glb h1).2 (E.ok a g h4).1 (E.ok b g h5).1 (fun ρ ρ' i e => E.vars_ok Γ a ρ ρ' i e) (fun ρ ρ' i e => E.vars_ok Γ b ρ ρ' i e) (star_ok h2) (star_ok h3)
    · cases h
end
end
end Dn

set_option Elab.async false
set_option linter.all false
set_option maxRecDepth 100000
set_option maxHeartbeats 8000000
/-! Dn, part M: what is checked is sound: statements. -/
namespace Dn
open PySem PySem.Spec PyProof.Rows L2

/-- a comprehension that is stored at once -/
def compSw (sc : Scope) (x : Str) (p' : Pos) (v : Expr) : Bool := match v with
  | .ListComp _ _ scope pos => lclB sc x && ((p'.line == pos.line) && !(scope.names.any fun (n, k) => n == x && (k == .local || k == .cell)))
  | _ => false
def lcForm : E → Bool
  | .lc0 .. => true
  | .lc1 .. => true
  | _ => false
def lcForm' : E → Bool
  | .fz e => lcForm e
  | e => lcForm e
mutual
def S.chk (C : Ck) : S → Scope → (Str → Bool) → Stmt → Bool
  | .asg (.n i) e, sc, okc, y => match y with
    | .Assign [.Name x p'] v _ => decide (C.N[i]? = some x) && (locB sc x && ((okc x || lclB sc x) && (E.chk C e sc okc v && (noComp v || ((lcForm' e && compSw sc x p' v) || !(lclB sc x))))))
    | _ => false
  | .par is es, sc, okc, y => match y with
    | .Assign [.Tuple [.Name x px, .Name z pz] _ _] (.Tuple [a, b] _ _) _ => (match is with
      | [i, j] => decide (C.N[i]? = some x) && (decide (C.N[j]? = some z) && (decide (i ≠ j) && (lclB sc x && (lclB sc z && ((pz.line == px.line) && ([a, b].all okS && (!([a, b].all (foldedForSure 8)) && (!([a, b].all (constantsAlone 8)) && Es.chk C es sc okc [a, b]))))))))
      | _ => false)
    | .Assign [.Tuple [.Name x px, .Name z pz, .Name w pw] _ _] (.Tuple [a, b, c] _ _) _ => (match is with
      | [i, j, l] => decide (C.N[i]? = some x) && (decide (C.N[j]? = some z) && (decide (C.N[l]? = some w) && (decide (i ≠ j) && (decide (i ≠ l) && (decide (j ≠ l) && (lclB sc x && (lclB sc z && (lclB sc w && ((pz.line == px.line) && ((pw.line == px.line) && ([a, b, c].all okS && (!([a, b, c].all (foldedForSure 8)) && (!([a, b, c].all (constantsAlone 8)) && Es.chk C es sc okc [a, b, c])))))))))))))
      | _ => false)
    | _ => false
  | .asg (.t ts) e, sc, okc, y => match y with
    | .Assign [.Tuple ys k p'] v _ => noTup v && (Tg.chk C sc okc (.t ts) (.Tuple ys k p') && E.chk C e sc okc v)
    | _ => false
  | .seti i ke e, sc, okc, y => match y with
    | .Assign [.Subscript (.Name x _) yk _] v _ => slotB C sc i x && (okx yk && (E.chk C ke sc okc yk && E.chk C e sc okc v))
    | _ => false
  | .aug i e, sc, okc, y => match y with
    | .AugAssign (.Name x _) op v _ => decide (op = .Add) && (decide (C.N[i]? = some x) && (locB sc x && ((okc x || lclB sc x) && E.chk C e sc okc v)))
    | _ => false
  | .ex e, sc, okc, y => match y with
    | .Expr v _ => noComp v && E.chk C e sc okc v
    | _ => false
  | .ret e, sc, okc, y => match y with
    | .Return (some v) _ => E.chk C e sc okc v
    | _ => false
  | .retn, sc, okc, y => match y with
    | .Return none _ => true
    | _ => false
  | .ife c a b, sc, okc, y => match y with
    | .If yc ya yb _ => c.tst yc && (E.chk C c sc okc yc && (Ss.chk C a sc okc ya && Ss.chk C b sc okc yb))
    | _ => false
  | .whl c b, sc, okc, y => match y with
    | .While yc yb [] _ => c.tst yc && (E.chk C c sc okc yc && Ss.chk C b sc okc yb)
    | _ => false
  | .for_ t it b, sc, okc, y => match y with
    | .For yt yi yb [] _ => noSet yi && (Tg.chk C sc okc t yt && (It.chk C it sc okc yt yi && (Ss.chk C b sc okc yb && apart it.vars (t.slots ++ (b.asgs ++ b.tch C.md)))))
    | _ => false
  | .brk, sc, okc, y => match y with
    | .Break _ => true
    | _ => false
  | .cnt, sc, okc, y => match y with
    | .Continue _ => true
    | _ => false
  | .pas, sc, okc, y => match y with
    | .Pass _ => true
    | .Expr (.Constant (.str _) _ _) _ => true
    | _ => false
  | .dead, _, _, _ => true
def Ss.chk (C : Ck) : Ss → Scope → (Str → Bool) → List Stmt → Bool
  | .nil, sc, okc, ys => match ys with
    | [] => true
    | _ :: _ => false
  | .cons s r, sc, okc, ys => match ys with
    | y :: ys => S.chk C s sc okc y && Ss.chk C r sc okc ys
    | [] => false
end
/-- into a name that a comprehension reads, nothing is swapped -/
theorem sw_cell {v : Expr} {x : Str} {p : Pos} {l : Nat} {env : PySem.Env} (h : lclB env.scope x = false) : swapsWith v (some (.Name x p)) l env = pure false := by
  have k : (env.kindOf x == some .local) = false := by
    show (env.scope.names.lookup x == some .local) = false
    unfold lclB at h
    cases e : env.scope.names.lookup x with
    | none => rfl
    | some q => cases q <;> first | rfl | (rw [e] at h; cases h)
  cases v <;> first
    | rfl
    | (unfold swapsWith; simp only [k, Bool.and_false, Bool.false_and])
theorem sub_assign {X : Cx} {x : Str} {ke : Expr} {px ps : Pos} (h : okx ke = true) : ∀ v, assign (.Subscript (.Name x px) ke ps) X.env v = (do
      let ov ← holding [v] (eval (.Name x px) X.env)
      let iv ← holding [v, ov] (eval ke X.env)
      standAt ps
      holding [v, ov, iv] (setItem ov iv v)
      release [v, ov, iv] []) := by
  intro v
  cases ke <;> first | rfl | cases h
theorem sk_doc {X : Cx} {x : Str} {j : Nat} {p p' : Pos} : PS X (.Expr (.Constant (.str x) j p) p') (rS X.K [] fun ρ => .ok (.nx, ρ)) := PS.weak ps_doc fun D σ H h => by
  obtain ⟨α, ρ, fl, ρ', e, hs, q⟩ := h
  cases e
  exact q σ H hs Agr.refl
theorem ps_frz {X : Cx} {st : Stmt} {t : TS} (h : PS X st t) : PS X st fun D σ H => t { D with nx := fun σ' H' => (∃ p ho, H' p = some ho ∧ Mut (some ho) ∧ ∀ od, D.nx σ' (upd H' p (.frz od ho))) ∨ D.nx σ' H' } σ H :=
  ⟨fun pins s σ H D I hw => thn (h.run pins s σ H _ I hw) fun f s1 q => by
    cases f with
    | next =>
      obtain ⟨σ', H', I', q⟩ := q
      rcases q with ⟨p, xs, hp, mu, q⟩ | q
      · obtain ⟨od, I2⟩ := I'.lock hp mu
        exact ⟨_, _, I2, q od⟩
      · exact ⟨_, _, I', q⟩
    | brk => exact q
    | cont => exact q
    | ret v => exact q⟩
theorem asg_frz {K : PySem.W.Frag} {fe : Dn.Env → R (O × Dn.Env)} {te : TE} {i : Nat} (w : ∀ σ H Q, rE K fe σ H Q → te σ H Q) : ∀ (D : Ends) σ H, rS K [i] (dAsg i fun ρ => (do let (o, ρ) ← fe ρ; let s ← o.use ρ; let s ← noFn s; .ok (.val (.d s.dat), ρ))) D σ H →
    tAsg te (gName i) { D with nx := fun σ' H' => (∃ p ho, H' p = some ho ∧ Mut (some ho) ∧ ∀ od, D.nx σ' (upd H' p (.frz od ho))) ∨ D.nx σ' H' } σ H := fun D σ H h => by
  obtain ⟨α, ρ, fl, ρ', e, hs, q⟩ := h
  obtain ⟨⟨o, ρ1⟩, e1, e⟩ := bind_ok e
  obtain ⟨s, e2, e⟩ := bind_ok e
  obtain ⟨hi, e⟩ := if_ok e
  cases e
  obtain ⟨⟨oa, ρ2⟩, e3, e1⟩ := bind_ok e1
  obtain ⟨t, e4, e1⟩ := bind_ok e1
  obtain ⟨t', e5, e6⟩ := bind_ok e1
  obtain ⟨rfl, hf⟩ := noFn_ok e5
  cases e6
  cases e2
  have ag : ∀ v, Agr [i] σ (σ.set i (some v)) := fun v j hj => List.getElem?_set_ne fun z => hj (by rw [z]; exact List.mem_singleton.mpr rfl)
  refine w _ _ _ (rE.one e3 hs fun va H1 h1 => ?_)
  have h2 := h1.use e4
  obtain ⟨F, o⟩ := h2.ow
  rcases o.frzs hf with ⟨F', o'⟩ | ⟨p, ho, rfl, hp, mu, k⟩
  · exact .inr (q _ H1 (StR.put ⟨h2.len, h2.ok, F', o'⟩ hi) (ag _))
  · refine .inl ⟨p, ho, hp, mu, fun od => q _ _ ?_ (ag _)⟩
    obtain ⟨F', o'⟩ := k od
    exact StR.put ⟨h2.len, h2.ok, F', o'⟩ hi
section
variable {C : Ck} {Γ : Gl0} {k : Nat} (hmd : Γ.md = C.md) (hgl : GlOk Γ)
include hmd hgl
theorem E.lcRaw {e : E} (hf : lcForm e = true) {X : Cx} {sc : Scope} {okc : Str → Bool} {v : Expr} {i : Nat} {x : Str} {p' pos : Pos} (g : Gd C Γ k X sc okc) (h : E.chk C e sc okc v = true) (hw : compSw sc x p' v = true) (hi : C.N[i]? = some x) :
    ∃ te, PS X (.Assign [.Name x p'] v pos) (tAsg te (gName i)) ∧ ∀ σ H Q, rE X.K (e.den Γ) σ H Q → te σ H Q := by
  cases e with
  | lc0 own t it e =>
      unfold E.chk at h
      split at h
      · unfold compSw at hw
        simp only [Bool.and_eq_true, decide_eq_true_eq, Bool.not_eq_true'] at h hw
        obtain ⟨rfl, h0, h1, h2, h3, h4, h5, h6⟩ := h
        obtain ⟨w1, w2, w3⟩ := hw
        have ok := blkOk_by h1
        have hts : ∀ i, i ∈ t.slots → i ∈ own.map (·.2) := fun i hi => by
          have := List.all_eq_true.mp h2 i hi
          simpa using this
        have ha := apart_by h3
        have hl : X.env.scope.names.lookup x = some .local := by rw [g.hsc]; exact lcl_by w1
        have hw := fun σ H Q => lc_weak (K := X.K) (own := own) (vs := it.vars) (fit := it.den Γ) (fe := e.den Γ) (fc := fun ρ => .ok (true, ρ)) (Tc := []) (Te := e.tch C.md) hts (fun ρ => Pr.ret) (fun ρ => by rw [← hmd]; exact E.pr Γ e ρ)
          (fun i hi => ⟨fun z => ha i hi (List.mem_append_left _ z), List.not_mem_nil, fun z => ha i hi (List.mem_append_right _ z)⟩) σ H Q
        unfold dLc at hw
        rw [← lc0_step] at hw
        exact ⟨_, ps_setLc (g := rG X.K t.slots t.put) (tt := rT X.K fun ρ => .ok (true, ρ)) (te := rE X.K (e.den Γ)) (wi := rI X.K it.vars (it.den Γ)) g.calm (by rw [g.hN]; exact g.nd) (by rw [g.hN]; exact hi) hl (sw_true (by rw [g.hsc]; exact g.kind) hl w2 w3)
          (It.ok hmd hgl it g h5) (by rw [g.hN, g.hsc]; exact ok) (fun s H a cl fp => Tg.ok t (g.blk ok s H a cl fp) h4) (fun s H a cl fp => sts_nil) (fun s H a cl fp => (E.ok hmd hgl e (g.blk ok s H a cl fp) h6).1) (fs_no h0), hw⟩
      · cases h
  | lc1 own t it c e =>
      unfold E.chk at h
      split at h
      · unfold compSw at hw
        simp only [Bool.and_eq_true, decide_eq_true_eq, Bool.not_eq_true'] at h hw
        obtain ⟨rfl, h0, h1, h2, h3, h4, h5, h6, h7, h8⟩ := h
        obtain ⟨w1, w2, w3⟩ := hw
        have ok := blkOk_by h1
        have hts : ∀ i, i ∈ t.slots → i ∈ own.map (·.2) := fun i hi => by
          have := List.all_eq_true.mp h2 i hi
          simpa using this
        have ha := apart_by h3
        have hl : X.env.scope.names.lookup x = some .local := by rw [g.hsc]; exact lcl_by w1
        have hw := fun σ H Q => lc_weak (K := X.K) (own := own) (vs := it.vars) (fit := it.den Γ) (fe := e.den Γ) (fc := tru (c.den Γ)) (Tc := c.tch C.md) (Te := e.tch C.md) hts (fun ρ => by rw [← hmd]; exact E.prT Γ c ρ) (fun ρ => by rw [← hmd]; exact E.pr Γ e ρ)
          (fun i hi => ⟨fun z => ha i hi (List.mem_append_left _ z), fun z => ha i hi (List.mem_append_right _ (List.mem_append_left _ z)), fun z => ha i hi (List.mem_append_right _ (List.mem_append_right _ z))⟩) σ H Q
        unfold dLc at hw
        rw [← lc1_step] at hw
        exact ⟨_, ps_setLc (g := rG X.K t.slots t.put) (tt := rT X.K (tru (c.den Γ))) (te := rE X.K (e.den Γ)) (wi := rI X.K it.vars (it.den Γ)) g.calm (by rw [g.hN]; exact g.nd) (by rw [g.hN]; exact hi) hl (sw_true (by rw [g.hsc]; exact g.kind) hl w2 w3)
          (It.ok hmd hgl it g h5) (by rw [g.hN, g.hsc]; exact ok) (fun s H a cl fp => Tg.ok t (g.blk ok s H a cl fp) h4) (fun s H a cl fp => pts_one ((E.ok hmd hgl c (g.blk ok s H a cl fp) h7).2 h6)) (fun s H a cl fp => (E.ok hmd hgl e (g.blk ok s H a cl fp) h8).1) (fs_no h0), hw⟩
      · cases h
  | _ => cases hf
theorem E.lcSet {e : E} (hf : lcForm' e = true) {X : Cx} {sc : Scope} {okc : Str → Bool} {v : Expr} {i : Nat} {x : Str} {p' pos : Pos} (g : Gd C Γ k X sc okc) (h : E.chk C e sc okc v = true) (hw : compSw sc x p' v = true) (hi : C.N[i]? = some x) :
    PS X (.Assign [.Name x p'] v pos) (rS X.K [i] (dAsg i (e.den Γ))) := by
  by_cases c : lcForm e = true
  · obtain ⟨te, h1, h2⟩ := E.lcRaw hmd hgl c (pos := pos) g h hw hi
    exact PS.weak h1 (asg_weak h2)
  · cases e with
    | fz e =>
      unfold E.chk at h
      obtain ⟨te, h1, h2⟩ := E.lcRaw hmd hgl hf (pos := pos) g h hw hi
      exact PS.weak (ps_frz h1) (asg_frz h2)
    | _ => exact absurd hf c
mutual
theorem S.ok : ∀ (s : S) {X : Cx} {sc : Scope} {okc : Str → Bool} {y : Stmt}, Gd C Γ k X sc okc → S.chk C s sc okc y = true → PS X y (rS X.K s.asgs (s.den Γ))
  | .asg t e, X, sc, okc, y, g, h => by
    cases t with
    | n i =>
      unfold S.chk at h
      split at h
      · simp only [Bool.and_eq_true, decide_eq_true_eq, Bool.or_eq_true, Bool.not_eq_true'] at h
        obtain ⟨h1, h2, h3, h4, h5⟩ := h
        rcases h5 with h5 | ⟨h5, h6⟩ | h5
        · refine sk_set (by rw [g.hN]; exact g.nd) (by rw [g.hN]; exact h1) (by rw [g.hsc]; exact loc_by h2) (E.ok hmd hgl e g h4).1 (sw_no h5) ?_
          rcases h3 with h3 | h3
          · exact .inl (by rw [g.fn]; exact h3)
          · exact .inr (by rw [g.hsc]; exact lcl_by h3)
        · exact E.lcSet hmd hgl h5 g h4 h6 h1
        · refine sk_set (by rw [g.hN]; exact g.nd) (by rw [g.hN]; exact h1) (by rw [g.hsc]; exact loc_by h2) (E.ok hmd hgl e g h4).1 (sw_cell (by rw [g.hsc]; exact h5)) ?_
          rcases h3 with h3 | h3
          · exact .inl (by rw [g.fn]; exact h3)
          · exact .inr (by rw [g.hsc]; exact lcl_by h3)
      · cases h
    | t ts =>
      unfold S.chk at h
      split at h
      · simp only [Bool.and_eq_true] at h
        obtain ⟨h1, h2, h3⟩ := h
        exact sk_asgT (E.ok hmd hgl e g h3).1 (Tg.ok (.t ts) g h2) h1 rfl
      · cases h
  | .par is es, X, sc, okc, y, g, h => by
    unfold S.chk at h
    split at h
    · split at h
      · simp only [Bool.and_eq_true, decide_eq_true_eq, Bool.not_eq_true'] at h
        obtain ⟨h1, h2, h3, h4, h5, h6, h7, h8, h9, h10⟩ := h
        exact sk_par2 g.calm (by rw [g.hN]; exact g.nd) (by rw [g.hN]; exact h1) (by rw [g.hN]; exact h2) h3 (by rw [g.hsc]; exact lcl_by h4) (by rw [g.hsc]; exact lcl_by h5) (Es.ok hmd hgl es g h10) (by rw [g.hsc]; exact g.kind) h6 h7 h8 h9
      · cases h
    · split at h
      · simp only [Bool.and_eq_true, decide_eq_true_eq, Bool.not_eq_true'] at h
        obtain ⟨h1, h2, h3, h4, h5, h6, h7, h8, h9, h10, h11, h12, h13, h14, h15⟩ := h
        exact sk_par3 g.calm (by rw [g.hN]; exact g.nd) (by rw [g.hN]; exact h1) (by rw [g.hN]; exact h2) (by rw [g.hN]; exact h3) h4 h5 h6 (by rw [g.hsc]; exact lcl_by h7) (by rw [g.hsc]; exact lcl_by h8) (by rw [g.hsc]; exact lcl_by h9) (Es.ok hmd hgl es g h15) (by rw [g.hsc]; exact g.kind) h10 h11 h12 h13 h14
      · cases h
    · cases h
  | .seti i ke e, X, sc, okc, y, g, h => by
    unfold S.chk at h
    split at h
    · simp only [Bool.and_eq_true] at h
      obtain ⟨h1, h2, h3, h4⟩ := h
      obtain ⟨n1, n2, n3, n4⟩ := g.slot h1
      exact sk_seti g.hu1 n1 n2 n3 n4 (E.ok hmd hgl ke g h3).1 (E.ok hmd hgl e g h4).1 (sub_assign h2)
    · cases h
  | .aug i e, X, sc, okc, y, g, h => by
    unfold S.chk at h
    split at h
    · simp only [Bool.and_eq_true, decide_eq_true_eq, Bool.or_eq_true] at h
      obtain ⟨rfl, h1, h2, h3, h4⟩ := h
      refine sk_aug (by rw [g.hN]; exact g.nd) (by rw [g.hN]; exact h1) (by rw [g.hsc]; exact loc_by h2) (E.ok hmd hgl e g h4).1 ?_
      rcases h3 with h3 | h3
      · exact .inl (by rw [g.fn]; exact h3)
      · exact .inr (by rw [g.hsc]; exact lcl_by h3)
    · cases h
  | .ex e, X, sc, okc, y, g, h => by
    unfold S.chk at h
    split at h
    · simp only [Bool.and_eq_true] at h
      exact sk_ex (E.ok hmd hgl e g h.2).1 h.1
    · cases h
  | .ret e, X, sc, okc, y, g, h => by
    unfold S.chk at h
    split at h
    · exact sk_ret (E.ok hmd hgl e g h).1
    · cases h
  | .retn, X, sc, okc, y, g, h => by
    unfold S.chk at h
    split at h
    · exact sk_retn
    · cases h
  | .ife c a b, X, sc, okc, y, g, h => by
    unfold S.chk at h
    split at h
    · simp only [Bool.and_eq_true] at h
      obtain ⟨h0, h1, h2, h3⟩ := h
      exact sk_if ((E.ok hmd hgl c g h1).2 h0) (Ss.ok a g h2) (Ss.ok b g h3)
    · cases h
  | .whl c b, X, sc, okc, y, g, h => by
    unfold S.chk at h
    split at h
    · simp only [Bool.and_eq_true] at h
      obtain ⟨h0, h1, h2⟩ := h
      exact sk_while (n := Γ.fuel) g.xe ((E.ok hmd hgl c g h1).2 h0) (Ss.ok b g h2)
    · cases h
  | .for_ t it b, X, sc, okc, y, g, h => by
    unfold S.chk at h
    split at h
    · simp only [Bool.and_eq_true] at h
      obtain ⟨h0, h1, h2, h3, h4⟩ := h
      have ha := apart_by h4
      exact sk_for (Tb := b.tch C.md) g.calm g.xe (It.ok hmd hgl it g h2) (Tg.ok t g h1) (Ss.ok b g h3) h0 (fun ρ => by rw [← hmd]; exact Ss.pr Γ b ρ)
        fun i hi => ⟨fun z => ha i hi (List.mem_append_left _ z), fun z => ha i hi (List.mem_append_right _ (List.mem_append_left _ z)), fun z => ha i hi (List.mem_append_right _ (List.mem_append_right _ z))⟩
    · cases h
  | .brk, X, sc, okc, y, g, h => by
    unfold S.chk at h
    split at h
    · exact sk_brk
    · cases h
  | .cnt, X, sc, okc, y, g, h => by
    unfold S.chk at h
    split at h
    · exact sk_cnt
    · cases h
  | .pas, X, sc, okc, y, g, h => by
    unfold S.chk at h
    split at h
    · exact sk_pass
    · exact sk_doc
    · cases h
  | .dead, X, sc, okc, y, g, h => sk_dead
theorem Ss.ok : ∀ (s : Ss) {X : Cx} {sc : Scope} {okc : Str → Bool} {ys : List Stmt}, Gd C Γ k X sc okc → Ss.chk C s sc okc ys = true → PSs X ys (rS X.K s.asgs (s.dens Γ))
  | .nil, X, sc, okc, ys, g, h => by
    unfold Ss.chk at h
    split at h
    · exact sk_nil
    · cases h
  | .cons s r, X, sc, okc, ys, g, h => by
    unfold Ss.chk at h
    split at h
    · simp only [Bool.and_eq_true] at h
      exact sk_cons (S.ok s g h.1) (Ss.ok r g h.2)
    · cases h
end
end
end Dn

set_option Elab.async false
set_option linter.all false
set_option maxRecDepth 100000
set_option maxHeartbeats 4000000
/-! Dn, part N: a table of defs; each keeps its promise. -/
namespace Dn
open PySem PySem.Spec PyProof.Rows L2

structure Fdef where
  nm : Str
  ps : List Str
  N : List Str
  fns : List Str
  blt : List Str
  md : List PM
  body : Ss
abbrev Tab := List Fdef
def Tab.at_ (T : Tab) (x : Str) : Option Fdef := T.find? fun d => d.nm == x
def Tab.md (T : Tab) (x : Str) : List PM := match T.at_ x with
  | some d => d.md
  | none => []
/-- what became of the arguments -/
def outD (A : List Nat) : Nat → List SV → Dn.Env → List (Option SV)
  | _, [], _ => []
  | j, s :: ss, [] => none :: outD A (j + 1) ss []
  | j, s :: ss, o :: ρ => (match s with
    | .d x => some (.d x)
    | .l _ => if A.contains j = true then none else o
    | .ow _ => if A.contains j = true then none else o) :: outD A (j + 1) ss ρ
def fin (A : List Nat) (ss : List SV) : Fl × Dn.Env → R (SV × List (Option SV))
  | (.ret s, ρ) => .ok (s, outD A 0 ss ρ)
  | (.nx, ρ) => .ok (.d .none, outD A 0 ss ρ)
  | _ => .bad
def env0 (d : Fdef) (ss : List SV) : Dn.Env := ss.map some ++ List.replicate (d.N.length - ss.length) none
section
variable (T : Tab) (gl : Str → Option D) (fuel : Nat)
def fnDen : Nat → Str → List SV → R (SV × List (Option SV))
  | 0, _, _ => .bad
  | k + 1, x, ss => match T.at_ x with
    | none => .bad
    | some d => if ss.length = d.ps.length then (do
        let r ← d.body.dens ⟨fnDen k, T.md, gl, fuel⟩ (env0 d ss)
        fin d.body.asgs ss r) else .bad
def Γof (k : Nat) : Gl0 := ⟨fnDen T gl fuel k, T.md, gl, fuel⟩
end
def roB (T : Tab) (d : Fdef) : Bool := (List.range d.md.length).all fun j => match d.md[j]? with
  | some .ro => !(d.body.asgs.contains j) && !((d.body.tch T.md).contains j)
  | _ => true
section
variable {T : Tab} {gl : Str → Option D} {fuel : Nat}
theorem at_mem {x : Str} {d : Fdef} (h : T.at_ x = some d) : d ∈ T ∧ d.nm = x := by
  unfold Tab.at_ at h
  exact ⟨List.mem_of_find?_eq_some h, by simpa using List.find?_some h⟩
theorem fnDen_ok {k : Nat} {x : Str} {ss : List SV} {r : SV} {as : List (Option SV)} (e : fnDen T gl fuel (k + 1) x ss = .ok (r, as)) :
    ∃ d fl ρ', T.at_ x = some d ∧ ss.length = d.ps.length ∧ d.body.dens (Γof T gl fuel k) (env0 d ss) = .ok (fl, ρ') ∧ as = outD d.body.asgs 0 ss ρ' ∧ (fl = .ret r ∨ (fl = .nx ∧ r = .d .none)) := by
  unfold fnDen at e
  cases h : T.at_ x with
  | none => rw [h] at e; cases e
  | some d =>
    rw [h] at e
    have e' : (if ss.length = d.ps.length then (d.body.dens (Γof T gl fuel k) (env0 d ss) >>= fun r => fin d.body.asgs ss r) else .bad) = .ok (r, as) := e
    by_cases c : ss.length = d.ps.length
    · rw [if_pos c] at e'
      obtain ⟨⟨fl, ρ'⟩, e1, e2⟩ := bind_ok e'
      refine ⟨d, fl, ρ', rfl, c, e1, ?_⟩
      cases fl with
      | ret s => cases e2; exact ⟨rfl, .inl rfl⟩
      | nx => cases e2; exact ⟨rfl, .inr ⟨rfl, rfl⟩⟩
      | brk => cases e2
      | cnt => cases e2
    · rw [if_neg c] at e'
      cases e'
theorem outD_l {A : List Nat} {j : Nat} {xs : List D} {ss : List SV} {o : Option SV} {ρ : Dn.Env} : outD A j (.l xs :: ss) (o :: ρ) = (if A.contains j = true then none else o) :: outD A (j + 1) ss ρ := by rw [outD]
theorem outD_w {A : List Nat} {j : Nat} {w : OV} {ss : List SV} {o : Option SV} {ρ : Dn.Env} : outD A j (.ow w :: ss) (o :: ρ) = (if A.contains j = true then none else o) :: outD A (j + 1) ss ρ := by rw [outD]
theorem outD_len {A : List Nat} : ∀ (ss : List SV) (j : Nat) (ρ : Dn.Env), (outD A j ss ρ).length = ss.length
  | [], _, _ => by unfold outD; rfl
  | s :: ss, j, [] => by unfold outD; exact congrArg Nat.succ (outD_len ss _ _)
  | s :: ss, j, o :: ρ => by unfold outD; exact congrArg Nat.succ (outD_len ss _ _)
theorem outD_get {A : List Nat} : ∀ (ss : List SV) (j : Nat) (ρ : Dn.Env) (i : Nat) (s : SV), ss[i]? = some s → A.contains (j + i) = false → ρ[i]? = some (some s) → (outD A j ss ρ)[i]? = some (some s)
  | [], _, _, _, _, e, _, _ => by simp at e
  | _ :: _, _, [], _, _, _, _, e => by simp at e
  | t :: ss, j, o :: ρ, 0, s, e, h, e2 => by
    simp at e e2
    subst e e2
    have h : A.contains j = false := h
    cases t with
    | d x => unfold outD; rfl
    | l xs =>
      rw [outD_l, if_neg (by rw [h]; exact Bool.false_ne_true)]
      rfl
    | ow w =>
      rw [outD_w, if_neg (by rw [h]; exact Bool.false_ne_true)]
      rfl
  | t :: ss, j, o :: ρ, i + 1, s, e, h, e2 => by
    have ih := outD_get ss (j + 1) ρ i s (by simpa using e) (by rw [show j + 1 + i = j + (i + 1) by omega]; exact h) (by simpa using e2)
    unfold outD
    simpa using ih
theorem env0_get {d : Fdef} {ss : List SV} {i : Nat} {s : SV} (e : ss[i]? = some s) : (env0 d ss)[i]? = some (some s) := by
  unfold env0
  have hi : i < ss.length := by
    rcases Nat.lt_or_ge i ss.length with z | z
    · exact z
    · rw [List.getElem?_eq_none z] at e; cases e
  rw [List.getElem?_append_left (by simpa using hi), List.getElem?_map, e]
  rfl
theorem glOk (hro : ∀ d ∈ T, roB T d = true) (k : Nat) : GlOk (Γof T gl fuel k) := by
  intro x ss r as e
  cases k with
  | zero => cases e
  | succ k =>
    obtain ⟨d, fl, ρ', h1, h2, h3, rfl, _⟩ := fnDen_ok e
    refine ⟨outD_len _ _ _, fun j hj => ?_⟩
    have hj' : d.md[j]? = some .ro := by
      have : T.md x = d.md := by unfold Tab.md; rw [h1]
      rw [← this]
      exact hj
    have hr := hro d (at_mem h1).1
    unfold roB at hr
    have hjl : j < d.md.length := by
      rcases Nat.lt_or_ge j d.md.length with z | z
      · exact z
      · rw [List.getElem?_eq_none z] at hj'; cases hj'
    have := List.all_eq_true.mp hr j (List.mem_range.mpr hjl)
    rw [hj'] at this
    simp only [Bool.and_eq_true, Bool.not_eq_true'] at this
    cases es : ss[j]? with
    | none =>
      rw [List.getElem?_eq_none]
      · rfl
      · rw [outD_len]
        rcases Nat.lt_or_ge j ss.length with z | z
        · rw [List.getElem?_eq_getElem z] at es; cases es
        · exact z
    | some s =>
      refine outD_get ss 0 ρ' j s es (by rw [Nat.zero_add]; exact this.1) ?_
      have hj2 : j ∉ Ss.tch T.md d.body := fun z => by
        have q : (d.body.tch T.md).contains j = true := List.contains_iff_mem.mpr z
        rw [this.2] at q
        cases q
      rw [Ss.pr (Γof T gl fuel k) d.body (env0 d ss) fl ρ' h3 j hj2]
      exact env0_get es
/-! ### what is handed back is owned -/
def pures : List SV → List V → List (SV × V)
  | .d x :: ss, v :: vs => (.d x, v) :: pures ss vs
  | .l _ :: ss, _ :: vs => pures ss vs
  | .ow _ :: ss, _ :: vs => pures ss vs
  | _, _ => []
theorem pures_ow {K : PySem.W.Frag} {H : Hp} {L : List (SV × V)} {F : Addr → Prop} (h : Ow K H L F) : ∀ {ss : List SV} {vs : List V}, (∀ p ∈ ss.zip vs, p ∈ L) → Ow K H (pures ss vs ++ L) F
  | [], _, _ => by unfold pures; exact h
  | .d _ :: _, [], _ => by unfold pures; exact h
  | .l _ :: _, [], _ => by unfold pures; exact h
  | .ow _ :: _, [], _ => by unfold pures; exact h
  | .d x :: ss, v :: vs, m => by
    have ih := pures_ow h (ss := ss) (vs := vs) fun p z => m p (List.mem_cons_of_mem _ z)
    unfold pures
    obtain ⟨G, r⟩ := h.mem (m (.d x, v) (List.mem_cons_self ..))
    exact Ow.pure r.1 ih
  | .l _ :: ss, v :: vs, m => by
    have ih := pures_ow h (ss := ss) (vs := vs) fun p z => m p (List.mem_cons_of_mem _ z)
    unfold pures
    exact ih
  | .ow _ :: ss, v :: vs, m => by
    have ih := pures_ow h (ss := ss) (vs := vs) fun p z => m p (List.mem_cons_of_mem _ z)
    unfold pures
    exact ih
theorem pick_start : ∀ {ss : List SV} {vs : List V} (n m : Nat), ss.length = vs.length → pick (ss.map some ++ List.replicate n none) (vs.map some ++ List.replicate m none) = ss.zip vs
  | [], [], n, m, _ => by
    have : ∀ n m : Nat, pick (List.replicate n none) (List.replicate m none) = [] := fun n => by
      induction n with
      | zero => intro m; cases m <;> rfl
      | succ n ih =>
        intro m
        cases m with
        | zero => rfl
        | succ m => rw [List.replicate_succ, List.replicate_succ]; exact ih m
    exact this n m
  | [], _ :: _, _, _, h => by simp at h
  | _ :: _, [], _, _, h => by simp at h
  | s :: ss, v :: vs, n, m, h => congrArg (List.cons (s, v)) (pick_start n m (by simpa using h))
theorem backs_nil {A : List Nat} : ∀ {ss : List SV} {vs : List V} {j : Nat}, backs (outD A j ss []) vs = []
  | [], vs, j => by unfold outD; cases vs <;> rfl
  | s :: ss, [], j => by unfold outD; rfl
  | s :: ss, v :: vs, j => by
    rw [outD]
    exact backs_nil (ss := ss) (vs := vs) (j := j + 1)
theorem backs_sub {A : List Nat} : ∀ (ss : List SV) (vs : List V) (j : Nat) (ρ : Dn.Env) (σ : L2.St), ρ.length = σ.length → ss.length = vs.length →
    (∀ (i : Nat) v, vs[i]? = some v → A.contains (j + i) = false → σ[i]? = some (some v)) → ∃ M, (backs (outD A j ss ρ) vs ++ M).Perm (pures ss vs ++ pick ρ σ)
  | [], vs, j, ρ, σ, _, hl, _ => by
    cases vs with
    | nil => exact ⟨pick ρ σ, by unfold outD pures backs; exact List.Perm.refl _⟩
    | cons v vs => simp at hl
  | s :: ss, [], _, _, _, _, hl, _ => by simp at hl
  | s :: ss, v :: vs, j, [], σ, _, _, _ => ⟨pures (s :: ss) (v :: vs) ++ pick [] σ, by rw [backs_nil]; exact List.Perm.refl _⟩
  | s :: ss, v :: vs, j, o :: ρ, [], h1, _, _ => by simp at h1
  | s :: ss, v :: vs, j, o :: ρ, w :: σ, h1, h3, hσ => by
    obtain ⟨M, hM⟩ := backs_sub ss vs (j + 1) ρ σ (by simpa using h1) (by simpa using h3) fun i u e c => by
      have := hσ (i + 1) u (by simpa using e) (by rw [show j + (i + 1) = j + 1 + i by omega]; exact c)
      simpa using this
    have hd : ∃ hdp : List (SV × V), pick (o :: ρ) (w :: σ) = hdp ++ pick ρ σ ∧ (∀ t, o = some t → w = some v → hdp = [(t, v)]) ∧ (o = none → hdp = []) := by
      cases o with
      | none => exact ⟨[], by cases w <;> rfl, by simp, by simp⟩
      | some t =>
        cases w with
        | none => exact ⟨[], rfl, by simp, by simp⟩
        | some u => exact ⟨[(t, u)], rfl, by simp, by simp⟩
    obtain ⟨hdp, e1, e2, e3⟩ := hd
    rw [e1]
    have sw : (pures ss vs ++ (hdp ++ pick ρ σ)).Perm (hdp ++ (pures ss vs ++ pick ρ σ)) := by
      rw [← List.append_assoc, ← List.append_assoc]
      exact List.perm_append_comm.append_right _
    cases s with
    | d x =>
      refine ⟨hdp ++ M, ?_⟩
      show ((SV.d x, v) :: (backs (outD A (j + 1) ss ρ) vs ++ (hdp ++ M))).Perm ((SV.d x, v) :: (pures ss vs ++ (hdp ++ pick ρ σ)))
      refine List.Perm.cons _ (List.Perm.trans ?_ sw.symm)
      refine List.Perm.trans ?_ (hM.append_left hdp)
      rw [← List.append_assoc, ← List.append_assoc]
      exact List.perm_append_comm.append_right _
    | l xs =>
      by_cases hc : A.contains j = true
      · refine ⟨hdp ++ M, ?_⟩
        have e4 : outD A j (.l xs :: ss) (o :: ρ) = none :: outD A (j + 1) ss ρ := by rw [outD_l, if_pos hc]
        rw [e4]
        show (backs (outD A (j + 1) ss ρ) vs ++ (hdp ++ M)).Perm (pures ss vs ++ (hdp ++ pick ρ σ))
        refine List.Perm.trans ?_ sw.symm
        refine List.Perm.trans ?_ (hM.append_left hdp)
        rw [← List.append_assoc, ← List.append_assoc]
        exact List.perm_append_comm.append_right _
      · have hw : w = some v := by
          have := hσ 0 v rfl (by simpa using hc)
          simpa using this
        have e4 : outD A j (.l xs :: ss) (o :: ρ) = o :: outD A (j + 1) ss ρ := by rw [outD_l, if_neg hc]
        rw [e4]
        cases o with
        | none =>
          rw [e3 rfl]
          exact ⟨M, hM⟩
        | some t =>
          rw [e2 t rfl hw]
          refine ⟨M, ?_⟩
          show ((t, v) :: (backs (outD A (j + 1) ss ρ) vs ++ M)).Perm (pures ss vs ++ ((t, v) :: pick ρ σ))
          exact (List.Perm.cons _ hM).trans List.perm_middle.symm
    | ow xs =>
      by_cases hc : A.contains j = true
      · refine ⟨hdp ++ M, ?_⟩
        have e4 : outD A j (.ow xs :: ss) (o :: ρ) = none :: outD A (j + 1) ss ρ := by rw [outD_w, if_pos hc]
        rw [e4]
        show (backs (outD A (j + 1) ss ρ) vs ++ (hdp ++ M)).Perm (pures ss vs ++ (hdp ++ pick ρ σ))
        refine List.Perm.trans ?_ sw.symm
        refine List.Perm.trans ?_ (hM.append_left hdp)
        rw [← List.append_assoc, ← List.append_assoc]
        exact List.perm_append_comm.append_right _
      · have hw : w = some v := by
          have := hσ 0 v rfl (by simpa using hc)
          simpa using this
        have e4 : outD A j (.ow xs :: ss) (o :: ρ) = o :: outD A (j + 1) ss ρ := by rw [outD_w, if_neg hc]
        rw [e4]
        cases o with
        | none =>
          rw [e3 rfl]
          exact ⟨M, hM⟩
        | some t =>
          rw [e2 t rfl hw]
          refine ⟨M, ?_⟩
          show ((t, v) :: (backs (outD A (j + 1) ss ρ) vs ++ M)).Perm (pures ss vs ++ ((t, v) :: pick ρ σ))
          exact (List.Perm.cons _ hM).trans List.perm_middle.symm
end
end Dn

set_option Elab.async false
set_option linter.all false
set_option maxRecDepth 100000
set_option maxHeartbeats 4000000
/-! Dn, part O: each def of a table keeps its promise; the law's own. -/
namespace Dn
open PySem PySem.Spec PyProof.Rows L2

/-- whole numbers of the top -/
def glOf (gls : List (Str × GV)) : Str → Option D := fun x => (gls.lookup x).map GV.dat
structure DefOk (K : PySem.W.Frag) (mg : Str → Option Value) (T : Tab) (gls : List (Str × GV)) (fvs : List Str) (d : Fdef) : Prop where
  ex : ∃ (qual : Str) (params : Arguments) (body : List Stmt) (scope : Scope) (f : Addr) (fd : FuncData), FunD K d.nm qual params body scope [] [] f fd ∧ mg d.nm = some (.ref f) ∧ He.ga K d.nm = f ∧ FnScope d.N d.ps scope ∧
    Ss.chk ⟨d.N, d.fns, d.blt, T.md, gls, false, fvs⟩ d.body scope (fun _ => true) body = true ∧ Binds K fd d.ps []
  blt : ∀ x, d.blt.contains x = true → mg x = none
  fns : ∀ x, d.fns.contains x = true → x ≠ ("law" : Str) ∧ ∃ d', T.at_ x = some d'
section
variable {P : Program} {w : World} {K : PySem.W.Frag} {mg : Str → Option Value} {base : Heap} {T : Tab} {gl : Str → Option D} {fuel : Nat} {gls : List (Str × GV)} {fvs : List Str}
theorem start_get {N : List Str} {vs : List V} {i : Nat} {v : V} (e : vs[i]? = some v) : (L2.start N vs)[i]? = some (some v) := by
  unfold L2.start
  have hi : i < vs.length := by
    rcases Nat.lt_or_ge i vs.length with z | z
    · exact z
    · rw [List.getElem?_eq_none z] at e; cases e
  rw [List.getElem?_append_left (by simpa using hi), List.getElem?_map, e]
  rfl
theorem fn_len {k : Nat} {x : Str} {d : Fdef} (hx : T.at_ x = some d) {vs : List V} {H : Hp} {Q : VK} {E : XK} (z : spF K (fnDen T gl fuel (k + 1) x) vs H Q E) : vs.length = d.ps.length := by
  obtain ⟨ss, L, r, as, e, hl, _⟩ := z
  obtain ⟨d', fl, ρ', h1, h2, _⟩ := fnDen_ok e
  rw [hx] at h1
  cases h1
  rw [← hl, h2]
theorem fn_body {top : Bool} (hgl : ∀ x g, gls.lookup x = some g → gl x = some g.dat ∧ GlAt K mg x g) (hinj : ∀ x y, fvs.contains x = true → fvs.contains y = true → He.ga K x = He.ga K y → x = y) (hro : ∀ d ∈ T, roB T d = true) {k : Nat} {x : Str} {d : Fdef} (hx : T.at_ x = some d) {qual : Str} {body : List Stmt} {scope : Scope} {f : Addr} (hsc : FnScope d.N d.ps scope)
    (hch : Ss.chk ⟨d.N, d.fns, d.blt, T.md, gls, top, fvs⟩ d.body scope (fun _ => true) body = true) (hbl : ∀ x, d.blt.contains x = true → mg x = none) (cal : ∀ y, d.fns.contains y = true → CalOk P w K mg base k (Γof T gl fuel k) y)
    (cdv : Value) (A : Around) (outer : List PySem.Env) (s : Shared) (H : Hp) (vs : List V) (Q : VK) (E : XK) (hgd : top = true → (A.deeper (envOfC qual scope s.heap.objs.size f cdv)).guards = some []) (hr : Room k (A.deeper (envOfC qual scope s.heap.objs.size f cdv))) (z : spF K (fnDen T gl fuel (k + 1) x) vs H Q E) :
    ∃ t, L2.PSs (cxOf CX0 P w K mg base d.N qual scope f cdv A outer s H E) body t ∧ t { nx := fun _ H' => Q .non H', rt := Q } (L2.start d.N vs) H := by
  obtain ⟨ss, L, r, as, e, hl, ⟨F0, ow⟩, q⟩ := z
  obtain ⟨d', fl, ρ', h1, h2, h3, rfl, h5⟩ := fnDen_ok e
  rw [hx] at h1
  cases h1
  refine ⟨_, PSs.nox (Ss.ok (C := ⟨d.N, d.fns, d.blt, T.md, gls, top, fvs⟩) (Γ := Γof T gl fuel k) (k := k) rfl (glOk hro k) d.body ⟨rfl, hsc.nd, rfl, hsc.kind, rfl, rfl, hr, fun _ _ z => z, hbl, cal, hgl, hinj, hgd⟩ hch), pures ss vs ++ L, env0 d ss, fl, ρ', h3, ?_, ?_⟩
  · have hpl : d.ps.length ≤ d.N.length := by have := congrArg List.length hsc.pre; rw [List.length_take] at this; omega
    refine ⟨?_, fun i s e => ?_, ?_⟩
    · unfold env0 L2.start
      simp only [List.length_append, List.length_map, List.length_replicate]
      omega
    · unfold env0 at e
      by_cases hi : i < ss.length
      · exact ⟨vs[i]'(by omega), start_get (List.getElem?_eq_getElem _)⟩
      · rw [List.getElem?_append_right (by simpa using hi), List.getElem?_replicate] at e
        split at e <;> cases e
    · refine ⟨F0, ?_⟩
      have e1 : pick (env0 d ss) (L2.start d.N vs) = ss.zip vs := by
        unfold env0 L2.start
        exact pick_start _ _ hl
      rw [e1]
      exact (pures_ow (ss := ss) (vs := vs) ow fun p z => List.mem_append_left _ z).perm (by
        rw [List.append_assoc]
        exact List.Perm.append_left _ List.perm_append_comm)
  · have fin : ∀ (v : V) (σ' : L2.St) (H' : Hp), StR K H' ((r, v) :: (pures ss vs ++ L)) ρ' σ' → Agr d.body.asgs (L2.start d.N vs) σ' → Q v H' := fun v σ' H' st ag => by
      obtain ⟨M, hM⟩ := backs_sub (A := d.body.asgs) ss vs 0 ρ' σ' st.len hl fun i v e c => by
        rw [ag i (fun z => by
          rw [Nat.zero_add] at c
          rw [List.contains_iff_mem.mpr z] at c
          cases c)]
        exact start_get e
      obtain ⟨F2, o2⟩ := st.ow
      have o3 : Ow K H' ((r, v) :: ((backs (outD d.body.asgs 0 ss ρ') vs ++ M) ++ L)) F2 := o2.perm (List.Perm.cons _ (by
        have e1 : ((pures ss vs ++ L) ++ pick ρ' σ').Perm ((pures ss vs ++ pick ρ' σ') ++ L) := by
          rw [List.append_assoc, List.append_assoc]
          exact List.Perm.append_left _ List.perm_append_comm
        exact e1.trans (hM.symm.append_right L)))
      obtain ⟨F3, o4, _⟩ := o3.sub (L' := (r, v) :: (backs (outD d.body.asgs 0 ss ρ') vs ++ L)) (List.Sublist.cons_cons _ (by
        rw [List.append_assoc]
        exact List.Sublist.append_left (List.sublist_append_right _ _) _))
      exact q v H' ⟨F3, o4⟩
    rcases h5 with rfl | ⟨rfl, rfl⟩
    · exact fun v σ' H' st ag => fin v σ' H' st ag
    · exact fun σ' H' st ag => fin .non σ' H' (st.pure .non) ag
theorem fn_step (hgl : ∀ x g, gls.lookup x = some g → gl x = some g.dat ∧ GlAt K mg x g) (hinj : ∀ x y, fvs.contains x = true → fvs.contains y = true → He.ga K x = He.ga K y → x = y) (hro : ∀ d ∈ T, roB T d = true) {k : Nat} {x : Str} {d : Fdef} (hx : T.at_ x = some d) {qual : Str} {params : Arguments} {body : List Stmt} {scope : Scope} {f : Addr} {fd : FuncData} (F : FunD K d.nm qual params body scope [] [] f fd) (hsc : FnScope d.N d.ps scope)
    (hch : Ss.chk ⟨d.N, d.fns, d.blt, T.md, gls, false, fvs⟩ d.body scope (fun _ => true) body = true) (hbl : ∀ x, d.blt.contains x = true → mg x = none) (cal : ∀ y, d.fns.contains y = true → CalOk P w K mg base k (Γof T gl fuel k) y) :
    FnOk P w K mg base CX0 (k + 1) f fd d.ps (spF K (fnDen T gl fuel (k + 1) x)) :=
  F.ok hsc (fun vs H Q E z => fn_len hx z) (fun cdv A outer s H vs Q E hr z => fn_body (top := false) hgl hinj hro hx hsc hch hbl cal cdv A outer s H vs Q E (fun z => nomatch z) hr z)
theorem cal_ok (hgl : ∀ x g, gls.lookup x = some g → gl x = some g.dat ∧ GlAt K mg x g) (hinj : ∀ x y, fvs.contains x = true → fvs.contains y = true → He.ga K x = He.ga K y → x = y) (hro : ∀ d ∈ T, roB T d = true) (h : ∀ d ∈ T, d.nm ≠ ("law" : Str) → DefOk K mg T gls fvs d) : ∀ (k : Nat) (x : Str) (d : Fdef), x ≠ ("law" : Str) → T.at_ x = some d → CalOk P w K mg base k (Γof T gl fuel k) x
  | 0, x, d, hn, hx => by
    obtain ⟨qual, params, body, scope, f, fd, F, hm, hga, hsc, hch, hb⟩ := (h d (at_mem hx).1 (by rw [(at_mem hx).2]; exact hn)).ex
    rw [(at_mem hx).2] at hm hga
    have no : ∀ vs H Q E, ¬ spF K ((Γof T gl fuel 0).fn x) vs H Q E := fun vs H Q E z => by
      obtain ⟨ss, L, r, as, e, _⟩ := z
      cases e
    exact ⟨f, fd, d.ps, ⟨fun vs H Q E z => (no vs H Q E z).elim, fun A outer s H args us vs Q E _ _ _ _ z => (no vs H Q E z).elim⟩, hm, F.kp, hb, hga⟩
  | k + 1, x, d, hn, hx => by
    have D := h d (at_mem hx).1 (by rw [(at_mem hx).2]; exact hn)
    obtain ⟨qual, params, body, scope, f, fd, F, hm, hga, hsc, hch, hb⟩ := D.ex
    rw [(at_mem hx).2] at hm hga
    exact ⟨f, fd, d.ps, fn_step hgl hinj hro hx F hsc hch D.blt (fun y hy => by
      obtain ⟨hn', d', hd'⟩ := D.fns y hy
      exact cal_ok hgl hinj hro h k y d' hn' hd'), hm, F.kp, hb, hga⟩
end
end Dn

set_option Elab.async false
set_option linter.all false
set_option maxRecDepth 100000
set_option maxHeartbeats 4000000
/-! Dn, part P: a table held against the text; the law's promise. -/
namespace Dn
open PySem PySem.Spec PyProof.Rows L2

abbrev Rows := List (Fdef × Stmt)
abbrev Rows.T (rs : Rows) : Tab := rs.map (·.1)
def Rows.fn (rs : Rows) : List He.DefD := rs.map fun p => ⟨(p.1.nm, none), p.1.nm, p.1.nm, defArgs p.2, defBody p.2, defScope p.2, [], []⟩
def glFa : Str × GV → He.Fa
  | (x, .int n) => .int x n
  | (x, .str z) => .str x z
  | (x, .tup _) => .glo x
def Rows.fa (rs : Rows) (bl : List Str) (gls : List (Str × GV)) : List He.Fa := rs.map (fun p => .glo p.1.nm) ++ (bl.map .free ++ gls.map glFa)
/-- tuples of the top; names used as values stand apart -/
def exB (gls : List (Str × GV)) (fvs : List Str) (K : PySem.W.Frag) : Bool := (gls.all fun p => match p.2 with
  | .tup zs => !zs.isEmpty && He.tupB K p.1 (zs.map He.Dv.str)
  | _ => true) && fvs.all fun x => fvs.all fun y => decide (x = y) || !decide (He.ga K x = He.ga K y)
abbrev AlN : Type := He.AlD × Bool
def obsN (n : Nat) (fa : List He.Fa) (fn : List He.DefD) (ex : PySem.W.Frag → Bool) (g : Addr → Option Obj) : AlN := (He.obsD fa fn (He.frG g (He.asD g n)), ex (He.frG g (He.asD g n)))
def valN (fn : List He.DefD) : AlN := (He.valD fn, true)
def hookN (n : Nat) (fa : List He.Fa) (fn : List He.DefD) (ex : PySem.W.Frag → Bool) : PySem.W.Hook where
  α := AlN
  obs := fun s => obsN n fa fn ex s.heap.get?
  val := fun _ => valN fn
  says := fun _ h => ∃ K : PySem.W.Frag, K.In h ∧ He.SaysD fa fn K ∧ ex K = true
  of := fun _ _ e => ⟨_, He.frG_in, congrArg (fun z : AlN => z.1) e, congrArg (fun z : AlN => z.2) e⟩
  keeps := fun _ _ _ ⟨K, hK, c⟩ k => ⟨K, PySem.W.Frag.In.keeps hK k, c⟩
theorem obsN_eq {n : Nat} {fa : List He.Fa} {fn : List He.DefD} {ex : PySem.W.Frag → Bool} {g : Addr → Option Obj} {s : Shared} (h : ∀ a, g a = s.heap.get? a) : obsN n fa fn ex g = (hookN n fa fn ex).obs s := by
  have e : g = s.heap.get? := funext h
  rw [e] <;> rfl
def BindB (p : Fdef × Stmt) : Prop := ∀ (kV doc pm : Value) (an : Option Addr) (cdv ct : Value) (us : List Value), us.length = p.1.ps.length → bindArgs (PySem.W.fnOf p.1.nm p.1.nm (defArgs p.2) (defBody p.2) (defScope p.2) .none kV doc pm an cdv ct) ⟨us, []⟩ = pure (p.1.ps.zip us)
inductive Binds_ : Rows → Prop
  | nil : Binds_ []
  | cons {p : Fdef × Stmt} {rs : Rows} : BindB p → Binds_ rs → Binds_ (p :: rs)
theorem Binds_.mem {rs : Rows} (h : Binds_ rs) : ∀ {p : Fdef × Stmt}, p ∈ rs → BindB p := by
  induction h with
  | nil => intro p m; cases m
  | cons b _ ih =>
    intro p m
    rcases List.mem_cons.mp m with z | z
    · rw [z]; exact b
    · exact ih z
def rowB (T : Tab) (bl : List Str) (gls : List (Str × GV)) (fvs : List Str) (p : Fdef × Stmt) : Bool := C8.scC p.1.N p.1.ps (defScope p.2) && (Ss.chk ⟨p.1.N, p.1.fns, p.1.blt, T.md, gls, decide (p.1.nm = ("law" : Str)), fvs⟩ p.1.body (defScope p.2) (fun _ => true) (defBody p.2) && (roB T p.1 &&
  (p.1.blt.all (fun x => bl.contains x) && p.1.fns.all (fun x => (T.at_ x).isSome && !decide (x = ("law" : Str))))))
def Rows.ok (rs : Rows) (bl : List Str) (gls : List (Str × GV)) (fvs : List Str) : Bool := rs.all fun p => rowB rs.T bl gls fvs p
theorem look_mem : ∀ {gls : List (Str × GV)} {x : Str} {n : GV}, gls.lookup x = some n → (x, n) ∈ gls
  | [], _, _, h => by cases h
  | (y, m) :: r, x, n, h => by
    rw [List.lookup_cons] at h
    cases e : (x == y) with
    | true =>
      rw [e] at h
      cases h
      rw [eq_of_beq e]
      exact List.mem_cons_self ..
    | false =>
      rw [e] at h
      exact List.mem_cons_of_mem _ (look_mem h)
section
variable {K : PySem.W.Frag} {mg : Str → Option Value} {h : Heap} {rs : Rows} {bl : List Str} {gls : List (Str × GV)} {fvs : List Str}
theorem rows_ok (X : K.In h) (G : h.Ns mainGlobals mg) (c : He.SaysD (rs.fa bl gls) rs.fn K ∧ exB gls fvs K = true) (ok : rs.ok bl gls fvs = true) (bn : Binds_ rs) : (∀ d ∈ rs.T, roB rs.T d = true) ∧ (∀ d ∈ rs.T, d.nm ≠ ("law" : Str) → DefOk K mg rs.T gls fvs d) ∧ (∀ x g, gls.lookup x = some g → glOf gls x = some g.dat ∧ GlAt K mg x g) ∧ ∀ x y, fvs.contains x = true → fvs.contains y = true → He.ga K x = He.ga K y → x = y := by
  obtain ⟨c, cx⟩ := c
  unfold exB at cx
  rw [Bool.and_eq_true] at cx
  obtain ⟨cx1, cx2⟩ := cx
  have key : ∀ p ∈ rs, rowB rs.T bl gls fvs p = true := fun p hp => List.all_eq_true.mp ok p hp
  have one : ∀ d ∈ rs.T, roB rs.T d = true ∧ (d.nm ≠ ("law" : Str) → DefOk K mg rs.T gls fvs d) := fun d hd => by
    obtain ⟨p, hp, rfl⟩ := List.mem_map.mp hd
    have k := key p hp
    unfold rowB at k
    simp only [Bool.and_eq_true] at k
    obtain ⟨k1, k2, k3, k4, k5⟩ := k
    refine ⟨k3, fun hn => ⟨?_, fun x hx => ?_, fun x hx => ?_⟩⟩
    · obtain ⟨fd, F⟩ := c.defs (d := ⟨(p.1.nm, none), p.1.nm, p.1.nm, defArgs p.2, defBody p.2, defScope p.2, [], []⟩) (List.mem_map.mpr ⟨p, hp, rfl⟩)
      exact ⟨_, _, _, _, _, fd, F, He.glo_ok X G (c.facts (List.mem_append_left _ (List.mem_map.mpr ⟨p, hp, rfl⟩))), rfl, C8.fnScope_by k1, (by rw [decide_eq_false hn] at k2; exact k2), FunD.bindsN F (bn.mem hp)⟩
    · have : bl.contains x = true := List.all_eq_true.mp k4 x (List.contains_iff_mem.mp hx)
      exact He.free_ok X G (c.facts (List.mem_append_right _ (List.mem_append_left _ (List.mem_map.mpr ⟨x, List.contains_iff_mem.mp this, rfl⟩))))
    · have := List.all_eq_true.mp k5 x (List.contains_iff_mem.mp hx)
      rw [Bool.and_eq_true, Bool.not_eq_true', decide_eq_false_iff_not] at this
      exact ⟨this.2, Option.isSome_iff_exists.mp this.1⟩
  refine ⟨fun d hd => (one d hd).1, fun d hd => (one d hd).2, fun x n e => ⟨by unfold glOf; rw [e]; rfl, ?_⟩, fun x y hx hy e => ?_⟩
  · have hm := look_mem e
    have hf : (glFa (x, n)).ok K = true := c.facts (List.mem_append_right _ (List.mem_append_right _ (List.mem_map.mpr ⟨(x, n), hm, rfl⟩)))
    cases n with
    | int n => exact He.int_ok X G hf
    | str z => exact He.str_ok X G hf
    | tup zs =>
      have h1 := List.all_eq_true.mp cx1 _ hm
      obtain ⟨h2, h3⟩ := Bool.and_eq_true_iff.mp (show (!zs.isEmpty && He.tupB K x (zs.map He.Dv.str)) = true from h1)
      refine ⟨fun z => (by rw [z] at h2; cases h2), He.glo_ok X G hf, fun H => ?_⟩
      have := He.tupB_ok h3 H
      rw [List.map_map] at this
      exact this
  · have h1 := List.all_eq_true.mp (List.all_eq_true.mp cx2 x (List.contains_iff_mem.mp hx)) y (List.contains_iff_mem.mp hy)
    rw [Bool.or_eq_true, decide_eq_true_eq] at h1
    rcases h1 with h1 | h1
    · exact h1
    · rw [Bool.not_eq_true', decide_eq_false_iff_not] at h1
      exact absurd e h1
end
def spL (K : PySem.W.Frag) (T : Tab) (gl : Str → Option D) (k : Nat) (x : Str) : Sp := fun vs H Q E => ∃ fuel, spF K (fnDen T gl fuel k x) vs H Q E
theorem law_sp {K : PySem.W.Frag} {T : Tab} {gl : Str → Option D} {k n : Nat} {x : Str} (hev : ∀ ns : List Int, ns.length ≤ n → ∃ fuel as, fnDen T gl fuel k x [.d (.list (ns.map .int))] = .ok (.d (.bool true), as))
    (H : Hp) (a : Addr) (ns : List Int) (hl : ns.length ≤ n) (hO : Only H) (hS : SqL K H a (ns.map V.int)) : spL K T gl k x [.ref a] H (fun v _ => v = .bl true) fun _ _ _ => False := by
  obtain ⟨fuel, as, e⟩ := hev ns hl
  have z : SqZ K H a (ns.map V.int) := by
    rcases hS with (hS | hS) | hS
    · rcases hO a with o | ⟨o, xs, q⟩
      · rw [o] at hS; cases hS
      · rw [q] at hS; cases hS
    · exact .inl hS
    · exact .inr hS
  refine ⟨fuel, [.d (.list (ns.map .int))], [], _, as, e, rfl, ⟨_, Ow.pure (F := fun _ => False) (.lst z (rp_ints K H ns)) (.nil fun _ z => z)⟩, fun v H' ⟨F, o⟩ => ?_⟩
  obtain ⟨G, r⟩ := o.mem (List.mem_cons_self ..)
  exact rs_bl r
theorem law_fn {P : Program} {w : World} {K : PySem.W.Frag} {mg : Str → Option Value} {h : Heap} {rs : Rows} {bl : List Str} {gls : List (Str × GV)} {fvs : List Str} {k : Nat} (X : K.In h) (G : h.Ns mainGlobals mg) (c : He.SaysD (rs.fa bl gls) rs.fn K ∧ exB gls fvs K = true) (ok : rs.ok bl gls fvs = true) (bn : Binds_ rs)
    {p : Fdef × Stmt} (hp : p ∈ rs) (hd : rs.T.at_ p.1.nm = some p.1) {f : Addr} (hf : mg p.1.nm = some (.ref f)) {x : Str} (hx : p.1.ps = [x])
    (hn : p.1.nm = ("law" : Str)) (hr : Room (k + 1) callerA) : ∃ fd, (∀ (s : Shared) (u : Value), BindsTo s fd ⟨[u], []⟩ [(x, u)]) ∧ ∀ base : Heap, RunC P w K mg base CX0 f fd [x] (spL K rs.T (glOf gls) (k + 1) p.1.nm) := by
  obtain ⟨h1, h2, h3, h4⟩ := rows_ok X G c ok bn
  replace c := c.1
  have kk : rowB rs.T bl gls fvs p = true := List.all_eq_true.mp ok p hp
  unfold rowB at kk
  simp only [Bool.and_eq_true] at kk
  obtain ⟨k1, k2, k3, k4, k5⟩ := kk
  obtain ⟨fd, F⟩ := c.defs (d := ⟨(p.1.nm, none), p.1.nm, p.1.nm, defArgs p.2, defBody p.2, defScope p.2, [], []⟩) (List.mem_map.mpr ⟨p, hp, rfl⟩)
  have g := He.glo_ok X G (c.facts (f := .glo p.1.nm) (List.mem_append_left _ (List.mem_map.mpr ⟨p, hp, rfl⟩)))
  rw [hf] at g
  have e : f = He.ga K p.1.nm := by cases g; rfl
  subst e
  rw [decide_eq_true hn] at k2
  refine ⟨fd, fun s u => ?_, fun base => ?_⟩
  · have := FunD.bindsA (ps := p.1.ps) F (bn.mem hp) s [u] (by rw [hx]; rfl)
    rw [hx] at this
    exact this
  · have hb : ∀ y, p.1.blt.contains y = true → mg y = none := fun y hy => by
      have : bl.contains y = true := List.all_eq_true.mp k4 y (List.contains_iff_mem.mp hy)
      exact He.free_ok X G (c.facts (List.mem_append_right _ (List.mem_append_left _ (List.mem_map.mpr ⟨y, List.contains_iff_mem.mp this, rfl⟩))))
    have key : ∀ fuel, RunC P w K mg base CX0 (He.ga K p.1.nm) fd p.1.ps (spF K (fnDen rs.T (glOf gls) fuel (k + 1) p.1.nm)) := fun fuel =>
      runC_of F (C8.fnScope_by k1) hr (fun vs H Q E z => fn_len hd z) fun cdv outer s H vs Q E hr2 z =>
        fn_body (top := true) h3 h4 h1 hd (C8.fnScope_by k1) k2 hb (fun y hy => by
          have := List.all_eq_true.mp k5 y (List.contains_iff_mem.mp hy)
          rw [Bool.and_eq_true, Bool.not_eq_true', decide_eq_false_iff_not] at this
          obtain ⟨d', hd'⟩ := Option.isSome_iff_exists.mp this.1
          exact cal_ok h3 h4 h1 h2 k y d' this.2 hd') cdv callerA outer s H vs Q E (fun _ => caller_guards _) hr2 z
    rw [← hx]
    exact fun outer s H args us vs Q E a b c ⟨fuel, z⟩ => key fuel outer s H args us vs Q E a b c z
end Dn

set_option Elab.async false
set_option linter.all false
set_option maxRecDepth 100000
set_option maxHeartbeats 4000000
/-! Dn, part W: what a piece asks for, told backwards. -/
namespace Dn
open PySem PySem.Spec PyProof.Rows

/-! ### slots, told on -/
def wSet : Dn.Env → Nat → Option SV → (Dn.Env → Prop) → Prop
  | [], _, _, _ => False
  | _ :: ρ, 0, v, K => K (v :: ρ)
  | o :: ρ, i + 1, v, K => wSet ρ i v fun ρ' => K (o :: ρ')
def wHd (o : Option SV) (K : SV → Prop) : Prop := match o with
  | some s => K s
  | none => False
def wRd : Dn.Env → Nat → (SV → Prop) → Prop
  | [], _, _ => False
  | o :: _, 0, K => wHd o K
  | _ :: ρ, i + 1, K => wRd ρ i K
def wD (s : SV) (K : D → Prop) : Prop := match s with
  | .d x => K x
  | .l _ => False
  | .ow _ => False
def wL (s : SV) (K : List D → Prop) : Prop := match s with
  | .d _ => False
  | .l xs => K xs
  | .ow _ => False
def wDat (s : SV) (K : D → Prop) : Prop := match s with
  | .d x => K x
  | .l xs => K (.list xs)
  | .ow w => (match w with
    | .m t kvs => (match t with
      | false => K (.dict kvs)
      | true => K (.dict ((.none, .none) :: kvs)))
    | .k _ _ _ => False
    | .kt _ _ _ => False
    | .fn _ => False)
def wNoFn (s : SV) (P : Prop) : Prop := match s with
  | .d _ => P
  | .l _ => P
  | .ow w => (match w with
    | .m _ _ => P
    | .k _ _ _ => P
    | .kt _ _ _ => P
    | .fn _ => False)
def wI (s : SV) (K : Int → Prop) : Prop := match s with
  | .d (.int i) => K i
  | _ => False
def wB (s : SV) (K : Bool → Prop) : Prop := match s with
  | .d (.bool i) => K i
  | _ => False
def wTup (d : D) (K : List D → Prop) : Prop := match d with
  | .tuple ds => K ds
  | _ => False
def wItems (s : SV) (K : List D → Prop) : Prop := match s with
  | .l xs => K xs
  | .d (.list xs) => K xs
  | .d (.tuple xs) => K xs
  | _ => False
/-- the keys of a dict that is walked -/
inductive PKeys (kvs : List (D × D)) (K : List D → Prop) : Prop where
  | mk (ks : List D) (e : seqI (.d (.dict kvs)) = .ok ks) (k : K ks)
def wSeq (s : SV) (K : List D → Prop) : Prop := match s with
  | .l xs => K xs
  | .d (.list xs) => K xs
  | .d (.tuple xs) => K xs
  | .d (.dict kvs) => PKeys kvs K
  | _ => False
def wDic (s : SV) (K : Prop) : Prop := match s with
  | .ow (.m _ _) => K
  | .d (.dict _) => K
  | _ => False
inductive PGet (s : SV) (k : D) (K : Option D → Prop) : Prop where
  | mk (v : Option D) (e : getD1 s k = .ok v) (k : K v)
def wGet (o : O) (ρ : Dn.Env) (K : SV → Prop) : Prop := match o with
  | .val s => K s
  | .var i => wRd ρ i K
def wUse (o : O) (ρ : Dn.Env) (K : SV → Prop) : Prop := match o with
  | .val s => K s
  | .var i => wRd ρ i fun s => wD s fun x => K (.d x)
def wUseD (o : O) (ρ : Dn.Env) (K : D → Prop) : Prop := wUse o ρ fun s => wD s K
def wTru (o : O) (ρ : Dn.Env) (K : Bool → Prop) : Prop := wGet o ρ fun s => wB s K
def wNewL (o : O) (K : List D → Prop) : Prop := match o with
  | .val s => wL s K
  | .var _ => False
def wRdL (ρ : Dn.Env) (i : Nat) (K : List D → Prop) : Prop := wRd ρ i fun s => wL s K
def wGets : List O → Dn.Env → (List SV → Prop) → Prop
  | [], _, K => K []
  | o :: os, ρ, K => wGet o ρ fun s => wGets os ρ fun ss => K (s :: ss)
def wUseDs : List O → Dn.Env → (List D → Prop) → Prop
  | [], _, K => K []
  | o :: os, ρ, K => wUseD o ρ fun s => wUseDs os ρ fun ss => K (s :: ss)
mutual
def wPut : Tg → D → Dn.Env → (Dn.Env → Prop) → Prop
  | .n i, d, ρ, K => wSet ρ i (some (.d d)) K
  | .t ts, d, ρ, K => wTup d fun ds => wPuts ts ds ρ K
def wPuts : Tgs → List D → Dn.Env → (Dn.Env → Prop) → Prop
  | .nil, ds, ρ, K => (match ds with
    | [] => K ρ
    | _ :: _ => False)
  | .cons t r, ds, ρ, K => (match ds with
    | [] => False
    | d :: ds => wPut t d ρ fun ρ => wPuts r ds ρ K)
end
def wWipe : List (Str × Nat) → Dn.Env → (Dn.Env → Prop) → Prop
  | [], ρ, K => K ρ
  | p :: r, ρ, K => wWipe r ρ fun ρ => wSet ρ p.2 none K
def wKp (o : Option SV) (K : Option SV → Prop) : Prop := match o with
  | some (.d x) => K (some (.d x))
  | some (.l _) => K none
  | some (.ow _) => K none
  | none => K none
def wKeep : Dn.Env → Nat → (Option SV → Prop) → Prop
  | [], _, K => K none
  | o :: _, 0, K => wKp o K
  | _ :: ρ, i + 1, K => wKeep ρ i K
def wMrg : List (Str × Nat) → Dn.Env → Dn.Env → (Dn.Env → Prop) → Prop
  | [], _, ρ, K => K ρ
  | p :: r, ρ1, ρ, K => wMrg r ρ1 ρ fun ρ => wKeep ρ1 p.2 fun v => wSet ρ p.2 v K

/-! ### operations, left as they are -/
inductive PB (op : BOp) (s t : SV) (K : SV → Prop) : Prop where
  | mk (r : SV) (e : opB op s t = .ok r) (k : K r)
inductive PC (op : COp) (s t : SV) (K : SV → Prop) : Prop where
  | mk (r : SV) (e : opC op s t = .ok r) (k : K r)
inductive PF (f : BF) (s : SV) (K : SV → Prop) : Prop where
  | mk (r : SV) (e : opF f s = .ok r) (k : K r)
inductive PF2 (f : BF) (s t : SV) (K : SV → Prop) : Prop where
  | mk (r : SV) (e : opF2 f s t = .ok r) (k : K r)
inductive PX (s t : SV) (K : SV → Prop) : Prop where
  | mk (r : SV) (e : idxS s t = .ok r) (k : K r)
inductive PCut (s : SV) (lo hi : Option Int) (K : SV → Prop) : Prop where
  | mk (r : SV) (e : cutB s lo hi = .ok r) (k : K r)
inductive PRev (s : SV) (K : SV → Prop) : Prop where
  | mk (r : SV) (e : revB s = .ok r) (k : K r)
inductive PIf (b : Bool) (P Q : Prop) : Prop where
  | mk (t : b = true → P) (f : b = false → Q)
inductive PSide (c k : Prop) : Prop where
  | mk (h : c) (k : k)
inductive PIx (n : Nat) (j : Int) (K : Nat → Prop) : Prop where
  | mk (i : Nat) (e : L2.ixN n j = some i) (k : K i)
inductive PRng (lo hi : Int) (K : List D → Prop) : Prop where
  | mk (e : rngOk lo hi = true) (k : K (rngD lo hi))
inductive PLc0 (Γ : Gl0) (own : List (Str × Nat)) (t : Tg) (e : E) (ds : List D) (ρ : Dn.Env) (K : List D → Dn.Env → Prop) : Prop where
  | mk (xs : List D) (ρ' : Dn.Env) (h : lcGo own (lc0Step Γ t e) ds [] ρ = .ok (xs, ρ')) (k : K xs ρ')
inductive PLc1 (Γ : Gl0) (own : List (Str × Nat)) (t : Tg) (c e : E) (ds : List D) (ρ : Dn.Env) (K : List D → Dn.Env → Prop) : Prop where
  | mk (xs : List D) (ρ' : Dn.Env) (h : lcGo own (lc1Step Γ t c e) ds [] ρ = .ok (xs, ρ')) (k : K xs ρ')
inductive PCall (Γ : Gl0) (f : Str) (os : List O) (ss : List SV) (ρ : Dn.Env) (K : O → Dn.Env → Prop) : Prop where
  | mk (hn : (own1 os ss).Nodup) (hm : (Γ.md f).length = os.length) (r : SV) (as : List (Option SV)) (e : Γ.fn f ss = .ok (r, as)) (k : K (.val r) (wb (Γ.md f) os ss as ρ))
inductive PFor (Γ : Gl0) (t : Tg) (b : Ss) (ds : List D) (ρ : Dn.Env) (K : Fl → Dn.Env → Prop) : Prop where
  | mk (f : Fl) (ρ' : Dn.Env) (h : forGo t (fun ρ => b.dens Γ ρ) ds ρ = .ok (f, ρ')) (k : K f ρ')
inductive PWh (Γ : Gl0) (c : E) (b : Ss) (ρ : Dn.Env) (K : Fl → Dn.Env → Prop) : Prop where
  | mk (f : Fl) (ρ' : Dn.Env) (h : whGo (fun ρ => c.test Γ ρ) (fun ρ => b.dens Γ ρ) Γ.fuel ρ = .ok (f, ρ')) (k : K f ρ')
inductive PMt (m : Mth) (xs ds : List D) (K : D → List D → Prop) : Prop where
  | mk (r : D) (ys : List D) (e : opM m xs ds = .ok (r, ys)) (k : K r ys)
inductive PGl (Γ : Gl0) (x : Str) (K : D → Prop) : Prop where
  | mk (d : D) (h : Γ.gl x = some d) (k : K d)
inductive PTm (m : TM) (z : Str) (s : SV) (K : SV → Prop) : Prop where
  | mk (r : SV) (e : opT m z s = .ok r) (k : K r)
inductive PCallv (Γ : Gl0) (x : Str) (ds : List D) (K : O → Prop) : Prop where
  | mk (r : SV) (as : List (Option SV)) (e : Γ.fn x (ds.map .d) = .ok (r, as)) (k : K (.val r))
def wStr (s : SV) (K : Str → Prop) : Prop := match s with
  | .d (.str z) => K z
  | _ => False
def wFn (s : SV) (K : Str → Prop) : Prop := match s with
  | .ow (.fn x) => K x
  | _ => False
def wUses : List O → Dn.Env → (List SV → Prop) → Prop
  | [], _, K => K []
  | o :: os, ρ, K => wUse o ρ fun s => wUses os ρ fun ss => K (s :: ss)
def wSets : List Nat → List SV → Dn.Env → (Dn.Env → Prop) → Prop
  | [], ss, ρ, K => (match ss with
    | [] => K ρ
    | _ :: _ => False)
  | i :: is, ss, ρ, K => (match ss with
    | [] => False
    | s :: ss => wSet ρ i (some s) fun ρ => wSets is ss ρ K)
def wBl (b : Bool) (K : Bool → Prop) : Prop := match b with
  | true => K true
  | false => K false
def wNx (f : Fl) (P Q : Prop) : Prop := match f with
  | .nx => P
  | _ => Q
/-- behind a loop's body -/
def wLoop (f : Fl) (go out : Prop) (ret : SV → Prop) : Prop := match f with
  | .nx => go
  | .cnt => go
  | .brk => out
  | .ret s => ret s

section
variable (Γ : Gl0)
mutual
def wE : E → Dn.Env → (O → Dn.Env → Prop) → Prop
  | .non, ρ, K => K (.val (.d .none)) ρ
  | .bl b, ρ, K => K (.val (.d (.bool b))) ρ
  | .int i, ρ, K => K (.val (.d (.int i))) ρ
  | .str x, ρ, K => K (.val (.d (.str x))) ρ
  | .var i, ρ, K => wRd ρ i fun _ => K (.var i) ρ
  | .mv i, ρ, K => wRd ρ i fun s => wSet ρ i none fun ρ => K (.val s) ρ
  | .fz e, ρ, K => wE e ρ fun o ρ => wUse o ρ fun s => wDat s fun x => K (.val (.d x)) ρ
  | .glob x, ρ, K => PGl Γ x fun d => K (.val (.d d)) ρ
  | .tup es, ρ, K => wEs es ρ fun os ρ => wUseDs os ρ fun ds => K (.val (.d (.tuple ds))) ρ
  | .lst es, ρ, K => wEs es ρ fun os ρ => wUseDs os ρ fun ds => K (.val (.l ds)) ρ
  | .bin op a b, ρ, K => wE a ρ fun x ρ => wE b ρ fun y ρ => wGet x ρ fun s => wGet y ρ fun t => PB op s t fun r => K (.val r) ρ
  | .neg a, ρ, K => wE a ρ fun x ρ => wGet x ρ fun s => wI s fun i => K (.val (.d (.int (-i)))) ρ
  | .cmp op a b, ρ, K => wE a ρ fun x ρ => wE b ρ fun y ρ => wGet x ρ fun s => wGet y ρ fun t => PC op s t fun r => K (.val r) ρ
  | .chain op op' a b c, ρ, K => wE a ρ fun x ρ => wE b ρ fun y ρ => wGet x ρ fun s => wGet y ρ fun t => PC op s t fun r => wB r fun k =>
    PIf k (wE c ρ fun z ρ => wGet y ρ fun t => wGet z ρ fun u => PC op' t u fun r => K (.val r) ρ) (K (.val (.d (.bool false))) ρ)
  | .and a b, ρ, K => wE a ρ fun x ρ => wTru x ρ fun k => PIf k (wE b ρ K) (K (.val (.d (.bool false))) ρ)
  | .or a b, ρ, K => wE a ρ fun x ρ => wTru x ρ fun k => PIf k (K (.val (.d (.bool true))) ρ) (wE b ρ K)
  | .not a, ρ, K => wE a ρ fun x ρ => wTru x ρ fun k => K (.val (.d (.bool (!k)))) ρ
  | .ifx c a b, ρ, K => wE c ρ fun x ρ => wTru x ρ fun k => PIf k (wE a ρ K) (wE b ρ K)
  | .idx a b, ρ, K => wE a ρ fun x ρ => wE b ρ fun y ρ => wGet x ρ fun s => wGet y ρ fun t => PX s t fun r => K (.val r) ρ
  | .slB a lo hi, ρ, K => wE a ρ fun x ρ => wE lo ρ fun y ρ => wGet y ρ fun t => wI t fun i => wE hi ρ fun z ρ => wGet x ρ fun s => wGet z ρ fun u => wI u fun j => PCut s (some i) (some j) fun r => K (.val r) ρ
  | .slF a lo, ρ, K => wE a ρ fun x ρ => wE lo ρ fun y ρ => wGet x ρ fun s => wGet y ρ fun t => wI t fun i => PCut s (some i) none fun r => K (.val r) ρ
  | .slT a hi, ρ, K => wE a ρ fun x ρ => wE hi ρ fun z ρ => wGet x ρ fun s => wGet z ρ fun u => wI u fun j => PCut s none (some j) fun r => K (.val r) ρ
  | .rev a, ρ, K => wE a ρ fun x ρ => wGet x ρ fun s => PRev s fun r => K (.val r) ρ
  | .call f es, ρ, K => wEs es ρ fun os ρ => wGets os ρ fun ss => PCall Γ f os ss ρ K
  | .bf f a, ρ, K => wE a ρ fun x ρ => wGet x ρ fun s => PF f s fun r => K (.val r) ρ
  | .bf2 f a b, ρ, K => wE a ρ fun x ρ => wE b ρ fun y ρ => wGet x ρ fun s => wGet y ρ fun t => PF2 f s t fun r => K (.val r) ρ
  | .isi T a, ρ, K => wE a ρ fun x ρ => wGet x ρ fun s => wNoFn s (wBl (isiS T s) fun b => K (.val (.d (.bool b))) ρ)
  | .lc0 own t it e, ρ, K => wIt it ρ fun ds ρ1 => wWipe own ρ1 fun ρw => PLc0 Γ own t e ds ρw fun xs ρ2 => wMrg own ρ1 ρ2 fun ρ' => K (.val (.l xs)) ρ'
  | .lc1 own t it c e, ρ, K => wIt it ρ fun ds ρ1 => wWipe own ρ1 fun ρw => PLc1 Γ own t c e ds ρw fun xs ρ2 => wMrg own ρ1 ρ2 fun ρ' => K (.val (.l xs)) ρ'
  | .app i e, ρ, K => wRdL ρ i fun _ => wE e ρ fun o ρ => wUseD o ρ fun x => wRdL ρ i fun xs => PSide (xs.length < 16777216) (wSet ρ i (some (.l (xs ++ [x]))) fun ρ => K (.val (.d .none)) ρ)
  | .ext i e, ρ, K => wRdL ρ i fun _ => wE e ρ fun o ρ => wNewL o fun ys => wRdL ρ i fun xs => PSide (xs.length + ys.length ≤ 16777216) (wSet ρ i (some (.l (xs ++ ys))) fun ρ => K (.val (.d .none)) ρ)
  | .mth m i es, ρ, K => wRdL ρ i fun _ => wEs es ρ fun os ρ => wUseDs os ρ fun ds => wRdL ρ i fun xs => PMt m xs ds fun r ys => wSet ρ i (some (.l ys)) fun ρ => K (.val (.d r)) ρ
  | .dct0, ρ, K => K (.val (.d (.dict []))) ρ
  | .dct1 i j, ρ, K => K (.val (.d (.dict [(.int i, .int j)]))) ρ
  | .dctO t, ρ, K => K (.val (.ow (.m t []))) ρ
  | .dctP k v, ρ, K => wE k ρ fun o ρ => wE v ρ fun p ρ => wUseD o ρ fun x => wUseD p ρ fun y => PSide (isKy x = true) (K (.val (.ow (.m false [(x, y)]))) ρ)
  | .get1 a k, ρ, K => wE a ρ fun o ρ => wGet o ρ fun s0 => wDic s0 (wE k ρ fun p ρ => wGet o ρ fun s => wUseD p ρ fun x => PGet s x fun v => K (.val (.d (v.getD .none))) ρ)
  | .get2 a k z, ρ, K => wE a ρ fun o ρ => wGet o ρ fun s0 => wDic s0 (wE k ρ fun p ρ => wE z ρ fun q ρ => wGet o ρ fun s => wUseD p ρ fun x => wUseD q ρ fun y => PGet s x fun v => K (.val (.d (v.getD y))) ρ)
  | .tm m a b, ρ, K => wE a ρ fun o ρ => wGet o ρ fun s0 => wStr s0 fun z => wE b ρ fun p ρ => wGet p ρ fun t => PTm m z t fun r => K (.val r) ρ
  | .fnv x, ρ, K => K (.val (.ow (.fn x))) ρ
  | .callv cs i es, ρ, K => wRd ρ i fun s => wFn s fun x => wEs es ρ fun os ρ => wUseDs os ρ fun ds => PSide (cs.contains x = true) (PCallv Γ x ds fun o => K o ρ)
def wEs : Es → Dn.Env → (List O → Dn.Env → Prop) → Prop
  | .nil, ρ, K => K [] ρ
  | .cons e r, ρ, K => wE e ρ fun o ρ => wEs r ρ fun os ρ => K (o :: os) ρ
def wIt : It → Dn.Env → (List D → Dn.Env → Prop) → Prop
  | .e x, ρ, K => wE x ρ fun o ρ => wGet o ρ fun s => wSeq s fun ds => K ds ρ
  | .rng1 x, ρ, K => wE x ρ fun o ρ => wGet o ρ fun s => wI s fun n => PRng 0 n fun ds => K ds ρ
  | .rng2 x y, ρ, K => wE x ρ fun o ρ => wE y ρ fun p ρ => wGet o ρ fun s => wGet p ρ fun t => wI s fun m => wI t fun n => PRng m n fun ds => K ds ρ
  | .enum x, ρ, K => wE x ρ fun o ρ => wGet o ρ fun s => wItems s fun ds => K (enumD 0 ds) ρ
  | .zip x y, ρ, K => wE x ρ fun o ρ => wE y ρ fun p ρ => wGet o ρ fun s => wGet p ρ fun t => wItems s fun ds => wItems t fun es => K (zipD ds es) ρ
end
/-- o[k] = x -/
def wPutS (w t : SV) (x : D) (K : SV → Prop) : Prop := match w with
  | .d _ => False
  | .l xs => wI t fun j => PIx xs.length j fun n => K (.l (xs.set n x))
  | .ow o => (match o with
    | .m b kvs => wD t fun k => PSide (keyOk b k = true ∧ kvs.length < 16777216) (K (.ow (.m b (putD kvs k x))))
    | .k _ _ _ => False
    | .kt _ _ _ => False
    | .fn _ => False)
mutual
def wS : S → Dn.Env → (Fl → Dn.Env → Prop) → Prop
  | .par is es, ρ, K => wEs Γ es ρ fun os ρ => wUses os ρ fun ss => wSets is ss ρ fun ρ => K .nx ρ
  | .asg t e, ρ, K => (match t with
    | .n i => wE Γ e ρ fun o ρ => wUse o ρ fun s => wSet ρ i (some s) fun ρ => K .nx ρ
    | .t ts => wE Γ e ρ fun o ρ => wUseD o ρ fun d => wPut (.t ts) d ρ fun ρ => K .nx ρ)
  | .seti i k e, ρ, K => wE Γ e ρ fun o ρ => wRd ρ i fun _ => wE Γ k ρ fun q ρ => wUseD o ρ fun x => wGet q ρ fun t => wRd ρ i fun w => wPutS w t x fun w' => wSet ρ i (some w') fun ρ => K .nx ρ
  | .aug i e, ρ, K => wRd ρ i fun s => wI s fun a => wE Γ e ρ fun o ρ => wGet o ρ fun t => wI t fun b => wSet ρ i (some (.d (.int (a + b)))) fun ρ => K .nx ρ
  | .ex e, ρ, K => wE Γ e ρ fun _ ρ => K .nx ρ
  | .ret e, ρ, K => wE Γ e ρ fun o ρ => wUse o ρ fun s => K (.ret s) ρ
  | .retn, ρ, K => K (.ret (.d .none)) ρ
  | .ife c a b, ρ, K => wE Γ c ρ fun o ρ => wTru o ρ fun k => PIf k (wSs a ρ K) (wSs b ρ K)
  | .whl c b, ρ, K => PWh Γ c b ρ K
  | .for_ t it b, ρ, K => wIt Γ it ρ fun ds ρ => PFor Γ t b ds ρ K
  | .brk, ρ, K => K .brk ρ
  | .cnt, ρ, K => K .cnt ρ
  | .pas, ρ, K => K .nx ρ
  | .dead, _, _ => False
def wSs : Ss → Dn.Env → (Fl → Dn.Env → Prop) → Prop
  | .nil, ρ, K => K .nx ρ
  | .cons s r, ρ, K => wS s ρ fun f ρ => wNx f (wSs r ρ K) (K f ρ)
end
end

/-! ### what is asked for is there -/
theorem wSet_ok : ∀ {ρ : Dn.Env} {i : Nat} {v : Option SV} {K : Dn.Env → Prop}, wSet ρ i v K → i < ρ.length ∧ K (ρ.set i v)
  | [], _, _, _, h => h.elim
  | _ :: ρ, 0, v, K, h => ⟨by simp, h⟩
  | o :: ρ, i + 1, v, K, h => by
    have h : wSet ρ i v fun ρ' => K (o :: ρ') := h
    obtain ⟨h1, h2⟩ := wSet_ok h
    exact ⟨by simp; exact h1, h2⟩
theorem wRd_ok : ∀ {ρ : Dn.Env} {i : Nat} {K : SV → Prop}, wRd ρ i K → ∃ s, ρ[i]? = some (some s) ∧ K s
  | [], _, _, h => h.elim
  | some s :: _, 0, K, h => ⟨s, rfl, h⟩
  | none :: _, 0, _, h => h.elim
  | o :: ρ, i + 1, K, h => by
    obtain ⟨t, h1, h2⟩ := wRd_ok (ρ := ρ) (i := i) (K := K) h
    exact ⟨t, h1, h2⟩
section
variable {ρ : Dn.Env} {i : Nat} {s : SV} {o : O} {d : D}
theorem wRd_rd {K : SV → Prop} (h : wRd ρ i K) : ∃ s, rd ρ i = .ok s ∧ K s := by
  obtain ⟨s, e, k⟩ := wRd_ok h
  exact ⟨s, by unfold rd; rw [e], k⟩
theorem wD_ok {K : D → Prop} (h : wD s K) : ∃ x, s = .d x ∧ K x := by
  cases s with
  | d x => exact ⟨x, rfl, h⟩
  | l xs => exact h.elim
  | ow w => exact h.elim
theorem wL_ok {K : List D → Prop} (h : wL s K) : ∃ x, s = .l x ∧ K x := by
  cases s with
  | d x => exact h.elim
  | l xs => exact ⟨xs, rfl, h⟩
  | ow w => exact h.elim
theorem wDat_ok {K : D → Prop} (h : wDat s K) : noFn s = .ok s ∧ K s.dat := by
  cases s with
  | d x => exact ⟨rfl, h⟩
  | l xs => exact ⟨rfl, h⟩
  | ow w =>
    cases w with
    | m t kvs => cases t <;> exact ⟨rfl, h⟩
    | k _ _ _ => exact h.elim
    | kt _ _ _ => exact h.elim
    | fn _ => exact h.elim
theorem wNoFn_ok {P : Prop} (h : wNoFn s P) : noFn s = .ok s ∧ P := by
  cases s with
  | d x => exact ⟨rfl, h⟩
  | l xs => exact ⟨rfl, h⟩
  | ow w => cases w <;> first | exact ⟨rfl, h⟩ | exact h.elim
theorem wSeq_ok {K : List D → Prop} (h : wSeq s K) : ∃ x, seqI s = .ok x ∧ K x := by
  unfold wSeq at h
  split at h
  · exact ⟨_, rfl, h⟩
  · exact ⟨_, rfl, h⟩
  · exact ⟨_, rfl, h⟩
  · obtain ⟨ks, e, h⟩ := h
    exact ⟨ks, e, h⟩
  · exact h.elim
theorem dic_d (kvs : List (D × D)) : ∃ q, SV.dic (.d (.dict kvs)) = .ok q := by
  unfold SV.dic
  split
  · exact ⟨_, rfl⟩
  · exact ⟨_, rfl⟩
  · exact ⟨_, rfl⟩
  · next h1 h2 h3 => exact absurd rfl (h3 kvs)
theorem wDic_ok {K : Prop} (h : wDic s K) : ∃ x, s.dic = .ok x ∧ K := by
  unfold wDic at h
  split at h
  · exact ⟨_, rfl, h⟩
  · next kvs =>
    obtain ⟨q, e⟩ := dic_d kvs
    exact ⟨q, e, h⟩
  · exact h.elim
theorem wBl_ok {b : Bool} {K : Bool → Prop} (h : wBl b K) : K b := by
  cases b
  · exact h
  · exact h
theorem wI_ok {K : Int → Prop} (h : wI s K) : ∃ x, isI s = .ok x ∧ K x := by
  unfold wI at h
  split at h
  · exact ⟨_, rfl, h⟩
  · exact h.elim
theorem wB_ok {K : Bool → Prop} (h : wB s K) : ∃ x, isB s = .ok x ∧ K x := by
  unfold wB at h
  split at h
  · exact ⟨_, rfl, h⟩
  · exact h.elim
theorem wTup_ok {K : List D → Prop} (h : wTup d K) : ∃ x, d = .tuple x ∧ K x := by
  unfold wTup at h
  split at h
  · exact ⟨_, rfl, h⟩
  · exact h.elim
theorem wItems_ok {K : List D → Prop} (h : wItems s K) : ∃ x, items s = .ok x ∧ K x := by
  unfold wItems at h
  split at h
  · exact ⟨_, rfl, h⟩
  · exact ⟨_, rfl, h⟩
  · exact ⟨_, rfl, h⟩
  · exact h.elim
theorem wGet_ok {K : SV → Prop} (h : wGet o ρ K) : ∃ s, o.get ρ = .ok s ∧ K s := by
  cases o with
  | val s => exact ⟨s, rfl, h⟩
  | var i => exact wRd_rd h
theorem wUse_ok {K : SV → Prop} (h : wUse o ρ K) : ∃ s, o.use ρ = .ok s ∧ K s := by
  cases o with
  | val s => exact ⟨s, rfl, h⟩
  | var i =>
    obtain ⟨s, e, h⟩ := wRd_rd (K := fun s => wD s fun x => K (.d x)) h
    obtain ⟨x, rfl, h⟩ := wD_ok h
    exact ⟨.d x, by show (rd ρ i >>= _) = _; rw [e]; rfl, h⟩
theorem wUseD_ok {K : D → Prop} (h : wUseD o ρ K) : ∃ s, o.useD ρ = .ok s ∧ K s := by
  obtain ⟨s, e, h⟩ := wUse_ok (show wUse o ρ fun s => wD s K from h)
  obtain ⟨x, rfl, h⟩ := wD_ok h
  exact ⟨x, by show (o.use ρ >>= _) = _; rw [e]; rfl, h⟩
theorem wTru_ok {K : Bool → Prop} (h : wTru o ρ K) : ∃ s, o.tru ρ = .ok s ∧ K s := by
  obtain ⟨s, e, h⟩ := wGet_ok (show wGet o ρ fun s => wB s K from h)
  obtain ⟨b, e2, h⟩ := wB_ok h
  exact ⟨b, by show (o.get ρ >>= _) = _; rw [e]; exact e2, h⟩
theorem wNewL_ok {K : List D → Prop} (h : wNewL o K) : ∃ s, o.newL = .ok s ∧ K s := by
  cases o with
  | val s =>
    obtain ⟨x, rfl, h⟩ := wL_ok (show wL s K from h)
    exact ⟨x, rfl, h⟩
  | var i => exact h.elim
theorem wRdL_ok {K : List D → Prop} (h : wRdL ρ i K) : ∃ s, rdL ρ i = .ok s ∧ K s := by
  obtain ⟨s, e, h⟩ := wRd_ok (show wRd ρ i fun s => wL s K from h)
  obtain ⟨x, rfl, h⟩ := wL_ok h
  exact ⟨x, by unfold rdL; rw [e], h⟩
end
theorem bnd {α β : Type} {x : R α} {f : α → R β} {a : α} {r : R β} (e : x = .ok a) (h : f a = r) : (x >>= f) = r := by
  rw [e]
  exact h
theorem wGets_ok : ∀ {os : List O} {ρ : Dn.Env} {K : List SV → Prop}, wGets os ρ K → ∃ ss, gets ρ os = .ok ss ∧ K ss
  | [], ρ, K, h => ⟨[], rfl, h⟩
  | o :: os, ρ, K, h => by
    obtain ⟨s, e, h⟩ := wGet_ok (show wGet o ρ fun s => wGets os ρ fun ss => K (s :: ss) from h)
    obtain ⟨ss, e2, h⟩ := wGets_ok h
    exact ⟨s :: ss, by unfold gets; exact bnd e (bnd e2 rfl), h⟩
theorem wStr_ok {s : SV} {K : Str → Prop} (h : wStr s K) : ∃ z, isT s = .ok z ∧ K z := by
  cases s with
  | d x => cases x <;> first | exact ⟨_, rfl, h⟩ | exact False.elim h
  | l xs => exact False.elim h
  | ow w => exact False.elim h
theorem wFn_ok {s : SV} {K : Str → Prop} (h : wFn s K) : ∃ z, isFn s = .ok z ∧ K z := by
  cases s with
  | d x => exact False.elim h
  | l xs => exact False.elim h
  | ow w => cases w <;> first | exact ⟨_, rfl, h⟩ | exact False.elim h
theorem wUses_ok : ∀ {os : List O} {ρ : Dn.Env} {K : List SV → Prop}, wUses os ρ K → ∃ ss, uses ρ os = .ok ss ∧ K ss
  | [], ρ, K, h => ⟨[], rfl, h⟩
  | o :: os, ρ, K, h => by
    obtain ⟨s, e, h⟩ := wUse_ok (show wUse o ρ fun s => wUses os ρ fun ss => K (s :: ss) from h)
    obtain ⟨ss, e2, h⟩ := wUses_ok h
    exact ⟨s :: ss, by unfold uses; exact bnd e (bnd e2 rfl), h⟩
theorem wSets_ok : ∀ {is : List Nat} {ss : List SV} {ρ : Dn.Env} {K : Dn.Env → Prop}, wSets is ss ρ K → ∃ ρ', puts is ss ρ = .ok ρ' ∧ K ρ'
  | [], [], ρ, K, h => ⟨ρ, rfl, h⟩
  | [], _ :: _, _, _, h => h.elim
  | _ :: _, [], _, _, h => h.elim
  | i :: is, s :: ss, ρ, K, h => by
    obtain ⟨h1, h2⟩ := wSet_ok (show wSet ρ i (some s) fun ρ => wSets is ss ρ K from h)
    obtain ⟨ρ', e, h⟩ := wSets_ok h2
    exact ⟨ρ', (if_pos h1).trans e, h⟩
theorem wUseDs_ok : ∀ {os : List O} {ρ : Dn.Env} {K : List D → Prop}, wUseDs os ρ K → ∃ ss, useDs ρ os = .ok ss ∧ K ss
  | [], ρ, K, h => ⟨[], rfl, h⟩
  | o :: os, ρ, K, h => by
    obtain ⟨s, e, h⟩ := wUseD_ok (show wUseD o ρ fun s => wUseDs os ρ fun ss => K (s :: ss) from h)
    obtain ⟨ss, e2, h⟩ := wUseDs_ok h
    exact ⟨s :: ss, by unfold useDs; exact bnd e (bnd e2 rfl), h⟩
mutual
theorem wPut_ok : ∀ (t : Tg) {d : D} {ρ : Dn.Env} {K : Dn.Env → Prop}, wPut t d ρ K → ∃ ρ', t.put d ρ = .ok ρ' ∧ K ρ'
  | .n i, d, ρ, K, h => by
    obtain ⟨h1, h2⟩ := wSet_ok (show wSet ρ i (some (.d d)) K from h)
    exact ⟨_, if_pos h1, h2⟩
  | .t ts, d, ρ, K, h => by
    obtain ⟨x, rfl, h⟩ := wTup_ok (show wTup d fun ds => wPuts ts ds ρ K from h)
    exact wPuts_ok ts h
theorem wPuts_ok : ∀ (ts : Tgs) {ds : List D} {ρ : Dn.Env} {K : Dn.Env → Prop}, wPuts ts ds ρ K → ∃ ρ', ts.puts ds ρ = .ok ρ' ∧ K ρ'
  | .nil, ds, ρ, K, h => by
    cases ds with
    | nil => exact ⟨ρ, rfl, h⟩
    | cons d ds => exact False.elim h
  | .cons t r, ds, ρ, K, h => by
    cases ds with
    | nil => exact False.elim h
    | cons d ds =>
      obtain ⟨ρ1, e1, h⟩ := wPut_ok t (show wPut t d ρ fun ρ => wPuts r ds ρ K from h)
      obtain ⟨ρ2, e2, h⟩ := wPuts_ok r h
      exact ⟨ρ2, by unfold Tgs.puts; exact bnd e1 e2, h⟩
end
theorem wWipe_ok : ∀ {own : List (Str × Nat)} {ρ : Dn.Env} {K : Dn.Env → Prop}, wWipe own ρ K → K (wipeE own ρ)
  | [], ρ, K, h => h
  | p :: r, ρ, K, h => by
    have h : wWipe r ρ fun ρ => wSet ρ p.2 none K := h
    exact (wSet_ok (wWipe_ok h)).2
theorem wKeep_ok : ∀ {ρ : Dn.Env} {i : Nat} {K : Option SV → Prop}, wKeep ρ i K → K (keepD ρ[i]?)
  | [], i, K, h => h
  | some (.d x) :: _, 0, K, h => h
  | some (.l _) :: _, 0, K, h => h
  | some (.ow _) :: _, 0, K, h => h
  | none :: _, 0, K, h => h
  | o :: ρ, i + 1, K, h => wKeep_ok (ρ := ρ) (i := i) h
theorem wMrg_ok : ∀ {own : List (Str × Nat)} {ρ1 ρ : Dn.Env} {K : Dn.Env → Prop}, wMrg own ρ1 ρ K → K (mrg own ρ1 ρ)
  | [], ρ1, ρ, K, h => h
  | p :: r, ρ1, ρ, K, h => by
    have h : wMrg r ρ1 ρ fun ρ => wKeep ρ1 p.2 fun v => wSet ρ p.2 v K := h
    exact (wSet_ok (wKeep_ok (wMrg_ok h))).2
section
variable {Γ : Gl0}
mutual
theorem wE_ok : ∀ (e : E) {ρ : Dn.Env} {K : O → Dn.Env → Prop}, wE Γ e ρ K → ∃ o ρ', e.den Γ ρ = .ok (o, ρ') ∧ K o ρ'
  | .non, ρ, K, h => ⟨_, _, rfl, h⟩
  | .bl b, ρ, K, h => ⟨_, _, rfl, h⟩
  | .int b, ρ, K, h => ⟨_, _, rfl, h⟩
  | .str b, ρ, K, h => ⟨_, _, rfl, h⟩
  | .var i, ρ, K, h => by
    unfold wE at h
    obtain ⟨s, e, h⟩ := wRd_rd h
    exact ⟨_, _, by unfold E.den; exact bnd e rfl, h⟩
  | .mv i, ρ, K, h => by
    unfold wE at h
    obtain ⟨s, e, h⟩ := wRd_rd h
    exact ⟨_, _, by unfold E.den; exact bnd e rfl, (wSet_ok h).2⟩
  | .fz a, ρ, K, h => by
    unfold wE at h
    obtain ⟨o, ρ1, e1, h⟩ := wE_ok a h
    obtain ⟨s, e2, h⟩ := wUse_ok h
    obtain ⟨e3, h⟩ := wDat_ok h
    exact ⟨_, _, by unfold E.den; exact bnd e1 (bnd e2 (bnd e3 rfl)), h⟩
  | .glob x, ρ, K, h => by
    unfold wE at h
    obtain ⟨d, e, h⟩ := h
    exact ⟨_, _, by unfold E.den; rw [e], h⟩
  | .tup es, ρ, K, h => by
    unfold wE at h
    obtain ⟨os, ρ1, e1, h⟩ := wEs_ok es h
    obtain ⟨ds, e2, h⟩ := wUseDs_ok h
    exact ⟨_, _, by unfold E.den; exact bnd e1 (bnd e2 rfl), h⟩
  | .lst es, ρ, K, h => by
    unfold wE at h
    obtain ⟨os, ρ1, e1, h⟩ := wEs_ok es h
    obtain ⟨ds, e2, h⟩ := wUseDs_ok h
    exact ⟨_, _, by unfold E.den; exact bnd e1 (bnd e2 rfl), h⟩
  | .bin op a b, ρ, K, h => by
    unfold wE at h
    obtain ⟨x, ρ1, e1, h⟩ := wE_ok a h
    obtain ⟨y, ρ2, e2, h⟩ := wE_ok b h
    obtain ⟨s, e3, h⟩ := wGet_ok h
    obtain ⟨t, e4, h⟩ := wGet_ok h
    obtain ⟨r, e5, h⟩ := h
    exact ⟨_, _, by unfold E.den; exact bnd e1 (bnd e2 (bnd e3 (bnd e4 (bnd e5 rfl)))), h⟩
  | .neg a, ρ, K, h => by
    unfold wE at h
    obtain ⟨x, ρ1, e1, h⟩ := wE_ok a h
    obtain ⟨s, e3, h⟩ := wGet_ok h
    obtain ⟨i, e4, h⟩ := wI_ok h
    exact ⟨_, _, by unfold E.den; exact bnd e1 (bnd e3 (bnd e4 rfl)), h⟩
  | .cmp op a b, ρ, K, h => by
    unfold wE at h
    obtain ⟨x, ρ1, e1, h⟩ := wE_ok a h
    obtain ⟨y, ρ2, e2, h⟩ := wE_ok b h
    obtain ⟨s, e3, h⟩ := wGet_ok h
    obtain ⟨t, e4, h⟩ := wGet_ok h
    obtain ⟨r, e5, h⟩ := h
    exact ⟨_, _, by unfold E.den; exact bnd e1 (bnd e2 (bnd e3 (bnd e4 (bnd e5 rfl)))), h⟩
  | .chain op op' a b c, ρ, K, h => by
    unfold wE at h
    obtain ⟨x, ρ1, e1, h⟩ := wE_ok a h
    obtain ⟨y, ρ2, e2, h⟩ := wE_ok b h
    obtain ⟨s, e3, h⟩ := wGet_ok h
    obtain ⟨t, e4, h⟩ := wGet_ok h
    obtain ⟨r, e5, h⟩ := h
    obtain ⟨k, e6, h⟩ := wB_ok h
    obtain ⟨h1, h2⟩ := h
    cases k with
    | false => exact ⟨_, _, by unfold E.den; exact bnd e1 (bnd e2 (bnd e3 (bnd e4 (bnd e5 (bnd e6 rfl))))), h2 rfl⟩
    | true =>
      obtain ⟨z, ρ3, e7, h⟩ := wE_ok c (h1 rfl)
      obtain ⟨t, e8, h⟩ := wGet_ok h
      obtain ⟨u, e9, h⟩ := wGet_ok h
      obtain ⟨r, e10, h⟩ := h
      exact ⟨_, _, by unfold E.den; exact bnd e1 (bnd e2 (bnd e3 (bnd e4 (bnd e5 (bnd e6 (bnd e7 (bnd e8 (bnd e9 (bnd e10 rfl))))))))), h⟩
  | .and a b, ρ, K, h => by
    unfold wE at h
    obtain ⟨x, ρ1, e1, h⟩ := wE_ok a h
    obtain ⟨k, e2, h⟩ := wTru_ok h
    obtain ⟨h1, h2⟩ := h
    cases k with
    | false => exact ⟨_, _, by unfold E.den; exact bnd e1 (bnd e2 rfl), h2 rfl⟩
    | true =>
      obtain ⟨z, ρ3, e7, h⟩ := wE_ok b (h1 rfl)
      exact ⟨_, _, by unfold E.den; exact bnd e1 (bnd e2 e7), h⟩
  | .or a b, ρ, K, h => by
    unfold wE at h
    obtain ⟨x, ρ1, e1, h⟩ := wE_ok a h
    obtain ⟨k, e2, h⟩ := wTru_ok h
    obtain ⟨h1, h2⟩ := h
    cases k with
    | true => exact ⟨_, _, by unfold E.den; exact bnd e1 (bnd e2 rfl), h1 rfl⟩
    | false =>
      obtain ⟨z, ρ3, e7, h⟩ := wE_ok b (h2 rfl)
      exact ⟨_, _, by unfold E.den; exact bnd e1 (bnd e2 e7), h⟩
  | .not a, ρ, K, h => by
    unfold wE at h
    obtain ⟨x, ρ1, e1, h⟩ := wE_ok a h
    obtain ⟨k, e2, h⟩ := wTru_ok h
    exact ⟨_, _, by unfold E.den; exact bnd e1 (bnd e2 rfl), h⟩
  | .ifx c a b, ρ, K, h => by
    unfold wE at h
    obtain ⟨x, ρ1, e1, h⟩ := wE_ok c h
    obtain ⟨k, e2, h⟩ := wTru_ok h
    obtain ⟨h1, h2⟩ := h
    cases k with
    | true =>
      obtain ⟨z, ρ3, e7, h⟩ := wE_ok a (h1 rfl)
      exact ⟨_, _, by unfold E.den; exact bnd e1 (bnd e2 e7), h⟩
    | false =>
      obtain ⟨z, ρ3, e7, h⟩ := wE_ok b (h2 rfl)
      exact ⟨_, _, by unfold E.den; exact bnd e1 (bnd e2 e7), h⟩
  | .idx a b, ρ, K, h => by
    unfold wE at h
    obtain ⟨x, ρ1, e1, h⟩ := wE_ok a h
    obtain ⟨y, ρ2, e2, h⟩ := wE_ok b h
    obtain ⟨s, e3, h⟩ := wGet_ok h
    obtain ⟨t, e4, h⟩ := wGet_ok h
    obtain ⟨r, e5, h⟩ := h
    exact ⟨_, _, by unfold E.den; exact bnd e1 (bnd e2 (bnd e3 (bnd e4 (bnd e5 rfl)))), h⟩
  | .slB a lo hi, ρ, K, h => by
    unfold wE at h
    obtain ⟨x, ρ1, e1, h⟩ := wE_ok a h
    obtain ⟨y, ρ2, e2, h⟩ := wE_ok lo h
    obtain ⟨t, e3, h⟩ := wGet_ok h
    obtain ⟨i, e4, h⟩ := wI_ok h
    obtain ⟨z, ρ3, e5, h⟩ := wE_ok hi h
    obtain ⟨s, e6, h⟩ := wGet_ok h
    obtain ⟨u, e7, h⟩ := wGet_ok h
    obtain ⟨j, e8, h⟩ := wI_ok h
    obtain ⟨r, e9, h⟩ := h
    exact ⟨_, _, by unfold E.den; exact bnd e1 (bnd e2 (bnd e3 (bnd e4 (bnd e5 (bnd e6 (bnd e7 (bnd e8 (bnd e9 rfl)))))))), h⟩
  | .slF a lo, ρ, K, h => by
    unfold wE at h
    obtain ⟨x, ρ1, e1, h⟩ := wE_ok a h
    obtain ⟨y, ρ2, e2, h⟩ := wE_ok lo h
    obtain ⟨s, e3, h⟩ := wGet_ok h
    obtain ⟨t, e4, h⟩ := wGet_ok h
    obtain ⟨i, e5, h⟩ := wI_ok h
    obtain ⟨r, e6, h⟩ := h
    exact ⟨_, _, by unfold E.den; exact bnd e1 (bnd e2 (bnd e3 (bnd e4 (bnd e5 (bnd e6 rfl))))), h⟩
  | .slT a lo, ρ, K, h => by
    unfold wE at h
    obtain ⟨x, ρ1, e1, h⟩ := wE_ok a h
    obtain ⟨y, ρ2, e2, h⟩ := wE_ok lo h
    obtain ⟨s, e3, h⟩ := wGet_ok h
    obtain ⟨t, e4, h⟩ := wGet_ok h
    obtain ⟨i, e5, h⟩ := wI_ok h
    obtain ⟨r, e6, h⟩ := h
    exact ⟨_, _, by unfold E.den; exact bnd e1 (bnd e2 (bnd e3 (bnd e4 (bnd e5 (bnd e6 rfl))))), h⟩
  | .rev a, ρ, K, h => by
    unfold wE at h
    obtain ⟨x, ρ1, e1, h⟩ := wE_ok a h
    obtain ⟨s, e3, h⟩ := wGet_ok h
    obtain ⟨i, e4, h⟩ := h
    exact ⟨_, _, by unfold E.den; exact bnd e1 (bnd e3 (bnd e4 rfl)), h⟩
  | .call f es, ρ, K, h => by
    unfold wE at h
    obtain ⟨os, ρ1, e1, h⟩ := wEs_ok es h
    obtain ⟨ss, e2, h⟩ := wGets_ok h
    obtain ⟨hn, hm, r, as, e, h⟩ := h
    refine ⟨_, _, ?_, h⟩
    unfold E.den
    refine bnd e1 (bnd e2 ?_)
    rw [if_pos ⟨hn, hm⟩]
    exact bnd e rfl
  | .bf f a, ρ, K, h => by
    unfold wE at h
    obtain ⟨x, ρ1, e1, h⟩ := wE_ok a h
    obtain ⟨s, e3, h⟩ := wGet_ok h
    obtain ⟨i, e4, h⟩ := h
    exact ⟨_, _, by unfold E.den; exact bnd e1 (bnd e3 (bnd e4 rfl)), h⟩
  | .bf2 op a b, ρ, K, h => by
    unfold wE at h
    obtain ⟨x, ρ1, e1, h⟩ := wE_ok a h
    obtain ⟨y, ρ2, e2, h⟩ := wE_ok b h
    obtain ⟨s, e3, h⟩ := wGet_ok h
    obtain ⟨t, e4, h⟩ := wGet_ok h
    obtain ⟨r, e5, h⟩ := h
    exact ⟨_, _, by unfold E.den; exact bnd e1 (bnd e2 (bnd e3 (bnd e4 (bnd e5 rfl)))), h⟩
  | .isi f a, ρ, K, h => by
    unfold wE at h
    obtain ⟨x, ρ1, e1, h⟩ := wE_ok a h
    obtain ⟨s, e3, h⟩ := wGet_ok h
    obtain ⟨e4, h⟩ := wNoFn_ok h
    exact ⟨_, _, by unfold E.den; exact bnd e1 (bnd e3 (bnd e4 rfl)), wBl_ok h⟩
  | .lc0 own t it e, ρ, K, h => by
    unfold wE at h
    obtain ⟨ds, ρ1, e1, h⟩ := wIt_ok it h
    obtain ⟨xs, ρ2, e2, h⟩ := wWipe_ok h
    refine ⟨_, _, ?_, wMrg_ok h⟩
    unfold E.den
    exact bnd e1 (bnd e2 rfl)
  | .lc1 own t it c e, ρ, K, h => by
    unfold wE at h
    obtain ⟨ds, ρ1, e1, h⟩ := wIt_ok it h
    obtain ⟨xs, ρ2, e2, h⟩ := wWipe_ok h
    refine ⟨_, _, ?_, wMrg_ok h⟩
    unfold E.den
    exact bnd e1 (bnd e2 rfl)
  | .app i e, ρ, K, h => by
    unfold wE at h
    obtain ⟨_, e1, h⟩ := wRdL_ok h
    obtain ⟨o, ρ1, e2, h⟩ := wE_ok e h
    obtain ⟨x, e3, h⟩ := wUseD_ok h
    obtain ⟨xs, e4, h⟩ := wRdL_ok h
    obtain ⟨hl, h⟩ := h
    refine ⟨_, _, ?_, (wSet_ok h).2⟩
    unfold E.den
    refine bnd e1 (bnd e2 (bnd e3 (bnd e4 ?_)))
    exact if_pos hl
  | .ext i e, ρ, K, h => by
    unfold wE at h
    obtain ⟨_, e1, h⟩ := wRdL_ok h
    obtain ⟨o, ρ1, e2, h⟩ := wE_ok e h
    obtain ⟨x, e3, h⟩ := wNewL_ok h
    obtain ⟨xs, e4, h⟩ := wRdL_ok h
    obtain ⟨hl, h⟩ := h
    refine ⟨_, _, ?_, (wSet_ok h).2⟩
    unfold E.den
    refine bnd e1 (bnd e2 (bnd e3 (bnd e4 ?_)))
    exact if_pos hl
  | .mth m i es, ρ, K, h => by
    unfold wE at h
    obtain ⟨_, e1, h⟩ := wRdL_ok h
    obtain ⟨os, ρ1, e2, h⟩ := wEs_ok es h
    obtain ⟨ds, e3, h⟩ := wUseDs_ok h
    obtain ⟨xs, e4, h⟩ := wRdL_ok h
    obtain ⟨r, ys, e5, h⟩ := h
    exact ⟨_, _, by unfold E.den; exact bnd e1 (bnd e2 (bnd e3 (bnd e4 (bnd e5 rfl)))), (wSet_ok h).2⟩
  | .dct0, ρ, K, h => ⟨_, _, rfl, h⟩
  | .dct1 _ _, ρ, K, h => ⟨_, _, rfl, h⟩
  | .dctO _, ρ, K, h => ⟨_, _, rfl, h⟩
  | .dctP k v, ρ, K, h => by
    unfold wE at h
    obtain ⟨o, ρ1, e1, h⟩ := wE_ok k h
    obtain ⟨p, ρ2, e2, h⟩ := wE_ok v h
    obtain ⟨x, e3, h⟩ := wUseD_ok h
    obtain ⟨y, e4, h⟩ := wUseD_ok h
    obtain ⟨c, h⟩ := h
    refine ⟨_, _, ?_, h⟩
    unfold E.den
    exact bnd e1 (bnd e2 (bnd e3 (bnd e4 (if_pos c))))
  | .get1 a k, ρ, K, h => by
    unfold wE at h
    obtain ⟨o, ρ1, e1, h⟩ := wE_ok a h
    obtain ⟨s0, e2, h⟩ := wGet_ok h
    obtain ⟨q0, e3, h⟩ := wDic_ok h
    obtain ⟨p, ρ2, e4, h⟩ := wE_ok k h
    obtain ⟨s, e5, h⟩ := wGet_ok h
    obtain ⟨x, e6, h⟩ := wUseD_ok h
    obtain ⟨v, e7, h⟩ := h
    exact ⟨_, _, by unfold E.den; exact bnd e1 (bnd e2 (bnd e3 (bnd e4 (bnd e5 (bnd e6 (bnd e7 rfl)))))), h⟩
  | .get2 a k z, ρ, K, h => by
    unfold wE at h
    obtain ⟨o, ρ1, e1, h⟩ := wE_ok a h
    obtain ⟨s0, e2, h⟩ := wGet_ok h
    obtain ⟨q0, e3, h⟩ := wDic_ok h
    obtain ⟨p, ρ2, e4, h⟩ := wE_ok k h
    obtain ⟨p3, ρ3, e8, h⟩ := wE_ok z h
    obtain ⟨s, e5, h⟩ := wGet_ok h
    obtain ⟨x, e6, h⟩ := wUseD_ok h
    obtain ⟨y, e9, h⟩ := wUseD_ok h
    obtain ⟨v, e7, h⟩ := h
    exact ⟨_, _, by unfold E.den; exact bnd e1 (bnd e2 (bnd e3 (bnd e4 (bnd e8 (bnd e5 (bnd e6 (bnd e9 (bnd e7 rfl)))))))), h⟩
  | .tm m a b, ρ, K, h => by
    unfold wE at h
    obtain ⟨o, ρ1, e1, h⟩ := wE_ok a h
    obtain ⟨s0, e2, h⟩ := wGet_ok h
    obtain ⟨z, e3, h⟩ := wStr_ok h
    obtain ⟨p, ρ2, e4, h⟩ := wE_ok b h
    obtain ⟨t, e5, h⟩ := wGet_ok h
    obtain ⟨r, e6, h⟩ := h
    exact ⟨_, _, by unfold E.den; exact bnd e1 (bnd e2 (bnd e3 (bnd e4 (bnd e5 (bnd e6 rfl))))), h⟩
  | .fnv x, ρ, K, h => ⟨_, _, rfl, h⟩
  | .callv cs i es, ρ, K, h => by
    unfold wE at h
    obtain ⟨s, e1, h⟩ := wRd_rd h
    obtain ⟨x, e2, h⟩ := wFn_ok h
    obtain ⟨os, ρ1, e3, h⟩ := wEs_ok es h
    obtain ⟨ds, e4, h⟩ := wUseDs_ok h
    obtain ⟨c, h⟩ := h
    obtain ⟨r, as, e5, h⟩ := h
    refine ⟨_, _, ?_, h⟩
    unfold E.den
    refine bnd e1 (bnd e2 (bnd e3 (bnd e4 ?_)))
    rw [if_pos c]
    exact bnd e5 rfl
theorem wEs_ok : ∀ (es : Es) {ρ : Dn.Env} {K : List O → Dn.Env → Prop}, wEs Γ es ρ K → ∃ os ρ', es.dens Γ ρ = .ok (os, ρ') ∧ K os ρ'
  | .nil, ρ, K, h => ⟨_, _, rfl, h⟩
  | .cons e r, ρ, K, h => by
    unfold wEs at h
    obtain ⟨o, ρ1, e1, h⟩ := wE_ok e h
    obtain ⟨os, ρ2, e2, h⟩ := wEs_ok r h
    exact ⟨_, _, by unfold Es.dens; exact bnd e1 (bnd e2 rfl), h⟩
theorem wIt_ok : ∀ (it : It) {ρ : Dn.Env} {K : List D → Dn.Env → Prop}, wIt Γ it ρ K → ∃ ds ρ', it.den Γ ρ = .ok (ds, ρ') ∧ K ds ρ'
  | .e x, ρ, K, h => by
    unfold wIt at h
    obtain ⟨o, ρ1, e1, h⟩ := wE_ok x h
    obtain ⟨s, e2, h⟩ := wGet_ok h
    obtain ⟨ds, e3, h⟩ := wSeq_ok h
    exact ⟨_, _, by unfold It.den; exact bnd e1 (bnd e2 (bnd e3 rfl)), h⟩
  | .rng1 x, ρ, K, h => by
    unfold wIt at h
    obtain ⟨o, ρ1, e1, h⟩ := wE_ok x h
    obtain ⟨s, e2, h⟩ := wGet_ok h
    obtain ⟨n, e3, h⟩ := wI_ok h
    obtain ⟨hr, h⟩ := h
    exact ⟨_, _, by unfold It.den; exact bnd e1 (bnd e2 (bnd e3 (if_pos hr))), h⟩
  | .rng2 x y, ρ, K, h => by
    unfold wIt at h
    obtain ⟨o, ρ1, e1, h⟩ := wE_ok x h
    obtain ⟨p, ρ2, e2, h⟩ := wE_ok y h
    obtain ⟨s, e3, h⟩ := wGet_ok h
    obtain ⟨t, e4, h⟩ := wGet_ok h
    obtain ⟨m, e5, h⟩ := wI_ok h
    obtain ⟨n, e6, h⟩ := wI_ok h
    obtain ⟨hr, h⟩ := h
    exact ⟨_, _, by unfold It.den; exact bnd e1 (bnd e2 (bnd e3 (bnd e4 (bnd e5 (bnd e6 (if_pos hr)))))), h⟩
  | .enum x, ρ, K, h => by
    unfold wIt at h
    obtain ⟨o, ρ1, e1, h⟩ := wE_ok x h
    obtain ⟨s, e2, h⟩ := wGet_ok h
    obtain ⟨ds, e3, h⟩ := wItems_ok h
    exact ⟨_, _, by unfold It.den; exact bnd e1 (bnd e2 (bnd e3 rfl)), h⟩
  | .zip x y, ρ, K, h => by
    unfold wIt at h
    obtain ⟨o, ρ1, e1, h⟩ := wE_ok x h
    obtain ⟨p, ρ2, e2, h⟩ := wE_ok y h
    obtain ⟨s, e3, h⟩ := wGet_ok h
    obtain ⟨t, e4, h⟩ := wGet_ok h
    obtain ⟨m, e5, h⟩ := wItems_ok h
    obtain ⟨n, e6, h⟩ := wItems_ok h
    exact ⟨_, _, by unfold It.den; exact bnd e1 (bnd e2 (bnd e3 (bnd e4 (bnd e5 (bnd e6 rfl))))), h⟩
end
theorem test_ok (c : E) {ρ : Dn.Env} {K : Bool → Dn.Env → Prop} (h : wE Γ c ρ fun o ρ => wTru o ρ fun k => K k ρ) : ∃ k ρ', c.test Γ ρ = .ok (k, ρ') ∧ K k ρ' := by
  obtain ⟨o, ρ1, e1, h⟩ := wE_ok c h
  obtain ⟨k, e2, h⟩ := wTru_ok h
  exact ⟨_, _, by unfold E.test; exact bnd e1 (bnd e2 rfl), h⟩
theorem wPutS_ok {w t : SV} {x : D} {K : SV → Prop} (h : wPutS w t x K) : ∃ w', putS w t x = .ok w' ∧ K w' := by
  cases w with
  | d _ => exact False.elim h
  | l xs =>
    obtain ⟨j, e, h1⟩ := wI_ok (show wI t fun j => PIx xs.length j fun n => K (.l (xs.set n x)) from h)
    obtain ⟨n, e2, h2⟩ := h1
    cases isI_ok e
    exact ⟨_, by show (match L2.ixN xs.length j with | some n => R.ok (SV.l (xs.set n x)) | none => R.bad) = _; rw [e2], h2⟩
  | ow o =>
    cases o with
    | k _ _ _ => exact False.elim h
    | kt _ _ _ => exact False.elim h
    | fn _ => exact False.elim h
    | m b kvs =>
      obtain ⟨k, rfl, h⟩ := wD_ok (show wD t fun k => PSide (keyOk b k = true ∧ kvs.length < 16777216) (K (.ow (.m b (putD kvs k x)))) from h)
      obtain ⟨c, h⟩ := h
      exact ⟨_, if_pos c, h⟩
mutual
theorem wS_ok : ∀ (s : S) {ρ : Dn.Env} {K : Fl → Dn.Env → Prop}, wS Γ s ρ K → ∃ o ρ', s.den Γ ρ = .ok (o, ρ') ∧ K o ρ'
  | .par is es, ρ, K, h => by
    unfold wS at h
    obtain ⟨os, ρ1, e1, h⟩ := wEs_ok es h
    obtain ⟨ss, e2, h⟩ := wUses_ok h
    obtain ⟨ρ2, e3, h⟩ := wSets_ok h
    exact ⟨_, _, by unfold S.den; exact bnd e1 (bnd e2 (bnd e3 rfl)), h⟩
  | .asg (.n i) e, ρ, K, h => by
    unfold wS at h
    obtain ⟨o, ρ1, e1, h⟩ := wE_ok e h
    obtain ⟨s, e2, h⟩ := wUse_ok h
    obtain ⟨hl, h⟩ := wSet_ok h
    exact ⟨_, _, by unfold S.den; exact bnd e1 (bnd e2 (if_pos hl)), h⟩
  | .asg (.t ts) e, ρ, K, h => by
    unfold wS at h
    obtain ⟨o, ρ1, e1, h⟩ := wE_ok e h
    obtain ⟨s, e2, h⟩ := wUseD_ok h
    obtain ⟨ρ2, e3, h⟩ := wPut_ok _ h
    exact ⟨_, _, by unfold S.den; exact bnd e1 (bnd e2 (bnd e3 rfl)), h⟩
  | .seti i k e, ρ, K, h => by
    unfold wS at h
    obtain ⟨o, ρ1, e1, h⟩ := wE_ok e h
    obtain ⟨_, e2, h⟩ := wRd_rd h
    obtain ⟨q, ρ2, e3, h⟩ := wE_ok k h
    obtain ⟨x, e4, h⟩ := wUseD_ok h
    obtain ⟨t, e5, h⟩ := wGet_ok h
    obtain ⟨w, e6, h⟩ := wRd_rd h
    obtain ⟨w', e7, h⟩ := wPutS_ok h
    refine ⟨_, _, ?_, (wSet_ok h).2⟩
    unfold S.den
    exact bnd e1 (bnd e2 (bnd e3 (bnd e4 (bnd e5 (bnd e6 (bnd e7 rfl))))))
  | .aug i e, ρ, K, h => by
    unfold wS at h
    obtain ⟨s, e1, h⟩ := wRd_rd h
    obtain ⟨a, e2, h⟩ := wI_ok h
    obtain ⟨o, ρ1, e3, h⟩ := wE_ok e h
    obtain ⟨t, e4, h⟩ := wGet_ok h
    obtain ⟨b, e5, h⟩ := wI_ok h
    obtain ⟨hl, h⟩ := wSet_ok h
    exact ⟨_, _, by unfold S.den; exact bnd e1 (bnd e2 (bnd e3 (bnd e4 (bnd e5 (if_pos hl))))), h⟩
  | .ex e, ρ, K, h => by
    unfold wS at h
    obtain ⟨o, ρ1, e1, h⟩ := wE_ok e h
    exact ⟨_, _, by unfold S.den; exact bnd e1 rfl, h⟩
  | .ret e, ρ, K, h => by
    unfold wS at h
    obtain ⟨o, ρ1, e1, h⟩ := wE_ok e h
    obtain ⟨s, e2, h⟩ := wUse_ok h
    exact ⟨_, _, by unfold S.den; exact bnd e1 (bnd e2 rfl), h⟩
  | .retn, ρ, K, h => ⟨_, _, rfl, h⟩
  | .ife c a b, ρ, K, h => by
    unfold wS at h
    obtain ⟨k, ρ1, e1, h⟩ := test_ok c h
    obtain ⟨h1, h2⟩ := h
    cases k with
    | true =>
      obtain ⟨z, ρ3, e7, h⟩ := wSs_ok a (h1 rfl)
      exact ⟨_, _, by unfold S.den; exact bnd e1 e7, h⟩
    | false =>
      obtain ⟨z, ρ3, e7, h⟩ := wSs_ok b (h2 rfl)
      exact ⟨_, _, by unfold S.den; exact bnd e1 e7, h⟩
  | .whl c b, ρ, K, h => by
    unfold wS at h
    obtain ⟨f, ρ', e, h⟩ := h
    exact ⟨_, _, by unfold S.den; exact e, h⟩
  | .for_ t it b, ρ, K, h => by
    unfold wS at h
    obtain ⟨ds, ρ1, e1, h⟩ := wIt_ok it h
    obtain ⟨f, ρ', e, h⟩ := h
    exact ⟨_, _, by unfold S.den; exact bnd e1 e, h⟩
  | .brk, ρ, K, h => ⟨_, _, rfl, h⟩
  | .cnt, ρ, K, h => ⟨_, _, rfl, h⟩
  | .pas, ρ, K, h => ⟨_, _, rfl, h⟩
  | .dead, ρ, K, h => by unfold wS at h; exact h.elim
theorem wSs_ok : ∀ (b : Ss) {ρ : Dn.Env} {K : Fl → Dn.Env → Prop}, wSs Γ b ρ K → ∃ o ρ', b.dens Γ ρ = .ok (o, ρ') ∧ K o ρ'
  | .nil, ρ, K, h => ⟨_, _, rfl, h⟩
  | .cons s r, ρ, K, h => by
    unfold wSs at h
    obtain ⟨f, ρ1, e1, h⟩ := wS_ok s h
    cases f with
    | nx =>
      obtain ⟨z, ρ3, e7, h⟩ := wSs_ok r h
      exact ⟨_, _, by unfold Ss.dens; exact bnd e1 e7, h⟩
    | brk => exact ⟨_, _, by unfold Ss.dens; exact bnd e1 rfl, h⟩
    | cnt => exact ⟨_, _, by unfold Ss.dens; exact bnd e1 rfl, h⟩
    | ret s => exact ⟨_, _, by unfold Ss.dens; exact bnd e1 rfl, h⟩
end
end
end Dn

set_option Elab.async false
set_option linter.all false
set_option maxRecDepth 100000
set_option maxHeartbeats 4000000
/-! Dn, part X: answers to what is asked for. -/
namespace Dn
open PySem PySem.Spec PyProof.Rows
open PySem.W (Datum DatumOrd Tup T3 T4)

/-! ### sizes -/
def Bd (a : Int) (n : Nat) : Prop := a.natAbs < 2 ^ n
theorem Bd.mono {a : Int} {m n : Nat} (h : Bd a m) (l : m ≤ n) : Bd a n := Nat.lt_of_lt_of_le h (Nat.pow_le_pow_right (by decide) l)
theorem Bd.mul {a b : Int} {m n : Nat} (h : Bd a m) (h' : Bd b n) : Bd (a * b) (m + n) := by
  unfold Bd at *
  rw [Int.natAbs_mul, Nat.pow_add]
  exact Nat.mul_lt_mul'' h h'
theorem Bd.add {a b : Int} {n : Nat} (h : Bd a n) (h' : Bd b n) : Bd (a + b) (n + 1) := by
  unfold Bd at *
  have := Int.natAbs_add_le a b
  rw [Nat.pow_succ]
  omega
theorem Bd.mod {a b : Int} {n : Nat} (hb : 0 < b) (h : Bd b n) : Bd (a % b) n := by
  unfold Bd at *
  have h1 := Int.emod_nonneg a (show b ≠ 0 by omega)
  have h2 := Int.emod_lt_of_pos a hb
  omega
theorem Bd.of {a : Int} {n : Nat} (h1 : -(2 ^ n : Nat) < a) (h2 : a < (2 ^ n : Nat)) : Bd a n := by
  unfold Bd
  omega
theorem Bd.log {a : Int} {n : Nat} (h : Bd a n) : a.natAbs.log2 ≤ n := by
  unfold Bd at h
  by_cases z : a.natAbs = 0
  · rw [z]; simp
  · exact Nat.le_of_lt ((Nat.log2_lt z).mpr h)
theorem mulg {a b : Int} {m n : Nat} (h : Bd a m) (h' : Bd b n) (l : m + n < 1000000) : a.natAbs.log2 + b.natAbs.log2 < 1000000 := by
  have := h.log
  have := h'.log
  omega
/-- small enough for anything -/
abbrev SmI (a : Int) : Prop := -4611686018427387904 < a ∧ a < 4611686018427387904
theorem SmI.bd {a : Int} (h : SmI a) : Bd a 62 := Bd.of (by simpa using h.1) (by simpa using h.2)

/-! ### data with types -/
class Sh (α : Type) [DecidableEq α] [Datum α] : Prop where
  lay : ∀ a : α, PyData.canLay0 (Datum.toD a) = true
section
variable {α β γ δ : Type} [DecidableEq α] [Datum α] [DecidableEq β] [Datum β] [DecidableEq γ] [Datum γ] [DecidableEq δ] [Datum δ]
theorem lay_all [Sh α] : ∀ xs : List α, PyData.canLayAll0 (xs.map Datum.toD) = true
  | [] => rfl
  | x :: xs => by
    show (PyData.canLay0 (Datum.toD x) && PyData.canLayAll0 (xs.map Datum.toD)) = true
    rw [Sh.lay x, lay_all xs]
    rfl
instance : Sh Int := ⟨fun _ => rfl⟩
instance : Sh Bool := ⟨fun _ => rfl⟩
instance : Sh Unit := ⟨fun _ => rfl⟩
instance [Sh α] : Sh (List α) := ⟨fun xs => by show PyData.canLay0 (.list _) = true; simp only [PyData.canLay0]; exact lay_all xs⟩
instance [Sh α] : Sh (Tup α) := ⟨fun xs => by show PyData.canLay0 (.tuple _) = true; simp only [PyData.canLay0]; exact lay_all xs.items⟩
instance [Sh α] [Sh β] : Sh (α × β) := ⟨fun p => by
  show PyData.canLay0 (.tuple [Datum.toD p.1, Datum.toD p.2]) = true
  simp only [PyData.canLay0, PyData.canLayAll0, Sh.lay, Bool.and_self]⟩
theorem shaped_of [Sh α] (h : Datum.depth α ≤ 64) (a : α) : SeqAt.shaped (Datum.toD a) = true := by
  unfold SeqAt.shaped
  simp only [Sh.lay a, Bool.true_and, decide_eq_true_eq]
  exact Nat.le_trans (Datum.depth_le a) h
theorem shaped_list [Sh α] (h : Datum.depth α ≤ 60) (xs : List α) : SeqAt.shaped (.list (xs.map Datum.toD)) = true := shaped_of (α := List α) (Nat.le_trans (Nat.succ_le_succ h) (by decide)) xs
end

/-! ### operators -/
section
variable {K : SV → Prop} {i j : Int}
theorem pb_add (k : K (.d (.int (i + j)))) : PB .add (.d (.int i)) (.d (.int j)) K := ⟨_, rfl, k⟩
theorem pb_sub (k : K (.d (.int (i - j)))) : PB .sub (.d (.int i)) (.d (.int j)) K := ⟨_, rfl, k⟩
theorem pb_mulg (h : i.natAbs.log2 + j.natAbs.log2 < 1000000) (k : K (.d (.int (i * j)))) : PB .mul (.d (.int i)) (.d (.int j)) K := ⟨_, if_pos h, k⟩
theorem pb_mul (h : SmI i) (h' : SmI j) (k : K (.d (.int (i * j)))) : PB .mul (.d (.int i)) (.d (.int j)) K := pb_mulg (mulg h.bd h'.bd (by decide)) k
theorem pb_mod (h : 0 < j) (k : K (.d (.int (i % j)))) : PB .mod (.d (.int i)) (.d (.int j)) K := ⟨_, if_pos h, k⟩
theorem pb_fdiv (h : 0 < j) (h2 : SmI j) (k : K (.d (.int (i / j)))) : PB .fdiv (.d (.int i)) (.d (.int j)) K := ⟨_, if_pos ⟨h, Nat.lt_of_le_of_lt h2.bd.log (by decide)⟩, k⟩
theorem pb_pow (h : 0 ≤ j ∧ j ≤ 1000000 ∧ i.natAbs < 2 ^ 64) (k : K (.d (.int (i ^ j.toNat)))) : PB .pow (.d (.int i)) (.d (.int j)) K := ⟨_, if_pos h, k⟩
theorem pb_addt {xs ys : List D} (h : xs.length + ys.length ≤ 16777216) (k : K (.d (.tuple (xs ++ ys)))) : PB .add (.d (.tuple xs)) (.d (.tuple ys)) K := ⟨_, if_pos h, k⟩
theorem pb_addl {xs ys : List D} (h : xs.length + ys.length ≤ 16777216) (k : K (.l (xs ++ ys))) : PB .add (.l xs) (.l ys) K := ⟨_, if_pos h, k⟩
theorem pc_lt (k : K (.d (.bool (decide (i < j))))) : PC .lt (.d (.int i)) (.d (.int j)) K := ⟨_, rfl, k⟩
theorem pc_gt (k : K (.d (.bool (decide (j < i))))) : PC .gt (.d (.int i)) (.d (.int j)) K := ⟨_, rfl, k⟩
theorem pc_le (k : K (.d (.bool (decide (i ≤ j))))) : PC .le (.d (.int i)) (.d (.int j)) K :=
  ⟨_, rfl, by rw [show (!decide (j < i)) = decide (i ≤ j) by rw [← decide_not]; exact decide_eq_decide.mpr (by omega)]; exact k⟩
theorem pc_ge (k : K (.d (.bool (decide (j ≤ i))))) : PC .ge (.d (.int i)) (.d (.int j)) K :=
  ⟨_, rfl, by rw [show (!decide (i < j)) = decide (j ≤ i) by rw [← decide_not]; exact decide_eq_decide.mpr (by omega)]; exact k⟩
theorem pc_eqi (k : K (.d (.bool (decide (i = j))))) : PC .eq (.d (.int i)) (.d (.int j)) K :=
  ⟨_, rfl, by rw [show (i == j) = decide (i = j) from PySem.W.beq_decide i j]; exact k⟩
theorem pc_nei (k : K (.d (.bool (decide (i ≠ j))))) : PC .ne (.d (.int i)) (.d (.int j)) K :=
  ⟨_, rfl, by rw [show (i == j) = decide (i = j) from PySem.W.beq_decide i j, ← decide_not]; exact k⟩
theorem pc_eqb {i j : Bool} (k : K (.d (.bool (i == j)))) : PC .eq (.d (.bool i)) (.d (.bool j)) K := ⟨_, rfl, k⟩
theorem pc_neb {i j : Bool} (k : K (.d (.bool (!(i == j))))) : PC .ne (.d (.bool i)) (.d (.bool j)) K := ⟨_, rfl, k⟩
theorem pc_isb {i j : Bool} (k : K (.d (.bool (i == j)))) : PC .is_ (.d (.bool i)) (.d (.bool j)) K := ⟨_, rfl, k⟩
theorem pc_isnb {i j : Bool} (k : K (.d (.bool (!(i == j))))) : PC .isn (.d (.bool i)) (.d (.bool j)) K := ⟨_, rfl, k⟩
theorem eqS_shaped {x y : D} (h : SeqAt.shaped x = true) (h' : SeqAt.shaped y = true) : eqS x y = .ok (PyData.eqv x y) := by
  unfold eqS
  split
  · simp only [PyData.eqv]
  · simp only [PyData.eqv]
  · simp only [PyData.eqv]
  · rw [if_pos ⟨h, h'⟩]
theorem pc_eqd {s t : SV} (h : SeqAt.shaped s.dat = true) (h' : SeqAt.shaped t.dat = true) (k : K (.d (.bool (PyData.eqv s.dat t.dat)))) : PC .eq s t K :=
  ⟨_, by show (eqS s.dat t.dat >>= fun b => bD b) = _; rw [eqS_shaped h h']; rfl, k⟩
theorem pc_ned {s t : SV} (h : SeqAt.shaped s.dat = true) (h' : SeqAt.shaped t.dat = true) (k : K (.d (.bool (!PyData.eqv s.dat t.dat)))) : PC .ne s t K :=
  ⟨_, by show (eqS s.dat t.dat >>= fun b => bD (!b)) = _; rw [eqS_shaped h h']; rfl, k⟩
section
variable {α : Type} [DecidableEq α] [Datum α] [Sh α]
theorem pc_eqt (a b : α) {s t : SV} (hd : Datum.depth α ≤ 64) (hs : s.dat = Datum.toD a) (ht : t.dat = Datum.toD b) (k : K (.d (.bool (decide (a = b))))) : PC .eq s t K :=
  pc_eqd (by rw [hs]; exact shaped_of hd a) (by rw [ht]; exact shaped_of hd b) (by rw [hs, ht, Datum.eqv]; exact k)
theorem pc_net (a b : α) {s t : SV} (hd : Datum.depth α ≤ 64) (hs : s.dat = Datum.toD a) (ht : t.dat = Datum.toD b) (k : K (.d (.bool (decide (a ≠ b))))) : PC .ne s t K :=
  pc_ned (by rw [hs]; exact shaped_of hd a) (by rw [ht]; exact shaped_of hd b) (by rw [hs, ht, Datum.eqv, ← decide_not]; exact k)
theorem inS_t (a : α) (xs : List α) {x : D} {t : SV} (hd : Datum.depth α ≤ 60) (hx : x = Datum.toD a) (ht : items t = .ok (xs.map Datum.toD)) (hn : ∀ z, t ≠ .d (.str z)) : inS x t = .ok (decide (a ∈ xs)) := by
  subst hx
  have e : ((xs.map Datum.toD).any fun z => PyData.eqv z (Datum.toD a)) = decide (a ∈ xs) := by
    rw [List.any_map, Bool.eq_iff_iff, List.any_eq_true, decide_eq_true_eq]
    constructor
    · rintro ⟨y, h1, h2⟩
      have h2 : PyData.eqv (Datum.toD y) (Datum.toD a) = true := h2
      rw [Datum.eqv, decide_eq_true_eq] at h2
      subst h2
      exact h1
    · intro h
      exact ⟨a, h, by show PyData.eqv (Datum.toD a) (Datum.toD a) = true; rw [Datum.eqv, decide_eq_true_eq]⟩
  unfold inS
  split
  · next z => exact absurd rfl (hn z)
  · cases ht
  · cases ht
  · refine bnd ht ?_
    rw [if_pos ⟨shaped_of (Nat.le_trans hd (by decide)) a, shaped_list hd xs⟩, e]
theorem pc_int (a : α) (xs : List α) {x : D} {t : SV} (hd : Datum.depth α ≤ 60) (hx : x = Datum.toD a) (ht : items t = .ok (xs.map Datum.toD)) (hn : ∀ z, t ≠ .d (.str z)) (k : K (.d (.bool (decide (a ∈ xs))))) : PC .in_ (.d x) t K :=
  ⟨_, by show (inS x t >>= fun b => bD b) = _; rw [inS_t a xs hd hx ht hn]; rfl, k⟩
theorem pc_nint (a : α) (xs : List α) {x : D} {t : SV} (hd : Datum.depth α ≤ 60) (hx : x = Datum.toD a) (ht : items t = .ok (xs.map Datum.toD)) (hn : ∀ z, t ≠ .d (.str z)) (k : K (.d (.bool (decide (a ∉ xs))))) : PC .nin (.d x) t K :=
  ⟨_, by show (inS x t >>= fun b => bD (!b)) = _; rw [inS_t a xs hd hx ht hn]; rfl, by rw [← decide_not]; exact k⟩
end
theorem pc_ini {ns : List Int} (k : K (.d (.bool (decide (i ∈ ns))))) : PC .in_ (.d (.int i)) (.d (.tuple (ns.map .int))) K := pc_int (α := Int) i ns (by decide) rfl rfl (fun _ e => by cases e) k
theorem pc_inil {ns : List Int} (k : K (.d (.bool (decide (i ∈ ns))))) : PC .in_ (.d (.int i)) (.l (ns.map .int)) K := pc_int (α := Int) i ns (by decide) rfl rfl (fun _ e => by cases e) k
theorem pc_inid {ns : List Int} (k : K (.d (.bool (decide (i ∈ ns))))) : PC .in_ (.d (.int i)) (.d (.list (ns.map .int))) K := pc_int (α := Int) i ns (by decide) rfl rfl (fun _ e => by cases e) k
theorem pc_in2 {a b : Int} (k : K (.d (.bool (decide (i = a ∨ i = b))))) : PC .in_ (.d (.int i)) (.d (.tuple [.int a, .int b])) K :=
  pc_int (α := Int) i [a, b] (by decide) rfl rfl (fun _ e => by cases e) (by rw [show decide (i ∈ [a, b]) = decide (i = a ∨ i = b) from decide_eq_decide.mpr (by simp)]; exact k)
theorem pc_nin2 {a b : Int} (k : K (.d (.bool (decide (¬ (i = a ∨ i = b)))))) : PC .nin (.d (.int i)) (.d (.tuple [.int a, .int b])) K :=
  pc_nint (α := Int) i [a, b] (by decide) rfl rfl (fun _ e => by cases e) (by rw [show decide (i ∉ [a, b]) = decide (¬ (i = a ∨ i = b)) from decide_eq_decide.mpr (by simp)]; exact k)
end

/-! ### built-ins -/
section
variable {K : SV → Prop} {i j : Int} {ds : List D}
theorem pf_lent (k : K (.d (.int ds.length))) : PF .len (.d (.tuple ds)) K := ⟨_, rfl, k⟩
theorem pf_lend (k : K (.d (.int ds.length))) : PF .len (.d (.list ds)) K := ⟨_, rfl, k⟩
theorem pf_lenl (k : K (.d (.int ds.length))) : PF .len (.l ds) K := ⟨_, rfl, k⟩
section
variable {α : Type} {f : α → D} {xs : List α}
theorem pf_lentm (k : K (.d (.int xs.length))) : PF .len (.d (.tuple (xs.map f))) K := pf_lent (by rw [List.length_map]; exact k)
theorem pf_lendm (k : K (.d (.int xs.length))) : PF .len (.d (.list (xs.map f))) K := pf_lend (by rw [List.length_map]; exact k)
theorem pf_lenlm (k : K (.d (.int xs.length))) : PF .len (.l (xs.map f)) K := pf_lenl (by rw [List.length_map]; exact k)
end
theorem pf_abs (k : K (.d (.int (if i < 0 then -i else i)))) : PF .abs (.d (.int i)) K := ⟨_, rfl, k⟩
theorem pf_intb {b : Bool} (k : K (.d (.int (if b then 1 else 0)))) : PF .int (.d (.bool b)) K := ⟨_, rfl, k⟩
theorem pf_tupl (k : K (.d (.tuple ds))) : PF .tuple (.l ds) K := ⟨_, rfl, k⟩
theorem pf_tupd (k : K (.d (.tuple ds))) : PF .tuple (.d (.list ds)) K := ⟨_, rfl, k⟩
theorem pf_tupt (k : K (.d (.tuple ds))) : PF .tuple (.d (.tuple ds)) K := ⟨_, rfl, k⟩
theorem pf_lisl (k : K (.l ds)) : PF .list (.l ds) K := ⟨_, rfl, k⟩
theorem pf_lisd (k : K (.l ds)) : PF .list (.d (.list ds)) K := ⟨_, rfl, k⟩
theorem pf_list (k : K (.l ds)) : PF .list (.d (.tuple ds)) K := ⟨_, rfl, k⟩
theorem pf2_max (k : K (.d (.int (max i j)))) : PF2 .max (.d (.int i)) (.d (.int j)) K := ⟨_, rfl, by rw [show (if j > i then j else i) = max i j by split <;> omega]; exact k⟩
theorem pf2_min (k : K (.d (.int (min i j)))) : PF2 .min (.d (.int i)) (.d (.int j)) K := ⟨_, rfl, by rw [show (if j < i then j else i) = min i j by split <;> omega]; exact k⟩
theorem boolsD_map {α : Type} (f : α → Bool) : ∀ l : List α, boolsD (l.map fun x => PyData.bool (f x)) = .ok (l.map f)
  | [] => rfl
  | x :: l => by
    show (boolsD (l.map fun x => PyData.bool (f x)) >>= fun ns => R.ok (f x :: ns)) = _
    rw [boolsD_map f l]
    rfl
theorem intsD_map {α : Type} (f : α → Int) : ∀ l : List α, intsD (l.map fun x => PyData.int (f x)) = .ok (l.map f)
  | [] => rfl
  | x :: l => by
    show (intsD (l.map fun x => PyData.int (f x)) >>= fun ns => R.ok (f x :: ns)) = _
    rw [intsD_map f l]
    rfl
theorem pf_any {α : Type} {f : α → Bool} {l : List α} (k : K (.d (.bool (l.any f)))) : PF .any (.l (l.map fun x => .bool (f x))) K :=
  ⟨_, by show (boolsD _ >>= fun ns => R.ok (SV.d (.bool (ns.any id)))) = _; rw [boolsD_map]; rfl, by rw [show (l.map f).any id = l.any f by rw [List.any_map]; rfl]; exact k⟩
theorem pf_all {α : Type} {f : α → Bool} {l : List α} (k : K (.d (.bool (l.all f)))) : PF .all (.l (l.map fun x => .bool (f x))) K :=
  ⟨_, by show (boolsD _ >>= fun ns => R.ok (SV.d (.bool (ns.all id)))) = _; rw [boolsD_map]; rfl, by rw [show (l.map f).all id = l.all f by rw [List.all_map]; rfl]; exact k⟩
theorem pf_lenset {ns : List Int} (h : ns.length ≤ 4000) (k : K (.d (.int ns.eraseDups.length))) : PF .lenset (.d (.tuple (ns.map .int))) K :=
  ⟨_, by show (intsD (ns.map fun x => PyData.int x) >>= fun ns => if ns.length ≤ 4000 then R.ok (SV.d (.int (ns.eraseDups.length : Nat))) else .bad) = _; rw [intsD_map, ok_bind, if_pos (by rw [List.length_map]; exact h)], by rw [List.map_id']; exact k⟩
/-- sorted, by the order of the type -/
def leO {α : Type} [DecidableEq α] [DatumOrd α] (a b : α) : Bool := !DatumOrd.lt b a
def srtO {α : Type} [DecidableEq α] [DatumOrd α] (xs : List α) : List α := xs.mergeSort leO
theorem le_datum {α : Type} [DecidableEq α] [DatumOrd α] (a b : α) : PySem.W.dataLe false id (Datum.toD a) (Datum.toD b) = leO a b := by
  unfold leO
  rw [← DatumOrd.lt_eq]
  rfl
theorem srt_map {α : Type} [DecidableEq α] [DatumOrd α] (xs : List α) : (xs.map Datum.toD).mergeSort (PySem.W.dataLe false id) = (srtO xs).map Datum.toD := by
  unfold srtO
  rw [List.map_mergeSort]
  intro a _ b _
  exact (le_datum a b).symm
theorem sortOk_t {α : Type} [DecidableEq α] [DatumOrd α] {xs : List α} (hd : Datum.depth α ≤ 64) (hl : xs.length ≤ 16777216) (hn : (∀ x ∈ xs, tupNE (Datum.toD x) = true) ∨ ∀ x ∈ xs, notNT (Datum.toD x) = true) : sortOk (xs.map Datum.toD) = true := by
  unfold sortOk
  simp only [Bool.and_eq_true, Bool.or_eq_true, List.all_eq_true, decide_eq_true_eq]
  refine ⟨fun d hd e he => ?_, fun d hd' => ?_, ?_, by rw [List.length_map]; exact hl⟩
  · obtain ⟨p, _, rfl⟩ := List.mem_map.mp hd
    obtain ⟨q, _, rfl⟩ := List.mem_map.mp he
    exact DatumOrd.alike p q
  · obtain ⟨p, _, rfl⟩ := List.mem_map.mp hd'
    exact Nat.le_trans (Datum.depth_le p) hd
  · rcases hn with hn | hn
    · refine .inl (.inl fun d hd => ?_)
      obtain ⟨p, hp, rfl⟩ := List.mem_map.mp hd
      exact hn p hp
    · refine .inl (.inr fun d hd => ?_)
      obtain ⟨p, hp, rfl⟩ := List.mem_map.mp hd
      exact hn p hp
theorem pf_srt1 {s : SV} (hs : items s = .ok [.tuple []]) (k : K (.l [.tuple []])) : PF .sorted s K :=
  ⟨_, by
    have e : opF .sorted s = (items s >>= fun ds => if sortOk ds = true then R.ok (SV.l (ds.mergeSort (PySem.W.dataLe false id))) else .bad) := rfl
    rw [e, hs, ok_bind, if_pos (by decide), List.mergeSort_singleton], k⟩
theorem pf_srt {α : Type} [DecidableEq α] [DatumOrd α] (xs : List α) {s : SV} (hs : items s = .ok (xs.map Datum.toD)) (hd : Datum.depth α ≤ 64) (hl : xs.length ≤ 16777216) (hn : (∀ x ∈ xs, tupNE (Datum.toD x) = true) ∨ ∀ x ∈ xs, notNT (Datum.toD x) = true) (k : K (.l ((srtO xs).map Datum.toD))) : PF .sorted s K :=
  ⟨_, by
    have e : opF .sorted s = (items s >>= fun ds => if sortOk ds = true then R.ok (SV.l (ds.mergeSort (PySem.W.dataLe false id))) else .bad) := rfl
    rw [e, hs, ok_bind, if_pos (sortOk_t hd hl hn), srt_map], k⟩
theorem srtO_perm {α : Type} [DecidableEq α] [DatumOrd α] (xs : List α) : (srtO xs).Perm xs := List.mergeSort_perm xs _
end

/-! ### items -/
section
variable {K : SV → Prop} {i : Int} {α : Type} {f : α → D} {xs : List α}
theorem atI_map (h0 : 0 ≤ i) (h1 : i < xs.length) : ∃ y, xs[i.toNat]? = some y ∧ L2.atI (xs.map f) i = some (f y) := by
  have hlt : i.toNat < xs.length := by omega
  refine ⟨xs[i.toNat], List.getElem?_eq_getElem hlt, ?_⟩
  unfold L2.atI L2.ixN
  rw [if_pos h0, if_pos (by rw [List.length_map]; omega)]
  show (xs.map f)[i.toNat]? = _
  rw [List.getElem?_map, List.getElem?_eq_getElem hlt]
  rfl
theorem px_t (h0 : 0 ≤ i) (h1 : i < xs.length) (k : ∀ y, xs[i.toNat]? = some y → K (.d (f y))) : PX (.d (.tuple (xs.map f))) (.d (.int i)) K := by
  obtain ⟨y, e1, e2⟩ := atI_map (f := f) h0 h1
  exact ⟨.d (f y), by show (match L2.atI (xs.map f) i with | some x => R.ok (SV.d x) | none => .bad) = _; rw [e2], k y e1⟩
theorem px_d (h0 : 0 ≤ i) (h1 : i < xs.length) (k : ∀ y, xs[i.toNat]? = some y → K (.d (f y))) : PX (.d (.list (xs.map f))) (.d (.int i)) K := by
  obtain ⟨y, e1, e2⟩ := atI_map (f := f) h0 h1
  exact ⟨.d (f y), by show (match L2.atI (xs.map f) i with | some x => R.ok (SV.d x) | none => .bad) = _; rw [e2], k y e1⟩
theorem px_l (h0 : 0 ≤ i) (h1 : i < xs.length) (k : ∀ y, xs[i.toNat]? = some y → K (.d (f y))) : PX (.l (xs.map f)) (.d (.int i)) K := by
  obtain ⟨y, e1, e2⟩ := atI_map (f := f) h0 h1
  exact ⟨.d (f y), by show (match L2.atI (xs.map f) i with | some x => R.ok (SV.d x) | none => .bad) = _; rw [e2], k y e1⟩
theorem prng {n : Int} {K : List D → Prop} (h : n < 1000000000) (k : K ((List.range n.toNat).map fun (i : Nat) => PyData.int (i : Int))) (h0 : -1000000000 < n) : PRng 0 n K := by
  refine ⟨?_, ?_⟩
  · unfold rngOk
    simp
    omega
  · unfold rngD
    rw [Int.sub_zero]
    simp only [Int.zero_add]
    exact k
theorem prng2 {m n : Int} {K : List D → Prop} (h0 : -1000000000 < m) (h1 : m < 1000000000) (h2 : -1000000000 < n) (h : n < 1000000000) (k : K ((List.range (n - m).toNat).map fun (i : Nat) => PyData.int (m + (i : Int)))) : PRng m n K := by
  refine ⟨?_, k⟩
  unfold rngOk
  simp
  omega
def cutN {α : Type} (xs : List α) (lo hi : Option Int) : List α := (xs.drop (HT.sIx xs.length 0 lo)).take (HT.sIx xs.length xs.length hi - HT.sIx xs.length 0 lo)
theorem cutD_map (lo hi : Option Int) : cutD (xs.map f) lo hi = (cutN xs lo hi).map f := by
  unfold cutD cutN
  rw [List.length_map, List.map_take, List.map_drop]
theorem pcut_t {lo hi : Option Int} (k : K (.d (.tuple ((cutN xs lo hi).map f)))) : PCut (.d (.tuple (xs.map f))) lo hi K := ⟨_, rfl, by rw [cutD_map]; exact k⟩
theorem pcut_d {lo hi : Option Int} (k : K (.l ((cutN xs lo hi).map f))) : PCut (.d (.list (xs.map f))) lo hi K := ⟨_, rfl, by rw [cutD_map]; exact k⟩
theorem pcut_l {lo hi : Option Int} (k : K (.l ((cutN xs lo hi).map f))) : PCut (.l (xs.map f)) lo hi K := ⟨_, rfl, by rw [cutD_map]; exact k⟩
theorem cutN_to (h : 0 ≤ i) : cutN xs none (some i) = xs.take i.toNat := by
  have e : HT.sIx xs.length xs.length (some i) = min i.toNat xs.length := if_neg (by omega)
  unfold cutN
  rw [e, HT.sIx_none, List.drop_zero, Nat.sub_zero, ← List.take_eq_take_min]
theorem cutN_from (h : 0 ≤ i) : cutN xs (some i) none = xs.drop i.toNat := by
  have e : HT.sIx xs.length 0 (some i) = min i.toNat xs.length := if_neg (by omega)
  unfold cutN
  rw [e, HT.sIx_none]
  by_cases z : i.toNat ≤ xs.length
  · rw [Nat.min_eq_left z, List.take_of_length_le (by rw [List.length_drop]; exact Nat.le_refl _)]
  · rw [Nat.min_eq_right (by omega), List.drop_length, List.drop_eq_nil_of_le (by omega), List.take_nil]
theorem cutN_len {lo hi : Option Int} : (cutN xs lo hi).length ≤ xs.length := by
  unfold cutN
  rw [List.length_take, List.length_drop]
  omega
theorem cutN_mem {lo hi : Option Int} {x : α} (h : x ∈ cutN xs lo hi) : x ∈ xs := List.mem_of_mem_drop (List.mem_of_mem_take h)
theorem enumD_map (f : α → D) : ∀ (xs : List α) (k : Nat), enumD k (xs.map f) = (xs.zipIdx k).map fun p => .tuple [.int (p.2 : Int), f p.1]
  | [], _ => rfl
  | x :: xs, k => by
    rw [List.map_cons, enumD, List.zipIdx_cons, List.map_cons, enumD_map f xs (k + 1)]
theorem zipD_map {β : Type} (f : α → D) (g : β → D) : ∀ (xs : List α) (ys : List β), zipD (xs.map f) (ys.map g) = (xs.zip ys).map fun p => .tuple [f p.1, g p.2]
  | [], ys => by cases ys <;> rfl
  | x :: xs, [] => rfl
  | x :: xs, y :: ys => by
    rw [List.map_cons, List.map_cons, zipD, List.zip_cons_cons, List.map_cons, zipD_map f g xs ys]
end

/-! ### methods of lists, slices turned about -/
section
variable {K : D → List D → Prop} {i : Int} {α : Type} {f : α → D} {xs : List α}
theorem pm_pop0 (h : xs ≠ []) (k : ∀ y r, xs = y :: r → K (f y) (r.map f)) : PMt .pop (xs.map f) [.int 0] K := by
  cases xs with
  | nil => exact absurd rfl h
  | cons y r =>
    refine ⟨f y, r.map f, ?_, k y r rfl⟩
    have e : L2.ixN (PyData.list ((y :: r).map f) :: []).length 0 = some 0 := rfl
    have e2 : L2.ixN ((y :: r).map f).length 0 = some 0 := by
      unfold L2.ixN
      rw [if_pos (by omega), if_pos (by rw [List.length_map, List.length_cons]; omega)]
      rfl
    show (if ¬ (-(2 ^ 62) ≤ (0 : Int) ∧ (0 : Int) < 2 ^ 62) then R.bad else (match L2.ixN ((y :: r).map f).length 0 with
      | some k => (match ((y :: r).map f)[k]? with
        | some z => R.ok (z, ((y :: r).map f).eraseIdx k)
        | none => .bad)
      | none => .bad)) = _
    rw [if_neg (by decide), e2]
    rfl
theorem pm_ins {x : α} (h0 : 0 ≤ i) (h1 : i < 1000000000) (hl : xs.length < 16777216) (k : K .none ((xs.take i.toNat ++ [x] ++ xs.drop i.toNat).map f)) : PMt .insert (xs.map f) [.int i, f x] K := by
  refine ⟨.none, _, if_pos ⟨h0, by omega, by rw [List.length_map]; exact hl⟩, ?_⟩
  rw [← List.map_take, ← List.map_drop]
  simpa using k
theorem pm_idx {ns : List Int} (h : i ∈ ns) (k : K (.int (ns.idxOf i : Nat)) (ns.map .int)) : PMt .index (ns.map .int) [.int i] K := by
  have e : (ns.map PyData.int).findIdx? (fun z => PyData.eqv z (.int i)) = some (ns.idxOf i) := by
    rw [List.findIdx?_map]
    have e1 : ((fun z => PyData.eqv z (PyData.int i)) ∘ PyData.int) = fun z => z == i := by
      funext z
      show PyData.eqv (.int z) (.int i) = (z == i)
      simp only [PyData.eqv]
    rw [e1, List.findIdx?_eq_some_iff_getElem]
    have hl := List.idxOf_lt_length_of_mem h
    refine ⟨hl, ?_, fun j hj => ?_⟩
    · simp
    · have := List.not_of_lt_findIdx (p := fun z => z == i) (xs := ns) hj
      simpa using this
  refine ⟨_, _, ?_, k⟩
  show (if SeqAt.shaped (.list (ns.map PyData.int)) = true ∧ SeqAt.shaped (.int i) = true then _ else _) = _
  rw [if_pos ⟨shaped_list (α := Int) (by decide) ns, shaped_of (α := Int) (by decide) i⟩, e]
end
section
variable {K : SV → Prop} {i j : Int} {α : Type} {f : α → D} {xs : List α} {ds : List D}
theorem prev_t (k : K (.d (.tuple (xs.reverse.map f)))) : PRev (.d (.tuple (xs.map f))) K := ⟨_, rfl, by rw [← List.map_reverse]; exact k⟩
theorem prev_l (k : K (.l (xs.reverse.map f))) : PRev (.l (xs.map f)) K := ⟨_, rfl, by rw [← List.map_reverse]; exact k⟩
theorem prev_td (k : K (.d (.tuple ds.reverse))) : PRev (.d (.tuple ds)) K := ⟨_, rfl, k⟩
theorem pf_lrng (h0 : -1000000 < i) (h : i ≤ 1000000) (k : K (.l ((List.range i.toNat).map fun (i : Nat) => PyData.int (i : Int)))) : PF .lrng (.d (.int i)) K := by
  have hr : rngOk 0 i = true := by
    unfold rngOk
    simp
    omega
  refine ⟨_, if_pos ⟨hr, h⟩, ?_⟩
  unfold rngD
  rw [Int.sub_zero]
  simp only [Int.zero_add]
  exact k
theorem pf_trng (h0 : -1000000 < i) (h : i ≤ 1000000) (k : K (.d (.tuple ((List.range i.toNat).map fun (i : Nat) => PyData.int (i : Int))))) : PF .trng (.d (.int i)) K := by
  have hr : rngOk 0 i = true := by
    unfold rngOk
    simp
    omega
  refine ⟨_, if_pos ⟨hr, h⟩, ?_⟩
  unfold rngD
  rw [Int.sub_zero]
  simp only [Int.zero_add]
  exact k
theorem ltD_of {x y : D} (h1 : PySem.W.alike x y = true) (h2 : notN x = true) (h3 : SeqAt.shaped x = true) (h4 : SeqAt.shaped y = true) : ltD (.d x) (.d y) = .ok (PySem.W.dataLt x y) := by
  have h : PySem.W.alike x y = true ∧ notN x = true ∧ SeqAt.shaped x = true ∧ SeqAt.shaped y = true := ⟨h1, h2, h3, h4⟩
  clear h1 h2 h3 h4
  cases x with
  | int i =>
    cases y with
    | int j => exact congrArg R.ok (PySem.W.dataLt_int i j).symm
    | _ => exact (if_pos (e := R.bad) h)
  | _ => cases y <;> exact (if_pos (e := R.bad) h)
theorem pc_ltt [DecidableEq α] [DatumOrd α] [Sh α] (a b : α) {x y : D} (hd : Datum.depth α ≤ 64) (hx : x = Datum.toD a) (hy : y = Datum.toD b) (k : K (.d (.bool (DatumOrd.lt a b)))) : PC .lt (.d x) (.d y) K := by
  subst hx hy
  refine ⟨_, ?_, k⟩
  show (ltD _ _ >>= fun b => bD b) = _
  have nn : notN (Datum.toD a) = true := by
    have := DatumOrd.notNone a
    cases h : (Datum.toD a : D) <;> first | rfl | exact absurd h this
  rw [ltD_of (DatumOrd.alike a b) nn (shaped_of hd a) (shaped_of hd b), DatumOrd.lt_eq]
  rfl
end

section
variable {K : SV → Prop} {i j : Int} {α : Type} {f : α → D} {xs : List α} {ds : List D}
theorem atI_any (h0 : 0 ≤ i) (h1 : i < ds.length) : ∃ y, ds[i.toNat]? = some y ∧ L2.atI ds i = some y := by
  have h1' : i < (ds.length : Int) := h1
  obtain ⟨y, e1, e2⟩ := atI_map (f := fun d : D => d) (xs := ds) h0 h1'
  rw [List.map_id'] at e2
  exact ⟨y, e1, e2⟩
theorem px_tD (h0 : 0 ≤ i) (h1 : i < ds.length) (k : ∀ y, ds[i.toNat]? = some y → K (.d y)) : PX (.d (.tuple ds)) (.d (.int i)) K := by
  obtain ⟨y, e1, e2⟩ := atI_any h0 h1
  exact ⟨.d y, by show (match L2.atI ds i with | some x => R.ok (SV.d x) | none => .bad) = _; rw [e2], k y e1⟩
theorem px_dD (h0 : 0 ≤ i) (h1 : i < ds.length) (k : ∀ y, ds[i.toNat]? = some y → K (.d y)) : PX (.d (.list ds)) (.d (.int i)) K := by
  obtain ⟨y, e1, e2⟩ := atI_any h0 h1
  exact ⟨.d y, by show (match L2.atI ds i with | some x => R.ok (SV.d x) | none => .bad) = _; rw [e2], k y e1⟩
theorem px_lD (h0 : 0 ≤ i) (h1 : i < ds.length) (k : ∀ y, ds[i.toNat]? = some y → K (.d y)) : PX (.l ds) (.d (.int i)) K := by
  obtain ⟨y, e1, e2⟩ := atI_any h0 h1
  exact ⟨.d y, by show (match L2.atI ds i with | some x => R.ok (SV.d x) | none => .bad) = _; rw [e2], k y e1⟩
theorem pb_mult (h0 : 2 ≤ j) (h1 : j ≤ 1000) (hl : ds.length ≤ 1000) (k : K (.d (.tuple (List.replicate j.toNat ds).flatten))) : PB .mul (.d (.tuple ds)) (.d (.int j)) K := by
  cases ds with
  | nil =>
    have e : (List.replicate j.toNat ([] : List D)).flatten = [] := by simp
    rw [e] at k
    exact ⟨_, if_pos ⟨by omega, h1⟩, k⟩
  | cons d ds => exact ⟨_, if_pos ⟨by simp, h0, h1, hl⟩, k⟩
theorem pcut_tq {lo hi : Option Int} (k : ∀ ys : List α, ys.length ≤ xs.length → (∀ y ∈ ys, y ∈ xs) → ys = cutN xs lo hi → K (.d (.tuple (ys.map f)))) : PCut (.d (.tuple (xs.map f))) lo hi K :=
  pcut_t (k _ cutN_len (fun _ h => cutN_mem h) rfl)
theorem cutD_any {lo hi : Option Int} : (cutD ds lo hi).length ≤ ds.length ∧ ∀ y ∈ cutD ds lo hi, y ∈ ds := by
  have e := cutD_map (f := fun d : D => d) (xs := ds) lo hi
  rw [List.map_id', List.map_id'] at e
  rw [e]
  exact ⟨cutN_len, fun y h => cutN_mem h⟩
theorem pcut_tD {lo hi : Option Int} (k : ∀ ys : List D, ys.length ≤ ds.length → (∀ y ∈ ys, y ∈ ds) → K (.d (.tuple ys))) : PCut (.d (.tuple ds)) lo hi K :=
  ⟨_, rfl, k _ cutD_any.1 cutD_any.2⟩
end

/-! ### tests -/
section
variable {P Q : Prop} {b : Bool} {p : Prop} [Decidable p]
theorem pif_t (k : P) : PIf true P Q := ⟨fun _ => k, fun e => by cases e⟩
theorem pif_f (k : Q) : PIf false P Q := ⟨fun e => (by cases e), fun _ => k⟩
theorem pif_not (k : PIf b Q P) : PIf (!b) P Q := ⟨fun e => k.2 (by simpa using e), fun e => k.1 (by simpa using e)⟩
theorem pif_yes (h : b = true) (k : P) : PIf b P Q := ⟨fun _ => k, fun e => by rw [h] at e; cases e⟩
theorem pif_no (h : b = false) (k : Q) : PIf b P Q := ⟨fun e => by (rw [h] at e; cases e), fun _ => k⟩
theorem pif_dt (h : p) (k : P) : PIf (decide p) P Q := pif_yes (decide_eq_true h) k
theorem pif_df (h : ¬ p) (k : Q) : PIf (decide p) P Q := pif_no (decide_eq_false h) k
theorem pif_dc (h : p → P) (k : ¬ p → Q) : PIf (decide p) P Q := ⟨fun e => h (of_decide_eq_true e), fun e => k (of_decide_eq_false e)⟩
end

/-! ### a body as a whole -/
inductive PSs (Γ : Gl0) (b : Ss) (ρ : Dn.Env) (K : Fl → Dn.Env → Prop) : Prop where
  | mk (f : Fl) (ρ' : Dn.Env) (e : b.dens Γ ρ = .ok (f, ρ')) (k : K f ρ')
section
variable {Γ : Gl0} {s : S} {b r : Ss} {ρ : Dn.Env} {K : Fl → Dn.Env → Prop}
theorem PSs.w (h : wSs Γ b ρ K) : PSs Γ b ρ K := by
  obtain ⟨f, ρ', e, k⟩ := wSs_ok b h
  exact ⟨f, ρ', e, k⟩
/-- one statement, then what is behind it -/
theorem PSs.seq (M : Dn.Env → Prop) (h1 : wS Γ s ρ fun f ρ => f = .nx ∧ M ρ) (h2 : ∀ ρ, M ρ → PSs Γ r ρ K) : PSs Γ (.cons s r) ρ K := by
  obtain ⟨f, ρ1, e1, rfl, m⟩ := wS_ok s h1
  obtain ⟨f, ρ', e, k⟩ := h2 ρ1 m
  exact ⟨f, ρ', by unfold Ss.dens; exact bnd e1 e, k⟩
theorem PSs.imp {K' : Fl → Dn.Env → Prop} (h : PSs Γ b ρ K) (i : ∀ f ρ, K f ρ → K' f ρ) : PSs Γ b ρ K' := by
  obtain ⟨f, ρ', e, k⟩ := h
  exact ⟨f, ρ', e, i _ _ k⟩
end

/-! ### loops and lists told by rules -/
section
variable {Γ : Gl0} {t : Tg} {b : Ss} {ρ : Dn.Env} {K : Fl → Dn.Env → Prop}
theorem pfor_go (I : Nat → Dn.Env → Prop) : ∀ (ds : List D) (i : Nat) (ρ : Dn.Env), I i ρ →
    (∀ (j : Nat) d ρ, ds[j]? = some d → I (i + j) ρ → wPut t d ρ fun ρ => PSs Γ b ρ fun f ρ => wLoop f (I (i + j + 1) ρ) (K .nx ρ) fun s => K (.ret s) ρ) →
    (∀ ρ, I (i + ds.length) ρ → K .nx ρ) → PFor Γ t b ds ρ K
  | [], i, ρ, h, _, he => ⟨.nx, ρ, rfl, he ρ h⟩
  | d :: ds, i, ρ, h, st, he => by
    obtain ⟨ρ1, e1, h1⟩ := wPut_ok t (st 0 d ρ rfl h)
    obtain ⟨f, ρ2, e2, h2⟩ := h1
    have go : (f = .nx ∨ f = .cnt) → I (i + 1) ρ2 → PFor Γ t b (d :: ds) ρ K := fun hf hi => by
      obtain ⟨f', ρ', e3, k⟩ := pfor_go I ds (i + 1) ρ2 hi (fun j d' ρ hd hp => by
        have := st (j + 1) d' ρ (by simpa using hd) (by rw [show i + (j + 1) = i + 1 + j by omega]; exact hp)
        rw [show i + (j + 1) + 1 = i + 1 + j + 1 by omega] at this
        exact this) (fun ρ hp => he ρ (by rw [show i + (d :: ds).length = i + 1 + ds.length by simp; omega]; exact hp))
      refine ⟨f', ρ', ?_, k⟩
      unfold forGo
      refine bnd e1 (bnd e2 ?_)
      rcases hf with rfl | rfl <;> exact e3
    cases f with
    | nx => exact go (.inl rfl) h2
    | cnt => exact go (.inr rfl) h2
    | brk => exact ⟨.nx, ρ2, by unfold forGo; exact bnd e1 (bnd e2 rfl), h2⟩
    | ret s => exact ⟨.ret s, ρ2, by unfold forGo; exact bnd e1 (bnd e2 rfl), h2⟩
theorem pfor {ds : List D} (I : Nat → Dn.Env → Prop) (h0 : I 0 ρ) (he : ∀ ρ, I ds.length ρ → K .nx ρ)
    (st : ∀ (j : Nat) d ρ, ds[j]? = some d → I j ρ → wPut t d ρ fun ρ => PSs Γ b ρ fun f ρ => wLoop f (I (j + 1) ρ) (K .nx ρ) fun s => K (.ret s) ρ) : PFor Γ t b ds ρ K :=
  pfor_go I ds 0 ρ h0 (fun j d ρ hd hi => by rw [Nat.zero_add] at hi ⊢; exact st j d ρ hd hi) (fun ρ hi => he ρ (by rw [Nat.zero_add] at hi; exact hi))
theorem pfor_map {α : Type} {g : α → D} {xs : List α} (I : Nat → Dn.Env → Prop) (h0 : I 0 ρ) (he : ∀ ρ, I xs.length ρ → K .nx ρ)
    (st : ∀ (j : Nat) x ρ, xs[j]? = some x → I j ρ → wPut t (g x) ρ fun ρ => PSs Γ b ρ fun f ρ => wLoop f (I (j + 1) ρ) (K .nx ρ) fun s => K (.ret s) ρ) : PFor Γ t b (xs.map g) ρ K :=
  pfor I h0 (fun ρ hi => he ρ (by rw [List.length_map] at hi; exact hi)) fun j d ρ hd hi => by
    rw [List.getElem?_map] at hd
    obtain ⟨x, hx, rfl⟩ := Option.map_eq_some_iff.mp hd
    exact st j x ρ hx hi
theorem pfor_rng {n : Nat} {g : Nat → D} (I : Nat → Dn.Env → Prop) (h0 : I 0 ρ) (he : ∀ ρ, I n ρ → K .nx ρ)
    (st : ∀ (j : Nat) ρ, j < n → I j ρ → wPut t (g j) ρ fun ρ => PSs Γ b ρ fun f ρ => wLoop f (I (j + 1) ρ) (K .nx ρ) fun s => K (.ret s) ρ) : PFor Γ t b ((List.range n).map g) ρ K :=
  pfor_map I h0 (fun ρ hi => he ρ (by rw [List.length_range] at hi; exact hi)) fun j x ρ hx hi => by
    obtain ⟨h1, h2⟩ := List.getElem?_eq_some_iff.mp hx
    rw [List.length_range] at h1
    rw [List.getElem_range] at h2
    subst h2
    exact st j ρ h1 hi
end
section
variable {Γ : Gl0} {own : List (Str × Nat)} {t : Tg} {c e : E} {ρ : Dn.Env} {K : List D → Dn.Env → Prop}
theorem lcGo_go {step : D → Dn.Env → R (Option D × Dn.Env)} (I : Nat → List D → Dn.Env → Prop) : ∀ (ds : List D) (i : Nat) (acc : List D) (ρ : Dn.Env), I i acc ρ → acc.length + ds.length ≤ LIM →
    (∀ (j : Nat) d acc ρ, ds[j]? = some d → I (i + j) acc ρ → ∃ o ρ1, step d ρ = .ok (o, ρ1) ∧ I (i + j + 1) (match o with | some x => acc ++ [x] | none => acc) (wipeE own ρ1)) →
    ∃ r ρ', lcGo own step ds acc ρ = .ok (r, ρ') ∧ I (i + ds.length) r ρ'
  | [], i, acc, ρ, h, _, _ => ⟨acc, ρ, rfl, h⟩
  | d :: ds, i, acc, ρ, h, hl, st => by
    obtain ⟨o, ρ1, e1, p⟩ := st 0 d acc ρ rfl h
    have nx : ∀ (j : Nat) d' acc ρ, ds[j]? = some d' → I (i + 1 + j) acc ρ → ∃ o ρ1, step d' ρ = .ok (o, ρ1) ∧ I (i + 1 + j + 1) (match o with | some x => acc ++ [x] | none => acc) (wipeE own ρ1) := fun j d' acc ρ hd hp => by
      have := st (j + 1) d' acc ρ (by simpa using hd) (by rw [show i + (j + 1) = i + 1 + j by omega]; exact hp)
      rw [show i + (j + 1) + 1 = i + 1 + j + 1 by omega] at this
      exact this
    have hlen : (d :: ds).length = ds.length + 1 := rfl
    rw [hlen] at hl
    cases o with
    | some x =>
      obtain ⟨r, ρ', e3, p'⟩ := lcGo_go I ds (i + 1) (acc ++ [x]) (wipeE own ρ1) p (by rw [List.length_append]; simp; omega) nx
      refine ⟨r, ρ', ?_, by rw [hlen, show i + (ds.length + 1) = i + 1 + ds.length by omega]; exact p'⟩
      unfold lcGo
      refine bnd e1 ?_
      show (if acc.length < LIM then lcGo own step ds (acc ++ [x]) (wipeE own ρ1) else .bad) = _
      rw [if_pos (by omega)]
      exact e3
    | none =>
      obtain ⟨r, ρ', e3, p'⟩ := lcGo_go I ds (i + 1) acc (wipeE own ρ1) p (by omega) nx
      refine ⟨r, ρ', ?_, by rw [hlen, show i + (ds.length + 1) = i + 1 + ds.length by omega]; exact p'⟩
      unfold lcGo
      exact bnd e1 e3
theorem lc0_inv {α : Type} {f : α → D} {xs : List α} (I : Nat → List D → Dn.Env → Prop) (h0 : I 0 [] ρ) (hl : xs.length ≤ 16777216) (he : ∀ r ρ, I xs.length r ρ → K r ρ)
    (st : ∀ (j : Nat) x acc ρ, xs[j]? = some x → I j acc ρ → wPut t (f x) ρ fun ρ => wE Γ e ρ fun o ρ => wUseD o ρ fun y => wWipe own ρ fun ρ => I (j + 1) (acc ++ [y]) ρ) : PLc0 Γ own t e (xs.map f) ρ K := by
  obtain ⟨r, ρ', e1, h⟩ := lcGo_go (own := own) (step := lc0Step Γ t e) I (xs.map f) 0 [] ρ h0 (by rw [List.length_map]; show 0 + xs.length ≤ 16777216; omega) fun j d acc ρ hd hi => by
    rw [List.getElem?_map] at hd
    obtain ⟨x, hx, rfl⟩ := Option.map_eq_some_iff.mp hd
    rw [Nat.zero_add] at hi ⊢
    obtain ⟨ρ1, e1, h⟩ := wPut_ok t (st j x acc ρ hx hi)
    obtain ⟨o, ρ2, e2, h⟩ := wE_ok e h
    obtain ⟨y, e3, h⟩ := wUseD_ok h
    exact ⟨some y, ρ2, by unfold lc0Step; exact bnd e1 (bnd e2 (bnd e3 rfl)), wWipe_ok h⟩
  rw [Nat.zero_add, List.length_map] at h
  exact ⟨r, ρ', e1, he r ρ' h⟩
theorem lc1_inv {α : Type} {f : α → D} {xs : List α} (I : Nat → List D → Dn.Env → Prop) (h0 : I 0 [] ρ) (hl : xs.length ≤ 16777216) (he : ∀ r ρ, I xs.length r ρ → K r ρ)
    (st : ∀ (j : Nat) x acc ρ, xs[j]? = some x → I j acc ρ → wPut t (f x) ρ fun ρ => wE Γ c ρ fun o ρ => wTru o ρ fun b => PIf b (wE Γ e ρ fun o ρ => wUseD o ρ fun y => wWipe own ρ fun ρ => I (j + 1) (acc ++ [y]) ρ) (wWipe own ρ fun ρ => I (j + 1) acc ρ)) :
    PLc1 Γ own t c e (xs.map f) ρ K := by
  obtain ⟨r, ρ', e1, h⟩ := lcGo_go (own := own) (step := lc1Step Γ t c e) I (xs.map f) 0 [] ρ h0 (by rw [List.length_map]; show 0 + xs.length ≤ 16777216; omega) fun j d acc ρ hd hi => by
    rw [List.getElem?_map] at hd
    obtain ⟨x, hx, rfl⟩ := Option.map_eq_some_iff.mp hd
    rw [Nat.zero_add] at hi ⊢
    obtain ⟨ρ1, e1, h⟩ := wPut_ok t (st j x acc ρ hx hi)
    obtain ⟨o, ρ2, e2, h⟩ := wE_ok c h
    obtain ⟨k, e3, h⟩ := wTru_ok h
    cases k with
    | true =>
      obtain ⟨o, ρ3, e4, h⟩ := wE_ok e (h.1 rfl)
      obtain ⟨y, e5, h⟩ := wUseD_ok h
      exact ⟨some y, ρ3, by unfold lc1Step; exact bnd e1 (bnd e2 (bnd e3 (bnd e4 (bnd e5 rfl)))), wWipe_ok h⟩
    | false => exact ⟨none, ρ2, by unfold lc1Step; exact bnd e1 (bnd e2 (bnd e3 rfl)), wWipe_ok (h.2 rfl)⟩
  rw [Nat.zero_add, List.length_map] at h
  exact ⟨r, ρ', e1, he r ρ' h⟩
theorem take_snoc {α : Type} {xs : List α} {j : Nat} {x : α} (h : xs[j]? = some x) : xs.take (j + 1) = xs.take j ++ [x] := by
  rw [List.take_succ, h]
  rfl
/-- a list made item by item -/
theorem lc0_map {α : Type} {f : α → D} {xs : List α} (g : α → D) (hl : xs.length ≤ 16777216) (st : ∀ x, x ∈ xs → wPut t (f x) ρ fun ρ1 => wE Γ e ρ1 fun o ρ2 => wUseD o ρ2 fun y => wWipe own ρ2 fun ρ' => y = g x ∧ ρ' = ρ) (k : K (xs.map g) ρ) : PLc0 Γ own t e (xs.map f) ρ K := by
  obtain ⟨r, ρ', e1, rfl, rfl⟩ := lcGo_go (own := own) (step := lc0Step Γ t e) (fun j acc ρ' => acc = (xs.take j).map g ∧ ρ' = ρ) (xs.map f) 0 [] ρ ⟨rfl, rfl⟩ (by rw [List.length_map]; show 0 + xs.length ≤ 16777216; omega) fun j d acc ρ0 hd hi => by
    obtain ⟨rfl, rfl⟩ := hi
    rw [List.getElem?_map] at hd
    obtain ⟨x, hx, rfl⟩ := Option.map_eq_some_iff.mp hd
    rw [Nat.zero_add]
    obtain ⟨ρ1, e1, h⟩ := wPut_ok t (st x (List.mem_of_getElem? hx))
    obtain ⟨o, ρ2, e2, h⟩ := wE_ok e h
    obtain ⟨y, e3, h⟩ := wUseD_ok h
    obtain ⟨rfl, h'⟩ := wWipe_ok h
    exact ⟨some (g x), ρ2, by unfold lc0Step; exact bnd e1 (bnd e2 (bnd e3 rfl)), by rw [take_snoc hx, List.map_append]; rfl, h'⟩
  rw [Nat.zero_add, List.length_map, List.take_length] at e1
  exact ⟨_, _, e1, k⟩
theorem lc1_map {α : Type} {f : α → D} {xs : List α} (p : α → Bool) (g : α → D) (hl : xs.length ≤ 16777216)
    (st : ∀ x, x ∈ xs → wPut t (f x) ρ fun ρ1 => wE Γ c ρ1 fun o ρ2 => wTru o ρ2 fun b => b = p x ∧ (p x = true → wE Γ e ρ2 fun o ρ3 => wUseD o ρ3 fun y => wWipe own ρ3 fun ρ' => y = g x ∧ ρ' = ρ) ∧ (p x = false → wWipe own ρ2 fun ρ' => ρ' = ρ))
    (k : K ((xs.filter p).map g) ρ) : PLc1 Γ own t c e (xs.map f) ρ K := by
  obtain ⟨r, ρ', e1, rfl, rfl⟩ := lcGo_go (own := own) (step := lc1Step Γ t c e) (fun j acc ρ' => acc = ((xs.take j).filter p).map g ∧ ρ' = ρ) (xs.map f) 0 [] ρ ⟨rfl, rfl⟩ (by rw [List.length_map]; show 0 + xs.length ≤ 16777216; omega) fun j d acc ρ0 hd hi => by
    obtain ⟨rfl, rfl⟩ := hi
    rw [List.getElem?_map] at hd
    obtain ⟨x, hx, rfl⟩ := Option.map_eq_some_iff.mp hd
    rw [Nat.zero_add]
    obtain ⟨ρ1, e1, h⟩ := wPut_ok t (st x (List.mem_of_getElem? hx))
    obtain ⟨o, ρ2, e2, h⟩ := wE_ok c h
    obtain ⟨b, e3, rfl, h1, h2⟩ := wTru_ok h
    cases hp : p x with
    | true =>
      obtain ⟨o, ρ3, e4, h⟩ := wE_ok e (h1 hp)
      obtain ⟨y, e5, h⟩ := wUseD_ok h
      obtain ⟨rfl, h'⟩ := wWipe_ok h
      rw [hp] at e3
      exact ⟨some (g x), ρ3, by unfold lc1Step; exact bnd e1 (bnd e2 (bnd e3 (bnd e4 (bnd e5 rfl)))), by rw [take_snoc hx, List.filter_append, List.map_append, List.filter_cons, if_pos hp]; rfl, h'⟩
    | false =>
      have h := wWipe_ok (h2 hp)
      rw [hp] at e3
      exact ⟨none, ρ2, by unfold lc1Step; exact bnd e1 (bnd e2 (bnd e3 rfl)), by rw [take_snoc hx, List.filter_append, List.map_append, List.filter_cons, if_neg (by rw [hp]; exact Bool.false_ne_true)]; simp, h⟩
  rw [Nat.zero_add, List.length_map, List.take_length] at e1
  exact ⟨_, _, e1, k⟩
end

/-! ### calls -/
def isDat : SV → Bool
  | .d _ => true
  | .l _ => false
  | .ow _ => false
theorem own1_dat : ∀ {os : List O} {ss : List SV}, ss.all isDat = true → own1 os ss = []
  | [], _, _ => by unfold own1; rfl
  | .var i :: os, [], _ => by unfold own1; rfl
  | .val s :: os, [], _ => by unfold own1; rfl
  | .var i :: os, .d x :: ss, h => by
    unfold own1
    exact own1_dat (os := os) (ss := ss) (by simpa [isDat] using h)
  | .val s :: os, .d x :: ss, h => by
    unfold own1
    exact own1_dat (os := os) (ss := ss) (by simpa [isDat] using h)
  | _ :: os, .l x :: ss, h => by simp [isDat] at h
  | _ :: os, .ow x :: ss, h => by simp [isDat] at h
theorem wb_dat : ∀ {ms : List PM} {os : List O} {ss : List SV} {as : List (Option SV)} {ρ : Dn.Env}, ss.all isDat = true → wb ms os ss as ρ = ρ
  | [], _, _, _, _, _ => by unfold wb; rfl
  | _ :: _, [], _, _, _, _ => by unfold wb; rfl
  | _ :: _, _ :: _, [], _, _, _ => by unfold wb; rfl
  | _ :: _, _ :: _, _ :: _, [], _, _ => by unfold wb; rfl
  | m :: ms, .var i :: os, .d x :: ss, a :: as, ρ, h => by
    have := wb_dat (ms := ms) (os := os) (ss := ss) (as := as) (ρ := ρ) (by simpa [isDat] using h)
    unfold wb
    simpa [isOwn] using this
  | m :: ms, .val s :: os, .d x :: ss, a :: as, ρ, h => by
    have := wb_dat (ms := ms) (os := os) (ss := ss) (as := as) (ρ := ρ) (by simpa [isDat] using h)
    unfold wb
    simpa [isOwn] using this
  | m :: ms, _ :: os, .l x :: ss, a :: as, ρ, h => by simp [isDat] at h
  | m :: ms, _ :: os, .ow x :: ss, a :: as, ρ, h => by simp [isDat] at h
/-- a def of data, what it hands back -/
def Fx (Γ : Gl0) (f : Str) (ss : List SV) (Q : SV → Prop) : Prop := (Γ.md f).length = ss.length ∧ ∃ r as, Γ.fn f ss = .ok (r, as) ∧ Q r
/-- .. whose first argument is a list that it may change -/
def FxS (Γ : Gl0) (f : Str) (xs : List D) (ss : List SV) (Q : SV → List D → Prop) : Prop := (∃ m, Γ.md f = .rw :: m ∧ m.length = ss.length) ∧ ∃ r xs' as, Γ.fn f (.l xs :: ss) = .ok (r, some (.l xs') :: as) ∧ Q r xs'
theorem Fx.imp {Γ : Gl0} {f : Str} {ss : List SV} {Q Q' : SV → Prop} (h : Fx Γ f ss Q) (i : ∀ r, Q r → Q' r) : Fx Γ f ss Q' := by
  obtain ⟨h1, r, as, e, q⟩ := h
  exact ⟨h1, r, as, e, i r q⟩
theorem FxS.imp {Γ : Gl0} {f : Str} {xs : List D} {ss : List SV} {Q Q' : SV → List D → Prop} (h : FxS Γ f xs ss Q) (i : ∀ r x, Q r x → Q' r x) : FxS Γ f xs ss Q' := by
  obtain ⟨h1, r, xs', as, e, q⟩ := h
  exact ⟨h1, r, xs', as, e, i r _ q⟩
section
variable {Γ : Gl0} {f : Str} {os : List O} {ss : List SV} {ρ : Dn.Env} {K : O → Dn.Env → Prop}
theorem pcall_q {Q : SV → Prop} (h : Fx Γ f ss Q) (hl : os.length = ss.length) (hd : ss.all isDat = true) (k : ∀ r, Q r → K (.val r) ρ) : PCall Γ f os ss ρ K := by
  obtain ⟨h1, r, as, e, q⟩ := h
  exact ⟨by rw [own1_dat hd]; exact List.nodup_nil, by rw [h1, hl], r, as, e, by rw [wb_dat hd]; exact k r q⟩
theorem pcall {r : SV} (h : Fx Γ f ss fun s => s = r) (hl : os.length = ss.length) (hd : ss.all isDat = true) (k : K (.val r) ρ) : PCall Γ f os ss ρ K :=
  pcall_q h hl hd fun s e => by rw [e]; exact k
theorem pcall_s {i : Nat} {xs : List D} {Q : SV → List D → Prop} (h : FxS Γ f xs ss Q) (hl : os.length = ss.length) (hd : ss.all isDat = true) (k : ∀ r xs', Q r xs' → wSet ρ i (some (.l xs')) fun ρ => K (.val r) ρ) : PCall Γ f (.var i :: os) (.l xs :: ss) ρ K := by
  obtain ⟨⟨m, hm, hml⟩, r, xs', as, e, q⟩ := h
  refine ⟨?_, by rw [hm, List.length_cons, List.length_cons, hml, hl], r, _, e, ?_⟩
  · unfold own1
    simp [isOwn, own1_dat hd]
  · rw [hm]
    unfold wb
    simp only [isOwn]
    rw [wb_dat hd]
    exact (wSet_ok (k r xs' q)).2
end
/-- the end of a body -/
def wRet (f : Fl) (K : SV → Prop) : Prop := match f with
  | .ret s => K s
  | .nx => K (.d .none)
  | _ => False
section
variable {T : Tab} {gl : Str → Option D} {fuel k : Nat} {x : Str} {d : Fdef} {ss : List SV}
theorem md_at (h : T.at_ x = some d) : T.md x = d.md := by
  unfold Tab.md
  rw [h]
theorem fx_of {Q : SV → Prop} (h : T.at_ x = some d) (hl : ss.length = d.ps.length) (hm : d.md.length = ss.length) (q : PSs (Γof T gl fuel k) d.body (env0 d ss) fun f ρ => wRet f Q) : Fx (Γof T gl fuel (k + 1)) x ss Q := by
  obtain ⟨f, ρ', e, q⟩ := q
  refine ⟨(congrArg List.length (md_at h)).trans hm, ?_⟩
  have key : ∀ r, fin d.body.asgs ss (f, ρ') = .ok r → fnDen T gl fuel (k + 1) x ss = .ok r := fun r hr => by
    unfold fnDen
    rw [h]
    show (if ss.length = d.ps.length then (d.body.dens (Γof T gl fuel k) (env0 d ss) >>= fun r => fin d.body.asgs ss r) else .bad) = _
    rw [if_pos hl]
    exact bnd e hr
  cases f with
  | ret s => exact ⟨s, _, key _ rfl, q⟩
  | nx => exact ⟨.d .none, _, key _ rfl, q⟩
  | brk => exact q.elim
  | cnt => exact q.elim
theorem fxs_of {xs : List D} {Q : SV → List D → Prop} (h : T.at_ x = some d) (hl : ss.length + 1 = d.ps.length) (hm : ∃ m, d.md = .rw :: m ∧ m.length = ss.length) (ha : d.body.asgs.contains 0 = false)
    (q : PSs (Γof T gl fuel k) d.body (env0 d (.l xs :: ss)) fun f ρ => wRet f fun r => wRdL ρ 0 fun xs' => Q r xs') : FxS (Γof T gl fuel (k + 1)) x xs ss Q := by
  obtain ⟨f, ρ', e, q⟩ := q
  obtain ⟨m, hm1, hm2⟩ := hm
  refine ⟨⟨m, (md_at h).trans hm1, hm2⟩, ?_⟩
  have key : ∀ r, fin d.body.asgs (.l xs :: ss) (f, ρ') = .ok r → fnDen T gl fuel (k + 1) x (.l xs :: ss) = .ok r := fun r hr => by
    unfold fnDen
    rw [h]
    show (if (SV.l xs :: ss).length = d.ps.length then (d.body.dens (Γof T gl fuel k) (env0 d (.l xs :: ss)) >>= fun r => fin d.body.asgs (.l xs :: ss) r) else .bad) = _
    rw [if_pos (show (SV.l xs :: ss).length = d.ps.length from hl)]
    exact bnd e hr
  have q' : ∃ s, wRet f (fun r => r = s) ∧ ∃ xs', rdL ρ' 0 = .ok xs' ∧ Q s xs' := by
    cases f with
    | ret s => exact ⟨s, rfl, wRdL_ok q⟩
    | nx => exact ⟨.d .none, rfl, wRdL_ok q⟩
    | brk => exact q.elim
    | cnt => exact q.elim
  obtain ⟨s, hs, xs', hx, q2⟩ := q'
  have ho : ∃ as, outD d.body.asgs 0 (.l xs :: ss) ρ' = some (.l xs') :: as := by
    cases ρ' with
    | nil => cases hx
    | cons o ρ' =>
      have : o = some (.l xs') := by
        cases o with
        | none => cases hx
        | some o =>
          cases o with
          | d x => cases hx
          | l ys => cases hx; rfl
          | ow w => cases hx
      subst this
      exact ⟨outD d.body.asgs (0 + 1) ss ρ', by rw [outD_l, if_neg (by rw [ha]; exact Bool.false_ne_true)]⟩
  obtain ⟨as, ho⟩ := ho
  cases f with
  | ret s' => cases hs; exact ⟨s, xs', as, key _ (by show R.ok _ = _; rw [ho]), q2⟩
  | nx => cases hs; exact ⟨.d .none, xs', as, key _ (by show R.ok _ = _; rw [ho]), q2⟩
  | brk => exact hs.elim
  | cnt => exact hs.elim
end
end Dn

set_option Elab.async false
set_option linter.all false
set_option maxRecDepth 100000
set_option maxHeartbeats 4000000
/-! Dn, part Y0: common defs -/
namespace Dn
open PySem PySem.Spec PyProof.Rows
open PySem.W (Datum DatumOrd Tup T3 T4)
def d_clash : Fdef where
  nm := "clash"
  ps := ["one", "other"]
  N := ["one", "other", "tool"]
  fns := []
  blt := ["any"]
  md := [.ro, .ro]
  body := (.cons (.ret (.bf .any (.lc0 [("tool", 2)] (.n 2) (.e (.var 0)) (.cmp .in_ (.var 2) (.var 1)))))
    .nil)

def d__law_hand : Fdef where
  nm := "_law_hand"
  ps := ["_law_script"]
  N := ["_law_script", "_law_state", "_law_weight", "_law_cell", "_law_k", "_law_one"]
  fns := []
  blt := ["len", "abs", "enumerate"]
  md := [.ro]
  body := (.cons (.asg (.n 1) (.lst (.cons (.int 0) (.cons (.int 0) (.cons (.int 0) .nil)))))
    (.cons (.ife (.and (.cmp .gt (.bf .len (.var 0)) (.int 0)) (.cmp .ge (.idx (.var 0) (.int 0)) (.bin .pow (.int 10) (.int 18))))
    (.cons (.asg (.n 2) (.int 1))
    (.cons (.for_ (.n 3) (.e (.slT (.var 0) (.int 63)))
    (.cons (.seti 1 (.int 0) (.bin .add (.idx (.var 1) (.int 0)) (.bin .mul (.bin .mod (.bf .abs (.var 3)) (.bin .pow (.int 10) (.int 60))) (.var 2))))
    (.cons (.asg (.n 2) (.bin .mul (.var 2) (.bin .pow (.int 10) (.int 60))))
    .nil)))
    .nil))
    .nil)
    (.cons (.for_ (.t (.cons (.n 4) (.cons (.n 3) .nil))) (.enum (.slT (.var 0) (.int 63)))
    (.cons (.asg (.n 5) (.bin .add (.bin .add (.bin .mod (.var 3) (.int 2305843009213693951)) (.bin .mul (.int 7919) (.var 4))) (.int 3)))
    (.cons (.seti 1 (.int 1) (.bin .mod (.bin .add (.bin .mul (.idx (.var 1) (.int 1)) (.int 48271)) (.var 5)) (.int 2305843009213693951)))
    .nil)))
    (.cons (.ret (.mv 1))
    .nil))))

def d__law_take : Fdef where
  nm := "_law_take"
  ps := ["_law_state", "_law_many"]
  N := ["_law_state", "_law_many", "_law_mixed", "_law_digit"]
  fns := []
  blt := []
  md := [.rw, .ro]
  body := (.cons (.ife (.cmp .gt (.idx (.var 0) (.int 0)) (.int 0))
    (.cons (.asg (.n 3) (.bin .mod (.idx (.var 0) (.int 0)) (.var 1)))
    (.cons (.seti 0 (.int 0) (.bin .fdiv (.idx (.var 0) (.int 0)) (.var 1)))
    (.cons (.ret (.var 3))
    .nil)))
    .nil)
    (.cons (.seti 0 (.int 2) (.bin .add (.idx (.var 0) (.int 2)) (.int 1)))
    (.cons (.asg (.n 2) (.bin .mod (.bin .mul (.bin .add (.bin .add (.idx (.var 0) (.int 1)) (.bin .mul (.bin .mul (.int 65537) (.idx (.var 0) (.int 2))) (.idx (.var 0) (.int 2)))) (.int 11)) (.int 48271)) (.int 2305843009213693921)))
    (.cons (.asg (.n 2) (.bin .mod (.bin .mul (.var 2) (.bin .add (.bin .mod (.var 2) (.int 1000003)) (.bin .mul (.int 99991) (.idx (.var 0) (.int 2))))) (.int 2305843009213693907)))
    (.cons (.ret (.bin .mod (.bin .add (.bin .fdiv (.var 2) (.int 97)) (.bin .fdiv (.var 2) (.int 1000033))) (.var 1)))
    .nil)))))

def d__law_web : Fdef where
  nm := "_law_web"
  ps := ["_law_state", "_law_n", "_law_most"]
  N := ["_law_state", "_law_n", "_law_most", "_law_tools", "_law_k", "_law_one", "_law_other"]
  fns := ["_law_take"]
  blt := ["range", "int", "min", "max", "tuple", "sorted"]
  md := [.rw, .ro, .ro]
  body := (.cons (.asg (.n 3) (.lst .nil))
    (.cons (.for_ (.n 4) (.rng1 (.bin .mul (.call "_law_take" (.cons (.var 0) (.cons (.bin .add (.var 2) (.int 1)) .nil))) (.bf .int (.cmp .gt (.var 1) (.int 1)))))
    (.cons (.asg (.n 5) (.call "_law_take" (.cons (.var 0) (.cons (.var 1) .nil))))
    (.cons (.asg (.n 6) (.bin .mod (.bin .add (.bin .add (.var 5) (.int 1)) (.call "_law_take" (.cons (.var 0) (.cons (.bin .sub (.var 1) (.int 1)) .nil)))) (.var 1)))
    (.cons (.ex (.app 3 (.tup (.cons (.bf2 .min (.var 5) (.var 6)) (.cons (.bf2 .max (.var 5) (.var 6)) .nil)))))
    .nil))))
    (.cons (.ret (.tup (.cons (.var 1) (.cons (.bf .tuple (.bf .sorted (.var 3))) .nil))))
    .nil)))

def d__law_wishes : Fdef where
  nm := "_law_wishes"
  ps := ["_law_state", "_law_web_here", "_law_most"]
  N := ["_law_state", "_law_web_here", "_law_most", "_law_found", "_law_hand_here", "_law_own", "_law_some", "_law_k", "_law_wish", "_law_tool", "_law_pair"]
  fns := ["_law_take"]
  blt := ["range", "enumerate", "int", "tuple", "len", "sorted"]
  md := [.rw, .ro, .ro]
  body := (.cons (.asg (.n 3) (.lst .nil))
    (.cons (.for_ (.n 4) (.rng1 (.idx (.var 1) (.int 0)))
    (.cons (.asg (.n 5) (.fz (.lc1 [("_law_tool", 9), ("_law_pair", 10)] (.t (.cons (.n 9) (.cons (.n 10) .nil))) (.enum (.idx (.var 1) (.int 1))) (.cmp .in_ (.var 4) (.var 10)) (.var 9))))
    (.cons (.asg (.n 6) (.lst .nil))
    (.cons (.for_ (.n 7) (.rng1 (.bin .mul (.call "_law_take" (.cons (.var 0) (.cons (.bin .add (.var 2) (.int 1)) .nil))) (.bf .int (.cmp .ne (.var 5) (.lst .nil)))))
    (.cons (.asg (.n 8) (.bf .tuple (.lc1 [("_law_tool", 9)] (.n 9) (.e (.var 5)) (.cmp .eq (.call "_law_take" (.cons (.var 0) (.cons (.int 2) .nil))) (.int 0)) (.var 9))))
    (.cons (.ife (.cmp .eq (.var 8) (.tup .nil))
    (.cons (.asg (.n 8) (.tup (.cons (.idx (.var 5) (.call "_law_take" (.cons (.var 0) (.cons (.bf .len (.var 5)) .nil)))) .nil)))
    .nil)
    .nil)
    (.cons (.ife (.cmp .nin (.var 8) (.var 6))
    (.cons (.ex (.app 6 (.var 8)))
    .nil)
    .nil)
    .nil))))
    (.cons (.ex (.app 3 (.bf .tuple (.bf .sorted (.var 6)))))
    .nil)))))
    (.cons (.ret (.bf .tuple (.var 3)))
    .nil)))

local macro_rules | `(tactic| walk_at "omegas") => `(tactic| first | rfl | omega | (simp only [List.length_append, List.length_map, List.length_cons, List.length_nil, List.length_range, List.length_zipIdx]; omega))
local macro_rules | `(tactic| walk_at "w1") => `(tactic| first
  | with_reducible refine pb_add ?_
  | with_reducible refine pb_sub ?_
  | with_reducible refine pc_lt ?_
  | with_reducible refine pc_gt ?_
  | with_reducible refine pc_le ?_
  | with_reducible refine pc_ge ?_
  | with_reducible refine pc_eqi ?_
  | with_reducible refine pc_nei ?_
  | with_reducible refine pif_t ?_
  | with_reducible refine pif_f ?_
  | with_reducible refine pif_not ?_
  | with_reducible refine pb_mod (by first | decide | omega) ?_
  | with_reducible refine pb_fdiv (by first | decide | omega) (by first | decide | omega) ?_
  | with_reducible refine pb_mul (by first | decide | omega) (by first | decide | omega) ?_
  | with_reducible refine pb_pow (by first | decide | omega) ?_
  | with_reducible refine PSide.mk (by walk_at "omegas") ?_
  | with_reducible refine pf2_max ?_
  | with_reducible refine pf2_min ?_
  | with_reducible refine pf_lentm ?_
  | with_reducible refine pf_lendm ?_
  | with_reducible refine pf_lenlm ?_
  | with_reducible refine pf_lent ?_
  | with_reducible refine pf_lend ?_
  | with_reducible refine pf_lenl ?_
  | with_reducible refine pf_tupl ?_
  | with_reducible refine pf_tupd ?_
  | with_reducible refine pf_tupt ?_
  | with_reducible refine pf_lisl ?_
  | with_reducible refine pf_lisd ?_
  | with_reducible refine pf_list ?_
  | with_reducible refine pf_abs ?_
  | with_reducible refine pf_any ?_
  | with_reducible refine pf_all ?_
  | with_reducible refine pc_in2 ?_
  | with_reducible refine pc_nin2 ?_
  | with_reducible refine pc_ini ?_
  | with_reducible refine pc_inil ?_
  | with_reducible refine pc_inid ?_
  | with_reducible refine pc_isb ?_
  | with_reducible refine pc_isnb ?_
  | with_reducible refine pc_eqb ?_
  | with_reducible refine pc_neb ?_
  | with_reducible refine prng (by omega) ?_ (by omega)
  | with_reducible refine pcut_t ?_
  | with_reducible refine pcut_d ?_
  | with_reducible refine pcut_l ?_
  | with_reducible refine PSs.w ?_
  | refine pc_in2 ?_
  | refine pc_nin2 ?_
  | refine PX.mk _ rfl ?_
  | refine PIx.mk _ rfl ?_)
local macro_rules | `(tactic| walk_at "w") => `(tactic| ((conv => whnf); repeat (walk_at "w1"; (conv => whnf))))
def St (b : Int) (xs : List D) : Prop := ∃ s0 s1 s2 : Int, xs = [.int s0, .int s1, .int s2] ∧ 0 ≤ s0 ∧ (0 ≤ s1 ∧ s1 < 2305843009213693951) ∧ 0 ≤ s2 ∧ s2 + b ≤ 1152921504606846976
def Tk (Γ : Gl0) : Prop := ∀ (b : Int) xs (m : Int), St b xs → 1 ≤ b → 0 < m → m ≤ 1000000 → FxS Γ "_law_take" xs [.d (.int m)] fun r xs' => ∃ a : Int, r = .d (.int a) ∧ 0 ≤ a ∧ a < m ∧ St (b - 1) xs'
section
variable {T : Tab} {gl : Str → Option D} {fuel k : Nat}
theorem tk_of (h : T.at_ "_law_take" = some d__law_take) : Tk (Γof T gl fuel (k + 1)) := by
  rintro b xs m ⟨s0, s1, s2, rfl, h0, h1, h2, h3⟩ hb m0 m1
  refine fxs_of h rfl ⟨_, rfl, rfl⟩ rfl ?_
  show PSs _ _ [some (.l [.int s0, .int s1, .int s2]), some (.d (.int m)), none, none] _
  walk_at "w"
  refine pif_dc (fun hp => ?_) (fun hp => ?_)
  · walk_at "w"
    exact ⟨_, rfl, Int.emod_nonneg _ (by omega), Int.emod_lt_of_pos _ m0, s0 / m, s1, s2, rfl, Int.ediv_nonneg h0 (by omega), h1, h2, by omega⟩
  · have g2 : Bd (s2 + 1) 62 := SmI.bd ⟨by omega, by omega⟩
    have a1 : Bd (65537 * (s2 + 1)) (17 + 62) := Bd.mul (m := 17) (Bd.of (by decide) (by decide)) g2
    have a2 : Bd (65537 * (s2 + 1) * (s2 + 1)) (17 + 62 + 62) := a1.mul g2
    have g1 : Bd s1 62 := SmI.bd ⟨by omega, by omega⟩
    have a3 := (g1.mono (n := 17 + 62 + 62) (by decide)).add a2
    have a4 := a3.add (b := 11) (Bd.of (by decide) (by decide))
    have q2 := mulg a1 g2 (by decide)
    have q3 := mulg a4 (n := 17) (Bd.of (a := 48271) (by decide) (by decide)) (by decide)
    walk_at "w"
    refine pb_mulg q2 ?_
    walk_at "w"
    refine pb_mulg q3 ?_
    walk_at "w"
    have bx : Bd ((s1 + 65537 * (s2 + 1) * (s2 + 1) + 11) * 48271 % 2305843009213693921) 62 := Bd.mod (by decide) (Bd.of (by decide) (by decide))
    generalize (s1 + 65537 * (s2 + 1) * (s2 + 1) + 11) * 48271 % 2305843009213693921 = x at bx ⊢
    have b1 : Bd (x % 1000003) 79 := (Bd.mod (n := 20) (by decide) (Bd.of (by decide) (by decide))).mono (by decide)
    have b2 : Bd (99991 * (s2 + 1)) (17 + 62) := Bd.mul (m := 17) (Bd.of (by decide) (by decide)) g2
    refine pb_mulg (mulg bx (b1.add b2) (by decide)) ?_
    walk_at "w"
    exact ⟨_, rfl, Int.emod_nonneg _ (by omega), Int.emod_lt_of_pos _ m0, s0, s1, s2 + 1, rfl, h0, h1, by omega, by omega⟩
theorem pcall_take {Γ : Gl0} {i : Nat} {b m : Int} {xs : List D} {o : O} {ρ : Dn.Env} {K : O → Dn.Env → Prop} (tk : Tk Γ) (hs : St b xs) (hb : 1 ≤ b) (h0 : 0 < m) (h1 : m ≤ 1000000) (k : ∀ a xs', 0 ≤ a → a < m → St (b - 1) xs' → wSet ρ i (some (.l xs')) fun ρ => K (.val (.d (.int a))) ρ) :
    PCall Γ "_law_take" [.var i, o] [.l xs, .d (.int m)] ρ K :=
  pcall_s (tk b xs m hs hb h0 h1) rfl rfl fun r xs' ⟨a, e, p, q, s⟩ => by
    subst e
    exact k a xs' p q s
def Hd (Γ : Gl0) : Prop := ∀ ns : List Int, ns.length ≤ 63 → Fx Γ "_law_hand" [.d (.list (ns.map .int))] fun r => ∃ xs, r = .l xs ∧ St 1152921504606846976 xs
theorem hd_of (h : T.at_ "_law_hand" = some d__law_hand) : Hd (Γof T gl fuel (k + 1)) := by
  intro ns hl
  refine fx_of h rfl rfl ?_
  show PSs _ _ [some (.d (.list (ns.map .int))), none, none, none, none, none] _
  refine .seq (fun ρ => ρ = [some (.d (.list (ns.map .int))), some (.l [.int 0, .int 0, .int 0]), none, none, none, none]) ?_ ?_
  · walk_at "w"
    exact ⟨rfl, rfl⟩
  rintro _ rfl
  have hcl : (cutN ns none (some 63)).length ≤ 63 := Nat.le_trans cutN_len hl
  refine .seq (fun ρ => ∃ s0 o2 o3, 0 ≤ s0 ∧ ρ = [some (.d (.list (ns.map .int))), some (.l [.int s0, .int 0, .int 0]), o2, o3, none, none]) ?_ ?_
  · walk_at "w"
    refine pif_dc (fun hp => ?_) (fun hp => ?_)
    · walk_at "w"
      refine px_d (by omega) (by omega) fun y hy => ?_
      walk_at "w"
      refine pif_dc (fun hq => ?_) (fun hq => ?_)
      · walk_at "w"
        refine pfor_map (fun i ρ => ∃ s0 w o3, 0 ≤ s0 ∧ 0 ≤ w ∧ Bd w (200 * i + 1) ∧ ρ = [some (.d (.list (ns.map .int))), some (.l [.int s0, .int 0, .int 0]), some (.d (.int w)), o3, none, none]) ⟨0, 1, none, by decide, by decide, Bd.of (by decide) (by decide), rfl⟩ ?_ ?_
        · rintro ρ ⟨s0, w, o3, h0, h1, h2, rfl⟩
          exact ⟨rfl, s0, _, o3, h0, rfl⟩
        · rintro j n ρ hj ⟨s0, w, o3, h0, h1, h2, rfl⟩
          have hj' : j < 63 := by
            have := (List.getElem?_eq_some_iff.mp hj).1
            omega
          have p60 : (0 : Int) < 10 ^ 60 := by decide
          have b60 : Bd (10 ^ 60) 200 := Bd.of (by decide +kernel) (by decide +kernel)
          have ba : Bd ((if n < 0 then -n else n) % 10 ^ 60) 200 := Bd.mod p60 b60
          walk_at "w"
          refine pb_mulg (mulg ba h2 (by omega)) ?_
          walk_at "w"
          refine pb_mulg (mulg h2 b60 (by omega)) ?_
          walk_at "w"
          refine ⟨_, _, _, ?_, ?_, ?_, rfl⟩
          · exact Int.add_nonneg h0 (Int.mul_nonneg (Int.emod_nonneg _ (by decide)) h1)
          · exact Int.mul_nonneg h1 (by decide)
          · have := h2.mul b60
            rw [show 200 * (j + 1) + 1 = 200 * j + 1 + 200 by omega]
            exact this
      · walk_at "w"
        exact ⟨rfl, 0, _, _, by decide, rfl⟩
    · walk_at "w"
      exact ⟨rfl, 0, _, _, by decide, rfl⟩
  rintro _ ⟨s0, o2, o3, h0, rfl⟩
  walk_at "w"
  rw [enumD_map]
  refine pfor_map (fun i ρ => ∃ s1 o3 o4 o5, (0 ≤ s1 ∧ s1 < 2305843009213693951) ∧ ρ = [some (.d (.list (ns.map .int))), some (.l [.int s0, .int s1, .int 0]), o2, o3, o4, o5]) ⟨0, o3, none, none, by decide, rfl⟩ ?_ ?_
  · rintro ρ ⟨s1, o3, o4, o5, h1, rfl⟩
    walk_at "w"
    exact ⟨_, rfl, s0, s1, 0, rfl, h0, h1, by decide, by decide⟩
  · rintro j n ρ hj ⟨s1, o3, o4, o5, h1, rfl⟩
    have hj' : (n.2 : Int) < 63 := by
      have := List.getElem?_zipIdx (l := cutN ns none (some 63)) (i := 0) (j := j)
      rw [hj] at this
      have h2 := (List.getElem?_eq_some_iff.mp hj).1
      rw [List.length_zipIdx] at h2
      cases h3 : (cutN ns none (some 63))[j]? with
      | none => rw [h3] at this; cases this
      | some z => rw [h3] at this; cases this; simp; omega
    walk_at "w"
    exact ⟨_, _, _, _, ⟨Int.emod_nonneg _ (by decide), Int.emod_lt_of_pos _ (by decide)⟩, rfl⟩
/-! ### webs -/
abbrev webD (n : Int) (ps : List (Int × Int)) : D := .tuple [.int n, .tuple (ps.map Datum.toD)]
def Pok (n : Int) (p : Int × Int) : Prop := 0 ≤ p.1 ∧ p.1 < p.2 ∧ p.2 < n
structure WebOk (n m : Int) (ps : List (Int × Int)) : Prop where
  ok : ∀ p ∈ ps, Pok n p
  len : ps.length ≤ m
  srt : ps.Pairwise fun a b => leO a b = true
theorem pf_intc {b : Bool} {K : SV → Prop} (k : ∀ v : Int, (b = true ∧ v = 1) ∨ (b = false ∧ v = 0) → K (.d (.int v))) : PF .int (.d (.bool b)) K :=
  ⟨_, rfl, k _ (by cases b <;> simp)⟩
theorem leP (a b : Int × Int) : leO a b = true ↔ a.1 < b.1 ∨ (a.1 = b.1 ∧ a.2 ≤ b.2) := by
  show (!(if b.1 = a.1 then decide (b.2 < a.2) else decide (b.1 < a.1))) = true ↔ _
  by_cases h : b.1 = a.1
  · rw [if_pos h, ← decide_not, decide_eq_true_eq]; omega
  · rw [if_neg h, ← decide_not, decide_eq_true_eq]; omega
theorem srtP_sorted (ps : List (Int × Int)) : (srtO ps).Pairwise fun a b => leO a b = true :=
  List.pairwise_mergeSort (fun a b c h1 h2 => by rw [leP] at *; omega) (fun a b => by rw [Bool.or_eq_true, leP, leP]; omega) ps
def Wb (Γ : Gl0) : Prop := ∀ b xs n m, St b xs → 1000 ≤ b → 1 ≤ n → n ≤ 1000 → 0 ≤ m → m ≤ 100 → FxS Γ "_law_web" xs [.d (.int n), .d (.int m)] fun r xs' => ∃ ps, r = .d (webD n ps) ∧ WebOk n m ps ∧ St (b - 1000) xs'
theorem St.mono {b b' : Int} {xs : List D} (h : St b xs) (l : b' ≤ b) : St b' xs := by
  obtain ⟨s0, s1, s2, e, h0, h1, h2, h3⟩ := h
  exact ⟨s0, s1, s2, e, h0, h1, h2, by omega⟩
theorem wb_of (tk : Tk (Γof T gl fuel k)) (h : T.at_ "_law_web" = some d__law_web) : Wb (Γof T gl fuel (k + 1)) := by
  intro b xs n m hs hb n1 n2 m0 m1
  refine fxs_of h rfl ⟨_, rfl, rfl⟩ rfl ?_
  show PSs _ _ [some (.l xs), some (.d (.int n)), some (.d (.int m)), none, none, none, none] _
  walk_at "w"
  refine pcall_take tk hs (by omega) (by omega) (by omega) fun a x1 a0 a1 s1 => ?_
  walk_at "w"
  refine pf_intc fun v hv => ?_
  have hv2 : 0 ≤ v ∧ v ≤ 1 := by omega
  walk_at "w"
  obtain ⟨r, hr, r0, r1, rn⟩ : ∃ r, a * v = r ∧ 0 ≤ r ∧ r ≤ m ∧ (0 < r → 1 < n) := by
    rcases hv with ⟨h1, rfl⟩ | ⟨h1, rfl⟩
    · exact ⟨a, by omega, by omega, by omega, fun _ => of_decide_eq_true h1⟩
    · exact ⟨0, by omega, by omega, by omega, by omega⟩
  rw [hr]
  walk_at "w"
  refine pfor_rng (fun i ρ => ∃ x2 ps ds o4 o5 o6, ρ = [some (.l x2), some (.d (.int n)), some (.d (.int m)), some (.l ds), o4, o5, o6] ∧ ds = ps.map Datum.toD ∧ (∀ p ∈ ps, Pok n p) ∧ ps.length = i ∧ St (b - 1 - 2 * i) x2) ⟨x1, [], [], none, none, none, rfl, rfl, by simp, rfl, by simpa using s1⟩ ?_ ?_
  · rintro ρ ⟨x2, ps, ds, o4, o5, o6, rfl, rfl, h1, h2, h3⟩
    walk_at "w"
    refine pf_srt ps rfl (by decide) (by omega) (.inl fun _ _ => rfl) ?_
    walk_at "w"
    refine ⟨srtO ps, rfl, ⟨fun p hp => h1 p ((srtO_perm ps).mem_iff.mp hp), by rw [(srtO_perm ps).length_eq]; omega, srtP_sorted ps⟩, h3.mono (by omega)⟩
  · rintro j ρ hj ⟨x2, ps, ds, o4, o5, o6, rfl, rfl, h1, h2, h3⟩
    have hn := rn (by omega)
    walk_at "w"
    refine pcall_take tk h3 (by omega) (by omega) (by omega) fun c x3 c0 c1 s3 => ?_
    walk_at "w"
    refine pcall_take tk s3 (by omega) (by omega) (by omega) fun d x4 d0 d1 s4 => ?_
    walk_at "w"
    have hlt := Int.emod_lt_of_pos (c + 1 + d) (show 0 < n by omega)
    have hge := Int.emod_nonneg (c + 1 + d) (show n ≠ 0 by omega)
    have hne : (c + 1 + d) % n ≠ c := fun z => by
      rcases Int.lt_or_le (c + 1 + d) n with q | q
      · rw [Int.emod_eq_of_lt (by omega) q] at z
        omega
      · have : (c + 1 + d) % n = c + 1 + d - n := by
          rw [← Int.sub_emod_right (c + 1 + d) n]
          exact Int.emod_eq_of_lt (by omega) (by omega)
        omega
    refine ⟨_, ps ++ [(min c ((c + 1 + d) % n), max c ((c + 1 + d) % n))], _, _, _, _, rfl, by rw [List.map_append]; rfl, ?_, by simp [h2], s4.mono (by omega)⟩
    intro p hp
    rcases List.mem_append.mp hp with z | z
    · exact h1 p z
    · rw [List.mem_singleton.mp z]
      unfold Pok
      simp only
      omega
end
end Dn

set_option Elab.async false
set_option linter.all false
set_option maxRecDepth 100000
set_option maxHeartbeats 4000000
/-! Dn, part Y1: wishes -/
namespace Dn
open PySem PySem.Spec PyProof.Rows
open PySem.W (Datum DatumOrd Tup T3 T4)
local macro_rules | `(tactic| walk_at "omegas") => `(tactic| first | rfl | omega | (simp only [List.length_append, List.length_map, List.length_cons, List.length_nil, List.length_range, List.length_zipIdx]; omega))
local macro_rules | `(tactic| walk_at "w1") => `(tactic| first
  | with_reducible refine pb_add ?_
  | with_reducible refine pb_sub ?_
  | with_reducible refine pc_lt ?_
  | with_reducible refine pc_gt ?_
  | with_reducible refine pc_le ?_
  | with_reducible refine pc_ge ?_
  | with_reducible refine pc_eqi ?_
  | with_reducible refine pc_nei ?_
  | with_reducible refine pif_t ?_
  | with_reducible refine pif_f ?_
  | with_reducible refine pif_not ?_
  | with_reducible refine pb_mod (by first | decide | omega) ?_
  | with_reducible refine pb_fdiv (by first | decide | omega) (by first | decide | omega) ?_
  | with_reducible refine pb_mul (by first | decide | omega) (by first | decide | omega) ?_
  | with_reducible refine pb_pow (by first | decide | omega) ?_
  | with_reducible refine PSide.mk (by walk_at "omegas") ?_
  | with_reducible refine pf2_max ?_
  | with_reducible refine pf2_min ?_
  | with_reducible refine pf_lentm ?_
  | with_reducible refine pf_lendm ?_
  | with_reducible refine pf_lenlm ?_
  | with_reducible refine pf_lent ?_
  | with_reducible refine pf_lend ?_
  | with_reducible refine pf_lenl ?_
  | with_reducible refine pf_tupl ?_
  | with_reducible refine pf_tupd ?_
  | with_reducible refine pf_tupt ?_
  | with_reducible refine pf_lisl ?_
  | with_reducible refine pf_lisd ?_
  | with_reducible refine pf_list ?_
  | with_reducible refine pf_abs ?_
  | with_reducible refine pf_any ?_
  | with_reducible refine pf_all ?_
  | with_reducible refine pc_in2 ?_
  | with_reducible refine pc_nin2 ?_
  | with_reducible refine pc_ini ?_
  | with_reducible refine pc_inil ?_
  | with_reducible refine pc_inid ?_
  | with_reducible refine pc_isb ?_
  | with_reducible refine pc_isnb ?_
  | with_reducible refine pc_eqb ?_
  | with_reducible refine pc_neb ?_
  | with_reducible refine prng (by omega) ?_ (by omega)
  | with_reducible refine pcut_t ?_
  | with_reducible refine pcut_d ?_
  | with_reducible refine pcut_l ?_
  | with_reducible refine PSs.w ?_
  | refine pc_in2 ?_
  | refine pc_nin2 ?_
  | refine PX.mk _ rfl ?_
  | refine PIx.mk _ rfl ?_)
local macro_rules | `(tactic| walk_at "w") => `(tactic| ((conv => whnf); repeat (walk_at "w1"; (conv => whnf))))

/-! ### tuples of ints -/
abbrev itD (w : List Int) : D := .tuple (w.map .int)
abbrev wsD (ws : List (List Int)) : D := .tuple (ws.map itD)
abbrev fsD (fs : List (List (List Int))) : D := .tuple (fs.map wsD)
def leW (a b : List Int) : Bool := !PySem.W.listLt b a
def srtW (ws : List (List Int)) : List (List Int) := ws.mergeSort leW
theorem map_it (ws : List (List Int)) : ws.map itD = (ws.map Tup.mk).map (Datum.toD (α := Tup Int)) := by
  rw [List.map_map]
  rfl
theorem mem_mk {w : List Int} {ws : List (List Int)} : (⟨w⟩ : Tup Int) ∈ ws.map Tup.mk ↔ w ∈ ws := by
  constructor
  · intro h
    obtain ⟨v, h1, h2⟩ := List.mem_map.mp h
    cases h2
    exact h1
  · exact fun h => List.mem_map.mpr ⟨w, h, rfl⟩
section
variable {K : SV → Prop} {a b w : List Int} {ws : List (List Int)}
theorem pc_eqw (k : K (.d (.bool (decide (a = b))))) : PC .eq (.d (itD a)) (.d (itD b)) K :=
  pc_eqt (α := Tup Int) ⟨a⟩ ⟨b⟩ (by decide) rfl rfl (by rw [show decide ((⟨a⟩ : Tup Int) = ⟨b⟩) = decide (a = b) from decide_eq_decide.mpr (by simp)]; exact k)
theorem pc_eqw0 (k : K (.d (.bool (decide (a = []))))) : PC .eq (.d (itD a)) (.d (.tuple [])) K := pc_eqw (b := []) k
theorem pc_new0 (k : K (.d (.bool (decide (a ≠ []))))) : PC .ne (.d (itD a)) (.d (.tuple [])) K :=
  pc_net (α := Tup Int) ⟨a⟩ ⟨[]⟩ (by decide) rfl rfl (by rw [show decide ((⟨a⟩ : Tup Int) ≠ ⟨[]⟩) = decide (a ≠ []) from decide_eq_decide.mpr (by simp)]; exact k)
theorem pc_neld (k : K (.d (.bool (decide (a ≠ []))))) : PC .ne (.d (.list (a.map .int))) (.l []) K :=
  pc_net (α := List Int) a [] (by decide) rfl rfl k
theorem pc_ninw (k : K (.d (.bool (decide (w ∉ ws))))) : PC .nin (.d (itD w)) (.l (ws.map itD)) K :=
  pc_nint (α := Tup Int) ⟨w⟩ (ws.map Tup.mk) (by decide) rfl (by show R.ok _ = _; rw [map_it]) (fun _ e => by cases e)
    (by rw [show decide ((⟨w⟩ : Tup Int) ∉ ws.map Tup.mk) = decide (w ∉ ws) from decide_eq_decide.mpr (not_congr mem_mk)]; exact k)
theorem pc_inwt (k : K (.d (.bool (decide (w ∈ ws))))) : PC .in_ (.d (itD w)) (.d (.tuple (ws.map itD))) K :=
  pc_int (α := Tup Int) ⟨w⟩ (ws.map Tup.mk) (by decide) rfl (by show R.ok _ = _; rw [map_it]) (fun _ e => by cases e)
    (by rw [show decide ((⟨w⟩ : Tup Int) ∈ ws.map Tup.mk) = decide (w ∈ ws) from decide_eq_decide.mpr mem_mk]; exact k)
theorem pf_srtw {s : SV} (hs : items s = .ok (ws.map itD)) (hl : ws.length ≤ 16777216) (hn : ∀ w ∈ ws, w ≠ []) (k : K (.l ((srtW ws).map itD))) : PF .sorted s K := by
  refine pf_srt (ws.map Tup.mk) (by rw [hs, map_it]) (by decide) (by rw [List.length_map]; exact hl) (.inl fun x hx => ?_) ?_
  · obtain ⟨w, h1, rfl⟩ := List.mem_map.mp hx
    cases w with
    | nil => exact absurd rfl (hn _ h1)
    | cons y w => rfl
  · have e : srtO (ws.map Tup.mk) = (srtW ws).map Tup.mk := by
      unfold srtO srtW
      exact (List.map_mergeSort (f := Tup.mk) (r := leW) (s := leO) fun a _ b _ => rfl).symm
    rw [e, ← map_it]
    exact k
end
theorem srtW_perm (ws : List (List Int)) : (srtW ws).Perm ws := List.mergeSort_perm ws _
theorem ltW_irr : ∀ a : List Int, PySem.W.listLt a a = false
  | [] => rfl
  | x :: a => by
    rw [PySem.W.listLt, if_pos rfl]
    exact ltW_irr a
theorem ltW_cons (x y : Int) (a b : List Int) : PySem.W.listLt (x :: a) (y :: b) = true ↔ x < y ∨ (x = y ∧ PySem.W.listLt a b = true) := by
  rw [PySem.W.listLt]
  by_cases h : x = y
  · rw [if_pos h]
    exact ⟨fun q => .inr ⟨h, q⟩, fun q => q.elim (fun z => by omega) fun z => z.2⟩
  · rw [if_neg h]
    show decide (x < y) = true ↔ _
    rw [decide_eq_true_eq]
    exact ⟨.inl, fun q => q.elim id fun z => absurd z.1 h⟩
theorem ltW_tri : ∀ a b : List Int, PySem.W.listLt a b = true ∨ a = b ∨ PySem.W.listLt b a = true
  | [], [] => .inr (.inl rfl)
  | [], _ :: _ => .inl rfl
  | _ :: _, [] => .inr (.inr rfl)
  | x :: a, y :: b => by
    rw [ltW_cons, ltW_cons]
    rcases ltW_tri a b with h | h | h
    · rcases Int.lt_trichotomy x y with q | q | q
      · exact .inl (.inl q)
      · exact .inl (.inr ⟨q, h⟩)
      · exact .inr (.inr (.inl q))
    · rcases Int.lt_trichotomy x y with q | q | q
      · exact .inl (.inl q)
      · exact .inr (.inl (by rw [q, h]))
      · exact .inr (.inr (.inl q))
    · rcases Int.lt_trichotomy x y with q | q | q
      · exact .inl (.inl q)
      · exact .inr (.inr (.inr ⟨q.symm, h⟩))
      · exact .inr (.inr (.inl q))
theorem ltW_trans : ∀ a b c : List Int, PySem.W.listLt a b = true → PySem.W.listLt b c = true → PySem.W.listLt a c = true
  | [], [], _, h, _ => by cases h
  | [], _ :: _, [], _, h => by cases h
  | [], _ :: _, _ :: _, _, _ => rfl
  | _ :: _, [], _, h, _ => by cases h
  | _ :: _, _ :: _, [], _, h => by cases h
  | x :: a, y :: b, z :: c, h1, h2 => by
    rw [ltW_cons] at *
    rcases h1 with h1 | ⟨h1, h3⟩ <;> rcases h2 with h2 | ⟨h2, h4⟩
    · exact .inl (by omega)
    · exact .inl (by omega)
    · exact .inl (by omega)
    · exact .inr ⟨by omega, ltW_trans a b c h3 h4⟩
theorem leW_iff (a b : List Int) : leW a b = true ↔ PySem.W.listLt a b = true ∨ a = b := by
  unfold leW
  rw [Bool.not_eq_true']
  constructor
  · intro h
    rcases ltW_tri a b with q | q | q
    · exact .inl q
    · exact .inr q
    · rw [h] at q; cases q
  · rintro (h | rfl)
    · cases q : PySem.W.listLt b a with
      | false => rfl
      | true => have := ltW_trans _ _ _ h q; rw [ltW_irr] at this; cases this
    · exact ltW_irr _
theorem srtW_sorted (ws : List (List Int)) : (srtW ws).Pairwise fun a b => leW a b = true :=
  List.pairwise_mergeSort (fun a b c h1 h2 => by
    rw [leW_iff] at *
    rcases h1 with h1 | rfl
    · rcases h2 with h2 | rfl
      · exact .inl (ltW_trans _ _ _ h1 h2)
      · exact .inl h1
    · exact h2) (fun a b => by
    rw [Bool.or_eq_true, leW_iff, leW_iff]
    rcases ltW_tri a b with q | q | q
    · exact .inl (.inl q)
    · exact .inl (.inr q)
    · exact .inr (.inl q)) ws
/-! ### a hand's tools -/
def inP (h : Int) (p : Int × Int) : Bool := decide (h = p.1 ∨ h = p.2)
def ownT (ps : List (Int × Int)) (h : Int) : List Int := (ps.zipIdx.filter fun q => inP h q.1).map fun q => (q.2 : Int)
theorem ownT_len (ps : List (Int × Int)) (h : Int) : (ownT ps h).length ≤ ps.length := by
  unfold ownT
  rw [List.length_map]
  exact Nat.le_trans (List.length_filter_le _ _) (by rw [List.length_zipIdx]; exact Nat.le_refl _)
theorem zip_rise {α : Type} : ∀ (ps : List α) (k : Nat), (ps.zipIdx k).Pairwise fun a b => a.2 < b.2
  | [], _ => .nil
  | p :: ps, k => by
    rw [List.zipIdx_cons, List.pairwise_cons]
    refine ⟨fun q hq => ?_, zip_rise ps (k + 1)⟩
    have := List.mem_zipIdx hq
    simp
    omega
theorem ownT_rise (ps : List (Int × Int)) (h : Int) : (ownT ps h).Pairwise (· < ·) := by
  unfold ownT
  rw [List.pairwise_map]
  exact ((zip_rise ps 0).filter _).imp fun h => by omega
theorem ownT_nodup (ps : List (Int × Int)) (h : Int) : (ownT ps h).Nodup := (ownT_rise ps h).imp fun h => by omega
theorem ownT_mem (ps : List (Int × Int)) (h t : Int) : t ∈ ownT ps h ↔ ∃ (i : Nat) (p : Int × Int), t = i ∧ ps[i]? = some p ∧ inP h p = true := by
  unfold ownT
  rw [List.mem_map]
  constructor
  · rintro ⟨⟨p, i⟩, h1, rfl⟩
    obtain ⟨h1, h2⟩ := List.mem_filter.mp h1
    exact ⟨i, p, rfl, List.mem_zipIdx_iff_getElem?.mp h1, h2⟩
  · rintro ⟨i, p, rfl, h1, h2⟩
    exact ⟨(p, i), List.mem_filter.mpr ⟨List.mem_zipIdx_iff_getElem?.mpr h1, h2⟩, rfl⟩
structure WishesOk (n m : Int) (ps : List (Int × Int)) (fs : List (List (List Int))) : Prop where
  len : (fs.length : Int) = n
  most : ∀ ws ∈ fs, ws.length ≤ m
  srt : ∀ ws ∈ fs, ws.Pairwise fun a b => leW a b = true
  nod : ∀ ws ∈ fs, ws.Nodup
  ne : ∀ ws ∈ fs, ∀ w ∈ ws, w ≠ []
  own : ∀ (h : Nat) ws, fs[h]? = some ws → ∀ w ∈ ws, w.Sublist (ownT ps h)
def Ws (Γ : Gl0) : Prop := ∀ b xs n m ps, St b xs → 20000 ≤ b → 0 ≤ n → n ≤ 10 → 0 ≤ m → m ≤ 10 → ps.length ≤ 100 → FxS Γ "_law_wishes" xs [.d (webD n ps), .d (.int m)] fun r xs' => ∃ fs, r = .d (fsD fs) ∧ WishesOk n m ps fs ∧ St (b - 20000) xs'
section
variable {T : Tab} {gl : Str → Option D} {fuel k : Nat}
theorem ws_of (tk : Tk (Γof T gl fuel k)) (h : T.at_ "_law_wishes" = some d__law_wishes) : Ws (Γof T gl fuel (k + 1)) := by
  intro b xs n m ps hs hb n0 n1 m0 m1 hp
  refine fxs_of h rfl ⟨_, rfl, rfl⟩ rfl ?_
  show PSs _ _ [some (.l xs), some (.d (webD n ps)), some (.d (.int m)), none, none, none, none, none, none, none, none] _
  walk_at "w"
  refine pfor_rng (fun i ρ => ∃ x2 fs ds o4 o5 o6 o7 o8, ρ = [some (.l x2), some (.d (webD n ps)), some (.d (.int m)), some (.l ds), o4, o5, o6, o7, o8, none, none] ∧ ds = fs.map wsD ∧ WishesOk i m ps fs ∧ St (b - 1100 * i) x2)
    ⟨xs, [], [], none, none, none, none, none, rfl, rfl, ⟨rfl, by simp, by simp, by simp, by simp, by simp⟩, by simpa using hs⟩ ?_ ?_
  · rintro ρ ⟨x2, fs, ds, o4, o5, o6, o7, o8, rfl, rfl, hw, h3⟩
    walk_at "w"
    refine ⟨fs, rfl, ?_, h3.mono (by omega)⟩
    rw [show ((n.toNat : Nat) : Int) = n by omega] at hw
    exact hw
  · rintro j ρ hj ⟨x2, fs, ds, o4, o5, o6, o7, o8, rfl, rfl, hw, h3⟩
    have hfl := hw.len
    walk_at "w"
    rw [enumD_map]
    refine lc1_map (fun q => inP j q.1) (fun q => .int q.2) (by rw [List.length_zipIdx]; omega) ?_ ?_
    · rintro ⟨⟨a, c⟩, i⟩ _
      walk_at "w"
      refine ⟨rfl, fun _ => ?_, fun _ => ?_⟩
      · walk_at "w"
        exact ⟨rfl, rfl⟩
      · walk_at "w"
    rw [show (ps.zipIdx.filter fun q => inP j q.1).map (fun q => PyData.int q.2) = (ownT ps j).map .int by unfold ownT; rw [List.map_map]; rfl]
    have hol := ownT_len ps j
    walk_at "w"
    refine pcall_take tk h3 (by omega) (by omega) (by omega) fun a x3 a0 a1 s3 => ?_
    walk_at "w"
    refine pc_neld ?_
    walk_at "w"
    refine pf_intc fun v hv => ?_
    have hv2 : 0 ≤ v ∧ v ≤ 1 := by omega
    walk_at "w"
    obtain ⟨r, hr, r0, r1, rn⟩ : ∃ r, a * v = r ∧ 0 ≤ r ∧ r ≤ m ∧ (0 < r → ownT ps j ≠ []) := by
      rcases hv with ⟨h1, rfl⟩ | ⟨h1, rfl⟩
      · exact ⟨a, by omega, by omega, by omega, fun _ => of_decide_eq_true h1⟩
      · exact ⟨0, by omega, by omega, by omega, by omega⟩
    rw [hr]
    walk_at "w"
    refine pfor_rng (fun i ρ => ∃ x4 ws ds o7 o8, ρ = [some (.l x4), some (.d (webD n ps)), some (.d (.int m)), some (.l (fs.map wsD)), some (.d (.int j)), some (.d (.list ((ownT ps j).map .int))), some (.l ds), o7, o8, none, none] ∧ ds = ws.map itD ∧
        ws.Nodup ∧ (∀ w ∈ ws, w ≠ [] ∧ w.Sublist (ownT ps j)) ∧ ws.length ≤ i ∧ St (b - 1100 * j - 1 - 102 * i) x4) ⟨x3, [], [], o7, o8, rfl, rfl, by simp, by simp, by simp, by simpa using s3⟩ ?_ ?_
    · rintro ρ ⟨x4, ws, ds, o7, o8, rfl, rfl, h4, h5, h6, s4⟩
      walk_at "w"
      refine pf_srtw rfl (by omega) (fun w hw => (h5 w hw).1) ?_
      walk_at "w"
      have pm := srtW_perm ws
      have last : ∀ us, us ∈ fs ++ [srtW ws] → us ∈ fs ∨ us = srtW ws := fun us h => by simpa using h
      refine ⟨x4, fs ++ [srtW ws], _, _, _, _, _, _, rfl, by rw [List.map_append]; rfl, ⟨by simp; omega, ?_, ?_, ?_, ?_, ?_⟩, s4.mono (by omega)⟩
      · intro us hu
        rcases last us hu with z | rfl
        · exact hw.most us z
        · rw [pm.length_eq]; omega
      · intro us hu
        rcases last us hu with z | rfl
        · exact hw.srt us z
        · exact srtW_sorted ws
      · intro us hu
        rcases last us hu with z | rfl
        · exact hw.nod us z
        · exact pm.nodup_iff.mpr h4
      · intro us hu w hw2
        rcases last us hu with z | rfl
        · exact hw.ne us z w hw2
        · exact (h5 w (pm.mem_iff.mp hw2)).1
      · intro h us hu w hw2
        rcases Nat.lt_or_ge h fs.length with z | z
        · rw [List.getElem?_append_left z] at hu
          exact hw.own h us hu w hw2
        · rw [List.getElem?_append_right z] at hu
          have e : h - fs.length = 0 := by
            rcases Nat.eq_zero_or_pos (h - fs.length) with q | q
            · exact q
            · rw [List.getElem?_eq_none (by simp; omega)] at hu; cases hu
          rw [e] at hu
          cases hu
          rw [show (h : Int) = j by omega]
          exact (h5 w (pm.mem_iff.mp hw2)).2
    · rintro i ρ hi ⟨x4, ws, ds, o7, o8, rfl, rfl, h4, h5, h6, s4⟩
      have hne := rn (by omega)
      (conv => whnf)
      refine .seq (fun ρ => ∃ x5 w, ρ = [some (.l x5), some (.d (webD n ps)), some (.d (.int m)), some (.l (fs.map wsD)), some (.d (.int j)), some (.d (.list ((ownT ps j).map .int))), some (.l (ws.map itD)), some (.d (.int i)), some (.d (itD w)), none, none] ∧ w.Sublist (ownT ps j) ∧ St (b - 1100 * j - 1 - 102 * i - 101) x5) ?_ ?_
      · walk_at "w"
        refine lc1_inv (fun q acc ρ => ∃ x5 w, ρ = [some (.l x5), some (.d (webD n ps)), some (.d (.int m)), some (.l (fs.map wsD)), some (.d (.int j)), some (.d (.list ((ownT ps j).map .int))), some (.l (ws.map itD)), some (.d (.int i)), o8, none, none] ∧ acc = w.map .int ∧ w.Sublist ((ownT ps j).take q) ∧ St (b - 1100 * j - 1 - 102 * i - q) x5)
          ⟨x4, [], rfl, rfl, by simp, by simpa using s4⟩ (by omega) ?_ ?_
        · rintro r ρ ⟨x5, w, rfl, rfl, hw1, s5⟩
          walk_at "w"
          rw [List.take_length] at hw1
          exact ⟨rfl, x5, w, rfl, hw1, s5.mono (by omega)⟩
        · rintro q t acc ρ hq ⟨x5, w, rfl, rfl, hw1, s5⟩
          have hql := (List.getElem?_eq_some_iff.mp hq).1
          walk_at "w"
          refine pcall_take tk s5 (by omega) (by omega) (by omega) fun c x6 c0 c1 s6 => ?_
          walk_at "w"
          refine pif_dc (fun hc => ?_) (fun hc => ?_)
          · walk_at "w"
            exact ⟨_, w ++ [t], rfl, by rw [List.map_append]; rfl, by rw [take_snoc hq]; exact hw1.append (List.Sublist.refl _), s6.mono (by omega)⟩
          · walk_at "w"
            exact ⟨_, w, rfl, rfl, by rw [take_snoc hq]; exact hw1.trans (List.sublist_append_left _ _), s6.mono (by omega)⟩
      rintro _ ⟨x5, w, rfl, hw1, s5⟩
      refine .seq (fun ρ => ∃ x5 w, ρ = [some (.l x5), some (.d (webD n ps)), some (.d (.int m)), some (.l (fs.map wsD)), some (.d (.int j)), some (.d (.list ((ownT ps j).map .int))), some (.l (ws.map itD)), some (.d (.int i)), some (.d (itD w)), none, none] ∧ w ≠ [] ∧ w.Sublist (ownT ps j) ∧ St (b - 1100 * j - 1 - 102 * i - 102) x5) ?_ ?_
      · walk_at "w"
        refine pc_eqw0 ?_
        walk_at "w"
        refine pif_dc (fun hc => ?_) (fun hc => ?_)
        · have hp := List.length_pos_iff.mpr hne
          walk_at "w"
          refine pcall_take tk s5 (by omega) (by omega) (by omega) fun c x6 c0 c1 s6 => ?_
          walk_at "w"
          refine px_d (by omega) (by omega) fun y hy => ?_
          walk_at "w"
          exact ⟨rfl, _, [y], rfl, by simp, List.singleton_sublist.mpr (List.mem_of_getElem? hy), s6.mono (by omega)⟩
        · walk_at "w"
          exact ⟨rfl, x5, w, rfl, hc, hw1, s5.mono (by omega)⟩
      rintro _ ⟨x5, w, rfl, hw0, hw1, s5⟩
      walk_at "w"
      refine pc_ninw ?_
      walk_at "w"
      refine pif_dc (fun hc => ?_) (fun hc => ?_)
      · walk_at "w"
        refine ⟨x5, ws ++ [w], _, _, _, rfl, by rw [List.map_append]; rfl, ?_, ?_, by simp; omega, s5.mono (by omega)⟩
        · rw [List.nodup_append]
          exact ⟨h4, by simp, fun a ha b hb => by rw [List.mem_singleton.mp hb]; exact fun e => hc (e ▸ ha)⟩
        · intro v hv
          rcases List.mem_append.mp hv with z | z
          · exact h5 v z
          · rw [List.mem_singleton.mp z]; exact ⟨hw0, hw1⟩
      · walk_at "w"
        exact ⟨x5, ws, _, _, _, rfl, rfl, h4, h5, by omega, s5.mono (by omega)⟩
/-! ### clash -/
def clashN (a b : List Int) : Bool := a.any fun x => decide (x ∈ b)
theorem cl_of (h : T.at_ "clash" = some d_clash) (a b : List Int) (hl : a.length ≤ 1000) : Fx (Γof T gl fuel (k + 1)) "clash" [.d (itD a), .d (itD b)] fun r => r = .d (.bool (clashN a b)) := by
  refine fx_of h rfl rfl ?_
  show PSs _ _ [some (.d (itD a)), some (.d (itD b)), none] _
  walk_at "w"
  refine lc0_map (fun x => .bool (decide (x ∈ b))) (by omega) ?_ ?_
  · intro x _
    walk_at "w"
    exact ⟨rfl, rfl⟩
  walk_at "w"
  rfl
end
end Dn

set_option Elab.async false
set_option linter.all false
set_option maxRecDepth 100000
set_option maxHeartbeats 4000000
namespace Dn
open PySem PySem.Spec PyProof.Rows
open PySem.W (Datum DatumOrd Tup T3 T4)
def d_is_whole : Fdef where
  nm := "is_whole"
  ps := ["thing"]
  N := ["thing"]
  fns := []
  blt := ["isinstance", "int", "bool"]
  md := [.ro]
  body := (.cons (.ret (.and (.isi .int (.var 0)) (.not (.isi .bool (.var 0)))))
    .nil)

def d_is_between : Fdef where
  nm := "is_between"
  ps := ["thing", "least", "most"]
  N := ["thing", "least", "most"]
  fns := ["is_whole"]
  blt := []
  md := [.ro, .ro, .ro]
  body := (.cons (.ret (.and (.call "is_whole" (.cons (.var 0) .nil)) (.chain .le .le (.var 1) (.var 0) (.var 2))))
    .nil)

def d_is_tool : Fdef where
  nm := "is_tool"
  ps := ["thing", "many"]
  N := ["thing", "many", "one"]
  fns := ["is_between"]
  blt := ["isinstance", "tuple", "len", "all"]
  md := [.ro, .ro]
  body := (.cons (.ife (.or (.not (.isi .tuple (.var 0))) (.or (.cmp .ne (.bf .len (.var 0)) (.int 2)) (.not (.bf .all (.lc0 [("one", 2)] (.n 2) (.e (.var 0)) (.call "is_between" (.cons (.var 2) (.cons (.int 0) (.cons (.bin .sub (.var 1) (.int 1)) .nil)))))))))
    (.cons (.ret (.bl false))
    .nil)
    .nil)
    (.cons (.ret (.cmp .lt (.idx (.var 0) (.int 0)) (.idx (.var 0) (.int 1))))
    .nil))

def d_is_web : Fdef where
  nm := "is_web"
  ps := ["thing"]
  N := ["thing", "many", "tools", "tool"]
  fns := ["is_between", "is_tool"]
  blt := ["isinstance", "tuple", "len", "all", "list", "sorted"]
  md := [.ro]
  body := (.cons (.ife (.or (.not (.isi .tuple (.var 0))) (.or (.cmp .ne (.bf .len (.var 0)) (.int 2)) (.not (.call "is_between" (.cons (.idx (.var 0) (.int 0)) (.cons (.int 1) (.cons (.glob "MOST_HANDS") .nil)))))))
    (.cons (.ret (.bl false))
    .nil)
    .nil)
    (.cons (.asg (.t (.cons (.n 1) (.cons (.n 2) .nil))) (.var 0))
    (.cons (.ife (.or (.not (.isi .tuple (.var 2))) (.or (.cmp .gt (.bf .len (.var 2)) (.glob "MOST_TOOLS")) (.not (.bf .all (.lc0 [("tool", 3)] (.n 3) (.e (.var 2)) (.call "is_tool" (.cons (.var 3) (.cons (.var 1) .nil))))))))
    (.cons (.ret (.bl false))
    .nil)
    .nil)
    (.cons (.ret (.cmp .eq (.bf .list (.var 2)) (.bf .sorted (.var 2))))
    .nil))))

def d__law_whole : Fdef where
  nm := "_law_whole"
  ps := ["_law_thing", "_law_least", "_law_most"]
  N := ["_law_thing", "_law_least", "_law_most"]
  fns := []
  blt := ["isinstance", "int", "bool"]
  md := [.ro, .ro, .ro]
  body := (.cons (.ret (.and (.isi .int (.var 0)) (.and (.not (.isi .bool (.var 0))) (.chain .le .le (.var 1) (.var 0) (.var 2)))))
    .nil)

local macro_rules | `(tactic| walk_at "omegas") => `(tactic| first | rfl | omega | (simp only [List.length_append, List.length_map, List.length_cons, List.length_nil, List.length_range, List.length_zipIdx, List.length_reverse, List.length_replicate]; omega))
local macro_rules | `(tactic| walk_at "v1") => `(tactic| first
  | with_reducible refine pb_add ?_
  | with_reducible refine pb_sub ?_
  | with_reducible refine pc_lt ?_
  | with_reducible refine pc_gt ?_
  | with_reducible refine pc_le ?_
  | with_reducible refine pc_ge ?_
  | with_reducible refine pc_eqi ?_
  | with_reducible refine pc_nei ?_
  | with_reducible refine pif_t ?_
  | with_reducible refine pif_f ?_
  | with_reducible refine pif_not ?_
  | with_reducible refine pb_mod (by first | decide | omega) ?_
  | with_reducible refine pb_fdiv (by first | decide | omega) (by first | decide | omega) ?_
  | with_reducible refine pb_mul (by first | decide | omega) (by first | decide | omega) ?_
  | with_reducible refine pb_pow (by first | decide | omega) ?_
  | with_reducible refine pb_addt (by walk_at "omegas") ?_
  | with_reducible refine pb_addl (by walk_at "omegas") ?_
  | with_reducible refine PSide.mk (by walk_at "omegas") ?_
  | with_reducible refine pf2_max ?_
  | with_reducible refine pf2_min ?_
  | with_reducible refine pf_lentm ?_
  | with_reducible refine pf_lendm ?_
  | with_reducible refine pf_lenlm ?_
  | with_reducible refine pf_lent ?_
  | with_reducible refine pf_lend ?_
  | with_reducible refine pf_lenl ?_
  | with_reducible refine pf_tupl ?_
  | with_reducible refine pf_tupd ?_
  | with_reducible refine pf_tupt ?_
  | with_reducible refine pf_lisl ?_
  | with_reducible refine pf_lisd ?_
  | with_reducible refine pf_list ?_
  | with_reducible refine pf_abs ?_
  | with_reducible refine pf_any ?_
  | with_reducible refine pf_all ?_
  | with_reducible refine pc_in2 ?_
  | with_reducible refine pc_nin2 ?_
  | with_reducible refine pc_ini ?_
  | with_reducible refine pc_inil ?_
  | with_reducible refine pc_inid ?_
  | with_reducible refine pc_isb ?_
  | with_reducible refine pc_isnb ?_
  | with_reducible refine pc_eqb ?_
  | with_reducible refine pc_neb ?_
  | with_reducible refine prng (by omega) ?_ (by omega)
  | with_reducible refine prev_t ?_
  | with_reducible refine prev_l ?_
  | with_reducible refine pf_lrng (by omega) (by omega) ?_
  | with_reducible refine pf_trng (by omega) (by omega) ?_
  | with_reducible refine PSs.w ?_
  | refine pc_in2 ?_
  | refine pc_nin2 ?_
  | refine PX.mk _ rfl ?_
  | refine PIx.mk _ rfl ?_)
local macro_rules | `(tactic| walk_at "v") => `(tactic| ((conv => whnf); repeat (walk_at "v1"; (conv => whnf))))
local macro_rules | `(tactic| walk_at "w1") => `(tactic| first
  | with_reducible refine pb_add ?_
  | with_reducible refine pb_sub ?_
  | with_reducible refine pc_lt ?_
  | with_reducible refine pc_gt ?_
  | with_reducible refine pc_le ?_
  | with_reducible refine pc_ge ?_
  | with_reducible refine pc_eqi ?_
  | with_reducible refine pc_nei ?_
  | with_reducible refine pif_t ?_
  | with_reducible refine pif_f ?_
  | with_reducible refine pif_not ?_
  | with_reducible refine pb_mod (by first | decide | omega) ?_
  | with_reducible refine pb_fdiv (by first | decide | omega) (by first | decide | omega) ?_
  | with_reducible refine pb_mul (by first | decide | omega) (by first | decide | omega) ?_
  | with_reducible refine pb_pow (by first | decide | omega) ?_
  | with_reducible refine pb_addt (by walk_at "omegas") ?_
  | with_reducible refine pb_addl (by walk_at "omegas") ?_
  | with_reducible refine PSide.mk (by walk_at "omegas") ?_
  | with_reducible refine pf2_max ?_
  | with_reducible refine pf2_min ?_
  | with_reducible refine pf_lentm ?_
  | with_reducible refine pf_lendm ?_
  | with_reducible refine pf_lenlm ?_
  | with_reducible refine pf_lent ?_
  | with_reducible refine pf_lend ?_
  | with_reducible refine pf_lenl ?_
  | with_reducible refine pf_tupl ?_
  | with_reducible refine pf_tupd ?_
  | with_reducible refine pf_tupt ?_
  | with_reducible refine pf_lisl ?_
  | with_reducible refine pf_lisd ?_
  | with_reducible refine pf_list ?_
  | with_reducible refine pf_abs ?_
  | with_reducible refine pf_any ?_
  | with_reducible refine pf_all ?_
  | with_reducible refine pc_in2 ?_
  | with_reducible refine pc_nin2 ?_
  | with_reducible refine pc_ini ?_
  | with_reducible refine pc_inil ?_
  | with_reducible refine pc_inid ?_
  | with_reducible refine pc_isb ?_
  | with_reducible refine pc_isnb ?_
  | with_reducible refine pc_eqb ?_
  | with_reducible refine pc_neb ?_
  | with_reducible refine prng (by omega) ?_ (by omega)
  | with_reducible refine prev_t ?_
  | with_reducible refine prev_l ?_
  | with_reducible refine pf_lrng (by omega) (by omega) ?_
  | with_reducible refine pf_trng (by omega) (by omega) ?_
  | with_reducible refine PSs.w ?_
  | with_reducible refine pcut_t ?_
  | with_reducible refine pcut_d ?_
  | with_reducible refine pcut_l ?_
  | refine pc_in2 ?_
  | refine pc_nin2 ?_
  | refine PX.mk _ rfl ?_
  | refine PIx.mk _ rfl ?_)
local macro_rules | `(tactic| walk_at "w") => `(tactic| ((conv => whnf); repeat (walk_at "w1"; (conv => whnf))))
/-! ### looks at anything -/
theorem lc0_mapD {Γ : Gl0} {own : List (Str × Nat)} {t : Tg} {e : E} {ρ : Dn.Env} {K : List D → Dn.Env → Prop} {ds : List D} (g : D → D) (hl : ds.length ≤ 16777216) (st : ∀ x, x ∈ ds → wPut t x ρ fun ρ1 => wE Γ e ρ1 fun o ρ2 => wUseD o ρ2 fun y => wWipe own ρ2 fun ρ' => y = g x ∧ ρ' = ρ) (k : K (ds.map g) ρ) : PLc0 Γ own t e ds ρ K := by
  have := lc0_map (Γ := Γ) (own := own) (t := t) (e := e) (ρ := ρ) (K := K) (f := fun d : D => d) (xs := ds) g hl st k
  rw [List.map_id'] at this
  exact this
def isIntB : D → Bool
  | .int _ => true
  | _ => false
def btw (x : D) (l m : Int) : Bool := match x with
  | .int i => decide (l ≤ i ∧ i ≤ m)
  | _ => false
theorem btw_int {x : D} {l m : Int} (h : btw x l m = true) : ∃ i, x = .int i ∧ l ≤ i ∧ i ≤ m := by
  cases x with
  | int i => exact ⟨i, rfl, of_decide_eq_true h⟩
  | _ => cases h
def ToolD (n : Int) (x : D) : Prop := ∃ p : Int × Int, x = .tuple [.int p.1, .int p.2] ∧ Pok n p
noncomputable instance toolDec (n : Int) (x : D) : Decidable (ToolD n x) := Classical.propDecidable _
theorem tools_all {n : Int} : ∀ ts : List D, (∀ x ∈ ts, ToolD n x) → ∃ ps : List (Int × Int), ts = ps.map Datum.toD ∧ ∀ p ∈ ps, Pok n p
  | [], _ => ⟨[], rfl, by simp⟩
  | x :: ts, h => by
    obtain ⟨ps, rfl, h2⟩ := tools_all ts fun y hy => h y (List.mem_cons_of_mem _ hy)
    obtain ⟨p, rfl, hp⟩ := h x (List.mem_cons_self ..)
    exact ⟨p :: ps, rfl, fun q hq => (List.mem_cons.mp hq).elim (fun e => e ▸ hp) (h2 q)⟩
theorem map_inj2 {ps qs : List (Int × Int)} (e : ps.map Datum.toD = qs.map (Datum.toD (α := Int × Int))) : ps = qs := by
  have := PySem.W.eqvAll_map ps qs
  rw [e, PySem.W.eqvAll_map] at this
  simpa using this
theorem web_inj {n m : Int} {ps qs : List (Int × Int)} (e : webD n ps = webD m qs) : n = m ∧ ps = qs := by
  have e1 : n = m := congrArg (fun d => match d with | PyData.tuple (.int a :: _) => a | _ => 0) e
  have e2 : ps.map Datum.toD = qs.map (Datum.toD (α := Int × Int)) := congrArg (fun d => match d with | PyData.tuple [_, .tuple l] => l | _ => []) e
  exact ⟨e1, map_inj2 e2⟩
def WebD (x : D) : Prop := ∃ n ps, x = webD n ps ∧ 1 ≤ n ∧ n ≤ 6 ∧ WebOk n 9 ps
section
variable {T : Tab} {gl : Str → Option D} {fuel k : Nat}
theorem wh_of (h : T.at_ "is_whole" = some d_is_whole) (x : D) : Fx (Γof T gl fuel (k + 1)) "is_whole" [.d x] fun r => r = .d (.bool (isIntB x)) := by
  refine fx_of h rfl rfl ?_
  show PSs _ _ [some (.d x)] _
  cases x <;> (walk_at "v"; rfl)
theorem bt_of (wh : ∀ x, Fx (Γof T gl fuel k) "is_whole" [.d x] fun r => r = .d (.bool (isIntB x))) (h : T.at_ "is_between" = some d_is_between) (x : D) (l m : Int) : Fx (Γof T gl fuel (k + 1)) "is_between" [.d x, .d (.int l), .d (.int m)] fun r => r = .d (.bool (btw x l m)) := by
  refine fx_of h rfl rfl ?_
  show PSs _ _ [some (.d x), some (.d (.int l)), some (.d (.int m))] _
  walk_at "v"
  refine pcall (wh x) rfl rfl ?_
  cases x with
  | int i =>
    walk_at "v"
    refine pif_yes rfl ?_
    walk_at "v"
    refine pif_dc (fun c => ?_) (fun c => ?_)
    · walk_at "v"
      simp [btw, c]
    · walk_at "v"
      simp [btw, c]
  | _ =>
    walk_at "v"
    refine pif_no rfl ?_
    walk_at "v"
    rfl
theorem to_of (bt : ∀ x l m, Fx (Γof T gl fuel k) "is_between" [.d x, .d (.int l), .d (.int m)] fun r => r = .d (.bool (btw x l m))) (h : T.at_ "is_tool" = some d_is_tool) (x : D) (n : Int) :
    Fx (Γof T gl fuel (k + 1)) "is_tool" [.d x, .d (.int n)] fun r => ∃ b, r = .d (.bool b) ∧ (b = true ↔ ToolD n x) := by
  refine fx_of h rfl rfl ?_
  show PSs _ _ [some (.d x), some (.d (.int n)), none] _
  cases x with
  | tuple ds =>
    walk_at "v"
    refine pif_dc (fun c => ?_) (fun c => ?_)
    · walk_at "v"
      refine ⟨false, rfl, ⟨fun z => (by cases z), fun ⟨p, e, _⟩ => ?_⟩⟩
      cases e
      exact absurd rfl c
    · obtain ⟨a, b, rfl⟩ : ∃ a b, ds = [a, b] := by
        match ds, c with
        | [], c => exact absurd (by decide) c
        | [_], c => exact absurd (by simp) c
        | [a, b], _ => exact ⟨a, b, rfl⟩
        | _ :: _ :: _ :: _, c => exact absurd (by simp; omega) c
      walk_at "v"
      refine lc0_mapD (fun x => .bool (btw x 0 (n - 1))) (by simp) ?_ ?_
      · intro x _
        walk_at "v"
        refine pcall (bt x 0 (n - 1)) rfl rfl ?_
        walk_at "v"
        exact ⟨rfl, rfl⟩
      walk_at "v"
      cases hb : [a, b].all fun x => btw x 0 (n - 1) with
      | false =>
        walk_at "v"
        refine ⟨false, rfl, ⟨fun z => (by cases z), fun ⟨p, e, h1, h2, h3⟩ => ?_⟩⟩
        cases e
        simp [btw] at hb
        omega
      | true =>
        rw [List.all_cons, List.all_cons, Bool.and_eq_true, Bool.and_eq_true] at hb
        obtain ⟨i, rfl, i1, i2⟩ := btw_int hb.1
        obtain ⟨j, rfl, j1, j2⟩ := btw_int hb.2.1
        walk_at "v"
        refine ⟨decide (i < j), rfl, ?_⟩
        rw [decide_eq_true_eq]
        exact ⟨fun z => ⟨(i, j), rfl, i1, z, by show j < n; omega⟩, fun ⟨p, e, _, h2, _⟩ => by cases e; exact h2⟩
  | _ =>
    walk_at "v"
    exact ⟨false, rfl, ⟨fun z => (by cases z), fun ⟨p, e, _⟩ => by cases e⟩⟩
theorem srtO_eq {ps : List (Int × Int)} : srtO ps = ps ↔ ps.Pairwise fun a b => leO a b = true :=
  ⟨fun e => e ▸ srtP_sorted ps, fun h => List.mergeSort_of_pairwise h⟩
theorem we_of (bt : ∀ x l m, Fx (Γof T gl fuel k) "is_between" [.d x, .d (.int l), .d (.int m)] fun r => r = .d (.bool (btw x l m)))
    (to : ∀ x n, Fx (Γof T gl fuel k) "is_tool" [.d x, .d (.int n)] fun r => ∃ b, r = .d (.bool b) ∧ (b = true ↔ ToolD n x)) (g1 : gl "MOST_HANDS" = some (.int 6)) (g2 : gl "MOST_TOOLS" = some (.int 9)) (h : T.at_ "is_web" = some d_is_web) (x : D) :
    Fx (Γof T gl fuel (k + 1)) "is_web" [.d x] fun r => ∃ b, r = .d (.bool b) ∧ (b = true ↔ WebD x) := by
  refine fx_of h rfl rfl ?_
  show PSs _ _ [some (.d x), none, none, none] _
  cases x with
  | tuple ds =>
    walk_at "v"
    refine pif_dc (fun c => ?_) (fun c => ?_)
    · walk_at "v"
      refine ⟨false, rfl, ⟨fun z => (by cases z), fun ⟨n, ps, e, _⟩ => ?_⟩⟩
      cases e
      exact absurd rfl c
    · obtain ⟨a, b, rfl⟩ : ∃ a b, ds = [a, b] := by
        match ds, c with
        | [], c => exact absurd (by decide) c
        | [_], c => exact absurd (by simp) c
        | [a, b], _ => exact ⟨a, b, rfl⟩
        | _ :: _ :: _ :: _, c => exact absurd (by simp; omega) c
      walk_at "v"
      refine PGl.mk _ g1 ?_
      walk_at "v"
      refine pcall (bt a 1 6) rfl rfl ?_
      walk_at "v"
      cases hb : btw a 1 6 with
      | false =>
        walk_at "v"
        refine ⟨false, rfl, ⟨fun z => (by cases z), fun ⟨n, ps, e, h1, h2, _⟩ => ?_⟩⟩
        cases e
        simp [btw] at hb
        omega
      | true =>
        obtain ⟨n, rfl, n1, n2⟩ := btw_int hb
        walk_at "v"
        cases b with
        | tuple ts =>
          walk_at "v"
          refine PGl.mk _ g2 ?_
          walk_at "v"
          refine pif_dc (fun c => ?_) (fun c => ?_)
          · walk_at "v"
            refine ⟨false, rfl, ⟨fun z => (by cases z), fun ⟨n, ps, e, _, _, h3⟩ => ?_⟩⟩
            cases e
            have := h3.len
            rw [List.length_map] at c
            omega
          · walk_at "v"
            have tb : ∀ x, Fx (Γof T gl fuel k) "is_tool" [.d x, .d (.int n)] fun r => r = .d (.bool (decide (ToolD n x))) := fun x => (to x n).imp fun r ⟨b, e, hb⟩ => by
              rw [e]
              congr 2
              rw [Bool.eq_iff_iff, hb, decide_eq_true_eq]
            refine lc0_mapD (fun x => .bool (decide (ToolD n x))) (by omega) ?_ ?_
            · intro x _
              walk_at "v"
              refine pcall (tb x) rfl rfl ?_
              walk_at "v"
              exact ⟨rfl, rfl⟩
            walk_at "v"
            cases ha : ts.all fun x => decide (ToolD n x) with
            | false =>
              walk_at "v"
              refine ⟨false, rfl, ⟨fun z => (by cases z), fun ⟨n', ps, e, _, _, h3⟩ => ?_⟩⟩
              cases e
              rw [List.all_eq_false] at ha
              obtain ⟨x, hx, hn⟩ := ha
              obtain ⟨p, hp, rfl⟩ := List.mem_map.mp hx
              exact absurd (decide_eq_true (show ToolD n (Datum.toD p) from ⟨p, rfl, h3.ok p hp⟩)) hn
            | true =>
              rw [List.all_eq_true] at ha
              obtain ⟨ps, rfl, hps⟩ := tools_all ts fun x hx => of_decide_eq_true (ha x hx)
              rw [List.length_map] at c
              walk_at "v"
              refine pf_srt ps rfl (by decide) (by omega) (.inl fun _ _ => rfl) ?_
              walk_at "v"
              refine pc_eqt (α := List (Int × Int)) ps (srtO ps) (by decide) rfl rfl ?_
              walk_at "v"
              refine ⟨decide (ps = srtO ps), rfl, ?_⟩
              rw [decide_eq_true_eq]
              constructor
              · intro e
                exact ⟨n, ps, rfl, n1, n2, hps, by omega, srtO_eq.mp e.symm⟩
              · rintro ⟨n', ps', e, _, _, h3⟩
                obtain ⟨_, rfl⟩ := web_inj e
                exact (srtO_eq.mpr h3.srt).symm
        | _ =>
          walk_at "v"
          exact ⟨false, rfl, ⟨fun z => (by cases z), fun ⟨n, ps, e, _⟩ => by cases e⟩⟩
  | _ =>
    walk_at "v"
    exact ⟨false, rfl, ⟨fun z => (by cases z), fun ⟨n, ps, e, _⟩ => by cases e⟩⟩
/-! ### the laws' own looks -/
theorem lw_of (h : T.at_ "_law_whole" = some d__law_whole) (x : D) (l m : Int) : Fx (Γof T gl fuel (k + 1)) "_law_whole" [.d x, .d (.int l), .d (.int m)] fun r => r = .d (.bool (btw x l m)) := by
  refine fx_of h rfl rfl ?_
  show PSs _ _ [some (.d x), some (.d (.int l)), some (.d (.int m))] _
  cases x with
  | int i =>
    walk_at "v"
    refine pif_dc (fun c => ?_) (fun c => ?_)
    · walk_at "v"
      simp [btw, c]
    · walk_at "v"
      simp [btw, c]
  | _ => walk_at "v"; rfl
end

end Dn

set_option Elab.async false
set_option linter.all false
set_option maxRecDepth 100000
set_option maxHeartbeats 4000000
namespace Dn
open PySem PySem.Spec PyProof.Rows
open PySem.W (Datum DatumOrd Tup T3 T4)
def d__law_pairs : Fdef where
  nm := "_law_pairs"
  ps := ["_law_web_here"]
  N := ["_law_web_here", "_law_found", "_law_one", "_law_other"]
  fns := []
  blt := ["range"]
  md := [.ro]
  body := (.cons (.asg (.n 1) (.lst .nil))
    (.cons (.for_ (.n 2) (.rng1 (.idx (.var 0) (.int 0)))
    (.cons (.for_ (.n 3) (.rng2 (.bin .add (.var 2) (.int 1)) (.idx (.var 0) (.int 0)))
    (.cons (.ife (.cmp .in_ (.tup (.cons (.var 2) (.cons (.var 3) .nil))) (.idx (.var 0) (.int 1)))
    (.cons (.ex (.app 1 (.tup (.cons (.var 2) (.cons (.var 3) .nil)))))
    .nil)
    .nil)
    .nil))
    .nil))
    (.cons (.ret (.fz (.mv 1)))
    .nil)))

def d__law_order : Fdef where
  nm := "_law_order"
  ps := ["_law_state", "_law_web_here"]
  N := ["_law_state", "_law_web_here", "_law_places", "_law_k", "_law_any_way", "_law_found", "_law_one", "_law_other", "_law_turned"]
  fns := ["_law_take", "_law_pairs"]
  blt := ["list", "range", "tuple"]
  md := [.rw, .ro]
  body := (.cons (.asg (.n 2) (.bf .lrng (.idx (.var 1) (.int 0))))
    (.cons (.for_ (.n 3) (.rng1 (.idx (.var 1) (.int 0)))
    (.cons (.ex (.mth .insert 2 (.cons (.call "_law_take" (.cons (.var 0) (.cons (.idx (.var 1) (.int 0)) .nil))) (.cons (.mth .pop 2 (.cons (.int 0) .nil)) .nil))))
    .nil))
    (.cons (.asg (.n 4) (.cmp .eq (.call "_law_take" (.cons (.var 0) (.cons (.int 2) .nil))) (.int 0)))
    (.cons (.asg (.n 5) (.lst .nil))
    (.cons (.for_ (.t (.cons (.n 6) (.cons (.n 7) .nil))) (.e (.call "_law_pairs" (.cons (.var 1) .nil)))
    (.cons (.asg (.n 8) (.cmp .eq (.call "_law_take" (.cons (.var 0) (.cons (.int 2) .nil))) (.int 0)))
    (.cons (.ife (.not (.var 4))
    (.cons (.asg (.n 8) (.cmp .gt (.mth .index 2 (.cons (.var 6) .nil)) (.mth .index 2 (.cons (.var 7) .nil))))
    .nil)
    .nil)
    (.cons (.ex (.app 5 (.ifx (.var 8) (.tup (.cons (.var 7) (.cons (.var 6) .nil))) (.tup (.cons (.var 6) (.cons (.var 7) .nil))))))
    .nil))))
    (.cons (.ret (.bf .tuple (.var 5)))
    .nil))))))

local macro_rules | `(tactic| walk_at "omegas") => `(tactic| first | rfl | omega | (simp only [List.length_append, List.length_map, List.length_cons, List.length_nil, List.length_range, List.length_zipIdx, List.length_reverse, List.length_replicate]; omega))
local macro_rules | `(tactic| walk_at "v1") => `(tactic| first
  | with_reducible refine pb_add ?_
  | with_reducible refine pb_sub ?_
  | with_reducible refine pc_lt ?_
  | with_reducible refine pc_gt ?_
  | with_reducible refine pc_le ?_
  | with_reducible refine pc_ge ?_
  | with_reducible refine pc_eqi ?_
  | with_reducible refine pc_nei ?_
  | with_reducible refine pif_t ?_
  | with_reducible refine pif_f ?_
  | with_reducible refine pif_not ?_
  | with_reducible refine pb_mod (by first | decide | omega) ?_
  | with_reducible refine pb_fdiv (by first | decide | omega) (by first | decide | omega) ?_
  | with_reducible refine pb_mul (by first | decide | omega) (by first | decide | omega) ?_
  | with_reducible refine pb_pow (by first | decide | omega) ?_
  | with_reducible refine pb_addt (by walk_at "omegas") ?_
  | with_reducible refine pb_addl (by walk_at "omegas") ?_
  | with_reducible refine PSide.mk (by walk_at "omegas") ?_
  | with_reducible refine pf2_max ?_
  | with_reducible refine pf2_min ?_
  | with_reducible refine pf_lentm ?_
  | with_reducible refine pf_lendm ?_
  | with_reducible refine pf_lenlm ?_
  | with_reducible refine pf_lent ?_
  | with_reducible refine pf_lend ?_
  | with_reducible refine pf_lenl ?_
  | with_reducible refine pf_tupl ?_
  | with_reducible refine pf_tupd ?_
  | with_reducible refine pf_tupt ?_
  | with_reducible refine pf_lisl ?_
  | with_reducible refine pf_lisd ?_
  | with_reducible refine pf_list ?_
  | with_reducible refine pf_abs ?_
  | with_reducible refine pf_any ?_
  | with_reducible refine pf_all ?_
  | with_reducible refine pc_in2 ?_
  | with_reducible refine pc_nin2 ?_
  | with_reducible refine pc_ini ?_
  | with_reducible refine pc_inil ?_
  | with_reducible refine pc_inid ?_
  | with_reducible refine pc_isb ?_
  | with_reducible refine pc_isnb ?_
  | with_reducible refine pc_eqb ?_
  | with_reducible refine pc_neb ?_
  | with_reducible refine prng (by omega) ?_ (by omega)
  | with_reducible refine prev_t ?_
  | with_reducible refine prev_l ?_
  | with_reducible refine pf_lrng (by omega) (by omega) ?_
  | with_reducible refine pf_trng (by omega) (by omega) ?_
  | with_reducible refine PSs.w ?_
  | refine pc_in2 ?_
  | refine pc_nin2 ?_
  | refine PX.mk _ rfl ?_
  | refine PIx.mk _ rfl ?_)
local macro_rules | `(tactic| walk_at "v") => `(tactic| ((conv => whnf); repeat (walk_at "v1"; (conv => whnf))))
local macro_rules | `(tactic| walk_at "w1") => `(tactic| first
  | with_reducible refine pb_add ?_
  | with_reducible refine pb_sub ?_
  | with_reducible refine pc_lt ?_
  | with_reducible refine pc_gt ?_
  | with_reducible refine pc_le ?_
  | with_reducible refine pc_ge ?_
  | with_reducible refine pc_eqi ?_
  | with_reducible refine pc_nei ?_
  | with_reducible refine pif_t ?_
  | with_reducible refine pif_f ?_
  | with_reducible refine pif_not ?_
  | with_reducible refine pb_mod (by first | decide | omega) ?_
  | with_reducible refine pb_fdiv (by first | decide | omega) (by first | decide | omega) ?_
  | with_reducible refine pb_mul (by first | decide | omega) (by first | decide | omega) ?_
  | with_reducible refine pb_pow (by first | decide | omega) ?_
  | with_reducible refine pb_addt (by walk_at "omegas") ?_
  | with_reducible refine pb_addl (by walk_at "omegas") ?_
  | with_reducible refine PSide.mk (by walk_at "omegas") ?_
  | with_reducible refine pf2_max ?_
  | with_reducible refine pf2_min ?_
  | with_reducible refine pf_lentm ?_
  | with_reducible refine pf_lendm ?_
  | with_reducible refine pf_lenlm ?_
  | with_reducible refine pf_lent ?_
  | with_reducible refine pf_lend ?_
  | with_reducible refine pf_lenl ?_
  | with_reducible refine pf_tupl ?_
  | with_reducible refine pf_tupd ?_
  | with_reducible refine pf_tupt ?_
  | with_reducible refine pf_lisl ?_
  | with_reducible refine pf_lisd ?_
  | with_reducible refine pf_list ?_
  | with_reducible refine pf_abs ?_
  | with_reducible refine pf_any ?_
  | with_reducible refine pf_all ?_
  | with_reducible refine pc_in2 ?_
  | with_reducible refine pc_nin2 ?_
  | with_reducible refine pc_ini ?_
  | with_reducible refine pc_inil ?_
  | with_reducible refine pc_inid ?_
  | with_reducible refine pc_isb ?_
  | with_reducible refine pc_isnb ?_
  | with_reducible refine pc_eqb ?_
  | with_reducible refine pc_neb ?_
  | with_reducible refine prng (by omega) ?_ (by omega)
  | with_reducible refine prev_t ?_
  | with_reducible refine prev_l ?_
  | with_reducible refine pf_lrng (by omega) (by omega) ?_
  | with_reducible refine pf_trng (by omega) (by omega) ?_
  | with_reducible refine PSs.w ?_
  | with_reducible refine pcut_t ?_
  | with_reducible refine pcut_d ?_
  | with_reducible refine pcut_l ?_
  | refine pc_in2 ?_
  | refine pc_nin2 ?_
  | refine PX.mk _ rfl ?_
  | refine PIx.mk _ rfl ?_)
local macro_rules | `(tactic| walk_at "w") => `(tactic| ((conv => whnf); repeat (walk_at "w1"; (conv => whnf))))
/-! ### pairs and orders of the laws -/
theorem pif_dd {p : Prop} {i : Decidable p} {P Q : Prop} (h : p → P) (k : ¬ p → Q) : PIf (decide p) P Q := ⟨fun e => h (of_decide_eq_true e), fun e => k (of_decide_eq_false e)⟩
def ltPr (a b : Int × Int) : Prop := a.1 < b.1 ∨ (a.1 = b.1 ∧ a.2 < b.2)
structure QOk (n : Int) (ps qs : List (Int × Int)) : Prop where
  rise : qs.Pairwise ltPr
  mem : ∀ q, q ∈ qs ↔ q ∈ ps ∧ Pok n q
  len : qs.length ≤ 100
def swp (q : Int × Int) : Int × Int := (q.2, q.1)
structure OrdOk (n : Int) (ps os : List (Int × Int)) : Prop where
  ex : ∃ qs : List (Int × Int), QOk n ps qs ∧ os.length = qs.length ∧ ∀ (i : Nat) (o q : Int × Int), os[i]? = some o → qs[i]? = some q → o = q ∨ o = swp q
theorem OrdOk.hands {n : Int} {ps os : List (Int × Int)} (h : OrdOk n ps os) : os.length ≤ 100 ∧ ∀ o ∈ os, 0 ≤ o.1 ∧ o.1 < n ∧ 0 ≤ o.2 ∧ o.2 < n ∧ o.1 ≠ o.2 := by
  obtain ⟨qs, q1, q2, q3⟩ := h.ex
  refine ⟨by rw [q2]; exact q1.len, fun o ho => ?_⟩
  obtain ⟨i, hi, e⟩ := List.getElem_of_mem ho
  have hq : i < qs.length := by omega
  obtain ⟨h1, h2, h3⟩ := ((q1.mem qs[i]).mp (List.getElem_mem hq)).2
  rcases q3 i o qs[i] (by rw [List.getElem?_eq_getElem hi, e]) (List.getElem?_eq_getElem hq) with z | z
  · rw [z]; omega
  · rw [z]; unfold swp; simp only; omega
def Lp (Γ : Gl0) : Prop := ∀ (n : Int) ps, 0 ≤ n → n ≤ 10 → ps.length ≤ 1000 → Fx Γ "_law_pairs" [.d (webD n ps)] fun r => ∃ qs : List (Int × Int), r = .d (.list (qs.map Datum.toD)) ∧ QOk n ps qs
section
variable {T : Tab} {gl : Str → Option D} {fuel k : Nat}
theorem lp_of (h : T.at_ "_law_pairs" = some d__law_pairs) : Lp (Γof T gl fuel (k + 1)) := by
  intro n ps n0 n1 hp
  refine fx_of h rfl rfl ?_
  show PSs _ _ [some (.d (webD n ps)), none, none, none] _
  walk_at "v"
  refine pfor_rng (fun i ρ => ∃ (qs : List (Int × Int)) (ds : List D) (o2 o3 : Option SV), ρ = [some (.d (webD n ps)), some (.l ds), o2, o3] ∧ ds = qs.map Datum.toD ∧ qs.Pairwise ltPr ∧ (∀ q, q ∈ qs ↔ q ∈ ps ∧ Pok n q ∧ q.1 < i) ∧ qs.length ≤ 10 * i)
    ⟨[], [], none, none, rfl, rfl, .nil, fun q => ⟨fun z => by simp at z, fun ⟨_, h1, h2⟩ => by have := h1.1; omega⟩, by simp⟩ ?_ ?_
  · rintro ρ ⟨qs, ds, o2, o3, rfl, rfl, h1, h2, h3⟩
    walk_at "v"
    refine ⟨qs, rfl, h1, fun q => ?_, by omega⟩
    rw [h2]
    exact ⟨fun z => ⟨z.1, z.2.1⟩, fun z => ⟨z.1, z.2, by have h4 := z.2.2; unfold Pok at z; omega⟩⟩
  · rintro i ρ hi ⟨qs, ds, o2, o3, rfl, rfl, h1, h2, h3⟩
    walk_at "v"
    refine prng2 (by omega) (by omega) (by omega) (by omega) ?_
    refine pfor_rng (fun t ρ => ∃ (qs : List (Int × Int)) (ds : List D) (o3 : Option SV), ρ = [some (.d (webD n ps)), some (.l ds), some (.d (.int i)), o3] ∧ ds = qs.map Datum.toD ∧ qs.Pairwise ltPr ∧ (∀ q, q ∈ qs ↔ q ∈ ps ∧ Pok n q ∧ (q.1 < i ∨ (q.1 = i ∧ q.2 < i + 1 + t))) ∧ qs.length ≤ 10 * i + t)
      ⟨qs, _, _, rfl, rfl, h1, fun q => ?_, by omega⟩ ?_ ?_
    · rw [h2]
      exact ⟨fun z => ⟨z.1, z.2.1, .inl z.2.2⟩, fun z => ⟨z.1, z.2.1, by have := z.2.1.2.1; omega⟩⟩
    · rintro ρ ⟨qs, ds, o3, rfl, rfl, h1, h2, h3⟩
      walk_at "v"
      refine ⟨qs, _, _, _, rfl, rfl, h1, fun q => ?_, by omega⟩
      rw [h2]
      exact ⟨fun z => ⟨z.1, z.2.1, by omega⟩, fun z => ⟨z.1, z.2.1, by have h4 := z.2.1.2.2; have h5 := z.2.1.2.1; omega⟩⟩
    · rintro t ρ ht ⟨qs, ds, o3, rfl, rfl, h1, h2, h3⟩
      walk_at "v"
      refine pc_int (α := Int × Int) (i, i + 1 + t) ps (by decide) rfl rfl (fun _ e => by cases e) ?_
      walk_at "v"
      refine pif_dd (fun c => ?_) (fun c => ?_)
      · walk_at "v"
        refine ⟨qs ++ [((i : Int), (i : Int) + 1 + t)], _, _, rfl, by rw [List.map_append]; rfl, ?_, fun q => ?_, by simp; omega⟩
        · rw [List.pairwise_append]
          refine ⟨h1, by simp, fun a ha b hb => ?_⟩
          rw [List.mem_singleton.mp hb]
          have := ((h2 a).mp ha).2.2
          unfold ltPr
          simp only
          omega
        · rw [List.mem_append, h2, List.mem_singleton]
          constructor
          · rintro (⟨z1, z2, z3⟩ | rfl)
            · exact ⟨z1, z2, by omega⟩
            · exact ⟨c, ⟨by simp, by simp; omega, by simp; omega⟩, .inr ⟨rfl, by simp; omega⟩⟩
          · rintro ⟨z1, z2, z3⟩
            by_cases e : q.1 = (i : Int) ∧ q.2 = (i : Int) + 1 + t
            · exact .inr (Prod.ext e.1 e.2)
            · exact .inl ⟨z1, z2, by omega⟩
      · walk_at "v"
        refine ⟨qs, _, _, rfl, rfl, h1, fun q => ?_, by omega⟩
        rw [h2]
        constructor
        · rintro ⟨z1, z2, z3⟩
          exact ⟨z1, z2, by omega⟩
        · rintro ⟨z1, z2, z3⟩
          refine ⟨z1, z2, ?_⟩
          by_cases e : q.1 = (i : Int) ∧ q.2 = (i : Int) + 1 + t
          · have : q = ((i : Int), (i : Int) + 1 + t) := Prod.ext e.1 e.2
            rw [this] at z1
            exact absurd z1 c
          · omega
theorem range_ints (m : Nat) : ((List.range m).map fun (i : Nat) => PyData.int (i : Int)) = ((List.range m).map fun (i : Nat) => (i : Int)).map .int := by
  rw [List.map_map]
  rfl
def Lo (Γ : Gl0) : Prop := ∀ b xs (n : Int) ps, St b xs → 1000 ≤ b → 1 ≤ n → n ≤ 10 → ps.length ≤ 1000 → FxS Γ "_law_order" xs [.d (webD n ps)] fun r xs' => ∃ os : List (Int × Int), r = .d (.tuple (os.map Datum.toD)) ∧ OrdOk n ps os ∧ St (b - 1000) xs'
theorem ins_perm {pl r : List Int} {y : Int} {i : Nat} (e : pl = y :: r) : (r.take i ++ [y] ++ r.drop i).Perm pl := by
  rw [e, List.append_assoc]
  show (r.take i ++ y :: r.drop i).Perm (y :: r)
  have h : (r.take i ++ y :: r.drop i).Perm (y :: (r.take i ++ r.drop i)) := List.perm_middle
  rw [List.take_append_drop] at h
  exact h
theorem lo_of (tk : Tk (Γof T gl fuel k)) (lp : Lp (Γof T gl fuel k)) (h : T.at_ "_law_order" = some d__law_order) : Lo (Γof T gl fuel (k + 1)) := by
  intro b xs n ps hs hb n1 n2 hp
  refine fxs_of h rfl ⟨_, rfl, rfl⟩ rfl ?_
  show PSs _ _ [some (.l xs), some (.d (webD n ps)), none, none, none, none, none, none, none] _
  walk_at "v"
  refine pfor_rng (fun i ρ => ∃ (x1 : List D) (pl : List Int) (ds : List D) (o3 : Option SV), ρ = [some (.l x1), some (.d (webD n ps)), some (.l ds), o3, none, none, none, none, none] ∧ ds = pl.map .int ∧ pl.Perm ((List.range n.toNat).map fun (i : Nat) => (i : Int)) ∧ St (b - i) x1)
    ⟨xs, _, _, _, rfl, range_ints _, List.Perm.refl _, by simpa using hs⟩ ?_ ?_
  · rintro ρ ⟨x1, pl, ds, o3, rfl, rfl, pm, s1⟩
    have has : ∀ i : Int, 0 ≤ i → i < n → i ∈ pl := fun i i0 i1 => pm.mem_iff.mpr (List.mem_map.mpr ⟨i.toNat, List.mem_range.mpr (by omega), by omega⟩)
    walk_at "v"
    refine pcall_take tk s1 (by omega) (by omega) (by omega) fun a x2 a0 a1 s2 => ?_
    walk_at "v"
    refine pcall_q (lp n ps (by omega) (by omega) hp) rfl rfl ?_
    rintro r ⟨qs, rfl, hq⟩
    have hql := hq.len
    walk_at "v"
    generalize decide (a = 0) = any
    refine pfor_map (fun i ρ => ∃ (x3 : List D) (os : List (Int × Int)) (ds : List D) (o6 o7 o8 : Option SV), ρ = [some (.l x3), some (.d (webD n ps)), some (.l (pl.map .int)), o3, some (.d (.bool any)), some (.l ds), o6, o7, o8] ∧ ds = os.map Datum.toD ∧ os.length = i ∧
      (∀ (j : Nat) (o q : Int × Int), os[j]? = some o → qs[j]? = some q → o = q ∨ o = swp q) ∧ St (b - n - 1 - i) x3) ⟨x2, [], [], none, none, none, rfl, rfl, rfl, by simp, s2.mono (by omega)⟩ ?_ ?_
    · rintro ρ ⟨x3, os, ds, o6, o7, o8, rfl, rfl, h1, h2, s3⟩
      walk_at "v"
      exact ⟨os, rfl, ⟨qs, hq, h1, h2⟩, s3.mono (by omega)⟩
    · rintro i q ρ hi ⟨x3, os, ds, o6, o7, o8, rfl, rfl, h1, h2, s3⟩
      have hil := (List.getElem?_eq_some_iff.mp hi).1
      have hk := ((hq.mem q).mp (List.mem_of_getElem? hi)).2
      obtain ⟨k1, k2, k3⟩ := hk
      walk_at "v"
      refine pcall_take tk s3 (by omega) (by omega) (by omega) fun c x4 c0 c1 s4 => ?_
      walk_at "v"
      have grow : ∀ o : Int × Int, (o = q ∨ o = swp q) → ∀ (j : Nat) (o' q' : Int × Int), (os ++ [o])[j]? = some o' → qs[j]? = some q' → o' = q' ∨ o' = swp q' := fun o hor j o' q' ho hq' => by
        rcases Nat.lt_or_ge j os.length with z | z
        · rw [List.getElem?_append_left z] at ho
          exact h2 j o' q' ho hq'
        · rw [List.getElem?_append_right z] at ho
          have e : j - os.length = 0 := by
            rcases Nat.eq_zero_or_pos (j - os.length) with y | y
            · exact y
            · rw [List.getElem?_eq_none (by simp; omega)] at ho; cases ho
          rw [e] at ho
          cases ho
          have : j = i := by omega
          subst this
          rw [hi] at hq'
          cases hq'
          exact hor
      cases any with
      | true =>
        walk_at "v"
        refine pif_dc (fun d => ?_) (fun d => ?_)
        · walk_at "v"
          exact ⟨x4, os ++ [swp q], _, _, _, _, rfl, by rw [List.map_append]; rfl, by simp [h1], grow _ (.inr rfl), s4.mono (by omega)⟩
        · walk_at "v"
          exact ⟨x4, os ++ [q], _, _, _, _, rfl, by rw [List.map_append]; rfl, by simp [h1], grow _ (.inl rfl), s4.mono (by omega)⟩
      | false =>
        walk_at "v"
        refine pm_idx (has q.1 (by omega) (by omega)) ?_
        walk_at "v"
        refine pm_idx (has q.2 (by omega) (by omega)) ?_
        walk_at "v"
        refine pif_dc (fun d => ?_) (fun d => ?_)
        · walk_at "v"
          exact ⟨x4, os ++ [swp q], _, _, _, _, rfl, by rw [List.map_append]; rfl, by simp [h1], grow _ (.inr rfl), s4.mono (by omega)⟩
        · walk_at "v"
          exact ⟨x4, os ++ [q], _, _, _, _, rfl, by rw [List.map_append]; rfl, by simp [h1], grow _ (.inl rfl), s4.mono (by omega)⟩
  · rintro i ρ hi ⟨x1, pl, ds, o3, rfl, rfl, pm, s1⟩
    have hne : pl ≠ [] := fun e => by
      have := pm.length_eq
      rw [e, List.length_map, List.length_range] at this
      simp at this
      omega
    have hl : pl.length = n.toNat := by rw [pm.length_eq, List.length_map, List.length_range]
    walk_at "v"
    refine pcall_take tk s1 (by omega) (by omega) (by omega) fun a x2 a0 a1 s2 => ?_
    walk_at "v"
    refine pm_pop0 hne fun y r e => ?_
    walk_at "v"
    refine pm_ins (x := y) a0 (by omega) (by rw [e] at hl; simp at hl; omega) ?_
    walk_at "v"
    exact ⟨x2, _, _, _, rfl, rfl, (ins_perm e).trans pm, s2.mono (by omega)⟩
end

end Dn

set_option Elab.async false
set_option linter.all false
set_option maxRecDepth 100000
set_option maxHeartbeats 4000000
namespace Dn
open PySem PySem.Spec PyProof.Rows
open PySem.W (Datum DatumOrd Tup T3 T4)
local macro_rules | `(tactic| walk_at "omegas") => `(tactic| first | rfl | omega | (simp only [List.length_append, List.length_map, List.length_cons, List.length_nil, List.length_range, List.length_zipIdx, List.length_reverse, List.length_replicate]; omega))
local macro_rules | `(tactic| walk_at "v1") => `(tactic| first
  | with_reducible refine pb_add ?_
  | with_reducible refine pb_sub ?_
  | with_reducible refine pc_lt ?_
  | with_reducible refine pc_gt ?_
  | with_reducible refine pc_le ?_
  | with_reducible refine pc_ge ?_
  | with_reducible refine pc_eqi ?_
  | with_reducible refine pc_nei ?_
  | with_reducible refine pif_t ?_
  | with_reducible refine pif_f ?_
  | with_reducible refine pif_not ?_
  | with_reducible refine pb_mod (by first | decide | omega) ?_
  | with_reducible refine pb_fdiv (by first | decide | omega) (by first | decide | omega) ?_
  | with_reducible refine pb_mul (by first | decide | omega) (by first | decide | omega) ?_
  | with_reducible refine pb_pow (by first | decide | omega) ?_
  | with_reducible refine pb_addt (by walk_at "omegas") ?_
  | with_reducible refine pb_addl (by walk_at "omegas") ?_
  | with_reducible refine PSide.mk (by walk_at "omegas") ?_
  | with_reducible refine pf2_max ?_
  | with_reducible refine pf2_min ?_
  | with_reducible refine pf_lentm ?_
  | with_reducible refine pf_lendm ?_
  | with_reducible refine pf_lenlm ?_
  | with_reducible refine pf_lent ?_
  | with_reducible refine pf_lend ?_
  | with_reducible refine pf_lenl ?_
  | with_reducible refine pf_tupl ?_
  | with_reducible refine pf_tupd ?_
  | with_reducible refine pf_tupt ?_
  | with_reducible refine pf_lisl ?_
  | with_reducible refine pf_lisd ?_
  | with_reducible refine pf_list ?_
  | with_reducible refine pf_abs ?_
  | with_reducible refine pf_any ?_
  | with_reducible refine pf_all ?_
  | with_reducible refine pc_in2 ?_
  | with_reducible refine pc_nin2 ?_
  | with_reducible refine pc_ini ?_
  | with_reducible refine pc_inil ?_
  | with_reducible refine pc_inid ?_
  | with_reducible refine pc_isb ?_
  | with_reducible refine pc_isnb ?_
  | with_reducible refine pc_eqb ?_
  | with_reducible refine pc_neb ?_
  | with_reducible refine prng (by omega) ?_ (by omega)
  | with_reducible refine prev_t ?_
  | with_reducible refine prev_l ?_
  | with_reducible refine pf_lrng (by omega) (by omega) ?_
  | with_reducible refine pf_trng (by omega) (by omega) ?_
  | with_reducible refine PSs.w ?_
  | refine pc_in2 ?_
  | refine pc_nin2 ?_
  | refine PX.mk _ rfl ?_
  | refine PIx.mk _ rfl ?_)
local macro_rules | `(tactic| walk_at "v") => `(tactic| ((conv => whnf); repeat (walk_at "v1"; (conv => whnf))))
local macro_rules | `(tactic| walk_at "w1") => `(tactic| first
  | with_reducible refine pb_add ?_
  | with_reducible refine pb_sub ?_
  | with_reducible refine pc_lt ?_
  | with_reducible refine pc_gt ?_
  | with_reducible refine pc_le ?_
  | with_reducible refine pc_ge ?_
  | with_reducible refine pc_eqi ?_
  | with_reducible refine pc_nei ?_
  | with_reducible refine pif_t ?_
  | with_reducible refine pif_f ?_
  | with_reducible refine pif_not ?_
  | with_reducible refine pb_mod (by first | decide | omega) ?_
  | with_reducible refine pb_fdiv (by first | decide | omega) (by first | decide | omega) ?_
  | with_reducible refine pb_mul (by first | decide | omega) (by first | decide | omega) ?_
  | with_reducible refine pb_pow (by first | decide | omega) ?_
  | with_reducible refine pb_addt (by walk_at "omegas") ?_
  | with_reducible refine pb_addl (by walk_at "omegas") ?_
  | with_reducible refine PSide.mk (by walk_at "omegas") ?_
  | with_reducible refine pf2_max ?_
  | with_reducible refine pf2_min ?_
  | with_reducible refine pf_lentm ?_
  | with_reducible refine pf_lendm ?_
  | with_reducible refine pf_lenlm ?_
  | with_reducible refine pf_lent ?_
  | with_reducible refine pf_lend ?_
  | with_reducible refine pf_lenl ?_
  | with_reducible refine pf_tupl ?_
  | with_reducible refine pf_tupd ?_
  | with_reducible refine pf_tupt ?_
  | with_reducible refine pf_lisl ?_
  | with_reducible refine pf_lisd ?_
  | with_reducible refine pf_list ?_
  | with_reducible refine pf_abs ?_
  | with_reducible refine pf_any ?_
  | with_reducible refine pf_all ?_
  | with_reducible refine pc_in2 ?_
  | with_reducible refine pc_nin2 ?_
  | with_reducible refine pc_ini ?_
  | with_reducible refine pc_inil ?_
  | with_reducible refine pc_inid ?_
  | with_reducible refine pc_isb ?_
  | with_reducible refine pc_isnb ?_
  | with_reducible refine pc_eqb ?_
  | with_reducible refine pc_neb ?_
  | with_reducible refine prng (by omega) ?_ (by omega)
  | with_reducible refine prev_t ?_
  | with_reducible refine prev_l ?_
  | with_reducible refine pf_lrng (by omega) (by omega) ?_
  | with_reducible refine pf_trng (by omega) (by omega) ?_
  | with_reducible refine PSs.w ?_
  | with_reducible refine pcut_t ?_
  | with_reducible refine pcut_d ?_
  | with_reducible refine pcut_l ?_
  | refine pc_in2 ?_
  | refine pc_nin2 ?_
  | refine PX.mk _ rfl ?_
  | refine PIx.mk _ rfl ?_)
local macro_rules | `(tactic| walk_at "w") => `(tactic| ((conv => whnf); repeat (walk_at "w1"; (conv => whnf))))
section
variable {K : SV → Prop} {xs : List D}
theorem pb_mull {j : Int} (h0 : 0 ≤ j) (h1 : j ≤ 1000) (hl : xs.length ≤ 1000) (k : K (.l (List.replicate j.toNat xs).flatten)) : PB .mul (.l xs) (.d (.int j)) K := by
  refine ⟨_, if_pos ⟨h0, ?_, ?_⟩, k⟩
  · show j ≤ 16777216
    omega
  · show xs.length * j.toNat ≤ 16777216
    calc xs.length * j.toNat ≤ 1000 * 1000 := Nat.mul_le_mul hl (by omega)
      _ ≤ _ := by decide
theorem rep1 {α : Type} (x : α) (f : α → D) (n : Nat) : (List.replicate n [f x]).flatten = (List.replicate n x).map f := by
  induction n with
  | zero => rfl
  | succ n ih => rw [List.replicate_succ, List.flatten_cons, ih]; rfl
theorem pix {n : Nat} {j : Int} {K : Nat → Prop} (h0 : 0 ≤ j) (h1 : j < n) (k : K j.toNat) : PIx n j K := by
  refine ⟨j.toNat, ?_, k⟩
  unfold L2.ixN
  simp only [h0, h1, if_true, and_self, dif_pos, if_pos]
end
theorem getD_of {rs : List Int} {i : Nat} {y : Int} (h : rs[i]? = some y) : rs.getD i 0 = y := by
  rw [List.getD_eq_getElem?_getD, h]; rfl
theorem int_inj {a b : List Int} (e : a.map PyData.int = b.map PyData.int) : a = b := by
  have h : ∀ a b : List Int, a.map PyData.int = b.map PyData.int → a = b := fun a => by
    induction a with
    | nil => intro b e; cases b with
      | nil => rfl
      | cons _ _ => cases e
    | cons x a ih => intro b e; cases b with
      | nil => cases e
      | cons y b =>
        rw [List.map_cons, List.map_cons] at e
        injection e with e1 e2
        injection e1 with e1
        rw [e1, ih b e2]
  exact h a b e
theorem itD_inj {a b : List Int} (e : itD a = itD b) : a = b := int_inj (PyData.tuple.inj e)
theorem ints_all {p : Int → Prop} : ∀ ds : List D, (∀ x ∈ ds, ∃ i, x = .int i ∧ p i) → ∃ rs : List Int, ds = rs.map .int ∧ ∀ r ∈ rs, p r
  | [], _ => ⟨[], rfl, by simp⟩
  | d :: ds, h => by
    obtain ⟨i, rfl, hi⟩ := h d (List.mem_cons_self ..)
    obtain ⟨rs, rfl, hr⟩ := ints_all ds fun x hx => h x (List.mem_cons_of_mem _ hx)
    exact ⟨i :: rs, rfl, fun r hr' => by
      rcases List.mem_cons.mp hr' with rfl | z
      · exact hi
      · exact hr r z⟩
def nat0 : D → Bool
  | .int i => decide (0 ≤ i)
  | _ => false
section
variable {Γ : Gl0} {own : List (Str × Nat)} {t : Tg} {c e : E} {ρ : Dn.Env} {K : List D → Dn.Env → Prop} {α : Type} {f : α → D} {xs : List α}
/-- a list told while the list in one slot is changed -/
theorem lc0_st (i : Nat) (I : Nat → List D → List D → Prop) (s0 : List D) (h00 : ρ.set i (some (.l s0)) = ρ) (h0 : I 0 [] s0) (hl : xs.length ≤ 16777216) (he : ∀ r s, I xs.length r s → K r (ρ.set i (some (.l s))))
    (st : ∀ (j : Nat) x acc s, xs[j]? = some x → I j acc s → wPut t (f x) (ρ.set i (some (.l s))) fun ρ1 => wE Γ e ρ1 fun o ρ1 => wUseD o ρ1 fun y => wWipe own ρ1 fun ρ' => ∃ s', ρ' = ρ.set i (some (.l s')) ∧ I (j + 1) (acc ++ [y]) s') : PLc0 Γ own t e (xs.map f) ρ K :=
  lc0_inv (fun j acc ρ' => ∃ s, ρ' = ρ.set i (some (.l s)) ∧ I j acc s) ⟨s0, h00.symm, h0⟩ hl (fun r ρ' ⟨s, e, h⟩ => by rw [e]; exact he r s h) (fun j x acc ρ' hx ⟨s, e, h⟩ => by rw [e]; exact st j x acc s hx h)
theorem lc1_st (i : Nat) (I : Nat → List D → List D → Prop) (s0 : List D) (h00 : ρ.set i (some (.l s0)) = ρ) (h0 : I 0 [] s0) (hl : xs.length ≤ 16777216) (he : ∀ r s, I xs.length r s → K r (ρ.set i (some (.l s))))
    (st : ∀ (j : Nat) x acc s, xs[j]? = some x → I j acc s → wPut t (f x) (ρ.set i (some (.l s))) fun ρ1 => wE Γ c ρ1 fun o ρ1 => wTru o ρ1 fun b => PIf b (wE Γ e ρ1 fun o ρ1 => wUseD o ρ1 fun y => wWipe own ρ1 fun ρ' => ∃ s', ρ' = ρ.set i (some (.l s')) ∧ I (j + 1) (acc ++ [y]) s') (wWipe own ρ1 fun ρ' => ∃ s', ρ' = ρ.set i (some (.l s')) ∧ I (j + 1) acc s')) : PLc1 Γ own t c e (xs.map f) ρ K :=
  lc1_inv (fun j acc ρ' => ∃ s, ρ' = ρ.set i (some (.l s)) ∧ I j acc s) ⟨s0, h00.symm, h0⟩ hl (fun r ρ' ⟨s, e, h⟩ => by rw [e]; exact he r s h) (fun j x acc ρ' hx ⟨s, e, h⟩ => by rw [e]; exact st j x acc s hx h)
end
/-! ### any data that may be held against others -/
def Flt (m : Nat) (x : D) : Prop := x.canLay0 = true ∧ x.depth ≤ m
theorem flt_all {m : Nat} : ∀ {ds : List D}, (∀ d ∈ ds, Flt m d) → PyData.canLayAll0 ds = true ∧ PyData.depthAll ds ≤ m
  | [], _ => ⟨rfl, Nat.zero_le _⟩
  | d :: ds, h => by
    have h1 := h d (List.mem_cons_self ..)
    have h2 := flt_all (ds := ds) fun x hx => h x (List.mem_cons_of_mem _ hx)
    exact ⟨by show (PyData.canLay0 d && PyData.canLayAll0 ds) = true; rw [h1.1, h2.1]; rfl, by show max d.depth (PyData.depthAll ds) ≤ m; have := h1.2; have := h2.2; omega⟩
theorem flt_t {m : Nat} {ds : List D} (h : ∀ d ∈ ds, Flt m d) : Flt (m + 1) (.tuple ds) := ⟨by simp only [PyData.canLay0]; exact (flt_all h).1, by simp only [PyData.depth]; have := (flt_all h).2; omega⟩
theorem flt_l {m : Nat} {ds : List D} (h : ∀ d ∈ ds, Flt m d) : Flt (m + 1) (.list ds) := ⟨by simp only [PyData.canLay0]; exact (flt_all h).1, by simp only [PyData.depth]; have := (flt_all h).2; omega⟩
theorem flt_i {m : Nat} (i : Int) : Flt m (.int i) := ⟨rfl, Nat.zero_le _⟩
theorem Flt.mono {m m' : Nat} {x : D} (h : Flt m x) (l : m ≤ m') : Flt m' x := ⟨h.1, Nat.le_trans h.2 l⟩
theorem Flt.sh {m : Nat} {x : D} (h : Flt m x) (l : m ≤ 64) : SeqAt.shaped x = true := by
  unfold SeqAt.shaped
  rw [h.1, Bool.true_and, decide_eq_true_eq]
  exact Nat.le_trans h.2 l
section
variable {K : SV → Prop} {ds : List D}
theorem eqv0 : PyData.eqv (.tuple ds) (.tuple []) = decide (ds = []) := by
  cases ds <;> simp [PyData.eqv, PyData.eqvAll]
theorem pc_eq0 (h : SeqAt.shaped (.tuple ds) = true) (k : K (.d (.bool (decide (ds = []))))) : PC .eq (.d (.tuple ds)) (.d (.tuple [])) K :=
  pc_eqd h (by decide) (by show K (.d (.bool (PyData.eqv (.tuple ds) (.tuple [])))); rw [eqv0]; exact k)
theorem pc_ne0 (h : SeqAt.shaped (.tuple ds) = true) (k : K (.d (.bool (!decide (ds = []))))) : PC .ne (.d (.tuple ds)) (.d (.tuple [])) K :=
  pc_ned h (by decide) (by show K (.d (.bool (!PyData.eqv (.tuple ds) (.tuple [])))); rw [eqv0]; exact k)
end
theorem str_ok (s : String) : PyData.strOk (Str.ofString s) = true := by
  unfold PyData.strOk
  rw [Str.ofString_eq_toList]
  simp only [List.all_toArray, List.all_map, List.all_eq_true, Function.comp, decide_eq_true_eq]
  intro c _
  have := c.valid
  rcases this with h | ⟨_, h⟩
  · exact Nat.lt_trans h (by decide)
  · exact h
theorem flt_s {m : Nat} (s : String) : Flt m (.str (Str.ofString s)) := ⟨by simp only [PyData.canLay0]; exact str_ok s, Nat.zero_le _⟩
/-! ### while -/
theorem pwh {Γ : Gl0} {c : E} {b : Ss} {ρ : Dn.Env} {K : Fl → Dn.Env → Prop} (m : Nat) (I : Nat → Dn.Env → Prop) (h0 : I m ρ) (hm : m < Γ.fuel)
    (st : ∀ m ρ, I m ρ → wE Γ c ρ fun o ρ => wTru o ρ fun k => PIf k (PSs Γ b ρ fun f ρ => wLoop f (∃ m', m' < m ∧ I m' ρ) (K .nx ρ) fun s => K (.ret s) ρ) (K .nx ρ)) : PWh Γ c b ρ K := by
  have go : ∀ n m ρ, m < n → I m ρ → ∃ f ρ', whGo (fun ρ => c.test Γ ρ) (fun ρ => b.dens Γ ρ) n ρ = .ok (f, ρ') ∧ K f ρ' := fun n => by
    induction n with
    | zero => intro m ρ h; omega
    | succ n ih =>
      intro m ρ h hi
      obtain ⟨k, ρ1, e1, hk⟩ := test_ok c (st m ρ hi)
      cases k with
      | false => exact ⟨.nx, ρ1, by unfold whGo; exact bnd e1 rfl, hk.2 rfl⟩
      | true =>
        obtain ⟨f, ρ2, e2, h2⟩ := hk.1 rfl
        cases f with
        | nx =>
          obtain ⟨m', hm', hi'⟩ := h2
          obtain ⟨f', ρ', e3, hk⟩ := ih m' ρ2 (by omega) hi'
          exact ⟨f', ρ', by unfold whGo; refine bnd e1 ?_; exact bnd e2 e3, hk⟩
        | cnt =>
          obtain ⟨m', hm', hi'⟩ := h2
          obtain ⟨f', ρ', e3, hk⟩ := ih m' ρ2 (by omega) hi'
          exact ⟨f', ρ', by unfold whGo; refine bnd e1 ?_; exact bnd e2 e3, hk⟩
        | brk => exact ⟨.nx, ρ2, by unfold whGo; refine bnd e1 ?_; exact bnd e2 rfl, h2⟩
        | ret s => exact ⟨.ret s, ρ2, by unfold whGo; refine bnd e1 ?_; exact bnd e2 rfl, h2⟩
  obtain ⟨f, ρ', e, k⟩ := go Γ.fuel m ρ hm h0
  exact ⟨f, ρ', e, k⟩
section
variable {K : SV → Prop} {a : List Int}
theorem pc_eqld (k : K (.d (.bool (decide (a = []))))) : PC .eq (.d (.list (a.map .int))) (.l []) K :=
  pc_eqt (α := List Int) a [] (by decide) rfl rfl k
theorem pc_nini {i : Int} {s : SV} (hs : s = .l (a.map .int) ∨ s = .d (.list (a.map .int)) ∨ s = .d (itD a)) (k : K (.d (.bool (decide (i ∉ a))))) : PC .nin (.d (.int i)) s K := by
  rcases hs with rfl | rfl | rfl <;> exact pc_nint (α := Int) i a (by decide) rfl rfl (fun _ e => by cases e) k
end
/-! ### sorted(set(t)) of pairs -/
theorem pairsD_map : ∀ ps : List (Int × Int), pairsD (ps.map prD) = .ok ps
  | [] => rfl
  | p :: ps => by
    show (pairsD (ps.map prD) >>= fun qs => R.ok ((p.1, p.2) :: qs)) = _
    rw [pairsD_map ps]
    rfl
theorem ltPr_iff {p q : Int × Int} : ltQ p q = true ↔ ltPr p q := ltQ_iff
theorem pf_sortset {ps : List (Int × Int)} {K : SV → Prop} (hl : ps.length < 64) (hb : ∀ p ∈ ps, 0 ≤ p.1 ∧ p.1 < 64 ∧ 0 ≤ p.2 ∧ p.2 < 64) (k : K (.l ((srtU ps).map Datum.toD))) : PF .sortedset (.d (.tuple (ps.map Datum.toD))) K := by
  refine ⟨_, ?_, k⟩
  show (pairsD (ps.map prD) >>= fun ps => if ps.length < 64 ∧ ps.all lowQ = true then R.ok (SV.l ((srtU ps).map prD)) else .bad) = _
  rw [pairsD_map, ok_bind, if_pos ⟨hl, List.all_eq_true.mpr fun p hp => by have := hb p hp; simp [lowQ]; omega⟩]
  rfl
theorem srtU_len (ps : List (Int × Int)) : (srtU ps).length ≤ ps.length := by
  unfold srtU
  rw [(List.mergeSort_perm _ _).length_eq]
  have h := eraseDupsQ_spec _ ps (Nat.le_refl _)
  have go : ∀ (W L : List (Int × Int)), W.Nodup → (∀ w ∈ W, w ∈ L) → W.length ≤ L.length := fun W => by
    induction W with
    | nil => intros; exact Nat.zero_le _
    | cons a W ih =>
      intro L h1 h2
      have ha := h2 a (List.mem_cons_self ..)
      have := ih (L.erase a) (List.nodup_cons.mp h1).2 fun w hw => (List.mem_erase_of_ne (fun e => (List.nodup_cons.mp h1).1 (by rw [← e]; exact hw))).mpr (h2 w (List.mem_cons_of_mem _ hw))
      rw [List.length_erase_of_mem ha] at this
      have := List.length_pos_of_mem ha
      rw [List.length_cons]
      omega
  exact go _ _ h.1 fun w hw => (h.2 w).mp hw
/-- the pairs of a web, as a law finds them and as the code does -/
theorem srtU_pairs {n m : Int} {ps qs : List (Int × Int)} (hw : WebOk n m ps) (hq : QOk n ps qs) : srtU ps = qs :=
  rise_eq (srtU_rise ps) (hq.rise.imp fun h => ltQ_iff.mpr h) fun a => by rw [srtU_mem, hq.mem]; exact ⟨fun h => ⟨h, hw.ok a h⟩, fun h => h.1⟩

end Dn

set_option Elab.async false
set_option linter.all false
set_option maxRecDepth 100000
set_option maxHeartbeats 4000000
namespace Dn
open PySem PySem.Spec PyProof.Rows
open PySem.W (Datum DatumOrd Tup T3 T4)
def d_rises : Fdef where
  nm := "rises"
  ps := ["things"]
  N := ["things", "one", "other"]
  fns := []
  blt := ["all", "zip"]
  md := [.ro]
  body := (.cons (.ret (.bf .all (.lc0 [("one", 1), ("other", 2)] (.t (.cons (.n 1) (.cons (.n 2) .nil))) (.zip (.var 0) (.slF (.var 0) (.int 1))) (.cmp .lt (.var 1) (.var 2)))))
    .nil)

def d_tools_of : Fdef where
  nm := "tools_of"
  ps := ["web", "hand"]
  N := ["web", "hand", "tool", "pair"]
  fns := []
  blt := ["tuple", "enumerate"]
  md := [.ro, .ro]
  body := (.cons (.ret (.bf .tuple (.lc1 [("tool", 2), ("pair", 3)] (.t (.cons (.n 2) (.cons (.n 3) .nil))) (.enum (.idx (.var 0) (.int 1))) (.cmp .in_ (.var 1) (.var 3)) (.var 2))))
    .nil)

def d_is_wish : Fdef where
  nm := "is_wish"
  ps := ["web", "hand", "thing"]
  N := ["web", "hand", "thing", "own", "tool"]
  fns := ["is_whole", "tools_of", "rises"]
  blt := ["isinstance", "tuple", "len", "all"]
  md := [.ro, .ro, .ro]
  body := (.cons (.ife (.or (.not (.isi .tuple (.var 2))) (.or (.cmp .eq (.bf .len (.var 2)) (.int 0)) (.not (.bf .all (.lc0 [("tool", 4)] (.n 4) (.e (.var 2)) (.call "is_whole" (.cons (.var 4) .nil)))))))
    (.cons (.ret (.bl false))
    .nil)
    .nil)
    (.cons (.asg (.n 3) (.call "tools_of" (.cons (.var 0) (.cons (.var 1) .nil))))
    (.cons (.ret (.and (.bf .all (.lc0 [("tool", 4)] (.n 4) (.e (.var 2)) (.cmp .in_ (.var 4) (.var 3)))) (.call "rises" (.cons (.var 2) .nil))))
    .nil)))

local macro_rules | `(tactic| walk_at "omegas") => `(tactic| first | rfl | omega | (simp only [List.length_append, List.length_map, List.length_cons, List.length_nil, List.length_range, List.length_zipIdx, List.length_reverse, List.length_replicate]; omega))
local macro_rules | `(tactic| walk_at "v1") => `(tactic| first
  | with_reducible refine pb_add ?_
  | with_reducible refine pb_sub ?_
  | with_reducible refine pc_lt ?_
  | with_reducible refine pc_gt ?_
  | with_reducible refine pc_le ?_
  | with_reducible refine pc_ge ?_
  | with_reducible refine pc_eqi ?_
  | with_reducible refine pc_nei ?_
  | with_reducible refine pif_t ?_
  | with_reducible refine pif_f ?_
  | with_reducible refine pif_not ?_
  | with_reducible refine pb_mod (by first | decide | omega) ?_
  | with_reducible refine pb_fdiv (by first | decide | omega) (by first | decide | omega) ?_
  | with_reducible refine pb_mul (by first | decide | omega) (by first | decide | omega) ?_
  | with_reducible refine pb_pow (by first | decide | omega) ?_
  | with_reducible refine pb_addt (by walk_at "omegas") ?_
  | with_reducible refine pb_addl (by walk_at "omegas") ?_
  | with_reducible refine PSide.mk (by walk_at "omegas") ?_
  | with_reducible refine pf2_max ?_
  | with_reducible refine pf2_min ?_
  | with_reducible refine pf_lentm ?_
  | with_reducible refine pf_lendm ?_
  | with_reducible refine pf_lenlm ?_
  | with_reducible refine pf_lent ?_
  | with_reducible refine pf_lend ?_
  | with_reducible refine pf_lenl ?_
  | with_reducible refine pf_tupl ?_
  | with_reducible refine pf_tupd ?_
  | with_reducible refine pf_tupt ?_
  | with_reducible refine pf_lisl ?_
  | with_reducible refine pf_lisd ?_
  | with_reducible refine pf_list ?_
  | with_reducible refine pf_abs ?_
  | with_reducible refine pf_any ?_
  | with_reducible refine pf_all ?_
  | with_reducible refine pc_in2 ?_
  | with_reducible refine pc_nin2 ?_
  | with_reducible refine pc_ini ?_
  | with_reducible refine pc_inil ?_
  | with_reducible refine pc_inid ?_
  | with_reducible refine pc_isb ?_
  | with_reducible refine pc_isnb ?_
  | with_reducible refine pc_eqb ?_
  | with_reducible refine pc_neb ?_
  | with_reducible refine prng (by omega) ?_ (by omega)
  | with_reducible refine prev_t ?_
  | with_reducible refine prev_l ?_
  | with_reducible refine pf_lrng (by omega) (by omega) ?_
  | with_reducible refine pf_trng (by omega) (by omega) ?_
  | with_reducible refine PSs.w ?_
  | refine pc_in2 ?_
  | refine pc_nin2 ?_
  | refine PX.mk _ rfl ?_
  | refine PIx.mk _ rfl ?_)
local macro_rules | `(tactic| walk_at "v") => `(tactic| ((conv => whnf); repeat (walk_at "v1"; (conv => whnf))))
local macro_rules | `(tactic| walk_at "w1") => `(tactic| first
  | with_reducible refine pb_add ?_
  | with_reducible refine pb_sub ?_
  | with_reducible refine pc_lt ?_
  | with_reducible refine pc_gt ?_
  | with_reducible refine pc_le ?_
  | with_reducible refine pc_ge ?_
  | with_reducible refine pc_eqi ?_
  | with_reducible refine pc_nei ?_
  | with_reducible refine pif_t ?_
  | with_reducible refine pif_f ?_
  | with_reducible refine pif_not ?_
  | with_reducible refine pb_mod (by first | decide | omega) ?_
  | with_reducible refine pb_fdiv (by first | decide | omega) (by first | decide | omega) ?_
  | with_reducible refine pb_mul (by first | decide | omega) (by first | decide | omega) ?_
  | with_reducible refine pb_pow (by first | decide | omega) ?_
  | with_reducible refine pb_addt (by walk_at "omegas") ?_
  | with_reducible refine pb_addl (by walk_at "omegas") ?_
  | with_reducible refine PSide.mk (by walk_at "omegas") ?_
  | with_reducible refine pf2_max ?_
  | with_reducible refine pf2_min ?_
  | with_reducible refine pf_lentm ?_
  | with_reducible refine pf_lendm ?_
  | with_reducible refine pf_lenlm ?_
  | with_reducible refine pf_lent ?_
  | with_reducible refine pf_lend ?_
  | with_reducible refine pf_lenl ?_
  | with_reducible refine pf_tupl ?_
  | with_reducible refine pf_tupd ?_
  | with_reducible refine pf_tupt ?_
  | with_reducible refine pf_lisl ?_
  | with_reducible refine pf_lisd ?_
  | with_reducible refine pf_list ?_
  | with_reducible refine pf_abs ?_
  | with_reducible refine pf_any ?_
  | with_reducible refine pf_all ?_
  | with_reducible refine pc_in2 ?_
  | with_reducible refine pc_nin2 ?_
  | with_reducible refine pc_ini ?_
  | with_reducible refine pc_inil ?_
  | with_reducible refine pc_inid ?_
  | with_reducible refine pc_isb ?_
  | with_reducible refine pc_isnb ?_
  | with_reducible refine pc_eqb ?_
  | with_reducible refine pc_neb ?_
  | with_reducible refine prng (by omega) ?_ (by omega)
  | with_reducible refine prev_t ?_
  | with_reducible refine prev_l ?_
  | with_reducible refine pf_lrng (by omega) (by omega) ?_
  | with_reducible refine pf_trng (by omega) (by omega) ?_
  | with_reducible refine PSs.w ?_
  | with_reducible refine pcut_t ?_
  | with_reducible refine pcut_d ?_
  | with_reducible refine pcut_l ?_
  | refine pc_in2 ?_
  | refine pc_nin2 ?_
  | refine PX.mk _ rfl ?_
  | refine PIx.mk _ rfl ?_)
local macro_rules | `(tactic| walk_at "w") => `(tactic| ((conv => whnf); repeat (walk_at "w1"; (conv => whnf))))
/-! ### tools of a hand, wishes -/
def risB (w : List Int) : Bool := (w.zip (w.drop 1)).all fun p => decide (p.1 < p.2)
theorem risB_iff : ∀ w : List Int, risB w = true ↔ w.Pairwise (· < ·)
  | [] => by simp [risB]
  | [a] => by simp [risB]
  | a :: b :: w => by
    have ih := risB_iff (b :: w)
    have e : risB (a :: b :: w) = (decide (a < b) && risB (b :: w)) := rfl
    rw [e, Bool.and_eq_true, ih, decide_eq_true_eq]
    constructor
    · rintro ⟨h1, h2⟩
      refine List.pairwise_cons.mpr ⟨fun x hx => ?_, h2⟩
      rcases List.mem_cons.mp hx with rfl | z
      · exact h1
      · exact Int.lt_trans h1 ((List.pairwise_cons.mp h2).1 x z)
    · intro h
      exact ⟨(List.pairwise_cons.mp h).1 b (List.mem_cons_self ..), (List.pairwise_cons.mp h).2⟩
def WishD (ps : List (Int × Int)) (h : Int) (x : D) : Prop := ∃ w : List Int, x = itD w ∧ w ≠ [] ∧ w.Pairwise (· < ·) ∧ ∀ t ∈ w, t ∈ ownT ps h
def TL (m : Nat) (x : D) : Prop := ∀ ds, x = .tuple ds → ds.length ≤ m
theorem tl_nt {m : Nat} {x : D} (h : ∀ ds, x ≠ .tuple ds) : TL m x := fun ds e => absurd e (h ds)
theorem tl_t {m : Nat} {ds : List D} (h : ds.length ≤ m) : TL m (.tuple ds) := fun _ e => by cases e; exact h
section
variable {T : Tab} {gl : Str → Option D} {fuel k : Nat}
theorem ri_of (h : T.at_ "rises" = some d_rises) (w : List Int) (hl : w.length ≤ 1000000) : Fx (Γof T gl fuel (k + 1)) "rises" [.d (itD w)] fun r => r = .d (.bool (risB w)) := by
  refine fx_of h rfl rfl ?_
  show PSs _ _ [some (.d (itD w)), none, none] _
  walk_at "w"
  rw [zipD_map]
  walk_at "w"
  refine lc0_map (xs := w.zip (cutN w (some 1) none)) (fun p : Int × Int => .bool (decide (p.1 < p.2))) (by rw [List.length_zip]; omega) ?_ ?_
  · rintro ⟨a, b⟩ _
    walk_at "w"
    exact ⟨rfl, rfl⟩
  walk_at "w"
  unfold risB
  rw [cutN_from (i := 1) (by omega)]
  rfl
theorem tof_of (h : T.at_ "tools_of" = some d_tools_of) (n : Int) (ps : List (Int × Int)) (j : Int) (hl : ps.length ≤ 1000000) : Fx (Γof T gl fuel (k + 1)) "tools_of" [.d (webD n ps), .d (.int j)] fun r => r = .d (itD (ownT ps j)) := by
  refine fx_of h rfl rfl ?_
  show PSs _ _ [some (.d (webD n ps)), some (.d (.int j)), none, none] _
  walk_at "w"
  rw [enumD_map]
  refine lc1_map (fun q => inP j q.1) (fun q => .int q.2) (by rw [List.length_zipIdx]; omega) ?_ ?_
  · rintro ⟨⟨a, c⟩, i⟩ _
    walk_at "w"
    refine ⟨rfl, fun _ => ?_, fun _ => ?_⟩
    · walk_at "w"
      exact ⟨rfl, rfl⟩
    · walk_at "w"
  walk_at "w"
  rw [show (ps.zipIdx.filter fun q => inP j q.1).map (fun q => PyData.int q.2) = (ownT ps j).map .int by unfold ownT; rw [List.map_map]; rfl]
theorem iw_of (wh : ∀ x, Fx (Γof T gl fuel k) "is_whole" [.d x] fun r => r = .d (.bool (isIntB x)))
    (to : ∀ (n : Int) (ps : List (Int × Int)) (j : Int), ps.length ≤ 1000000 → Fx (Γof T gl fuel k) "tools_of" [.d (webD n ps), .d (.int j)] fun r => r = .d (itD (ownT ps j)))
    (ri : ∀ w : List Int, w.length ≤ 1000000 → Fx (Γof T gl fuel k) "rises" [.d (itD w)] fun r => r = .d (.bool (risB w)))
    (h : T.at_ "is_wish" = some d_is_wish) (n : Int) (ps : List (Int × Int)) (j : Int) (x : D) (hp : ps.length ≤ 1000000) (hx : TL 1000000 x) :
    Fx (Γof T gl fuel (k + 1)) "is_wish" [.d (webD n ps), .d (.int j), .d x] fun r => ∃ b, r = .d (.bool b) ∧ (b = true ↔ WishD ps j x) := by
  refine fx_of h rfl rfl ?_
  show PSs _ _ [some (.d (webD n ps)), some (.d (.int j)), some (.d x), none, none] _
  cases x with
  | tuple ds =>
    have hdl := hx ds rfl
    walk_at "w"
    refine pif_dc (fun c => ?_) (fun c => ?_)
    · walk_at "w"
      refine ⟨false, rfl, ⟨fun z => (by cases z), fun ⟨w, e, h1, _⟩ => ?_⟩⟩
      cases e
      rw [List.length_map] at c
      exact absurd (List.length_eq_zero_iff.mp (by omega)) h1
    · walk_at "w"
      refine lc0_mapD (fun x => .bool (isIntB x)) (by omega) ?_ ?_
      · intro x _
        walk_at "w"
        refine pcall (wh x) rfl rfl ?_
        walk_at "w"
        exact ⟨rfl, rfl⟩
      walk_at "w"
      cases hb : ds.all isIntB with
      | false =>
        walk_at "w"
        refine ⟨false, rfl, ⟨fun z => (by cases z), fun ⟨w, e, _⟩ => ?_⟩⟩
        cases e
        have : (w.map PyData.int).all isIntB = true := by
          rw [List.all_map, List.all_eq_true]
          intro r hr
          rfl
        rw [this] at hb
        cases hb
      | true =>
        obtain ⟨w, rfl, _⟩ := ints_all (p := fun _ => True) ds (fun x hx => by
          have := List.all_eq_true.mp hb x hx
          cases x <;> first | exact ⟨_, rfl, trivial⟩ | cases this)
        rw [List.length_map] at hdl c
        walk_at "w"
        refine pcall (to n ps j hp) rfl rfl ?_
        walk_at "w"
        refine lc0_map (fun t => .bool (decide (t ∈ ownT ps j))) (by omega) ?_ ?_
        · intro t _
          walk_at "w"
          exact ⟨rfl, rfl⟩
        walk_at "w"
        cases ha : w.all fun t => decide (t ∈ ownT ps j) with
        | false =>
          walk_at "w"
          refine ⟨false, rfl, ⟨fun z => (by cases z), fun ⟨w', e, _, _, h2⟩ => ?_⟩⟩
          rw [← itD_inj e] at h2
          rw [List.all_eq_true.mpr fun t ht => decide_eq_true (h2 t ht)] at ha
          cases ha
        | true =>
          walk_at "w"
          refine pcall (ri w (by omega)) rfl rfl ?_
          walk_at "w"
          refine ⟨_, rfl, (risB_iff w).trans ⟨fun z => ⟨w, rfl, fun e => c (by rw [e]; rfl), z, fun t ht => of_decide_eq_true (List.all_eq_true.mp ha t ht)⟩, fun ⟨w', e, _, h1, _⟩ => ?_⟩⟩
          rw [itD_inj e]
          exact h1
  | _ =>
    walk_at "w"
    refine ⟨false, rfl, ⟨fun z => (by cases z), fun ⟨rs, e, _⟩ => (by cases e)⟩⟩
end

end Dn

set_option Elab.async false
set_option linter.all false
set_option maxRecDepth 100000
set_option maxHeartbeats 4000000
namespace Dn
open PySem PySem.Spec PyProof.Rows
open PySem.W (Datum DatumOrd Tup T3 T4)
def d_are_hands : Fdef where
  nm := "are_hands"
  ps := ["web", "thing"]
  N := ["web", "thing", "hand"]
  fns := ["is_between"]
  blt := ["isinstance", "tuple", "all"]
  md := [.ro, .ro]
  body := (.cons (.ret (.and (.isi .tuple (.var 1)) (.bf .all (.lc0 [("hand", 2)] (.n 2) (.e (.var 1)) (.call "is_between" (.cons (.var 2) (.cons (.int 0) (.cons (.bin .sub (.idx (.var 0) (.int 0)) (.int 1)) .nil))))))))
    .nil)

def d_shows_ring : Fdef where
  nm := "shows_ring"
  ps := ["web", "order", "thing"]
  N := ["web", "order", "thing", "pair"]
  fns := ["are_hands"]
  blt := ["len", "set", "all", "zip"]
  md := [.ro, .ro, .ro]
  body := (.cons (.ife (.or (.not (.call "are_hands" (.cons (.var 0) (.cons (.var 2) .nil)))) (.or (.cmp .lt (.bf .len (.var 2)) (.int 2)) (.cmp .ne (.bf .lenset (.var 2)) (.bf .len (.var 2)))))
    (.cons (.ret (.bl false))
    .nil)
    .nil)
    (.cons (.ret (.bf .all (.lc0 [("pair", 3)] (.n 3) (.zip (.var 2) (.bin .add (.slF (.var 2) (.int 1)) (.slT (.var 2) (.int 1)))) (.cmp .in_ (.var 3) (.var 1)))))
    .nil))

def d_ahead_of : Fdef where
  nm := "ahead_of"
  ps := ["order", "hand", "some"]
  N := ["order", "hand", "some", "ahead", "behind_it"]
  fns := []
  blt := []
  md := [.ro, .ro, .ro]
  body := (.cons (.ret (.fz (.lc1 [("ahead", 3), ("behind_it", 4)] (.t (.cons (.n 3) (.cons (.n 4) .nil))) (.e (.var 0)) (.and (.cmp .eq (.var 4) (.var 1)) (.cmp .in_ (.var 3) (.var 2))) (.var 3))))
    .nil)

def d_left_behind : Fdef where
  nm := "left_behind"
  ps := ["web", "order"]
  N := ["web", "order", "left", "fewer", "hand"]
  fns := ["ahead_of"]
  blt := ["list", "range", "len"]
  md := [.ro, .ro]
  body := (.cons (.asg (.n 2) (.fz (.bf .lrng (.idx (.var 0) (.int 0)))))
    (.cons (.asg (.n 3) (.fz (.lc1 [("hand", 4)] (.n 4) (.e (.var 2)) (.cmp .ne (.call "ahead_of" (.cons (.var 1) (.cons (.var 4) (.cons (.var 2) .nil)))) (.lst .nil)) (.var 4))))
    (.cons (.whl (.cmp .lt (.bf .len (.var 3)) (.bf .len (.var 2)))
    (.cons (.asg (.n 2) (.var 3))
    (.cons (.asg (.n 3) (.fz (.lc1 [("hand", 4)] (.n 4) (.e (.var 2)) (.cmp .ne (.call "ahead_of" (.cons (.var 1) (.cons (.var 4) (.cons (.var 2) .nil)))) (.lst .nil)) (.var 4))))
    .nil)))
    (.cons (.ret (.var 2))
    .nil))))

def d_ring_in : Fdef where
  nm := "ring_in"
  ps := ["web", "order"]
  N := ["web", "order", "left", "way", "here"]
  fns := ["left_behind", "ahead_of"]
  blt := ["tuple"]
  md := [.ro, .ro]
  body := (.cons (.asg (.n 2) (.call "left_behind" (.cons (.var 0) (.cons (.var 1) .nil))))
    (.cons (.ife (.cmp .eq (.var 2) (.lst .nil))
    (.cons (.ret .non)
    .nil)
    .nil)
    (.cons (.asg (.n 3) (.lst (.cons (.idx (.var 2) (.int 0)) .nil)))
    (.cons (.asg (.n 4) (.idx (.call "ahead_of" (.cons (.var 1) (.cons (.idx (.var 3) (.neg (.int 1))) (.cons (.var 2) .nil)))) (.int 0)))
    (.cons (.whl (.cmp .nin (.var 4) (.var 3))
    (.cons (.ex (.app 3 (.var 4)))
    (.cons (.asg (.n 4) (.idx (.call "ahead_of" (.cons (.var 1) (.cons (.var 4) (.cons (.var 2) .nil)))) (.int 0)))
    .nil)))
    (.cons (.ret (.bf .tuple (.rev (.slF (.var 3) (.mth .index 3 (.cons (.var 4) .nil))))))
    .nil))))))

local macro_rules | `(tactic| walk_at "omegas") => `(tactic| first | rfl | omega | (simp only [List.length_append, List.length_map, List.length_cons, List.length_nil, List.length_range, List.length_zipIdx, List.length_reverse, List.length_replicate]; omega))
local macro_rules | `(tactic| walk_at "v1") => `(tactic| first
  | with_reducible refine pb_add ?_
  | with_reducible refine pb_sub ?_
  | with_reducible refine pc_lt ?_
  | with_reducible refine pc_gt ?_
  | with_reducible refine pc_le ?_
  | with_reducible refine pc_ge ?_
  | with_reducible refine pc_eqi ?_
  | with_reducible refine pc_nei ?_
  | with_reducible refine pif_t ?_
  | with_reducible refine pif_f ?_
  | with_reducible refine pif_not ?_
  | with_reducible refine pb_mod (by first | decide | omega) ?_
  | with_reducible refine pb_fdiv (by first | decide | omega) (by first | decide | omega) ?_
  | with_reducible refine pb_mul (by first | decide | omega) (by first | decide | omega) ?_
  | with_reducible refine pb_pow (by first | decide | omega) ?_
  | with_reducible refine pb_addt (by walk_at "omegas") ?_
  | with_reducible refine pb_addl (by walk_at "omegas") ?_
  | with_reducible refine PSide.mk (by walk_at "omegas") ?_
  | with_reducible refine pf2_max ?_
  | with_reducible refine pf2_min ?_
  | with_reducible refine pf_lentm ?_
  | with_reducible refine pf_lendm ?_
  | with_reducible refine pf_lenlm ?_
  | with_reducible refine pf_lent ?_
  | with_reducible refine pf_lend ?_
  | with_reducible refine pf_lenl ?_
  | with_reducible refine pf_tupl ?_
  | with_reducible refine pf_tupd ?_
  | with_reducible refine pf_tupt ?_
  | with_reducible refine pf_lisl ?_
  | with_reducible refine pf_lisd ?_
  | with_reducible refine pf_list ?_
  | with_reducible refine pf_abs ?_
  | with_reducible refine pf_any ?_
  | with_reducible refine pf_all ?_
  | with_reducible refine pc_in2 ?_
  | with_reducible refine pc_nin2 ?_
  | with_reducible refine pc_ini ?_
  | with_reducible refine pc_inil ?_
  | with_reducible refine pc_inid ?_
  | with_reducible refine pc_isb ?_
  | with_reducible refine pc_isnb ?_
  | with_reducible refine pc_eqb ?_
  | with_reducible refine pc_neb ?_
  | with_reducible refine prng (by omega) ?_ (by omega)
  | with_reducible refine prev_t ?_
  | with_reducible refine prev_l ?_
  | with_reducible refine pf_lrng (by omega) (by omega) ?_
  | with_reducible refine pf_trng (by omega) (by omega) ?_
  | with_reducible refine PSs.w ?_
  | refine pc_in2 ?_
  | refine pc_nin2 ?_
  | refine PX.mk _ rfl ?_
  | refine PIx.mk _ rfl ?_)
local macro_rules | `(tactic| walk_at "v") => `(tactic| ((conv => whnf); repeat (walk_at "v1"; (conv => whnf))))
local macro_rules | `(tactic| walk_at "w1") => `(tactic| first
  | with_reducible refine pb_add ?_
  | with_reducible refine pb_sub ?_
  | with_reducible refine pc_lt ?_
  | with_reducible refine pc_gt ?_
  | with_reducible refine pc_le ?_
  | with_reducible refine pc_ge ?_
  | with_reducible refine pc_eqi ?_
  | with_reducible refine pc_nei ?_
  | with_reducible refine pif_t ?_
  | with_reducible refine pif_f ?_
  | with_reducible refine pif_not ?_
  | with_reducible refine pb_mod (by first | decide | omega) ?_
  | with_reducible refine pb_fdiv (by first | decide | omega) (by first | decide | omega) ?_
  | with_reducible refine pb_mul (by first | decide | omega) (by first | decide | omega) ?_
  | with_reducible refine pb_pow (by first | decide | omega) ?_
  | with_reducible refine pb_addt (by walk_at "omegas") ?_
  | with_reducible refine pb_addl (by walk_at "omegas") ?_
  | with_reducible refine PSide.mk (by walk_at "omegas") ?_
  | with_reducible refine pf2_max ?_
  | with_reducible refine pf2_min ?_
  | with_reducible refine pf_lentm ?_
  | with_reducible refine pf_lendm ?_
  | with_reducible refine pf_lenlm ?_
  | with_reducible refine pf_lent ?_
  | with_reducible refine pf_lend ?_
  | with_reducible refine pf_lenl ?_
  | with_reducible refine pf_tupl ?_
  | with_reducible refine pf_tupd ?_
  | with_reducible refine pf_tupt ?_
  | with_reducible refine pf_lisl ?_
  | with_reducible refine pf_lisd ?_
  | with_reducible refine pf_list ?_
  | with_reducible refine pf_abs ?_
  | with_reducible refine pf_any ?_
  | with_reducible refine pf_all ?_
  | with_reducible refine pc_in2 ?_
  | with_reducible refine pc_nin2 ?_
  | with_reducible refine pc_ini ?_
  | with_reducible refine pc_inil ?_
  | with_reducible refine pc_inid ?_
  | with_reducible refine pc_isb ?_
  | with_reducible refine pc_isnb ?_
  | with_reducible refine pc_eqb ?_
  | with_reducible refine pc_neb ?_
  | with_reducible refine prng (by omega) ?_ (by omega)
  | with_reducible refine prev_t ?_
  | with_reducible refine prev_l ?_
  | with_reducible refine pf_lrng (by omega) (by omega) ?_
  | with_reducible refine pf_trng (by omega) (by omega) ?_
  | with_reducible refine PSs.w ?_
  | with_reducible refine pcut_t ?_
  | with_reducible refine pcut_d ?_
  | with_reducible refine pcut_l ?_
  | refine pc_in2 ?_
  | refine pc_nin2 ?_
  | refine PX.mk _ rfl ?_
  | refine PIx.mk _ rfl ?_)
local macro_rules | `(tactic| walk_at "w") => `(tactic| ((conv => whnf); repeat (walk_at "w1"; (conv => whnf))))
/-! ### rings -/
def aheadL (os : List (Int × Int)) (h : Int) (S : List Int) : List Int := (os.filter fun o => decide (o.2 = h) && decide (o.1 ∈ S)).map (·.1)
theorem aheadL_mem {os : List (Int × Int)} {h a : Int} {S : List Int} : a ∈ aheadL os h S ↔ (a, h) ∈ os ∧ a ∈ S := by
  unfold aheadL
  rw [List.mem_map]
  constructor
  · rintro ⟨⟨x, y⟩, h1, rfl⟩
    rw [List.mem_filter, Bool.and_eq_true, decide_eq_true_eq, decide_eq_true_eq] at h1
    obtain ⟨h1, rfl, h2⟩ := h1
    exact ⟨h1, h2⟩
  · rintro ⟨h1, h2⟩
    exact ⟨(a, h), List.mem_filter.mpr ⟨h1, by simp [h2]⟩, rfl⟩
theorem aheadL_len (os : List (Int × Int)) (h : Int) (S : List Int) : (aheadL os h S).length ≤ os.length := by
  unfold aheadL
  rw [List.length_map]
  exact List.length_filter_le _ _
def nextL (os : List (Int × Int)) (L : List Int) : List Int := L.filter fun h => decide (aheadL os h L ≠ [])
theorem nextL_mem {os : List (Int × Int)} {L : List Int} {h : Int} : h ∈ nextL os L ↔ h ∈ L ∧ ∃ a ∈ L, (a, h) ∈ os := by
  unfold nextL
  rw [List.mem_filter, decide_eq_true_eq]
  constructor
  · rintro ⟨h1, h2⟩
    obtain ⟨a, ha⟩ := List.exists_mem_of_ne_nil _ h2
    have := aheadL_mem.mp ha
    exact ⟨h1, a, this.2, this.1⟩
  · rintro ⟨h1, a, h2, h3⟩
    exact ⟨h1, List.ne_nil_of_mem (aheadL_mem.mpr ⟨h3, h2⟩)⟩
structure LeftOk (n : Int) (os : List (Int × Int)) (L : List Int) : Prop where
  nod : L.Nodup
  hand : ∀ h ∈ L, 0 ≤ h ∧ h < n
  ahead : ∀ h ∈ L, ∃ a ∈ L, (a, h) ∈ os
  all : ∀ S : List Int, (∀ h ∈ S, 0 ≤ h ∧ h < n) → (∀ h ∈ S, ∃ a ∈ S, (a, h) ∈ os) → ∀ s ∈ S, s ∈ L
structure RingOk (n : Int) (os : List (Int × Int)) (R : List Int) : Prop where
  ne : R ≠ []
  nod : R.Nodup
  hand : ∀ h ∈ R, 0 ≤ h ∧ h < n
  nxt : ∀ (i : Nat) a b, R[i]? = some a → R[i + 1]? = some b → (a, b) ∈ os
  las : ∀ a b, R[R.length - 1]? = some a → R[0]? = some b → (a, b) ∈ os
theorem ring_rev {n : Int} {os : List (Int × Int)} {way L : List Int} {here : Int} (h1 : way.Nodup) (h2 : ∀ w ∈ way, w ∈ L) (h3 : ∀ h ∈ L, 0 ≤ h ∧ h < n)
    (h4 : ∀ (i : Nat) a b, way[i]? = some a → way[i + 1]? = some b → (b, a) ∈ os) (h5 : ∀ w, way[way.length - 1]? = some w → (here, w) ∈ os) (h6 : here ∈ way) : RingOk n os (way.drop (way.idxOf here)).reverse := by
  have hi : way.idxOf here < way.length := List.idxOf_lt_length_of_mem h6
  have hg : way[way.idxOf here]? = some here := by
    rw [List.getElem?_eq_getElem hi, List.getElem_idxOf hi]
  generalize way.idxOf here = k at hi hg
  have hl : (way.drop k).length = way.length - k := List.length_drop
  have rv : ∀ i, i < way.length - k → (way.drop k).reverse[i]? = way[way.length - 1 - i]? := fun i hi2 => by
    rw [List.getElem?_reverse (by omega), List.getElem?_drop, hl]
    congr 1
    omega
  refine ⟨?_, ((List.reverse_perm _).nodup_iff.mpr (h1.sublist (List.drop_sublist k way))), fun h hh => h3 h (h2 h (List.mem_of_mem_drop (List.mem_reverse.mp hh))), ?_, ?_⟩
  · intro e
    have := congrArg List.length e
    rw [List.length_reverse, hl] at this
    simp at this
    omega
  · intro i a b ha hb
    have hil := (List.getElem?_eq_some_iff.mp hb).1
    rw [List.length_reverse, hl] at hil
    rw [rv i (by omega)] at ha
    rw [rv (i + 1) (by omega)] at hb
    exact h4 (way.length - 1 - (i + 1)) b a hb (by rw [show way.length - 1 - (i + 1) + 1 = way.length - 1 - i by omega]; exact ha)
  · intro a b ha hb
    rw [List.length_reverse, hl, rv _ (by omega), show way.length - 1 - (way.length - k - 1) = k by omega, hg] at ha
    rw [rv 0 (by omega)] at hb
    cases ha
    exact h5 b hb
section
variable {T : Tab} {gl : Str → Option D} {fuel k : Nat}
def Ao (Γ : Gl0) : Prop := ∀ (os : List (Int × Int)) (h : Int) (S : List Int), os.length ≤ 1000 → Fx Γ "ahead_of" [.d (.tuple (os.map Datum.toD)), .d (.int h), .d (.list (S.map .int))] fun r => r = .d (.list ((aheadL os h S).map .int))
theorem ao_of (h : T.at_ "ahead_of" = some d_ahead_of) : Ao (Γof T gl fuel (k + 1)) := by
  intro os j S hl
  refine fx_of h rfl rfl ?_
  show PSs _ _ [some (.d (.tuple (os.map Datum.toD))), some (.d (.int j)), some (.d (.list (S.map .int))), none, none] _
  walk_at "w"
  refine lc1_map (fun o : Int × Int => decide (o.2 = j) && decide (o.1 ∈ S)) (fun o : Int × Int => .int o.1) (by omega) ?_ ?_
  · rintro ⟨a, c⟩ _
    walk_at "w"
    refine pc_eqi (i := c) ?_
    walk_at "w"
    refine pif_dc (fun d => ?_) (fun d => ?_)
    · walk_at "w"
      refine pc_inid (i := a) ?_
      walk_at "w"
      refine ⟨by simp [d], fun _ => ?_, fun _ => ?_⟩
      · walk_at "w"
        exact ⟨rfl, rfl⟩
      · walk_at "w"
    · walk_at "w"
      refine ⟨by simp [d], fun z => ?_, fun _ => ?_⟩
      · simp [d] at z
      · walk_at "w"
  walk_at "w"
  rw [show (os.filter fun o => decide (o.2 = j) && decide (o.1 ∈ S)).map (fun o => PyData.int o.1) = (aheadL os j S).map .int by unfold aheadL; rw [List.map_map]; rfl]
def Lb (Γ : Gl0) : Prop := ∀ (n : Int) (ps os : List (Int × Int)), 0 ≤ n → n ≤ 20 → os.length ≤ 1000 → Fx Γ "left_behind" [.d (webD n ps), .d (.tuple (os.map Datum.toD))] fun r => ∃ L : List Int, r = .d (.list (L.map .int)) ∧ LeftOk n os L
theorem lb_of (hf : 100 ≤ fuel) (ao : Ao (Γof T gl fuel k)) (h : T.at_ "left_behind" = some d_left_behind) : Lb (Γof T gl fuel (k + 1)) := by
  intro n ps os n0 n1 hl
  have one : ∀ (L : List Int) (h : Int), Fx (Γof T gl fuel k) "ahead_of" [.d (.tuple (os.map Datum.toD)), .d (.int h), .d (.list (L.map .int))] fun r => r = .d (.list ((aheadL os h L).map .int)) := fun L h => ao os h L hl
  refine fx_of h rfl rfl ?_
  show PSs _ _ [some (.d (webD n ps)), some (.d (.tuple (os.map Datum.toD))), none, none, none] _
  walk_at "w"
  rw [range_ints]
  refine lc1_map (f := .int) (fun h : Int => decide (aheadL os h ((List.range n.toNat).map fun (i : Nat) => (i : Int)) ≠ [])) (fun h : Int => .int h) (by simp; omega) ?_ ?_
  · intro j _
    walk_at "w"
    refine pcall (one _ j) rfl rfl ?_
    walk_at "w"
    refine pc_neld ?_
    walk_at "w"
    refine ⟨rfl, fun _ => ?_, fun _ => ?_⟩
    · walk_at "w"
      exact ⟨rfl, rfl⟩
    · walk_at "w"
  walk_at "w"
  refine pwh n.toNat (fun m ρ => ∃ L : List Int, ρ = [some (.d (webD n ps)), some (.d (.tuple (os.map Datum.toD))), some (.d (.list (L.map .int))), some (.d (.list ((nextL os L).map .int))), none] ∧ L.length = m ∧ L.length ≤ 100 ∧ L.Nodup ∧ (∀ h ∈ L, 0 ≤ h ∧ h < n) ∧
    (∀ S : List Int, (∀ h ∈ S, 0 ≤ h ∧ h < n) → (∀ h ∈ S, ∃ a ∈ S, (a, h) ∈ os) → ∀ s ∈ S, s ∈ L)) ⟨_, rfl, by simp, by simp; omega, ?_, ?_, ?_⟩ (by show n.toNat < fuel; omega) ?_
  · exact List.Pairwise.map _ (fun a b (h : a ≠ b) e => h (by omega)) List.nodup_range
  · intro h hh
    obtain ⟨i, hi, rfl⟩ := List.mem_map.mp hh
    have := List.mem_range.mp hi
    omega
  · intro S h1 _ s hs
    exact List.mem_map.mpr ⟨s.toNat, List.mem_range.mpr (by have := h1 s hs; omega), by have := h1 s hs; omega⟩
  · rintro m ρ ⟨L, rfl, rfl, hll, h1, h2, h3⟩
    walk_at "w"
    refine pif_dc (fun c => ?_) (fun c => ?_)
    · walk_at "w"
      refine lc1_map (fun h : Int => decide (aheadL os h (nextL os L) ≠ [])) (fun h : Int => .int h) (by omega) ?_ ?_
      · intro j _
        walk_at "w"
        refine pcall (one _ j) rfl rfl ?_
        walk_at "w"
        refine pc_neld ?_
        walk_at "w"
        refine ⟨rfl, fun _ => ?_, fun _ => ?_⟩
        · walk_at "w"
          exact ⟨rfl, rfl⟩
        · walk_at "w"
      walk_at "w"
      refine ⟨_, ?_, nextL os L, rfl, rfl, by omega, h1.sublist (List.filter_sublist), fun h hh => h2 h (nextL_mem.mp hh).1, fun S hS1 hS2 s hs => ?_⟩
      · omega
      · obtain ⟨a, ha, hao⟩ := hS2 s hs
        exact nextL_mem.mpr ⟨h3 S hS1 hS2 s hs, a, h3 S hS1 hS2 a ha, hao⟩
    · walk_at "w"
      refine ⟨L, rfl, h1, h2, fun h hh => ?_, h3⟩
      have e : nextL os L = L := List.filter_sublist.eq_of_length (by have := List.length_filter_le (fun h => decide (aheadL os h L ≠ [])) L; unfold nextL at c; omega)
      rw [← e] at hh
      obtain ⟨_, a, ha, hao⟩ := nextL_mem.mp hh
      exact ⟨a, ha, hao⟩
end

end Dn

set_option Elab.async false
set_option linter.all false
set_option maxRecDepth 100000
set_option maxHeartbeats 4000000
namespace Dn
open PySem PySem.Spec PyProof.Rows
open PySem.W (Datum DatumOrd Tup T3 T4)
local macro_rules | `(tactic| walk_at "omegas") => `(tactic| first | rfl | omega | (simp only [List.length_append, List.length_map, List.length_cons, List.length_nil, List.length_range, List.length_zipIdx, List.length_reverse, List.length_replicate]; omega))
local macro_rules | `(tactic| walk_at "v1") => `(tactic| first
  | with_reducible refine pb_add ?_
  | with_reducible refine pb_sub ?_
  | with_reducible refine pc_lt ?_
  | with_reducible refine pc_gt ?_
  | with_reducible refine pc_le ?_
  | with_reducible refine pc_ge ?_
  | with_reducible refine pc_eqi ?_
  | with_reducible refine pc_nei ?_
  | with_reducible refine pif_t ?_
  | with_reducible refine pif_f ?_
  | with_reducible refine pif_not ?_
  | with_reducible refine pb_mod (by first | decide | omega) ?_
  | with_reducible refine pb_fdiv (by first | decide | omega) (by first | decide | omega) ?_
  | with_reducible refine pb_mul (by first | decide | omega) (by first | decide | omega) ?_
  | with_reducible refine pb_pow (by first | decide | omega) ?_
  | with_reducible refine pb_addt (by walk_at "omegas") ?_
  | with_reducible refine pb_addl (by walk_at "omegas") ?_
  | with_reducible refine PSide.mk (by walk_at "omegas") ?_
  | with_reducible refine pf2_max ?_
  | with_reducible refine pf2_min ?_
  | with_reducible refine pf_lentm ?_
  | with_reducible refine pf_lendm ?_
  | with_reducible refine pf_lenlm ?_
  | with_reducible refine pf_lent ?_
  | with_reducible refine pf_lend ?_
  | with_reducible refine pf_lenl ?_
  | with_reducible refine pf_tupl ?_
  | with_reducible refine pf_tupd ?_
  | with_reducible refine pf_tupt ?_
  | with_reducible refine pf_lisl ?_
  | with_reducible refine pf_lisd ?_
  | with_reducible refine pf_list ?_
  | with_reducible refine pf_abs ?_
  | with_reducible refine pf_any ?_
  | with_reducible refine pf_all ?_
  | with_reducible refine pc_in2 ?_
  | with_reducible refine pc_nin2 ?_
  | with_reducible refine pc_ini ?_
  | with_reducible refine pc_inil ?_
  | with_reducible refine pc_inid ?_
  | with_reducible refine pc_isb ?_
  | with_reducible refine pc_isnb ?_
  | with_reducible refine pc_eqb ?_
  | with_reducible refine pc_neb ?_
  | with_reducible refine prng (by omega) ?_ (by omega)
  | with_reducible refine prev_t ?_
  | with_reducible refine prev_l ?_
  | with_reducible refine pf_lrng (by omega) (by omega) ?_
  | with_reducible refine pf_trng (by omega) (by omega) ?_
  | with_reducible refine PSs.w ?_
  | refine pc_in2 ?_
  | refine pc_nin2 ?_
  | refine PX.mk _ rfl ?_
  | refine PIx.mk _ rfl ?_)
local macro_rules | `(tactic| walk_at "v") => `(tactic| ((conv => whnf); repeat (walk_at "v1"; (conv => whnf))))
local macro_rules | `(tactic| walk_at "w1") => `(tactic| first
  | with_reducible refine pb_add ?_
  | with_reducible refine pb_sub ?_
  | with_reducible refine pc_lt ?_
  | with_reducible refine pc_gt ?_
  | with_reducible refine pc_le ?_
  | with_reducible refine pc_ge ?_
  | with_reducible refine pc_eqi ?_
  | with_reducible refine pc_nei ?_
  | with_reducible refine pif_t ?_
  | with_reducible refine pif_f ?_
  | with_reducible refine pif_not ?_
  | with_reducible refine pb_mod (by first | decide | omega) ?_
  | with_reducible refine pb_fdiv (by first | decide | omega) (by first | decide | omega) ?_
  | with_reducible refine pb_mul (by first | decide | omega) (by first | decide | omega) ?_
  | with_reducible refine pb_pow (by first | decide | omega) ?_
  | with_reducible refine pb_addt (by walk_at "omegas") ?_
  | with_reducible refine pb_addl (by walk_at "omegas") ?_
  | with_reducible refine PSide.mk (by walk_at "omegas") ?_
  | with_reducible refine pf2_max ?_
  | with_reducible refine pf2_min ?_
  | with_reducible refine pf_lentm ?_
  | with_reducible refine pf_lendm ?_
  | with_reducible refine pf_lenlm ?_
  | with_reducible refine pf_lent ?_
  | with_reducible refine pf_lend ?_
  | with_reducible refine pf_lenl ?_
  | with_reducible refine pf_tupl ?_
  | with_reducible refine pf_tupd ?_
  | with_reducible refine pf_tupt ?_
  | with_reducible refine pf_lisl ?_
  | with_reducible refine pf_lisd ?_
  | with_reducible refine pf_list ?_
  | with_reducible refine pf_abs ?_
  | with_reducible refine pf_any ?_
  | with_reducible refine pf_all ?_
  | with_reducible refine pc_in2 ?_
  | with_reducible refine pc_nin2 ?_
  | with_reducible refine pc_ini ?_
  | with_reducible refine pc_inil ?_
  | with_reducible refine pc_inid ?_
  | with_reducible refine pc_isb ?_
  | with_reducible refine pc_isnb ?_
  | with_reducible refine pc_eqb ?_
  | with_reducible refine pc_neb ?_
  | with_reducible refine prng (by omega) ?_ (by omega)
  | with_reducible refine prev_t ?_
  | with_reducible refine prev_l ?_
  | with_reducible refine pf_lrng (by omega) (by omega) ?_
  | with_reducible refine pf_trng (by omega) (by omega) ?_
  | with_reducible refine PSs.w ?_
  | with_reducible refine pcut_t ?_
  | with_reducible refine pcut_d ?_
  | with_reducible refine pcut_l ?_
  | refine pc_in2 ?_
  | refine pc_nin2 ?_
  | refine PX.mk _ rfl ?_
  | refine PIx.mk _ rfl ?_)
local macro_rules | `(tactic| walk_at "w") => `(tactic| ((conv => whnf); repeat (walk_at "w1"; (conv => whnf))))
theorem ed_len : ∀ (n : Nat) (l : List Int), l.length ≤ n → l.eraseDups.length ≤ l.length ∧ (l.eraseDups.length = l.length ↔ l.Nodup)
  | _, [], _ => ⟨by simp, by simp⟩
  | 0, a :: l, h => by simp at h
  | n + 1, a :: l, h => by
    rw [List.eraseDups_cons]
    have hf : (l.filter fun b => !b == a).length ≤ l.length := List.length_filter_le _ _
    have ih := ed_len n (l.filter fun b => !b == a) (by simp at h; omega)
    rw [List.length_cons, List.length_cons, List.nodup_cons]
    refine ⟨by omega, ?_⟩
    constructor
    · intro e
      have e1 : (l.filter fun b => !b == a).length = l.length := by omega
      have e2 : l.filter (fun b => !b == a) = l := List.filter_sublist.eq_of_length e1
      rw [e2] at ih
      refine ⟨fun hm => ?_, ih.2.mp (by rw [e2] at e; omega)⟩
      rw [← e2] at hm
      have := (List.mem_filter.mp hm).2
      simp at this
    · rintro ⟨h1, h2⟩
      have e2 : l.filter (fun b => !b == a) = l := List.filter_eq_self.mpr fun x hx => by
        simp only [Bool.not_eq_true', beq_eq_false_iff_ne]
        intro e
        exact h1 (e ▸ hx)
      rw [e2] at ih ⊢
      have := ih.2.mpr h2
      omega
def RingD (n : Int) (os : List (Int × Int)) (x : D) : Prop := ∃ hs : List Int, x = itD hs ∧ 2 ≤ hs.length ∧ (∀ h ∈ hs, 0 ≤ h ∧ h ≤ n - 1) ∧ hs.Nodup ∧ ∀ (i : Nat) a b, hs[i]? = some a → (hs ++ hs)[i + 1]? = some b → (a, b) ∈ os
theorem turn_get {hs : List Int} {i : Nat} (h : i < hs.length) : (hs.drop 1 ++ hs.take 1)[i]? = (hs ++ hs)[i + 1]? := by
  cases hs with
  | nil => simp at h
  | cons a t =>
    show (t ++ [a])[i]? = (t ++ a :: t)[i]?
    rw [show t ++ a :: t = (t ++ [a]) ++ t by simp]
    exact (List.getElem?_append_left (by simp at h ⊢; omega)).symm
theorem sub_len : ∀ {W L : List Int}, W.Nodup → (∀ w ∈ W, w ∈ L) → W.length ≤ L.length
  | [], _, _, _ => Nat.zero_le _
  | a :: W, L, h1, h2 => by
    have ha := h2 a (List.mem_cons_self ..)
    have := sub_len (W := W) (L := L.erase a) (List.nodup_cons.mp h1).2 fun w hw => (List.mem_erase_of_ne (fun e => (List.nodup_cons.mp h1).1 (by rw [← e]; exact hw))).mpr (h2 w (List.mem_cons_of_mem _ hw))
    rw [List.length_erase_of_mem ha] at this
    have := List.length_pos_of_mem ha
    rw [List.length_cons]
    omega
section
variable {T : Tab} {gl : Str → Option D} {fuel k : Nat}
def Ri (Γ : Gl0) : Prop := ∀ (n : Int) (ps os : List (Int × Int)), 0 ≤ n → n ≤ 20 → os.length ≤ 1000 → Fx Γ "ring_in" [.d (webD n ps), .d (.tuple (os.map Datum.toD))] fun r =>
  (r = .d .none ∧ LeftOk n os []) ∨ ∃ R : List Int, r = .d (itD R) ∧ RingOk n os R
theorem rin_of (hf : 100 ≤ fuel) (ao : Ao (Γof T gl fuel k)) (lb : Lb (Γof T gl fuel k)) (h : T.at_ "ring_in" = some d_ring_in) : Ri (Γof T gl fuel (k + 1)) := by
  intro n ps os n0 n1 hl
  refine fx_of h rfl rfl ?_
  show PSs _ _ [some (.d (webD n ps)), some (.d (.tuple (os.map Datum.toD))), none, none, none] _
  walk_at "v"
  refine pcall_q (lb n ps os n0 n1 hl) rfl rfl ?_
  rintro r ⟨L, rfl, hL⟩
  walk_at "v"
  refine pc_eqld ?_
  walk_at "v"
  refine pif_dc (fun c => ?_) (fun c => ?_)
  · walk_at "v"
    subst c
    exact .inl ⟨rfl, hL⟩
  · walk_at "v"
    have hp : 0 < L.length := List.length_pos_iff.mpr c
    refine px_d (by omega) (by omega) fun y0 hy0 => ?_
    have y0m := List.mem_of_getElem? hy0
    walk_at "v"
    refine pcall (ao os y0 L hl) rfl rfl ?_
    have ne : ∀ h ∈ L, aheadL os h L ≠ [] := fun h hh => by
      obtain ⟨a, ha, hao⟩ := hL.ahead h hh
      exact List.ne_nil_of_mem (aheadL_mem.mpr ⟨hao, ha⟩)
    walk_at "v"
    refine px_d (by omega) (by have := List.length_pos_iff.mpr (ne y0 y0m); omega) fun z0 hz0 => ?_
    have z0m := aheadL_mem.mp (List.mem_of_getElem? hz0)
    walk_at "v"
    have cnt : L.length ≤ n.toNat := by
      have h1 : L.length ≤ ((List.range n.toNat).map fun (i : Nat) => (i : Int)).length := sub_len hL.nod fun h hh => List.mem_map.mpr ⟨h.toNat, List.mem_range.mpr (by have := hL.hand h hh; omega), by have := hL.hand h hh; omega⟩
      simpa using h1
    refine pwh L.length (fun m ρ => ∃ (way : List Int) (here : Int), ρ = [some (.d (webD n ps)), some (.d (.tuple (os.map Datum.toD))), some (.d (.list (L.map .int))), some (.l (way.map .int)), some (.d (.int here))] ∧ m + way.length = L.length + 1 ∧ way.Nodup ∧ (∀ w ∈ way, w ∈ L) ∧ here ∈ L ∧
      (∀ (i : Nat) a b, way[i]? = some a → way[i + 1]? = some b → (b, a) ∈ os) ∧ (∀ w, way[way.length - 1]? = some w → (here, w) ∈ os)) ⟨[y0], z0, rfl, by simp, by simp, by simpa using y0m, z0m.2, by simp, ?_⟩ (by show L.length < fuel; omega) ?_
    · intro w hw
      cases hw
      exact z0m.1
    · rintro m ρ ⟨way, here, rfl, hm, h1, h2, h3, h4, h5⟩
      walk_at "v"
      refine pc_nini (.inl rfl) ?_
      walk_at "v"
      refine pif_dd (fun d => ?_) (fun d => ?_)
      · walk_at "v"
        refine pcall (ao os here L hl) rfl rfl ?_
        walk_at "v"
        refine px_d (by omega) (by have := List.length_pos_iff.mpr (ne here h3); omega) fun z hz => ?_
        have zm := aheadL_mem.mp (List.mem_of_getElem? hz)
        walk_at "v"
        have nd : (way ++ [here]).Nodup := by
          rw [List.nodup_append]
          exact ⟨h1, by simp, fun a ha b hb e => d (by rw [← List.mem_singleton.mp hb, ← e]; exact ha)⟩
        have sb : ∀ w ∈ way ++ [here], w ∈ L := fun w hw => by
          rcases List.mem_append.mp hw with q | q
          · exact h2 w q
          · rw [List.mem_singleton.mp q]; exact h3
        have ln := sub_len nd sb
        rw [List.length_append, List.length_singleton] at ln
        refine ⟨m - 1, by omega, way ++ [here], z, by rw [List.map_append]; rfl, by rw [List.length_append, List.length_singleton]; omega, nd, sb, zm.2, ?_, ?_⟩
        · intro i a b ha hb
          rcases Nat.lt_or_ge (i + 1) way.length with q | q
          · rw [List.getElem?_append_left (by omega)] at ha hb
            exact h4 i a b ha hb
          · rw [List.getElem?_append_right q] at hb
            have hi : i + 1 - way.length = 0 := by
              rcases Nat.eq_zero_or_pos (i + 1 - way.length) with t | t
              · exact t
              · rw [List.getElem?_eq_none (by simp; omega)] at hb; cases hb
            rw [hi] at hb
            cases hb
            rw [List.getElem?_append_left (by omega)] at ha
            exact h5 a (by rw [show way.length - 1 = i by omega]; exact ha)
        · intro w hw
          rw [List.length_append, List.length_singleton, Nat.add_sub_cancel, List.getElem?_append_right (Nat.le_refl _), Nat.sub_self] at hw
          cases hw
          exact zm.1
      · have hm2 : here ∈ way := Decidable.not_not.mp d
        walk_at "v"
        refine pm_idx hm2 ?_
        walk_at "v"
        refine pcut_l ?_
        walk_at "v"
        rw [cutN_from (by omega)]
        exact .inr ⟨_, rfl, ring_rev h1 h2 hL.hand h4 h5 hm2⟩
theorem ah_of (bt : ∀ x l m, Fx (Γof T gl fuel k) "is_between" [.d x, .d (.int l), .d (.int m)] fun r => r = .d (.bool (btw x l m))) (h : T.at_ "are_hands" = some d_are_hands) (n : Int) (ps : List (Int × Int)) (x : D) (hx : TL 1000 x) :
    Fx (Γof T gl fuel (k + 1)) "are_hands" [.d (webD n ps), .d x] fun r => ∃ b, r = .d (.bool b) ∧ (b = true ↔ ∃ hs : List Int, x = itD hs ∧ ∀ h ∈ hs, 0 ≤ h ∧ h ≤ n - 1) := by
  refine fx_of h rfl rfl ?_
  show PSs _ _ [some (.d (webD n ps)), some (.d x), none] _
  cases x with
  | tuple ds =>
    have hdl := hx ds rfl
    walk_at "v"
    refine lc0_mapD (fun x => .bool (btw x 0 (n - 1))) (by omega) ?_ ?_
    · intro x _
      walk_at "v"
      refine pcall (bt x 0 (n - 1)) rfl rfl ?_
      walk_at "v"
      exact ⟨rfl, rfl⟩
    walk_at "v"
    refine ⟨_, rfl, ⟨fun z => ?_, fun ⟨hs, e, q⟩ => ?_⟩⟩
    · obtain ⟨w, rfl, hw⟩ := ints_all (p := fun i => 0 ≤ i ∧ i ≤ n - 1) ds (fun x hx => btw_int (List.all_eq_true.mp z x hx))
      exact ⟨w, rfl, hw⟩
    · cases e
      rw [List.all_map, List.all_eq_true]
      intro r hr
      exact decide_eq_true (q r hr)
  | _ =>
    walk_at "v"
    exact ⟨false, rfl, ⟨fun z => (by cases z), fun ⟨hs, e, q⟩ => (by cases e)⟩⟩
theorem sri_of (ah : ∀ (n : Int) (ps : List (Int × Int)) (x : D), TL 1000 x → Fx (Γof T gl fuel k) "are_hands" [.d (webD n ps), .d x] fun r => ∃ b, r = .d (.bool b) ∧ (b = true ↔ ∃ hs : List Int, x = itD hs ∧ ∀ h ∈ hs, 0 ≤ h ∧ h ≤ n - 1))
    (h : T.at_ "shows_ring" = some d_shows_ring) (n : Int) (ps os : List (Int × Int)) (x : D) (hx : TL 1000 x) :
    Fx (Γof T gl fuel (k + 1)) "shows_ring" [.d (webD n ps), .d (.tuple (os.map Datum.toD)), .d x] fun r => ∃ b, r = .d (.bool b) ∧ (b = true ↔ RingD n os x) := by
  refine fx_of h rfl rfl ?_
  show PSs _ _ [some (.d (webD n ps)), some (.d (.tuple (os.map Datum.toD))), some (.d x), none] _
  walk_at "v"
  refine pcall_q (ah n ps x hx) rfl rfl ?_
  rintro r ⟨b, rfl, hb⟩
  cases b with
  | false =>
    walk_at "v"
    refine ⟨false, rfl, ⟨fun z => (by cases z), fun ⟨hs, e, _, q, _⟩ => ?_⟩⟩
    cases hb.mpr ⟨hs, e, q⟩
  | true =>
    obtain ⟨hs, rfl, hh⟩ := hb.mp rfl
    have hl := hx _ rfl
    rw [List.length_map] at hl
    walk_at "v"
    refine pif_dc (fun c => ?_) (fun c => ?_)
    · walk_at "v"
      refine ⟨false, rfl, ⟨fun z => (by cases z), fun ⟨hs', e, q, _⟩ => ?_⟩⟩
      rw [← itD_inj e] at q
      omega
    · walk_at "v"
      refine pf_lenset (by omega) ?_
      walk_at "v"
      have ed := ed_len _ hs (Nat.le_refl _)
      refine pif_dc (fun c2 => ?_) (fun c2 => ?_)
      · walk_at "v"
        refine ⟨false, rfl, ⟨fun z => (by cases z), fun ⟨hs', e, _, _, q, _⟩ => ?_⟩⟩
        rw [← itD_inj e] at q
        have := ed.2.mpr q
        omega
      · have nd := ed.2.mp (by omega)
        walk_at "v"
        refine pcut_t ?_
        walk_at "v"
        refine pcut_t ?_
        walk_at "v"
        rw [cutN_from (i := 1) (by omega), cutN_to (i := 1) (by omega)]
        refine pb_addt (by simp only [List.length_map, List.length_drop, List.length_take]; omega) ?_
        walk_at "v"
        rw [← List.map_append, zipD_map]
        walk_at "v"
        refine lc0_map (xs := hs.zip (hs.drop (1 : Int).toNat ++ hs.take (1 : Int).toNat)) (fun p : Int × Int => .bool (decide (p ∈ os))) (by rw [List.length_zip]; omega) ?_ ?_
        · rintro p _
          walk_at "v"
          refine pc_int (α := Int × Int) p os (by decide) rfl rfl (fun _ e => by cases e) ?_
          walk_at "v"
          exact ⟨congrArg PyData.bool (decide_eq_decide.mpr Iff.rfl), rfl⟩
        walk_at "v"
        refine ⟨_, rfl, ?_⟩
        rw [List.all_eq_true]
        constructor
        · intro z
          refine ⟨hs, rfl, by omega, hh, nd, fun i a b ha hb => ?_⟩
          have hil := (List.getElem?_eq_some_iff.mp ha).1
          rw [← turn_get hil] at hb
          exact of_decide_eq_true (z (a, b) (List.mem_of_getElem? (List.getElem?_zip_eq_some.mpr ⟨ha, hb⟩)))
        · rintro ⟨hs', e, _, _, _, q⟩ p hp
          rw [← itD_inj e] at q
          obtain ⟨i, hi⟩ := List.getElem?_of_mem hp
          obtain ⟨h1, h2⟩ := List.getElem?_zip_eq_some.mp hi
          have hil := (List.getElem?_eq_some_iff.mp h1).1
          exact decide_eq_true (q i p.1 p.2 h1 (by rw [← turn_get hil]; exact h2))
end

end Dn

set_option Elab.async false
set_option linter.all false
set_option maxRecDepth 100000
set_option maxHeartbeats 4000000
namespace Dn
open PySem PySem.Spec PyProof.Rows
open PySem.W (Datum DatumOrd Tup T3 T4)
def d_pairs_of : Fdef where
  nm := "pairs_of"
  ps := ["web"]
  N := ["web"]
  fns := []
  blt := ["tuple", "sorted", "set"]
  md := [.ro]
  body := (.cons (.ret (.bf .tuple (.bf .sortedset (.idx (.var 0) (.int 1)))))
    .nil)

def d_other_of : Fdef where
  nm := "other_of"
  ps := ["pair", "hand"]
  N := ["pair", "hand"]
  fns := []
  blt := []
  md := [.ro, .ro]
  body := (.cons (.ife (.cmp .eq (.idx (.var 0) (.int 0)) (.var 1))
    (.cons (.ret (.idx (.var 0) (.int 1)))
    .nil)
    .nil)
    (.cons (.ret (.idx (.var 0) (.int 0)))
    .nil))

def d_neighbours : Fdef where
  nm := "neighbours"
  ps := ["web", "hand"]
  N := ["web", "hand", "pair"]
  fns := ["pairs_of", "other_of"]
  blt := ["tuple", "sorted"]
  md := [.ro, .ro]
  body := (.cons (.ret (.bf .tuple (.bf .sorted (.lc1 [("pair", 2)] (.n 2) (.e (.call "pairs_of" (.cons (.var 0) .nil))) (.cmp .in_ (.var 1) (.var 2)) (.call "other_of" (.cons (.var 2) (.cons (.var 1) .nil)))))))
    .nil)

def d_is_turned_pair : Fdef where
  nm := "is_turned_pair"
  ps := ["thing", "pair"]
  N := ["thing", "pair", "one"]
  fns := ["is_whole"]
  blt := ["isinstance", "tuple", "len", "all"]
  md := [.ro, .ro]
  body := (.cons (.ife (.or (.not (.isi .tuple (.var 0))) (.or (.cmp .ne (.bf .len (.var 0)) (.int 2)) (.not (.bf .all (.lc0 [("one", 2)] (.n 2) (.e (.var 0)) (.call "is_whole" (.cons (.var 2) .nil)))))))
    (.cons (.ret (.bl false))
    .nil)
    .nil)
    (.cons (.ret (.cmp .in_ (.var 0) (.tup (.cons (.var 1) (.cons (.fz (.rev (.var 1))) .nil)))))
    .nil))

def d_is_order : Fdef where
  nm := "is_order"
  ps := ["web", "thing"]
  N := ["web", "thing", "pairs", "one", "pair"]
  fns := ["pairs_of", "is_turned_pair"]
  blt := ["isinstance", "tuple", "len", "all", "zip"]
  md := [.ro, .ro]
  body := (.cons (.asg (.n 2) (.call "pairs_of" (.cons (.var 0) .nil)))
    (.cons (.ife (.or (.not (.isi .tuple (.var 1))) (.cmp .ne (.bf .len (.var 1)) (.bf .len (.var 2))))
    (.cons (.ret (.bl false))
    .nil)
    .nil)
    (.cons (.ret (.bf .all (.lc0 [("one", 3), ("pair", 4)] (.t (.cons (.n 3) (.cons (.n 4) .nil))) (.zip (.var 1) (.var 2)) (.call "is_turned_pair" (.cons (.var 3) (.cons (.var 4) .nil))))))
    .nil)))

def d_first_order : Fdef where
  nm := "first_order"
  ps := ["web"]
  N := ["web"]
  fns := ["pairs_of"]
  blt := []
  md := [.ro]
  body := (.cons (.ret (.call "pairs_of" (.cons (.var 0) .nil)))
    .nil)

def d_fallen : Fdef where
  nm := "fallen"
  ps := ["web", "order", "hand"]
  N := ["web", "order", "hand", "pair"]
  fns := ["other_of"]
  blt := ["tuple"]
  md := [.ro, .ro, .ro]
  body := (.cons (.ret (.bf .tuple (.lc0 [("pair", 3)] (.n 3) (.e (.var 1)) (.ifx (.cmp .in_ (.var 2) (.var 3)) (.tup (.cons (.call "other_of" (.cons (.var 3) (.cons (.var 2) .nil))) (.cons (.var 2) .nil))) (.var 3)))))
    .nil)

def d_ranks : Fdef where
  nm := "ranks"
  ps := ["web", "order"]
  N := ["web", "order", "found", "turn", "ahead", "behind_it"]
  fns := []
  blt := ["range", "max", "tuple"]
  md := [.ro, .ro]
  body := (.cons (.asg (.n 2) (.bin .mul (.lst (.cons (.int 0) .nil)) (.idx (.var 0) (.int 0))))
    (.cons (.for_ (.n 3) (.rng1 (.idx (.var 0) (.int 0)))
    (.cons (.for_ (.t (.cons (.n 4) (.cons (.n 5) .nil))) (.e (.var 1))
    (.cons (.seti 2 (.var 5) (.bf2 .max (.idx (.var 2) (.var 5)) (.bin .add (.idx (.var 2) (.var 4)) (.int 1))))
    .nil))
    .nil))
    (.cons (.ret (.bf .tuple (.var 2)))
    .nil)))

def d_shows_ranks : Fdef where
  nm := "shows_ranks"
  ps := ["web", "order", "thing"]
  N := ["web", "order", "thing", "rank", "ahead", "behind_it"]
  fns := []
  blt := ["isinstance", "tuple", "len", "all", "int", "bool"]
  md := [.ro, .ro, .ro]
  body := (.cons (.ife (.or (.not (.isi .tuple (.var 2))) (.cmp .ne (.bf .len (.var 2)) (.idx (.var 0) (.int 0))))
    (.cons (.ret (.bl false))
    .nil)
    .nil)
    (.cons (.ife (.not (.bf .all (.lc0 [("rank", 3)] (.n 3) (.e (.var 2)) (.and (.isi .int (.var 3)) (.and (.not (.isi .bool (.var 3))) (.cmp .ge (.var 3) (.int 0)))))))
    (.cons (.ret (.bl false))
    .nil)
    .nil)
    (.cons (.ret (.bf .all (.lc0 [("ahead", 4), ("behind_it", 5)] (.t (.cons (.n 4) (.cons (.n 5) .nil))) (.e (.var 1)) (.cmp .lt (.idx (.var 2) (.var 4)) (.idx (.var 2) (.var 5))))))
    .nil)))

local macro_rules | `(tactic| walk_at "omegas") => `(tactic| first | rfl | omega | (simp only [List.length_append, List.length_map, List.length_cons, List.length_nil, List.length_range, List.length_zipIdx, List.length_reverse, List.length_replicate]; omega))
local macro_rules | `(tactic| walk_at "v1") => `(tactic| first
  | with_reducible refine pb_add ?_
  | with_reducible refine pb_sub ?_
  | with_reducible refine pc_lt ?_
  | with_reducible refine pc_gt ?_
  | with_reducible refine pc_le ?_
  | with_reducible refine pc_ge ?_
  | with_reducible refine pc_eqi ?_
  | with_reducible refine pc_nei ?_
  | with_reducible refine pif_t ?_
  | with_reducible refine pif_f ?_
  | with_reducible refine pif_not ?_
  | with_reducible refine pb_mod (by first | decide | omega) ?_
  | with_reducible refine pb_fdiv (by first | decide | omega) (by first | decide | omega) ?_
  | with_reducible refine pb_mul (by first | decide | omega) (by first | decide | omega) ?_
  | with_reducible refine pb_pow (by first | decide | omega) ?_
  | with_reducible refine pb_addt (by walk_at "omegas") ?_
  | with_reducible refine pb_addl (by walk_at "omegas") ?_
  | with_reducible refine PSide.mk (by walk_at "omegas") ?_
  | with_reducible refine pf2_max ?_
  | with_reducible refine pf2_min ?_
  | with_reducible refine pf_lentm ?_
  | with_reducible refine pf_lendm ?_
  | with_reducible refine pf_lenlm ?_
  | with_reducible refine pf_lent ?_
  | with_reducible refine pf_lend ?_
  | with_reducible refine pf_lenl ?_
  | with_reducible refine pf_tupl ?_
  | with_reducible refine pf_tupd ?_
  | with_reducible refine pf_tupt ?_
  | with_reducible refine pf_lisl ?_
  | with_reducible refine pf_lisd ?_
  | with_reducible refine pf_list ?_
  | with_reducible refine pf_abs ?_
  | with_reducible refine pf_any ?_
  | with_reducible refine pf_all ?_
  | with_reducible refine pc_in2 ?_
  | with_reducible refine pc_nin2 ?_
  | with_reducible refine pc_ini ?_
  | with_reducible refine pc_inil ?_
  | with_reducible refine pc_inid ?_
  | with_reducible refine pc_isb ?_
  | with_reducible refine pc_isnb ?_
  | with_reducible refine pc_eqb ?_
  | with_reducible refine pc_neb ?_
  | with_reducible refine prng (by omega) ?_ (by omega)
  | with_reducible refine prev_t ?_
  | with_reducible refine prev_l ?_
  | with_reducible refine pf_lrng (by omega) (by omega) ?_
  | with_reducible refine pf_trng (by omega) (by omega) ?_
  | with_reducible refine PSs.w ?_
  | refine pc_in2 ?_
  | refine pc_nin2 ?_
  | refine PX.mk _ rfl ?_
  | refine PIx.mk _ rfl ?_)
local macro_rules | `(tactic| walk_at "v") => `(tactic| ((conv => whnf); repeat (walk_at "v1"; (conv => whnf))))
local macro_rules | `(tactic| walk_at "w1") => `(tactic| first
  | with_reducible refine pb_add ?_
  | with_reducible refine pb_sub ?_
  | with_reducible refine pc_lt ?_
  | with_reducible refine pc_gt ?_
  | with_reducible refine pc_le ?_
  | with_reducible refine pc_ge ?_
  | with_reducible refine pc_eqi ?_
  | with_reducible refine pc_nei ?_
  | with_reducible refine pif_t ?_
  | with_reducible refine pif_f ?_
  | with_reducible refine pif_not ?_
  | with_reducible refine pb_mod (by first | decide | omega) ?_
  | with_reducible refine pb_fdiv (by first | decide | omega) (by first | decide | omega) ?_
  | with_reducible refine pb_mul (by first | decide | omega) (by first | decide | omega) ?_
  | with_reducible refine pb_pow (by first | decide | omega) ?_
  | with_reducible refine pb_addt (by walk_at "omegas") ?_
  | with_reducible refine pb_addl (by walk_at "omegas") ?_
  | with_reducible refine PSide.mk (by walk_at "omegas") ?_
  | with_reducible refine pf2_max ?_
  | with_reducible refine pf2_min ?_
  | with_reducible refine pf_lentm ?_
  | with_reducible refine pf_lendm ?_
  | with_reducible refine pf_lenlm ?_
  | with_reducible refine pf_lent ?_
  | with_reducible refine pf_lend ?_
  | with_reducible refine pf_lenl ?_
  | with_reducible refine pf_tupl ?_
  | with_reducible refine pf_tupd ?_
  | with_reducible refine pf_tupt ?_
  | with_reducible refine pf_lisl ?_
  | with_reducible refine pf_lisd ?_
  | with_reducible refine pf_list ?_
  | with_reducible refine pf_abs ?_
  | with_reducible refine pf_any ?_
  | with_reducible refine pf_all ?_
  | with_reducible refine pc_in2 ?_
  | with_reducible refine pc_nin2 ?_
  | with_reducible refine pc_ini ?_
  | with_reducible refine pc_inil ?_
  | with_reducible refine pc_inid ?_
  | with_reducible refine pc_isb ?_
  | with_reducible refine pc_isnb ?_
  | with_reducible refine pc_eqb ?_
  | with_reducible refine pc_neb ?_
  | with_reducible refine prng (by omega) ?_ (by omega)
  | with_reducible refine prev_t ?_
  | with_reducible refine prev_l ?_
  | with_reducible refine pf_lrng (by omega) (by omega) ?_
  | with_reducible refine pf_trng (by omega) (by omega) ?_
  | with_reducible refine PSs.w ?_
  | with_reducible refine pcut_t ?_
  | with_reducible refine pcut_d ?_
  | with_reducible refine pcut_l ?_
  | refine pc_in2 ?_
  | refine pc_nin2 ?_
  | refine PX.mk _ rfl ?_
  | refine PIx.mk _ rfl ?_)
local macro_rules | `(tactic| walk_at "w") => `(tactic| ((conv => whnf); repeat (walk_at "w1"; (conv => whnf))))
/-! ### pairs of a web, orders, falls, ranks -/
def Low (ps : List (Int × Int)) : Prop := ∀ p ∈ ps, 0 ≤ p.1 ∧ p.1 < 64 ∧ 0 ≤ p.2 ∧ p.2 < 64
theorem WebOk.low {n m : Int} {ps : List (Int × Int)} (h : WebOk n m ps) (hn : n ≤ 64) : Low ps := fun p hp => by
  have := h.ok p hp
  unfold Pok at this
  omega
def tpB : D → Int × Int → Bool
  | .tuple [.int a, .int b], q => decide ((a, b) = q ∨ (a, b) = swp q)
  | _, _ => false
theorem tpB_to (o q : Int × Int) : tpB (Datum.toD o) q = decide (o = q ∨ o = swp q) := rfl
theorem tpB_len : ∀ {ds : List D} {q : Int × Int}, ds.length ≠ 2 → tpB (.tuple ds) q = false
  | [], _, _ => rfl
  | [x], _, _ => by cases x <;> rfl
  | [x, y], _, h => (h rfl).elim
  | x :: y :: z :: r, _, _ => by cases x <;> first | rfl | (cases y <;> rfl)
def ordB (us : List (Int × Int)) : D → Bool
  | .tuple ds => decide (ds.length = us.length) && (ds.zip us).all fun p => tpB p.1 p.2
  | _ => false
section
variable {T : Tab} {gl : Str → Option D} {fuel k : Nat}
def Pa (Γ : Gl0) : Prop := ∀ (n : Int) (ps : List (Int × Int)), ps.length < 64 → Low ps → Fx Γ "pairs_of" [.d (webD n ps)] fun r => r = .d (.tuple ((srtU ps).map Datum.toD))
theorem pa_of (h : T.at_ "pairs_of" = some d_pairs_of) : Pa (Γof T gl fuel (k + 1)) := by
  intro n ps hl hb
  refine fx_of h rfl rfl ?_
  show PSs _ _ [some (.d (webD n ps))] _
  walk_at "v"
  refine pf_sortset hl hb ?_
  walk_at "v"
theorem fo_of (pa : Pa (Γof T gl fuel k)) (h : T.at_ "first_order" = some d_first_order) (n : Int) (ps : List (Int × Int)) (hl : ps.length < 64) (hb : Low ps) : Fx (Γof T gl fuel (k + 1)) "first_order" [.d (webD n ps)] fun r => r = .d (.tuple ((srtU ps).map Datum.toD)) := by
  refine fx_of h rfl rfl ?_
  show PSs _ _ [some (.d (webD n ps))] _
  walk_at "v"
  refine pcall (pa n ps hl hb) rfl rfl ?_
  walk_at "v"
def othI (p : Int × Int) (h : Int) : Int := if p.1 = h then p.2 else p.1
def Oo (Γ : Gl0) : Prop := ∀ (p : Int × Int) (h : Int), Fx Γ "other_of" [.d (Datum.toD p), .d (.int h)] fun r => r = .d (.int (othI p h))
theorem oo_of (h : T.at_ "other_of" = some d_other_of) : Oo (Γof T gl fuel (k + 1)) := by
  rintro ⟨a, b⟩ j
  refine fx_of h rfl rfl ?_
  show PSs _ _ [some (.d (.tuple [.int a, .int b])), some (.d (.int j))] _
  unfold othI
  walk_at "v"
  refine pif_dc (fun c => ?_) (fun c => ?_)
  · walk_at "v"
    show SV.d (.int b) = SV.d (.int (if a = j then b else a))
    rw [if_pos c]
  · walk_at "v"
    show SV.d (.int a) = SV.d (.int (if a = j then b else a))
    rw [if_neg c]
def fallP (h : Int) (p : Int × Int) : Int × Int := if inP h p = true then (othI p h, h) else p
def Fa (Γ : Gl0) : Prop := ∀ (n : Int) (ps os : List (Int × Int)) (h : Int), os.length ≤ 1000 → Fx Γ "fallen" [.d (webD n ps), .d (.tuple (os.map Datum.toD)), .d (.int h)] fun r => r = .d (.tuple ((os.map (fallP h)).map Datum.toD))
theorem fa_of (oo : Oo (Γof T gl fuel k)) (h : T.at_ "fallen" = some d_fallen) : Fa (Γof T gl fuel (k + 1)) := by
  intro n ps os j hl
  refine fx_of h rfl rfl ?_
  show PSs _ _ [some (.d (webD n ps)), some (.d (.tuple (os.map Datum.toD))), some (.d (.int j)), none] _
  walk_at "v"
  refine lc0_map (fun p : Int × Int => Datum.toD (fallP j p)) (by omega) ?_ ?_
  · rintro ⟨a, b⟩ _
    walk_at "v"
    refine pif_dc (fun c => ?_) (fun c => ?_)
    · walk_at "v"
      refine pcall (oo (a, b) j) rfl rfl ?_
      walk_at "v"
      refine ⟨?_, rfl⟩
      have c2 : inP j (a, b) = true := decide_eq_true c
      rw [fallP, if_pos c2]
      rfl
    · walk_at "v"
      refine ⟨?_, rfl⟩
      have c2 : ¬ inP j (a, b) = true := fun z => c (of_decide_eq_true z)
      rw [fallP, if_neg c2]
  walk_at "v"
  rw [List.map_map]
  rfl
def Tp (Γ : Gl0) : Prop := ∀ (x : D) (q : Int × Int), Fx Γ "is_turned_pair" [.d x, .d (Datum.toD q)] fun r => r = .d (.bool (tpB x q))
theorem tp_of (wh : ∀ x, Fx (Γof T gl fuel k) "is_whole" [.d x] fun r => r = .d (.bool (isIntB x))) (h : T.at_ "is_turned_pair" = some d_is_turned_pair) : Tp (Γof T gl fuel (k + 1)) := by
  rintro x ⟨c, d⟩
  refine fx_of h rfl rfl ?_
  show PSs _ _ [some (.d x), some (.d (.tuple [.int c, .int d])), none] _
  cases x with
  | tuple ds =>
    walk_at "v"
    refine pif_dc (fun c1 => ?_) (fun c1 => ?_)
    · walk_at "v"
      rw [tpB_len (by omega)]
    · obtain ⟨a, b, rfl⟩ : ∃ a b, ds = [a, b] := by
        match ds, c1 with
        | [], c => exact absurd (by decide) c
        | [_], c => exact absurd (by simp) c
        | [a, b], _ => exact ⟨a, b, rfl⟩
        | _ :: _ :: _ :: _, c => exact absurd (by simp; omega) c
      walk_at "v"
      refine lc0_mapD (fun x => .bool (isIntB x)) (by simp) ?_ ?_
      · intro x _
        walk_at "v"
        refine pcall (wh x) rfl rfl ?_
        walk_at "v"
        exact ⟨rfl, rfl⟩
      walk_at "v"
      cases a with
      | int a =>
        cases b with
        | int b =>
          refine pif_yes rfl ?_
          walk_at "v"
          refine prev_td ?_
          walk_at "v"
          refine pc_int (α := Int × Int) (a, b) [(c, d), (d, c)] (by decide) rfl rfl (fun _ e => by cases e) ?_
          walk_at "v"
          refine congrArg (fun b => SV.d (.bool b)) (decide_eq_decide.mpr ?_)
          simp [swp]
        | _ =>
          refine pif_no rfl ?_
          walk_at "v"
          rfl
      | _ =>
        refine pif_no rfl ?_
        walk_at "v"
        rfl
  | _ =>
    walk_at "v"
    rfl
def Io (Γ : Gl0) : Prop := ∀ (n : Int) (ps : List (Int × Int)) (x : D), ps.length < 64 → Low ps → Fx Γ "is_order" [.d (webD n ps), .d x] fun r => r = .d (.bool (ordB (srtU ps) x))
theorem io_of (pa : Pa (Γof T gl fuel k)) (tp : Tp (Γof T gl fuel k)) (h : T.at_ "is_order" = some d_is_order) : Io (Γof T gl fuel (k + 1)) := by
  intro n ps x hl hb
  have hul := srtU_len ps
  refine fx_of h rfl rfl ?_
  show PSs _ _ [some (.d (webD n ps)), some (.d x), none, none, none] _
  walk_at "v"
  refine pcall (pa n ps hl hb) rfl rfl ?_
  generalize srtU ps = us at hul
  cases x with
  | tuple ds =>
    walk_at "v"
    refine pif_dc (fun c1 => ?_) (fun c1 => ?_)
    · walk_at "v"
      show SV.d (.bool false) = SV.d (.bool (decide (ds.length = us.length) && (ds.zip us).all fun p => tpB p.1 p.2))
      rw [decide_eq_false (show ¬ ds.length = us.length by omega)]
      rfl
    · walk_at "v"
      rw [show ds = ds.map id by simp, zipD_map]
      walk_at "v"
      refine lc0_map (xs := ds.zip us) (fun p : D × (Int × Int) => .bool (tpB p.1 p.2)) (by rw [List.length_zip]; omega) ?_ ?_
      · rintro ⟨x, q⟩ _
        walk_at "v"
        refine pcall (tp x q) rfl rfl ?_
        walk_at "v"
        exact ⟨rfl, rfl⟩
      walk_at "v"
      show SV.d (.bool ((ds.zip us).all fun p => tpB p.1 p.2)) = SV.d (.bool (decide ((ds.map id).length = us.length) && ((ds.map id).zip us).all fun p => tpB p.1 p.2))
      rw [List.map_id, decide_eq_true (show ds.length = us.length by omega)]
      rfl
  | _ =>
    walk_at "v"
    rfl
/-! ranks -/
def rkAt (rs : List Int) (o : Int × Int) : Bool := decide (rs.getD o.1.toNat 0 < rs.getD o.2.toNat 0)
def RkD (n : Int) (os : List (Int × Int)) (p : Int → Prop) (x : D) : Prop := ∃ rs : List Int, x = itD rs ∧ (rs.length : Int) = n ∧ (∀ r ∈ rs, p r) ∧ os.all (rkAt rs) = true
def HandsIn (n : Int) (os : List (Int × Int)) : Prop := ∀ o ∈ os, 0 ≤ o.1 ∧ o.1 < n ∧ 0 ≤ o.2 ∧ o.2 < n
def Sr (Γ : Gl0) : Prop := ∀ (n : Int) (ps os : List (Int × Int)) (x : D), 0 ≤ n → n ≤ 10 → os.length ≤ 100 → HandsIn n os →
    Fx Γ "shows_ranks" [.d (webD n ps), .d (.tuple (os.map Datum.toD)), .d x] fun r => ∃ b, r = .d (.bool b) ∧ (b = true ↔ RkD n os (fun i => 0 ≤ i) x)
theorem shr_of (h : T.at_ "shows_ranks" = some d_shows_ranks) : Sr (Γof T gl fuel (k + 1)) := by
  intro n ps os x n0 n1 ho hh
  refine fx_of h rfl rfl ?_
  show PSs _ _ [some (.d (webD n ps)), some (.d (.tuple (os.map Datum.toD))), some (.d x), none, none, none] _
  cases x with
  | tuple ds =>
    walk_at "v"
    refine pif_dc (fun c => ?_) (fun c => ?_)
    · walk_at "v"
      refine ⟨false, rfl, ⟨fun z => (by cases z), fun ⟨rs, e, l, _⟩ => ?_⟩⟩
      cases e
      rw [List.length_map] at c
      exact absurd l c
    · have c : (ds.length : Int) = n := by omega
      walk_at "v"
      refine lc0_mapD (fun x => .bool (nat0 x)) (by omega) ?_ ?_
      · intro x _
        cases x <;> (walk_at "v"; exact ⟨rfl, rfl⟩)
      walk_at "v"
      cases hb : ds.all nat0 with
      | false =>
        walk_at "v"
        refine ⟨false, rfl, ⟨fun z => (by cases z), fun ⟨rs, e, _, l, _⟩ => ?_⟩⟩
        cases e
        have : (rs.map PyData.int).all nat0 = true := by
          rw [List.all_map, List.all_eq_true]
          intro r hr
          exact decide_eq_true (l r hr)
        rw [this] at hb
        cases hb
      | true =>
        obtain ⟨rs, rfl, hr⟩ := ints_all (p := fun i => 0 ≤ i) ds (fun x hx => by
          have := List.all_eq_true.mp hb x hx
          cases x <;> first | exact ⟨_, rfl, of_decide_eq_true this⟩ | cases this)
        rw [List.length_map] at c
        walk_at "v"
        refine lc0_map (fun o => .bool (rkAt rs o)) (by omega) ?_ ?_
        · intro o ho
          obtain ⟨h1, h2, h3, h4⟩ := hh o ho
          walk_at "v"
          refine px_t (by omega) (by omega) fun y hy => ?_
          walk_at "v"
          refine px_t (by omega) (by omega) fun z hz => ?_
          walk_at "v"
          exact ⟨by rw [rkAt, getD_of hy, getD_of hz], rfl⟩
        walk_at "v"
        refine ⟨_, rfl, ⟨fun z => ⟨rs, rfl, c, hr, z⟩, fun ⟨rs', e, _, _, z⟩ => ?_⟩⟩
        rw [itD_inj e]
        exact z
  | _ =>
    walk_at "v"
    refine ⟨false, rfl, ⟨fun z => (by cases z), fun ⟨rs, e, _⟩ => (by cases e)⟩⟩
theorem set_mem {rs : List Int} {i : Nat} {v B : Int} (h : ∀ r ∈ rs, 0 ≤ r ∧ r ≤ B) (hv : 0 ≤ v ∧ v ≤ B) : ∀ r ∈ rs.set i v, 0 ≤ r ∧ r ≤ B := fun r hr => by
  rcases List.mem_or_eq_of_mem_set hr with z | z
  · exact h r z
  · rw [z]; exact hv
theorem getD_set_ne {rs : List Int} {i j : Nat} {v : Int} (h : i ≠ j) : (rs.set i v).getD j 0 = rs.getD j 0 := by
  rw [List.getD_eq_getElem?_getD, List.getElem?_set_ne h, List.getD_eq_getElem?_getD]
theorem getD_set_self {rs : List Int} {i : Nat} {v : Int} (h : i < rs.length) : (rs.set i v).getD i 0 = v := by
  rw [List.getD_eq_getElem?_getD, List.getElem?_set_self h]; rfl
/-- an order without a ring: places of the hands by which all are ahead of those behind -/
structure Places (n : Int) (os : List (Int × Int)) (f : Int → Int) : Prop where
  rng : ∀ h, 0 ≤ h → h < n → 0 ≤ f h ∧ f h < n
  inj : ∀ g h, 0 ≤ g → g < n → 0 ≤ h → h < n → f g = f h → g = h
  lt : ∀ o ∈ os, f o.1 < f o.2
def Rk (Γ : Gl0) : Prop := ∀ (n : Int) (ps os : List (Int × Int)) (f : Int → Int), 0 ≤ n → n ≤ 10 → os.length ≤ 100 → HandsIn n os → Places n os f →
    Fx Γ "ranks" [.d (webD n ps), .d (.tuple (os.map Datum.toD))] fun r => ∃ rs : List Int, r = .d (itD rs) ∧ (rs.length : Int) = n ∧ (∀ r ∈ rs, 0 ≤ r ∧ r ≤ 10000) ∧ os.all (rkAt rs) = true
theorem rk_of (h : T.at_ "ranks" = some d_ranks) : Rk (Γof T gl fuel (k + 1)) := by
  intro n ps os f n0 n1 ho hh hf
  refine fx_of h rfl rfl ?_
  show PSs _ _ [some (.d (webD n ps)), some (.d (.tuple (os.map Datum.toD))), none, none, none, none] _
  walk_at "v"
  refine pb_mull (by omega) (by omega) (by simp) ?_
  walk_at "v"
  refine pfor_rng (fun i ρ => ∃ (rs : List Int) (ds : List D) (o3 o4 o5 : Option SV), ρ = [some (.d (webD n ps)), some (.d (.tuple (os.map Datum.toD))), some (.l ds), o3, o4, o5] ∧ ds = rs.map .int ∧ (rs.length : Int) = n ∧ (∀ r ∈ rs, 0 ≤ r ∧ r ≤ 100 * i) ∧ ∀ o ∈ os, f o.2 < i → rs.getD o.1.toNat 0 < rs.getD o.2.toNat 0)
    ⟨List.replicate n.toNat 0, _, _, _, _, rfl, rep1 0 _ _, by simp; omega, (fun r hr => by rw [List.eq_of_mem_replicate hr]; omega), fun o hoo hlt => ?_⟩ ?_ ?_
  · obtain ⟨k1, k2, k3, k4⟩ := hh o hoo
    have := (hf.rng o.2 k3 k4).1
    omega
  · rintro ρ ⟨rs, ds, o3, o4, o5, rfl, rfl, h1, h2, h3⟩
    walk_at "v"
    refine ⟨rs, rfl, h1, fun r hr => by have := h2 r hr; omega, List.all_eq_true.mpr fun o hoo => decide_eq_true (h3 o hoo ?_)⟩
    obtain ⟨k1, k2, k3, k4⟩ := hh o hoo
    have := (hf.rng o.2 k3 k4).2
    omega
  · rintro i ρ hi ⟨rs, ds, o3, o4, o5, rfl, rfl, h1, h2, h3⟩
    walk_at "v"
    refine pfor_map (fun j ρ => ∃ (rs : List Int) (ds : List D) (o4 o5 : Option SV), ρ = [some (.d (webD n ps)), some (.d (.tuple (os.map Datum.toD))), some (.l ds), some (.d (.int i)), o4, o5] ∧ ds = rs.map .int ∧ (rs.length : Int) = n ∧ (∀ r ∈ rs, 0 ≤ r ∧ r ≤ 100 * i + j) ∧
      (∀ o ∈ os, f o.2 < i → rs.getD o.1.toNat 0 < rs.getD o.2.toNat 0) ∧ ∀ o ∈ os.take j, f o.2 = i → rs.getD o.1.toNat 0 < rs.getD o.2.toNat 0)
      ⟨rs, _, _, _, rfl, rfl, h1, by simpa using h2, h3, by simp⟩ ?_ ?_
    · rintro ρ ⟨rs, ds, o4, o5, rfl, rfl, h1, h2, h3, h4⟩
      rw [List.take_length] at h4
      walk_at "v"
      refine ⟨rs, _, _, _, _, rfl, rfl, h1, fun r hr => by have := h2 r hr; omega, fun o hoo hlt => ?_⟩
      rcases Int.lt_or_eq_of_le (show f o.2 ≤ i by omega) with z | z
      · exact h3 o hoo z
      · exact h4 o hoo z
    · rintro j o ρ hj ⟨rs, ds, o4, o5, rfl, rfl, h1, h2, h3, h4⟩
      have hom := List.mem_of_getElem? hj
      obtain ⟨k1, k2, k3, k4⟩ := hh o hom
      have hlt := hf.lt o hom
      walk_at "v"
      refine px_l (by omega) (by omega) fun y hy => ?_
      walk_at "v"
      refine px_l (by omega) (by omega) fun z hz => ?_
      walk_at "v"
      have m1 := h2 y (List.mem_of_getElem? hy)
      have m2 := h2 z (List.mem_of_getElem? hz)
      refine pix (by omega) (by rw [List.length_map]; omega) ?_
      walk_at "v"
      have ey := getD_of hy
      have ez := getD_of hz
      -- a pair of which the one behind is placed no later than o's one
      have keep : ∀ p ∈ os, f p.2 ≤ f o.2 → rs.getD p.1.toNat 0 < rs.getD p.2.toNat 0 → (rs.set o.2.toNat (max y (z + 1))).getD p.1.toNat 0 < (rs.set o.2.toNat (max y (z + 1))).getD p.2.toNat 0 := fun p hp hle hq => by
        obtain ⟨q1, q2, q3, q4⟩ := hh p hp
        have := hf.lt p hp
        have ne : o.2.toNat ≠ p.1.toNat := fun e => by
          have : o.2 = p.1 := by omega
          rw [this] at hle
          omega
        rw [getD_set_ne ne]
        by_cases e : o.2 = p.2
        · rw [← e] at hq ⊢
          rw [getD_set_self (by omega)]
          omega
        · rw [getD_set_ne (fun z => e (by omega))]
          exact hq
      have far : ∀ p ∈ os, f p.2 < f o.2 → rs.getD p.1.toNat 0 < rs.getD p.2.toNat 0 → (rs.set o.2.toNat (max y (z + 1))).getD p.1.toNat 0 < (rs.set o.2.toNat (max y (z + 1))).getD p.2.toNat 0 := fun p hp hle hq => keep p hp (by omega) hq
      refine ⟨rs.set o.2.toNat (max y (z + 1)), _, _, _, rfl, by rw [List.map_set], by rw [List.length_set]; exact h1, set_mem (fun r hr => by have := h2 r hr; omega) (by omega), ?_, ?_⟩
      · intro p hp hlt2
        have hq := h3 p hp hlt2
        rcases Int.lt_or_le (f o.2) i with c | c
        · -- settled: nothing changes
          have := h3 o hom c
          have e : max y (z + 1) = y := by rw [ey, ez] at this; omega
          rw [e]
          have e2 : rs.set o.2.toNat y = rs := by
            obtain ⟨hl, he⟩ := List.getElem?_eq_some_iff.mp hy
            rw [← he]
            exact List.set_getElem_self hl
          rw [e2]
          exact hq
        · exact keep p hp (by omega) hq
      · intro p hp heq
        rw [take_snoc hj] at hp
        rcases List.mem_append.mp hp with c | c
        · have hpo := List.mem_of_mem_take c
          have hq := h4 p c heq
          rcases Int.lt_or_le (f o.2) i with d | d
          · have := h3 o hom d
            have e : max y (z + 1) = y := by rw [ey, ez] at this; omega
            rw [e]
            have e2 : rs.set o.2.toNat y = rs := by
              obtain ⟨hl, he⟩ := List.getElem?_eq_some_iff.mp hy
              rw [← he]
              exact List.set_getElem_self hl
            rw [e2]
            exact hq
          · exact keep p hpo (by omega) hq
        · rw [List.mem_singleton.mp c] at heq ⊢
          have ne : o.2.toNat ≠ o.1.toNat := fun e => by
            have : o.2 = o.1 := by omega
            rw [this] at hlt
            omega
          rw [getD_set_ne ne, getD_set_self (by omega), ez]
          omega
end

end Dn

set_option Elab.async false
set_option linter.all false
set_option maxRecDepth 100000
set_option maxHeartbeats 4000000
namespace Dn
open PySem PySem.Spec PyProof.Rows
open PySem.W (Datum DatumOrd Tup T3 T4)
local macro_rules | `(tactic| walk_at "omegas") => `(tactic| first | rfl | omega | (simp only [List.length_append, List.length_map, List.length_cons, List.length_nil, List.length_range, List.length_zipIdx, List.length_reverse, List.length_replicate]; omega))
local macro_rules | `(tactic| walk_at "v1") => `(tactic| first
  | with_reducible refine pb_add ?_
  | with_reducible refine pb_sub ?_
  | with_reducible refine pc_lt ?_
  | with_reducible refine pc_gt ?_
  | with_reducible refine pc_le ?_
  | with_reducible refine pc_ge ?_
  | with_reducible refine pc_eqi ?_
  | with_reducible refine pc_nei ?_
  | with_reducible refine pif_t ?_
  | with_reducible refine pif_f ?_
  | with_reducible refine pif_not ?_
  | with_reducible refine pb_mod (by first | decide | omega) ?_
  | with_reducible refine pb_fdiv (by first | decide | omega) (by first | decide | omega) ?_
  | with_reducible refine pb_mul (by first | decide | omega) (by first | decide | omega) ?_
  | with_reducible refine pb_pow (by first | decide | omega) ?_
  | with_reducible refine pb_addt (by walk_at "omegas") ?_
  | with_reducible refine pb_addl (by walk_at "omegas") ?_
  | with_reducible refine PSide.mk (by walk_at "omegas") ?_
  | with_reducible refine pf2_max ?_
  | with_reducible refine pf2_min ?_
  | with_reducible refine pf_lentm ?_
  | with_reducible refine pf_lendm ?_
  | with_reducible refine pf_lenlm ?_
  | with_reducible refine pf_lent ?_
  | with_reducible refine pf_lend ?_
  | with_reducible refine pf_lenl ?_
  | with_reducible refine pf_tupl ?_
  | with_reducible refine pf_tupd ?_
  | with_reducible refine pf_tupt ?_
  | with_reducible refine pf_lisl ?_
  | with_reducible refine pf_lisd ?_
  | with_reducible refine pf_list ?_
  | with_reducible refine pf_abs ?_
  | with_reducible refine pf_any ?_
  | with_reducible refine pf_all ?_
  | with_reducible refine pc_in2 ?_
  | with_reducible refine pc_nin2 ?_
  | with_reducible refine pc_ini ?_
  | with_reducible refine pc_inil ?_
  | with_reducible refine pc_inid ?_
  | with_reducible refine pc_isb ?_
  | with_reducible refine pc_isnb ?_
  | with_reducible refine pc_eqb ?_
  | with_reducible refine pc_neb ?_
  | with_reducible refine prng (by omega) ?_ (by omega)
  | with_reducible refine prev_t ?_
  | with_reducible refine prev_l ?_
  | with_reducible refine pf_lrng (by omega) (by omega) ?_
  | with_reducible refine pf_trng (by omega) (by omega) ?_
  | with_reducible refine PSs.w ?_
  | refine pc_in2 ?_
  | refine pc_nin2 ?_
  | refine PX.mk _ rfl ?_
  | refine PIx.mk _ rfl ?_)
local macro_rules | `(tactic| walk_at "v") => `(tactic| ((conv => whnf); repeat (walk_at "v1"; (conv => whnf))))
local macro_rules | `(tactic| walk_at "w1") => `(tactic| first
  | with_reducible refine pb_add ?_
  | with_reducible refine pb_sub ?_
  | with_reducible refine pc_lt ?_
  | with_reducible refine pc_gt ?_
  | with_reducible refine pc_le ?_
  | with_reducible refine pc_ge ?_
  | with_reducible refine pc_eqi ?_
  | with_reducible refine pc_nei ?_
  | with_reducible refine pif_t ?_
  | with_reducible refine pif_f ?_
  | with_reducible refine pif_not ?_
  | with_reducible refine pb_mod (by first | decide | omega) ?_
  | with_reducible refine pb_fdiv (by first | decide | omega) (by first | decide | omega) ?_
  | with_reducible refine pb_mul (by first | decide | omega) (by first | decide | omega) ?_
  | with_reducible refine pb_pow (by first | decide | omega) ?_
  | with_reducible refine pb_addt (by walk_at "omegas") ?_
  | with_reducible refine pb_addl (by walk_at "omegas") ?_
  | with_reducible refine PSide.mk (by walk_at "omegas") ?_
  | with_reducible refine pf2_max ?_
  | with_reducible refine pf2_min ?_
  | with_reducible refine pf_lentm ?_
  | with_reducible refine pf_lendm ?_
  | with_reducible refine pf_lenlm ?_
  | with_reducible refine pf_lent ?_
  | with_reducible refine pf_lend ?_
  | with_reducible refine pf_lenl ?_
  | with_reducible refine pf_tupl ?_
  | with_reducible refine pf_tupd ?_
  | with_reducible refine pf_tupt ?_
  | with_reducible refine pf_lisl ?_
  | with_reducible refine pf_lisd ?_
  | with_reducible refine pf_list ?_
  | with_reducible refine pf_abs ?_
  | with_reducible refine pf_any ?_
  | with_reducible refine pf_all ?_
  | with_reducible refine pc_in2 ?_
  | with_reducible refine pc_nin2 ?_
  | with_reducible refine pc_ini ?_
  | with_reducible refine pc_inil ?_
  | with_reducible refine pc_inid ?_
  | with_reducible refine pc_isb ?_
  | with_reducible refine pc_isnb ?_
  | with_reducible refine pc_eqb ?_
  | with_reducible refine pc_neb ?_
  | with_reducible refine prng (by omega) ?_ (by omega)
  | with_reducible refine prev_t ?_
  | with_reducible refine prev_l ?_
  | with_reducible refine pf_lrng (by omega) (by omega) ?_
  | with_reducible refine pf_trng (by omega) (by omega) ?_
  | with_reducible refine PSs.w ?_
  | with_reducible refine pcut_t ?_
  | with_reducible refine pcut_d ?_
  | with_reducible refine pcut_l ?_
  | refine pc_in2 ?_
  | refine pc_nin2 ?_
  | refine PX.mk _ rfl ?_
  | refine PIx.mk _ rfl ?_)
local macro_rules | `(tactic| walk_at "w") => `(tactic| ((conv => whnf); repeat (walk_at "w1"; (conv => whnf))))
/-! ### repr -/
structure Shw (m n : Nat) (d : D) : Prop where
  lay : d.canLay0 = true
  dep : d.depth ≤ m
  wei : d.weight ≤ n
  sho : d.intsShort 13 = true
  shw : d.showable = true
  nod : noD d = true
  nod2 : d.hasDict = false
theorem shw_i {i : Int} (h0 : 0 ≤ i) (h1 : i < 1000000) : Shw 0 30 (.int i) := by
  have hl : i.natAbs.log2 < 20 := by
    by_cases h : i.natAbs = 0
    · rw [h]; decide
    · rw [Nat.log2_lt h]; omega
  refine ⟨rfl, by simp only [PyData.depth]; omega, ?_, ?_, by simp only [PyData.showable, decide_eq_true_eq]; omega, rfl, rfl⟩
  · simp only [PyData.weight]
    split <;> omega
  · simp only [PyData.intsShort, PyData.shown]
    exact decide_eq_true (Nat.le_trans (toString_length_le (k := 10) h0 (by decide) (by omega)) (show 10 ≤ 13 by decide))
theorem shw_all {m n : Nat} : ∀ {ds : List D}, (∀ d ∈ ds, Shw m n d) → PyData.canLayAll0 ds = true ∧ PyData.depthAll ds ≤ m ∧ PyData.weightAll ds ≤ ds.length * (n + 1) ∧ PyData.intsShortAll 13 ds = true ∧ PyData.showableAll ds = true ∧ noDs ds = true ∧ PyData.hasDictAll ds = false
  | [], _ => ⟨rfl, Nat.zero_le _, Nat.zero_le _, rfl, rfl, rfl, rfl⟩
  | d :: ds, h => by
    have h1 := h d (List.mem_cons_self ..)
    obtain ⟨a1, a2, a3, a4, a5, a6, a7⟩ := shw_all (ds := ds) fun x hx => h x (List.mem_cons_of_mem _ hx)
    refine ⟨?_, ?_, ?_, ?_, ?_, ?_, ?_⟩
    · simp only [PyData.canLayAll0, h1.lay, a1, Bool.and_self]
    · simp only [PyData.depthAll]; have := h1.dep; omega
    · simp only [PyData.weightAll, List.length_cons, Nat.succ_mul]; have := h1.wei; omega
    · simp only [PyData.intsShortAll, h1.sho, a4, Bool.and_self]
    · simp only [PyData.showableAll, h1.shw, a5, Bool.and_self]
    · simp only [noDs, h1.nod, a6, Bool.and_self]
    · simp only [PyData.hasDictAll, h1.nod2, a7, Bool.or_self]
theorem shw_t {m n : Nat} {ds : List D} (h : ∀ d ∈ ds, Shw m n d) : Shw (m + 1) (ds.length * (n + 1)) (.tuple ds) := by
  obtain ⟨a1, a2, a3, a4, a5, a6, a7⟩ := shw_all h
  exact ⟨by simp only [PyData.canLay0]; exact a1, by simp only [PyData.depth]; omega, by simp only [PyData.weight]; exact a3, by simp only [PyData.intsShort]; exact a4, by simp only [PyData.showable]; exact a5, by simp only [noD]; exact a6, by simp only [PyData.hasDict]; exact a7⟩
theorem Shw.mono {m n m' n' : Nat} {d : D} (h : Shw m n d) (l : m ≤ m') (l2 : n ≤ n') : Shw m' n' d := ⟨h.lay, Nat.le_trans h.dep l, Nat.le_trans h.wei l2, h.sho, h.shw, h.nod, h.nod2⟩
theorem showOk_of {m n : Nat} {ds : List D} (h : Shw m n (.tuple ds)) (hm : m ≤ 64) (hn : n ≤ 1048576) : showOk (.tuple ds) = true := by
  have l : PyData.layable0 (.tuple ds) = true := by
    unfold PyData.layable0
    have e : (2 : Nat) ^ 20 = 1048576 := by decide
    rw [h.lay, e, decide_eq_true (Nat.le_trans h.dep hm), decide_eq_true (Nat.le_trans h.wei hn)]
    rfl
  have := shown_le13 l h.sho
  unfold showOk
  rw [h.nod, h.shw, h.nod2, decide_eq_true (Nat.le_trans h.dep hm), decide_eq_true (show (PyData.tuple ds).shown.length ≤ LIM from Nat.le_trans this (by decide))]
  rfl
theorem pf_repr {x : D} {K : SV → Prop} (h : showOk x = true) (k : K (.d (.str x.shown))) : PF .repr (.d x) K := ⟨.d (.str x.shown), by cases x <;> first | (cases h; done) | exact if_pos h, k⟩
theorem pf_reprn {K : SV → Prop} (k : K (.d (.str "None"))) : PF .repr (.d .none) K := ⟨_, rfl, k⟩
theorem pf_repri {i : Int} {K : SV → Prop} (h : i.natAbs.log2 < 1920) (k : K (.d (.str (toString i)))) : PF .repr (.d (.int i)) K := ⟨_, if_pos h, k⟩
theorem show_pairs {os : List (Int × Int)} (hl : os.length ≤ 1000) (hh : ∀ o ∈ os, 0 ≤ o.1 ∧ o.1 < 1000 ∧ 0 ≤ o.2 ∧ o.2 < 1000) : showOk (.tuple (os.map Datum.toD)) = true := by
  have one : ∀ d ∈ os.map Datum.toD, Shw 1 62 d := fun d hd => by
    obtain ⟨o, ho, rfl⟩ := List.mem_map.mp hd
    have := hh o ho
    exact shw_t (ds := [.int o.1, .int o.2]) (m := 0) (n := 30) fun d hd => by
      simp only [List.mem_cons, List.not_mem_nil, or_false] at hd
      rcases hd with rfl | rfl
      · exact shw_i (by omega) (by omega)
      · exact shw_i (by omega) (by omega)
  exact showOk_of (shw_t one) (by decide) (by rw [List.length_map]; omega)
theorem show_ints {w : List Int} (hl : w.length ≤ 1000) (hh : ∀ i ∈ w, 0 ≤ i ∧ i < 1000000) : showOk (itD w) = true :=
  showOk_of (shw_t fun d hd => by
    obtain ⟨i, hi, rfl⟩ := List.mem_map.mp hd
    exact shw_i (hh i hi).1 (hh i hi).2) (by decide) (by rw [List.length_map]; omega)
/-- two equal texts -/
theorem pc_nes {x : Str} {K : SV → Prop} (k : K (.d (.bool false))) : PC .ne (.d (.str x)) (.d (.str x)) K := ⟨_, by show (R.ok (x == x) >>= fun b => bD (!b)) = _; simp; rfl, k⟩
theorem pc_eqs {x : Str} {K : SV → Prop} (k : K (.d (.bool true))) : PC .eq (.d (.str x)) (.d (.str x)) K := ⟨_, by show (R.ok (x == x) >>= fun b => bD b) = _; simp; rfl, k⟩

end Dn

set_option Elab.async false
set_option linter.all false
set_option maxRecDepth 100000
set_option maxHeartbeats 4000000
namespace Dn
open PySem PySem.Spec PyProof.Rows
open PySem.W (Datum DatumOrd Tup T3 T4)
local macro_rules | `(tactic| walk_at "omegas") => `(tactic| first | rfl | omega | (simp only [List.length_append, List.length_map, List.length_cons, List.length_nil, List.length_range, List.length_zipIdx, List.length_reverse, List.length_replicate]; omega))
local macro_rules | `(tactic| walk_at "v1") => `(tactic| first
  | with_reducible refine pb_add ?_
  | with_reducible refine pb_sub ?_
  | with_reducible refine pc_lt ?_
  | with_reducible refine pc_gt ?_
  | with_reducible refine pc_le ?_
  | with_reducible refine pc_ge ?_
  | with_reducible refine pc_eqi ?_
  | with_reducible refine pc_nei ?_
  | with_reducible refine pif_t ?_
  | with_reducible refine pif_f ?_
  | with_reducible refine pif_not ?_
  | with_reducible refine pb_mod (by first | decide | omega) ?_
  | with_reducible refine pb_fdiv (by first | decide | omega) (by first | decide | omega) ?_
  | with_reducible refine pb_mul (by first | decide | omega) (by first | decide | omega) ?_
  | with_reducible refine pb_pow (by first | decide | omega) ?_
  | with_reducible refine pb_addt (by walk_at "omegas") ?_
  | with_reducible refine pb_addl (by walk_at "omegas") ?_
  | with_reducible refine PSide.mk (by walk_at "omegas") ?_
  | with_reducible refine pf2_max ?_
  | with_reducible refine pf2_min ?_
  | with_reducible refine pf_lentm ?_
  | with_reducible refine pf_lendm ?_
  | with_reducible refine pf_lenlm ?_
  | with_reducible refine pf_lent ?_
  | with_reducible refine pf_lend ?_
  | with_reducible refine pf_lenl ?_
  | with_reducible refine pf_tupl ?_
  | with_reducible refine pf_tupd ?_
  | with_reducible refine pf_tupt ?_
  | with_reducible refine pf_lisl ?_
  | with_reducible refine pf_lisd ?_
  | with_reducible refine pf_list ?_
  | with_reducible refine pf_abs ?_
  | with_reducible refine pf_any ?_
  | with_reducible refine pf_all ?_
  | with_reducible refine pc_in2 ?_
  | with_reducible refine pc_nin2 ?_
  | with_reducible refine pc_ini ?_
  | with_reducible refine pc_inil ?_
  | with_reducible refine pc_inid ?_
  | with_reducible refine pc_isb ?_
  | with_reducible refine pc_isnb ?_
  | with_reducible refine pc_eqb ?_
  | with_reducible refine pc_neb ?_
  | with_reducible refine prng (by omega) ?_ (by omega)
  | with_reducible refine prev_t ?_
  | with_reducible refine prev_l ?_
  | with_reducible refine pf_lrng (by omega) (by omega) ?_
  | with_reducible refine pf_trng (by omega) (by omega) ?_
  | with_reducible refine PSs.w ?_
  | refine pc_in2 ?_
  | refine pc_nin2 ?_
  | refine PX.mk _ rfl ?_
  | refine PIx.mk _ rfl ?_)
local macro_rules | `(tactic| walk_at "v") => `(tactic| ((conv => whnf); repeat (walk_at "v1"; (conv => whnf))))
local macro_rules | `(tactic| walk_at "w1") => `(tactic| first
  | with_reducible refine pb_add ?_
  | with_reducible refine pb_sub ?_
  | with_reducible refine pc_lt ?_
  | with_reducible refine pc_gt ?_
  | with_reducible refine pc_le ?_
  | with_reducible refine pc_ge ?_
  | with_reducible refine pc_eqi ?_
  | with_reducible refine pc_nei ?_
  | with_reducible refine pif_t ?_
  | with_reducible refine pif_f ?_
  | with_reducible refine pif_not ?_
  | with_reducible refine pb_mod (by first | decide | omega) ?_
  | with_reducible refine pb_fdiv (by first | decide | omega) (by first | decide | omega) ?_
  | with_reducible refine pb_mul (by first | decide | omega) (by first | decide | omega) ?_
  | with_reducible refine pb_pow (by first | decide | omega) ?_
  | with_reducible refine pb_addt (by walk_at "omegas") ?_
  | with_reducible refine pb_addl (by walk_at "omegas") ?_
  | with_reducible refine PSide.mk (by walk_at "omegas") ?_
  | with_reducible refine pf2_max ?_
  | with_reducible refine pf2_min ?_
  | with_reducible refine pf_lentm ?_
  | with_reducible refine pf_lendm ?_
  | with_reducible refine pf_lenlm ?_
  | with_reducible refine pf_lent ?_
  | with_reducible refine pf_lend ?_
  | with_reducible refine pf_lenl ?_
  | with_reducible refine pf_tupl ?_
  | with_reducible refine pf_tupd ?_
  | with_reducible refine pf_tupt ?_
  | with_reducible refine pf_lisl ?_
  | with_reducible refine pf_lisd ?_
  | with_reducible refine pf_list ?_
  | with_reducible refine pf_abs ?_
  | with_reducible refine pf_any ?_
  | with_reducible refine pf_all ?_
  | with_reducible refine pc_in2 ?_
  | with_reducible refine pc_nin2 ?_
  | with_reducible refine pc_ini ?_
  | with_reducible refine pc_inil ?_
  | with_reducible refine pc_inid ?_
  | with_reducible refine pc_isb ?_
  | with_reducible refine pc_isnb ?_
  | with_reducible refine pc_eqb ?_
  | with_reducible refine pc_neb ?_
  | with_reducible refine prng (by omega) ?_ (by omega)
  | with_reducible refine prev_t ?_
  | with_reducible refine prev_l ?_
  | with_reducible refine pf_lrng (by omega) (by omega) ?_
  | with_reducible refine pf_trng (by omega) (by omega) ?_
  | with_reducible refine PSs.w ?_
  | with_reducible refine pcut_t ?_
  | with_reducible refine pcut_d ?_
  | with_reducible refine pcut_l ?_
  | refine pc_in2 ?_
  | refine pc_nin2 ?_
  | refine PX.mk _ rfl ?_
  | refine PIx.mk _ rfl ?_)
local macro_rules | `(tactic| walk_at "w") => `(tactic| ((conv => whnf); repeat (walk_at "w1"; (conv => whnf))))
theorem riseI_eq : ∀ {l m : List Int}, l.Pairwise (· < ·) → m.Pairwise (· < ·) → (∀ a, a ∈ l ↔ a ∈ m) → l = m
  | [], [], _, _, _ => rfl
  | [], b :: m, _, _, h => by have := (h b).mpr (List.mem_cons_self ..); simp at this
  | a :: l, [], _, _, h => by have := (h a).mp (List.mem_cons_self ..); simp at this
  | a :: l, b :: m, h1, h2, h => by
    rw [List.pairwise_cons] at h1 h2
    have e : a = b := by
      rcases List.mem_cons.mp ((h a).mp (List.mem_cons_self ..)) with z | z
      · exact z
      · rcases List.mem_cons.mp ((h b).mpr (List.mem_cons_self ..)) with y | y
        · exact y.symm
        · have := h2.1 a z; have := h1.1 b y; omega
    subst e
    rw [riseI_eq h1.2 h2.2 fun x => ⟨fun hx => ?_, fun hx => ?_⟩]
    · rcases List.mem_cons.mp ((h x).mp (List.mem_cons_of_mem _ hx)) with z | z
      · have := h1.1 x hx; omega
      · exact z
    · rcases List.mem_cons.mp ((h x).mpr (List.mem_cons_of_mem _ hx)) with z | z
      · have := h2.1 x hx; omega
      · exact z
theorem leI (a b : Int) : leO a b = true ↔ a ≤ b := by
  show (!decide (b < a)) = true ↔ _
  rw [Bool.not_eq_true', decide_eq_false_iff_not]
  omega
theorem srtI_sorted (xs : List Int) : (srtO xs).Pairwise (· ≤ ·) :=
  (List.pairwise_mergeSort (le := leO) (fun a b c h1 h2 => by rw [leI] at *; omega) (fun a b => by
    rcases Int.le_total a b with h | h
    · rw [(leI a b).mpr h]; rfl
    · rw [(leI b a).mpr h, Bool.or_true]) xs).imp fun h => (leI _ _).mp h
theorem srtI_rise {xs : List Int} (h : xs.Nodup) : (srtO xs).Pairwise (· < ·) := by
  have h1 := srtI_sorted xs
  have h2 : (srtO xs).Nodup := (srtO_perm xs).nodup_iff.mpr h
  exact h1.imp₂ (fun a b x y => by omega) h2
section
variable {T : Tab} {gl : Str → Option D} {fuel k : Nat}
/-- the neighbours, exactly -/
def nearL (n : Int) (qs : List (Int × Int)) (h : Int) : List Int := ((List.range n.toNat).map fun (i : Nat) => (i : Int)).filter fun w => decide ((min w h, max w h) ∈ qs)
theorem nearL_rise (n : Int) (qs : List (Int × Int)) (h : Int) : (nearL n qs h).Pairwise (· < ·) :=
  List.Pairwise.filter _ (List.pairwise_map.mpr (List.pairwise_lt_range.imp fun h => by omega))
theorem nearL_mem {n : Int} {qs : List (Int × Int)} {h w : Int} : w ∈ nearL n qs h ↔ 0 ≤ w ∧ w < n ∧ (min w h, max w h) ∈ qs := by
  unfold nearL
  rw [List.mem_filter, List.mem_map, decide_eq_true_eq]
  constructor
  · rintro ⟨⟨i, hi, rfl⟩, c⟩
    have := List.mem_range.mp hi
    exact ⟨by omega, by omega, c⟩
  · rintro ⟨a, b, c⟩
    exact ⟨⟨w.toNat, List.mem_range.mpr (by omega), by omega⟩, c⟩
def Nbx (Γ : Gl0) : Prop := ∀ (n : Int) (ps : List (Int × Int)) (h : Int), ps.length < 64 → n ≤ 64 → (∀ p ∈ ps, Pok n p) → Fx Γ "neighbours" [.d (webD n ps), .d (.int h)] fun r => r = .d (itD (nearL n (srtU ps) h))
theorem near_eq {n : Int} {us : List (Int × Int)} (hr : us.Pairwise fun p q => ltQ p q = true) (hu : ∀ p ∈ us, Pok n p) (h : Int) : srtO ((us.filter fun q => inP h q).map fun q => othI q h) = nearL n us h := by
  have nd : ((us.filter fun q => inP h q).map fun q => othI q h).Nodup := by
    unfold List.Nodup
    rw [List.pairwise_map]
    refine (List.Pairwise.filter _ hr).imp_of_mem fun {p q} hp hq hpq e => ?_
    rw [List.mem_filter] at hp hq
    have p1 := hu p hp.1
    have q1 := hu q hq.1
    have p2 := of_decide_eq_true hp.2
    have q2 := of_decide_eq_true hq.2
    have lt := ltQ_iff.mp hpq
    unfold Pok at p1 q1
    unfold othI at e
    split at e <;> split at e <;> omega
  refine riseI_eq (srtI_rise nd) (nearL_rise ..) fun w => ?_
  rw [(srtO_perm _).mem_iff, nearL_mem, List.mem_map]
  constructor
  · rintro ⟨q, hq, rfl⟩
    rw [List.mem_filter] at hq
    have q1 := hu q hq.1
    have q2 := of_decide_eq_true hq.2
    unfold Pok at q1
    have e : (min (othI q h) h, max (othI q h) h) = q := by
      unfold othI
      refine Prod.ext ?_ ?_ <;> simp only <;> split <;> omega
    rw [e]
    refine ⟨?_, ?_, hq.1⟩ <;> unfold othI <;> split <;> omega
  · rintro ⟨w0, w1, hm⟩
    have q1 := hu _ hm
    unfold Pok at q1
    simp only at q1
    refine ⟨_, List.mem_filter.mpr ⟨hm, ?_⟩, ?_⟩
    · exact decide_eq_true (by simp only; omega)
    · unfold othI
      simp only
      split <;> omega
theorem nbx_of (pa : Pa (Γof T gl fuel k)) (oo : Oo (Γof T gl fuel k)) (h : T.at_ "neighbours" = some d_neighbours) : Nbx (Γof T gl fuel (k + 1)) := by
  intro n ps j hl hn hb
  have hul := srtU_len ps
  refine fx_of h rfl rfl ?_
  show PSs _ _ [some (.d (webD n ps)), some (.d (.int j)), none] _
  walk_at "v"
  refine pcall (pa n ps hl (fun p hp => by have := hb p hp; unfold Pok at this; omega)) rfl rfl ?_
  walk_at "v"
  refine lc1_map (fun q => inP j q) (fun q => .int (othI q j)) (by omega) ?_ ?_
  · rintro ⟨a, b⟩ _
    walk_at "v"
    refine ⟨rfl, fun _ => ?_, fun _ => ?_⟩
    · walk_at "v"
      refine pcall (oo (a, b) j) rfl rfl ?_
      walk_at "v"
      exact ⟨rfl, rfl⟩
    · walk_at "v"
  have hfl : ((srtU ps).filter fun q => inP j q).length ≤ (srtU ps).length := List.length_filter_le _ _
  walk_at "v"
  refine pf_srt (((srtU ps).filter fun q => inP j q).map fun q => othI q j) (by rw [List.map_map]; rfl) (by decide) (by rw [List.length_map]; omega) (.inr fun x _ => rfl) ?_
  rw [near_eq (srtU_rise ps) (fun p hp => hb p (srtU_mem.mp hp)) j]
  walk_at "v"
  rfl
end

end Dn

set_option Elab.async false
set_option linter.all false
set_option maxRecDepth 100000
set_option maxHeartbeats 4000000
namespace Dn
open PySem PySem.Spec PyProof.Rows
open PySem.W (Datum DatumOrd Tup T3 T4)
local macro_rules | `(tactic| walk_at "omegas") => `(tactic| first | rfl | omega | (simp only [List.length_append, List.length_map, List.length_cons, List.length_nil, List.length_range, List.length_zipIdx, List.length_reverse, List.length_replicate]; omega))
local macro_rules | `(tactic| walk_at "v1") => `(tactic| first
  | with_reducible refine pb_add ?_
  | with_reducible refine pb_sub ?_
  | with_reducible refine pc_lt ?_
  | with_reducible refine pc_gt ?_
  | with_reducible refine pc_le ?_
  | with_reducible refine pc_ge ?_
  | with_reducible refine pc_eqi ?_
  | with_reducible refine pc_nei ?_
  | with_reducible refine pif_t ?_
  | with_reducible refine pif_f ?_
  | with_reducible refine pif_not ?_
  | with_reducible refine pb_mod (by first | decide | omega) ?_
  | with_reducible refine pb_fdiv (by first | decide | omega) (by first | decide | omega) ?_
  | with_reducible refine pb_mul (by first | decide | omega) (by first | decide | omega) ?_
  | with_reducible refine pb_pow (by first | decide | omega) ?_
  | with_reducible refine pb_addt (by walk_at "omegas") ?_
  | with_reducible refine pb_addl (by walk_at "omegas") ?_
  | with_reducible refine PSide.mk (by walk_at "omegas") ?_
  | with_reducible refine pf2_max ?_
  | with_reducible refine pf2_min ?_
  | with_reducible refine pf_lentm ?_
  | with_reducible refine pf_lendm ?_
  | with_reducible refine pf_lenlm ?_
  | with_reducible refine pf_lent ?_
  | with_reducible refine pf_lend ?_
  | with_reducible refine pf_lenl ?_
  | with_reducible refine pf_tupl ?_
  | with_reducible refine pf_tupd ?_
  | with_reducible refine pf_tupt ?_
  | with_reducible refine pf_lisl ?_
  | with_reducible refine pf_lisd ?_
  | with_reducible refine pf_list ?_
  | with_reducible refine pf_abs ?_
  | with_reducible refine pf_any ?_
  | with_reducible refine pf_all ?_
  | with_reducible refine pc_in2 ?_
  | with_reducible refine pc_nin2 ?_
  | with_reducible refine pc_ini ?_
  | with_reducible refine pc_inil ?_
  | with_reducible refine pc_inid ?_
  | with_reducible refine pc_isb ?_
  | with_reducible refine pc_isnb ?_
  | with_reducible refine pc_eqb ?_
  | with_reducible refine pc_neb ?_
  | with_reducible refine prng (by omega) ?_ (by omega)
  | with_reducible refine prev_t ?_
  | with_reducible refine prev_l ?_
  | with_reducible refine pf_lrng (by omega) (by omega) ?_
  | with_reducible refine pf_trng (by omega) (by omega) ?_
  | with_reducible refine PSs.w ?_
  | refine pc_in2 ?_
  | refine pc_nin2 ?_
  | refine PX.mk _ rfl ?_
  | refine PIx.mk _ rfl ?_)
local macro_rules | `(tactic| walk_at "v") => `(tactic| ((conv => whnf); repeat (walk_at "v1"; (conv => whnf))))
local macro_rules | `(tactic| walk_at "w1") => `(tactic| first
  | with_reducible refine pb_add ?_
  | with_reducible refine pb_sub ?_
  | with_reducible refine pc_lt ?_
  | with_reducible refine pc_gt ?_
  | with_reducible refine pc_le ?_
  | with_reducible refine pc_ge ?_
  | with_reducible refine pc_eqi ?_
  | with_reducible refine pc_nei ?_
  | with_reducible refine pif_t ?_
  | with_reducible refine pif_f ?_
  | with_reducible refine pif_not ?_
  | with_reducible refine pb_mod (by first | decide | omega) ?_
  | with_reducible refine pb_fdiv (by first | decide | omega) (by first | decide | omega) ?_
  | with_reducible refine pb_mul (by first | decide | omega) (by first | decide | omega) ?_
  | with_reducible refine pb_pow (by first | decide | omega) ?_
  | with_reducible refine pb_addt (by walk_at "omegas") ?_
  | with_reducible refine pb_addl (by walk_at "omegas") ?_
  | with_reducible refine PSide.mk (by walk_at "omegas") ?_
  | with_reducible refine pf2_max ?_
  | with_reducible refine pf2_min ?_
  | with_reducible refine pf_lentm ?_
  | with_reducible refine pf_lendm ?_
  | with_reducible refine pf_lenlm ?_
  | with_reducible refine pf_lent ?_
  | with_reducible refine pf_lend ?_
  | with_reducible refine pf_lenl ?_
  | with_reducible refine pf_tupl ?_
  | with_reducible refine pf_tupd ?_
  | with_reducible refine pf_tupt ?_
  | with_reducible refine pf_lisl ?_
  | with_reducible refine pf_lisd ?_
  | with_reducible refine pf_list ?_
  | with_reducible refine pf_abs ?_
  | with_reducible refine pf_any ?_
  | with_reducible refine pf_all ?_
  | with_reducible refine pc_in2 ?_
  | with_reducible refine pc_nin2 ?_
  | with_reducible refine pc_ini ?_
  | with_reducible refine pc_inil ?_
  | with_reducible refine pc_inid ?_
  | with_reducible refine pc_isb ?_
  | with_reducible refine pc_isnb ?_
  | with_reducible refine pc_eqb ?_
  | with_reducible refine pc_neb ?_
  | with_reducible refine prng (by omega) ?_ (by omega)
  | with_reducible refine prev_t ?_
  | with_reducible refine prev_l ?_
  | with_reducible refine pf_lrng (by omega) (by omega) ?_
  | with_reducible refine pf_trng (by omega) (by omega) ?_
  | with_reducible refine PSs.w ?_
  | with_reducible refine pcut_t ?_
  | with_reducible refine pcut_d ?_
  | with_reducible refine pcut_l ?_
  | refine pc_in2 ?_
  | refine pc_nin2 ?_
  | refine PX.mk _ rfl ?_
  | refine PIx.mk _ rfl ?_)
local macro_rules | `(tactic| walk_at "w") => `(tactic| ((conv => whnf); repeat (walk_at "w1"; (conv => whnf))))
def d__law_hand_b : Fdef where
  nm := "_law_hand"
  ps := ["_law_script"]
  N := ["_law_script", "_law_state", "_law_scale", "_law_cell", "_law_k", "_law_more"]
  fns := []
  blt := ["len", "abs", "enumerate"]
  md := [.ro]
  body := (.cons (.asg (.n 1) (.lst (.cons (.int 0) (.cons (.int 0) (.cons (.int 0) .nil)))))
    (.cons (.ife (.and (.cmp .gt (.bf .len (.var 0)) (.int 0)) (.cmp .ge (.idx (.var 0) (.int 0)) (.bin .pow (.int 10) (.int 18))))
    (.cons (.asg (.n 2) (.int 1))
    (.cons (.for_ (.n 3) (.e (.slT (.var 0) (.int 63)))
    (.cons (.seti 1 (.int 0) (.bin .add (.idx (.var 1) (.int 0)) (.bin .mul (.bin .mod (.bf .abs (.var 3)) (.bin .pow (.int 10) (.int 60))) (.var 2))))
    (.cons (.asg (.n 2) (.bin .mul (.var 2) (.bin .pow (.int 10) (.int 60))))
    .nil)))
    .nil))
    .nil)
    (.cons (.for_ (.t (.cons (.n 4) (.cons (.n 3) .nil))) (.enum (.slT (.var 0) (.int 63)))
    (.cons (.asg (.n 5) (.bin .add (.bin .add (.bin .mod (.var 3) (.int 2305843009213693951)) (.bin .mul (.int 7919) (.var 4))) (.int 3)))
    (.cons (.seti 1 (.int 1) (.bin .mod (.bin .add (.bin .mul (.idx (.var 1) (.int 1)) (.int 48271)) (.var 5)) (.int 2305843009213693951)))
    .nil)))
    (.cons (.ret (.mv 1))
    .nil))))

def d__law_hand_c : Fdef where
  nm := "_law_hand"
  ps := ["_law_script"]
  N := ["_law_script", "_law_state", "_law_place", "_law_cell", "_law_k", "_law_one"]
  fns := []
  blt := ["len", "abs", "enumerate"]
  md := [.ro]
  body := (.cons (.asg (.n 1) (.lst (.cons (.int 0) (.cons (.int 0) (.cons (.int 0) .nil)))))
    (.cons (.ife (.and (.cmp .gt (.bf .len (.var 0)) (.int 0)) (.cmp .ge (.idx (.var 0) (.int 0)) (.bin .pow (.int 10) (.int 18))))
    (.cons (.asg (.n 2) (.int 1))
    (.cons (.for_ (.n 3) (.e (.slT (.var 0) (.int 63)))
    (.cons (.seti 1 (.int 0) (.bin .add (.idx (.var 1) (.int 0)) (.bin .mul (.bin .mod (.bf .abs (.var 3)) (.bin .pow (.int 10) (.int 60))) (.var 2))))
    (.cons (.asg (.n 2) (.bin .mul (.var 2) (.bin .pow (.int 10) (.int 60))))
    .nil)))
    .nil))
    .nil)
    (.cons (.for_ (.t (.cons (.n 4) (.cons (.n 3) .nil))) (.enum (.slT (.var 0) (.int 63)))
    (.cons (.asg (.n 5) (.bin .add (.bin .add (.bin .mod (.var 3) (.int 2305843009213693951)) (.bin .mul (.int 7919) (.var 4))) (.int 3)))
    (.cons (.seti 1 (.int 1) (.bin .mod (.bin .add (.bin .mul (.idx (.var 1) (.int 1)) (.int 48271)) (.var 5)) (.int 2305843009213693951)))
    .nil)))
    (.cons (.ret (.mv 1))
    .nil))))

section
variable {T : Tab} {gl : Str → Option D} {fuel k : Nat}
theorem hdb_of (h : T.at_ "_law_hand" = some d__law_hand_b) : Hd (Γof T gl fuel (k + 1)) := by
  intro ns hl
  refine fx_of h rfl rfl ?_
  show PSs _ _ [some (.d (.list (ns.map .int))), none, none, none, none, none] _
  refine .seq (fun ρ => ρ = [some (.d (.list (ns.map .int))), some (.l [.int 0, .int 0, .int 0]), none, none, none, none]) ?_ ?_
  · walk_at "w"
    exact ⟨rfl, rfl⟩
  rintro _ rfl
  have hcl : (cutN ns none (some 63)).length ≤ 63 := Nat.le_trans cutN_len hl
  refine .seq (fun ρ => ∃ s0 o2 o3, 0 ≤ s0 ∧ ρ = [some (.d (.list (ns.map .int))), some (.l [.int s0, .int 0, .int 0]), o2, o3, none, none]) ?_ ?_
  · walk_at "w"
    refine pif_dc (fun hp => ?_) (fun hp => ?_)
    · walk_at "w"
      refine px_d (by omega) (by omega) fun y hy => ?_
      walk_at "w"
      refine pif_dc (fun hq => ?_) (fun hq => ?_)
      · walk_at "w"
        refine pfor_map (fun i ρ => ∃ s0 w o3, 0 ≤ s0 ∧ 0 ≤ w ∧ Bd w (200 * i + 1) ∧ ρ = [some (.d (.list (ns.map .int))), some (.l [.int s0, .int 0, .int 0]), some (.d (.int w)), o3, none, none]) ⟨0, 1, none, by decide, by decide, Bd.of (by decide) (by decide), rfl⟩ ?_ ?_
        · rintro ρ ⟨s0, w, o3, h0, h1, h2, rfl⟩
          exact ⟨rfl, s0, _, o3, h0, rfl⟩
        · rintro j n ρ hj ⟨s0, w, o3, h0, h1, h2, rfl⟩
          have hj' : j < 63 := by
            have := (List.getElem?_eq_some_iff.mp hj).1
            omega
          have p60 : (0 : Int) < 10 ^ 60 := by decide
          have b60 : Bd (10 ^ 60) 200 := Bd.of (by decide +kernel) (by decide +kernel)
          have ba : Bd ((if n < 0 then -n else n) % 10 ^ 60) 200 := Bd.mod p60 b60
          walk_at "w"
          refine pb_mulg (mulg ba h2 (by omega)) ?_
          walk_at "w"
          refine pb_mulg (mulg h2 b60 (by omega)) ?_
          walk_at "w"
          refine ⟨_, _, _, ?_, ?_, ?_, rfl⟩
          · exact Int.add_nonneg h0 (Int.mul_nonneg (Int.emod_nonneg _ (by decide)) h1)
          · exact Int.mul_nonneg h1 (by decide)
          · have := h2.mul b60
            rw [show 200 * (j + 1) + 1 = 200 * j + 1 + 200 by omega]
            exact this
      · walk_at "w"
        exact ⟨rfl, 0, _, _, by decide, rfl⟩
    · walk_at "w"
      exact ⟨rfl, 0, _, _, by decide, rfl⟩
  rintro _ ⟨s0, o2, o3, h0, rfl⟩
  walk_at "w"
  rw [enumD_map]
  refine pfor_map (fun i ρ => ∃ s1 o3 o4 o5, (0 ≤ s1 ∧ s1 < 2305843009213693951) ∧ ρ = [some (.d (.list (ns.map .int))), some (.l [.int s0, .int s1, .int 0]), o2, o3, o4, o5]) ⟨0, o3, none, none, by decide, rfl⟩ ?_ ?_
  · rintro ρ ⟨s1, o3, o4, o5, h1, rfl⟩
    walk_at "w"
    exact ⟨_, rfl, s0, s1, 0, rfl, h0, h1, by decide, by decide⟩
  · rintro j n ρ hj ⟨s1, o3, o4, o5, h1, rfl⟩
    have hj' : (n.2 : Int) < 63 := by
      have := List.getElem?_zipIdx (l := cutN ns none (some 63)) (i := 0) (j := j)
      rw [hj] at this
      have h2 := (List.getElem?_eq_some_iff.mp hj).1
      rw [List.length_zipIdx] at h2
      cases h3 : (cutN ns none (some 63))[j]? with
      | none => rw [h3] at this; cases this
      | some z => rw [h3] at this; cases this; simp; omega
    walk_at "w"
    exact ⟨_, _, _, _, ⟨Int.emod_nonneg _ (by decide), Int.emod_lt_of_pos _ (by decide)⟩, rfl⟩
theorem hdc_of (h : T.at_ "_law_hand" = some d__law_hand_c) : Hd (Γof T gl fuel (k + 1)) := by
  intro ns hl
  refine fx_of h rfl rfl ?_
  show PSs _ _ [some (.d (.list (ns.map .int))), none, none, none, none, none] _
  refine .seq (fun ρ => ρ = [some (.d (.list (ns.map .int))), some (.l [.int 0, .int 0, .int 0]), none, none, none, none]) ?_ ?_
  · walk_at "w"
    exact ⟨rfl, rfl⟩
  rintro _ rfl
  have hcl : (cutN ns none (some 63)).length ≤ 63 := Nat.le_trans cutN_len hl
  refine .seq (fun ρ => ∃ s0 o2 o3, 0 ≤ s0 ∧ ρ = [some (.d (.list (ns.map .int))), some (.l [.int s0, .int 0, .int 0]), o2, o3, none, none]) ?_ ?_
  · walk_at "w"
    refine pif_dc (fun hp => ?_) (fun hp => ?_)
    · walk_at "w"
      refine px_d (by omega) (by omega) fun y hy => ?_
      walk_at "w"
      refine pif_dc (fun hq => ?_) (fun hq => ?_)
      · walk_at "w"
        refine pfor_map (fun i ρ => ∃ s0 w o3, 0 ≤ s0 ∧ 0 ≤ w ∧ Bd w (200 * i + 1) ∧ ρ = [some (.d (.list (ns.map .int))), some (.l [.int s0, .int 0, .int 0]), some (.d (.int w)), o3, none, none]) ⟨0, 1, none, by decide, by decide, Bd.of (by decide) (by decide), rfl⟩ ?_ ?_
        · rintro ρ ⟨s0, w, o3, h0, h1, h2, rfl⟩
          exact ⟨rfl, s0, _, o3, h0, rfl⟩
        · rintro j n ρ hj ⟨s0, w, o3, h0, h1, h2, rfl⟩
          have hj' : j < 63 := by
            have := (List.getElem?_eq_some_iff.mp hj).1
            omega
          have p60 : (0 : Int) < 10 ^ 60 := by decide
          have b60 : Bd (10 ^ 60) 200 := Bd.of (by decide +kernel) (by decide +kernel)
          have ba : Bd ((if n < 0 then -n else n) % 10 ^ 60) 200 := Bd.mod p60 b60
          walk_at "w"
          refine pb_mulg (mulg ba h2 (by omega)) ?_
          walk_at "w"
          refine pb_mulg (mulg h2 b60 (by omega)) ?_
          walk_at "w"
          refine ⟨_, _, _, ?_, ?_, ?_, rfl⟩
          · exact Int.add_nonneg h0 (Int.mul_nonneg (Int.emod_nonneg _ (by decide)) h1)
          · exact Int.mul_nonneg h1 (by decide)
          · have := h2.mul b60
            rw [show 200 * (j + 1) + 1 = 200 * j + 1 + 200 by omega]
            exact this
      · walk_at "w"
        exact ⟨rfl, 0, _, _, by decide, rfl⟩
    · walk_at "w"
      exact ⟨rfl, 0, _, _, by decide, rfl⟩
  rintro _ ⟨s0, o2, o3, h0, rfl⟩
  walk_at "w"
  rw [enumD_map]
  refine pfor_map (fun i ρ => ∃ s1 o3 o4 o5, (0 ≤ s1 ∧ s1 < 2305843009213693951) ∧ ρ = [some (.d (.list (ns.map .int))), some (.l [.int s0, .int s1, .int 0]), o2, o3, o4, o5]) ⟨0, o3, none, none, by decide, rfl⟩ ?_ ?_
  · rintro ρ ⟨s1, o3, o4, o5, h1, rfl⟩
    walk_at "w"
    exact ⟨_, rfl, s0, s1, 0, rfl, h0, h1, by decide, by decide⟩
  · rintro j n ρ hj ⟨s1, o3, o4, o5, h1, rfl⟩
    have hj' : (n.2 : Int) < 63 := by
      have := List.getElem?_zipIdx (l := cutN ns none (some 63)) (i := 0) (j := j)
      rw [hj] at this
      have h2 := (List.getElem?_eq_some_iff.mp hj).1
      rw [List.length_zipIdx] at h2
      cases h3 : (cutN ns none (some 63))[j]? with
      | none => rw [h3] at this; cases this
      | some z => rw [h3] at this; cases this; simp; omega
    walk_at "w"
    exact ⟨_, _, _, _, ⟨Int.emod_nonneg _ (by decide), Int.emod_lt_of_pos _ (by decide)⟩, rfl⟩
end
theorem shw_s {x : Str} (h : PyData.strOk x = true) (hl : x.cps.size ≤ 20) : Shw 0 30 (.str x) :=
  ⟨by simp only [PyData.canLay0]; exact h, by simp only [PyData.depth]; omega, by simp only [PyData.weight]; omega, rfl, rfl, rfl, rfl⟩
theorem shw_S (s : String) (hl : (Str.ofString s).cps.size ≤ 20 := by decide) : Shw 0 30 (.str (Str.ofString s)) := shw_s (str_ok s) hl
theorem shw_n {m n : Nat} : Shw m n .none := ⟨rfl, by simp only [PyData.depth]; omega, by simp only [PyData.weight]; omega, rfl, rfl, rfl, rfl⟩
theorem shw_b {m n : Nat} (b : Bool) : Shw m n (.bool b) := ⟨rfl, by simp only [PyData.depth]; omega, by simp only [PyData.weight]; omega, rfl, rfl, rfl, rfl⟩
theorem shw_it {w : List Int} (hl : w.length ≤ 64) (hh : ∀ i ∈ w, 0 ≤ i ∧ i < 1000000) : Shw 1 2000 (itD w) :=
  (shw_t fun d hd => by
    obtain ⟨i, hi, rfl⟩ := List.mem_map.mp hd
    exact shw_i (hh i hi).1 (hh i hi).2).mono (Nat.le_refl _) (by rw [List.length_map]; omega)
theorem shw_pairs {os : List (Int × Int)} (hl : os.length ≤ 64) (hh : ∀ o ∈ os, 0 ≤ o.1 ∧ o.1 < 1000 ∧ 0 ≤ o.2 ∧ o.2 < 1000) : Shw 2 4100 (.tuple (os.map Datum.toD)) := by
  have one : ∀ d ∈ os.map Datum.toD, Shw 1 62 d := fun d hd => by
    obtain ⟨o, ho, rfl⟩ := List.mem_map.mp hd
    have := hh o ho
    exact shw_t (ds := [.int o.1, .int o.2]) (m := 0) (n := 30) fun d hd => by
      simp only [List.mem_cons, List.not_mem_nil, or_false] at hd
      rcases hd with rfl | rfl
      · exact shw_i (by omega) (by omega)
      · exact shw_i (by omega) (by omega)
  exact (shw_t one).mono (Nat.le_refl _) (by rw [List.length_map]; omega)
theorem pc_ners {s t : SV} (e : t.dat = s.dat) (h : SeqAt.shaped s.dat = true) {K : SV → Prop} (k : K (.d (.bool false))) : PC .ne s t K :=
  pc_ned h (by rw [e]; exact h) (by
    have l : s.dat.canLay0 = true := by
      unfold SeqAt.shaped at h
      rw [Bool.and_eq_true] at h
      exact h.1
    rw [e, SeqAt.eqv_refl _ l]
    exact k)
theorem pc_eqrs {s t : SV} (e : t.dat = s.dat) (h : SeqAt.shaped s.dat = true) {K : SV → Prop} (k : K (.d (.bool true))) : PC .eq s t K :=
  pc_eqd h (by rw [e]; exact h) (by
    have l : s.dat.canLay0 = true := by
      unfold SeqAt.shaped at h
      rw [Bool.and_eq_true] at h
      exact h.1
    rw [e, SeqAt.eqv_refl _ l]
    exact k)
theorem Shw.shp {m n : Nat} {d : D} (h : Shw m n d) (l : m ≤ 64) : SeqAt.shaped d = true := by
  unfold SeqAt.shaped
  rw [h.lay, Bool.true_and, decide_eq_true_eq]
  exact Nat.le_trans h.dep l
/-- a body cut behind n statements -/
def Ss.hd : Nat → Ss → Ss
  | 0, _ => .nil
  | _ + 1, .nil => .nil
  | n + 1, .cons s r => .cons s (Ss.hd n r)
def Ss.tl : Nat → Ss → Ss
  | 0, b => b
  | _ + 1, .nil => .nil
  | n + 1, .cons _ r => Ss.tl n r
theorem PSs.cut {Γ : Gl0} {K : Fl → Dn.Env → Prop} (M : Dn.Env → Prop) : ∀ (n : Nat) {b : Ss} {ρ : Dn.Env}, PSs Γ (b.hd n) ρ (fun f ρ => f = .nx ∧ M ρ) → (∀ ρ, M ρ → PSs Γ (b.tl n) ρ K) → PSs Γ b ρ K
  | 0, b, ρ, h1, h2 => by
    obtain ⟨f, ρ1, e, rfl, m⟩ := h1
    have e' : (R.ok (Fl.nx, ρ) : R (Fl × Dn.Env)) = .ok (Fl.nx, ρ1) := by
      unfold Ss.hd Ss.dens at e
      exact e
    cases e'
    exact h2 ρ m
  | n + 1, .nil, ρ, h1, h2 => by
    obtain ⟨f, ρ1, e, rfl, m⟩ := h1
    have e' : (R.ok (Fl.nx, ρ) : R (Fl × Dn.Env)) = .ok (Fl.nx, ρ1) := by
      unfold Ss.hd Ss.dens at e
      exact e
    cases e'
    exact h2 ρ m
  | n + 1, .cons s r, ρ, h1, h2 => by
    obtain ⟨f, ρ1, e, rfl, m⟩ := h1
    unfold Ss.hd Ss.dens at e
    obtain ⟨⟨f2, ρ2⟩, e1, e2⟩ := bind_ok e
    cases f2 with
    | nx =>
      obtain ⟨f', ρ', e3, k⟩ := PSs.cut M n (b := r) (ρ := ρ2) ⟨.nx, ρ1, e2, rfl, m⟩ h2
      exact ⟨f', ρ', by unfold Ss.dens; exact bnd e1 e3, k⟩
    | brk => cases e2
    | cnt => cases e2
    | ret s => cases e2

end Dn

set_option Elab.async false
set_option linter.all false
set_option maxRecDepth 100000
set_option maxHeartbeats 4000000
namespace Dn
open PySem PySem.Spec PyProof.Rows
open PySem.W (Datum DatumOrd Tup T3 T4)
local macro_rules | `(tactic| walk_at "omegas") => `(tactic| first | rfl | omega | (simp only [List.length_append, List.length_map, List.length_cons, List.length_nil, List.length_range, List.length_zipIdx, List.length_reverse, List.length_replicate]; omega))
local macro_rules | `(tactic| walk_at "v1") => `(tactic| first
  | with_reducible refine pb_add ?_
  | with_reducible refine pb_sub ?_
  | with_reducible refine pc_lt ?_
  | with_reducible refine pc_gt ?_
  | with_reducible refine pc_le ?_
  | with_reducible refine pc_ge ?_
  | with_reducible refine pc_eqi ?_
  | with_reducible refine pc_nei ?_
  | with_reducible refine pif_t ?_
  | with_reducible refine pif_f ?_
  | with_reducible refine pif_not ?_
  | with_reducible refine pb_mod (by first | decide | omega) ?_
  | with_reducible refine pb_fdiv (by first | decide | omega) (by first | decide | omega) ?_
  | with_reducible refine pb_mul (by first | decide | omega) (by first | decide | omega) ?_
  | with_reducible refine pb_pow (by first | decide | omega) ?_
  | with_reducible refine pb_addt (by walk_at "omegas") ?_
  | with_reducible refine pb_addl (by walk_at "omegas") ?_
  | with_reducible refine PSide.mk (by walk_at "omegas") ?_
  | with_reducible refine pf2_max ?_
  | with_reducible refine pf2_min ?_
  | with_reducible refine pf_lentm ?_
  | with_reducible refine pf_lendm ?_
  | with_reducible refine pf_lenlm ?_
  | with_reducible refine pf_lent ?_
  | with_reducible refine pf_lend ?_
  | with_reducible refine pf_lenl ?_
  | with_reducible refine pf_tupl ?_
  | with_reducible refine pf_tupd ?_
  | with_reducible refine pf_tupt ?_
  | with_reducible refine pf_lisl ?_
  | with_reducible refine pf_lisd ?_
  | with_reducible refine pf_list ?_
  | with_reducible refine pf_abs ?_
  | with_reducible refine pf_any ?_
  | with_reducible refine pf_all ?_
  | with_reducible refine pc_in2 ?_
  | with_reducible refine pc_nin2 ?_
  | with_reducible refine pc_ini ?_
  | with_reducible refine pc_inil ?_
  | with_reducible refine pc_inid ?_
  | with_reducible refine pc_isb ?_
  | with_reducible refine pc_isnb ?_
  | with_reducible refine pc_eqb ?_
  | with_reducible refine pc_neb ?_
  | with_reducible refine prng (by omega) ?_ (by omega)
  | with_reducible refine prev_t ?_
  | with_reducible refine prev_l ?_
  | with_reducible refine pf_lrng (by omega) (by omega) ?_
  | with_reducible refine pf_trng (by omega) (by omega) ?_
  | with_reducible refine PSs.w ?_
  | refine pc_in2 ?_
  | refine pc_nin2 ?_
  | refine PX.mk _ rfl ?_
  | refine PIx.mk _ rfl ?_)
local macro_rules | `(tactic| walk_at "v") => `(tactic| ((conv => whnf); repeat (walk_at "v1"; (conv => whnf))))
local macro_rules | `(tactic| walk_at "w1") => `(tactic| first
  | with_reducible refine pb_add ?_
  | with_reducible refine pb_sub ?_
  | with_reducible refine pc_lt ?_
  | with_reducible refine pc_gt ?_
  | with_reducible refine pc_le ?_
  | with_reducible refine pc_ge ?_
  | with_reducible refine pc_eqi ?_
  | with_reducible refine pc_nei ?_
  | with_reducible refine pif_t ?_
  | with_reducible refine pif_f ?_
  | with_reducible refine pif_not ?_
  | with_reducible refine pb_mod (by first | decide | omega) ?_
  | with_reducible refine pb_fdiv (by first | decide | omega) (by first | decide | omega) ?_
  | with_reducible refine pb_mul (by first | decide | omega) (by first | decide | omega) ?_
  | with_reducible refine pb_pow (by first | decide | omega) ?_
  | with_reducible refine pb_addt (by walk_at "omegas") ?_
  | with_reducible refine pb_addl (by walk_at "omegas") ?_
  | with_reducible refine PSide.mk (by walk_at "omegas") ?_
  | with_reducible refine pf2_max ?_
  | with_reducible refine pf2_min ?_
  | with_reducible refine pf_lentm ?_
  | with_reducible refine pf_lendm ?_
  | with_reducible refine pf_lenlm ?_
  | with_reducible refine pf_lent ?_
  | with_reducible refine pf_lend ?_
  | with_reducible refine pf_lenl ?_
  | with_reducible refine pf_tupl ?_
  | with_reducible refine pf_tupd ?_
  | with_reducible refine pf_tupt ?_
  | with_reducible refine pf_lisl ?_
  | with_reducible refine pf_lisd ?_
  | with_reducible refine pf_list ?_
  | with_reducible refine pf_abs ?_
  | with_reducible refine pf_any ?_
  | with_reducible refine pf_all ?_
  | with_reducible refine pc_in2 ?_
  | with_reducible refine pc_nin2 ?_
  | with_reducible refine pc_ini ?_
  | with_reducible refine pc_inil ?_
  | with_reducible refine pc_inid ?_
  | with_reducible refine pc_isb ?_
  | with_reducible refine pc_isnb ?_
  | with_reducible refine pc_eqb ?_
  | with_reducible refine pc_neb ?_
  | with_reducible refine prng (by omega) ?_ (by omega)
  | with_reducible refine prev_t ?_
  | with_reducible refine prev_l ?_
  | with_reducible refine pf_lrng (by omega) (by omega) ?_
  | with_reducible refine pf_trng (by omega) (by omega) ?_
  | with_reducible refine PSs.w ?_
  | with_reducible refine pcut_t ?_
  | with_reducible refine pcut_d ?_
  | with_reducible refine pcut_l ?_
  | refine pc_in2 ?_
  | refine pc_nin2 ?_
  | refine PX.mk _ rfl ?_
  | refine PIx.mk _ rfl ?_)
local macro_rules | `(tactic| walk_at "w") => `(tactic| ((conv => whnf); repeat (walk_at "w1"; (conv => whnf))))
def d__law_world_b : Fdef where
  nm := "_law_world"
  ps := ["_law_state", "_law_rules", "_law_most"]
  N := ["_law_state", "_law_rules", "_law_most", "_law_rule", "_law_n", "_law_web_here", "_law_wishes_here", "_law_stops", "_law_hand_here"]
  fns := ["_law_take", "_law_web", "_law_wishes"]
  blt := ["len", "tuple", "range"]
  md := [.rw, .ro, .ro]
  body := (.cons (.asg (.n 3) (.idx (.var 1) (.call "_law_take" (.cons (.var 0) (.cons (.bf .len (.var 1)) .nil)))))
    (.cons (.asg (.n 4) (.idx (.lst (.cons (.int 2) (.cons (.int 3) (.cons (.int 3) (.cons (.int 2) .nil))))) (.call "_law_take" (.cons (.var 0) (.cons (.int 4) .nil)))))
    (.cons (.asg (.n 5) (.call "_law_web" (.cons (.var 0) (.cons (.var 4) (.cons (.int 3) .nil)))))
    (.cons (.ife (.and (.cmp .eq (.var 3) (.str "asked")) (.and (.cmp .gt (.bf .len (.idx (.var 5) (.int 1))) (.int 1)) (.cmp .gt (.var 4) (.int 2))))
    (.cons (.asg (.n 5) (.tup (.cons (.var 4) (.cons (.fz (.slT (.idx (.var 5) (.int 1)) (.bin .add (.int 1) (.call "_law_take" (.cons (.var 0) (.cons (.int 2) .nil)))))) .nil))))
    .nil)
    .nil)
    (.cons (.asg (.n 6) (.call "_law_wishes" (.cons (.var 0) (.cons (.var 5) (.cons (.var 2) .nil)))))
    (.cons (.asg (.n 7) (.tup .nil))
    (.cons (.ife (.cmp .eq (.call "_law_take" (.cons (.var 0) (.cons (.int 4) .nil))) (.int 0))
    (.cons (.asg (.n 7) (.bf .tuple (.lc1 [("_law_hand_here", 8)] (.n 8) (.rng1 (.var 4)) (.cmp .eq (.call "_law_take" (.cons (.var 0) (.cons (.int 2) .nil))) (.int 0)) (.var 8))))
    .nil)
    .nil)
    (.cons (.ret (.tup (.cons (.var 5) (.cons (.var 3) (.cons (.var 6) (.cons (.var 7) .nil))))))
    .nil))))))))

def d_with_rule : Fdef where
  nm := "with_rule"
  ps := ["world", "rule"]
  N := ["world", "rule"]
  fns := []
  blt := []
  md := [.ro, .ro]
  body := (.cons (.ret (.fz (.bin .add (.tup (.cons (.idx (.var 0) (.int 0)) (.cons (.var 1) .nil))) (.slF (.var 0) (.int 2)))))
    .nil)

/-! ### worlds -/
abbrev worldD (n : Int) (ps : List (Int × Int)) (r : Str) (fs : List (List (List Int))) (st : List Int) : D := .tuple [webD n ps, .str r, fsD fs, itD st]
structure WorldOk (n m : Int) (ps : List (Int × Int)) (fs : List (List (List Int))) (st : List Int) : Prop where
  web : WebOk n 9 ps
  wishes : WishesOk n m ps fs
  stops : st.Pairwise (· < ·)
  hands : ∀ h ∈ st, 0 ≤ h ∧ h < n
def rulesL : List Str := [("free" : Str), ("turned" : Str), ("rank" : Str), ("most" : Str), ("asked" : Str)]
theorem shw_ws {ws : List (List Int)} (hl : ws.length ≤ 10) (hh : ∀ w ∈ ws, w.length ≤ 64 ∧ ∀ i ∈ w, 0 ≤ i ∧ i < 1000000) : Shw 2 20010 (wsD ws) :=
  (shw_t fun d hd => by
    obtain ⟨w, hw, rfl⟩ := List.mem_map.mp hd
    exact shw_it (hh w hw).1 (hh w hw).2).mono (Nat.le_refl _) (by rw [List.length_map]; omega)
theorem shw_fs {fs : List (List (List Int))} (hl : fs.length ≤ 10) (h : ∀ ws ∈ fs, ws.length ≤ 10 ∧ ∀ w ∈ ws, w.length ≤ 64 ∧ ∀ i ∈ w, 0 ≤ i ∧ i < 1000000) : Shw 3 200110 (fsD fs) :=
  (shw_t fun d hd => by
    obtain ⟨ws, hw, rfl⟩ := List.mem_map.mp hd
    exact shw_ws (h ws hw).1 (h ws hw).2).mono (Nat.le_refl _) (by rw [List.length_map]; omega)
theorem rise_len {st : List Int} {n : Int} (h : st.Pairwise (· < ·)) (hh : ∀ x ∈ st, 0 ≤ x ∧ x < n) : (st.length : Int) ≤ max n 0 := by
  have nd : st.Nodup := h.imp fun h => by omega
  have := sub_len (W := st) (L := (List.range n.toNat).map fun (i : Nat) => (i : Int)) nd fun w hw => List.mem_map.mpr ⟨w.toNat, List.mem_range.mpr (by have := hh w hw; omega), by have := hh w hw; omega⟩
  rw [List.length_map, List.length_range] at this
  omega
theorem WishesOk.wish {n m : Int} {ps : List (Int × Int)} {fs : List (List (List Int))} (h : WishesOk n m ps fs) {ws : List (List Int)} (hw : ws ∈ fs) {w : List Int} (hx : w ∈ ws) : w.length ≤ ps.length ∧ ∀ i ∈ w, 0 ≤ i ∧ i < ps.length := by
  obtain ⟨j, hj, e⟩ := List.getElem_of_mem hw
  have s := h.own j ws (by rw [List.getElem?_eq_getElem hj, e]) w hx
  refine ⟨Nat.le_trans s.length_le (ownT_len ps j), fun i hi => ?_⟩
  obtain ⟨k, p, rfl, hp, _⟩ := (ownT_mem ps j i).mp (s.subset hi)
  have := (List.getElem?_eq_some_iff.mp hp).1
  omega
theorem WorldOk.shw {n m : Int} {ps : List (Int × Int)} {fs : List (List (List Int))} {st : List Int} (h : WorldOk n m ps fs st) (h0 : 0 ≤ n) (hn : n ≤ 10) (hm : m ≤ 10) {r : Str} (hr : Shw 0 30 (.str r)) : Shw 4 1000000 (worldD n ps r fs st) := by
  have hl := h.web.len
  have h1 : Shw 3 8300 (webD n ps) := (shw_t (m := 2) (n := 4100) (ds := [.int n, .tuple (ps.map Datum.toD)]) fun d hd => by
    simp only [List.mem_cons, List.not_mem_nil, or_false] at hd
    rcases hd with rfl | rfl
    · exact (shw_i h0 (by omega)).mono (by decide) (by decide)
    · exact shw_pairs (by omega) fun o ho => by
        have := h.web.ok o ho
        unfold Pok at this
        omega).mono (by decide) (by show 2 * 4101 ≤ 8300; decide)
  have h3 := shw_fs (fs := fs) (by have := h.wishes.len; omega) fun ws hw => ⟨by have := h.wishes.most ws hw; omega, fun w hx => by
    have := h.wishes.wish hw hx
    exact ⟨by omega, fun i hi => by have := this.2 i hi; omega⟩⟩
  have h4 : Shw 1 2000 (itD st) := shw_it (by have := rise_len h.stops h.hands; omega) fun i hi => by have := h.hands i hi; omega
  exact (shw_t (m := 3) (n := 200110) (ds := [webD n ps, .str r, fsD fs, itD st]) fun d hd => by
    simp only [List.mem_cons, List.not_mem_nil, or_false] at hd
    rcases hd with rfl | rfl | rfl | rfl
    · exact h1.mono (by decide) (by decide)
    · exact hr.mono (by decide) (by decide)
    · exact h3
    · exact h4.mono (by decide) (by decide)).mono (by decide) (by show 4 * 200111 ≤ 1000000; decide)
theorem shw_rule {r : Str} (h : r ∈ rulesL) : Shw 0 30 (.str r) := by
  simp only [rulesL, List.mem_cons, List.not_mem_nil, or_false] at h
  rcases h with rfl | rfl | rfl | rfl | rfl <;> exact shw_S _
theorem pc_eqS {i j : Str} {K : SV → Prop} (k : K (.d (.bool (decide (i = j))))) : PC .eq (.d (.str i)) (.d (.str j)) K :=
  ⟨_, rfl, by rw [show (i == j) = decide (i = j) from PySem.W.beq_decide i j]; exact k⟩
theorem pc_neS {i j : Str} {K : SV → Prop} (k : K (.d (.bool (decide (i ≠ j))))) : PC .ne (.d (.str i)) (.d (.str j)) K :=
  ⟨_, rfl, by rw [show (i == j) = decide (i = j) from PySem.W.beq_decide i j, ← decide_not]; exact k⟩
/-- a list of hands drawn: its part of range n -/
def handsL (n : Int) : List Int := (List.range n.toNat).map fun (i : Nat) => (i : Int)
theorem handsL_rise (n : Int) : (handsL n).Pairwise (· < ·) := List.pairwise_map.mpr (List.pairwise_lt_range.imp fun h => by omega)
theorem handsL_mem {n h : Int} : h ∈ handsL n ↔ 0 ≤ h ∧ h < n := by
  unfold handsL
  rw [List.mem_map]
  constructor
  · rintro ⟨i, hi, rfl⟩
    have := List.mem_range.mp hi
    omega
  · rintro ⟨a, b⟩
    exact ⟨h.toNat, List.mem_range.mpr (by omega), by omega⟩
section
variable {T : Tab} {gl : Str → Option D} {fuel k : Nat}
theorem WebOk.cut {n m : Int} {ps : List (Int × Int)} (h : WebOk n m ps) (j : Nat) : WebOk n m (ps.take j) :=
  ⟨fun p hp => h.ok p (List.mem_of_mem_take hp), by have := h.len; rw [List.length_take]; omega, h.srt.sublist (List.take_sublist _ _)⟩
theorem WebOk.mono {n m m' : Int} {ps : List (Int × Int)} (h : WebOk n m ps) (l : m ≤ m') : WebOk n m' ps := ⟨h.ok, by have := h.len; omega, h.srt⟩
def Wob (Γ : Gl0) : Prop := ∀ b xs (rl : List Str) (m : Int), St b xs → 25000 ≤ b → rl ≠ [] → rl.length ≤ 100 → 0 ≤ m → m ≤ 10 → FxS Γ "_law_world" xs [.d (.list (rl.map .str)), .d (.int m)] fun r xs' => ∃ n ps ru fs st, r = .d (worldD n ps ru fs st) ∧ (n = 2 ∨ n = 3) ∧ ru ∈ rl ∧ WorldOk n m ps fs st ∧ ps.length ≤ 3 ∧ (ru = ("asked" : Str) → 2 < n → ps.length ≤ 2) ∧ St (b - 25000) xs'
theorem wob_of (tk : Tk (Γof T gl fuel k)) (wb : Wb (Γof T gl fuel k)) (ws : Ws (Γof T gl fuel k)) (h : T.at_ "_law_world" = some d__law_world_b) : Wob (Γof T gl fuel (k + 1)) := by
  intro b xs rl m hs hb hrl hrl2 m0 m1
  have hrp := List.length_pos_iff.mpr hrl
  refine fxs_of h rfl ⟨_, rfl, rfl⟩ rfl ?_
  show PSs _ _ [some (.l xs), some (.d (.list (rl.map .str))), some (.d (.int m)), none, none, none, none, none, none] _
  refine PSs.cut (fun ρ => ∃ (x4 : List D) (n : Int) (ru : Str) (ps : List (Int × Int)), ρ = [some (.l x4), some (.d (.list (rl.map .str))), some (.d (.int m)), some (.d (.str ru)), some (.d (.int n)), some (.d (webD n ps)), none, none, none] ∧ (n = 2 ∨ n = 3) ∧ ru ∈ rl ∧ WebOk n 9 ps ∧ ps.length ≤ 3 ∧ (ru = ("asked" : Str) → 2 < n → ps.length ≤ 2) ∧ St (b - 2000) x4) 4 ?_ ?_
  · walk_at "v"
    refine pcall_take tk hs (by omega) (by omega) (by omega) fun a x1 a0 a1 s1 => ?_
    walk_at "v"
    refine px_d a0 (by omega) fun ru hru => ?_
    have hru := List.mem_of_getElem? hru
    walk_at "v"
    refine pcall_take tk s1 (by omega) (by omega) (by omega) fun c x2 c0 c1 s2 => ?_
    walk_at "v"
    refine px_l (α := Int) (f := .int) (xs := [2, 3, 3, 2]) c0 (by simpa using c1) fun n hn => ?_
    have hn : n = 2 ∨ n = 3 := by
      have := List.mem_of_getElem? hn
      simp at this
      omega
    walk_at "v"
    refine pcall_s (wb _ _ _ _ s2 (by omega) (by omega) (by omega) (by omega) (by omega)) rfl rfl ?_
    rintro r x3 ⟨ps0, rfl, hw0, s3⟩
    have hw3 := hw0.len
    walk_at "v"
    refine pc_eqS ?_
    walk_at "v"
    refine pif_dd (fun c1 => ?_) (fun c1 => ?_)
    · walk_at "v"
      refine pif_dd (fun c2 => ?_) (fun c2 => ?_)
      · walk_at "v"
        refine pif_dd (fun c3 => ?_) (fun c3 => ?_)
        · walk_at "v"
          refine pcall_take tk s3 (by omega) (by omega) (by omega) fun d x4 d0 d1 s4 => ?_
          walk_at "v"
          refine pcut_t ?_
          rw [cutN_to (by omega)]
          walk_at "v"
          refine ⟨rfl, x4, n, ru, _, rfl, hn, hru, (hw0.mono (by decide)).cut _, by rw [List.length_take]; omega, fun _ _ => by rw [List.length_take]; omega, s4.mono (by omega)⟩
        · walk_at "v"
          exact ⟨rfl, x3, n, ru, _, rfl, hn, hru, hw0.mono (by decide), by omega, fun _ z => absurd z c3, s3.mono (by omega)⟩
      · walk_at "v"
        exact ⟨rfl, x3, n, ru, _, rfl, hn, hru, hw0.mono (by decide), by omega, fun _ _ => by omega, s3.mono (by omega)⟩
    · walk_at "v"
      exact ⟨rfl, x3, n, ru, _, rfl, hn, hru, hw0.mono (by decide), by omega, fun z => absurd z c1, s3.mono (by omega)⟩
  rintro ρ ⟨x4, n, ru, ps, rfl, hn, hru, hw, hp3, hask, s4⟩
  walk_at "v"
  refine pcall_s (ws _ _ _ _ ps s4 (by omega) (by omega) (by omega) (by omega) (by omega) (by omega)) rfl rfl ?_
  rintro r x5 ⟨fs, rfl, hf, s5⟩
  walk_at "v"
  refine pcall_take tk s5 (by omega) (by omega) (by omega) fun e x6 e0 e1 s6 => ?_
  walk_at "v"
  refine pif_dd (fun c2 => ?_) (fun c2 => ?_)
  · walk_at "v"
    rw [show ((List.range n.toNat).map fun (i : Nat) => PyData.int (i : Int)) = (handsL n).map .int by rw [handsL, List.map_map]; rfl]
    refine lc1_st 0 (fun j acc s => ∃ st : List Int, acc = st.map .int ∧ st.Sublist ((handsL n).take j) ∧ St (b - 23000 - j) s) x6 rfl ⟨[], rfl, List.Sublist.refl _, s6.mono (by simp; omega)⟩ (by simp [handsL]; omega) ?_ ?_
    · rintro r s ⟨st, rfl, hsub, s7⟩
      rw [List.take_length] at hsub
      have hlen : (handsL n).length = n.toNat := by simp [handsL]
      walk_at "v"
      exact ⟨n, ps, ru, fs, st, rfl, hn, hru, ⟨hw, hf, (handsL_rise n).sublist hsub, fun h hh => handsL_mem.mp (hsub.subset hh)⟩, hp3, hask, s7.mono (by omega)⟩
    · rintro j x acc s hx ⟨st, rfl, hsub, s7⟩
      have hjl := (List.getElem?_eq_some_iff.mp hx).1
      have hlen : (handsL n).length = n.toNat := by simp [handsL]
      walk_at "v"
      refine pcall_take tk s7 (by omega) (by omega) (by omega) fun g x8 g0 g1 s8 => ?_
      walk_at "v"
      refine pif_dd (fun c3 => ?_) (fun c3 => ?_)
      · walk_at "v"
        refine ⟨x8, rfl, st ++ [x], by rw [List.map_append]; rfl, ?_, s8.mono (by omega)⟩
        rw [take_snoc hx]
        exact hsub.append (List.Sublist.refl _)
      · walk_at "v"
        refine ⟨x8, rfl, st, rfl, ?_, s8.mono (by omega)⟩
        rw [take_snoc hx]
        exact hsub.trans (List.sublist_append_left _ _)
  · walk_at "v"
    exact ⟨n, ps, ru, fs, [], rfl, hn, hru, ⟨hw, hf, .nil, by simp⟩, hp3, hask, s6.mono (by omega)⟩
/-- the same world by another rule -/
theorem wr_of (h : T.at_ "with_rule" = some d_with_rule) (n : Int) (ps : List (Int × Int)) (r r' : Str) (fs : List (List (List Int))) (st : List Int) : Fx (Γof T gl fuel (k + 1)) "with_rule" [.d (worldD n ps r fs st), .d (.str r')] fun x => x = .d (worldD n ps r' fs st) := by
  refine fx_of h rfl rfl ?_
  show PSs _ _ [some (.d (worldD n ps r fs st)), some (.d (.str r'))] _
  walk_at "v"
  refine PCut.mk (.d (.tuple [fsD fs, itD st])) rfl ?_
  walk_at "v"
  rfl
end

end Dn

set_option Elab.async false
set_option linter.all false
set_option maxRecDepth 100000
set_option maxHeartbeats 4000000
namespace Dn
open PySem PySem.Spec PyProof.Rows
open PySem.W (Datum DatumOrd Tup T3 T4)
local macro_rules | `(tactic| walk_at "omegas") => `(tactic| first | rfl | omega | (simp only [List.length_append, List.length_map, List.length_cons, List.length_nil, List.length_range, List.length_zipIdx, List.length_reverse, List.length_replicate]; omega))
local macro_rules | `(tactic| walk_at "v1") => `(tactic| first
  | with_reducible refine pb_add ?_
  | with_reducible refine pb_sub ?_
  | with_reducible refine pc_lt ?_
  | with_reducible refine pc_gt ?_
  | with_reducible refine pc_le ?_
  | with_reducible refine pc_ge ?_
  | with_reducible refine pc_eqi ?_
  | with_reducible refine pc_nei ?_
  | with_reducible refine pif_t ?_
  | with_reducible refine pif_f ?_
  | with_reducible refine pif_not ?_
  | with_reducible refine pb_mod (by first | decide | omega) ?_
  | with_reducible refine pb_fdiv (by first | decide | omega) (by first | decide | omega) ?_
  | with_reducible refine pb_mul (by first | decide | omega) (by first | decide | omega) ?_
  | with_reducible refine pb_pow (by first | decide | omega) ?_
  | with_reducible refine pb_addt (by walk_at "omegas") ?_
  | with_reducible refine pb_addl (by walk_at "omegas") ?_
  | with_reducible refine PSide.mk (by walk_at "omegas") ?_
  | with_reducible refine pf2_max ?_
  | with_reducible refine pf2_min ?_
  | with_reducible refine pf_lentm ?_
  | with_reducible refine pf_lendm ?_
  | with_reducible refine pf_lenlm ?_
  | with_reducible refine pf_lent ?_
  | with_reducible refine pf_lend ?_
  | with_reducible refine pf_lenl ?_
  | with_reducible refine pf_tupl ?_
  | with_reducible refine pf_tupd ?_
  | with_reducible refine pf_tupt ?_
  | with_reducible refine pf_lisl ?_
  | with_reducible refine pf_lisd ?_
  | with_reducible refine pf_list ?_
  | with_reducible refine pf_abs ?_
  | with_reducible refine pf_any ?_
  | with_reducible refine pf_all ?_
  | with_reducible refine pc_in2 ?_
  | with_reducible refine pc_nin2 ?_
  | with_reducible refine pc_ini ?_
  | with_reducible refine pc_inil ?_
  | with_reducible refine pc_inid ?_
  | with_reducible refine pc_isb ?_
  | with_reducible refine pc_isnb ?_
  | with_reducible refine pc_eqb ?_
  | with_reducible refine pc_neb ?_
  | with_reducible refine prng (by omega) ?_ (by omega)
  | with_reducible refine prev_t ?_
  | with_reducible refine prev_l ?_
  | with_reducible refine pf_lrng (by omega) (by omega) ?_
  | with_reducible refine pf_trng (by omega) (by omega) ?_
  | with_reducible refine PSs.w ?_
  | refine pc_in2 ?_
  | refine pc_nin2 ?_
  | refine PX.mk _ rfl ?_
  | refine PIx.mk _ rfl ?_)
local macro_rules | `(tactic| walk_at "v") => `(tactic| ((conv => whnf); repeat (walk_at "v1"; (conv => whnf))))
local macro_rules | `(tactic| walk_at "w1") => `(tactic| first
  | with_reducible refine pb_add ?_
  | with_reducible refine pb_sub ?_
  | with_reducible refine pc_lt ?_
  | with_reducible refine pc_gt ?_
  | with_reducible refine pc_le ?_
  | with_reducible refine pc_ge ?_
  | with_reducible refine pc_eqi ?_
  | with_reducible refine pc_nei ?_
  | with_reducible refine pif_t ?_
  | with_reducible refine pif_f ?_
  | with_reducible refine pif_not ?_
  | with_reducible refine pb_mod (by first | decide | omega) ?_
  | with_reducible refine pb_fdiv (by first | decide | omega) (by first | decide | omega) ?_
  | with_reducible refine pb_mul (by first | decide | omega) (by first | decide | omega) ?_
  | with_reducible refine pb_pow (by first | decide | omega) ?_
  | with_reducible refine pb_addt (by walk_at "omegas") ?_
  | with_reducible refine pb_addl (by walk_at "omegas") ?_
  | with_reducible refine PSide.mk (by walk_at "omegas") ?_
  | with_reducible refine pf2_max ?_
  | with_reducible refine pf2_min ?_
  | with_reducible refine pf_lentm ?_
  | with_reducible refine pf_lendm ?_
  | with_reducible refine pf_lenlm ?_
  | with_reducible refine pf_lent ?_
  | with_reducible refine pf_lend ?_
  | with_reducible refine pf_lenl ?_
  | with_reducible refine pf_tupl ?_
  | with_reducible refine pf_tupd ?_
  | with_reducible refine pf_tupt ?_
  | with_reducible refine pf_lisl ?_
  | with_reducible refine pf_lisd ?_
  | with_reducible refine pf_list ?_
  | with_reducible refine pf_abs ?_
  | with_reducible refine pf_any ?_
  | with_reducible refine pf_all ?_
  | with_reducible refine pc_in2 ?_
  | with_reducible refine pc_nin2 ?_
  | with_reducible refine pc_ini ?_
  | with_reducible refine pc_inil ?_
  | with_reducible refine pc_inid ?_
  | with_reducible refine pc_isb ?_
  | with_reducible refine pc_isnb ?_
  | with_reducible refine pc_eqb ?_
  | with_reducible refine pc_neb ?_
  | with_reducible refine prng (by omega) ?_ (by omega)
  | with_reducible refine prev_t ?_
  | with_reducible refine prev_l ?_
  | with_reducible refine pf_lrng (by omega) (by omega) ?_
  | with_reducible refine pf_trng (by omega) (by omega) ?_
  | with_reducible refine PSs.w ?_
  | with_reducible refine pcut_t ?_
  | with_reducible refine pcut_d ?_
  | with_reducible refine pcut_l ?_
  | refine pc_in2 ?_
  | refine pc_nin2 ?_
  | refine PX.mk _ rfl ?_
  | refine PIx.mk _ rfl ?_)
local macro_rules | `(tactic| walk_at "w") => `(tactic| ((conv => whnf); repeat (walk_at "w1"; (conv => whnf))))
/-! ### max, min of ints in a list or tuple -/
theorem altOk_ints (ns : List Int) : altOk (ns.map .int) = true := by
  unfold altOk
  simp only [Bool.and_eq_true, List.all_eq_true, List.mem_map, decide_eq_true_eq]
  refine ⟨?_, ?_, ?_⟩
  · rintro _ ⟨a, _, rfl⟩ _ ⟨b, _, rfl⟩
    rfl
  · rintro _ ⟨a, _, rfl⟩
    rfl
  · rintro _ ⟨a, _, rfl⟩
    simp only [PyData.depth]
    omega
section
variable {K : SV → Prop} {s : SV} {n : Int} {ns : List Int}
theorem pf_maxI (hs : items s = .ok ((n :: ns).map .int)) (k : K (.d (.int (ns.foldl max n)))) : PF .max s K := by
  refine ⟨_, ?_, k⟩
  have e : opF .max s = (items s >>= fun ds => bestS true ds) := by
    cases s with
    | l xs => rfl
    | ow w => rfl
    | d x => cases x <;> rfl
  rw [e, hs, ok_bind]
  show (if altOk ((n :: ns).map .int) = true then R.ok (SV.d (bestD true (.int n) (ns.map .int))) else .bad) = _
  rw [if_pos (altOk_ints _)]
  exact congrArg (fun x => R.ok (SV.d x)) (PySem.W.maxD_ints n ns)
theorem pf_minI (hs : items s = .ok ((n :: ns).map .int)) (k : K (.d (.int (ns.foldl min n)))) : PF .min s K := by
  refine ⟨_, ?_, k⟩
  have e : opF .min s = (items s >>= fun ds => bestS false ds) := by
    cases s with
    | l xs => rfl
    | ow w => rfl
    | d x => cases x <;> rfl
  rw [e, hs, ok_bind]
  show (if altOk ((n :: ns).map .int) = true then R.ok (SV.d (bestD false (.int n) (ns.map .int))) else .bad) = _
  rw [if_pos (altOk_ints _)]
  exact congrArg (fun x => R.ok (SV.d x)) (PySem.W.minD_ints n ns)
end

end Dn

set_option Elab.async false
set_option linter.all false
set_option maxRecDepth 100000
set_option maxHeartbeats 4000000
namespace Dn
open PySem PySem.Spec PyProof.Rows
open PySem.W (Datum DatumOrd Tup T3 T4)
local macro_rules | `(tactic| walk_at "omegas") => `(tactic| first | rfl | omega | (simp only [List.length_append, List.length_map, List.length_cons, List.length_nil, List.length_range, List.length_zipIdx, List.length_reverse, List.length_replicate]; omega))
local macro_rules | `(tactic| walk_at "v1") => `(tactic| first
  | with_reducible refine pb_add ?_
  | with_reducible refine pb_sub ?_
  | with_reducible refine pc_lt ?_
  | with_reducible refine pc_gt ?_
  | with_reducible refine pc_le ?_
  | with_reducible refine pc_ge ?_
  | with_reducible refine pc_eqi ?_
  | with_reducible refine pc_nei ?_
  | with_reducible refine pif_t ?_
  | with_reducible refine pif_f ?_
  | with_reducible refine pif_not ?_
  | with_reducible refine pb_mod (by first | decide | omega) ?_
  | with_reducible refine pb_fdiv (by first | decide | omega) (by first | decide | omega) ?_
  | with_reducible refine pb_mul (by first | decide | omega) (by first | decide | omega) ?_
  | with_reducible refine pb_pow (by first | decide | omega) ?_
  | with_reducible refine pb_addt (by walk_at "omegas") ?_
  | with_reducible refine pb_addl (by walk_at "omegas") ?_
  | with_reducible refine PSide.mk (by walk_at "omegas") ?_
  | with_reducible refine pf2_max ?_
  | with_reducible refine pf2_min ?_
  | with_reducible refine pf_lentm ?_
  | with_reducible refine pf_lendm ?_
  | with_reducible refine pf_lenlm ?_
  | with_reducible refine pf_lent ?_
  | with_reducible refine pf_lend ?_
  | with_reducible refine pf_lenl ?_
  | with_reducible refine pf_tupl ?_
  | with_reducible refine pf_tupd ?_
  | with_reducible refine pf_tupt ?_
  | with_reducible refine pf_lisl ?_
  | with_reducible refine pf_lisd ?_
  | with_reducible refine pf_list ?_
  | with_reducible refine pf_abs ?_
  | with_reducible refine pf_any ?_
  | with_reducible refine pf_all ?_
  | with_reducible refine pc_in2 ?_
  | with_reducible refine pc_nin2 ?_
  | with_reducible refine pc_ini ?_
  | with_reducible refine pc_inil ?_
  | with_reducible refine pc_inid ?_
  | with_reducible refine pc_isb ?_
  | with_reducible refine pc_isnb ?_
  | with_reducible refine pc_eqb ?_
  | with_reducible refine pc_neb ?_
  | with_reducible refine prng (by omega) ?_ (by omega)
  | with_reducible refine prev_t ?_
  | with_reducible refine prev_l ?_
  | with_reducible refine pf_lrng (by omega) (by omega) ?_
  | with_reducible refine pf_trng (by omega) (by omega) ?_
  | with_reducible refine PSs.w ?_
  | refine pc_in2 ?_
  | refine pc_nin2 ?_
  | refine PX.mk _ rfl ?_
  | refine PIx.mk _ rfl ?_)
local macro_rules | `(tactic| walk_at "v") => `(tactic| ((conv => whnf); repeat (walk_at "v1"; (conv => whnf))))
local macro_rules | `(tactic| walk_at "w1") => `(tactic| first
  | with_reducible refine pb_add ?_
  | with_reducible refine pb_sub ?_
  | with_reducible refine pc_lt ?_
  | with_reducible refine pc_gt ?_
  | with_reducible refine pc_le ?_
  | with_reducible refine pc_ge ?_
  | with_reducible refine pc_eqi ?_
  | with_reducible refine pc_nei ?_
  | with_reducible refine pif_t ?_
  | with_reducible refine pif_f ?_
  | with_reducible refine pif_not ?_
  | with_reducible refine pb_mod (by first | decide | omega) ?_
  | with_reducible refine pb_fdiv (by first | decide | omega) (by first | decide | omega) ?_
  | with_reducible refine pb_mul (by first | decide | omega) (by first | decide | omega) ?_
  | with_reducible refine pb_pow (by first | decide | omega) ?_
  | with_reducible refine pb_addt (by walk_at "omegas") ?_
  | with_reducible refine pb_addl (by walk_at "omegas") ?_
  | with_reducible refine PSide.mk (by walk_at "omegas") ?_
  | with_reducible refine pf2_max ?_
  | with_reducible refine pf2_min ?_
  | with_reducible refine pf_lentm ?_
  | with_reducible refine pf_lendm ?_
  | with_reducible refine pf_lenlm ?_
  | with_reducible refine pf_lent ?_
  | with_reducible refine pf_lend ?_
  | with_reducible refine pf_lenl ?_
  | with_reducible refine pf_tupl ?_
  | with_reducible refine pf_tupd ?_
  | with_reducible refine pf_tupt ?_
  | with_reducible refine pf_lisl ?_
  | with_reducible refine pf_lisd ?_
  | with_reducible refine pf_list ?_
  | with_reducible refine pf_abs ?_
  | with_reducible refine pf_any ?_
  | with_reducible refine pf_all ?_
  | with_reducible refine pc_in2 ?_
  | with_reducible refine pc_nin2 ?_
  | with_reducible refine pc_ini ?_
  | with_reducible refine pc_inil ?_
  | with_reducible refine pc_inid ?_
  | with_reducible refine pc_isb ?_
  | with_reducible refine pc_isnb ?_
  | with_reducible refine pc_eqb ?_
  | with_reducible refine pc_neb ?_
  | with_reducible refine prng (by omega) ?_ (by omega)
  | with_reducible refine prev_t ?_
  | with_reducible refine prev_l ?_
  | with_reducible refine pf_lrng (by omega) (by omega) ?_
  | with_reducible refine pf_trng (by omega) (by omega) ?_
  | with_reducible refine PSs.w ?_
  | with_reducible refine pcut_t ?_
  | with_reducible refine pcut_d ?_
  | with_reducible refine pcut_l ?_
  | refine pc_in2 ?_
  | refine pc_nin2 ?_
  | refine PX.mk _ rfl ?_
  | refine PIx.mk _ rfl ?_)
local macro_rules | `(tactic| walk_at "w") => `(tactic| ((conv => whnf); repeat (walk_at "w1"; (conv => whnf))))
def d__law_world : Fdef where
  nm := "_law_world"
  ps := ["_law_state", "_law_hands", "_law_tools", "_law_most"]
  N := ["_law_state", "_law_hands", "_law_tools", "_law_most", "_law_web_here", "_law_rule", "_law_stops", "_law_hand_here"]
  fns := ["_law_web", "_law_take", "_law_wishes"]
  blt := ["tuple", "range"]
  md := [.rw, .ro, .ro, .ro]
  body := (.cons (.asg (.n 4) (.call "_law_web" (.cons (.var 0) (.cons (.bin .add (.int 1) (.call "_law_take" (.cons (.var 0) (.cons (.var 1) .nil)))) (.cons (.var 2) .nil)))))
    (.cons (.asg (.n 5) (.idx (.lst (.cons (.str "free") (.cons (.str "turned") (.cons (.str "rank") (.cons (.str "most") (.cons (.str "asked") .nil)))))) (.call "_law_take" (.cons (.var 0) (.cons (.int 5) .nil)))))
    (.cons (.asg (.n 6) (.tup .nil))
    (.cons (.ife (.cmp .eq (.call "_law_take" (.cons (.var 0) (.cons (.int 3) .nil))) (.int 0))
    (.cons (.asg (.n 6) (.bf .tuple (.lc1 [("_law_hand_here", 7)] (.n 7) (.rng1 (.idx (.var 4) (.int 0))) (.cmp .eq (.call "_law_take" (.cons (.var 0) (.cons (.int 2) .nil))) (.int 0)) (.var 7))))
    .nil)
    .nil)
    (.cons (.ret (.tup (.cons (.var 4) (.cons (.var 5) (.cons (.call "_law_wishes" (.cons (.var 0) (.cons (.var 4) (.cons (.var 3) .nil)))) (.cons (.var 6) .nil))))))
    .nil)))))

def d__law_roads : Fdef where
  nm := "_law_roads"
  ps := ["_law_state", "_law_web_here"]
  N := ["_law_state", "_law_web_here", "_law_roads_here", "_law_pair", "_law_own", "_law_letters", "_law_ends", "_law_many", "_law_tool", "_law_other", "_law_k"]
  fns := ["_law_pairs", "_law_take"]
  blt := ["enumerate", "tuple", "range", "len", "sorted"]
  md := [.rw, .ro]
  body := (.cons (.asg (.n 2) (.lst .nil))
    (.cons (.for_ (.n 3) (.e (.call "_law_pairs" (.cons (.var 1) .nil)))
    (.cons (.asg (.n 4) (.fz (.lc1 [("_law_tool", 8), ("_law_other", 9)] (.t (.cons (.n 8) (.cons (.n 9) .nil))) (.enum (.idx (.var 1) (.int 1))) (.cmp .eq (.var 9) (.var 3)) (.var 8))))
    (.cons (.asg (.n 5) (.lst (.cons (.tup (.cons (.str "stick") .nil)) (.cons (.tup (.cons (.str "ask") .nil)) .nil))))
    (.cons (.asg (.n 5) (.bin .add (.bin .add (.var 5) (.lc0 [("_law_tool", 8)] (.n 8) (.e (.var 4)) (.tup (.cons (.str "tool") (.cons (.var 8) .nil))))) (.lc0 [("_law_tool", 8)] (.n 8) (.e (.var 4)) (.tup (.cons (.str "ask tool") (.cons (.var 8) .nil))))))
    (.cons (.for_ (.n 6) (.e (.tup (.cons (.var 3) (.cons (.fz (.rev (.var 3))) .nil))))
    (.cons (.asg (.n 7) (.idx (.lst (.cons (.int 0) (.cons (.int 0) (.cons (.int 1) (.cons (.int 3) .nil))))) (.call "_law_take" (.cons (.var 0) (.cons (.int 4) .nil)))))
    (.cons (.ife (.cmp .gt (.var 7) (.int 0))
    (.cons (.ex (.app 2 (.bin .add (.var 6) (.tup (.cons (.bf .tuple (.lc0 [("_law_k", 10)] (.n 10) (.rng1 (.var 7)) (.idx (.var 5) (.call "_law_take" (.cons (.var 0) (.cons (.bf .len (.var 5)) .nil)))))) .nil)))))
    .nil)
    .nil)
    .nil)))
    .nil)))))
    (.cons (.ret (.bf .tuple (.bf .sorted (.var 2))))
    .nil)))

def d__law_pairs_d : Fdef where
  nm := "_law_pairs"
  ps := ["_law_web_here"]
  N := ["_law_web_here", "_law_found", "_law_pair"]
  fns := []
  blt := []
  md := [.ro]
  body := (.cons (.asg (.n 1) (.lst .nil))
    (.cons (.for_ (.n 2) (.e (.idx (.var 0) (.int 1)))
    (.cons (.ife (.cmp .nin (.var 2) (.var 1))
    (.cons (.ex (.app 1 (.var 2)))
    .nil)
    .nil)
    .nil))
    (.cons (.ret (.fz (.mv 1)))
    .nil)))

/-! ### worlds of any rule -/
section
variable {T : Tab} {gl : Str → Option D} {fuel k : Nat}
def Woa (Γ : Gl0) : Prop := ∀ b xs (h t m : Int), St b xs → 25000 ≤ b → 1 ≤ h → h ≤ 9 → 0 ≤ t → t ≤ 9 → 0 ≤ m → m ≤ 10 → FxS Γ "_law_world" xs [.d (.int h), .d (.int t), .d (.int m)] fun r xs' => ∃ n ps ru fs st, r = .d (worldD n ps ru fs st) ∧ 1 ≤ n ∧ n ≤ h ∧ ru ∈ rulesL ∧ WebOk n t ps ∧ WorldOk n m ps fs st ∧ St (b - 25000) xs'
theorem woa_of (tk : Tk (Γof T gl fuel k)) (wb : Wb (Γof T gl fuel k)) (ws : Ws (Γof T gl fuel k)) (h : T.at_ "_law_world" = some d__law_world) : Woa (Γof T gl fuel (k + 1)) := by
  intro b xs hh t m hs hb h1 h9 t0 t9 m0 m1
  refine fxs_of h rfl ⟨_, rfl, rfl⟩ rfl ?_
  show PSs _ _ [some (.l xs), some (.d (.int hh)), some (.d (.int t)), some (.d (.int m)), none, none, none, none] _
  refine PSs.cut (fun ρ => ∃ (x4 : List D) (n : Int) (ru : Str) (ps : List (Int × Int)) (st : List Int), ρ = [some (.l x4), some (.d (.int hh)), some (.d (.int t)), some (.d (.int m)), some (.d (webD n ps)), some (.d (.str ru)), some (.d (itD st)), none] ∧ 1 ≤ n ∧ n ≤ hh ∧ ru ∈ rulesL ∧ WebOk n t ps ∧ st.Pairwise (· < ·) ∧ (∀ x ∈ st, 0 ≤ x ∧ x < n) ∧ St (b - 2000) x4) 4 ?_ ?_
  · walk_at "v"
    refine pcall_take tk hs (by omega) (by omega) (by omega) fun a x1 a0 a1 s1 => ?_
    walk_at "v"
    refine pcall_s (wb _ _ _ _ s1 (by omega) (by omega) (by omega) (by omega) (by omega)) rfl rfl ?_
    rintro r x2 ⟨ps, rfl, hw, s2⟩
    walk_at "v"
    refine pcall_take tk s2 (by omega) (by omega) (by omega) fun c x3 c0 c1 s3 => ?_
    walk_at "v"
    refine px_l (α := Str) (f := .str) (xs := rulesL) c0 (by simpa [rulesL] using c1) fun ru hru => ?_
    have hru := List.mem_of_getElem? hru
    walk_at "v"
    refine pcall_take tk s3 (by omega) (by omega) (by omega) fun e x4 e0 e1 s4 => ?_
    walk_at "v"
    refine pif_dd (fun c2 => ?_) (fun c2 => ?_)
    · walk_at "v"
      rw [show ((List.range (1 + a).toNat).map fun (i : Nat) => PyData.int (i : Int)) = (handsL (1 + a)).map .int by rw [handsL, List.map_map]; rfl]
      refine lc1_st 0 (fun j acc s => ∃ st : List Int, acc = st.map .int ∧ st.Sublist ((handsL (1 + a)).take j) ∧ St (b - 1500 - j) s) x4 rfl ⟨[], rfl, List.Sublist.refl _, s4.mono (by simp; omega)⟩ (by simp [handsL]; omega) ?_ ?_
      · rintro r s ⟨st, rfl, hsub, s7⟩
        rw [List.take_length] at hsub
        have hlen : (handsL (1 + a)).length = (1 + a).toNat := by simp [handsL]
        walk_at "v"
        exact ⟨rfl, s, 1 + a, ru, ps, st, rfl, by omega, by omega, hru, hw, (handsL_rise _).sublist hsub, fun x hx => handsL_mem.mp (hsub.subset hx), s7.mono (by omega)⟩
      · rintro j x acc s hx ⟨st, rfl, hsub, s7⟩
        have hjl := (List.getElem?_eq_some_iff.mp hx).1
        have hlen : (handsL (1 + a)).length = (1 + a).toNat := by simp [handsL]
        walk_at "v"
        refine pcall_take tk s7 (by omega) (by omega) (by omega) fun g x8 g0 g1 s8 => ?_
        walk_at "v"
        refine pif_dd (fun c3 => ?_) (fun c3 => ?_)
        · walk_at "v"
          refine ⟨x8, rfl, st ++ [x], by rw [List.map_append]; rfl, ?_, s8.mono (by omega)⟩
          rw [take_snoc hx]
          exact hsub.append (List.Sublist.refl _)
        · walk_at "v"
          refine ⟨x8, rfl, st, rfl, ?_, s8.mono (by omega)⟩
          rw [take_snoc hx]
          exact hsub.trans (List.sublist_append_left _ _)
    · walk_at "v"
      exact ⟨rfl, x4, 1 + a, ru, ps, [], rfl, by omega, by omega, hru, hw, .nil, by simp, s4.mono (by omega)⟩
  rintro ρ ⟨x4, n, ru, ps, st, rfl, n1, n2, hru, hw, hst, hst2, s4⟩
  have hwl := hw.len
  walk_at "v"
  refine pcall_s (ws _ _ _ _ ps s4 (by omega) (by omega) (by omega) (by omega) (by omega) (by omega)) rfl rfl ?_
  rintro r x5 ⟨fs, rfl, hf, s5⟩
  walk_at "v"
  exact ⟨n, ps, ru, fs, st, rfl, n1, n2, hru, hw, ⟨hw.mono t9, hf, hst, hst2⟩, s5.mono (by omega)⟩
/-! ### the pairs of a web, each once -/
def Lpd (Γ : Gl0) : Prop := ∀ (n m : Int) (ps : List (Int × Int)), WebOk n m ps → ps.length ≤ 1000 → Fx Γ "_law_pairs" [.d (webD n ps)] fun r => r = .d (.list ((srtU ps).map Datum.toD))
theorem lpd_of (h : T.at_ "_law_pairs" = some d__law_pairs_d) : Lpd (Γof T gl fuel (k + 1)) := by
  intro n m ps hw hl
  refine fx_of h rfl rfl ?_
  show PSs _ _ [some (.d (webD n ps)), none, none] _
  walk_at "v"
  refine pfor_map (fun i ρ => ∃ (us : List (Int × Int)) (ds : List D) (o2 : Option SV), ρ = [some (.d (webD n ps)), some (.l ds), o2] ∧ ds = us.map Datum.toD ∧ us.Pairwise (fun p q => ltQ p q = true) ∧ (∀ q, q ∈ us ↔ q ∈ ps.take i) ∧ us.length ≤ i) ⟨[], _, _, rfl, rfl, .nil, by simp, by simp⟩ ?_ ?_
  · rintro ρ ⟨us, ds, o2, rfl, rfl, h1, h2, h3⟩
    rw [List.take_length] at h2
    walk_at "v"
    rw [rise_eq h1 (srtU_rise ps) fun a => by rw [h2, srtU_mem]]
  · rintro i q ρ hi ⟨us, ds, o2, rfl, rfl, h1, h2, h3⟩
    have hil := (List.getElem?_eq_some_iff.mp hi).1
    walk_at "v"
    refine pc_nint (α := Int × Int) q us (by decide) rfl rfl (fun _ e => by cases e) ?_
    walk_at "v"
    refine pif_dd (fun c => ?_) (fun c => ?_)
    · walk_at "v"
      refine ⟨us ++ [q], _, _, rfl, by rw [List.map_append]; rfl, ?_, fun p => ?_, by simp; omega⟩
      · rw [List.pairwise_append]
        refine ⟨h1, by simp, fun a ha p hp => ?_⟩
        rw [List.mem_singleton.mp hp]
        obtain ⟨j, hj⟩ := List.getElem?_of_mem ((h2 a).mp ha)
        rw [List.getElem?_take] at hj
        split at hj
        · next hji =>
          obtain ⟨hl1, e1⟩ := List.getElem?_eq_some_iff.mp hj
          obtain ⟨hl2, e2⟩ := List.getElem?_eq_some_iff.mp hi
          have := List.pairwise_iff_getElem.mp hw.srt j i hl1 hl2 hji
          rw [e1, e2, leP] at this
          rw [ltQ_iff]
          have ne : a ≠ q := fun z => c (z ▸ ha)
          by_cases z : a.1 = q.1
          · have : a.2 ≠ q.2 := fun z2 => ne (Prod.ext z z2)
            omega
          · omega
        · cases hj
      · rw [List.mem_append, h2, List.mem_singleton, take_snoc hi, List.mem_append, List.mem_singleton]
    · have c : q ∈ us := Decidable.not_not.mp c
      walk_at "v"
      refine ⟨us, _, _, rfl, rfl, h1, fun p => ?_, by omega⟩
      rw [h2, take_snoc hi, List.mem_append, List.mem_singleton]
      exact ⟨.inl, fun z => z.elim id fun e => by rw [e]; exact (h2 q).mp c⟩
end
/-! ### rooms by form -/
structure Row where
  w : Str
  wish : List Int
  st : Int
  more : D
def rowD (r : Row) : D := .tuple [.str r.w, itD r.wish, .int r.st, r.more]
structure RowOk (ru : Str) (ws : List (List Int)) (r : Row) : Prop where
  word : (r.wish = [] ∧ r.w = ("rests" : Str)) ∨ (r.wish ≠ [] ∧ r.wish ∈ ws ∧ (r.w = ("wishes" : Str) ∨ r.w = ("works" : Str)))
  bit : r.st = 0 ∨ r.st = 1
  rank : ru = ("rank" : Str) → ∃ m : Int, r.more = .int m ∧ 0 ≤ m ∧ m ≤ r.wish.length ∧ (r.w = ("works" : Str) → m = r.wish.length)
  asked : ru = ("asked" : Str) → ∃ a b : Int, r.more = .tuple [.int a, .int b] ∧ (a = 0 ∨ a = 1) ∧ (b = 0 ∨ b = 1)
  other : ru ≠ ("rank" : Str) → ru ≠ ("asked" : Str) → r.more = .int 0
def plD : Option Int → D
  | some i => .int i
  | none => .none
def PlIn (q : Int × Int) (p : Option Int) : Prop := p = some q.1 ∨ p = some q.2 ∨ p = none
structure Stk where
  place : Option Int
  used : Int
  ask : Option Int
def stkD (s : Stk) : D := .tuple [plD s.place, .int s.used, plD s.ask]
structure StkOk (q : Int × Int) (s : Stk) : Prop where
  place : PlIn q s.place
  used : s.used = 0 ∨ (s.used = 1 ∧ s.place ≠ none)
  ask : PlIn q s.ask
def trD (t : Option Int × Option Int) : D := .tuple [plD t.1, plD t.2]
def LtD (x : D) : Prop := (∃ s, x = .tuple [.str s]) ∨ ∃ s i, x = .tuple [.str s, .int i]
def RdD (x : D) : Prop := ∃ a b ls, x = .tuple [.int a, .int b, .tuple ls] ∧ ∀ l ∈ ls, LtD l
inductive FormOk (n : Int) (ps : List (Int × Int)) (ru : Str) (fs : List (List (List Int))) : D → Prop
  | free (rows : List Row) (os : List (Int × Int)) (h : ru ≠ ("asked" : Str)) (hl : (rows.length : Int) = n) (hr : ∀ (i : Nat) r ws, rows[i]? = some r → fs[i]? = some ws → RowOk ru ws r)
      (ho : os.length = (srtU ps).length ∧ ∀ (i : Nat) (o q : Int × Int), os[i]? = some o → (srtU ps)[i]? = some q → o = q ∨ o = swp q) : FormOk n ps ru fs (.tuple [.tuple (os.map Datum.toD), .tuple (rows.map rowD), .tuple [], .tuple []])
  | asked (rows : List Row) (sts : List Stk) (trs : List (Option Int × Option Int)) (rds : List D) (h : ru = ("asked" : Str)) (hl : (rows.length : Int) = n) (hr : ∀ (i : Nat) r ws, rows[i]? = some r → fs[i]? = some ws → RowOk ru ws r)
      (hs : sts.length = (srtU ps).length ∧ ∀ (i : Nat) s q, sts[i]? = some s → (srtU ps)[i]? = some q → StkOk q s) (ht : trs.length = ps.length ∧ ∀ (i : Nat) t q, trs[i]? = some t → ps[i]? = some q → PlIn q t.1 ∧ PlIn q t.2) :
      FormOk n ps ru fs (.tuple [.tuple (sts.map stkD), .tuple (rows.map rowD), .tuple (trs.map trD), .tuple rds])
theorem ltD_alike {x y : D} (h : LtD x) (h' : LtD y) : PySem.W.alike x y = true := by
  rcases h with ⟨s, rfl⟩ | ⟨s, i, rfl⟩ <;> rcases h' with ⟨t, rfl⟩ | ⟨t, j, rfl⟩ <;> rfl
theorem lts_alike : ∀ {xs ys : List D}, (∀ l ∈ xs, LtD l) → (∀ l ∈ ys, LtD l) → PySem.W.alikeAll xs ys = true
  | [], ys, _, _ => by simp only [PySem.W.alikeAll]
  | x :: xs, [], _, _ => by simp only [PySem.W.alikeAll]
  | x :: xs, y :: ys, h, h' => by
    simp only [PySem.W.alikeAll]
    rw [ltD_alike (h x (List.mem_cons_self ..)) (h' y (List.mem_cons_self ..)), lts_alike (fun l hl => h l (List.mem_cons_of_mem _ hl)) fun l hl => h' l (List.mem_cons_of_mem _ hl)]
    rfl
theorem rd_alike {x y : D} (h : RdD x) (h' : RdD y) : PySem.W.alike x y = true := by
  obtain ⟨a, b, ls, rfl, hl⟩ := h
  obtain ⟨c, d, ms, rfl, hm⟩ := h'
  simp only [PySem.W.alike, PySem.W.alikeAll, lts_alike hl hm, Bool.and_self, Bool.and_true]
theorem lts_depth : ∀ {xs : List D}, (∀ l ∈ xs, LtD l) → PyData.depthAll xs ≤ 1
  | [], _ => by simp only [PyData.depthAll]; omega
  | x :: xs, h => by
    have := lts_depth (xs := xs) fun l hl => h l (List.mem_cons_of_mem _ hl)
    rcases h x (List.mem_cons_self ..) with ⟨s, rfl⟩ | ⟨s, i, rfl⟩ <;> simp only [PyData.depthAll, PyData.depth] <;> omega
theorem rd_depth {x : D} (h : RdD x) : x.depth ≤ 3 := by
  obtain ⟨a, b, ls, rfl, hl⟩ := h
  have := lts_depth hl
  simp only [PyData.depth, PyData.depthAll]
  omega
theorem rds_sort {ds : List D} (h : ∀ d ∈ ds, RdD d) (hl : ds.length ≤ 16777216) : sortOk ds = true := by
  unfold sortOk
  simp only [Bool.and_eq_true, Bool.or_eq_true, List.all_eq_true, decide_eq_true_eq]
  refine ⟨fun d hd e he => rd_alike (h d hd) (h e he), fun d hd => Nat.le_trans (rd_depth (h d hd)) (by decide), .inl (.inl fun d hd => ?_), hl⟩
  obtain ⟨a, b, ls, rfl, _⟩ := h d hd
  rfl
theorem pf_srtD {K : SV → Prop} {ds : List D} {s : SV} (hs : items s = .ok ds) (h : sortOk ds = true) (k : K (.l (ds.mergeSort (PySem.W.dataLe false id)))) : PF .sorted s K :=
  ⟨_, by
    have e : opF .sorted s = (items s >>= fun ds => if sortOk ds = true then R.ok (SV.l (ds.mergeSort (PySem.W.dataLe false id))) else .bad) := rfl
    rw [e, hs, ok_bind, if_pos h], k⟩
section
variable {T : Tab} {gl : Str → Option D} {fuel k : Nat}
def Lrd (Γ : Gl0) : Prop := ∀ b xs (n m : Int) (ps : List (Int × Int)), St b xs → 1000 ≤ b → WebOk n m ps → ps.length ≤ 10 → FxS Γ "_law_roads" xs [.d (webD n ps)] fun r xs' => ∃ rds, r = .d (.tuple rds) ∧ (∀ x ∈ rds, RdD x) ∧ St (b - 1000) xs'
theorem lrd_of (tk : Tk (Γof T gl fuel k)) (lpd : Lpd (Γof T gl fuel k)) (h : T.at_ "_law_roads" = some d__law_roads) : Lrd (Γof T gl fuel (k + 1)) := by
  intro b xs n m ps hs hb hw hl
  have hul := srtU_len ps
  refine fxs_of h rfl ⟨_, rfl, rfl⟩ rfl ?_
  show PSs _ _ [some (.l xs), some (.d (webD n ps)), none, none, none, none, none, none, none, none, none] _
  walk_at "v"
  refine pcall (lpd n m ps hw (by omega)) rfl rfl ?_
  walk_at "v"
  refine pfor_map (fun i ρ => ∃ (xs : List D) (rds : List D) (o3 o4 o5 o6 o7 : Option SV), ρ = [some (.l xs), some (.d (webD n ps)), some (.l rds), o3, o4, o5, o6, o7, none, none, none] ∧ (∀ x ∈ rds, RdD x) ∧ rds.length ≤ 2 * i ∧ St (b - 10 * i) xs) ⟨xs, [], _, _, _, _, _, rfl, by simp, by simp, by simpa using hs⟩ ?_ ?_
  · rintro ρ ⟨xs, rds, o3, o4, o5, o6, o7, rfl, h1, h2, s1⟩
    walk_at "v"
    refine pf_srtD rfl (rds_sort h1 (by omega)) ?_
    walk_at "v"
    exact ⟨_, rfl, fun x hx => h1 x (List.mem_mergeSort.mp hx), s1.mono (by omega)⟩
  · rintro i ⟨qa, qb⟩ ρ hi ⟨xs, rds, o3, o4, o5, o6, o7, rfl, h1, h2, s1⟩
    have hil := (List.getElem?_eq_some_iff.mp hi).1
    walk_at "v"
    rw [enumD_map]
    refine lc1_map (xs := ps.zipIdx 0) (fun p : (Int × Int) × Nat => decide (p.1 = (qa, qb))) (fun p => .int p.2) (by rw [List.length_zipIdx]; omega) ?_ ?_
    · rintro ⟨q, j⟩ _
      walk_at "v"
      refine pc_eqt (α := Int × Int) q (qa, qb) (by decide) rfl rfl ?_
      walk_at "v"
      refine ⟨decide_eq_decide.mpr Iff.rfl, fun _ => ?_, fun _ => ?_⟩
      · walk_at "v"
        exact ⟨rfl, rfl⟩
      · walk_at "v"
    generalize hown : (ps.zipIdx 0).filter (fun p : (Int × Int) × Nat => decide (p.1 = (qa, qb))) = own
    have ho : own.length ≤ 10 := by
      rw [← hown]
      refine Nat.le_trans (List.length_filter_le _ _) ?_
      rw [List.length_zipIdx]
      omega
    walk_at "v"
    refine lc0_map (xs := own) (f := fun p : (Int × Int) × Nat => .int p.2) (fun p => .tuple [.str "tool", .int p.2]) (by omega) ?_ ?_
    · rintro ⟨q, j⟩ _
      walk_at "v"
      exact ⟨rfl, rfl⟩
    walk_at "v"
    refine lc0_map (xs := own) (f := fun p : (Int × Int) × Nat => .int p.2) (fun p => .tuple [.str "ask tool", .int p.2]) (by omega) ?_ ?_
    · rintro ⟨q, j⟩ _
      walk_at "v"
      exact ⟨rfl, rfl⟩
    walk_at "v"
    generalize hlt : [PyData.tuple [.str "stick"], .tuple [.str "ask"]] ++ own.map (fun p : (Int × Int) × Nat => PyData.tuple [.str "tool", .int p.2]) ++ own.map (fun p : (Int × Int) × Nat => PyData.tuple [.str "ask tool", .int p.2]) = lts
    have hll : 2 ≤ lts.length ∧ lts.length ≤ 100 := by
      rw [← hlt]
      simp
      omega
    have hlD : ∀ l ∈ lts, LtD l := fun l hl => by
      rw [← hlt] at hl
      simp only [List.mem_append, List.mem_cons, List.not_mem_nil, or_false, List.mem_map] at hl
      rcases hl with ((rfl | rfl) | ⟨p, _, rfl⟩) | ⟨p, _, rfl⟩
      · exact .inl ⟨_, rfl⟩
      · exact .inl ⟨_, rfl⟩
      · exact .inr ⟨_, _, rfl⟩
      · exact .inr ⟨_, _, rfl⟩
    refine prev_td ?_
    walk_at "v"
    refine pfor (fun j ρ => ∃ (xs : List D) (rds : List D) (o6 o7 : Option SV), ρ = [some (.l xs), some (.d (webD n ps)), some (.l rds), some (.d (.tuple [.int qa, .int qb])), some (.d (.list (own.map fun p : (Int × Int) × Nat => .int p.2))), some (.l lts), o6, o7, none, none, none] ∧ (∀ x ∈ rds, RdD x) ∧ rds.length ≤ 2 * i + j ∧ St (b - 10 * i - 4 * j) xs) ⟨xs, rds, _, _, rfl, h1, by omega, s1.mono (by omega)⟩ ?_ ?_
    · rintro ρ ⟨xs, rds, o6, o7, rfl, h1, h2, s2⟩
      exact ⟨xs, rds, _, _, _, _, _, rfl, h1, by simp at h2; omega, s2.mono (by simp; omega)⟩
    · rintro j ends ρ hj ⟨xs, rds, o6, o7, rfl, h1, h2, s2⟩
      have hj2 : j < 2 := by simpa using (List.getElem?_eq_some_iff.mp hj).1
      obtain ⟨ea, eb, rfl⟩ : ∃ a b : Int, ends = .tuple [.int a, .int b] := by
        have := List.mem_of_getElem? hj
        simp only [List.mem_cons, List.not_mem_nil, or_false] at this
        rcases this with rfl | rfl
        · exact ⟨_, _, rfl⟩
        · exact ⟨_, _, rfl⟩
      walk_at "v"
      refine pcall_take tk s2 (by omega) (by omega) (by omega) fun c x2 c0 c1 s3 => ?_
      walk_at "v"
      refine px_l (α := Int) (f := .int) (xs := [0, 0, 1, 3]) c0 (by simpa using c1) fun many hmany => ?_
      have hmany2 : 0 ≤ many ∧ many ≤ 3 := by
        have := List.mem_of_getElem? hmany
        simp at this
        omega
      walk_at "v"
      refine pif_dd (fun c2 => ?_) (fun c2 => ?_)
      · walk_at "v"
        refine lc0_st 0 (fun j2 acc s => (∀ x ∈ acc, LtD x) ∧ acc.length = j2 ∧ St (b - 10 * i - 4 * j - 1 - j2) s) x2 rfl ⟨by simp, rfl, s3.mono (by omega)⟩ (by simp; omega) ?_ ?_
        · rintro r s ⟨hr, hrl, s4⟩
          rw [List.length_range] at hrl s4
          walk_at "v"
          refine ⟨s, _, _, _, rfl, fun x hx => ?_, by simp; omega, s4.mono (by omega)⟩
          rcases List.mem_append.mp hx with z | z
          · exact h1 x z
          · rw [List.mem_singleton.mp z]
            exact ⟨ea, eb, r, rfl, hr⟩
        · rintro j2 x acc s hx ⟨ha, hal, s4⟩
          have hj3 := (List.getElem?_eq_some_iff.mp hx).1
          rw [List.length_range] at hj3
          walk_at "v"
          refine pcall_take tk s4 (by omega) (by omega) (by omega) fun e x5 e0 e1 s5 => ?_
          walk_at "v"
          refine px_lD e0 (by omega) fun y hy => ?_
          walk_at "v"
          refine ⟨_, rfl, fun z hz => ?_, by simp [hal], s5.mono (by omega)⟩
          rcases List.mem_append.mp hz with w | w
          · exact ha z w
          · rw [List.mem_singleton.mp w]; exact hlD y (List.mem_of_getElem? hy)
      · walk_at "v"
        exact ⟨x2, rds, _, _, rfl, h1, by omega, s3.mono (by omega)⟩
end

end Dn

set_option Elab.async false
set_option linter.all false
set_option maxRecDepth 100000
set_option maxHeartbeats 4000000
namespace Dn
open PySem PySem.Spec PyProof.Rows
open PySem.W (Datum DatumOrd Tup T3 T4)
local macro_rules | `(tactic| walk_at "omegas") => `(tactic| first | rfl | omega | (simp only [List.length_append, List.length_map, List.length_cons, List.length_nil, List.length_range, List.length_zipIdx, List.length_reverse, List.length_replicate]; omega))
local macro_rules | `(tactic| walk_at "v1") => `(tactic| first
  | with_reducible refine pb_add ?_
  | with_reducible refine pb_sub ?_
  | with_reducible refine pc_lt ?_
  | with_reducible refine pc_gt ?_
  | with_reducible refine pc_le ?_
  | with_reducible refine pc_ge ?_
  | with_reducible refine pc_eqi ?_
  | with_reducible refine pc_nei ?_
  | with_reducible refine pif_t ?_
  | with_reducible refine pif_f ?_
  | with_reducible refine pif_not ?_
  | with_reducible refine pb_mod (by first | decide | omega) ?_
  | with_reducible refine pb_fdiv (by first | decide | omega) (by first | decide | omega) ?_
  | with_reducible refine pb_mul (by first | decide | omega) (by first | decide | omega) ?_
  | with_reducible refine pb_pow (by first | decide | omega) ?_
  | with_reducible refine pb_addt (by walk_at "omegas") ?_
  | with_reducible refine pb_addl (by walk_at "omegas") ?_
  | with_reducible refine PSide.mk (by walk_at "omegas") ?_
  | with_reducible refine pf2_max ?_
  | with_reducible refine pf2_min ?_
  | with_reducible refine pf_lentm ?_
  | with_reducible refine pf_lendm ?_
  | with_reducible refine pf_lenlm ?_
  | with_reducible refine pf_lent ?_
  | with_reducible refine pf_lend ?_
  | with_reducible refine pf_lenl ?_
  | with_reducible refine pf_tupl ?_
  | with_reducible refine pf_tupd ?_
  | with_reducible refine pf_tupt ?_
  | with_reducible refine pf_lisl ?_
  | with_reducible refine pf_lisd ?_
  | with_reducible refine pf_list ?_
  | with_reducible refine pf_abs ?_
  | with_reducible refine pf_any ?_
  | with_reducible refine pf_all ?_
  | with_reducible refine pc_in2 ?_
  | with_reducible refine pc_nin2 ?_
  | with_reducible refine pc_ini ?_
  | with_reducible refine pc_inil ?_
  | with_reducible refine pc_inid ?_
  | with_reducible refine pc_isb ?_
  | with_reducible refine pc_isnb ?_
  | with_reducible refine pc_eqb ?_
  | with_reducible refine pc_neb ?_
  | with_reducible refine prng (by omega) ?_ (by omega)
  | with_reducible refine prev_t ?_
  | with_reducible refine prev_l ?_
  | with_reducible refine pf_lrng (by omega) (by omega) ?_
  | with_reducible refine pf_trng (by omega) (by omega) ?_
  | with_reducible refine PSs.w ?_
  | refine pc_in2 ?_
  | refine pc_nin2 ?_
  | refine PX.mk _ rfl ?_
  | refine PIx.mk _ rfl ?_)
local macro_rules | `(tactic| walk_at "v") => `(tactic| ((conv => whnf); repeat (walk_at "v1"; (conv => whnf))))
local macro_rules | `(tactic| walk_at "w1") => `(tactic| first
  | with_reducible refine pb_add ?_
  | with_reducible refine pb_sub ?_
  | with_reducible refine pc_lt ?_
  | with_reducible refine pc_gt ?_
  | with_reducible refine pc_le ?_
  | with_reducible refine pc_ge ?_
  | with_reducible refine pc_eqi ?_
  | with_reducible refine pc_nei ?_
  | with_reducible refine pif_t ?_
  | with_reducible refine pif_f ?_
  | with_reducible refine pif_not ?_
  | with_reducible refine pb_mod (by first | decide | omega) ?_
  | with_reducible refine pb_fdiv (by first | decide | omega) (by first | decide | omega) ?_
  | with_reducible refine pb_mul (by first | decide | omega) (by first | decide | omega) ?_
  | with_reducible refine pb_pow (by first | decide | omega) ?_
  | with_reducible refine pb_addt (by walk_at "omegas") ?_
  | with_reducible refine pb_addl (by walk_at "omegas") ?_
  | with_reducible refine PSide.mk (by walk_at "omegas") ?_
  | with_reducible refine pf2_max ?_
  | with_reducible refine pf2_min ?_
  | with_reducible refine pf_lentm ?_
  | with_reducible refine pf_lendm ?_
  | with_reducible refine pf_lenlm ?_
  | with_reducible refine pf_lent ?_
  | with_reducible refine pf_lend ?_
  | with_reducible refine pf_lenl ?_
  | with_reducible refine pf_tupl ?_
  | with_reducible refine pf_tupd ?_
  | with_reducible refine pf_tupt ?_
  | with_reducible refine pf_lisl ?_
  | with_reducible refine pf_lisd ?_
  | with_reducible refine pf_list ?_
  | with_reducible refine pf_abs ?_
  | with_reducible refine pf_any ?_
  | with_reducible refine pf_all ?_
  | with_reducible refine pc_in2 ?_
  | with_reducible refine pc_nin2 ?_
  | with_reducible refine pc_ini ?_
  | with_reducible refine pc_inil ?_
  | with_reducible refine pc_inid ?_
  | with_reducible refine pc_isb ?_
  | with_reducible refine pc_isnb ?_
  | with_reducible refine pc_eqb ?_
  | with_reducible refine pc_neb ?_
  | with_reducible refine prng (by omega) ?_ (by omega)
  | with_reducible refine prev_t ?_
  | with_reducible refine prev_l ?_
  | with_reducible refine pf_lrng (by omega) (by omega) ?_
  | with_reducible refine pf_trng (by omega) (by omega) ?_
  | with_reducible refine PSs.w ?_
  | with_reducible refine pcut_t ?_
  | with_reducible refine pcut_d ?_
  | with_reducible refine pcut_l ?_
  | refine pc_in2 ?_
  | refine pc_nin2 ?_
  | refine PX.mk _ rfl ?_
  | refine PIx.mk _ rfl ?_)
local macro_rules | `(tactic| walk_at "w") => `(tactic| ((conv => whnf); repeat (walk_at "w1"; (conv => whnf))))
open TL (tl)
/-! ### texts of signs that are shown as they are -/
def okC (c : Nat) : Prop := c = 10 ∨ (32 ≤ c ∧ c < 127)
structure Tx (n : Nat) (z : Str) : Prop where
  len : z.length ≤ n
  ok : ∀ c ∈ tl z, okC c
theorem len_tl (z : Str) : (tl z).length = z.length := rfl
theorem Tx.mono {m n : Nat} {z : Str} (h : Tx m z) (l : m ≤ n) : Tx n z := ⟨Nat.le_trans h.len l, h.ok⟩
theorem tx_app {m n : Nat} {x y : Str} (h : Tx m x) (h' : Tx n y) : Tx (m + n) (x ++ y) := by
  refine ⟨?_, fun c hc => ?_⟩
  · rw [← len_tl, TL.tl_append, List.length_append, len_tl, len_tl]
    have := h.len; have := h'.len; omega
  · rw [TL.tl_append] at hc
    exact (List.mem_append.mp hc).elim (h.ok c) (h'.ok c)
theorem joinL_len {s m : Nat} {S : List Nat} (hs : S.length ≤ s) : ∀ {ps : List (List Nat)}, (∀ p ∈ ps, p.length ≤ m) → (TL.joinL S ps).length ≤ ps.length * (m + s)
  | [], _ => Nat.zero_le _
  | [p], h => by
    show p.length ≤ 1 * (m + s)
    have := h p (List.mem_cons_self ..); omega
  | p :: q :: r, h => by
    have ih := joinL_len hs (ps := q :: r) fun z hz => h z (List.mem_cons_of_mem _ hz)
    show (p ++ (S ++ TL.joinL S (q :: r))).length ≤ _
    rw [List.length_append, List.length_append, List.length_cons, Nat.succ_mul]
    have := h p (List.mem_cons_self ..); omega
theorem joinL_mem {S : List Nat} {c : Nat} : ∀ {ps : List (List Nat)}, c ∈ TL.joinL S ps → c ∈ S ∨ ∃ p ∈ ps, c ∈ p
  | [], h => by cases h
  | [p], h => .inr ⟨p, List.mem_cons_self .., h⟩
  | p :: q :: r, h => by
    rcases List.mem_append.mp (show c ∈ p ++ (S ++ TL.joinL S (q :: r)) from h) with z | z
    · exact .inr ⟨p, List.mem_cons_self .., z⟩
    · rcases List.mem_append.mp z with z | z
      · exact .inl z
      · rcases joinL_mem z with z | ⟨x, hx, z⟩
        · exact .inl z
        · exact .inr ⟨x, List.mem_cons_of_mem _ hx, z⟩
theorem tx_join {s m : Nat} {y : Str} {ps : List Str} (hy : Tx s y) (h : ∀ p ∈ ps, Tx m p) : Tx (ps.length * (m + s)) (Txt.join y ps) := by
  refine ⟨?_, fun c hc => ?_⟩
  · rw [← len_tl, TL.join_eq, TL.tl_join]
    have := joinL_len (S := tl y) (s := s) (m := m) hy.len (ps := ps.map tl) fun p hp => by
      obtain ⟨z, hz, rfl⟩ := List.mem_map.mp hp
      exact (h z hz).len
    rwa [List.length_map] at this
  · rw [TL.join_eq, TL.tl_join] at hc
    rcases joinL_mem hc with z | ⟨p, hp, z⟩
    · exact hy.ok c z
    · obtain ⟨x, hx, rfl⟩ := List.mem_map.mp hp
      exact (h x hx).ok c z
theorem sum_le {m : Nat} : ∀ {ps : List Str}, (∀ p ∈ ps, p.length ≤ m) → (ps.map fun (p : Str) => p.length).sum ≤ ps.length * m
  | [], _ => Nat.zero_le _
  | p :: ps, h => by
    rw [List.map_cons, List.sum_cons, List.length_cons, Nat.succ_mul]
    have := h p (List.mem_cons_self ..)
    have := sum_le (ps := ps) fun x hx => h x (List.mem_cons_of_mem _ hx)
    omega
def intT (i : Int) : Str := toString i
theorem intT_tl {i : Int} (h : 0 ≤ i) : tl (intT i) = TL.numL i.toNat := by
  have := TL.tl_num i.toNat
  rw [Int.toNat_of_nonneg h] at this
  exact this
theorem num_digit (n : Nat) : ∀ c ∈ TL.numL n, 48 ≤ c ∧ c < 58 := by
  induction n using Nat.strongRecOn with
  | ind n ih =>
    intro c hc
    by_cases h : n < 10
    · rw [TL.numL_lt h, List.mem_singleton] at hc
      omega
    · rw [TL.numL_step (by omega)] at hc
      rcases List.mem_append.mp hc with z | z
      · exact ih _ (by omega) c z
      · rw [List.mem_singleton] at z
        omega
theorem tx_int {i : Int} (h0 : 0 ≤ i) (h1 : i < 1000000) : Tx 6 (intT i) := by
  refine ⟨toString_length_le (k := 6) h0 (by decide) (by omega), fun c hc => ?_⟩
  rw [intT_tl h0] at hc
  have := num_digit _ c hc
  exact .inr (by omega)
theorem print_all : ∀ c < 127, 32 ≤ c → Unicode.isPrintable c = true := by decide +kernel
theorem repr_char {q c : Nat} (h : okC c) : (Builtin.Str.reprChar q c).length ≤ 2 := by
  unfold Builtin.Str.reprChar
  by_cases h1 : (c == q || c == 92) = true
  · rw [if_pos h1]; exact Nat.le_refl 2
  rw [if_neg h1]
  by_cases h2 : (c == 10) = true
  · rw [if_pos h2]; decide
  rw [if_neg h2]
  by_cases h3 : (c == 13) = true
  · rw [if_pos h3]; decide
  rw [if_neg h3]
  by_cases h4 : (c == 9) = true
  · rw [if_pos h4]; decide
  rw [if_neg h4]
  have hp : Unicode.isPrintable c = true := by
    rcases h with rfl | h
    · exact absurd (show ((10 : Nat) == 10) = true by decide) h2
    · exact print_all c h.2 h.1
  rw [if_pos hp]
  exact Nat.le_succ 1
theorem repr_fold {q : Nat} : ∀ (l : List Nat) (n : Nat), (∀ c ∈ l, okC c) → l.foldl (fun n c => n + (Builtin.Str.reprChar q c).length) n ≤ n + 2 * l.length
  | [], n, _ => by simp
  | c :: l, n, h => by
    rw [List.foldl_cons, List.length_cons]
    have := repr_char (q := q) (h c (List.mem_cons_self ..))
    have := repr_fold (q := q) l (n + (Builtin.Str.reprChar q c).length) fun x hx => h x (List.mem_cons_of_mem _ hx)
    omega
theorem Tx.repr {n : Nat} {z : Str} (h : Tx n z) : (reprText z).length ≤ 2 * n + 2 := by
  rw [← reprLen_eq, ← Array.foldl_toList]
  have h2 : (tl z).length ≤ n := h.len
  exact Nat.le_trans (repr_fold (tl z) 2 h.ok) (by omega)
theorem pf_reprs {n : Nat} {z : Str} {K : SV → Prop} (h : Tx n z) (hn : n ≤ 8000000) (k : K (.d (.str (reprText z)))) : PF .repr (.d (.str z)) K :=
  ⟨.d (.str (reprText z)), if_pos (c := (reprText z).length ≤ LIM) (Nat.le_trans h.repr (by show 2 * n + 2 ≤ 16777216; omega)), k⟩
theorem pf_stri {i : Int} {K : SV → Prop} (h0 : 0 ≤ i) (h1 : i < 1000000) (k : K (.d (.str (intT i)))) : PF .str (.d (.int i)) K :=
  ⟨_, if_pos (by
    by_cases h : i.natAbs = 0
    · rw [h]; decide
    · have := Nat.log2_lt (k := 20) h; omega), k⟩
theorem pb_adds {m n : Nat} {x y : Str} {K : SV → Prop} (h : Tx m x) (h' : Tx n y) (hn : m + n ≤ 16777216) (k : K (.d (.str (x ++ y)))) : PB .add (.d (.str x)) (.d (.str y)) K :=
  ⟨_, if_pos (by have := h.len; have := h'.len; show _ ≤ 16777216; omega), k⟩
theorem strsOf_map : ∀ ys : List Str, strsOf (ys.map PyData.str) = .ok ys
  | [] => rfl
  | y :: ys => by show (strsOf (ys.map PyData.str) >>= fun zs => R.ok (y :: zs)) = _; rw [strsOf_map ys]; rfl
theorem pt_join {m : Nat} {z : Str} {s : SV} {ys : List Str} {K : SV → Prop} (hs : items s = .ok (ys.map PyData.str)) (h : ∀ y ∈ ys, Tx m y) (hn : ys.length * m + ys.length * z.length ≤ 16777216) (k : K (.d (.str (Txt.join z ys)))) : PTm .join z s K := by
  have c : (ys.map fun (y : Str) => y.length).sum + ys.length * z.length ≤ 16777216 := by
    have := sum_le (ps := ys) (m := m) fun y hy => (h y hy).len
    omega
  refine ⟨_, ?_, k⟩
  have e : opT .join z s = (do let ds ← items s; let ys ← strsOf ds; if (ys.map fun (y : Str) => y.length).sum + ys.length * z.length ≤ 16777216 then R.ok (SV.d (.str (Txt.join z ys))) else .bad) := by
    cases s with
    | d x => cases x <;> rfl
    | l xs => rfl
    | ow w => rfl
  rw [e, hs]
  show (strsOf (ys.map PyData.str) >>= _) = _
  rw [strsOf_map]
  exact if_pos c
/-- a hand's letter -/
def letT (h : Int) : Str := ⟨#[97 + h.toNat]⟩
theorem letters_tl : tl ("abcdef" : Str) = [97, 98, 99, 100, 101, 102] := by rw [TL.tl_ofString]; rfl
theorem tx_let {h : Int} (h0 : 0 ≤ h) (h1 : h < 6) : Tx 1 (letT h) := ⟨Nat.le_refl _, fun c hc => by
  have : c = 97 + h.toNat := List.mem_singleton.mp hc
  exact .inr (by omega)⟩
theorem px_let {h : Int} {K : SV → Prop} (h0 : 0 ≤ h) (h1 : h < 6) (k : K (.d (.str (letT h)))) : PX (.d (.str "abcdef")) (.d (.int h)) K := by
  have hl : ("abcdef" : Str).length ≤ LIM := by rw [← len_tl, letters_tl]; decide
  have e : L2.atI (tl ("abcdef" : Str)) h = some (97 + h.toNat) := by
    rw [letters_tl]
    have : h = 0 ∨ h = 1 ∨ h = 2 ∨ h = 3 ∨ h = 4 ∨ h = 5 := by omega
    rcases this with rfl | rfl | rfl | rfl | rfl | rfl <;> rfl
  refine ⟨.d (.str (letT h)), (if_pos (c := ("abcdef" : Str).length ≤ LIM) (e := R.bad) hl).trans ?_, k⟩
  show (match L2.atI (tl ("abcdef" : Str)) h with | some c => R.ok (SV.d (.str ⟨#[c]⟩)) | none => .bad) = _
  rw [e]
  rfl
theorem tx_lit {s : String} {n : Nat} (h : (s.toList.map Char.toNat).length ≤ n) (h2 : (s.toList.map Char.toNat).all (fun c => c == 10 || (decide (32 ≤ c) && decide (c < 127))) = true) : Tx n (s : Str) := by
  refine ⟨?_, fun c hc => ?_⟩
  · rw [← len_tl, TL.tl_ofString]; exact h
  · rw [TL.tl_ofString] at hc
    have := List.all_eq_true.mp h2 c hc
    simp only [Bool.or_eq_true, beq_iff_eq, Bool.and_eq_true, decide_eq_true_eq] at this
    exact this
/-! ### a wish's text -/
def wishT (w : List Int) : Str := Txt.join "," (w.map intT)
theorem tx_c : Tx 1 ("," : Str) := tx_lit (by decide) (by decide)
theorem tx_b : Tx 1 (" " : Str) := tx_lit (by decide) (by decide)
theorem tx_n : Tx 1 ("\n" : Str) := tx_lit (by decide) (by decide)
theorem tx_m : Tx 1 ("-" : Str) := tx_lit (by decide) (by decide)
theorem tx_wish {w : List Int} {n : Nat} (hl : w.length ≤ n) (h : ∀ i ∈ w, 0 ≤ i ∧ i < 1000000) : Tx (n * 7) (wishT w) := by
  have := tx_join (ps := w.map intT) (m := 6) tx_c fun p hp => by
    obtain ⟨i, hi, rfl⟩ := List.mem_map.mp hp
    exact tx_int (h i hi).1 (h i hi).2
  rw [List.length_map] at this
  exact this.mono (by have := Nat.mul_le_mul_right 7 hl; omega)

end Dn

set_option Elab.async false
set_option linter.all false
set_option maxRecDepth 100000
set_option maxHeartbeats 4000000
namespace Dn
open PySem PySem.Spec PyProof.Rows
open PySem.W (Datum DatumOrd Tup T3 T4)
def d_letters_text : Fdef where
  nm := "letters_text"
  ps := ["hands"]
  N := ["hands", "hand"]
  fns := []
  blt := []
  md := [.ro]
  body := (.cons (.ret (.tm .join (.str " ") (.lc0 [("hand", 1)] (.n 1) (.e (.var 0)) (.idx (.glob "LETTERS") (.var 1)))))
    .nil)

def d_wish_text : Fdef where
  nm := "wish_text"
  ps := ["wish"]
  N := ["wish", "tool"]
  fns := []
  blt := ["str"]
  md := [.ro]
  body := (.cons (.ret (.tm .join (.str ",") (.lc0 [("tool", 1)] (.n 1) (.e (.var 0)) (.bf .str (.var 1)))))
    .nil)

def d_tools_text : Fdef where
  nm := "tools_text"
  ps := ["tools"]
  N := ["tools", "one", "other"]
  fns := []
  blt := ["len"]
  md := [.ro]
  body := (.cons (.ife (.cmp .eq (.bf .len (.var 0)) (.int 0))
    (.cons (.ret (.glob "NOTHING"))
    .nil)
    .nil)
    (.cons (.ret (.tm .join (.str " ") (.lc0 [("one", 1), ("other", 2)] (.t (.cons (.n 1) (.cons (.n 2) .nil))) (.e (.var 0)) (.bin .add (.bin .add (.idx (.glob "LETTERS") (.var 1)) (.str "-")) (.idx (.glob "LETTERS") (.var 2))))))
    .nil))

def d_show_world : Fdef where
  nm := "show_world"
  ps := ["world"]
  N := ["world", "rows", "web", "rule", "wishes", "stops", "hand", "some", "wish"]
  fns := ["tools_text", "wish_text", "letters_text"]
  blt := ["str", "enumerate"]
  md := [.ro]
  body := (.cons (.asg (.t (.cons (.n 2) (.cons (.n 3) (.cons (.n 4) (.cons (.n 5) .nil))))) (.var 0))
    (.cons (.asg (.n 1) (.lst (.cons (.bin .add (.str "hands ") (.bf .str (.idx (.var 2) (.int 0)))) (.cons (.bin .add (.str "tools ") (.call "tools_text" (.cons (.idx (.var 2) (.int 1)) .nil))) (.cons (.bin .add (.str "rule ") (.var 3)) .nil)))))
    (.cons (.for_ (.t (.cons (.n 6) (.cons (.n 7) .nil))) (.enum (.var 4))
    (.cons (.ife (.cmp .ne (.var 7) (.tup .nil))
    (.cons (.ex (.app 1 (.tm .join (.str " ") (.bin .add (.lst (.cons (.str "wishes") (.cons (.idx (.glob "LETTERS") (.var 6)) .nil))) (.lc0 [("wish", 8)] (.n 8) (.e (.var 7)) (.call "wish_text" (.cons (.var 8) .nil)))))))
    .nil)
    .nil)
    .nil))
    (.cons (.ife (.cmp .ne (.var 5) (.tup .nil))
    (.cons (.ex (.app 1 (.bin .add (.str "stops ") (.call "letters_text" (.cons (.var 5) .nil)))))
    .nil)
    .nil)
    (.cons (.ret (.tm .join (.str "\n") (.var 1)))
    .nil)))))

def d__law_wish_text : Fdef where
  nm := "_law_wish_text"
  ps := ["_law_wish"]
  N := ["_law_wish", "_law_tool"]
  fns := []
  blt := ["str"]
  md := [.ro]
  body := (.cons (.ret (.tm .join (.str ",") (.lc0 [("_law_tool", 1)] (.n 1) (.e (.var 0)) (.bf .str (.var 1)))))
    .nil)

local macro_rules | `(tactic| walk_at "omegas") => `(tactic| first | rfl | omega | (simp only [List.length_append, List.length_map, List.length_cons, List.length_nil, List.length_range, List.length_zipIdx, List.length_reverse, List.length_replicate]; omega))
local macro_rules | `(tactic| walk_at "v1") => `(tactic| first
  | with_reducible refine pb_add ?_
  | with_reducible refine pb_sub ?_
  | with_reducible refine pc_lt ?_
  | with_reducible refine pc_gt ?_
  | with_reducible refine pc_le ?_
  | with_reducible refine pc_ge ?_
  | with_reducible refine pc_eqi ?_
  | with_reducible refine pc_nei ?_
  | with_reducible refine pif_t ?_
  | with_reducible refine pif_f ?_
  | with_reducible refine pif_not ?_
  | with_reducible refine pb_mod (by first | decide | omega) ?_
  | with_reducible refine pb_fdiv (by first | decide | omega) (by first | decide | omega) ?_
  | with_reducible refine pb_mul (by first | decide | omega) (by first | decide | omega) ?_
  | with_reducible refine pb_pow (by first | decide | omega) ?_
  | with_reducible refine pb_addt (by walk_at "omegas") ?_
  | with_reducible refine pb_addl (by walk_at "omegas") ?_
  | with_reducible refine PSide.mk (by walk_at "omegas") ?_
  | with_reducible refine pf2_max ?_
  | with_reducible refine pf2_min ?_
  | with_reducible refine pf_lentm ?_
  | with_reducible refine pf_lendm ?_
  | with_reducible refine pf_lenlm ?_
  | with_reducible refine pf_lent ?_
  | with_reducible refine pf_lend ?_
  | with_reducible refine pf_lenl ?_
  | with_reducible refine pf_tupl ?_
  | with_reducible refine pf_tupd ?_
  | with_reducible refine pf_tupt ?_
  | with_reducible refine pf_lisl ?_
  | with_reducible refine pf_lisd ?_
  | with_reducible refine pf_list ?_
  | with_reducible refine pf_abs ?_
  | with_reducible refine pf_any ?_
  | with_reducible refine pf_all ?_
  | with_reducible refine pc_in2 ?_
  | with_reducible refine pc_nin2 ?_
  | with_reducible refine pc_ini ?_
  | with_reducible refine pc_inil ?_
  | with_reducible refine pc_inid ?_
  | with_reducible refine pc_isb ?_
  | with_reducible refine pc_isnb ?_
  | with_reducible refine pc_eqb ?_
  | with_reducible refine pc_neb ?_
  | with_reducible refine prng (by omega) ?_ (by omega)
  | with_reducible refine prev_t ?_
  | with_reducible refine prev_l ?_
  | with_reducible refine pf_lrng (by omega) (by omega) ?_
  | with_reducible refine pf_trng (by omega) (by omega) ?_
  | with_reducible refine PSs.w ?_
  | refine pc_in2 ?_
  | refine pc_nin2 ?_
  | refine PX.mk _ rfl ?_
  | refine PIx.mk _ rfl ?_)
local macro_rules | `(tactic| walk_at "v") => `(tactic| ((conv => whnf); repeat (walk_at "v1"; (conv => whnf))))
local macro_rules | `(tactic| walk_at "w1") => `(tactic| first
  | with_reducible refine pb_add ?_
  | with_reducible refine pb_sub ?_
  | with_reducible refine pc_lt ?_
  | with_reducible refine pc_gt ?_
  | with_reducible refine pc_le ?_
  | with_reducible refine pc_ge ?_
  | with_reducible refine pc_eqi ?_
  | with_reducible refine pc_nei ?_
  | with_reducible refine pif_t ?_
  | with_reducible refine pif_f ?_
  | with_reducible refine pif_not ?_
  | with_reducible refine pb_mod (by first | decide | omega) ?_
  | with_reducible refine pb_fdiv (by first | decide | omega) (by first | decide | omega) ?_
  | with_reducible refine pb_mul (by first | decide | omega) (by first | decide | omega) ?_
  | with_reducible refine pb_pow (by first | decide | omega) ?_
  | with_reducible refine pb_addt (by walk_at "omegas") ?_
  | with_reducible refine pb_addl (by walk_at "omegas") ?_
  | with_reducible refine PSide.mk (by walk_at "omegas") ?_
  | with_reducible refine pf2_max ?_
  | with_reducible refine pf2_min ?_
  | with_reducible refine pf_lentm ?_
  | with_reducible refine pf_lendm ?_
  | with_reducible refine pf_lenlm ?_
  | with_reducible refine pf_lent ?_
  | with_reducible refine pf_lend ?_
  | with_reducible refine pf_lenl ?_
  | with_reducible refine pf_tupl ?_
  | with_reducible refine pf_tupd ?_
  | with_reducible refine pf_tupt ?_
  | with_reducible refine pf_lisl ?_
  | with_reducible refine pf_lisd ?_
  | with_reducible refine pf_list ?_
  | with_reducible refine pf_abs ?_
  | with_reducible refine pf_any ?_
  | with_reducible refine pf_all ?_
  | with_reducible refine pc_in2 ?_
  | with_reducible refine pc_nin2 ?_
  | with_reducible refine pc_ini ?_
  | with_reducible refine pc_inil ?_
  | with_reducible refine pc_inid ?_
  | with_reducible refine pc_isb ?_
  | with_reducible refine pc_isnb ?_
  | with_reducible refine pc_eqb ?_
  | with_reducible refine pc_neb ?_
  | with_reducible refine prng (by omega) ?_ (by omega)
  | with_reducible refine prev_t ?_
  | with_reducible refine prev_l ?_
  | with_reducible refine pf_lrng (by omega) (by omega) ?_
  | with_reducible refine pf_trng (by omega) (by omega) ?_
  | with_reducible refine PSs.w ?_
  | with_reducible refine pcut_t ?_
  | with_reducible refine pcut_d ?_
  | with_reducible refine pcut_l ?_
  | refine pc_in2 ?_
  | refine pc_nin2 ?_
  | refine PX.mk _ rfl ?_
  | refine PIx.mk _ rfl ?_)
local macro_rules | `(tactic| walk_at "w") => `(tactic| ((conv => whnf); repeat (walk_at "w1"; (conv => whnf))))
def toolT (p : Int × Int) : Str := letT p.1 ++ "-" ++ letT p.2
def toolsT (ps : List (Int × Int)) : Str := if ps = [] then "-" else Txt.join " " (ps.map toolT)
def wishRow (p : List (List Int) × Nat) : Str := Txt.join " " ([("wishes" : Str), letT p.2] ++ p.1.map wishT)
def wishRows (fs : List (List (List Int) × Nat)) : List Str := (fs.filter fun p => decide (p.1 ≠ [])).map wishRow
def worldL (n : Int) (ps : List (Int × Int)) (ru : Str) (fs : List (List (List Int))) (st : List Int) : List Str :=
  [("hands " : Str) ++ intT n, "tools " ++ toolsT ps, "rule " ++ ru] ++ wishRows fs.zipIdx ++ (if st = [] then [] else ["stops " ++ Txt.join " " (st.map letT)])
theorem tx_tool {p : Int × Int} {n : Int} (h : Pok n p) (hn : n ≤ 6) : Tx 3 (toolT p) := by
  obtain ⟨h1, h2, h3⟩ := h
  exact tx_app (tx_app (tx_let h1 (by omega)) tx_m) (tx_let (by omega) (by omega))
theorem tx_tools {ps : List (Int × Int)} {n : Int} (h : WebOk n 9 ps) (hn : n ≤ 6) : Tx 40 (toolsT ps) := by
  unfold toolsT
  by_cases c : ps = []
  · rw [if_pos c]; exact tx_m.mono (by decide)
  · rw [if_neg c]
    have := tx_join (ps := ps.map toolT) (m := 3) tx_b fun z hz => by
      obtain ⟨p, hp, rfl⟩ := List.mem_map.mp hz
      exact tx_tool (h.ok p hp) hn
    rw [List.length_map] at this
    exact this.mono (by have := h.len; omega)
theorem tx_rule {r : Str} (h : r ∈ rulesL) : Tx 6 r := by
  simp only [rulesL, List.mem_cons, List.not_mem_nil, or_false] at h
  rcases h with rfl | rfl | rfl | rfl | rfl <;> exact tx_lit (by decide) (by decide)
/-- what a world's wishes are, for their texts -/
structure WiOk (ws : List (List Int)) : Prop where
  len : ws.length ≤ 10
  wish : ∀ w ∈ ws, w.length ≤ 10 ∧ ∀ i ∈ w, 0 ≤ i ∧ i < 1000000
theorem WiOk.row {ws : List (List Int)} (h : WiOk ws) {i : Nat} (hi : i < 6) : Tx 1000 (wishRow (ws, i)) := by
  have := tx_join (ps := [("wishes" : Str), letT i] ++ ws.map wishT) (m := 70) tx_b fun z hz => by
    rcases List.mem_append.mp hz with z1 | z1
    · simp only [List.mem_cons, List.not_mem_nil, or_false] at z1
      rcases z1 with rfl | rfl
      · exact tx_lit (by decide) (by decide)
      · exact (tx_let (by omega) (by omega)).mono (by decide)
    · obtain ⟨w, hw, rfl⟩ := List.mem_map.mp z1
      exact tx_wish (n := 10) (h.wish w hw).1 (h.wish w hw).2
  refine this.mono ?_
  rw [List.length_append, List.length_map]
  have := h.len
  simp only [List.length_cons, List.length_nil]
  omega
theorem WorldOk.wi {n : Int} {ps : List (Int × Int)} {fs : List (List (List Int))} {st : List Int} (h : WorldOk n 4 ps fs st) : ∀ ws ∈ fs, WiOk ws := fun ws hws =>
  ⟨by have := h.wishes.most ws hws; omega, fun w hw => by
    have := h.wishes.wish hws hw
    have hl := h.web.len
    exact ⟨by omega, fun i hi => by have := this.2 i hi; omega⟩⟩
theorem zipIdx_lt {α : Type} {xs : List α} {p : α × Nat} (h : p ∈ xs.zipIdx) : p.2 < xs.length ∧ p.1 ∈ xs := by
  obtain ⟨a, i⟩ := p
  have := List.mem_zipIdx h
  refine ⟨by omega, ?_⟩
  rw [this.2.2]
  exact List.getElem_mem _
theorem tx_stops {st : List Int} (hr : st.Pairwise (· < ·)) (h : ∀ x ∈ st, 0 ≤ x ∧ x < 6) : Tx 12 (Txt.join " " (st.map letT)) := by
  have hl := rise_len hr h
  have := tx_join (ps := st.map letT) (m := 1) tx_b fun z hz => by
    obtain ⟨x, hx, rfl⟩ := List.mem_map.mp hz
    exact tx_let (h x hx).1 (h x hx).2
  rw [List.length_map] at this
  exact this.mono (by omega)
theorem tx_world {n : Int} {ps : List (Int × Int)} {ru : Str} {fs : List (List (List Int))} {st : List Int} (h : WorldOk n 4 ps fs st) (h0 : 0 ≤ n) (hn : n ≤ 6) (hru : ru ∈ rulesL) : (∀ z ∈ worldL n ps ru fs st, Tx 1000 z) ∧ (worldL n ps ru fs st).length ≤ 10 := by
  have hfl : fs.length ≤ 6 := by have := h.wishes.len; omega
  refine ⟨fun z hz => ?_, ?_⟩
  · unfold worldL at hz
    rcases List.mem_append.mp hz with z1 | z1
    · rcases List.mem_append.mp z1 with z1 | z1
      · simp only [List.mem_cons, List.not_mem_nil, or_false] at z1
        rcases z1 with rfl | rfl | rfl
        · exact (tx_app (m := 6) (tx_lit (by decide) (by decide)) (tx_int h0 (by omega))).mono (by decide)
        · exact (tx_app (m := 6) (tx_lit (by decide) (by decide)) (tx_tools h.web hn)).mono (by decide)
        · exact (tx_app (m := 6) (tx_lit (by decide) (by decide)) (tx_rule hru)).mono (by decide)
      · obtain ⟨p, hp, rfl⟩ := List.mem_map.mp z1
        obtain ⟨a, i⟩ := p
        obtain ⟨q1, q2⟩ := zipIdx_lt (List.mem_filter.mp hp).1
        exact (WorldOk.wi h a q2).row (by omega)
    · by_cases c : st = []
      · rw [if_pos c] at z1; cases z1
      · rw [if_neg c, List.mem_singleton] at z1
        subst z1
        exact (tx_app (m := 6) (tx_lit (by decide) (by decide)) (tx_stops h.stops fun x hx => by have := h.hands x hx; omega)).mono (by decide)
  · unfold worldL wishRows
    have : (fs.zipIdx.filter fun p => decide (p.1 ≠ [])).length ≤ fs.length := by
      refine Nat.le_trans (List.length_filter_le _ _) ?_
      rw [List.length_zipIdx]
      exact Nat.le_refl _
    by_cases c : st = []
    · rw [if_pos c]; simp only [List.length_append, List.length_map, List.length_cons, List.length_nil]; omega
    · rw [if_neg c]; simp only [List.length_append, List.length_map, List.length_cons, List.length_nil]; omega
section
variable {T : Tab} {gl : Str → Option D} {fuel k : Nat}
theorem let_of (gL : gl "LETTERS" = some (.str "abcdef")) (h : T.at_ "letters_text" = some d_letters_text) (st : List Int) (hh : ∀ x ∈ st, 0 ≤ x ∧ x < 6) (hl : st.length ≤ 1000) : Fx (Γof T gl fuel (k + 1)) "letters_text" [.d (itD st)] fun r => r = .d (.str (Txt.join " " (st.map letT))) := by
  refine fx_of h rfl rfl ?_
  show PSs _ _ [some (.d (itD st)), none] _
  walk_at "v"
  refine lc0_map (fun i => .str (letT i)) (by omega) ?_ ?_
  · intro i hi
    walk_at "v"
    refine ⟨_, gL, ?_⟩
    walk_at "v"
    refine px_let (hh i hi).1 (hh i hi).2 ?_
    walk_at "v"
    exact ⟨rfl, rfl⟩
  walk_at "v"
  refine pt_join (m := 1) (ys := st.map letT) (by rw [List.map_map]; rfl) (fun y hy => ?_) (by rw [List.length_map]; have : (" " : Str).length ≤ 1 := tx_b.len; have := Nat.mul_le_mul_left st.length this; omega) ?_
  · obtain ⟨x, hx, rfl⟩ := List.mem_map.mp hy
    exact tx_let (hh x hx).1 (hh x hx).2
  walk_at "v"
theorem wt_of (h : T.at_ "wish_text" = some d_wish_text) (w : List Int) (hh : ∀ i ∈ w, 0 ≤ i ∧ i < 1000000) (hl : w.length ≤ 1000) : Fx (Γof T gl fuel (k + 1)) "wish_text" [.d (itD w)] fun r => r = .d (.str (wishT w)) := by
  refine fx_of h rfl rfl ?_
  show PSs _ _ [some (.d (itD w)), none] _
  walk_at "v"
  refine lc0_map (fun i => .str (intT i)) (by omega) ?_ ?_
  · intro i hi
    walk_at "v"
    refine pf_stri (hh i hi).1 (hh i hi).2 ?_
    walk_at "v"
    exact ⟨rfl, rfl⟩
  walk_at "v"
  refine pt_join (m := 6) (ys := w.map intT) (by rw [List.map_map]; rfl) (fun y hy => ?_) (by rw [List.length_map]; have : ("," : Str).length ≤ 1 := tx_c.len; have := Nat.mul_le_mul_left w.length this; omega) ?_
  · obtain ⟨x, hx, rfl⟩ := List.mem_map.mp hy
    exact tx_int (hh x hx).1 (hh x hx).2
  walk_at "v"
  rfl
theorem lwt_of (h : T.at_ "_law_wish_text" = some d__law_wish_text) (w : List Int) (hh : ∀ i ∈ w, 0 ≤ i ∧ i < 1000000) (hl : w.length ≤ 1000) : Fx (Γof T gl fuel (k + 1)) "_law_wish_text" [.d (itD w)] fun r => r = .d (.str (wishT w)) := by
  refine fx_of h rfl rfl ?_
  show PSs _ _ [some (.d (itD w)), none] _
  walk_at "v"
  refine lc0_map (fun i => .str (intT i)) (by omega) ?_ ?_
  · intro i hi
    walk_at "v"
    refine pf_stri (hh i hi).1 (hh i hi).2 ?_
    walk_at "v"
    exact ⟨rfl, rfl⟩
  walk_at "v"
  refine pt_join (m := 6) (ys := w.map intT) (by rw [List.map_map]; rfl) (fun y hy => ?_) (by rw [List.length_map]; have : ("," : Str).length ≤ 1 := tx_c.len; have := Nat.mul_le_mul_left w.length this; omega) ?_
  · obtain ⟨x, hx, rfl⟩ := List.mem_map.mp hy
    exact tx_int (hh x hx).1 (hh x hx).2
  walk_at "v"
  rfl
theorem tt_of (gL : gl "LETTERS" = some (.str "abcdef")) (gN : gl "NOTHING" = some (.str "-")) (h : T.at_ "tools_text" = some d_tools_text) (n : Int) (ps : List (Int × Int)) (hn : n ≤ 6) (hw : WebOk n 9 ps) : Fx (Γof T gl fuel (k + 1)) "tools_text" [.d (.tuple (ps.map Datum.toD))] fun r => r = .d (.str (toolsT ps)) := by
  have hl := hw.len
  refine fx_of h rfl rfl ?_
  show PSs _ _ [some (.d (.tuple (ps.map Datum.toD))), none, none] _
  walk_at "v"
  refine pif_dc (fun c => ?_) (fun c => ?_)
  · have e : ps = [] := List.length_eq_zero_iff.mp (by omega)
    subst e
    walk_at "v"
    refine ⟨_, gN, ?_⟩
    walk_at "v"
    unfold toolsT
    rw [if_pos rfl]
  · have e : ps ≠ [] := fun z => c (by rw [z]; rfl)
    walk_at "v"
    refine lc0_map (fun p => .str (toolT p)) (by omega) ?_ ?_
    · rintro ⟨a, b⟩ hp
      obtain ⟨h1, h2, h3⟩ := hw.ok _ hp
      simp only at h1 h2 h3
      walk_at "v"
      refine ⟨_, gL, ?_⟩
      walk_at "v"
      refine px_let h1 (by omega) ?_
      walk_at "v"
      refine pb_adds (tx_let h1 (by omega)) tx_m (by decide) ?_
      walk_at "v"
      refine ⟨_, gL, ?_⟩
      walk_at "v"
      refine px_let (by omega) (by omega) ?_
      walk_at "v"
      refine pb_adds (tx_app (tx_let h1 (by omega)) tx_m) (tx_let (by omega) (by omega)) (by decide) ?_
      walk_at "v"
      exact ⟨rfl, rfl⟩
    walk_at "v"
    refine pt_join (m := 3) (ys := ps.map toolT) (by rw [List.map_map]; rfl) (fun y hy => ?_) (by rw [List.length_map]; have : (" " : Str).length ≤ 1 := tx_b.len; have := Nat.mul_le_mul_left ps.length this; omega) ?_
    · obtain ⟨x, hx, rfl⟩ := List.mem_map.mp hy
      exact tx_tool (hw.ok x hx) hn
    walk_at "v"
    unfold toolsT
    rw [if_neg e]
theorem wishRows_snoc {ws : List (List (List Int) × Nat)} {p : List (List Int) × Nat} : wishRows (ws ++ [p]) = if p.1 = [] then wishRows ws else wishRows ws ++ [wishRow p] := by
  unfold wishRows
  rw [List.filter_append, List.map_append]
  by_cases c : p.1 = []
  · rw [if_pos c, List.filter_cons_of_neg (by simpa using c)]
    simp
  · rw [if_neg c, List.filter_cons_of_pos (by simpa using c)]
    rfl
theorem wishRows_len {ws : List (List (List Int) × Nat)} : (wishRows ws).length ≤ ws.length := by
  unfold wishRows
  rw [List.length_map]
  exact List.length_filter_le _ _
theorem sh_ws (ws : List (List Int)) : SeqAt.shaped (wsD ws) = true := shaped_of (α := Tup (Tup Int)) (by decide) ⟨ws.map Tup.mk⟩ |> fun h => by
  have e : (Datum.toD (⟨ws.map Tup.mk⟩ : Tup (Tup Int)) : D) = wsD ws := by
    show PyData.tuple ((ws.map Tup.mk).map Datum.toD) = _
    rw [List.map_map]
    rfl
  rw [e] at h
  exact h
theorem sh_it (w : List Int) : SeqAt.shaped (itD w) = true := shaped_of (α := Tup Int) (by decide) ⟨w⟩
theorem sh_ps (ps : List (Int × Int)) : SeqAt.shaped (.tuple (ps.map Datum.toD)) = true := shaped_of (α := Tup (Int × Int)) (by decide) ⟨ps⟩
theorem map_nil_iff {α : Type} {f : α → D} {xs : List α} : decide (xs.map f = []) = decide (xs = []) := decide_eq_decide.mpr List.map_eq_nil_iff
theorem sw_of (gL : gl "LETTERS" = some (.str "abcdef")) (tt : ∀ n ps, n ≤ 6 → WebOk n 9 ps → Fx (Γof T gl fuel k) "tools_text" [.d (.tuple (ps.map Datum.toD))] fun r => r = .d (.str (toolsT ps)))
    (wt : ∀ w : List Int, (∀ i ∈ w, 0 ≤ i ∧ i < 1000000) → w.length ≤ 1000 → Fx (Γof T gl fuel k) "wish_text" [.d (itD w)] fun r => r = .d (.str (wishT w)))
    (lt : ∀ st : List Int, (∀ x ∈ st, 0 ≤ x ∧ x < 6) → st.length ≤ 1000 → Fx (Γof T gl fuel k) "letters_text" [.d (itD st)] fun r => r = .d (.str (Txt.join " " (st.map letT))))
    (h : T.at_ "show_world" = some d_show_world) (n : Int) (ps : List (Int × Int)) (ru : Str) (fs : List (List (List Int))) (st : List Int) (h0 : 0 ≤ n) (hn : n ≤ 6) (hru : ru ∈ rulesL) (wo : WorldOk n 4 ps fs st) :
    Fx (Γof T gl fuel (k + 1)) "show_world" [.d (worldD n ps ru fs st)] fun r => r = .d (.str (Txt.join "\n" (worldL n ps ru fs st))) := by
  have hfl : fs.length ≤ 6 := by have := wo.wishes.len; omega
  have hsl := rise_len wo.stops wo.hands
  obtain ⟨tw1, tw2⟩ := tx_world wo h0 hn hru
  refine fx_of h rfl rfl ?_
  show PSs _ _ [some (.d (worldD n ps ru fs st)), none, none, none, none, none, none, none, none] _
  walk_at "v"
  refine pf_stri h0 (by omega) ?_
  walk_at "v"
  refine pb_adds (m := 6) (tx_lit (by decide) (by decide)) (tx_int h0 (by omega)) (by decide) ?_
  walk_at "v"
  refine pcall (tt n ps hn wo.web) rfl rfl ?_
  walk_at "v"
  refine pb_adds (m := 6) (tx_lit (by decide) (by decide)) (tx_tools wo.web hn) (by decide) ?_
  walk_at "v"
  refine pb_adds (m := 6) (tx_lit (by decide) (by decide)) (tx_rule hru) (by decide) ?_
  walk_at "v"
  rw [enumD_map]
  refine pfor_map (fun i ρ => ∃ (o6 o7 : Option SV), ρ = [some (.d (worldD n ps ru fs st)), some (.l (([("hands " : Str) ++ intT n, "tools " ++ toolsT ps, "rule " ++ ru] ++ wishRows (fs.zipIdx.take i)).map .str)), some (.d (webD n ps)), some (.d (.str ru)), some (.d (fsD fs)), some (.d (itD st)), o6, o7, none]) ⟨_, _, rfl⟩ ?_ ?_
  · rintro ρ ⟨o6, o7, rfl⟩
    rw [List.take_of_length_le (Nat.le_of_eq rfl)]
    walk_at "v"
    refine pc_ne0 (sh_it st) ?_
    rw [map_nil_iff]
    walk_at "v"
    have hwl : (wishRows fs.zipIdx).length ≤ 6 := Nat.le_trans wishRows_len (by rw [List.length_zipIdx]; exact hfl)
    refine pif_dc (fun c => ?_) (fun c => ?_)
    · walk_at "v"
      refine pt_join (m := 1000) (ys := worldL n ps ru fs st) (by unfold worldL; rw [if_pos c, List.append_nil]; rfl) tw1 (by have : ("\n" : Str).length ≤ 1 := tx_n.len; have := Nat.mul_le_mul tw2 this; omega) ?_
      walk_at "v"
    · walk_at "v"
      refine pcall (lt st (fun x hx => by have := wo.hands x hx; omega) (by omega)) rfl rfl ?_
      walk_at "v"
      refine pb_adds (m := 6) (tx_lit (by decide) (by decide)) (tx_stops wo.stops fun x hx => by have := wo.hands x hx; omega) (by decide) ?_
      walk_at "v"
      refine pt_join (m := 1000) (ys := worldL n ps ru fs st) (by unfold worldL; rw [if_neg c]; simp only [List.map_append]; rfl) tw1 (by have : ("\n" : Str).length ≤ 1 := tx_n.len; have := Nat.mul_le_mul tw2 this; omega) ?_
      walk_at "v"
  · rintro i ⟨ws, j⟩ ρ hi ⟨o6, o7, rfl⟩
    obtain ⟨q1, q2⟩ := zipIdx_lt (List.mem_of_getElem? hi)
    simp only at q1 q2
    have wi := WorldOk.wi wo ws q2
    have hil := (List.getElem?_eq_some_iff.mp hi).1
    rw [List.length_zipIdx] at hil
    have hwl : (wishRows (fs.zipIdx.take i)).length ≤ 6 := Nat.le_trans wishRows_len (by rw [List.length_take]; omega)
    walk_at "v"
    refine pc_ne0 (sh_ws ws) ?_
    rw [map_nil_iff]
    walk_at "v"
    refine pif_dc (fun c => ?_) (fun c => ?_)
    · walk_at "v"
      rw [take_snoc hi, wishRows_snoc, if_pos c]
      exact ⟨_, _, rfl⟩
    · walk_at "v"
      refine ⟨_, gL, ?_⟩
      walk_at "v"
      refine px_let (by omega) (by omega) ?_
      walk_at "v"
      refine lc0_map (fun w => .str (wishT w)) (by have := wi.len; show ws.length ≤ _; omega) ?_ ?_
      · intro w hw
        have := wi.wish w hw
        walk_at "v"
        refine pcall (wt w this.2 (by omega)) rfl rfl ?_
        walk_at "v"
        exact ⟨rfl, rfl⟩
      walk_at "v"
      refine pb_addl (by have := wi.len; simp; omega) ?_
      walk_at "v"
      refine pt_join (m := 70) (ys := [("wishes" : Str), letT j] ++ ws.map wishT) (by rw [List.map_append, List.map_map]; rfl) (fun z hz => ?_) (by have := wi.len; have : (" " : Str).length ≤ 1 := tx_b.len; simp only [List.length_append, List.length_map, List.length_cons, List.length_nil]; have := Nat.mul_le_mul_left (0 + 1 + 1 + ws.length) this; omega) ?_
      · rcases List.mem_append.mp hz with z1 | z1
        · simp only [List.mem_cons, List.not_mem_nil, or_false] at z1
          rcases z1 with rfl | rfl
          · exact tx_lit (by decide) (by decide)
          · exact (tx_let (by omega) (by omega)).mono (by decide)
        · obtain ⟨w, hw, rfl⟩ := List.mem_map.mp z1
          exact tx_wish (n := 10) (wi.wish w hw).1 (wi.wish w hw).2
      walk_at "v"
      rw [take_snoc hi, wishRows_snoc, if_neg c, ← List.append_assoc, List.map_append (l₂ := [wishRow (ws, j)])]
      exact ⟨_, _, rfl⟩
end

end Dn

set_option Elab.async false
set_option linter.all false
set_option maxRecDepth 100000
set_option maxHeartbeats 4000000
namespace Dn
open PySem PySem.Spec PyProof.Rows
open PySem.W (Datum DatumOrd Tup T3 T4)
local macro_rules | `(tactic| walk_at "omegas") => `(tactic| first | rfl | omega | (simp only [List.length_append, List.length_map, List.length_cons, List.length_nil, List.length_range, List.length_zipIdx, List.length_reverse, List.length_replicate]; omega))
local macro_rules | `(tactic| walk_at "v1") => `(tactic| first
  | with_reducible refine pb_add ?_
  | with_reducible refine pb_sub ?_
  | with_reducible refine pc_lt ?_
  | with_reducible refine pc_gt ?_
  | with_reducible refine pc_le ?_
  | with_reducible refine pc_ge ?_
  | with_reducible refine pc_eqi ?_
  | with_reducible refine pc_nei ?_
  | with_reducible refine pif_t ?_
  | with_reducible refine pif_f ?_
  | with_reducible refine pif_not ?_
  | with_reducible refine pb_mod (by first | decide | omega) ?_
  | with_reducible refine pb_fdiv (by first | decide | omega) (by first | decide | omega) ?_
  | with_reducible refine pb_mul (by first | decide | omega) (by first | decide | omega) ?_
  | with_reducible refine pb_pow (by first | decide | omega) ?_
  | with_reducible refine pb_addt (by walk_at "omegas") ?_
  | with_reducible refine pb_addl (by walk_at "omegas") ?_
  | with_reducible refine PSide.mk (by walk_at "omegas") ?_
  | with_reducible refine pf2_max ?_
  | with_reducible refine pf2_min ?_
  | with_reducible refine pf_lentm ?_
  | with_reducible refine pf_lendm ?_
  | with_reducible refine pf_lenlm ?_
  | with_reducible refine pf_lent ?_
  | with_reducible refine pf_lend ?_
  | with_reducible refine pf_lenl ?_
  | with_reducible refine pf_tupl ?_
  | with_reducible refine pf_tupd ?_
  | with_reducible refine pf_tupt ?_
  | with_reducible refine pf_lisl ?_
  | with_reducible refine pf_lisd ?_
  | with_reducible refine pf_list ?_
  | with_reducible refine pf_abs ?_
  | with_reducible refine pf_any ?_
  | with_reducible refine pf_all ?_
  | with_reducible refine pc_in2 ?_
  | with_reducible refine pc_nin2 ?_
  | with_reducible refine pc_ini ?_
  | with_reducible refine pc_inil ?_
  | with_reducible refine pc_inid ?_
  | with_reducible refine pc_isb ?_
  | with_reducible refine pc_isnb ?_
  | with_reducible refine pc_eqb ?_
  | with_reducible refine pc_neb ?_
  | with_reducible refine prng (by omega) ?_ (by omega)
  | with_reducible refine prev_t ?_
  | with_reducible refine prev_l ?_
  | with_reducible refine pf_lrng (by omega) (by omega) ?_
  | with_reducible refine pf_trng (by omega) (by omega) ?_
  | with_reducible refine PSs.w ?_
  | refine pc_in2 ?_
  | refine pc_nin2 ?_
  | refine PX.mk _ rfl ?_
  | refine PIx.mk _ rfl ?_)
local macro_rules | `(tactic| walk_at "v") => `(tactic| ((conv => whnf); repeat (walk_at "v1"; (conv => whnf))))
local macro_rules | `(tactic| walk_at "w1") => `(tactic| first
  | with_reducible refine pb_add ?_
  | with_reducible refine pb_sub ?_
  | with_reducible refine pc_lt ?_
  | with_reducible refine pc_gt ?_
  | with_reducible refine pc_le ?_
  | with_reducible refine pc_ge ?_
  | with_reducible refine pc_eqi ?_
  | with_reducible refine pc_nei ?_
  | with_reducible refine pif_t ?_
  | with_reducible refine pif_f ?_
  | with_reducible refine pif_not ?_
  | with_reducible refine pb_mod (by first | decide | omega) ?_
  | with_reducible refine pb_fdiv (by first | decide | omega) (by first | decide | omega) ?_
  | with_reducible refine pb_mul (by first | decide | omega) (by first | decide | omega) ?_
  | with_reducible refine pb_pow (by first | decide | omega) ?_
  | with_reducible refine pb_addt (by walk_at "omegas") ?_
  | with_reducible refine pb_addl (by walk_at "omegas") ?_
  | with_reducible refine PSide.mk (by walk_at "omegas") ?_
  | with_reducible refine pf2_max ?_
  | with_reducible refine pf2_min ?_
  | with_reducible refine pf_lentm ?_
  | with_reducible refine pf_lendm ?_
  | with_reducible refine pf_lenlm ?_
  | with_reducible refine pf_lent ?_
  | with_reducible refine pf_lend ?_
  | with_reducible refine pf_lenl ?_
  | with_reducible refine pf_tupl ?_
  | with_reducible refine pf_tupd ?_
  | with_reducible refine pf_tupt ?_
  | with_reducible refine pf_lisl ?_
  | with_reducible refine pf_lisd ?_
  | with_reducible refine pf_list ?_
  | with_reducible refine pf_abs ?_
  | with_reducible refine pf_any ?_
  | with_reducible refine pf_all ?_
  | with_reducible refine pc_in2 ?_
  | with_reducible refine pc_nin2 ?_
  | with_reducible refine pc_ini ?_
  | with_reducible refine pc_inil ?_
  | with_reducible refine pc_inid ?_
  | with_reducible refine pc_isb ?_
  | with_reducible refine pc_isnb ?_
  | with_reducible refine pc_eqb ?_
  | with_reducible refine pc_neb ?_
  | with_reducible refine prng (by omega) ?_ (by omega)
  | with_reducible refine prev_t ?_
  | with_reducible refine prev_l ?_
  | with_reducible refine pf_lrng (by omega) (by omega) ?_
  | with_reducible refine pf_trng (by omega) (by omega) ?_
  | with_reducible refine PSs.w ?_
  | with_reducible refine pcut_t ?_
  | with_reducible refine pcut_d ?_
  | with_reducible refine pcut_l ?_
  | refine pc_in2 ?_
  | refine pc_nin2 ?_
  | refine PX.mk _ rfl ?_
  | refine PIx.mk _ rfl ?_)
local macro_rules | `(tactic| walk_at "w") => `(tactic| ((conv => whnf); repeat (walk_at "w1"; (conv => whnf))))
open TL (tl)
/-! ### texts held against others -/
theorem Tx.strOk {n : Nat} {z : Str} (h : Tx n z) : PyData.strOk z = true := by
  unfold PyData.strOk
  rw [← Array.all_toList, List.all_eq_true]
  intro c hc
  have := h.ok c hc
  rw [decide_eq_true_eq]
  rcases this with rfl | z <;> omega
theorem Tx.sh {n : Nat} {z : Str} (h : Tx n z) : SeqAt.shaped (.str z) = true := by
  unfold SeqAt.shaped
  rw [Bool.and_eq_true]
  exact ⟨by simp only [PyData.canLay0]; exact h.strOk, by simp [PyData.depth]⟩
theorem lay_strs {n : Nat} : ∀ {zs : List Str}, (∀ z ∈ zs, Tx n z) → PyData.canLayAll0 (zs.map PyData.str) = true ∧ PyData.depthAll (zs.map PyData.str) ≤ 0
  | [], _ => ⟨rfl, Nat.le_refl _⟩
  | z :: zs, h => by
    obtain ⟨h1, h2⟩ := lay_strs (zs := zs) fun x hx => h x (List.mem_cons_of_mem _ hx)
    have := (h z (List.mem_cons_self ..)).strOk
    refine ⟨?_, ?_⟩
    · rw [List.map_cons]; simp only [PyData.canLayAll0, PyData.canLay0, this, h1, Bool.and_self]
    · rw [List.map_cons]; simp only [PyData.depthAll, PyData.depth]; omega
theorem sh_strs {n : Nat} {zs : List Str} (h : ∀ z ∈ zs, Tx n z) : SeqAt.shaped (.list (zs.map PyData.str)) = true := by
  obtain ⟨h1, h2⟩ := lay_strs h
  unfold SeqAt.shaped
  rw [Bool.and_eq_true]
  exact ⟨by simp only [PyData.canLay0]; exact h1, by simp only [PyData.depth]; exact decide_eq_true (by omega)⟩
theorem eqv_strs (xs ys : List Str) : PyData.eqv (.list (xs.map PyData.str)) (.list (ys.map PyData.str)) = decide (xs = ys) := Datum.eqv (α := List Str) xs ys
theorem pc_eqss {m n : Nat} {xs ys : List Str} {K : SV → Prop} (h : ∀ z ∈ xs, Tx m z) (h' : ∀ z ∈ ys, Tx n z) (k : K (.d (.bool (decide (xs = ys))))) : PC .eq (.l (xs.map .str)) (.l (ys.map .str)) K :=
  pc_eqd (s := .l (xs.map .str)) (t := .l (ys.map .str)) (sh_strs h) (sh_strs h') (by
    show K (.d (.bool (PyData.eqv (.list (xs.map PyData.str)) (.list (ys.map PyData.str)))))
    rw [eqv_strs]; exact k)
theorem any_strs (x : Str) (zs : List Str) : ((zs.map PyData.str).any fun z => PyData.eqv z (.str x)) = decide (x ∈ zs) := by
  rw [List.any_map, Bool.eq_iff_iff, List.any_eq_true, decide_eq_true_eq]
  constructor
  · rintro ⟨z, hz, e⟩
    have e' : PyData.eqv (.str z) (.str x) = true := e
    rw [show PyData.eqv (.str z) (.str x) = decide (z = x) from Datum.eqv (α := Str) z x, decide_eq_true_eq] at e'
    rwa [e'] at hz
  · intro hx
    exact ⟨x, hx, (Datum.eqv (α := Str) x x).trans (decide_eq_true rfl)⟩
theorem pc_inss {m n : Nat} {x : Str} {zs : List Str} {K : SV → Prop} (h : Tx m x) (h' : ∀ z ∈ zs, Tx n z) (k : K (.d (.bool (decide (x ∈ zs))))) : PC .in_ (.d (.str x)) (.d (.tuple (zs.map .str))) K := by
  refine ⟨_, ?_, k⟩
  show ((if SeqAt.shaped (.str x) = true ∧ SeqAt.shaped (.list (zs.map PyData.str)) = true then R.ok ((zs.map PyData.str).any fun z => PyData.eqv z (.str x)) else .bad) >>= fun b => bD b) = _
  rw [if_pos ⟨h.sh, sh_strs h'⟩, any_strs]
  rfl
theorem pf_lens {n : Nat} {z : Str} {K : SV → Prop} (h : Tx n z) (hn : n ≤ 16777216) (k : K (.d (.int z.length))) : PF .len (.d (.str z)) K :=
  ⟨.d (.int z.length), if_pos (c := z.length ≤ LIM) (Nat.le_trans h.len hn), k⟩
/-- one sign in a text -/
theorem pc_inc {c : Nat} {z : Str} {K : SV → Prop} (k : K (.d (.bool (decide (c ∈ tl z))))) : PC .in_ (.d (.str ⟨#[c]⟩)) (.d (.str z)) K := by
  refine ⟨_, ?_, k⟩
  show (R.ok (!(Builtin.Str.occurrences z ⟨#[c]⟩ 0 z.length 1).isEmpty) >>= fun b => bD b) = _
  rw [PySem.StrLaws.found_one z c]
  rfl
theorem pt_index {z y : Str} {j : Nat} {K : SV → Prop} (h : Txt.index0 z y = some j) (k : K (.d (.int (j : Nat)))) : PTm .index z (.d (.str y)) K := by
  refine ⟨.d (.int (j : Nat)), ?_, k⟩
  show (match Txt.index0 z y with | some k => R.ok (SV.d (.int (k : Nat))) | none => .bad) = _
  rw [h]
theorem pt_split {n : Nat} {z y : Str} {ps : List Str} {K : SV → Prop} (hz : Tx n z) (hn : n ≤ 1000000) (hy : (y.length == 0) = false) (e : Txt.split z y = ps) (k : K (.l (ps.map .str))) : PTm .split z (.d (.str y)) K := by
  refine ⟨.l (ps.map .str), ?_, k⟩
  have hc : (y.length == 0) = false ∧ z.length + 2 ≤ LIM := ⟨hy, by have := hz.len; show _ ≤ 16777216; omega⟩
  exact (if_pos (e := R.bad) hc).trans (by rw [e])
/-! ### deeds -/
inductive Deed where
  | round
  | one (w : Str) (h : Int)
  | come (h o : Int)
  | wish (h : Int) (w : List Int)
  deriving DecidableEq
def byL : List Str := ["end", "stop", "work", "take"]
def deedD : Deed → D
  | .round => .tuple [.str "round"]
  | .one w h => .tuple [.str w, .int h]
  | .come h o => .tuple [.str "come", .int h, .int o]
  | .wish h w => .tuple [.str "wish", .int h, itD w]
/-- a deed as texts tell it -/
def DeedOk : Deed → Prop
  | .round => True
  | .one w h => w ∈ byL ∧ 0 ≤ h ∧ h < 6
  | .come h o => 0 ≤ h ∧ h < 6 ∧ 0 ≤ o ∧ o < 6 ∧ h ≠ o
  | .wish h w => 0 ≤ h ∧ h < 6 ∧ w ≠ [] ∧ w.length ≤ 9 ∧ w.Pairwise (· < ·) ∧ ∀ i ∈ w, 0 ≤ i ∧ i < 9
def deedP : Deed → List Str
  | .round => ["round"]
  | .one w h => [w, letT h]
  | .come h o => ["come", letT h, letT o]
  | .wish h w => ["wish", letT h, wishT w]
def deedT (d : Deed) : Str := Txt.join ":" (deedP d)
def rowT (ds : List Deed) : Str := if ds = [] then "-" else Txt.join " " (ds.map deedT)
theorem tx_k : Tx 1 (":" : Str) := tx_lit (by decide) (by decide)
/-- signs of a deed's words: small letters, figures, the comma -/
def wdC (c : Nat) : Prop := (97 ≤ c ∧ c < 123) ∨ (48 ≤ c ∧ c < 58) ∨ c = 44
theorem wd_lit {s : String} (h : (s.toList.map Char.toNat).all (fun c => decide (97 ≤ c) && decide (c < 123)) = true) : ∀ c ∈ tl (s : Str), wdC c := fun c hc => by
  rw [TL.tl_ofString] at hc
  have := List.all_eq_true.mp h c hc
  simp only [Bool.and_eq_true, decide_eq_true_eq] at this
  exact .inl this
theorem wd_let {h : Int} (h0 : 0 ≤ h) (h1 : h < 6) : ∀ c ∈ tl (letT h), wdC c := fun c hc => by
  have : c = 97 + h.toNat := List.mem_singleton.mp hc
  exact .inl (by omega)
theorem wd_wish {w : List Int} (h : ∀ i ∈ w, 0 ≤ i) : ∀ c ∈ tl (wishT w), wdC c := fun c hc => by
  unfold wishT at hc
  rw [TL.join_eq, TL.tl_join] at hc
  rcases joinL_mem hc with z | ⟨p, hp, z⟩
  · rw [TL.tl_ofString] at z
    have : c = 44 := List.mem_singleton.mp z
    exact .inr (.inr this)
  · obtain ⟨x, hx, rfl⟩ := List.mem_map.mp hp
    obtain ⟨i, hi, rfl⟩ := List.mem_map.mp hx
    rw [intT_tl (h i hi)] at z
    exact .inr (.inl (num_digit _ c z))
theorem by_lit {w : Str} (h : w ∈ byL) : Tx 4 w ∧ (∀ c ∈ tl w, wdC c) ∧ w ≠ "round" ∧ w ≠ "come" ∧ w ≠ "wish" := by
  simp only [byL, List.mem_cons, List.not_mem_nil, or_false] at h
  rcases h with rfl | rfl | rfl | rfl <;> exact ⟨tx_lit (by decide) (by decide), wd_lit (by decide), by decide +kernel, by decide +kernel, by decide +kernel⟩
theorem deedP_ok {d : Deed} (h : DeedOk d) : (∀ p ∈ deedP d, Tx 63 p ∧ ∀ c ∈ tl p, wdC c) ∧ (deedP d).length ≤ 3 ∧ deedP d ≠ [] := by
  cases d with
  | round =>
    refine ⟨fun p hp => ?_, by decide, by simp [deedP]⟩
    have : p = "round" := List.mem_singleton.mp hp
    subst this
    exact ⟨tx_lit (by decide) (by decide), wd_lit (by decide)⟩
  | one w x =>
    obtain ⟨h1, h2, h3⟩ := h
    obtain ⟨b1, b2, _⟩ := by_lit h1
    refine ⟨fun p hp => ?_, by show 2 ≤ 3; omega, by simp [deedP]⟩
    simp only [deedP, List.mem_cons, List.not_mem_nil, or_false] at hp
    rcases hp with rfl | rfl
    · exact ⟨b1.mono (by decide), b2⟩
    · exact ⟨(tx_let h2 h3).mono (by decide), wd_let h2 h3⟩
  | come x o =>
    obtain ⟨h2, h3, h4, h5, _⟩ := h
    refine ⟨fun p hp => ?_, by show 3 ≤ 3; omega, by simp [deedP]⟩
    simp only [deedP, List.mem_cons, List.not_mem_nil, or_false] at hp
    rcases hp with rfl | rfl | rfl
    · exact ⟨tx_lit (by decide) (by decide), wd_lit (by decide)⟩
    · exact ⟨(tx_let h2 h3).mono (by decide), wd_let h2 h3⟩
    · exact ⟨(tx_let h4 h5).mono (by decide), wd_let h4 h5⟩
  | wish x w =>
    obtain ⟨h2, h3, _, h4, _, h5⟩ := h
    refine ⟨fun p hp => ?_, by show 3 ≤ 3; omega, by simp [deedP]⟩
    simp only [deedP, List.mem_cons, List.not_mem_nil, or_false] at hp
    rcases hp with rfl | rfl | rfl
    · exact ⟨tx_lit (by decide) (by decide), wd_lit (by decide)⟩
    · exact ⟨(tx_let h2 h3).mono (by decide), wd_let h2 h3⟩
    · exact ⟨(tx_wish (n := 9) h4 fun i hi => by have := h5 i hi; omega), wd_wish fun i hi => (h5 i hi).1⟩
theorem tx_deed {d : Deed} (h : DeedOk d) : Tx 192 (deedT d) := by
  obtain ⟨h1, h2, _⟩ := deedP_ok h
  exact (tx_join tx_k fun p hp => (h1 p hp).1).mono (by omega)
/-- signs of a deed's text -/
theorem dc_deed {d : Deed} (h : DeedOk d) : ∀ c ∈ tl (deedT d), wdC c ∨ c = 58 := fun c hc => by
  obtain ⟨h1, h2, _⟩ := deedP_ok h
  unfold deedT at hc
  rw [TL.join_eq, TL.tl_join] at hc
  rcases joinL_mem hc with z | ⟨p, hp, z⟩
  · rw [TL.tl_ofString] at z
    exact .inr (List.mem_singleton.mp z)
  · obtain ⟨x, hx, rfl⟩ := List.mem_map.mp hp
    exact .inl ((h1 x hx).2 c z)
theorem tx_row {ds : List Deed} (h : ∀ d ∈ ds, DeedOk d) {n : Nat} (hn : ds.length ≤ n) : Tx (n * 193 + 1) (rowT ds) := by
  unfold rowT
  by_cases c : ds = []
  · rw [if_pos c]; exact tx_m.mono (by omega)
  · rw [if_neg c]
    have := tx_join (ps := ds.map deedT) (m := 192) tx_b fun z hz => by
      obtain ⟨p, hp, rfl⟩ := List.mem_map.mp hz
      exact tx_deed (h p hp)
    rw [List.length_map] at this
    exact this.mono (by have := Nat.mul_le_mul_right 193 hn; omega)
theorem joinL_cons {S p : List Nat} {ps : List (List Nat)} : ∃ r, TL.joinL S (p :: ps) = p ++ r := by
  cases ps with
  | nil => exact ⟨[], by rw [List.append_nil]; rfl⟩
  | cons q r => exact ⟨_, rfl⟩
theorem deed_ne {d : Deed} (h : DeedOk d) : ∃ c r, tl (deedT d) = c :: r ∧ 97 ≤ c := by
  have key : ∀ (p : Str) (ps : List Str), deedP d = p :: ps → (∃ c r, tl p = c :: r ∧ 97 ≤ c) → ∃ c r, tl (deedT d) = c :: r ∧ 97 ≤ c := fun p ps e ⟨c, r, e2, hc⟩ => by
    unfold deedT
    rw [TL.join_eq, TL.tl_join, e, List.map_cons]
    obtain ⟨r', e3⟩ := joinL_cons (S := tl ":") (p := tl p) (ps := ps.map tl)
    rw [e3, e2]
    exact ⟨c, r ++ r', rfl, hc⟩
  cases d with
  | round => exact key _ _ rfl ⟨_, _, by rw [TL.tl_ofString]; rfl, by decide⟩
  | one w x =>
    have h1 := h.1
    simp only [byL, List.mem_cons, List.not_mem_nil, or_false] at h1
    rcases h1 with rfl | rfl | rfl | rfl <;> exact key _ _ rfl ⟨_, _, by rw [TL.tl_ofString]; rfl, by decide⟩
  | come x o => exact key _ _ rfl ⟨_, _, by rw [TL.tl_ofString]; rfl, by decide⟩
  | wish x w => exact key _ _ rfl ⟨_, _, by rw [TL.tl_ofString]; rfl, by decide⟩
theorem row_ne {ds : List Deed} (h : ∀ d ∈ ds, DeedOk d) (c : ds ≠ []) : rowT ds ≠ "-" := by
  unfold rowT
  rw [if_neg c]
  cases ds with
  | nil => exact absurd rfl c
  | cons d ds =>
    intro e
    have e2 := congrArg tl e
    rw [TL.join_eq, TL.tl_join, List.map_cons, List.map_cons, TL.tl_ofString "-"] at e2
    obtain ⟨r', e3⟩ := joinL_cons (S := tl " ") (p := tl (deedT d)) (ps := (ds.map deedT).map tl)
    obtain ⟨c, r, e4, hc⟩ := deed_ne (h d (List.mem_cons_self ..))
    rw [e3, e4] at e2
    have : c = 45 := (List.cons.inj e2).1
    omega
/-! read back -/
theorem row_split {ds : List Deed} (h : ∀ d ∈ ds, DeedOk d) (c : ds ≠ []) : Txt.split (rowT ds) " " = ds.map deedT := by
  unfold rowT
  rw [if_neg c]
  refine TL.split_join (s := 32) (S := []) (by rw [TL.tl_ofString]; rfl) (by decide +kernel) (by simpa using c) fun p hp z => ?_
  obtain ⟨d, hd, rfl⟩ := List.mem_map.mp hp
  rcases dc_deed (h d hd) _ z with z1 | z1
  · unfold wdC at z1; omega
  · omega
theorem deed_split {d : Deed} (h : DeedOk d) : Txt.split (deedT d) ":" = deedP d := by
  obtain ⟨h1, h2, h3⟩ := deedP_ok h
  refine TL.split_join (s := 58) (S := []) (by rw [TL.tl_ofString]; rfl) (by decide +kernel) h3 fun p hp z => ?_
  have := (h1 p hp).2 _ z
  unfold wdC at this
  omega
theorem intT_fig {i : Int} (h0 : 0 ≤ i) (h1 : i < 10) : intT i = ⟨#[48 + i.toNat]⟩ := by
  refine TL.ext_tl ?_
  rw [intT_tl h0, TL.numL_lt (by omega)]
theorem wish_split {w : List Int} (hw : w ≠ []) (h : ∀ i ∈ w, 0 ≤ i ∧ i < 9) : Txt.split (wishT w) "," = w.map intT := by
  refine TL.split_join (s := 44) (S := []) (by rw [TL.tl_ofString]; rfl) (by decide +kernel) (by simpa using hw) fun p hp z => ?_
  obtain ⟨i, hi, rfl⟩ := List.mem_map.mp hp
  rw [intT_tl (h i hi).1] at z
  have := num_digit _ _ z
  omega
theorem let_index {h : Int} (h0 : 0 ≤ h) (h1 : h < 6) : Txt.index0 "abcdef" (letT h) = some h.toNat := by
  have : h = 0 ∨ h = 1 ∨ h = 2 ∨ h = 3 ∨ h = 4 ∨ h = 5 := by omega
  rcases this with rfl | rfl | rfl | rfl | rfl | rfl <;> decide +kernel
theorem fig_index {i : Int} (h0 : 0 ≤ i) (h1 : i < 9) : Txt.index0 "012345678" (⟨#[48 + i.toNat]⟩ : Str) = some i.toNat := by
  have : i = 0 ∨ i = 1 ∨ i = 2 ∨ i = 3 ∨ i = 4 ∨ i = 5 ∨ i = 6 ∨ i = 7 ∨ i = 8 := by omega
  rcases this with rfl | rfl | rfl | rfl | rfl | rfl | rfl | rfl | rfl <;> decide +kernel
theorem figs_tl : tl ("012345678" : Str) = [48, 49, 50, 51, 52, 53, 54, 55, 56] := by rw [TL.tl_ofString]; rfl

end Dn

set_option Elab.async false
set_option linter.all false
set_option maxRecDepth 100000
set_option maxHeartbeats 4000000
namespace Dn
open PySem PySem.Spec PyProof.Rows
open PySem.W (Datum DatumOrd Tup T3 T4)
def d_is_rising : Fdef where
  nm := "is_rising"
  ps := ["some"]
  N := ["some", "one", "other"]
  fns := []
  blt := ["all", "zip"]
  md := [.ro]
  body := (.cons (.ret (.bf .all (.lc0 [("one", 1), ("other", 2)] (.t (.cons (.n 1) (.cons (.n 2) .nil))) (.zip (.var 0) (.slF (.var 0) (.int 1))) (.cmp .lt (.var 1) (.var 2)))))
    .nil)

def d_are_wishes : Fdef where
  nm := "are_wishes"
  ps := ["web", "hand", "thing"]
  N := ["web", "hand", "thing", "wish"]
  fns := ["is_wish", "is_rising"]
  blt := ["isinstance", "tuple", "len", "all"]
  md := [.ro, .ro, .ro]
  body := (.cons (.ife (.or (.not (.isi .tuple (.var 2))) (.cmp .gt (.bf .len (.var 2)) (.glob "MOST_WISHES")))
    (.cons (.ret (.bl false))
    .nil)
    .nil)
    (.cons (.ret (.and (.bf .all (.lc0 [("wish", 3)] (.n 3) (.e (.var 2)) (.call "is_wish" (.cons (.var 0) (.cons (.var 1) (.cons (.var 3) .nil)))))) (.call "is_rising" (.cons (.var 2) .nil))))
    .nil))

def d_is_hand_w : Fdef where
  nm := "is_hand"
  ps := ["web", "thing"]
  N := ["web", "thing"]
  fns := []
  blt := ["isinstance", "int", "bool"]
  md := [.ro, .ro]
  body := (.cons (.ret (.and (.isi .int (.var 1)) (.and (.not (.isi .bool (.var 1))) (.chain .le .lt (.int 0) (.var 1) (.idx (.var 0) (.int 0))))))
    .nil)

def d_are_stops : Fdef where
  nm := "are_stops"
  ps := ["web", "thing"]
  N := ["web", "thing", "hand"]
  fns := ["is_hand", "is_rising"]
  blt := ["isinstance", "tuple", "all"]
  md := [.ro, .ro]
  body := (.cons (.ret (.and (.isi .tuple (.var 1)) (.and (.bf .all (.lc0 [("hand", 2)] (.n 2) (.e (.var 1)) (.call "is_hand" (.cons (.var 0) (.cons (.var 2) .nil))))) (.call "is_rising" (.cons (.var 1) .nil)))))
    .nil)

def d_is_world : Fdef where
  nm := "is_world"
  ps := ["thing"]
  N := ["thing", "web", "rule", "wishes", "stops", "hand", "some"]
  fns := ["is_web", "are_wishes", "are_stops"]
  blt := ["isinstance", "tuple", "len", "str", "all", "enumerate"]
  md := [.ro]
  body := (.cons (.ife (.or (.not (.isi .tuple (.var 0))) (.or (.cmp .ne (.bf .len (.var 0)) (.int 4)) (.not (.call "is_web" (.cons (.idx (.var 0) (.int 0)) .nil)))))
    (.cons (.ret (.bl false))
    .nil)
    .nil)
    (.cons (.asg (.t (.cons (.n 1) (.cons (.n 2) (.cons (.n 3) (.cons (.n 4) .nil))))) (.var 0))
    (.cons (.ife (.or (.not (.isi .str (.var 2))) (.cmp .nin (.var 2) (.glob "RULES")))
    (.cons (.ret (.bl false))
    .nil)
    .nil)
    (.cons (.ife (.or (.not (.isi .tuple (.var 3))) (.cmp .ne (.bf .len (.var 3)) (.idx (.var 1) (.int 0))))
    (.cons (.ret (.bl false))
    .nil)
    .nil)
    (.cons (.ret (.and (.bf .all (.lc0 [("hand", 5), ("some", 6)] (.t (.cons (.n 5) (.cons (.n 6) .nil))) (.enum (.var 3)) (.call "are_wishes" (.cons (.var 1) (.cons (.var 5) (.cons (.var 6) .nil)))))) (.call "are_stops" (.cons (.var 1) (.cons (.var 4) .nil)))))
    .nil)))))

local macro_rules | `(tactic| walk_at "omegas") => `(tactic| first | rfl | omega | (simp only [List.length_append, List.length_map, List.length_cons, List.length_nil, List.length_range, List.length_zipIdx, List.length_reverse, List.length_replicate]; omega))
local macro_rules | `(tactic| walk_at "v1") => `(tactic| first
  | with_reducible refine pb_add ?_
  | with_reducible refine pb_sub ?_
  | with_reducible refine pc_lt ?_
  | with_reducible refine pc_gt ?_
  | with_reducible refine pc_le ?_
  | with_reducible refine pc_ge ?_
  | with_reducible refine pc_eqi ?_
  | with_reducible refine pc_nei ?_
  | with_reducible refine pif_t ?_
  | with_reducible refine pif_f ?_
  | with_reducible refine pif_not ?_
  | with_reducible refine pb_mod (by first | decide | omega) ?_
  | with_reducible refine pb_fdiv (by first | decide | omega) (by first | decide | omega) ?_
  | with_reducible refine pb_mul (by first | decide | omega) (by first | decide | omega) ?_
  | with_reducible refine pb_pow (by first | decide | omega) ?_
  | with_reducible refine pb_addt (by walk_at "omegas") ?_
  | with_reducible refine pb_addl (by walk_at "omegas") ?_
  | with_reducible refine PSide.mk (by walk_at "omegas") ?_
  | with_reducible refine pf2_max ?_
  | with_reducible refine pf2_min ?_
  | with_reducible refine pf_lentm ?_
  | with_reducible refine pf_lendm ?_
  | with_reducible refine pf_lenlm ?_
  | with_reducible refine pf_lent ?_
  | with_reducible refine pf_lend ?_
  | with_reducible refine pf_lenl ?_
  | with_reducible refine pf_tupl ?_
  | with_reducible refine pf_tupd ?_
  | with_reducible refine pf_tupt ?_
  | with_reducible refine pf_lisl ?_
  | with_reducible refine pf_lisd ?_
  | with_reducible refine pf_list ?_
  | with_reducible refine pf_abs ?_
  | with_reducible refine pf_any ?_
  | with_reducible refine pf_all ?_
  | with_reducible refine pc_in2 ?_
  | with_reducible refine pc_nin2 ?_
  | with_reducible refine pc_ini ?_
  | with_reducible refine pc_inil ?_
  | with_reducible refine pc_inid ?_
  | with_reducible refine pc_isb ?_
  | with_reducible refine pc_isnb ?_
  | with_reducible refine pc_eqb ?_
  | with_reducible refine pc_neb ?_
  | with_reducible refine prng (by omega) ?_ (by omega)
  | with_reducible refine prev_t ?_
  | with_reducible refine prev_l ?_
  | with_reducible refine pf_lrng (by omega) (by omega) ?_
  | with_reducible refine pf_trng (by omega) (by omega) ?_
  | with_reducible refine PSs.w ?_
  | refine pc_in2 ?_
  | refine pc_nin2 ?_
  | refine PX.mk _ rfl ?_
  | refine PIx.mk _ rfl ?_)
local macro_rules | `(tactic| walk_at "v") => `(tactic| ((conv => whnf); repeat (walk_at "v1"; (conv => whnf))))
local macro_rules | `(tactic| walk_at "w1") => `(tactic| first
  | with_reducible refine pb_add ?_
  | with_reducible refine pb_sub ?_
  | with_reducible refine pc_lt ?_
  | with_reducible refine pc_gt ?_
  | with_reducible refine pc_le ?_
  | with_reducible refine pc_ge ?_
  | with_reducible refine pc_eqi ?_
  | with_reducible refine pc_nei ?_
  | with_reducible refine pif_t ?_
  | with_reducible refine pif_f ?_
  | with_reducible refine pif_not ?_
  | with_reducible refine pb_mod (by first | decide | omega) ?_
  | with_reducible refine pb_fdiv (by first | decide | omega) (by first | decide | omega) ?_
  | with_reducible refine pb_mul (by first | decide | omega) (by first | decide | omega) ?_
  | with_reducible refine pb_pow (by first | decide | omega) ?_
  | with_reducible refine pb_addt (by walk_at "omegas") ?_
  | with_reducible refine pb_addl (by walk_at "omegas") ?_
  | with_reducible refine PSide.mk (by walk_at "omegas") ?_
  | with_reducible refine pf2_max ?_
  | with_reducible refine pf2_min ?_
  | with_reducible refine pf_lentm ?_
  | with_reducible refine pf_lendm ?_
  | with_reducible refine pf_lenlm ?_
  | with_reducible refine pf_lent ?_
  | with_reducible refine pf_lend ?_
  | with_reducible refine pf_lenl ?_
  | with_reducible refine pf_tupl ?_
  | with_reducible refine pf_tupd ?_
  | with_reducible refine pf_tupt ?_
  | with_reducible refine pf_lisl ?_
  | with_reducible refine pf_lisd ?_
  | with_reducible refine pf_list ?_
  | with_reducible refine pf_abs ?_
  | with_reducible refine pf_any ?_
  | with_reducible refine pf_all ?_
  | with_reducible refine pc_in2 ?_
  | with_reducible refine pc_nin2 ?_
  | with_reducible refine pc_ini ?_
  | with_reducible refine pc_inil ?_
  | with_reducible refine pc_inid ?_
  | with_reducible refine pc_isb ?_
  | with_reducible refine pc_isnb ?_
  | with_reducible refine pc_eqb ?_
  | with_reducible refine pc_neb ?_
  | with_reducible refine prng (by omega) ?_ (by omega)
  | with_reducible refine prev_t ?_
  | with_reducible refine prev_l ?_
  | with_reducible refine pf_lrng (by omega) (by omega) ?_
  | with_reducible refine pf_trng (by omega) (by omega) ?_
  | with_reducible refine PSs.w ?_
  | with_reducible refine pcut_t ?_
  | with_reducible refine pcut_d ?_
  | with_reducible refine pcut_l ?_
  | refine pc_in2 ?_
  | refine pc_nin2 ?_
  | refine PX.mk _ rfl ?_
  | refine PIx.mk _ rfl ?_)
local macro_rules | `(tactic| walk_at "w") => `(tactic| ((conv => whnf); repeat (walk_at "w1"; (conv => whnf))))
/-! ### things of bounded size -/
structure Sm (m n : Nat) (x : D) : Prop where
  flt : Flt m x
  wei : x.weight ≤ n
theorem Sm.mono {m m' n n' : Nat} {x : D} (h : Sm m n x) (l : m ≤ m') (l2 : n ≤ n') : Sm m' n' x := ⟨h.flt.mono l, Nat.le_trans h.wei l2⟩
theorem wei_all : ∀ {ds : List D} {n : Nat}, PyData.weightAll ds ≤ n → ds.length ≤ n ∧ ∀ d ∈ ds, d.weight ≤ n
  | [], n, _ => ⟨Nat.zero_le _, by simp⟩
  | d :: ds, n, h => by
    simp only [PyData.weightAll] at h
    obtain ⟨h1, h2⟩ := wei_all (ds := ds) (n := n - 1) (by omega)
    refine ⟨by rw [List.length_cons]; omega, fun x hx => ?_⟩
    rcases List.mem_cons.mp hx with rfl | z
    · omega
    · have := h2 x z; omega
theorem lay_mem : ∀ {ds : List D} {m : Nat}, PyData.canLayAll0 ds = true → PyData.depthAll ds ≤ m → ∀ d ∈ ds, Flt m d
  | [], _, _, _, d, h => by cases h
  | d :: ds, m, h1, h2, x, hx => by
    simp only [PyData.canLayAll0, Bool.and_eq_true] at h1
    simp only [PyData.depthAll] at h2
    rcases List.mem_cons.mp hx with rfl | z
    · exact ⟨h1.1, by omega⟩
    · exact lay_mem h1.2 (by omega) x z
theorem Sm.tup {m n : Nat} {ds : List D} (h : Sm m n (.tuple ds)) : ds.length ≤ n ∧ ∀ d ∈ ds, Sm m n d := by
  have h1 := h.wei
  simp only [PyData.weight] at h1
  obtain ⟨h2, h3⟩ := wei_all h1
  have h4 := h.flt.1
  simp only [PyData.canLay0] at h4
  have h5 := h.flt.2
  simp only [PyData.depth] at h5
  exact ⟨h2, fun d hd => ⟨lay_mem h4 (by omega) d hd, h3 d hd⟩⟩
theorem Sm.sh {m n : Nat} {x : D} (h : Sm m n x) (l : m ≤ 64) : SeqAt.shaped x = true := h.flt.sh l
/-- rows of things -/
structure Sq (m n l : Nat) (ds : List D) : Prop where
  each : ∀ d ∈ ds, Sm m n d
  len : ds.length ≤ l
theorem Sq.mono {m m' n n' l l' : Nat} {ds : List D} (h : Sq m n l ds) (a : m ≤ m') (b : n ≤ n') (c : l ≤ l') : Sq m' n' l' ds := ⟨fun d hd => (h.each d hd).mono a b, Nat.le_trans h.len c⟩
theorem weightAll_le {n : Nat} : ∀ {ds : List D}, (∀ d ∈ ds, d.weight ≤ n) → PyData.weightAll ds ≤ ds.length * (n + 1)
  | [], _ => Nat.zero_le _
  | d :: ds, h => by
    have := h d (List.mem_cons_self ..)
    have := weightAll_le (ds := ds) fun x hx => h x (List.mem_cons_of_mem _ hx)
    simp only [PyData.weightAll, List.length_cons, Nat.succ_mul]
    omega
theorem sm_t {m n l : Nat} {ds : List D} (h : Sq m n l ds) : Sm (m + 1) (l * (n + 1)) (.tuple ds) := ⟨flt_t fun d hd => (h.each d hd).flt, by
  simp only [PyData.weight]
  exact Nat.le_trans (weightAll_le fun d hd => (h.each d hd).wei) (Nat.mul_le_mul_right _ h.len)⟩
theorem sm_l {m n l : Nat} {ds : List D} (h : Sq m n l ds) : Sm (m + 1) (l * (n + 1)) (.list ds) := ⟨flt_l fun d hd => (h.each d hd).flt, by
  simp only [PyData.weight]
  exact Nat.le_trans (weightAll_le fun d hd => (h.each d hd).wei) (Nat.mul_le_mul_right _ h.len)⟩
theorem sq_nil {m n l : Nat} : Sq m n l [] := ⟨by simp, Nat.zero_le _⟩
theorem sq_cons {m n l : Nat} {d : D} {ds : List D} (h : Sm m n d) (h' : Sq m n l ds) : Sq m n (l + 1) (d :: ds) := ⟨fun x hx => (List.mem_cons.mp hx).elim (fun e => e ▸ h) (h'.each x), by have := h'.len; rw [List.length_cons]; omega⟩
theorem sq_app {m n l l' : Nat} {a b : List D} (h : Sq m n l a) (h' : Sq m n l' b) : Sq m n (l + l') (a ++ b) := ⟨fun x hx => (List.mem_append.mp hx).elim (h.each x) (h'.each x), by have := h.len; have := h'.len; rw [List.length_append]; omega⟩
theorem sq_sub {m n l : Nat} {a b : List D} (h : Sq m n l a) (hl : b.length ≤ a.length) (hm : ∀ x ∈ b, x ∈ a) : Sq m n l b := ⟨fun x hx => h.each x (hm x hx), Nat.le_trans hl h.len⟩
theorem sq_rev {m n l : Nat} {a : List D} (h : Sq m n l a) : Sq m n l a.reverse := ⟨fun x hx => h.each x (List.mem_reverse.mp hx), by rw [List.length_reverse]; exact h.len⟩
theorem sm_i {m n : Nat} {i : Int} (h : i.natAbs < 1000000) (hn : 40 ≤ n) : Sm m n (.int i) := ⟨flt_i i, by
  have hl : i.natAbs.log2 < 20 := by
    by_cases h : i.natAbs = 0
    · rw [h]; decide
    · rw [Nat.log2_lt h]; omega
  simp only [PyData.weight]
  split <;> omega⟩
theorem sm_n {m n : Nat} : Sm m n .none := ⟨⟨rfl, Nat.zero_le _⟩, Nat.zero_le _⟩
theorem sm_b {m n : Nat} {b : Bool} : Sm m n (.bool b) := ⟨⟨rfl, Nat.zero_le _⟩, Nat.zero_le _⟩
theorem sm_s {m n j : Nat} {z : Str} (h : Tx j z) (hn : j ≤ n) : Sm m n (.str z) := ⟨⟨by simp only [PyData.canLay0]; exact h.strOk, Nat.zero_le _⟩, by
  have : z.cps.size ≤ j := h.len
  simp only [PyData.weight]; omega⟩
theorem sq_ints {m n l : Nat} {w : List Int} (h : ∀ i ∈ w, i.natAbs < 1000000) (hn : 40 ≤ n) (hl : w.length ≤ l) : Sq m n l (w.map .int) := ⟨fun d hd => by
  obtain ⟨i, hi, rfl⟩ := List.mem_map.mp hd
  exact sm_i (h i hi) hn, by rw [List.length_map]; exact hl⟩
theorem sq_of {α : Type} {f : α → D} {m n l : Nat} {xs : List α} (h : ∀ x ∈ xs, Sm m n (f x)) (hl : xs.length ≤ l) : Sq m n l (xs.map f) := ⟨fun d hd => by
  obtain ⟨x, hx, rfl⟩ := List.mem_map.mp hd
  exact h x hx, by rw [List.length_map]; exact hl⟩
/-! ### whether anything is a world -/
def risW (ws : List (List Int)) : Bool := (ws.zip (ws.drop 1)).all fun p => DatumOrd.lt (Tup.mk p.1) (Tup.mk p.2)
def WishesD (ps : List (Int × Int)) (j : Int) (x : D) : Prop := ∃ ws : List (List Int), x = wsD ws ∧ ws.length ≤ 4 ∧ (∀ w ∈ ws, WishD ps j (itD w)) ∧ risW ws = true
def StopsD (n : Int) (x : D) : Prop := ∃ st : List Int, x = itD st ∧ (∀ h ∈ st, 0 ≤ h ∧ h < n) ∧ risB st = true
def AllWD (ps : List (Int × Int)) (x : D) : Prop := ∃ ds : List D, x = .tuple ds ∧ ∀ (j : Nat) d, ds[j]? = some d → WishesD ps j d
structure WorldA (n : Int) (ps : List (Int × Int)) (ru : Str) (ds : List D) (st : D) : Prop where
  hn : 1 ≤ n ∧ n ≤ 6
  web : WebOk n 9 ps
  rule : ru ∈ rulesL
  len : (ds.length : Int) = n
  wishes : ∀ (j : Nat) d, ds[j]? = some d → WishesD ps j d
  stops : StopsD n st
def WorldD (x : D) : Prop := ∃ n ps ru ds st, x = .tuple [webD n ps, .str ru, .tuple ds, st] ∧ WorldA n ps ru ds st
noncomputable instance wiDec (ps : List (Int × Int)) (j : Int) (x : D) : Decidable (WishD ps j x) := Classical.propDecidable _
noncomputable instance wsDec (ps : List (Int × Int)) (j : Int) (x : D) : Decidable (WishesD ps j x) := Classical.propDecidable _
noncomputable instance stDec (n : Int) (x : D) : Decidable (StopsD n x) := Classical.propDecidable _
theorem iff_dec {b : Bool} {p : Prop} [Decidable p] (h : b = true ↔ p) : b = decide p := by
  rw [Bool.eq_iff_iff, h, decide_eq_true_eq]
theorem wishes_all {ps : List (Int × Int)} {j : Int} : ∀ ds : List D, (∀ x ∈ ds, WishD ps j x) → ∃ ws : List (List Int), ds = ws.map itD ∧ ∀ w ∈ ws, WishD ps j (itD w)
  | [], _ => ⟨[], rfl, by simp⟩
  | d :: ds, h => by
    have hd := h d (List.mem_cons_self ..)
    obtain ⟨w, rfl, hw⟩ := id hd
    obtain ⟨ws, rfl, hws⟩ := wishes_all ds fun x hx => h x (List.mem_cons_of_mem _ hx)
    exact ⟨w :: ws, rfl, fun x hx => by
      rcases List.mem_cons.mp hx with rfl | z
      · exact hd
      · exact hws x z⟩
theorem itD_map_inj {ws vs : List (List Int)} (h : ws.map itD = vs.map itD) : ws = vs := by
  have : Function.Injective (itD : List Int → D) := fun a b e => itD_inj e
  exact (List.map_inj_right this).mp h
def risBody (a b : Str) : Ss := (.cons (.ret (.bf .all (.lc0 [(a, 1), (b, 2)] (.t (.cons (.n 1) (.cons (.n 2) .nil))) (.zip (.var 0) (.slF (.var 0) (.int 1))) (.cmp .lt (.var 1) (.var 2)))))
    .nil)
section
variable {T : Tab} {gl : Str → Option D} {fuel k : Nat}
theorem isr_i (nm a b : Str) (d : Fdef) (hd : d.ps.length = 1 ∧ d.md.length = 1 ∧ d.N.length = 3 ∧ d.body = risBody a b) (h : T.at_ nm = some d) (w : List Int) (hl : w.length ≤ 1000000) : Fx (Γof T gl fuel (k + 1)) nm [.d (itD w)] fun r => r = .d (.bool (risB w)) := by
  obtain ⟨h1, h2, h3, h4⟩ := hd
  refine fx_of h h1.symm h2 ?_
  rw [h4]
  unfold risBody env0
  rw [h3]
  show PSs _ _ [some (.d (itD w)), none, none] _
  walk_at "w"
  rw [cutN_from (by decide), zipD_map]
  refine lc0_map (fun p : Int × Int => .bool (decide (p.1 < p.2))) (by rw [List.length_zip]; omega) ?_ ?_
  · rintro ⟨a, b⟩ hp
    walk_at "w"
    exact ⟨rfl, rfl⟩
  walk_at "w"
  rfl
theorem isr_w (nm a b : Str) (d : Fdef) (hd : d.ps.length = 1 ∧ d.md.length = 1 ∧ d.N.length = 3 ∧ d.body = risBody a b) (h : T.at_ nm = some d) (ws : List (List Int)) (hl : ws.length ≤ 1000000) : Fx (Γof T gl fuel (k + 1)) nm [.d (wsD ws)] fun r => r = .d (.bool (risW ws)) := by
  obtain ⟨h1, h2, h3, h4⟩ := hd
  refine fx_of h h1.symm h2 ?_
  rw [h4]
  unfold risBody env0
  rw [h3]
  show PSs _ _ [some (.d (wsD ws)), none, none] _
  walk_at "w"
  rw [cutN_from (by decide), zipD_map]
  refine lc0_map (fun p : List Int × List Int => .bool (DatumOrd.lt (Tup.mk p.1) (Tup.mk p.2))) (by rw [List.length_zip]; omega) ?_ ?_
  · rintro ⟨a, b⟩ hp
    walk_at "w"
    refine pc_ltt (α := Tup Int) ⟨a⟩ ⟨b⟩ (by decide) rfl rfl ?_
    walk_at "w"
    exact ⟨rfl, rfl⟩
  walk_at "w"
  rfl
theorem aw_of' (gM : gl "MOST_WISHES" = some (.int 4)) (iw : ∀ (n : Int) (ps : List (Int × Int)) (j : Int) (x : D), ps.length ≤ 1000000 → TL 1000000 x → Fx (Γof T gl fuel k) "is_wish" [.d (webD n ps), .d (.int j), .d x] fun r => ∃ b, r = .d (.bool b) ∧ (b = true ↔ WishD ps j x))
    (ri : ∀ ws : List (List Int), ws.length ≤ 1000000 → Fx (Γof T gl fuel k) "is_rising" [.d (wsD ws)] fun r => r = .d (.bool (risW ws))) (h : T.at_ "are_wishes" = some d_are_wishes)
    (n : Int) (ps : List (Int × Int)) (j : Int) (x : D) (hp : ps.length ≤ 1000000) (hx : ∀ ds, x = .tuple ds → ∀ d ∈ ds, TL 1000000 d) : Fx (Γof T gl fuel (k + 1)) "are_wishes" [.d (webD n ps), .d (.int j), .d x] fun r => r = .d (.bool (decide (WishesD ps j x))) := by
  refine fx_of h rfl rfl ?_
  show PSs _ _ [some (.d (webD n ps)), some (.d (.int j)), some (.d x), none] _
  cases x with
  | tuple ds =>
    walk_at "v"
    refine ⟨_, gM, ?_⟩
    walk_at "v"
    refine pif_dc (fun c => ?_) (fun c => ?_)
    · walk_at "v"
      refine congrArg (fun b => SV.d (.bool b)) (decide_eq_false ?_).symm
      rintro ⟨ws, e, hl, _⟩
      cases e
      rw [List.length_map] at c
      omega
    · walk_at "v"
      refine lc0_mapD (fun d => .bool (decide (WishD ps j d))) (by omega) ?_ ?_
      · intro d hd
        walk_at "v"
        refine pcall_q (iw n ps j d hp (hx ds rfl d hd)) rfl rfl ?_
        rintro r ⟨b, rfl, hb⟩
        walk_at "v"
        exact ⟨congrArg PyData.bool (iff_dec hb), rfl⟩
      walk_at "v"
      refine ⟨fun c2 => ?_, fun c2 => ?_⟩
      · have hall : ∀ d ∈ ds, WishD ps j d := fun d hd => of_decide_eq_true (List.all_eq_true.mp c2 d hd)
        obtain ⟨ws, rfl, hws⟩ := wishes_all ds hall
        rw [List.length_map] at c
        walk_at "v"
        refine pcall (ri ws (by omega)) rfl rfl ?_
        walk_at "v"
        refine congrArg (fun b => SV.d (.bool b)) ?_
        rw [Bool.eq_iff_iff, decide_eq_true_eq]
        constructor
        · exact fun z => ⟨ws, rfl, by omega, hws, z⟩
        · rintro ⟨vs, e, _, _, z⟩
          have : ws = vs := itD_map_inj (PyData.tuple.inj e)
          rw [this]; exact z
      · walk_at "v"
        refine congrArg (fun b => SV.d (.bool b)) (decide_eq_false ?_).symm
        rintro ⟨ws, e, _, hw, _⟩
        cases e
        have : (ws.map itD).all (fun d => decide (WishD ps j d)) = true := by
          rw [List.all_map, List.all_eq_true]
          exact fun w hw' => decide_eq_true (hw w hw')
        rw [this] at c2
        cases c2
  | _ =>
    walk_at "v"
    refine congrArg (fun b => SV.d (.bool b)) (decide_eq_false ?_).symm
    rintro ⟨ws, e, _⟩
    cases e
theorem ih_of (h : T.at_ "is_hand" = some d_is_hand_w) (n : Int) (ps : List (Int × Int)) (x : D) : Fx (Γof T gl fuel (k + 1)) "is_hand" [.d (webD n ps), .d x] fun r => r = .d (.bool (btw x 0 (n - 1))) := by
  refine fx_of h rfl rfl ?_
  show PSs _ _ [some (.d (webD n ps)), some (.d x)] _
  cases x with
  | int i =>
    walk_at "v"
    refine pif_dc (fun c => ?_) (fun c => ?_)
    · walk_at "v"
      refine congrArg (fun b => SV.d (.bool b)) (decide_eq_decide.mpr ?_)
      omega
    · walk_at "v"
      refine congrArg (fun b => SV.d (.bool b)) (decide_eq_false ?_).symm
      omega
  | _ =>
    walk_at "v"
    rfl
theorem as_of' (ih : ∀ (n : Int) (ps : List (Int × Int)) (x : D), Fx (Γof T gl fuel k) "is_hand" [.d (webD n ps), .d x] fun r => r = .d (.bool (btw x 0 (n - 1))))
    (ri : ∀ w : List Int, w.length ≤ 1000000 → Fx (Γof T gl fuel k) "is_rising" [.d (itD w)] fun r => r = .d (.bool (risB w))) (h : T.at_ "are_stops" = some d_are_stops) (n : Int) (ps : List (Int × Int)) (x : D) (hx : TL 1000000 x) :
    Fx (Γof T gl fuel (k + 1)) "are_stops" [.d (webD n ps), .d x] fun r => r = .d (.bool (decide (StopsD n x))) := by
  refine fx_of h rfl rfl ?_
  show PSs _ _ [some (.d (webD n ps)), some (.d x), none] _
  cases x with
  | tuple ds =>
    have hl := hx ds rfl
    walk_at "v"
    refine lc0_mapD (fun d => .bool (btw d 0 (n - 1))) (by omega) ?_ ?_
    · intro d hd
      walk_at "v"
      refine pcall (ih n ps d) rfl rfl ?_
      walk_at "v"
      exact ⟨rfl, rfl⟩
    walk_at "v"
    refine ⟨fun c2 => ?_, fun c2 => ?_⟩
    · obtain ⟨st, rfl, hst⟩ := ints_all (p := fun i => 0 ≤ i ∧ i < n) ds fun d hd => by
        obtain ⟨i, rfl, h0, h1⟩ := btw_int (List.all_eq_true.mp c2 d hd)
        exact ⟨i, rfl, h0, by omega⟩
      rw [List.length_map] at hl
      walk_at "v"
      refine pcall (ri st hl) rfl rfl ?_
      walk_at "v"
      refine congrArg (fun b => SV.d (.bool b)) ?_
      rw [Bool.eq_iff_iff, decide_eq_true_eq]
      constructor
      · exact fun z => ⟨st, rfl, hst, z⟩
      · rintro ⟨vs, e, _, z⟩
        rw [itD_inj e]; exact z
    · walk_at "v"
      refine congrArg (fun b => SV.d (.bool b)) (decide_eq_false ?_).symm
      rintro ⟨st, e, hst, _⟩
      cases e
      have : (st.map PyData.int).all (fun d => btw d 0 (n - 1)) = true := by
        rw [List.all_map, List.all_eq_true]
        intro i hi
        have := hst i hi
        exact decide_eq_true (by omega)
      rw [this] at c2
      cases c2
  | _ =>
    walk_at "v"
    refine congrArg (fun b => SV.d (.bool b)) (decide_eq_false ?_).symm
    rintro ⟨ws, e, _⟩
    cases e
theorem rules_tx {r : Str} (h : r ∈ rulesL) : Tx 6 r := by
  simp only [rulesL, List.mem_cons, List.not_mem_nil, or_false] at h
  rcases h with rfl | rfl | rfl | rfl | rfl <;> exact tx_lit (by decide) (by decide)
theorem pc_ninss {n : Nat} {x : Str} {zs : List Str} {K : SV → Prop} (h : SeqAt.shaped (.str x) = true) (h' : ∀ z ∈ zs, Tx n z) (k : K (.d (.bool (!decide (x ∈ zs))))) : PC .nin (.d (.str x)) (.d (.tuple (zs.map .str))) K := by
  refine ⟨_, ?_, k⟩
  show ((if SeqAt.shaped (.str x) = true ∧ SeqAt.shaped (.list (zs.map PyData.str)) = true then R.ok ((zs.map PyData.str).any fun z => PyData.eqv z (.str x)) else .bad) >>= fun b => bD (!b)) = _
  rw [if_pos ⟨h, sh_strs h'⟩, any_strs]
  rfl
theorem all4 {ps : List (Int × Int)} (ds : List D) : (ds.zipIdx.all fun p => decide (WishesD ps p.2 p.1)) = true ↔ ∀ (j : Nat) d, ds[j]? = some d → WishesD ps j d := by
  rw [List.all_eq_true]
  constructor
  · intro h j d hj
    have := h (d, j) (List.mem_zipIdx_iff_getElem?.mpr hj)
    exact of_decide_eq_true this
  · rintro h ⟨d, j⟩ hp
    exact decide_eq_true (h j d (List.mem_zipIdx_iff_getElem?.mp hp))
theorem wtup_inj {n n' : Int} {ps ps' : List (Int × Int)} {a b c a' b' c' : D} (e : PyData.tuple [webD n ps, a, b, c] = .tuple [webD n' ps', a', b', c']) : n = n' ∧ ps = ps' ∧ a = a' ∧ b = b' ∧ c = c' := by
  injection e with e
  injection e with e1 e2
  injection e2 with e2 e3
  injection e3 with e3 e4
  injection e4 with e4 e5
  obtain ⟨h1, h2⟩ := web_inj e1
  exact ⟨h1, h2, e2, e3, e4⟩
/-- what may be looked at: texts that can be held against others, rows not too long -/
def Lk (x : D) : Prop := ∃ m n, Sm m n x ∧ m ≤ 40 ∧ n ≤ 1000000
theorem iwo_of (gR : gl "RULES" = some (.tuple (rulesL.map .str))) (iw : ∀ x : D, Fx (Γof T gl fuel k) "is_web" [.d x] fun r => ∃ b, r = .d (.bool b) ∧ (b = true ↔ WebD x))
    (aw : ∀ (n : Int) (ps : List (Int × Int)) (j : Int) (x : D), ps.length ≤ 1000000 → (∀ ds, x = .tuple ds → ∀ d ∈ ds, TL 1000000 d) → Fx (Γof T gl fuel k) "are_wishes" [.d (webD n ps), .d (.int j), .d x] fun r => r = .d (.bool (decide (WishesD ps j x))))
    (as : ∀ (n : Int) (ps : List (Int × Int)) (x : D), TL 1000000 x → Fx (Γof T gl fuel k) "are_stops" [.d (webD n ps), .d x] fun r => r = .d (.bool (decide (StopsD n x))))
    (h : T.at_ "is_world" = some d_is_world) (x : D) (hx : Lk x ∨ ∀ ds, x ≠ .tuple ds) : Fx (Γof T gl fuel (k + 1)) "is_world" [.d x] fun r => ∃ b, r = .d (.bool b) ∧ (b = true ↔ WorldD x) := by
  refine fx_of h rfl rfl ?_
  show PSs _ _ [some (.d x), none, none, none, none, none, none] _
  have no : ∀ {y : D}, (∀ ds, y ≠ .tuple ds) → ∃ b, SV.d (.bool false) = .d (.bool b) ∧ (b = true ↔ WorldD y) := fun {y} hy => ⟨false, rfl, ⟨fun z => (by cases z), fun ⟨_, _, _, _, _, e, _⟩ => absurd e (hy _)⟩⟩
  cases x with
  | tuple ds =>
    obtain ⟨m, n, sm, hm, hn⟩ := hx.resolve_right fun z => z ds rfl
    obtain ⟨dl, dm⟩ := sm.tup
    walk_at "v"
    refine pif_dc (fun c => ?_) (fun c => ?_)
    · walk_at "v"
      refine ⟨false, rfl, ⟨fun z => (by cases z), fun ⟨_, _, _, _, _, e, _⟩ => ?_⟩⟩
      cases e
      exact absurd rfl c
    have h4 : ds.length = 4 := by have c' : (ds.length : Int) = 4 := by simpa using c
                                  omega
    match ds, h4, dm with
    | [web, ru, wi, st], _, dm =>
      walk_at "v"
      refine pcall_q (iw web) rfl rfl ?_
      rintro r ⟨b, rfl, hb⟩
      walk_at "v"
      cases b with
      | false =>
        walk_at "v"
        refine ⟨false, rfl, ⟨fun z => (by cases z), fun ⟨n', ps, ru', ds', st', e, w⟩ => ?_⟩⟩
        cases e
        have := hb.mpr ⟨n', ps, rfl, w.hn.1, w.hn.2, w.web⟩
        cases this
      | true =>
        obtain ⟨N, ps, rfl, n1, n6, hw⟩ := hb.mp rfl
        have hpl := hw.len
        walk_at "v"
        have sru := dm ru (by simp)
        have swi := dm wi (by simp)
        have sst := dm st (by simp)
        have key : ∀ {z : Str}, ru = .str z → SeqAt.shaped (.str z) = true := fun e => by subst e; exact sru.sh (by omega)
        cases ru with
        | str z =>
          walk_at "v"
          refine ⟨_, gR, ?_⟩
          walk_at "v"
          refine pc_ninss (key rfl) (fun z hz => rules_tx hz) ?_
          walk_at "v"
          refine pif_dc (fun c1 => ?_) (fun c1 => ?_)
          rotate_left
          · walk_at "v"
            refine ⟨false, rfl, ⟨fun z => (by cases z), fun ⟨n', ps', ru', ds', st', e, w⟩ => ?_⟩⟩
            obtain ⟨rfl, rfl, e2, _, _⟩ := wtup_inj e
            cases e2
            exact absurd w.rule c1
          walk_at "v"
          cases wi with
          | tuple ws =>
            obtain ⟨wl, wm⟩ := swi.tup
            walk_at "v"
            refine pif_dc (fun c2 => ?_) (fun c2 => ?_)
            · walk_at "v"
              refine ⟨false, rfl, ⟨fun z => (by cases z), fun ⟨n', ps', ru', ds', st', e, w⟩ => ?_⟩⟩
              obtain ⟨rfl, rfl, _, e2, _⟩ := wtup_inj e
              cases e2
              exact absurd w.len (by simpa using c2)
            walk_at "v"
            have em := enumD_map (fun d : D => d) ws 0
            rw [List.map_id'] at em
            rw [em]
            refine lc0_map (fun p : D × Nat => .bool (decide (WishesD ps p.2 p.1))) (by rw [List.length_zipIdx]; omega) ?_ ?_
            · rintro ⟨d, j⟩ hp
              have hd : d ∈ ws := List.mem_of_getElem? (List.mem_zipIdx_iff_getElem?.mp hp)
              walk_at "v"
              refine pcall (aw N ps j d (by omega) fun ds e y hy => ?_) rfl rfl ?_
              · subst e
                obtain ⟨_, q⟩ := (wm _ hd).tup
                have := q y hy
                intro zs e
                subst e
                have := this.tup.1
                omega
              walk_at "v"
              exact ⟨rfl, rfl⟩
            walk_at "v"
            have cl : ((List.length ws : Nat) : Int) = N := by simpa using c2
            refine ⟨fun c3 => ?_, fun c3 => ?_⟩
            · have hall := (all4 ws).mp c3
              walk_at "v"
              refine pcall (as N ps st fun zs e => ?_) rfl rfl ?_
              · subst e
                have := sst.tup.1
                omega
              walk_at "v"
              refine ⟨_, rfl, ?_⟩
              rw [decide_eq_true_eq]
              constructor
              · exact fun z' => ⟨N, ps, z, ws, st, rfl, ⟨n1, n6⟩, hw, c1, cl, hall, z'⟩
              · rintro ⟨n', ps', ru', ds', st', e, w⟩
                obtain ⟨rfl, rfl, _, _, rfl⟩ := wtup_inj e
                exact w.stops
            · walk_at "v"
              refine ⟨false, rfl, ⟨fun z => (by cases z), fun ⟨n', ps', ru', ds', st', e, w⟩ => ?_⟩⟩
              obtain ⟨rfl, rfl, _, e3, _⟩ := wtup_inj e
              cases e3
              have := (all4 ws).mpr w.wishes
              rw [this] at c3
              cases c3
          | _ =>
            walk_at "v"
            exact ⟨false, rfl, ⟨fun z => (by cases z), fun ⟨n', ps', ru', ds', st', e, w⟩ => by obtain ⟨_, _, e2, e3, _⟩ := wtup_inj e; first | (cases e2; done) | cases e3⟩⟩
        | _ =>
          walk_at "v"
          exact ⟨false, rfl, ⟨fun z => (by cases z), fun ⟨n', ps', ru', ds', st', e, w⟩ => by obtain ⟨_, _, e2, e3, _⟩ := wtup_inj e; first | (cases e2; done) | cases e3⟩⟩
  | _ =>
    walk_at "v"
    exact no fun ds e => by cases e
end

end Dn

set_option Elab.async false
set_option linter.all false
set_option maxRecDepth 100000
set_option maxHeartbeats 4000000
namespace K21
open PySem PySem.Spec PyProof.Rows Dn
open PySem.W (Datum DatumOrd Tup T3 T4)
def d__law_is_rising : Fdef where
  nm := "_law_is_rising"
  ps := ["_law_some"]
  N := ["_law_some", "_law_one", "_law_other"]
  fns := []
  blt := ["all", "zip"]
  md := [.ro]
  body := (.cons (.ret (.bf .all (.lc0 [("_law_one", 1), ("_law_other", 2)] (.t (.cons (.n 1) (.cons (.n 2) .nil))) (.zip (.var 0) (.slF (.var 0) (.int 1))) (.cmp .lt (.var 1) (.var 2)))))
    .nil)

def d__law_is_web : Fdef where
  nm := "_law_is_web"
  ps := ["_law_thing"]
  N := ["_law_thing", "_law_pair", "_law_n", "_law_tools", "_law_one"]
  fns := ["_law_whole"]
  blt := ["isinstance", "tuple", "len", "all", "list", "sorted"]
  md := [.ro]
  body := (.cons (.ife (.or (.not (.isi .tuple (.var 0))) (.or (.cmp .ne (.bf .len (.var 0)) (.int 2)) (.not (.call "_law_whole" (.cons (.idx (.var 0) (.int 0)) (.cons (.int 1) (.cons (.int 6) .nil)))))))
    (.cons (.ret (.bl false))
    .nil)
    .nil)
    (.cons (.asg (.t (.cons (.n 2) (.cons (.n 3) .nil))) (.var 0))
    (.cons (.ife (.or (.not (.isi .tuple (.var 3))) (.cmp .gt (.bf .len (.var 3)) (.int 9)))
    (.cons (.ret (.bl false))
    .nil)
    .nil)
    (.cons (.for_ (.n 1) (.e (.var 3))
    (.cons (.ife (.or (.not (.isi .tuple (.var 1))) (.or (.cmp .ne (.bf .len (.var 1)) (.int 2)) (.not (.bf .all (.lc0 [("_law_one", 4)] (.n 4) (.e (.var 1)) (.call "_law_whole" (.cons (.var 4) (.cons (.int 0) (.cons (.bin .sub (.var 2) (.int 1)) .nil)))))))))
    (.cons (.ret (.bl false))
    .nil)
    .nil)
    (.cons (.ife (.cmp .ge (.idx (.var 1) (.int 0)) (.idx (.var 1) (.int 1)))
    (.cons (.ret (.bl false))
    .nil)
    .nil)
    .nil)))
    (.cons (.ret (.cmp .eq (.bf .list (.var 3)) (.bf .sorted (.var 3))))
    .nil)))))

def d__law_are_wishes : Fdef where
  nm := "_law_are_wishes"
  ps := ["_law_web_here", "_law_hand_here", "_law_thing"]
  N := ["_law_web_here", "_law_hand_here", "_law_thing", "_law_wish", "_law_tool"]
  fns := ["_law_whole", "_law_is_rising"]
  blt := ["isinstance", "tuple", "len", "all"]
  md := [.ro, .ro, .ro]
  body := (.cons (.ife (.or (.not (.isi .tuple (.var 2))) (.cmp .gt (.bf .len (.var 2)) (.int 4)))
    (.cons (.ret (.bl false))
    .nil)
    .nil)
    (.cons (.for_ (.n 3) (.e (.var 2))
    (.cons (.ife (.or (.not (.isi .tuple (.var 3))) (.cmp .eq (.var 3) (.tup .nil)))
    (.cons (.ret (.bl false))
    .nil)
    .nil)
    (.cons (.ife (.not (.bf .all (.lc0 [("_law_tool", 4)] (.n 4) (.e (.var 3)) (.and (.call "_law_whole" (.cons (.var 4) (.cons (.int 0) (.cons (.bin .sub (.bf .len (.idx (.var 0) (.int 1))) (.int 1)) .nil)))) (.cmp .in_ (.var 1) (.idx (.idx (.var 0) (.int 1)) (.var 4)))))))
    (.cons (.ret (.bl false))
    .nil)
    .nil)
    (.cons (.ife (.not (.call "_law_is_rising" (.cons (.var 3) .nil)))
    (.cons (.ret (.bl false))
    .nil)
    .nil)
    .nil))))
    (.cons (.ret (.call "_law_is_rising" (.cons (.var 2) .nil)))
    .nil)))

def d__law_is_world : Fdef where
  nm := "_law_is_world"
  ps := ["_law_thing"]
  N := ["_law_thing", "_law_web_here", "_law_rule", "_law_wishes_here", "_law_stops", "_law_hand_here", "_law_some"]
  fns := ["_law_is_web", "_law_are_wishes", "_law_whole", "_law_is_rising"]
  blt := ["isinstance", "tuple", "len", "str", "all", "enumerate"]
  md := [.ro]
  body := (.cons (.ife (.or (.not (.isi .tuple (.var 0))) (.or (.cmp .ne (.bf .len (.var 0)) (.int 4)) (.not (.call "_law_is_web" (.cons (.idx (.var 0) (.int 0)) .nil)))))
    (.cons (.ret (.bl false))
    .nil)
    .nil)
    (.cons (.asg (.t (.cons (.n 1) (.cons (.n 2) (.cons (.n 3) (.cons (.n 4) .nil))))) (.var 0))
    (.cons (.ife (.or (.not (.isi .str (.var 2))) (.cmp .nin (.var 2) (.lst (.cons (.str "free") (.cons (.str "turned") (.cons (.str "rank") (.cons (.str "most") (.cons (.str "asked") .nil))))))))
    (.cons (.ret (.bl false))
    .nil)
    .nil)
    (.cons (.ife (.or (.not (.isi .tuple (.var 3))) (.or (.cmp .ne (.bf .len (.var 3)) (.idx (.var 1) (.int 0))) (.not (.isi .tuple (.var 4)))))
    (.cons (.ret (.bl false))
    .nil)
    .nil)
    (.cons (.ife (.not (.bf .all (.lc0 [("_law_hand_here", 5), ("_law_some", 6)] (.t (.cons (.n 5) (.cons (.n 6) .nil))) (.enum (.var 3)) (.call "_law_are_wishes" (.cons (.var 1) (.cons (.var 5) (.cons (.var 6) .nil)))))))
    (.cons (.ret (.bl false))
    .nil)
    .nil)
    (.cons (.ret (.and (.bf .all (.lc0 [("_law_hand_here", 5)] (.n 5) (.e (.var 4)) (.call "_law_whole" (.cons (.var 5) (.cons (.int 0) (.cons (.bin .sub (.idx (.var 1) (.int 0)) (.int 1)) .nil)))))) (.call "_law_is_rising" (.cons (.var 4) .nil))))
    .nil))))))

def d__law_put : Fdef where
  nm := "_law_put"
  ps := ["_law_row", "_law_at", "_law_thing"]
  N := ["_law_row", "_law_at", "_law_thing"]
  fns := []
  blt := []
  md := [.ro, .ro, .ro]
  body := (.cons (.ret (.fz (.bin .add (.bin .add (.slT (.var 0) (.var 1)) (.tup (.cons (.var 2) .nil))) (.slF (.var 0) (.bin .add (.var 1) (.int 1))))))
    .nil)

local macro_rules | `(tactic| walk_at "omegas") => `(tactic| first | rfl | omega | (simp only [List.length_append, List.length_map, List.length_cons, List.length_nil, List.length_range, List.length_zipIdx, List.length_reverse, List.length_replicate]; omega))
local macro_rules | `(tactic| walk_at "v1") => `(tactic| first
  | with_reducible refine pb_add ?_
  | with_reducible refine pb_sub ?_
  | with_reducible refine pc_lt ?_
  | with_reducible refine pc_gt ?_
  | with_reducible refine pc_le ?_
  | with_reducible refine pc_ge ?_
  | with_reducible refine pc_eqi ?_
  | with_reducible refine pc_nei ?_
  | with_reducible refine pif_t ?_
  | with_reducible refine pif_f ?_
  | with_reducible refine pif_not ?_
  | with_reducible refine pb_mod (by first | decide | omega) ?_
  | with_reducible refine pb_fdiv (by first | decide | omega) (by first | decide | omega) ?_
  | with_reducible refine pb_mul (by first | decide | omega) (by first | decide | omega) ?_
  | with_reducible refine pb_pow (by first | decide | omega) ?_
  | with_reducible refine pb_addt (by walk_at "omegas") ?_
  | with_reducible refine pb_addl (by walk_at "omegas") ?_
  | with_reducible refine PSide.mk (by walk_at "omegas") ?_
  | with_reducible refine pf2_max ?_
  | with_reducible refine pf2_min ?_
  | with_reducible refine pf_lentm ?_
  | with_reducible refine pf_lendm ?_
  | with_reducible refine pf_lenlm ?_
  | with_reducible refine pf_lent ?_
  | with_reducible refine pf_lend ?_
  | with_reducible refine pf_lenl ?_
  | with_reducible refine pf_tupl ?_
  | with_reducible refine pf_tupd ?_
  | with_reducible refine pf_tupt ?_
  | with_reducible refine pf_lisl ?_
  | with_reducible refine pf_lisd ?_
  | with_reducible refine pf_list ?_
  | with_reducible refine pf_abs ?_
  | with_reducible refine pf_any ?_
  | with_reducible refine pf_all ?_
  | with_reducible refine pc_in2 ?_
  | with_reducible refine pc_nin2 ?_
  | with_reducible refine pc_ini ?_
  | with_reducible refine pc_inil ?_
  | with_reducible refine pc_inid ?_
  | with_reducible refine pc_isb ?_
  | with_reducible refine pc_isnb ?_
  | with_reducible refine pc_eqb ?_
  | with_reducible refine pc_neb ?_
  | with_reducible refine prng (by omega) ?_ (by omega)
  | with_reducible refine prev_t ?_
  | with_reducible refine prev_l ?_
  | with_reducible refine pf_lrng (by omega) (by omega) ?_
  | with_reducible refine pf_trng (by omega) (by omega) ?_
  | with_reducible refine PSs.w ?_
  | refine pc_in2 ?_
  | refine pc_nin2 ?_
  | refine PX.mk _ rfl ?_
  | refine PIx.mk _ rfl ?_)
local macro_rules | `(tactic| walk_at "v") => `(tactic| ((conv => whnf); repeat (walk_at "v1"; (conv => whnf))))
local macro_rules | `(tactic| walk_at "w1") => `(tactic| first
  | with_reducible refine pb_add ?_
  | with_reducible refine pb_sub ?_
  | with_reducible refine pc_lt ?_
  | with_reducible refine pc_gt ?_
  | with_reducible refine pc_le ?_
  | with_reducible refine pc_ge ?_
  | with_reducible refine pc_eqi ?_
  | with_reducible refine pc_nei ?_
  | with_reducible refine pif_t ?_
  | with_reducible refine pif_f ?_
  | with_reducible refine pif_not ?_
  | with_reducible refine pb_mod (by first | decide | omega) ?_
  | with_reducible refine pb_fdiv (by first | decide | omega) (by first | decide | omega) ?_
  | with_reducible refine pb_mul (by first | decide | omega) (by first | decide | omega) ?_
  | with_reducible refine pb_pow (by first | decide | omega) ?_
  | with_reducible refine pb_addt (by walk_at "omegas") ?_
  | with_reducible refine pb_addl (by walk_at "omegas") ?_
  | with_reducible refine PSide.mk (by walk_at "omegas") ?_
  | with_reducible refine pf2_max ?_
  | with_reducible refine pf2_min ?_
  | with_reducible refine pf_lentm ?_
  | with_reducible refine pf_lendm ?_
  | with_reducible refine pf_lenlm ?_
  | with_reducible refine pf_lent ?_
  | with_reducible refine pf_lend ?_
  | with_reducible refine pf_lenl ?_
  | with_reducible refine pf_tupl ?_
  | with_reducible refine pf_tupd ?_
  | with_reducible refine pf_tupt ?_
  | with_reducible refine pf_lisl ?_
  | with_reducible refine pf_lisd ?_
  | with_reducible refine pf_list ?_
  | with_reducible refine pf_abs ?_
  | with_reducible refine pf_any ?_
  | with_reducible refine pf_all ?_
  | with_reducible refine pc_in2 ?_
  | with_reducible refine pc_nin2 ?_
  | with_reducible refine pc_ini ?_
  | with_reducible refine pc_inil ?_
  | with_reducible refine pc_inid ?_
  | with_reducible refine pc_isb ?_
  | with_reducible refine pc_isnb ?_
  | with_reducible refine pc_eqb ?_
  | with_reducible refine pc_neb ?_
  | with_reducible refine prng (by omega) ?_ (by omega)
  | with_reducible refine prev_t ?_
  | with_reducible refine prev_l ?_
  | with_reducible refine pf_lrng (by omega) (by omega) ?_
  | with_reducible refine pf_trng (by omega) (by omega) ?_
  | with_reducible refine PSs.w ?_
  | with_reducible refine pcut_t ?_
  | with_reducible refine pcut_d ?_
  | with_reducible refine pcut_l ?_
  | refine pc_in2 ?_
  | refine pc_nin2 ?_
  | refine PX.mk _ rfl ?_
  | refine PIx.mk _ rfl ?_)
local macro_rules | `(tactic| walk_at "w") => `(tactic| ((conv => whnf); repeat (walk_at "w1"; (conv => whnf))))
noncomputable instance owDec (ps : List (Int × Int)) (j : Int) (t : D) : Decidable (∃ i, t = .int i ∧ i ∈ ownT ps j) := Classical.propDecidable _
theorem pc_ninsl {n : Nat} {x : Str} {zs : List Str} {K : SV → Prop} (h : SeqAt.shaped (.str x) = true) (h' : ∀ z ∈ zs, Tx n z) (k : K (.d (.bool (!decide (x ∈ zs))))) : PC .nin (.d (.str x)) (.l (zs.map .str)) K := by
  refine ⟨_, ?_, k⟩
  show ((if SeqAt.shaped (.str x) = true ∧ SeqAt.shaped (.list (zs.map PyData.str)) = true then R.ok ((zs.map PyData.str).any fun z => PyData.eqv z (.str x)) else .bad) >>= fun b => bD (!b)) = _
  rw [if_pos ⟨h, sh_strs h'⟩, any_strs]
  rfl
section
variable {T : Tab} {gl : Str → Option D} {fuel k : Nat}
abbrev Lw (Γ : Gl0) : Prop := ∀ (x : D) (l m : Int), Fx Γ "_law_whole" [.d x, .d (.int l), .d (.int m)] fun r => r = .d (.bool (btw x l m))
theorem lwb_of (lw : Lw (Γof T gl fuel k)) (h : T.at_ "_law_is_web" = some d__law_is_web) (x : D) : Fx (Γof T gl fuel (k + 1)) "_law_is_web" [.d x] fun r => ∃ b, r = .d (.bool b) ∧ (b = true ↔ WebD x) := by
  refine fx_of h rfl rfl ?_
  show PSs _ _ [some (.d x), none, none, none, none] _
  cases x with
  | tuple ds =>
    walk_at "v"
    refine pif_dc (fun c => ?_) (fun c => ?_)
    · walk_at "v"
      refine ⟨false, rfl, ⟨fun z => (by cases z), fun ⟨n, ps, e, _⟩ => ?_⟩⟩
      cases e
      exact absurd rfl c
    · obtain ⟨a, b, rfl⟩ : ∃ a b, ds = [a, b] := by
        match ds, c with
        | [], c => exact absurd (by decide) c
        | [_], c => exact absurd (by simp) c
        | [a, b], _ => exact ⟨a, b, rfl⟩
        | _ :: _ :: _ :: _, c => exact absurd (by simp; omega) c
      walk_at "v"
      refine pcall (lw a 1 6) rfl rfl ?_
      walk_at "v"
      cases hb : btw a 1 6 with
      | false =>
        walk_at "v"
        refine ⟨false, rfl, ⟨fun z => (by cases z), fun ⟨n, ps, e, h1, h2, _⟩ => ?_⟩⟩
        cases e
        simp [btw] at hb
        omega
      | true =>
        obtain ⟨n, rfl, n1, n2⟩ := btw_int hb
        walk_at "v"
        cases b with
        | tuple ts =>
          walk_at "v"
          refine pif_dc (fun c => ?_) (fun c => ?_)
          · walk_at "v"
            refine ⟨false, rfl, ⟨fun z => (by cases z), fun ⟨n, ps, e, _, _, h3⟩ => ?_⟩⟩
            cases e
            have := h3.len
            rw [List.length_map] at c
            omega
          · walk_at "v"
            have fail : ∀ {d : D}, d ∈ ts → ¬ ToolD n d → ∃ b, (SV.d (.bool false) : SV) = .d (.bool b) ∧ (b = true ↔ WebD (.tuple [.int n, .tuple ts])) := fun {d} hd hn => ⟨false, rfl, ⟨fun z => (by cases z), fun ⟨n', ps, e, _, _, h3⟩ => by
              cases e
              obtain ⟨p, hp, rfl⟩ := List.mem_map.mp hd
              exact absurd ⟨p, rfl, h3.ok p hp⟩ hn⟩⟩
            refine pfor (fun i ρ => ∃ o1 o4, (∀ d ∈ ts.take i, ToolD n d) ∧ ρ = [some (.d (.tuple [.int n, .tuple ts])), o1, some (.d (.int n)), some (.d (.tuple ts)), o4]) ⟨_, _, by simp, rfl⟩ ?_ ?_
            · rintro ρ ⟨o1, o4, ha, rfl⟩
              rw [List.take_length] at ha
              obtain ⟨ps, rfl, hps⟩ := tools_all ts ha
              rw [List.length_map] at c
              walk_at "v"
              refine pf_srt ps rfl (by decide) (by omega) (.inl fun _ _ => rfl) ?_
              walk_at "v"
              refine pc_eqt (α := List (Int × Int)) ps (srtO ps) (by decide) rfl rfl ?_
              walk_at "v"
              refine ⟨decide (ps = srtO ps), rfl, ?_⟩
              rw [decide_eq_true_eq]
              constructor
              · intro e
                exact ⟨n, ps, rfl, n1, n2, hps, by omega, srtO_eq.mp e.symm⟩
              · rintro ⟨n', ps', e, _, _, h3⟩
                obtain ⟨_, rfl⟩ := web_inj e
                exact (srtO_eq.mpr h3.srt).symm
            · rintro i d ρ hi ⟨o1, o4, ha, rfl⟩
              have hd : d ∈ ts := List.mem_of_getElem? hi
              walk_at "v"
              cases d with
              | tuple es =>
                walk_at "v"
                refine pif_dc (fun c => ?_) (fun c => ?_)
                · walk_at "v"
                  refine fail hd fun ⟨p, e, _⟩ => ?_
                  cases e
                  exact absurd rfl c
                obtain ⟨a, b, rfl⟩ : ∃ a b, es = [a, b] := by
                  match es, c with
                  | [], c => exact absurd (by decide) c
                  | [_], c => exact absurd (by simp) c
                  | [a, b], _ => exact ⟨a, b, rfl⟩
                  | _ :: _ :: _ :: _, c => exact absurd (by simp; omega) c
                walk_at "v"
                refine lc0_mapD (fun x => .bool (btw x 0 (n - 1))) (by simp) ?_ ?_
                · intro x _
                  walk_at "v"
                  refine pcall (lw x 0 (n - 1)) rfl rfl ?_
                  walk_at "v"
                  exact ⟨rfl, rfl⟩
                rcases o4 with _ | (x | x | x)
                all_goals (
                  (conv => whnf)
                  refine pf_all ?_
                  walk_at "v"
                  cases hb : [a, b].all fun x => btw x 0 (n - 1) with
                  | false =>
                    walk_at "v"
                    refine fail hd fun ⟨p, e, h1, h2, h3⟩ => ?_
                    cases e
                    simp [btw] at hb
                    omega
                  | true =>
                    rw [List.all_cons, List.all_cons, Bool.and_eq_true, Bool.and_eq_true] at hb
                    obtain ⟨i, rfl, i1, i2⟩ := btw_int hb.1
                    obtain ⟨j, rfl, j1, j2⟩ := btw_int hb.2.1
                    walk_at "v"
                    refine pif_dc (fun c3 => ?_) (fun c3 => ?_)
                    · walk_at "v"
                      refine fail hd fun ⟨p, e, _, h2, _⟩ => ?_
                      cases e
                      omega
                    · walk_at "v"
                      refine ⟨_, _, fun d hd2 => ?_, rfl⟩
                      rw [take_snoc hi] at hd2
                      rcases List.mem_append.mp hd2 with z | z
                      · exact ha d z
                      · rw [List.mem_singleton.mp z]
                        exact ⟨(i, j), rfl, i1, by show i < j; omega, by show j < n; omega⟩)
              | _ =>
                walk_at "v"
                exact fail hd fun ⟨p, e, _⟩ => by cases e
        | _ =>
          walk_at "v"
          exact ⟨false, rfl, ⟨fun z => (by cases z), fun ⟨n, ps, e, _⟩ => by cases e⟩⟩
  | _ =>
    walk_at "v"
    exact ⟨false, rfl, ⟨fun z => (by cases z), fun ⟨n, ps, e, _⟩ => by cases e⟩⟩
theorem law_of (lw : Lw (Γof T gl fuel k)) (ri : ∀ w : List Int, w.length ≤ 1000000 → Fx (Γof T gl fuel k) "_law_is_rising" [.d (itD w)] fun r => r = .d (.bool (risB w)))
    (rw_ : ∀ ws : List (List Int), ws.length ≤ 1000000 → Fx (Γof T gl fuel k) "_law_is_rising" [.d (wsD ws)] fun r => r = .d (.bool (risW ws))) (h : T.at_ "_law_are_wishes" = some d__law_are_wishes)
    (n : Int) (ps : List (Int × Int)) (j : Int) (x : D) (hp : ps.length ≤ 1000000) (hx : ∀ ds, x = .tuple ds → ∀ d ∈ ds, ∃ m n, Sm m n d ∧ m ≤ 40 ∧ n ≤ 1000000) : Fx (Γof T gl fuel (k + 1)) "_law_are_wishes" [.d (webD n ps), .d (.int j), .d x] fun r => r = .d (.bool (decide (WishesD ps j x))) := by
  refine fx_of h rfl rfl ?_
  show PSs _ _ [some (.d (webD n ps)), some (.d (.int j)), some (.d x), none, none] _
  cases x with
  | tuple ds =>
    walk_at "v"
    refine pif_dc (fun c => ?_) (fun c => ?_)
    · walk_at "v"
      refine congrArg (fun b => SV.d (.bool b)) (decide_eq_false ?_).symm
      rintro ⟨ws, e, hl, _⟩
      cases e
      rw [List.length_map] at c
      omega
    walk_at "v"
    have fail : ∀ {d : D}, d ∈ ds → ¬ WishD ps j d → SV.d (.bool false) = .d (.bool (decide (WishesD ps j (.tuple ds)))) := fun {d} hd hn => congrArg (fun b => SV.d (.bool b)) (decide_eq_false (by
      rintro ⟨ws, e, _, hw, _⟩
      cases e
      obtain ⟨w, hw', rfl⟩ := List.mem_map.mp hd
      exact hn (hw w hw'))).symm
    refine pfor (fun i ρ => ∃ o3 o4, (∀ d ∈ ds.take i, WishD ps j d) ∧ ρ = [some (.d (webD n ps)), some (.d (.int j)), some (.d (.tuple ds)), o3, o4]) ⟨_, _, by simp, rfl⟩ ?_ ?_
    · rintro ρ ⟨o3, o4, ha, rfl⟩
      rw [List.take_length] at ha
      obtain ⟨ws, rfl, hws⟩ := wishes_all ds ha
      rw [List.length_map] at c
      walk_at "v"
      refine pcall (rw_ ws (by omega)) rfl rfl ?_
      walk_at "v"
      refine congrArg (fun b => SV.d (.bool b)) ?_
      rw [Bool.eq_iff_iff, decide_eq_true_eq]
      constructor
      · exact fun z => ⟨ws, rfl, by omega, hws, z⟩
      · rintro ⟨vs, e, _, _, z⟩
        have : ws = vs := itD_map_inj (PyData.tuple.inj e)
        rw [this]; exact z
    · rintro i d ρ hi ⟨o3, o4, ha, rfl⟩
      have hd : d ∈ ds := List.mem_of_getElem? hi
      obtain ⟨sm, sn, smd, sm1, sn1⟩ := hx ds rfl d hd
      walk_at "v"
      cases d with
      | tuple es =>
        have hel := smd.tup.1
        walk_at "v"
        refine pc_eq0 (smd.sh (by omega)) ?_
        refine pif_dc (fun c => ?_) (fun c => ?_)
        · walk_at "v"
          refine fail hd fun ⟨w, e, hw, _⟩ => ?_
          cases e
          exact hw (List.map_eq_nil_iff.mp c)
        walk_at "v"
        refine lc0_mapD (fun t => .bool (decide (∃ i, t = .int i ∧ i ∈ ownT ps j))) (by omega) ?_ ?_
        · intro t ht
          walk_at "v"
          refine pcall (lw t 0 (ps.length - 1)) rfl rfl ?_
          walk_at "v"
          cases hb : btw t 0 (ps.length - 1) with
          | false =>
            walk_at "v"
            refine ⟨congrArg PyData.bool (decide_eq_false ?_).symm, rfl⟩
            rintro ⟨i, rfl, hi⟩
            obtain ⟨q, p, rfl, hq, _⟩ := (ownT_mem ps j i).mp hi
            have := (List.getElem?_eq_some_iff.mp hq).1
            have : btw (.int (q : Int)) 0 (ps.length - 1) = true := decide_eq_true (by omega)
            rw [hb] at this
            cases this
          | true =>
            obtain ⟨i, rfl, i0, i1⟩ := btw_int hb
            walk_at "v"
            refine px_t (by omega) (by omega) fun p hp => ?_
            walk_at "v"
            refine ⟨congrArg PyData.bool (decide_eq_decide.mpr ?_), rfl⟩
            constructor
            · intro z
              exact ⟨i, rfl, (ownT_mem ps j i).mpr ⟨i.toNat, p, by omega, hp, decide_eq_true z⟩⟩
            · rintro ⟨i', e, hi'⟩
              cases e
              obtain ⟨q, p', e2, hq, hin⟩ := (ownT_mem ps j i).mp hi'
              have : i.toNat = q := by omega
              rw [this] at hp
              rw [hp] at hq
              cases hq
              exact of_decide_eq_true hin
        rcases o4 with _ | (x | x | x)
        all_goals (
          (conv => whnf)
          refine pf_all ?_
          walk_at "v"
          refine ⟨fun c2 => ?_, fun c2 => ?_⟩
          · obtain ⟨w, rfl, hw⟩ := ints_all (p := fun i => i ∈ ownT ps j) es fun t ht => of_decide_eq_true (List.all_eq_true.mp c2 t ht)
            rw [List.length_map] at hel
            walk_at "v"
            refine pcall (ri w (by omega)) rfl rfl ?_
            walk_at "v"
            refine ⟨fun c3 => ?_, fun c3 => ?_⟩
            · walk_at "v"
              refine ⟨_, _, fun d hd2 => ?_, rfl⟩
              rw [take_snoc hi] at hd2
              rcases List.mem_append.mp hd2 with z | z
              · exact ha d z
              · rw [List.mem_singleton.mp z]
                exact ⟨w, rfl, fun z => c (by rw [z]; rfl), (risB_iff w).mp c3, hw⟩
            · walk_at "v"
              refine fail hd fun ⟨w', e, _, hw2, _⟩ => ?_
              have : w = w' := itD_inj e
              subst this
              rw [(risB_iff w).mpr hw2] at c3
              cases c3
          · walk_at "v"
            refine fail hd fun ⟨w, e, _, _, hw⟩ => ?_
            cases e
            have : (w.map PyData.int).all (fun t => decide (∃ i, t = .int i ∧ i ∈ ownT ps j)) = true := by
              rw [List.all_map, List.all_eq_true]
              exact fun t ht => decide_eq_true ⟨t, rfl, hw t ht⟩
            rw [this] at c2
            cases c2)
      | _ =>
        walk_at "v"
        exact fail hd fun ⟨w, e, _⟩ => by cases e
  | _ =>
    walk_at "v"
    refine congrArg (fun b => SV.d (.bool b)) (decide_eq_false ?_).symm
    rintro ⟨ws, e, _⟩
    cases e
theorem liw_of (lb : ∀ x : D, Fx (Γof T gl fuel k) "_law_is_web" [.d x] fun r => ∃ b, r = .d (.bool b) ∧ (b = true ↔ WebD x)) (lw : Lw (Γof T gl fuel k))
    (aw : ∀ (n : Int) (ps : List (Int × Int)) (j : Int) (x : D), ps.length ≤ 1000000 → (∀ ds, x = .tuple ds → ∀ d ∈ ds, ∃ m n, Sm m n d ∧ m ≤ 40 ∧ n ≤ 1000000) → Fx (Γof T gl fuel k) "_law_are_wishes" [.d (webD n ps), .d (.int j), .d x] fun r => r = .d (.bool (decide (WishesD ps j x))))
    (ri : ∀ w : List Int, w.length ≤ 1000000 → Fx (Γof T gl fuel k) "_law_is_rising" [.d (itD w)] fun r => r = .d (.bool (risB w)))
    (h : T.at_ "_law_is_world" = some d__law_is_world) (x : D) (hx : Lk x ∨ ∀ ds, x ≠ .tuple ds) : Fx (Γof T gl fuel (k + 1)) "_law_is_world" [.d x] fun r => ∃ b, r = .d (.bool b) ∧ (b = true ↔ WorldD x) := by
  refine fx_of h rfl rfl ?_
  show PSs _ _ [some (.d x), none, none, none, none, none, none] _
  cases x with
  | tuple ds =>
    obtain ⟨m, n, sm, hm, hn⟩ := hx.resolve_right fun z => z ds rfl
    obtain ⟨dl, dm⟩ := sm.tup
    walk_at "v"
    refine pif_dc (fun c => ?_) (fun c => ?_)
    · walk_at "v"
      refine ⟨false, rfl, ⟨fun z => (by cases z), fun ⟨_, _, _, _, _, e, _⟩ => ?_⟩⟩
      cases e
      exact absurd rfl c
    have h4 : ds.length = 4 := by have c' : (ds.length : Int) = 4 := by simpa using c
                                  omega
    match ds, h4, dm with
    | [web, ru, wi, st], _, dm =>
      walk_at "v"
      refine pcall_q (lb web) rfl rfl ?_
      rintro r ⟨b, rfl, hb⟩
      walk_at "v"
      cases b with
      | false =>
        walk_at "v"
        refine ⟨false, rfl, ⟨fun z => (by cases z), fun ⟨n', ps, ru', ds', st', e, w⟩ => ?_⟩⟩
        cases e
        have := hb.mpr ⟨n', ps, rfl, w.hn.1, w.hn.2, w.web⟩
        cases this
      | true =>
        obtain ⟨N, ps, rfl, n1, n6, hw⟩ := hb.mp rfl
        have hpl := hw.len
        walk_at "v"
        have sru := dm ru (by simp)
        have swi := dm wi (by simp)
        have sst := dm st (by simp)
        have key : ∀ {z : Str}, ru = .str z → SeqAt.shaped (.str z) = true := fun e => by subst e; exact sru.sh (by omega)
        cases ru with
        | str z =>
          walk_at "v"
          refine pc_ninsl (zs := rulesL) (key rfl) (fun z hz => rules_tx hz) ?_
          walk_at "v"
          refine pif_dc (fun c1 => ?_) (fun c1 => ?_)
          rotate_left
          · walk_at "v"
            refine ⟨false, rfl, ⟨fun z => (by cases z), fun ⟨n', ps', ru', ds', st', e, w⟩ => ?_⟩⟩
            obtain ⟨rfl, rfl, e2, _, _⟩ := wtup_inj e
            cases e2
            exact absurd w.rule c1
          walk_at "v"
          cases wi with
          | tuple ws =>
            obtain ⟨wl, wm⟩ := swi.tup
            walk_at "v"
            refine pif_dc (fun c2 => ?_) (fun c2 => ?_)
            · walk_at "v"
              refine ⟨false, rfl, ⟨fun z => (by cases z), fun ⟨n', ps', ru', ds', st', e, w⟩ => ?_⟩⟩
              obtain ⟨rfl, rfl, _, e2, _⟩ := wtup_inj e
              cases e2
              exact absurd w.len (by simpa using c2)
            walk_at "v"
            have cl : ((List.length ws : Nat) : Int) = N := by simpa using c2
            cases st with
            | tuple ss =>
              have hsl := sst.tup.1
              walk_at "v"
              have em := enumD_map (fun d : D => d) ws 0
              rw [List.map_id'] at em
              rw [em]
              refine lc0_map (fun p : D × Nat => .bool (decide (WishesD ps p.2 p.1))) (by rw [List.length_zipIdx]; omega) ?_ ?_
              · rintro ⟨d, j⟩ hp
                have hd : d ∈ ws := List.mem_of_getElem? (List.mem_zipIdx_iff_getElem?.mp hp)
                walk_at "v"
                refine pcall (aw N ps j d (by omega) fun ds e y hy => ?_) rfl rfl ?_
                · subst e
                  obtain ⟨_, q⟩ := (wm _ hd).tup
                  exact ⟨m, n, q y hy, hm, hn⟩
                walk_at "v"
                exact ⟨rfl, rfl⟩
              walk_at "v"
              refine ⟨fun c3 => ?_, fun c3 => ?_⟩
              · have hall := (all4 ws).mp c3
                walk_at "v"
                refine lc0_mapD (fun d => .bool (btw d 0 (N - 1))) (by omega) ?_ ?_
                · intro d hd
                  walk_at "v"
                  refine pcall (lw d 0 (N - 1)) rfl rfl ?_
                  walk_at "v"
                  exact ⟨rfl, rfl⟩
                walk_at "v"
                refine ⟨fun c4 => ?_, fun c4 => ?_⟩
                · obtain ⟨st, rfl, hst⟩ := ints_all (p := fun i => 0 ≤ i ∧ i < N) ss fun d hd => by
                    obtain ⟨i, rfl, h0, h1⟩ := btw_int (List.all_eq_true.mp c4 d hd)
                    exact ⟨i, rfl, h0, by omega⟩
                  rw [List.length_map] at hsl
                  walk_at "v"
                  refine pcall (ri st (by omega)) rfl rfl ?_
                  walk_at "v"
                  refine ⟨risB st, rfl, ?_⟩
                  constructor
                  · exact fun z' => ⟨N, ps, z, ws, _, rfl, ⟨n1, n6⟩, hw, c1, cl, hall, st, rfl, hst, z'⟩
                  · rintro ⟨n', ps', ru', ds', st', e, w⟩
                    obtain ⟨rfl, rfl, _, _, e5⟩ := wtup_inj e
                    obtain ⟨st2, e6, _, e7⟩ := w.stops
                    rw [itD_inj (e5.trans e6)]
                    exact e7
                · walk_at "v"
                  refine ⟨false, rfl, ⟨fun z => (by cases z), fun ⟨n', ps', ru', ds', st', e, w⟩ => ?_⟩⟩
                  obtain ⟨rfl, rfl, _, _, e5⟩ := wtup_inj e
                  obtain ⟨st2, e6, e7, _⟩ := w.stops
                  have e8 := e5.trans e6
                  cases e8
                  have : (st2.map PyData.int).all (fun d => btw d 0 (N - 1)) = true := by
                    rw [List.all_map, List.all_eq_true]
                    intro i hi
                    have := e7 i hi
                    exact decide_eq_true (by omega)
                  rw [this] at c4
                  cases c4
              · walk_at "v"
                refine ⟨false, rfl, ⟨fun z => (by cases z), fun ⟨n', ps', ru', ds', st', e, w⟩ => ?_⟩⟩
                obtain ⟨rfl, rfl, _, e3, _⟩ := wtup_inj e
                cases e3
                have := (all4 ws).mpr w.wishes
                rw [this] at c3
                cases c3
            | _ =>
              walk_at "v"
              refine ⟨false, rfl, ⟨fun z => (by cases z), fun ⟨n', ps', ru', ds', st', e, w⟩ => ?_⟩⟩
              obtain ⟨rfl, rfl, _, _, e5⟩ := wtup_inj e
              obtain ⟨st2, e6, _, _⟩ := w.stops
              have e8 := e5.trans e6
              cases e8
          | _ =>
            walk_at "v"
            exact ⟨false, rfl, ⟨fun z => (by cases z), fun ⟨n', ps', ru', ds', st', e, w⟩ => by obtain ⟨_, _, e2, e3, _⟩ := wtup_inj e; cases e3⟩⟩
        | _ =>
          walk_at "v"
          exact ⟨false, rfl, ⟨fun z => (by cases z), fun ⟨n', ps', ru', ds', st', e, w⟩ => by obtain ⟨_, _, e2, e3, _⟩ := wtup_inj e; cases e2⟩⟩
  | _ =>
    walk_at "v"
    exact ⟨false, rfl, ⟨fun z => (by cases z), fun ⟨n', ps', ru', ds', st', e, w⟩ => by cases e⟩⟩
theorem put_of (h : T.at_ "_law_put" = some d__law_put) (ds : List D) (i : Int) (x : D) (hl : ds.length ≤ 1000000) : Fx (Γof T gl fuel (k + 1)) "_law_put" [.d (.tuple ds), .d (.int i), .d x] fun r => ∃ ys, r = .d (.tuple ys) ∧ ys.length ≤ 2 * ds.length + 1 ∧ ∀ y ∈ ys, y ∈ ds ∨ y = x := by
  refine fx_of h rfl rfl ?_
  show PSs _ _ [some (.d (.tuple ds)), some (.d (.int i)), some (.d x)] _
  walk_at "v"
  refine pcut_tD fun ys hy hym => ?_
  walk_at "v"
  refine pcut_tD fun zs hz hzm => ?_
  walk_at "v"
  refine ⟨_, rfl, by simp; omega, fun y hy' => ?_⟩
  simp only [List.mem_append, List.mem_cons, List.not_mem_nil, or_false] at hy'
  rcases hy' with (h | h) | h
  · exact .inl (hym y h)
  · exact .inr h
  · exact .inl (hzm y h)
end

def d__law_bent_web : Fdef where
  nm := "_law_bent_web"
  ps := ["_law_state", "_law_web_here"]
  N := ["_law_state", "_law_web_here", "_law_some", "_law_n", "_law_tools"]
  fns := ["_law_take"]
  blt := ["list", "len"]
  md := [.rw, .ro]
  body := (.cons (.asg (.t (.cons (.n 3) (.cons (.n 4) .nil))) (.var 1))
    (.cons (.asg (.n 2) (.lst (.cons (.tup (.cons (.var 3) (.cons (.fz (.bf .list (.var 4))) .nil))) (.cons (.tup (.cons (.var 3) (.cons (.bin .add (.var 4) (.tup (.cons (.tup (.cons (.int 0) (.cons (.int 0) .nil))) .nil))) .nil))) (.cons (.tup (.cons (.var 3) (.cons (.bin .add (.var 4) (.tup (.cons (.tup (.cons (.int 0) (.cons (.var 3) .nil))) .nil))) .nil))) (.cons (.tup (.cons (.var 3) (.cons (.bin .add (.tup (.cons (.tup (.cons (.int 1) (.cons (.int 0) .nil))) .nil)) (.var 4)) .nil))) (.cons (.tup (.cons (.int 0) (.cons (.tup .nil) .nil))) .nil)))))))
    (.cons (.asg (.n 2) (.bin .add (.var 2) (.lst (.cons (.tup (.cons (.int 7) (.cons (.var 4) .nil))) (.cons (.tup (.cons (.var 3) (.cons (.bin .add (.var 4) (.bin .mul (.tup (.cons (.tup (.cons (.int 0) (.cons (.int 1) .nil))) .nil)) (.int 10))) .nil))) (.cons (.tup (.cons (.var 3) (.cons (.fz (.rev (.var 4))) .nil))) (.cons (.tup (.cons (.bl true) (.cons (.var 4) .nil))) (.cons (.tup (.cons (.var 3) .nil)) (.cons (.tup (.cons (.var 3) (.cons (.var 4) (.cons (.tup .nil) .nil)))) .nil)))))))))
    (.cons (.ex (.app 2 (.fz (.lst (.cons (.var 3) (.cons (.var 4) .nil))))))
    (.cons (.asg (.n 2) (.bin .add (.var 2) (.lst (.cons (.tup (.cons (.bin .sub (.var 3) (.int 1)) (.cons (.var 4) .nil))) (.cons (.tup (.cons (.var 3) (.cons (.bin .add (.tup (.cons (.tup (.cons (.int 0) (.cons (.bl true) .nil))) .nil)) (.var 4)) .nil))) (.cons (.tup (.cons (.var 3) (.cons (.bin .add (.var 4) (.tup (.cons (.tup (.cons (.int 0) (.cons (.int 1) (.cons (.int 1) .nil)))) .nil))) .nil))) (.cons (.tup (.cons (.var 3) (.cons .non .nil))) (.cons (.tup (.cons (.var 3) (.cons (.tup (.cons (.fz (.lst (.cons (.int 0) (.cons (.int 1) .nil)))) .nil)) .nil))) .nil))))))))
    (.cons (.ret (.idx (.var 2) (.call "_law_take" (.cons (.var 0) (.cons (.bf .len (.var 2)) .nil)))))
    .nil))))))

def d__law_bent_wishes : Fdef where
  nm := "_law_bent_wishes"
  ps := ["_law_state", "_law_web_here", "_law_wishes_here"]
  N := ["_law_state", "_law_web_here", "_law_wishes_here", "_law_at", "_law_some", "_law_many_tools", "_law_all_tools", "_law_bent", "_law_more", "_law_k", "_law_tool"]
  fns := ["_law_take", "_law_put"]
  blt := ["len", "tuple", "range", "list"]
  md := [.rw, .ro, .ro]
  body := (.cons (.asg (.n 3) (.call "_law_take" (.cons (.var 0) (.cons (.bf .len (.var 2)) .nil))))
    (.cons (.asg (.n 4) (.idx (.var 2) (.var 3)))
    (.cons (.asg (.n 5) (.bf .len (.idx (.var 1) (.int 1))))
    (.cons (.asg (.n 6) (.bf .trng (.var 5)))
    (.cons (.asg (.n 7) (.lst (.cons (.bin .add (.var 4) (.tup (.cons (.tup .nil) .nil))) (.cons (.bin .add (.var 4) (.tup (.cons (.tup (.cons (.var 5) .nil)) .nil))) (.cons (.tup (.cons (.var 6) .nil)) (.cons (.fz (.rev (.var 4))) (.cons (.fz (.bin .add (.var 4) (.slT (.var 4) (.int 1)))) (.cons (.fz (.bf .list (.var 4))) .nil))))))))
    (.cons (.ex (.app 7 (.bin .add (.var 4) (.tup (.cons (.tup (.cons (.neg (.int 1)) .nil)) .nil)))))
    (.cons (.asg (.n 7) (.bin .add (.var 7) (.lst (.cons (.tup (.cons (.tup (.cons (.bl false) .nil)) .nil)) (.cons (.tup (.cons (.tup (.cons (.int 0) (.cons (.int 0) .nil))) .nil)) (.cons (.tup (.cons (.tup (.cons (.int 1) (.cons (.int 0) .nil))) .nil)) (.cons (.tup (.cons (.fz (.lst (.cons (.int 0) .nil))) .nil)) (.cons .non (.cons (.tup (.cons .non .nil)) (.cons (.tup (.cons (.tup (.cons (.int 0) (.cons (.int 1) .nil))) (.cons (.tup (.cons (.int 0) .nil)) .nil))) .nil))))))))))
    (.cons (.asg (.n 7) (.bin .add (.var 7) (.lst (.cons (.bf .tuple (.lc0 [("_law_k", 9)] (.n 9) (.rng1 (.int 5)) (.tup (.cons (.var 9) .nil)))) (.cons (.bf .tuple (.lc0 [("_law_tool", 10)] (.n 10) (.e (.var 6)) (.tup (.cons (.var 10) .nil)))) (.cons (.int 0) .nil))))))
    (.cons (.asg (.n 8) (.fz (.lst (.cons (.call "_law_put" (.cons (.var 2) (.cons (.var 3) (.cons (.idx (.var 7) (.call "_law_take" (.cons (.var 0) (.cons (.bf .len (.var 7)) .nil)))) .nil)))) (.cons (.bin .add (.var 2) (.tup (.cons (.tup .nil) .nil))) (.cons (.fz (.slT (.var 2) (.neg (.int 1)))) (.cons (.fz (.bf .list (.var 2))) (.cons .non .nil))))))))
    (.cons (.ret (.idx (.var 8) (.ifx (.cmp .eq (.call "_law_take" (.cons (.var 0) (.cons (.int 2) .nil))) (.int 0)) (.bin .mod (.call "_law_take" (.cons (.var 0) (.cons (.int 9) .nil))) (.int 5)) (.int 0))))
    .nil))))))))))

def d__law_bent_stops : Fdef where
  nm := "_law_bent_stops"
  ps := ["_law_state", "_law_web_here", "_law_stops"]
  N := ["_law_state", "_law_web_here", "_law_stops", "_law_n", "_law_some"]
  fns := ["_law_take"]
  blt := ["list", "tuple", "range", "len"]
  md := [.rw, .ro, .ro]
  body := (.cons (.asg (.n 3) (.idx (.var 1) (.int 0)))
    (.cons (.asg (.n 4) (.lst (.cons (.bin .add (.var 2) (.tup (.cons (.var 3) .nil))) (.cons (.bin .add (.var 2) (.tup (.cons (.int 0) .nil))) (.cons (.fz (.rev (.var 2))) (.cons (.tup (.cons (.neg (.int 1)) .nil)) (.cons (.tup (.cons (.bl false) .nil)) (.cons (.fz (.bf .list (.var 2))) (.cons (.bf .trng (.var 3)) (.cons (.tup (.cons (.int 0) (.cons (.int 0) .nil))) (.cons .non .nil)))))))))))
    (.cons (.ex (.app 4 (.tup (.cons .non .nil))))
    (.cons (.ret (.idx (.var 4) (.call "_law_take" (.cons (.var 0) (.cons (.bf .len (.var 4)) .nil)))))
    .nil))))

def d__law_spoilt : Fdef where
  nm := "_law_spoilt"
  ps := ["_law_state", "_law_world_here"]
  N := ["_law_state", "_law_world_here", "_law_way", "_law_some", "_law_web_here", "_law_rule", "_law_wishes_here", "_law_stops"]
  fns := ["_law_take", "_law_put", "_law_bent_web", "_law_bent_wishes", "_law_bent_stops"]
  blt := ["list", "len"]
  md := [.rw, .ro]
  body := (.cons (.asg (.t (.cons (.n 4) (.cons (.n 5) (.cons (.n 6) (.cons (.n 7) .nil))))) (.var 1))
    (.cons (.asg (.n 2) (.call "_law_take" (.cons (.var 0) (.cons (.int 10) .nil))))
    (.cons (.ife (.cmp .lt (.var 2) (.int 3))
    (.cons (.ret (.call "_law_put" (.cons (.var 1) (.cons (.int 0) (.cons (.call "_law_bent_web" (.cons (.var 0) (.cons (.var 4) .nil))) .nil)))))
    .nil)
    .nil)
    (.cons (.ife (.cmp .lt (.var 2) (.int 6))
    (.cons (.ret (.call "_law_put" (.cons (.var 1) (.cons (.int 2) (.cons (.call "_law_bent_wishes" (.cons (.var 0) (.cons (.var 4) (.cons (.var 6) .nil)))) .nil)))))
    .nil)
    .nil)
    (.cons (.ife (.cmp .lt (.var 2) (.int 8))
    (.cons (.ret (.call "_law_put" (.cons (.var 1) (.cons (.int 3) (.cons (.call "_law_bent_stops" (.cons (.var 0) (.cons (.var 4) (.cons (.var 7) .nil)))) .nil)))))
    .nil)
    .nil)
    (.cons (.ife (.cmp .eq (.var 2) (.int 8))
    (.cons (.ret (.call "_law_put" (.cons (.var 1) (.cons (.int 1) (.cons (.idx (.lst (.cons (.str "Free") (.cons (.str "") (.cons .non (.cons (.int 0) (.cons (.str "rank ") (.cons (.tup (.cons (.str "free") .nil)) (.cons (.str "all") (.cons (.fz (.lst (.cons (.str "free") .nil))) .nil))))))))) (.call "_law_take" (.cons (.var 0) (.cons (.int 8) .nil)))) .nil)))))
    .nil)
    .nil)
    (.cons (.asg (.n 3) (.fz (.lst (.cons .non (.cons (.int 7) (.cons (.str "world") (.cons (.tup .nil) (.cons (.fz (.lst .nil)) (.cons .dct0 (.cons (.fz (.slT (.var 1) (.int 3))) (.cons (.bin .add (.var 1) (.tup (.cons (.tup .nil) .nil))) (.cons (.fz (.bf .list (.var 1))) (.cons (.tup (.cons (.var 1) .nil)) (.cons (.bl true) .nil))))))))))))))
    (.cons (.ret (.idx (.var 3) (.call "_law_take" (.cons (.var 0) (.cons (.bf .len (.var 3)) .nil)))))
    .nil))))))))

def d__law_right : Fdef where
  nm := "_law_right"
  ps := ["_law_thing"]
  N := ["_law_thing", "_law_found"]
  fns := ["is_world", "_law_is_world"]
  blt := ["isinstance", "bool"]
  md := [.ro]
  body := (.cons (.asg (.n 1) (.call "is_world" (.cons (.var 0) .nil)))
    (.cons (.ret (.and (.isi .bool (.var 1)) (.cmp .eq (.var 1) (.call "_law_is_world" (.cons (.var 0) .nil)))))
    .nil))

theorem sm_d {m n : Nat} {x : D} (h : (x.canLay0 && (decide (x.depth ≤ m) && decide (x.weight ≤ n))) = true) : Sm m n x := by
  simp only [Bool.and_eq_true, decide_eq_true_eq] at h
  exact ⟨⟨h.1, h.2.1⟩, h.2.2⟩
theorem sq_rep {m n l k : Nat} {ds : List D} (h : Sq m n l ds) : Sq m n (k * l) (List.replicate k ds).flatten := ⟨fun d hd => by
  obtain ⟨xs, hx, hd⟩ := List.mem_flatten.mp hd
  rw [(List.mem_replicate.mp hx).2] at hd
  exact h.each d hd, by
  induction k with
  | zero => simp
  | succ k ih =>
    rw [List.replicate_succ, List.flatten_cons, List.length_append, Nat.succ_mul]
    have := h.len
    omega⟩
theorem sq_pairs {ps : List (Int × Int)} {n : Int} (h : WebOk n 9 ps) (hn : n ≤ 6) : Sq 2 300 9 (ps.map Datum.toD) := sq_of (f := fun p : Int × Int => (Datum.toD p : D)) (fun p hp => by
  obtain ⟨h1, h2, h3⟩ := h.ok p hp
  exact (sm_t (sq_cons (sm_i (m := 0) (n := 40) (i := p.1) (by omega) (by decide)) (sq_cons (sm_i (i := p.2) (by omega) (by decide)) (sq_nil (l := 0))))).mono (by decide) (by decide)) (by have := h.len; omega)
section
variable {T : Tab} {gl : Str → Option D} {fuel k : Nat}
theorem bw_of (tk : Tk (Γof T gl fuel k)) (h : T.at_ "_law_bent_web" = some d__law_bent_web) : ∀ b xs (n : Int) (ps : List (Int × Int)), St b xs → 100 ≤ b → 1 ≤ n → n ≤ 6 → WebOk n 9 ps → FxS (Γof T gl fuel (k + 1)) "_law_bent_web" xs [.d (webD n ps)] fun r xs' => ∃ x, r = .d x ∧ Sm 5 100000 x ∧ St (b - 100) xs' := by
  intro b xs n ps hs hb n1 n6 hw
  have hl := hw.len
  refine fxs_of h rfl ⟨_, rfl, rfl⟩ rfl ?_
  show PSs _ _ [some (.l xs), some (.d (webD n ps)), none, none, none] _
  walk_at "v"
  refine pb_mult (by decide) (by decide) (by simp) ?_
  walk_at "v"
  refine pb_addt (by rw [show (10 : Int).toNat = 10 from rfl, List.length_map]; show _ + 10 ≤ _; omega) ?_
  walk_at "v"
  refine pcall_take tk hs (by omega) (by simp) (by simp) fun a x1 a0 a1 s1 => ?_
  walk_at "v"
  refine px_lD a0 (by simpa using a1) fun y hy => ?_
  walk_at "v"
  refine ⟨y, rfl, ?_, s1.mono (by omega)⟩
  have sT := sq_pairs hw n6
  have N : Sm 4 20000 (.int n) := sm_i (by omega) (by decide)
  have B : ∀ {es : List D}, Sq 2 300 40 es → Sm 4 20000 (.tuple es) := fun h => (sm_t h).mono (by decide) (by decide)
  have BL : ∀ {es : List D}, Sq 2 300 40 es → Sm 4 20000 (.list es) := fun h => (sm_l h).mono (by decide) (by decide)
  have tw : ∀ {ds : List D}, Sq 4 20000 3 ds → Sm 5 100000 (.tuple ds) := fun h => (sm_t h).mono (by decide) (by decide)
  have twl : ∀ {ds : List D}, Sq 4 20000 3 ds → Sm 5 100000 (.list ds) := fun h => (sm_l h).mono (by decide) (by decide)
  have two : ∀ {a b : D}, Sm 4 20000 a → Sm 4 20000 b → Sq 4 20000 3 [a, b] := fun ha hb => (sq_cons ha (sq_cons hb (sq_nil (l := 0)))).mono (by decide) (by decide) (by decide)
  have lit : ∀ {x : D}, (x.canLay0 && (decide (x.depth ≤ 2) && decide (x.weight ≤ 300))) = true → Sq 2 300 1 [x] := fun h => sq_cons (sm_d h) (sq_nil (l := 0))
  have one : ∀ {x : D}, Sm 2 300 x → Sq 2 300 1 [x] := fun h => sq_cons h (sq_nil (l := 0))
  have up : ∀ {l : Nat} {es : List D}, Sq 2 300 l es → l ≤ 40 → Sq 2 300 40 es := fun h l => h.mono (by decide) (by decide) l
  have hm := List.mem_of_getElem? hy
  simp only [List.mem_append, List.mem_cons, List.not_mem_nil, or_false] at hm
  rcases hm with (((rfl | rfl | rfl | rfl | rfl) | rfl | rfl | rfl | rfl | rfl | rfl) | rfl) | rfl | rfl | rfl | rfl | rfl
  · exact tw (two N (BL (up sT (by decide))))
  · exact tw (two N (B (up (sq_app sT (lit (by decide))) (by decide))))
  · exact tw (two N (B (up (sq_app sT (one ((sm_t (sq_cons (sm_i (m := 0) (n := 40) (i := 0) (by decide) (by decide)) (sq_cons (sm_i (i := n) (by omega) (by decide)) (sq_nil (l := 0))))).mono (by decide) (by decide)))) (by decide))))
  · exact tw (two N (B (up (sq_app (lit (by decide)) sT) (by decide))))
  · exact sm_d (by decide)
  · exact tw (two (sm_d (by decide)) (B (up sT (by decide))))
  · exact tw (two N (B (up (sq_app sT (sq_rep (lit (by decide)))) (by decide))))
  · exact tw (two N (B (up (by rw [List.map_reverse]; exact sq_rev sT) (by decide))))
  · exact tw (two sm_b (B (up sT (by decide))))
  · exact tw ((sq_cons N (sq_nil (l := 0))).mono (by decide) (by decide) (by decide))
  · exact tw ((sq_cons N (sq_cons (B (up sT (by decide))) (sq_cons (sm_d (by decide)) (sq_nil (l := 0))))).mono (by decide) (by decide) (by decide))
  · exact twl (two N (B (up sT (by decide))))
  · exact tw (two (sm_i (by omega) (by decide)) (B (up sT (by decide))))
  · exact tw (two N (B (up (sq_app (lit (by decide)) sT) (by decide))))
  · exact tw (two N (B (up (sq_app sT (lit (by decide))) (by decide))))
  · exact tw (two N sm_n)
  · exact tw (two N (sm_d (by decide)))
theorem sq_wish {w : List Int} (hl : w.length ≤ 10) (h : ∀ i ∈ w, 0 ≤ i ∧ i < 1000000) : Sm 1 410 (itD w) := (sm_t (sq_ints (m := 0) (n := 40) (l := 10) (fun i hi => by have := h i hi; omega) (by decide) hl)).mono (by decide) (by decide)
theorem bs_of (tk : Tk (Γof T gl fuel k)) (h : T.at_ "_law_bent_stops" = some d__law_bent_stops) : ∀ b xs (n : Int) (ps : List (Int × Int)) (st : List Int), St b xs → 100 ≤ b → 1 ≤ n → n ≤ 6 → st.length ≤ 6 → (∀ x ∈ st, 0 ≤ x ∧ x < n) → FxS (Γof T gl fuel (k + 1)) "_law_bent_stops" xs [.d (webD n ps), .d (itD st)] fun r xs' => ∃ x, r = .d x ∧ Sm 5 100000 x ∧ St (b - 100) xs' := by
  intro b xs n ps st hs hb n1 n6 hl hh
  refine fxs_of h rfl ⟨_, rfl, rfl⟩ rfl ?_
  show PSs _ _ [some (.l xs), some (.d (webD n ps)), some (.d (itD st)), none, none] _
  walk_at "v"
  refine pcall_take tk hs (by omega) (by simp) (by simp) fun a x1 a0 a1 s1 => ?_
  walk_at "v"
  refine px_lD a0 (by simpa using a1) fun y hy => ?_
  walk_at "v"
  refine ⟨y, rfl, ?_, s1.mono (by omega)⟩
  have sT : Sq 1 40 6 (st.map PyData.int) := sq_ints (fun i hi => by have := hh i hi; omega) (by decide) hl
  have B : ∀ {l : Nat} {es : List D}, Sq 1 40 l es → l ≤ 40 → Sm 5 100000 (.tuple es) := fun h hl => (sm_t (h.mono (m' := 1) (n' := 40) (l' := 40) (by decide) (by decide) hl)).mono (by decide) (by decide)
  have BL : ∀ {l : Nat} {es : List D}, Sq 1 40 l es → l ≤ 40 → Sm 5 100000 (.list es) := fun h hl => (sm_l (h.mono (m' := 1) (n' := 40) (l' := 40) (by decide) (by decide) hl)).mono (by decide) (by decide)
  have hm := List.mem_of_getElem? hy
  simp only [List.mem_append, List.mem_cons, List.not_mem_nil, or_false] at hm
  rcases hm with (rfl | rfl | rfl | rfl | rfl | rfl | rfl | rfl | rfl) | rfl
  · exact B (sq_app sT (sq_cons (sm_i (by omega) (by decide)) (sq_nil (l := 0)))) (by decide)
  · exact B (sq_app sT (sq_cons (sm_i (by omega) (by decide)) (sq_nil (l := 0)))) (by decide)
  · exact B (by rw [List.map_reverse]; exact sq_rev sT) (by decide)
  · exact sm_d (by decide)
  · exact sm_d (by decide)
  · exact BL sT (by decide)
  · refine B (l := 6) (sq_of (f := fun (i : Nat) => PyData.int (i : Int)) (fun i hi => sm_i ?_ (by decide)) (by simp; omega)) (by decide)
    have := List.mem_range.mp hi
    omega
  · exact sm_d (by decide)
  · exact sm_d (by decide)
  · exact sm_d (by decide)
abbrev Pu (Γ : Gl0) : Prop := ∀ (ds : List D) (i : Int) (x : D), ds.length ≤ 1000000 → Fx Γ "_law_put" [.d (.tuple ds), .d (.int i), .d x] fun r => ∃ ys, r = .d (.tuple ys) ∧ ys.length ≤ 2 * ds.length + 1 ∧ ∀ y ∈ ys, y ∈ ds ∨ y = x
theorem pu_sq {m n l : Nat} {ds ys : List D} {x : D} (h : Sq m n l ds) (hx : Sm m n x) (hl : ys.length ≤ 2 * ds.length + 1) (hm : ∀ y ∈ ys, y ∈ ds ∨ y = x) : Sq m n (2 * l + 1) ys := ⟨fun y hy => (hm y hy).elim (h.each y) (fun e => e ▸ hx), by have := h.len; omega⟩
theorem bwi_of (tk : Tk (Γof T gl fuel k)) (pu : Pu (Γof T gl fuel k)) (h : T.at_ "_law_bent_wishes" = some d__law_bent_wishes) : ∀ b xs (n : Int) (ps : List (Int × Int)) (fs : List (List (List Int))) (st : List Int), St b xs → 100 ≤ b → 1 ≤ n → n ≤ 6 → WorldOk n 4 ps fs st → FxS (Γof T gl fuel (k + 1)) "_law_bent_wishes" xs [.d (webD n ps), .d (fsD fs)] fun r xs' => ∃ x, r = .d x ∧ Sm 5 100000 x ∧ St (b - 100) xs' := by
  intro b xs n ps fs st hs hb n1 n6 wo
  have hpl := wo.web.len
  have hfl := wo.wishes.len
  have swi : ∀ ws ∈ fs, Sq 1 410 4 (ws.map itD) := fun ws hws => sq_of (fun w hw => by
    have h1 := wo.wishes.wish hws hw
    exact sq_wish (by omega) fun i hi => by have := h1.2 i hi; omega) (by have := wo.wishes.most ws hws; omega)
  have sfs : Sq 3 6600 6 (fs.map wsD) := sq_of (f := wsD) (fun ws hws => (sm_t (swi ws hws)).mono (by decide) (by decide)) (by omega)
  refine fxs_of h rfl ⟨_, rfl, rfl⟩ rfl ?_
  show PSs _ _ [some (.l xs), some (.d (webD n ps)), some (.d (fsD fs)), none, none, none, none, none, none, none, none] _
  walk_at "v"
  refine pcall_take tk hs (by omega) (by omega) (by omega) fun a x1 a0 a1 s1 => ?_
  walk_at "v"
  refine px_t a0 (by omega) fun ws hws => ?_
  have hws := List.mem_of_getElem? hws
  have sw := swi ws hws
  have hwl := wo.wishes.most ws hws
  walk_at "v"
  refine pcut_tq fun y1 hy1 hy1m _ => ?_
  walk_at "v"
  refine lc0_map (fun i => .tuple [.int i]) (by simp) ?_ ?_
  · intro i hi
    walk_at "v"
    exact ⟨rfl, rfl⟩
  walk_at "v"
  refine lc0_map (fun i => .tuple [.int i]) (by simp; omega) ?_ ?_
  · intro i hi
    walk_at "v"
    exact ⟨rfl, rfl⟩
  walk_at "v"
  refine pcall_take tk s1 (by omega) (by simp) (by simp) fun c x2 c0 c1 s2 => ?_
  walk_at "v"
  refine px_lD c0 (by simpa using c1) fun y hy => ?_
  walk_at "v"
  refine pcall_q (pu (fs.map wsD) a y (by rw [List.length_map]; omega)) rfl rfl ?_
  rintro r ⟨ys, rfl, hyl, hym⟩
  walk_at "v"
  refine pcut_tq fun y2 hy2 hy2m _ => ?_
  walk_at "v"
  have hm := List.mem_of_getElem? hy
  have Q1 : ∀ {m n : Nat} {x : D}, Sm m n x → Sq m n 1 [x] := fun h => sq_cons h (sq_nil (l := 0))
  have B : ∀ {es : List D}, Sq 1 410 16 es → Sm 3 6600 (.tuple es) := fun h => (sm_t h).mono (by decide) (by decide)
  have BL : ∀ {es : List D}, Sq 1 410 16 es → Sm 3 6600 (.list es) := fun h => (sm_l h).mono (by decide) (by decide)
  have up : ∀ {l : Nat} {es : List D}, Sq 1 410 l es → l ≤ 16 → Sq 1 410 16 es := fun h l => h.mono (by decide) (by decide) l
  have sy : Sm 3 6600 y := by
    simp only [List.mem_append, List.mem_cons, List.not_mem_nil, or_false] at hm
    rcases hm with (((rfl | rfl | rfl | rfl | rfl | rfl) | rfl) | rfl | rfl | rfl | rfl | rfl | rfl | rfl) | rfl | rfl | rfl
    · exact B (up (sq_app sw (Q1 (sm_d (by decide)))) (by decide))
    · exact B (up (sq_app sw (Q1 ((sm_t (Q1 (sm_i (m := 0) (n := 40) (i := (ps.length : Int)) (by omega) (by decide)))).mono (by decide) (by decide)))) (by decide))
    · exact B (up (Q1 ((sm_t (l := 9) (sq_of (f := fun (i : Nat) => PyData.int (i : Int)) (fun i hi => sm_i (m := 0) (n := 40) (by have := List.mem_range.mp hi; omega) (by decide)) (by simp; omega))).mono (by decide) (by decide))) (by decide))
    · exact B (up (by rw [List.map_reverse]; exact sq_rev sw) (by decide))
    · exact B (up (sq_app sw (sq_of (l := 4) (f := itD) (fun w hw => sw.each _ (List.mem_map.mpr ⟨w, hy1m w hw, rfl⟩)) (by omega))) (by decide))
    · exact BL (up sw (by decide))
    · exact B (up (sq_app sw (Q1 (sm_d (by decide)))) (by decide))
    · exact sm_d (by decide)
    · exact sm_d (by decide)
    · exact sm_d (by decide)
    · exact sm_d (by decide)
    · exact sm_n
    · exact sm_d (by decide)
    · exact sm_d (by decide)
    · exact sm_d (by decide)
    · exact B (up (l := 9) (sq_of (f := fun (i : Nat) => PyData.tuple [PyData.int (i : Int)]) (fun i hi => (sm_t (Q1 (sm_i (m := 0) (n := 40) (i := (i : Int)) (by have := List.mem_range.mp hi; omega) (by decide)))).mono (by decide) (by decide)) (by simp; omega)) (by decide))
    · exact sm_d (by decide)
  have syq := pu_sq sfs sy hyl hym
  have fin : ∀ z, z ∈ [PyData.tuple ys, .tuple (fs.map wsD ++ [.tuple []]), .tuple (y2.map wsD), .list (fs.map wsD), .none] → Sm 5 100000 z := fun z hz => by
    simp only [List.mem_cons, List.not_mem_nil, or_false] at hz
    rcases hz with rfl | rfl | rfl | rfl | rfl
    · exact (sm_t syq).mono (by decide) (by omega)
    · exact (sm_t (sq_app sfs (Q1 (sm_d (by decide))))).mono (by decide) (by decide)
    · exact (sm_t (l := 6) (sq_of (f := wsD) (fun w hw => sfs.each _ (List.mem_map.mpr ⟨w, hy2m w hw, rfl⟩)) (by omega))).mono (by decide) (by decide)
    · exact (sm_l sfs).mono (by decide) (by decide)
    · exact sm_n
  refine pcall_take tk s2 (by omega) (by omega) (by omega) fun e x3 e0 e1 s3 => ?_
  walk_at "v"
  refine pif_dd (fun c5 => ?_) (fun c5 => ?_)
  · walk_at "v"
    refine pcall_take tk s3 (by omega) (by omega) (by omega) fun g x4 g0 g1 s4 => ?_
    walk_at "v"
    refine px_dD (by omega) (by simp; omega) fun z hz => ?_
    walk_at "v"
    exact ⟨z, rfl, fin z (List.mem_of_getElem? hz), s4.mono (by omega)⟩
  · walk_at "v"
    exact ⟨_, rfl, fin _ (List.mem_cons_self ..), s3.mono (by omega)⟩
abbrev Bw (Γ : Gl0) : Prop := ∀ b xs (n : Int) (ps : List (Int × Int)), St b xs → 100 ≤ b → 1 ≤ n → n ≤ 6 → WebOk n 9 ps → FxS Γ "_law_bent_web" xs [.d (webD n ps)] fun r xs' => ∃ x, r = .d x ∧ Sm 5 100000 x ∧ St (b - 100) xs'
abbrev Bst (Γ : Gl0) : Prop := ∀ b xs (n : Int) (ps : List (Int × Int)) (st : List Int), St b xs → 100 ≤ b → 1 ≤ n → n ≤ 6 → st.length ≤ 6 → (∀ x ∈ st, 0 ≤ x ∧ x < n) → FxS Γ "_law_bent_stops" xs [.d (webD n ps), .d (itD st)] fun r xs' => ∃ x, r = .d x ∧ Sm 5 100000 x ∧ St (b - 100) xs'
abbrev Bwi (Γ : Gl0) : Prop := ∀ b xs (n : Int) (ps : List (Int × Int)) (fs : List (List (List Int))) (st : List Int), St b xs → 100 ≤ b → 1 ≤ n → n ≤ 6 → WorldOk n 4 ps fs st → FxS Γ "_law_bent_wishes" xs [.d (webD n ps), .d (fsD fs)] fun r xs' => ∃ x, r = .d x ∧ Sm 5 100000 x ∧ St (b - 100) xs'
def Spo (Γ : Gl0) : Prop := ∀ b xs (n : Int) (ps : List (Int × Int)) (ru : Str) (fs : List (List (List Int))) (st : List Int), St b xs → 1000 ≤ b → 1 ≤ n → n ≤ 6 → ru ∈ rulesL → WorldOk n 4 ps fs st → FxS Γ "_law_spoilt" xs [.d (worldD n ps ru fs st)] fun r xs' => ∃ x, r = .d x ∧ (Lk x ∨ ∀ ds, x ≠ .tuple ds) ∧ St (b - 1000) xs'
theorem sq_world {n : Int} {ps : List (Int × Int)} {ru : Str} {fs : List (List (List Int))} {st : List Int} (n1 : 1 ≤ n) (n6 : n ≤ 6) (hru : ru ∈ rulesL) (wo : WorldOk n 4 ps fs st) : Sq 5 100000 4 [webD n ps, .str ru, fsD fs, itD st] := by
  have hfl := wo.wishes.len
  have hsl := rise_len wo.stops wo.hands
  have hpl := wo.web.len
  refine sq_cons ?_ (sq_cons ?_ (sq_cons ?_ (sq_cons ?_ (sq_nil (l := 0)))))
  · exact (sm_t (sq_cons (sm_i (m := 3) (n := 3000) (i := n) (by omega) (by decide)) (sq_cons ((sm_t (sq_pairs wo.web n6)).mono (by decide) (by decide)) (sq_nil (l := 0))))).mono (by decide) (by decide)
  · exact sm_s (rules_tx hru) (by decide)
  · refine (sm_t (l := 6) (sq_of (f := wsD) (m := 3) (n := 6600) (fun ws hws => (sm_t (l := 4) (m := 1) (n := 410) (sq_of (f := itD) (fun w hw => ?_) ?_)).mono (by decide) (by decide)) (by omega))).mono (by decide) (by decide)
    · have h1 := wo.wishes.wish hws hw
      exact sq_wish (by omega) fun i hi => by have := h1.2 i hi; omega
    · have := wo.wishes.most ws hws; omega
  · exact (sq_wish (w := st) (by omega) fun i hi => by have := wo.hands i hi; omega).mono (by decide) (by decide)
theorem spo_of (tk : Tk (Γof T gl fuel k)) (pu : Pu (Γof T gl fuel k)) (bw : Bw (Γof T gl fuel k)) (bs : Bst (Γof T gl fuel k)) (bwi : Bwi (Γof T gl fuel k)) (h : T.at_ "_law_spoilt" = some d__law_spoilt) : Spo (Γof T gl fuel (k + 1)) := by
  intro b xs n ps ru fs st hs hb n1 n6 hru wo
  have sW := sq_world n1 n6 hru wo
  have hsl := rise_len wo.stops wo.hands
  have fin : ∀ (i : Int) (x : D) (r : SV), Sm 5 100000 x → (∃ ys, r = .d (.tuple ys) ∧ ys.length ≤ 2 * [webD n ps, .str ru, fsD fs, itD st].length + 1 ∧ ∀ y ∈ ys, y ∈ [webD n ps, .str ru, fsD fs, itD st] ∨ y = x) → ∃ x, r = .d x ∧ (Lk x ∨ ∀ ds, x ≠ .tuple ds) := fun i x r hx ⟨ys, e, hyl, hym⟩ =>
    ⟨_, e, .inl ⟨6, _, sm_t (pu_sq sW hx hyl hym), by decide, by decide⟩⟩
  refine fxs_of h rfl ⟨_, rfl, rfl⟩ rfl ?_
  show PSs _ _ [some (.l xs), some (.d (worldD n ps ru fs st)), none, none, none, none, none, none] _
  walk_at "v"
  refine pcall_take tk hs (by omega) (by omega) (by omega) fun a x1 a0 a1 s1 => ?_
  walk_at "v"
  refine pif_dc (fun c => ?_) (fun c => ?_)
  · walk_at "v"
    refine pcall_s (bw _ _ n ps s1 (by omega) n1 n6 wo.web) rfl rfl ?_
    rintro r x2 ⟨x, rfl, hx, s2⟩
    walk_at "v"
    refine pcall_q (pu [webD n ps, .str ru, fsD fs, itD st] 0 x (by simp)) rfl rfl ?_
    intro r hr
    obtain ⟨y, rfl, hy⟩ := fin 0 x r hx hr
    walk_at "v"
    exact ⟨y, rfl, hy, s2.mono (by omega)⟩
  walk_at "v"
  refine pif_dc (fun c => ?_) (fun c => ?_)
  · walk_at "v"
    refine pcall_s (bwi _ _ n ps fs st s1 (by omega) n1 n6 wo) rfl rfl ?_
    rintro r x2 ⟨x, rfl, hx, s2⟩
    walk_at "v"
    refine pcall_q (pu [webD n ps, .str ru, fsD fs, itD st] 2 x (by simp)) rfl rfl ?_
    intro r hr
    obtain ⟨y, rfl, hy⟩ := fin 2 x r hx hr
    walk_at "v"
    exact ⟨y, rfl, hy, s2.mono (by omega)⟩
  walk_at "v"
  refine pif_dc (fun c => ?_) (fun c => ?_)
  · walk_at "v"
    refine pcall_s (bs _ _ n ps st s1 (by omega) n1 n6 (by omega) wo.hands) rfl rfl ?_
    rintro r x2 ⟨x, rfl, hx, s2⟩
    walk_at "v"
    refine pcall_q (pu [webD n ps, .str ru, fsD fs, itD st] 3 x (by simp)) rfl rfl ?_
    intro r hr
    obtain ⟨y, rfl, hy⟩ := fin 3 x r hx hr
    walk_at "v"
    exact ⟨y, rfl, hy, s2.mono (by omega)⟩
  walk_at "v"
  refine pif_dc (fun c => ?_) (fun c => ?_)
  · walk_at "v"
    refine pcall_take tk s1 (by omega) (by omega) (by omega) fun c x2 c0 c1 s2 => ?_
    walk_at "v"
    refine px_lD c0 (by simpa using c1) fun x hx => ?_
    have hx := List.mem_of_getElem? hx
    have sx : Sm 5 100000 x := by
      simp only [List.mem_cons, List.not_mem_nil, or_false] at hx
      have sl : ∀ {s : String}, (s.toList.map Char.toNat).length ≤ 10 → (s.toList.map Char.toNat).all (fun c => c == 10 || (decide (32 ≤ c) && decide (c < 127))) = true → Sm 4 10 (.str (s : Str)) := fun h h2 => sm_s (tx_lit h h2) (by decide)
      rcases hx with rfl | rfl | rfl | rfl | rfl | rfl | rfl | rfl
      · exact (sl (by decide) (by decide)).mono (by decide) (by decide)
      · exact (sl (by decide) (by decide)).mono (by decide) (by decide)
      · exact sm_n
      · exact sm_d (by decide)
      · exact (sl (by decide) (by decide)).mono (by decide) (by decide)
      · exact (sm_t (sq_cons (sl (by decide) (by decide)) (sq_nil (l := 0)))).mono (by decide) (by decide)
      · exact (sl (by decide) (by decide)).mono (by decide) (by decide)
      · exact (sm_l (sq_cons (sl (by decide) (by decide)) (sq_nil (l := 0)))).mono (by decide) (by decide)
    walk_at "v"
    refine pcall_q (pu [webD n ps, .str ru, fsD fs, itD st] 1 x (by simp)) rfl rfl ?_
    intro r hr
    obtain ⟨y, rfl, hy⟩ := fin 1 x r sx hr
    walk_at "v"
    exact ⟨y, rfl, hy, s2.mono (by omega)⟩
  walk_at "v"
  refine pcut_tD fun y1 hy1 hy1m => ?_
  walk_at "v"
  refine pcall_take tk s1 (by omega) (by simp) (by simp) fun c x2 c0 c1 s2 => ?_
  walk_at "v"
  refine px_dD c0 (by simpa using c1) fun y hy => ?_
  walk_at "v"
  refine ⟨y, rfl, ?_, s2.mono (by omega)⟩
  have hm := List.mem_of_getElem? hy
  simp only [List.mem_cons, List.not_mem_nil, or_false] at hm
  have no : ∀ {z : D}, (∀ ds, z ≠ .tuple ds) → Lk z ∨ ∀ ds, z ≠ .tuple ds := fun h => .inr h
  have ye : ∀ {m j : Nat} {z : D}, Sm m j z → m ≤ 40 → j ≤ 1000000 → Lk z ∨ ∀ ds, z ≠ .tuple ds := fun h a b => .inl ⟨_, _, h, a, b⟩
  rcases hm with rfl | rfl | rfl | rfl | rfl | rfl | rfl | rfl | rfl | rfl | rfl
  · exact no fun ds e => by cases e
  · exact no fun ds e => by cases e
  · exact no fun ds e => by cases e
  · exact ye (sm_t (m := 0) (n := 0) (l := 0) sq_nil) (by decide) (by decide)
  · exact no fun ds e => by cases e
  · exact no fun ds e => by cases e
  · exact ye (sm_t (sq_sub sW hy1 hy1m)) (by decide) (by decide)
  · exact ye (sm_t (sq_app sW (sq_cons (sm_d (by decide)) (sq_nil (l := 0))))) (by decide) (by decide)
  · exact no fun ds e => by cases e
  · exact ye (sm_t (sq_cons (sm_t sW) (sq_nil (l := 0)))) (by decide) (by decide)
  · exact no fun ds e => by cases e
theorem rt_of (iw : ∀ x : D, (Lk x ∨ ∀ ds, x ≠ .tuple ds) → Fx (Γof T gl fuel k) "is_world" [.d x] fun r => ∃ b, r = .d (.bool b) ∧ (b = true ↔ WorldD x))
    (lw : ∀ x : D, (Lk x ∨ ∀ ds, x ≠ .tuple ds) → Fx (Γof T gl fuel k) "_law_is_world" [.d x] fun r => ∃ b, r = .d (.bool b) ∧ (b = true ↔ WorldD x)) (h : T.at_ "_law_right" = some d__law_right) (x : D) (hx : Lk x ∨ ∀ ds, x ≠ .tuple ds) :
    Fx (Γof T gl fuel (k + 1)) "_law_right" [.d x] fun r => r = .d (.bool true) := by
  refine fx_of h rfl rfl ?_
  show PSs _ _ [some (.d x), none] _
  walk_at "v"
  refine pcall_q (iw x hx) rfl rfl ?_
  rintro r ⟨b, rfl, hb⟩
  walk_at "v"
  refine pcall_q (lw x hx) rfl rfl ?_
  rintro r ⟨b2, rfl, hb2⟩
  have : b2 = b := by rw [Bool.eq_iff_iff, hb, hb2]
  subst this
  walk_at "v"
  simp
end
theorem lt_total : ∀ {a b : List Int}, PySem.W.listLt a b = false → PySem.W.listLt b a = false → a = b
  | [], [], _, _ => rfl
  | [], _ :: _, h, _ => by simp [PySem.W.listLt] at h
  | _ :: _, [], _, h => by simp [PySem.W.listLt] at h
  | x :: a, y :: b, h, h2 => by
    by_cases e : x = y
    · subst e
      simp only [PySem.W.listLt, if_true] at h h2
      rw [lt_total h h2]
    · simp only [PySem.W.listLt, if_neg e, if_neg (Ne.symm e), DatumOrd.lt, decide_eq_false_iff_not] at h h2
      omega
theorem ris_of : ∀ {ws : List (List Int)}, ws.Pairwise (fun a b => leW a b = true) → ws.Nodup → risW ws = true
  | [], _, _ => rfl
  | [_], _, _ => rfl
  | a :: b :: r, h, hn => by
    have ih := ris_of (ws := b :: r) (List.pairwise_cons.mp h).2 (List.nodup_cons.mp hn).2
    unfold risW at ih ⊢
    show ((a, b) :: (b :: r).zip r).all _ = true
    rw [List.all_cons, Bool.and_eq_true]
    refine ⟨?_, ih⟩
    have h1 := (List.pairwise_cons.mp h).1 b (List.mem_cons_self ..)
    have h2 : a ≠ b := fun e => (List.nodup_cons.mp hn).1 (e ▸ List.mem_cons_self ..)
    show PySem.W.listLt a b = true
    unfold leW at h1
    cases e : PySem.W.listLt a b with
    | true => rfl
    | false =>
      rw [Bool.not_eq_true'] at h1
      exact absurd (lt_total e h1) h2
theorem worldD_of {n : Int} {ps : List (Int × Int)} {ru : Str} {fs : List (List (List Int))} {st : List Int} (n1 : 1 ≤ n) (n6 : n ≤ 6) (hru : ru ∈ rulesL) (wo : WorldOk n 4 ps fs st) : WorldD (worldD n ps ru fs st) := by
  refine ⟨n, ps, ru, fs.map wsD, itD st, rfl, ⟨n1, n6⟩, wo.web, hru, by rw [List.length_map]; exact wo.wishes.len, fun j d hd => ?_, st, rfl, wo.hands, (risB_iff st).mpr wo.stops⟩
  rw [List.getElem?_map] at hd
  obtain ⟨ws, hws, rfl⟩ := Option.map_eq_some_iff.mp hd
  have hm := List.mem_of_getElem? hws
  refine ⟨ws, rfl, by have := wo.wishes.most ws hm; omega, fun w hw => ⟨w, rfl, wo.wishes.ne ws hm w hw, ?_, ?_⟩, ris_of (wo.wishes.srt ws hm) (wo.wishes.nod ws hm)⟩
  · exact (ownT_rise ps j).sublist (wo.wishes.own j ws hws w hw)
  · exact fun t ht => (wo.wishes.own j ws hws w hw).subset ht

def d_law : Fdef where
  nm := "law"
  ps := ["_law_script"]
  N := ["_law_script", "_law_state", "_law_turn", "_law_world_here", "_law_k"]
  fns := ["_law_hand", "_law_take", "_law_world", "is_world", "_law_right", "_law_spoilt"]
  blt := ["range", "all"]
  md := [.ro]
  body := (.cons (.asg (.n 1) (.call "_law_hand" (.cons (.var 0) .nil)))
    (.cons (.for_ (.n 2) (.rng1 (.bin .add (.int 1) (.call "_law_take" (.cons (.var 1) (.cons (.int 4) .nil)))))
    (.cons (.asg (.n 3) (.call "_law_world" (.cons (.var 1) (.cons (.int 6) (.cons (.int 9) (.cons (.int 4) .nil))))))
    (.cons (.ife (.cmp .isn (.call "is_world" (.cons (.var 3) .nil)) (.bl true))
    (.cons (.ret (.bl false))
    .nil)
    .nil)
    (.cons (.ife (.not (.bf .all (.lc0 [("_law_k", 4)] (.n 4) (.rng1 (.int 8)) (.call "_law_right" (.cons (.call "_law_spoilt" (.cons (.var 1) (.cons (.var 3) .nil))) .nil)))))
    (.cons (.ret (.bl false))
    .nil)
    .nil)
    .nil))))
    (.cons (.ret (.bl true))
    .nil)))

abbrev T : Tab := [d_is_whole, d_is_between, d_rises, d_is_tool, d_is_web, d_tools_of, d_is_wish, d_is_rising, d_are_wishes, d_is_hand_w, d_are_stops, d_is_world, d__law_hand, d__law_take, d__law_web, d__law_wishes, d__law_world, d__law_whole, d__law_is_rising, d__law_is_web, d__law_are_wishes, d__law_is_world, d__law_put, d__law_bent_web, d__law_bent_wishes, d__law_bent_stops, d__law_spoilt, d__law_right, d_law]
theorem law_fx (gl : Str → Option D) (g1 : gl "MOST_HANDS" = some (.int 6)) (g2 : gl "MOST_TOOLS" = some (.int 9)) (gR : gl "RULES" = some (.tuple (rulesL.map .str))) (gM : gl "MOST_WISHES" = some (.int 4)) (fuel k : Nat) (ns : List Int) (hl : ns.length ≤ 63) : Fx (Γof T gl fuel (k + 8)) "law" [.d (.list (ns.map .int))] fun r => r = .d (.bool true) := by
  have tk : ∀ k, Tk (Γof T gl fuel (k + 1)) := fun k => tk_of (T := T) (gl := gl) (fuel := fuel) (k := k) rfl
  have hd := hd_of (T := T) (gl := gl) (fuel := fuel) (k := k + 6) rfl
  have wb := wb_of (T := T) (gl := gl) (fuel := fuel) (k := k + 5) (tk _) rfl
  have ws := ws_of (T := T) (gl := gl) (fuel := fuel) (k := k + 5) (tk _) rfl
  have wo := woa_of (T := T) (gl := gl) (fuel := fuel) (k := k + 6) (tk _) wb ws rfl
  have pu := put_of (T := T) (gl := gl) (fuel := fuel) (k := k + 5) rfl
  have pu4 := put_of (T := T) (gl := gl) (fuel := fuel) (k := k + 4) rfl
  have sp := spo_of (T := T) (gl := gl) (fuel := fuel) (k := k + 6) (tk _) pu (bw_of (tk _) rfl) (bs_of (tk _) rfl) (bwi_of (tk _) pu4 rfl) rfl
  have iw : ∀ k, ∀ (x : D), (Lk x ∨ ∀ ds, x ≠ .tuple ds) → Fx (Γof T gl fuel (k + 5)) "is_world" [.d x] fun r => ∃ b, r = .d (.bool b) ∧ (b = true ↔ WorldD x) := fun k x hx =>
    iwo_of gR (fun x => we_of (bt_of (fun x => wh_of rfl x) rfl) (fun x n => to_of (bt_of (fun x => wh_of rfl x) rfl) rfl x n) g1 g2 rfl x)
      (fun n ps j x => aw_of' gM (fun n ps j x => iw_of (fun x => wh_of rfl x) (fun n ps j => tof_of rfl n ps j) (fun w => ri_of rfl w) rfl n ps j x) (fun ws => isr_w "is_rising" "one" "other" d_is_rising ⟨rfl, rfl, rfl, rfl⟩ rfl ws) rfl n ps j x)
      (fun n ps x => as_of' (fun n ps x => ih_of rfl n ps x) (fun w => isr_i "is_rising" "one" "other" d_is_rising ⟨rfl, rfl, rfl, rfl⟩ rfl w) rfl n ps x) rfl x hx
  have liw : ∀ x : D, (Lk x ∨ ∀ ds, x ≠ .tuple ds) → Fx (Γof T gl fuel (k + 6)) "_law_is_world" [.d x] fun r => ∃ b, r = .d (.bool b) ∧ (b = true ↔ WorldD x) := fun x hx =>
    liw_of (fun x => lwb_of (fun x l m => lw_of rfl x l m) rfl x) (fun x l m => lw_of rfl x l m)
      (fun n ps j x => law_of (fun x l m => lw_of rfl x l m) (fun w => isr_i "_law_is_rising" "_law_one" "_law_other" d__law_is_rising ⟨rfl, rfl, rfl, rfl⟩ rfl w) (fun ws => isr_w "_law_is_rising" "_law_one" "_law_other" d__law_is_rising ⟨rfl, rfl, rfl, rfl⟩ rfl ws) rfl n ps j x)
      (fun w => isr_i "_law_is_rising" "_law_one" "_law_other" d__law_is_rising ⟨rfl, rfl, rfl, rfl⟩ rfl w) rfl x hx
  have rt := rt_of (T := T) (gl := gl) (fuel := fuel) (k := k + 6) (iw (k + 1)) liw rfl
  refine fx_of (d := d_law) rfl rfl rfl ?_
  show PSs _ _ [some (.d (.list (ns.map .int))), none, none, none, none] _
  walk_at "v"
  refine pcall_q (hd ns hl) rfl rfl ?_
  rintro r ⟨xs, rfl, s0⟩
  walk_at "v"
  refine pcall_take (tk _) s0 (by omega) (by omega) (by omega) fun a x0 a0 a1 s0' => ?_
  walk_at "v"
  refine pfor_rng (fun i ρ => ∃ (xs : List D) (o2 o3 : Option SV), ρ = [some (.d (.list (ns.map .int))), some (.l xs), o2, o3, none] ∧ St (1152921504606846976 - 1 - 100000 * i) xs) ⟨x0, _, _, rfl, by simpa using s0'⟩ ?_ ?_
  · rintro ρ ⟨xs, o2, o3, rfl, s1⟩
    walk_at "v"
  · rintro j ρ hj ⟨xs, o2, o3, rfl, s1⟩
    walk_at "v"
    refine pcall_s (wo _ _ 6 9 4 s1 (by omega) (by decide) (by decide) (by decide) (by decide) (by decide) (by decide)) rfl rfl ?_
    rintro r x2 ⟨n, ps, ru, fs, st, rfl, n1, n6, hru, hw, wok, s2⟩
    have swd := sq_world n1 n6 hru wok
    walk_at "v"
    refine pcall_q (iw (k + 2) _ (.inl ⟨_, _, sm_t swd, by decide, by decide⟩)) rfl rfl ?_
    rintro r ⟨b, rfl, hb⟩
    have hbt := hb.mpr (worldD_of n1 n6 hru wok)
    subst hbt
    walk_at "v"
    refine pif_yes rfl ?_
    walk_at "v"
    refine lc0_st 1 (fun i acc s => acc = List.replicate i (.bool true) ∧ St (1152921504606846976 - 1 - 100000 * j - 25000 - 2000 * i) s) x2 rfl ⟨rfl, s2.mono (by simp)⟩ (by simp) ?_ ?_
    · rintro r x3 ⟨rfl, s3⟩
      rw [List.length_range] at s3 ⊢
      walk_at "v"
      refine PF.mk (.d (.bool true)) (by rfl) ?_
      walk_at "v"
      exact ⟨_, _, _, rfl, s3.mono (by simp; omega)⟩
    · rintro i x acc s hi ⟨rfl, s3⟩
      have hil := (List.getElem?_eq_some_iff.mp hi).1
      simp at hil
      walk_at "v"
      refine pcall_s (sp _ _ n ps ru fs st s3 (by omega) n1 n6 hru wok) rfl rfl ?_
      rintro r x4 ⟨x, rfl, hx, s4⟩
      walk_at "v"
      refine pcall (rt x hx) rfl rfl ?_
      walk_at "v"
      exact ⟨_, rfl, by rw [List.replicate_succ'], s4.mono (by omega)⟩
-- ev: rfl rfl rfl rfl; 32

end K21

set_option maxHeartbeats 0

namespace K21
open PySem PySem.Spec PyProof.Rows L2 Dn
def top (i : Nat) : Stmt := PySem.Challenge.pw_sharedtools_k21_what_worlds_are.main.body.getD i (.Pass ⟨0, 0, 0, 0⟩)
def rows : Rows := [(d_is_whole, top 3), (d_is_between, top 4), (d_rises, top 5), (d_is_tool, top 6), (d_is_web, top 7), (d_tools_of, top 8), (d_is_wish, top 9), (d_is_rising, top 13), (d_are_wishes, top 14), (d_is_hand_w, top 15), (d_are_stops, top 16), (d_is_world, top 17), (d__law_hand, top 19), (d__law_take, top 20), (d__law_web, top 21), (d__law_wishes, top 22), (d__law_world, top 23), (d__law_whole, top 24), (d__law_is_rising, top 25), (d__law_is_web, top 26), (d__law_are_wishes, top 27), (d__law_is_world, top 28), (d__law_put, top 29), (d__law_bent_web, top 30), (d__law_bent_wishes, top 31), (d__law_bent_stops, top 32), (d__law_spoilt, top 33), (d__law_right, top 34), (d_law, top 35)]
def bl : List Str := ["isinstance", "int", "bool", "all", "zip", "tuple", "len", "list", "sorted", "enumerate", "str", "abs", "range", "min", "max"]
theorem bn : Binds_ rows := .cons (fun _ _ _ _ _ _ us hl => match us, hl with | [_], _ => rfl) (.cons (fun _ _ _ _ _ _ us hl => match us, hl with | [_, _, _], _ => rfl) (.cons (fun _ _ _ _ _ _ us hl => match us, hl with | [_], _ => rfl) (.cons (fun _ _ _ _ _ _ us hl => match us, hl with | [_, _], _ => rfl) (.cons (fun _ _ _ _ _ _ us hl => match us, hl with | [_], _ => rfl) (.cons (fun _ _ _ _ _ _ us hl => match us, hl with | [_, _], _ => rfl) (.cons (fun _ _ _ _ _ _ us hl => match us, hl with | [_, _, _], _ => rfl) (.cons (fun _ _ _ _ _ _ us hl => match us, hl with | [_], _ => rfl) (.cons (fun _ _ _ _ _ _ us hl => match us, hl with | [_, _, _], _ => rfl) (.cons (fun _ _ _ _ _ _ us hl => match us, hl with | [_, _], _ => rfl) (.cons (fun _ _ _ _ _ _ us hl => match us, hl with | [_, _], _ => rfl) (.cons (fun _ _ _ _ _ _ us hl => match us, hl with | [_], _ => rfl) (.cons (fun _ _ _ _ _ _ us hl => match us, hl with | [_], _ => rfl) (.cons (fun _ _ _ _ _ _ us hl => match us, hl with | [_, _], _ => rfl) (.cons (fun _ _ _ _ _ _ us hl => match us, hl with | [_, _, _], _ => rfl) (.cons (fun _ _ _ _ _ _ us hl => match us, hl with | [_, _, _], _ => rfl) (.cons (fun _ _ _ _ _ _ us hl => match us, hl with | [_, _, _, _], _ => rfl) (.cons (fun _ _ _ _ _ _ us hl => match us, hl with | [_, _, _], _ => rfl) (.cons (fun _ _ _ _ _ _ us hl => match us, hl with | [_], _ => rfl) (.cons (fun _ _ _ _ _ _ us hl => match us, hl with | [_], _ => rfl) (.cons (fun _ _ _ _ _ _ us hl => match us, hl with | [_, _, _], _ => rfl) (.cons (fun _ _ _ _ _ _ us hl => match us, hl with | [_], _ => rfl) (.cons (fun _ _ _ _ _ _ us hl => match us, hl with | [_, _, _], _ => rfl) (.cons (fun _ _ _ _ _ _ us hl => match us, hl with | [_, _], _ => rfl) (.cons (fun _ _ _ _ _ _ us hl => match us, hl with | [_, _, _], _ => rfl) (.cons (fun _ _ _ _ _ _ us hl => match us, hl with | [_, _, _], _ => rfl) (.cons (fun _ _ _ _ _ _ us hl => match us, hl with | [_, _], _ => rfl) (.cons (fun _ _ _ _ _ _ us hl => match us, hl with | [_], _ => rfl) (.cons (fun _ _ _ _ _ _ us hl => match us, hl with | [_], _ => rfl) (.nil)))))))))))))))))))))))))))))
def gls : List (Str × GV) := [("MOST_HANDS", (.int 6)), ("MOST_TOOLS", (.int 9)), ("MOST_WISHES", (.int 4)), ("RULES", (.tup ["free", "turned", "rank", "most", "asked"]))]
def fvs : List Str := []
abbrev gl : Str → Option Dn.D := glOf gls
abbrev R : PySem.W.OpenRow := PySem.W.OpenLaw.row PySem.Challenge.rw_sharedtools_k21_what_worlds_are
abbrev hk : PySem.W.Hook := Dn.hookN 4 (rows.fa bl gls) rows.fn (exB gls fvs)
def ob (s : PySem.W.SharedT) : Dn.AlN := Dn.obsN 4 (rows.fa bl gls) rows.fn (exB gls fvs) (HandSHeadRun.getT s)
theorem ob_eq (s : PySem.W.SharedT) : ob s = hk.obs s.abs := Dn.obsN_eq (HandSHeadRun.getT_eq s)
theorem run (w : World) : HandSHeadRun.RunEq R (PySem.W.view R.prog [35]) hk ob 4000 ["MOST_HANDS", "MOST_TOOLS", "is_whole", "is_between", "rises", "is_tool", "is_web", "tools_of", "is_wish", "RULES", "MOST_WISHES", "is_rising", "are_wishes", "is_hand", "are_stops", "is_world", "_law_hand", "_law_take", "_law_web", "_law_wishes", "_law_world", "_law_whole", "_law_is_rising", "_law_is_web", "_law_are_wishes", "_law_is_world", "_law_put", "_law_bent_web", "_law_bent_wishes", "_law_bent_stops", "_law_spoilt", "_law_right"] w := by
  intro os
  kernel_rfl
theorem ok : rows.ok bl gls fvs = true := by decide +kernel
end K21

theorem K21.ev : ∀ ns : List Int, ns.length ≤ 63 → ∃ fuel as, Dn.fnDen K21.rows.T K21.gl fuel 40 "law" [.d (.list (ns.map .int))] = .ok (.d (.bool true), as) := fun ns hl => by
  obtain ⟨_, r, as, e, rfl⟩ := K21.law_fx K21.gl rfl rfl rfl rfl 1000 32 ns hl
  exact ⟨1000, as, e⟩

open PySem PySem.W PySem.Calls PyProof.Rows
theorem PySem.Challenge.cw_sharedtools_k21_what_worlds_are_holds : PySem.Challenge.rw_sharedtools_k21_what_worlds_are.Holds := by
  w_on; o_law
  refine HandSHeadRun.head_any (r := OpenLaw.row PySem.Challenge.rw_sharedtools_k21_what_worlds_are) (q := view (OpenLaw.row PySem.Challenge.rw_sharedtools_k21_what_worlds_are).prog [35]) (H := K21.hk) (ob := K21.ob) (M := 4000) (loose := ["MOST_HANDS", "MOST_TOOLS", "is_whole", "is_between", "rises", "is_tool", "is_web", "tools_of", "is_wish", "RULES", "MOST_WISHES", "is_rising", "are_wishes", "is_hand", "are_stops", "is_world", "_law_hand", "_law_take", "_law_web", "_law_wishes", "_law_world", "_law_whole", "_law_is_rising", "_law_is_web", "_law_are_wishes", "_law_is_world", "_law_put", "_law_bent_web", "_law_bent_wishes", "_law_bent_stops", "_law_spoilt", "_law_right"]) (d := HandSHeadRun.topDef (OpenLaw.row PySem.Challenge.rw_sharedtools_k21_what_worlds_are).prog 35) (kwd := []) K21.ob_eq
    (by kernel_rfl) (fun s => by kernel_rfl) K21.run (by kernel_rfl) (by kernel_rfl) (by kernel_rfl) (by rfl) (by first | assumption | decide +kernel) (by decide +kernel) ⟨rfl, rfl, rfl, rfl, rfl, by decide +kernel⟩ ?hw ?hc
  case hw => w_witness2
  case hc =>
    refine Dn.walk_ofC (l := PySem.Challenge.rw_sharedtools_k21_what_worlds_are) (n := 63) (x := "_law_script") (CX := L2.CX0) rfl (by decide) (by kernel_rfl) ?F (fun _ _ _ _ z => z)
    intro w mg fa h Y G hmg0
    obtain ⟨K, KX, c⟩ := Y
    have hmg : mg ("law" : PySem.Str) = some (.ref fa) := by
      have e : (HandSHeadRun.topDef (OpenLaw.row PySem.Challenge.rw_sharedtools_k21_what_worlds_are).prog 35).name = ("law" : PySem.Str) := by kernel_rfl
      rw [← e]
      exact hmg0
    obtain ⟨fd, hb, hF⟩ := Dn.law_fn (P := (PySem.Challenge.rw_sharedtools_k21_what_worlds_are).prog) (w := w) (k := 39) (gls := K21.gls) (fvs := K21.fvs) (p := (K21.d_law, K21.top 35)) (x := "_law_script") KX G c K21.ok K21.bn (List.mem_of_getElem? (i := 28) rfl) rfl hmg rfl rfl ⟨rfl, by decide, by decide⟩
    exact ⟨K, fd, Dn.spL K K21.rows.T K21.gl 40 "law", KX, hb, fun H a ns hl hO hS => Dn.law_sp (n := 63) K21.ev H a ns hl hO hS, fun base _ _ => hF base⟩

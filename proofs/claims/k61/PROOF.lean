import PyProof.Rows.All
import Wide.All
import OpenK.AllK
import Wide.FinOn
import HandS.Rev
import KE.KTupSum
import HandS.Style
import PyProof.ListCopy
import HandS.Zip
import HandS.ForMost
import HandS.WideBits
import HandS.IsInst
import HandS.Exc
import HandS.ExcOwn
import HandS.TryOnly
import HandS.WordsExc
import HandS.Defaults
import HandS.Iter
import HandS.TupAny
import HandS.Conv
import HandS.SetFor
import HandS.ExcIs
import HandS.Deep
import HandS.Text
import HandS.TupMul
import HandS.More
import HandS.WrittenGet
import PyProof.ReprReads
import HandS.Lambda
import HandS.CallSlots
import HandS.RaiseMore
import HandS.EndBits
import PyProof.ReprRoads
import PyProof.ReprLen
import HandS.Steps
import HandS.Head0
import HandS.Head1
import HandS.Head2
import HandS.HeadEnd
import HandS.HeadHook1
import HandS.HeadHook2
import HandS.HeadHook3
import HandS.HeadHook4
import PyProof.Rows.BitMore
import PySem.Challenge.RW_nearhall_k61_gaps_of_terms
set_option Elab.async false
set_option linter.all false
set_option maxRecDepth 100000
set_option maxHeartbeats 4000000
/-! ZL1: list(reversed(list)). -/
namespace ZL
open PySem PySem.Spec PyProof.Rows RT
section
variable {prog : Program} {w : World} {A : Around} {E : Value → Shared → Prop} {s : Shared}
/-- a new list takes all of a list's backward walk -/
theorem ext_rev {S0 j m : Addr} {xs : Array Value} {c0 : Nat} {res : Value} {R : Result → Shared → Prop} (hd : A.handled = none) (ij : s.heap.IsRevIter j m ((xs.size : Int) - 1)) (im : s.heap.IsList m xs) (nj : m ≠ j) (zs : xs.size ≤ sizeLine)
    (gS : s.heap.get? S0 = some { cls := .type "list", data := .seq #[] c0 }) (n1 : S0 ≠ j) (n2 : S0 ≠ m)
    (k : ∀ (h' : Heap) (tk : Nat) (acc : Array Value) (c1 : Nat), (∀ b o, b ≠ j → b ≠ S0 → s.heap.get? b = some o → h'.get? b = some o) → h'.get? S0 = some { cls := .type "list", data := .seq acc c1 } →
      ItemsOf (fun i v => xs[xs.size - 1 - i]? = some v) acc xs.size → R (.ok (.ret res)) { s with heap := h', toks := tk }) :
    wpAny (model prog w) A.in1 (Builtin.List.listExtendWith (.ref S0) (.ref j) res)
      (fun fin s' => match fin with | .done f => R (.ok f) s' | .again c' => c'.quiet = true ∧ codeAny (model prog w) A c' R s') (fun e s' => R (.error e) s') s := by
  have wk := (Walks.listRev (prog := prog) (w := w) (A := A.in1) hd j m nj xs).toS
  have nS : S0 ∉ [j, m] := by
    simp only [List.mem_cons, List.not_mem_nil, or_false, not_or]; exact ⟨n1, n2⟩
  have tj : s.TypeIs (.ref j) "list_reverseiterator" := ij.typeIs
  have f1 : Builtin.List.listSameRef (.ref S0) (.ref j) = false := by simp [Builtin.List.listSameRef, n1]
  unfold Builtin.List.listExtendWith
  refine wpAny_bind (wpAny_typeOf tj ?_)
  rw [if_neg (show ¬ _ from by rw [f1]; decide)]
  refine wpAny_bind (wpAny_pyIter_revIter ij ?_)
  refine wpAny_bind (wpAny_holding ?_)
  unfold Builtin.List.listLengthHint
  refine wpAny_bind (wpAny_specialOf tj nolen_lri ?_)
  show wpAny _ A.in1 (specialOf (Value.ref j) (Str.ofString "__length_hint__") >>= _) _ _ _
  refine wpAny_bind (wpAny_specialOf tj hint_lri ?_)
  generalize hi0 : ("list_reverseiterator.__length_hint__" : String) = i0
  wp_delta
  rw [show splitId i0 = some ("list_reverseiterator", "__length_hint__") from by subst hi0; decide +kernel]
  subst hi0
  refine wpAny_bind (wpAny_isInstance (b := true) tj (by rw [isSubtype_type]; kernel_rfl) ?_)
  refine wpAny_pure ?_
  rw [if_neg (show ¬ _ from by decide)]
  have z0 : ((xs.size : Nat) : Int) - 1 - ((0 : Nat) : Int) = (xs.size : Int) - 1 := by omega
  refine wpAny_pure ⟨plainId_quiet F.plain_extend_loop _, codeAny_extend_loopS wk zs _ nS _ xs.size 0 _ _ _ rfl (Nat.zero_le _) ⟨Nat.zero_le _, by rw [z0]; exact ij, im⟩ gS (ItemsOf.nil _) fun s1 ac1 c1 mv gS1 it1 => ?_⟩
  rw [Moved.eq_with mv]
  exact k s1.heap s1.toks ac1 c1 (fun b o nb nS' e => mv.heap b o (fun hm => by
    rcases List.mem_cons.mp hm with e' | hm
    · exact nS' e'
    · exact nb (List.mem_singleton.mp hm)) e) gS1 it1
/-- list(walk) -/
theorem call_list_rev {j m : Addr} {xs : Array Value} {Q : Value → Shared → Prop} (hd : A.handled = none) (ij : s.heap.IsRevIter j m ((xs.size : Int) - 1)) (im : s.heap.IsList m xs) (nj : m ≠ j) (zs : xs.size ≤ sizeLine)
    (k : ∀ (h' : Heap) (tk : Nat) (acc : Array Value) (c1 : Nat), (∀ b o, b ≠ j → s.heap.get? b = some o → h'.get? b = some o) → h'.get? s.heap.objs.size = some { cls := .type "list", data := .seq acc c1 } →
      ItemsOf (fun i v => xs[xs.size - 1 - i]? = some v) acc xs.size → Q (.ref s.heap.objs.size) { s with heap := h', toks := tk }) :
    wpAny (model prog w) A (call (.type "list") [.ref j]) Q E s := by
  obtain ⟨oj, hj, _⟩ := id ij
  obtain ⟨om, hm, _⟩ := id im
  have nj1 : s.heap.objs.size ≠ j := Nat.ne_of_gt (Heap.lt_size hj)
  have nm1 : s.heap.objs.size ≠ m := Nat.ne_of_gt (Heap.lt_size hm)
  refine callType_codes (Q₁ := fun ob t1 => ob = .ref s.heap.objs.size ∧ t1 = { s with heap := s.heap.push { cls := .type "list", data := .seq #[] } }) F.called_list (F.typeCall_list_1 _) F.entry_list_init (code_list_new _ ⟨rfl, rfl⟩) fun ob t1 ⟨e1, e2⟩ => ?_
  subst e1 e2
  have g0 : (s.heap.push { cls := .type "list", data := .seq #[] }).get? s.heap.objs.size = some { cls := .type "list", data := .seq #[] } := Heap.get?_push_size _ rfl
  refine ⟨⟨_, g0, rfl⟩, F.args_list_init_2 _ _, ?_⟩
  show wpAny _ A.in1.in1 (do let old ← Builtin.List.listItems (.ref s.heap.objs.size); Builtin.List.listUpdate (.ref s.heap.objs.size) (fun _ => #[]); letGo old.toList.reverse; Builtin.List.listExtendWith (.ref s.heap.objs.size) (.ref j) .none) _ _ _
  refine wpAny_bind ?_
  unfold Builtin.List.listItems
  refine wpAny_bind (wpAny_seqItems g0 rfl (wpAny_pure ?_))
  show wpAny _ A.in1.in1 (updateSeq s.heap.objs.size (fun _ => #[]) >>= fun _ => letGo (#[] : Array Value).toList.reverse >>= fun _ => Builtin.List.listExtendWith (.ref s.heap.objs.size) (.ref j) .none) _ _ _
  refine wpAny_bind (wpAny_updateSeq g0 rfl ?_)
  have g1 := Heap.get?_update_self (Obj.mapSeq (fun _ => (#[] : Array Value))) g0 rfl
  have old : ∀ b o, s.heap.get? b = some o → ((s.heap.push { cls := .type "list", data := .seq #[] }).update s.heap.objs.size (Obj.mapSeq fun _ => #[])).get? b = some o := fun b o e =>
    (Heap.get?_update_other _ _ (fun z => Nat.lt_irrefl _ (z ▸ Heap.lt_size e))).trans (Heap.get?_push_of_some _ e)
  refine wpAny_bind (wpAny_letGo ?_)
  refine ext_rev (A := A.in1) (s := { s with heap := (s.heap.push { cls := .type "list", data := .seq #[] }).update s.heap.objs.size (Obj.mapSeq fun _ => #[]) }) hd (ij.at fun o e => old _ _ e) (im.at fun o e => old _ _ e) nj zs g1 nj1 nm1 fun h' tk acc c1 hk gS it => ?_
  exact ⟨rfl, k h' tk acc c1 (fun b o nb e => hk b o nb (fun z => Nat.lt_irrefl _ (z ▸ Heap.lt_size e)) (old b o e)) gS it⟩
end
end ZL
namespace ZL
open PySem PySem.Spec PyProof.Rows L2 RT
section
variable {X : Cx}
/-- list(reversed(xs)) -/
def tLstRev (K : PySem.W.Frag) (te : TE) : TE := fun σ H Q => te σ H fun v H1 => ∃ (a : Addr) (xs : List V), v = .ref a ∧ SqL K H1 a xs ∧ ∀ q, H1 q = none → Q (.ref q) (upd H1 q (.lst xs.reverse))
theorem pe_lstRev {e : Expr} {te : TE} {p1 p2 q1 q2 : Pos} (calm : X.calm = true) (g1 : Gl X "list") (m1 : X.mg "list" = none) (g2 : Gl X "reversed") (m2 : X.mg "reversed" = none) (he : PE X e te)
    (st1 : starEach [e] X.env = (false, eval e X.env) :: starEach [] X.env)
    (st2 : starEach [.Call (.Name "reversed" p2) [e] [] q2] X.env = (false, eval (.Call (.Name "reversed" p2) [e] [] q2) X.env) :: starEach [] X.env) :
    PE X (.Call (.Name "list" p1) [.Call (.Name "reversed" p2) [e] [] q2] [] q1) (tLstRev X.K te) := by
  refine ⟨fun pins s σ H Q I h => ?_⟩
  refine Call_ (ld_blt I g1 m1 (by rfl) (PyProof.Rows.callWith_type1 (args_cons (Call_ (ld_blt I g2 m2 PyProof.Rows.boot_reversed (PyProof.Rows.callWith_type1 (args_cons (thn (he.run pins s σ H _ I h) fun u t1 ⟨v, H1, J1, rv, z⟩ => args_nil ?_) st1) st1 rfl))) st2) st2 rfl))
  obtain ⟨a, xs, ev, hq, z⟩ := z
  subst ev
  obtain rfl : u = Value.ref a := rv
  obtain ⟨its, rs, pl, hz⟩ := J1.list hq
  refine call_reversed_list pl.isList (args_nil ?_)
  have keep : ∀ b o, t1.heap.get? b = some o → (t1.heap.push (revObj a ((its.toArray.size : Int) - 1))).get? b = some o := fun b o e => Heap.get?_push_of_some _ e
  have J2 : Inv X pins σ H1 { t1 with heap := t1.heap.push (revObj a ((its.toArray.size : Int) - 1)) } := J1.kept (t' := t1.toks) keep
  have fp := J1.fpOk (H' := H1) (b := t1.heap.objs.size) (Nat.le_refl _) (J1.hok.fresh (Nat.le_refl _))
  have il := pl.isList
  obtain ⟨ol, hol, _⟩ := id il
  have na : a ≠ t1.heap.objs.size := Nat.ne_of_lt (Heap.lt_size hol)
  have nz : its.toArray.size ≤ sizeLine := by rw [List.size_toArray, ← rs.length]; exact hz
  refine call_list_rev (s := { t1 with heap := t1.heap.push (revObj a ((its.toArray.size : Int) - 1)) }) (J1.ok.hd calm) ⟨_, Heap.get?_push_size _ rfl, rfl, rfl⟩ (il.push _) na nz fun h' tk acc c1 hk gN it => ?_
  have J3 := J2.turnedNew (t' := tk) (h' := h') (ch := [t1.heap.objs.size]) (T := (t1.heap.push (revObj a ((its.toArray.size : Int) - 1))).objs.size) (ob := .lst xs.reverse) (fun b o nb e => hk b o (fun z => nb (by rw [z]; exact List.mem_singleton.mpr rfl)) e)
    (fun b hb => by rw [List.mem_singleton.mp hb]; exact fp) (Nat.le_refl _) ⟨by rw [List.length_reverse]; exact hz, acc.toList, c1, vals_rev rs it, by rw [Array.toArray_toList]; exact gN⟩
  exact ⟨.ref _, _, J3, rfl, z _ (J2.hok.fresh (Nat.le_refl _))⟩
end
end ZL
namespace ZL
open PySem PySem.Spec PyProof.Rows L2 HT
section
variable {prog : Program} {w : World} {A : Around} {E : Value → Shared → Prop} {s : Shared}
theorem adj_rev (n : Nat) : Builtin.Slice.sliceAdjust none none (-1) (n : Int) = ((n : Int) - 1, -1) := by
  simp [Builtin.Slice.sliceAdjust]
theorem plc_rev (n : Nat) : Builtin.Slice.slicePlaces ((n : Int) - 1) (-1) (-1) = n := by
  unfold Builtin.Slice.slicePlaces
  simp
  split <;> omega
theorem applied_rev {sl : Addr} {vl vu vs : Value} {n : Nat} {Q : Int × Int × Nat → Shared → Prop} (hs : s.heap.IsSliceOf sl vl vu vs) (pl : IsPart vl none) (pu : IsPart vu none) (ps : IsPart vs (some (-1)))
    (h : Q ((n : Int) - 1, -1, n) s) : wpAny (model prog w) A (Builtin.Slice.sliceApplied (.ref sl) (pure (n : Int))) Q E s := by
  obtain ⟨o, ho, hk, hf⟩ := id hs
  unfold Builtin.Slice.sliceApplied Builtin.Slice.sliceFields
  refine wpAny_bind (wpAny_bind (wpAny_field ho hf (x := vl) rfl (wpAny_bind (wpAny_field ho hf (x := vu) rfl (wpAny_bind (wpAny_field ho hf (x := vs) rfl (wpAny_pure ?_)))))))
  refine wpAny_bind (slicePart_ ps ?_)
  show wpAny _ _ (if ((-1 : Int) == 0) = true then _ else _) _ _ s
  rw [if_neg (show ¬ _ from by decide)]
  refine wpAny_bind (slicePart_ pl (wpAny_bind (slicePart_ pu (wpAny_bind (wpAny_pure ?_)))))
  show wpAny _ _ (match Builtin.Slice.sliceAdjust none none (-1) (n : Int) with | (lo, hi) => pure (lo, (-1 : Int), Builtin.Slice.slicePlaces lo hi (-1))) _ _ s
  rw [adj_rev]
  show wpAny _ _ (pure ((n : Int) - 1, (-1 : Int), Builtin.Slice.slicePlaces ((n : Int) - 1) (-1) (-1))) _ _ s
  rw [plc_rev]
  exact wpAny_pure h
theorem pick_rev (xs : Array Value) : ((List.range xs.size).filterMap fun (m : Nat) => xs[(((xs.size : Int) - 1) + (m : Int) * (-1)).toNat]?) = xs.toList.reverse := by
  have key : ∀ l : List Value, ((List.range l.length).filterMap fun (m : Nat) => l[(((l.length : Int) - 1) + (m : Int) * (-1)).toNat]?) = l.reverse := by
    intro l
    have e : ∀ k, k ≤ l.length → ((List.range k).filterMap fun (m : Nat) => l[(((l.length : Int) - 1) + (m : Int) * (-1)).toNat]?) = l.reverse.take k := by
      intro k
      induction k with
      | zero => intro _; simp
      | succ k ih =>
        intro hk
        rw [List.range_succ, List.filterMap_append, ih (by omega), List.take_add_one]
        congr 1
        have h1 : (((l.length : Int) - 1) + (k : Int) * (-1)).toNat = l.length - 1 - k := by omega
        rw [List.filterMap_cons, h1, List.getElem?_reverse (by omega)]
        cases l[l.length - 1 - k]? <;> rfl
    rw [e _ (Nat.le_refl _)]
    rw [List.take_of_length_le (by simp)]
  have := key xs.toList
  simpa using this
theorem getItem_tup_rev {t sl : Addr} {xs : Array Value} {vl vu vs : Value} {Q : Value → Shared → Prop} (ht : IsTup s.heap t xs) (hs : s.heap.IsSliceOf sl vl vu vs) (pl : IsPart vl none) (pu : IsPart vu none) (ps : IsPart vs (some (-1)))
    (h : Q (.ref s.heap.objs.size) { s with heap := s.heap.push { cls := .type "tuple", data := .seq xs.toList.reverse.toArray } }) (hz : xs.size ≤ sizeLine) : wpAny (model prog w) A (getItem (.ref t) (.ref sl)) Q E s := by
  have ok : sizeOk (.seq xs.toList.reverse.toArray) := by
    show xs.toList.reverse.toArray.size ≤ sizeLine
    simpa using hz
  obtain ⟨o, ho, hk, hf⟩ := id hs
  have tS : s.TypeIs (.ref sl) "slice" := ⟨o, ho, hk⟩
  unfold getItem
  try with_reducible refine wpAny_holding ?_
  first | refine wpAny_bind (wpAny_pure ?_) | skip
  refine wpAny_bind (wpAny_sequenceKey ht.typeIs (show _ from by decide) ?_)
  refine wpAny_bind (wpAny_callSpecial?_slot (name := Str.ofString "__getitem__") ht.typeIs PyProof.Rows.slot_tuple_getitem (wpAny_call_entry PyProof.Rows.slot_tuple_getitem ht.typeIs entry_tuple_getitem ?_ (args_tuple_getitem _ _)))
  show wpAny _ _ (Builtin.Tuple.tupleItemsOf (.ref t) >>= _) _ _ s
  refine wpAny_bind (tupleItemsOf_ ht ?_)
  refine wpAny_bind (wpAny_typeOf tS ?_)
  rw [if_pos (show _ from by decide)]
  refine wpAny_bind (applied_rev hs pl pu ps ?_)
  show wpAny _ _ (if (((xs.size : Int) - 1) == 0 && (-1 : Int) == 1 && xs.size == xs.size) = true then _ else _) _ _ s
  rw [if_neg (show ¬ _ from by rw [show ((-1 : Int) == 1) = false from by decide, Bool.and_false, Bool.false_and]; exact Bool.false_ne_true), pick_rev]
  first
    | exact wpAny_bind (m := Builtin.Tuple.tupleExact _) (wpAny_newObj_type (wpAny_pure ⟨_, rfl, wpAny_pure h⟩) ok)
    | exact wpAny_bind (wpAny_bind (m := Builtin.Tuple.tupleExact _) (wpAny_newObj_type (wpAny_pure (wpAny_pure ⟨_, rfl, wpAny_pure h⟩)) ok))
    | exact wpAny_bind (wpAny_bind (m := Builtin.Tuple.tupleExact _) (wpAny_newObj_type (wpAny_pure ⟨_, rfl, wpAny_pure h⟩) ok))
    | exact wpAny_bind (m := Builtin.Tuple.tupleExact _) (wpAny_newObj_type (wpAny_bind (wpAny_pure (wpAny_pure ⟨_, rfl, wpAny_pure h⟩))) ok)
end
section
variable {X : Cx}
/-- x[::-1] of a list or a tuple -/
def tRevA (K : PySem.W.Frag) (te : TE) : TE := fun σ H Q => te σ H fun x H1 => ∃ a xs, x = .ref a ∧ ((SqL K H1 a xs ∧ ∀ p, H1 p = none → Q (.ref p) (upd H1 p (.lst xs.reverse))) ∨ (SqT K H1 a xs ∧ ∀ p, H1 p = none → Q (.ref p) (upd H1 p (.tup xs.reverse))))
theorem pe_revA {e : Expr} {te : TE} {k : Nat} {p1 p2 p3 pos : Pos} (he : PE X e te) : PE X (.Subscript e (.Slice none none (some (.UnaryOp .USub (.Constant (.int 1) k p1) p2)) p3) pos) (tRevA X.K te) := by
  refine ⟨fun pins s σ H Q I h => ?_⟩
  refine Subscript_ (thn (he.run pins s σ H _ I h) fun v t1 ⟨x, H1, J1, rx, a, xs, ex, hz⟩ => ?_)
  subst ex
  cases rx
  have pstep : PO X (some (.UnaryOp .USub (.Constant (.int 1) k p1) p2)) (tPart (tUn (rU fun i => .int (-i)) (tC (.int 1)))) := po_some (pe_un un_neg pe_int)
  refine wpAny_Slice (thn (po_none.run pins t1 σ H1 (fun o G => o = none ∧ G = H1) J1 ⟨rfl, rfl⟩) fun vl t2 ⟨l, H2, J2, pl, el, e2⟩ => ?_)
  subst el e2
  refine thn (po_none.run pins t2 σ H2 (fun o G => o = none ∧ G = H2) J2 ⟨rfl, rfl⟩) fun vu t3 ⟨u, H3, J3, pu, eu, e3⟩ => ?_
  subst eu e3
  refine thn (pstep.run pins t3 σ H3 (fun o G => o = some (-1) ∧ G = H3) J3 ⟨1, rfl, -1, rfl, rfl, rfl⟩) fun vs t4 ⟨o, H4, J4, ps, eo, e4⟩ => ?_
  subst eo e4
  have J5 : Inv X pins σ H4 { t4 with heap := t4.heap.push { cls := .type "slice", data := .fields #[vl, vu, vs] } } := J4.kept (t' := t4.toks) fun b ob q => Heap.get?_push_of_some _ q
  rcases hz with ⟨hx, q⟩ | ⟨hx, q⟩
  · obtain ⟨its, r, ht, hz⟩ := J5.list hx
    have hlen := r.length
    show wpAny (model X.prog X.w) X.A (subscriptTail e (.Slice none none (some (.UnaryOp .USub (.Constant (.int 1) k p1) p2)) p3) (.ref a) (.ref t4.heap.objs.size)) (EP X pins σ Q) X.xe { t4 with heap := t4.heap.push { cls := .type "slice", data := .fields #[vl, vu, vs] } }
    refine tail_any (ops := [.ref a, .ref t4.heap.objs.size]) ht.isList.typeIs (PySem.slot_list_getitem.lookup) ?_ (by with_unfolding_all rfl)
    refine wpAny_getItem_list_slice ht.isList (Heap.IsSliceOf.new _ vl vu vs) pl pu ps (show _ from by decide) ?_ (by rw [List.size_toArray]; omega)
    rw [PySem.W.krv_pick]
    refine ⟨.ref _, _, J5.laid (t' := t4.toks) (o := .lst xs.reverse) (fun b ob q => Heap.get?_push_of_some _ q) (Nat.le_refl _) ⟨by rw [List.length_reverse]; exact hz, _, 0, r.reverse, Heap.get?_push_size _ rfl⟩, rfl, q _ (J5.hok.fresh (Nat.le_refl _))⟩
  · obtain ⟨its, r, ht, hz⟩ := J5.tuple hx
    have hlen := r.length
    show wpAny (model X.prog X.w) X.A (subscriptTail e (.Slice none none (some (.UnaryOp .USub (.Constant (.int 1) k p1) p2)) p3) (.ref a) (.ref t4.heap.objs.size)) (EP X pins σ Q) X.xe { t4 with heap := t4.heap.push { cls := .type "slice", data := .fields #[vl, vu, vs] } }
    refine tail_any (ops := [.ref a, .ref t4.heap.objs.size]) ht.typeIs (PyProof.Rows.slot_tuple_getitem.lookup) ?_ (by with_unfolding_all rfl)
    refine getItem_tup_rev ht (Heap.IsSliceOf.new _ vl vu vs) pl pu ps ?_ (by rw [List.size_toArray]; omega)
    refine ⟨.ref _, _, J5.laid (t' := t4.toks) (o := .tup xs.reverse) (fun b ob q => Heap.get?_push_of_some _ q) (Nat.le_refl _) ⟨by rw [List.length_reverse]; exact hz, _, r.reverse, IsTup.new _ _⟩, rfl, q _ (J5.hok.fresh (Nat.le_refl _))⟩
end
/-- sum(xs) of a list or a tuple of whole numbers -/
def rSumT (K : PySem.W.Frag) : List V → Hp → VK → Prop := fun vs H Q => ∃ (a : Addr) (ns : List Int), vs = [V.ref a] ∧ (SqL K H a (ns.map V.int) ∨ SqT K H a (ns.map V.int)) ∧ Q (.int ns.sum) H
theorem cr_sumT {X : Cx} (hc : X.calm = true) : CallR X (.builtin "sum") (rSumT X.K) := by
  intro pins s σ H vs us Q I r h
  obtain ⟨a, ns, rfl, hs, q⟩ := h
  rcases hs with hs | hs
  · exact cr_sum hc pins s σ H _ us Q I r ⟨a, ns, rfl, hs, q⟩
  · obtain ⟨its, rv, hl, _⟩ := I.tuple hs
    rw [Vals.ref1 r]
    obtain ⟨xs, hx⟩ := rv.ints.allInts.items
    have hn : numsOf its.toArray.toList = ns := by rw [show its.toArray.toList = its from rfl, rv.ints.numsOf]
    rw [hx] at hl hn
    rw [nums_intItems] at hn
    refine PySem.W.ktm_sumG (xs := xs) (I.ok.hd hc) ?_ fun h' tk t' hk => ?_
    · exact hl
    · have q2 : preSum (numAt xs) xs.size = ns.sum := by rw [preSum_eq, List.take_of_length_le (by simp), hn]
      rw [q2]
      exact ⟨.int _, H, I.kept hk, ⟨_, rfl⟩, q⟩
section
variable {prog : Program} {w : World} {A : Around} {E : Value → Shared → Prop} {s : Shared} {l : Addr} {xs : Array (Int × Tok)}
theorem max_intTuple {Q : Value → Shared → Prop} (hh : A.handled = none) (hl : s.heap.IsTuple l (intItems xs)) (hne : 0 < xs.size)
    (h : ∀ v h' tk, (intItems xs)[argBest (fun i j => decide (numAt xs i > numAt xs j)) (xs.size - 1)]? = some v → (∀ b o, s.heap.get? b = some o → h'.get? b = some o) → Q v { s with heap := h', toks := tk }) :
    wpAny (model prog w) A (call (.builtin "max") [.ref l]) Q E s := by
  have hlt : l < s.heap.objs.size := by obtain ⟨_, e, _⟩ := hl; exact Heap.lt_size e
  refine call_max_walk (wpAny_pyIter_tuple hl ?_)
  refine ⟨_, [_, l], [_], _, _, _, _, rfl, Walks.tuple (A := A.in1) hh _ l (Nat.ne_of_lt hlt) (intItems xs), ⟨⟨_, Heap.get?_push_size _ rfl, rfl, rfl⟩, hl.push _⟩, fun c hc => ?_, by simpa [intItems] using hne, CmpOf.ints_gt (numAt xs) (fun _ _ => intItems_at), fun v h' tk hP hk => ?_⟩
  · show c < (s.heap.push _).objs.size
    rw [Heap.size_push]
    rcases List.mem_cons.mp hc with rfl | hc
    · exact Nat.lt_succ_self _
    · rcases List.mem_cons.mp hc with rfl | hc
      · exact Nat.lt_succ_of_lt hlt
      · cases hc
  · refine h v h' tk (by simpa [intItems] using hP) fun c o e => ?_
    refine hk c o (fun hm => ?_) (Heap.get?_push_of_some _ e)
    rcases List.mem_cons.mp hm with e1 | hm
    · have := Heap.lt_size e; rw [e1] at this; exact Nat.lt_irrefl _ this
    · cases hm
open L2 in
theorem max_rawT {its : List Value} {ns : List Int} {Q : Value → Shared → Prop} (hh : A.handled = none) (hl : s.heap.IsTuple l its.toArray) (hi : IntsAre its ns) (hne : 0 < ns.length)
    (h : ∀ h' tk M t', (∀ b o, s.heap.get? b = some o → h'.get? b = some o) → M ∈ ns → (∀ a, a ∈ ns → a ≤ M) → Q (.int M t') { s with heap := h', toks := tk }) : wpAny (model prog w) A (call (.builtin "max") [.ref l]) Q E s := by
  obtain ⟨xs, e⟩ := hi.allInts.items
  have hn : numsOf (intItems xs).toList = ns := by rw [← e]; exact hi.numsOf
  rw [nums_intItems] at hn
  subst hn
  rw [e] at hl
  have hsz : 0 < xs.size := by simpa using hne
  refine max_intTuple hh hl hsz fun v h' tk hv hk => ?_
  obtain ⟨t, rfl⟩ := intItems_at hv
  obtain ⟨h1, h2⟩ := argBest_gt (numAt xs) (xs.size - 1)
  refine h h' tk _ t hk ?_ fun a ha => ?_
  · rw [numAt_eq]; exact PySem.getD_mem (by rw [List.length_map, Array.length_toList]; omega)
  · obtain ⟨j, hj, rfl⟩ := mem_getD ha
    rw [List.length_map, Array.length_toList] at hj
    rw [← numAt_eq]; exact h2 j (by omega)
open L2 in
/-- max(t) of a tuple of whole numbers -/
def rMaxT (K : PySem.W.Frag) : List V → Hp → VK → Prop := fun vs H Q => ∃ (a : Addr) (ns : List Int), vs = [V.ref a] ∧ SqT K H a (ns.map V.int) ∧ 0 < ns.length ∧ ∀ m, m ∈ ns → (∀ y, y ∈ ns → y ≤ m) → Q (.int m) H
open L2 in
theorem cr_maxT {X : Cx} (hc : X.calm = true) : CallR X (.builtin "max") (rMaxT X.K) := by
  intro pins s σ H vs us Q I r h
  obtain ⟨a, ns, rfl, hs, hne, q⟩ := h
  obtain ⟨its, rv, hl, _⟩ := I.tuple hs
  rw [Vals.ref1 r]
  exact max_rawT (I.ok.hd hc) hl rv.ints hne fun h' tk m t' hk h1 h2 => ⟨.int _, H, I.kept hk, ⟨_, rfl⟩, q m h1 h2⟩
end
end ZL

set_option Elab.async false
set_option linter.all false
set_option maxRecDepth 100000
set_option maxHeartbeats 4000000
/-! ZL2: zip of a text and a tuple. -/
namespace ZL
open PySem PySem.Spec PyProof.Rows RZ L2
section
variable {prog : Program} {w : World} {A : Around} {E : Value → Shared → Prop} {s : Shared}
theorem sit_at {h h' : Heap} {a : Addr} {ty : String} {x : Str} {t : Tok} {i : Nat} (y : h.IsStrIter a ty x t i) (k : ∀ o, h.get? a = some o → h'.get? a = some o) : h'.IsStrIter a ty x t i :=
  let ⟨o, ho, r⟩ := y; ⟨o, k o ho, r⟩
def sTy (x : Str) : Prop := strIterType x = "str_ascii_iterator" ∨ strIterType x = "str_iterator"
theorem sTy_ (x : Str) : sTy x := by
  unfold sTy strIterType
  split
  · exact .inl rfl
  · exact .inr rfl
theorem nx_item {it : Addr} {x : Str} {t : Tok} {i c : Nat} {Q : Value → Shared → Prop} (hit : s.heap.IsStrIter it (strIterType x) x t i) (hx : x.cps[i]? = some c)
    (hQ : ∀ h', h'.IsStrIter it (strIterType x) x t (i + 1) → Heap.SameBut it s.heap h' → Q (.str ⟨#[c]⟩ s.toks) { s with heap := h', toks := s.toks + 1 }) : wpAny (model prog w) A (Builtin.SmallTypes.nextOf (.ref it)) Q E s := by
  rcases sTy_ x with e | e
  · rw [e] at hit hQ; exact wpAny_nextOf_ascii_item hit hx hQ
  · rw [e] at hit hQ; exact wpAny_nextOf_wide_item hit hx hQ
theorem nx_end {it : Addr} {x : Str} {t : Tok} {i : Nat} {Q : Value → Shared → Prop} (hh : A.handled = none) (hit : s.heap.IsStrIter it (strIterType x) x t i) (hx : x.cps[i]? = none)
    (hE : ∀ h' e, Heap.ExtBut it s.heap h' → (∃ o, h'.get? e = some o ∧ o.cls = .type "StopIteration") → E (.ref e) { s with heap := h' }) : wpAny (model prog w) A (Builtin.SmallTypes.nextOf (.ref it)) Q E s := by
  rcases sTy_ x with e | e
  · rw [e] at hit; exact wpAny_nextOf_ascii_end hh hit hx hE
  · rw [e] at hit; exact wpAny_nextOf_wide_end hh hit hx hE
/-- one turn of a walk along a text and a tuple -/
theorem zs_item {z TI TO i1 i2 l : Addr} {t : Tok} {k c : Nat} {tx : Str} {ys : Array Value} {y a b : Value} {Q : Value → Shared → Prop} (D : ZipApart z TI TO i1 i2 l l)
    (hz : IsZip s.heap z TI TO .none) (hTI : IsPair s.heap TI (.ref i1) (.ref i2)) (hTO : IsPair s.heap TO a b)
    (h1 : s.heap.IsStrIter i1 (strIterType tx) tx t k) (h2 : s.heap.IsTupleIter i2 l k) (hl : s.heap.IsTuple l ys) (hx : tx.cps[k]? = some c) (hy : ys[k]? = some y)
    (hQ : ∀ h', IsZip h' z TI TO (rawInt s.heap.objs.size) → IsPair h' TO (.str ⟨#[c]⟩ s.toks) y → h'.IsStrIter i1 (strIterType tx) tx t (k + 1) → h'.IsTupleIter i2 l (k + 1) → IsPair h' s.heap.objs.size (.str ⟨#[c]⟩ s.toks) y → h'.objs.size = s.heap.objs.size + 1 →
      (∀ c o, c ≠ z → c ≠ TO → c ≠ i1 → c ≠ i2 → s.heap.get? c = some o → h'.get? c = some o) → Q (.ref s.heap.objs.size) { s with heap := h', toks := s.toks + 1 }) :
    wpAny (model prog w) A (Builtin.«zip.__next__» ⟨[.ref z], []⟩) (fun fin s' => ∃ v, fin = .done (.ret v) ∧ Q v s') E s := by
  show wpAny _ _ (field (.ref z) 2 >>= _) _ _ _
  refine wpAny_bind (wpAny_field hz rfl (x := .bool false) rfl ?_)
  show wpAny _ _ (field (.ref z) 3 >>= _) _ _ _
  refine wpAny_bind (wpAny_field hz rfl (x := .ref TI) rfl ?_)
  refine wpAny_bind (wpAny_seqItems hTI rfl ?_)
  show wpAny _ _ (Builtin.SmallTypes.ownedTupleIsFree (.ref z) >>= _) _ _ _
  refine wpAny_bind ?_
  unfold Builtin.SmallTypes.ownedTupleIsFree
  refine wpAny_bind (wpAny_field hz rfl (x := .none) rfl (wpAny_pure ?_))
  simp only [if_true]
  refine wpAny_bind (wpAny_rule ?_)
  refine wpAny_bind (wpAny_field hz rfl (x := .ref TO) rfl ?_)
  refine wpAny_bind (wpAny_setField_rec hz (by simp) fun ha hza hsa => ?_)
  replace hza : IsZip ha z TI TO .ellipsis := hza
  refine wpAny_bind ?_
  simp only [List.zipIdx_cons, List.zipIdx_nil, List.forIn_cons, List.forIn_nil]
  refine wpAny_bind (wpAny_bind (wpAny_onRaise ?_))
  show wpAny _ _ (Builtin.SmallTypes.nextOf (.ref i1) >>= _) _ _ _
  refine wpAny_bind (nx_item (h1.extBut hsa.extBut D.i1z) hx fun hb h1b hsb => wpAny_pure ?_)
  have hTOb : IsPair hb TO a b := hsb.extBut _ _ D.TOi1 (hsa.extBut _ _ D.TOz hTO)
  refine wpAny_bind (wpAny_seqItems hTOb rfl ?_)
  refine wpAny_bind (wpAny_updateSeq_pair hTOb fun hc hTOc hsc => ?_)
  replace hTOc : IsPair hc TO (.str ⟨#[c]⟩ s.toks) b := hTOc
  refine wpAny_bind (wpAny_letGo (wpAny_pure ?_))
  refine wpAny_bind (wpAny_bind (wpAny_onRaise ?_))
  show wpAny _ _ (Builtin.SmallTypes.nextOf (.ref i2) >>= _) _ _ _
  refine wpAny_bind (nextOf_tuple_item (((h2.extBut hsa.extBut D.i2z).extBut hsb.extBut D.i12.symm).extBut hsc.extBut D.TOi2.symm)
    (((hl.extBut hsa.extBut D.l2z).extBut hsb.extBut D.l2i1).extBut hsc.extBut D.l2TO) hy fun hd h2d hsd => wpAny_pure ?_)
  have hTOd : IsPair hd TO (.str ⟨#[c]⟩ s.toks) b := hsd.extBut _ _ D.TOi2 hTOc
  refine wpAny_bind (wpAny_seqItems hTOd rfl ?_)
  refine wpAny_bind (wpAny_updateSeq_pair hTOd fun he hTOe hse => ?_)
  replace hTOe : IsPair he TO (.str ⟨#[c]⟩ s.toks) y := hTOe
  refine wpAny_bind (wpAny_letGo (wpAny_pure (wpAny_pure ?_)))
  refine wpAny_bind (wpAny_seqItems hTOe rfl ?_)
  refine wpAny_bind (wpAny_newTuple ?_)
  have hsz : he.objs.size = s.heap.objs.size := by rw [hse.1, hsd.1, hsc.1, hsb.1, hsa.1]
  have hze : IsZip he z TI TO .ellipsis := hse.extBut _ _ D.TOz.symm (hsd.extBut _ _ D.i2z.symm (hsc.extBut _ _ D.TOz.symm (hsb.extBut _ _ D.i1z.symm hza)))
  have hke : ∀ c o, c ≠ z → c ≠ TO → c ≠ i1 → c ≠ i2 → s.heap.get? c = some o → he.get? c = some o := fun c o c1 c2 c3 c4 e =>
    hse.extBut _ _ c2 (hsd.extBut _ _ c4 (hsc.extBut _ _ c2 (hsb.extBut _ _ c3 (hsa.extBut _ _ c1 e))))
  have h1e : he.IsStrIter i1 (strIterType tx) tx t (k + 1) := ((h1b.extBut hsc.extBut D.TOi1.symm).extBut hsd.extBut D.i12).extBut hse.extBut D.TOi1.symm
  have h2e : he.IsTupleIter i2 l (k + 1) := h2d.extBut hse.extBut D.TOi2.symm
  have hzlt : z < he.objs.size := Heap.lt_size hze
  show wpAny _ _ (Builtin.SmallTypes.ownedTupleHandOut (.ref z) (.ref he.objs.size) >>= _) _ _ _
  refine wpAny_bind ?_
  unfold Builtin.SmallTypes.ownedTupleHandOut
  have hzf : IsZip (he.push { cls := .type "tuple", data := .seq #[.str ⟨#[c]⟩ s.toks, y] }) z TI TO .ellipsis := Heap.get?_push_of_some _ hze
  refine wpAny_bind (wpAny_setField_rec hzf (by simp) fun hg hzg hsg => ?_)
  replace hzg : IsZip hg z TI TO (rawInt he.objs.size) := hzg
  refine wpAny_setField_rec hzg (by simp) fun hh hzh hsh => ?_
  replace hzh : IsZip hh z TI TO (rawInt he.objs.size) := hzh
  have up : ∀ c o, c ≠ z → he.get? c = some o → hh.get? c = some o := fun c o c1 e => hsh.extBut _ _ c1 (hsg.extBut _ _ c1 (Heap.get?_push_of_some _ e))
  have hTh : IsPair hh he.objs.size (.str ⟨#[c]⟩ s.toks) y := hsh.extBut _ _ (Nat.ne_of_gt hzlt) (hsg.extBut _ _ (Nat.ne_of_gt hzlt) (Heap.get?_push_size _ rfl))
  have hzs : hh.objs.size = he.objs.size + 1 := by rw [hsh.1, hsg.1, Heap.size_push]
  rw [hsz] at hzh hTh hzs
  refine wpAny_pure ⟨_, rfl, ?_⟩
  show Q (.ref he.objs.size) _
  rw [hsz]
  exact hQ hh hzh (up _ _ D.TOz hTOe) (sit_at h1e fun o e => up _ o D.i1z e) (h2e.at fun o e => up _ o D.i2z e) hTh hzs fun c o c1 c2 c3 c4 e => up c o c1 (hke c o c1 c2 c3 c4 e)
/-- its end -/
theorem zs_end {z TI TO i1 i2 l : Addr} {t : Tok} {k : Nat} {tx : Str} {ys : Array Value} {a b : Value} {Q : Fin → Shared → Prop} (hh : A.handled = none) (D : ZipApart z TI TO i1 i2 l l)
    (hz : IsZip s.heap z TI TO .none) (hTI : IsPair s.heap TI (.ref i1) (.ref i2)) (hTO : IsPair s.heap TO a b)
    (h1 : s.heap.IsStrIter i1 (strIterType tx) tx t k) (h2 : s.heap.IsTupleIter i2 l k) (hl : s.heap.IsTuple l ys) (hend : tx.cps[k]? = none ∨ ys[k]? = none)
    (hE : ∀ h' tk e, (∀ c o, c ≠ z → c ≠ TO → c ≠ i1 → c ≠ i2 → s.heap.get? c = some o → h'.get? c = some o) → (∃ o, h'.get? e = some o ∧ o.cls = .type "StopIteration") → E (.ref e) { s with heap := h', toks := tk }) :
    wpAny (model prog w) A (Builtin.«zip.__next__» ⟨[.ref z], []⟩) Q E s := by
  show wpAny _ _ (field (.ref z) 2 >>= _) _ _ _
  refine wpAny_bind (wpAny_field hz rfl (x := .bool false) rfl ?_)
  show wpAny _ _ (field (.ref z) 3 >>= _) _ _ _
  refine wpAny_bind (wpAny_field hz rfl (x := .ref TI) rfl ?_)
  refine wpAny_bind (wpAny_seqItems hTI rfl ?_)
  show wpAny _ _ (Builtin.SmallTypes.ownedTupleIsFree (.ref z) >>= _) _ _ _
  refine wpAny_bind ?_
  unfold Builtin.SmallTypes.ownedTupleIsFree
  refine wpAny_bind (wpAny_field hz rfl (x := .none) rfl (wpAny_pure ?_))
  simp only [if_true]
  refine wpAny_bind (wpAny_rule ?_)
  refine wpAny_bind (wpAny_field hz rfl (x := .ref TO) rfl ?_)
  refine wpAny_bind (wpAny_setField_rec hz (by simp) fun ha hza hsa => ?_)
  replace hza : IsZip ha z TI TO .ellipsis := hza
  refine wpAny_bind ?_
  simp only [List.zipIdx_cons, List.zipIdx_nil, List.forIn_cons, List.forIn_nil]
  refine wpAny_bind (wpAny_bind (wpAny_onRaise ?_))
  show wpAny _ _ (Builtin.SmallTypes.nextOf (.ref i1) >>= _) _ _ _
  cases hx : tx.cps[k]? with
  | none =>
    refine wpAny_bind (nx_end hh (h1.extBut hsa.extBut D.i1z) hx fun hb e hsb he => ?_)
    obtain ⟨oe, hoe, hce⟩ := he
    have hzb : IsZip hb z TI TO .ellipsis := hsb _ _ D.i1z.symm hza
    have hez : e ≠ z := fun x => by subst x; rw [hzb] at hoe; cases hoe; simp at hce
    refine wpAny_setField_rec hzb (by simp) fun hc _ hsc => hE hc _ e (fun c o c1 _ c3 _ x => hsc.extBut _ _ c1 (hsb _ _ c3 (hsa.extBut _ _ c1 x))) ⟨oe, hsc.extBut _ _ hez hoe, hce⟩
  | some x =>
    have hy : ys[k]? = none := by rcases hend with h | h; rw [hx] at h; cases h; exact h
    refine wpAny_bind (nx_item (h1.extBut hsa.extBut D.i1z) hx fun hb h1b hsb => wpAny_pure ?_)
    have hTOb : IsPair hb TO a b := hsb.extBut _ _ D.TOi1 (hsa.extBut _ _ D.TOz hTO)
    refine wpAny_bind (wpAny_seqItems hTOb rfl ?_)
    refine wpAny_bind (wpAny_updateSeq_pair hTOb fun hc hTOc hsc => ?_)
    refine wpAny_bind (wpAny_letGo (wpAny_pure ?_))
    refine wpAny_bind (wpAny_bind (wpAny_onRaise ?_))
    show wpAny _ _ (Builtin.SmallTypes.nextOf (.ref i2) >>= _) _ _ _
    refine wpAny_bind (nextOf_tuple_end hh (((h2.extBut hsa.extBut D.i2z).extBut hsb.extBut D.i12.symm).extBut hsc.extBut D.TOi2.symm)
      (((hl.extBut hsa.extBut D.l2z).extBut hsb.extBut D.l2i1).extBut hsc.extBut D.l2TO) hy fun hd e hsd he => ?_)
    obtain ⟨oe, hoe, hce⟩ := he
    have hzd : IsZip hd z TI TO .ellipsis := hsd _ _ D.i2z.symm (hsc.extBut _ _ D.TOz.symm (hsb.extBut _ _ D.i1z.symm hza))
    have hez : e ≠ z := fun x => by subst x; rw [hzd] at hoe; cases hoe; simp at hce
    refine wpAny_setField_rec hzd (by simp) fun hf _ hsf => hE hf _ e (fun c o c1 c2 c3 c4 x => hsf.extBut _ _ c1 (hsd _ _ c4 (hsc.extBut _ _ c2 (hsb.extBut _ _ c3 (hsa.extBut _ _ c1 x))))) ⟨oe, hsf.extBut _ _ hez hoe, hce⟩
theorem nz_item {z TI TO i1 i2 l : Addr} {t : Tok} {k c : Nat} {tx : Str} {ys : Array Value} {y a b : Value} {Q : Option Value → Shared → Prop} (D : ZipApart z TI TO i1 i2 l l)
    (hz : IsZip s.heap z TI TO .none) (hTI : IsPair s.heap TI (.ref i1) (.ref i2)) (hTO : IsPair s.heap TO a b)
    (h1 : s.heap.IsStrIter i1 (strIterType tx) tx t k) (h2 : s.heap.IsTupleIter i2 l k) (hl : s.heap.IsTuple l ys) (hx : tx.cps[k]? = some c) (hy : ys[k]? = some y)
    (hQ : ∀ h', IsZip h' z TI TO (rawInt s.heap.objs.size) → IsPair h' TO (.str ⟨#[c]⟩ s.toks) y → h'.IsStrIter i1 (strIterType tx) tx t (k + 1) → h'.IsTupleIter i2 l (k + 1) → IsPair h' s.heap.objs.size (.str ⟨#[c]⟩ s.toks) y → h'.objs.size = s.heap.objs.size + 1 →
      (∀ c o, c ≠ z → c ≠ TO → c ≠ i1 → c ≠ i2 → s.heap.get? c = some o → h'.get? c = some o) → Q (some (.ref s.heap.objs.size)) { s with heap := h', toks := s.toks + 1 }) :
    wpAny (model prog w) A (pyNext (.ref z)) Q E s := by
  have hT : s.TypeIs (.ref z) "zip" := ⟨_, hz, rfl⟩
  unfold pyNext
  exact wpAny_bind (wpAny_attempt (wpAny_callSpecial?_slot (name := Str.ofString "__next__") hT F.slot_zip_next
    (wpAny_call_entry F.slot_zip_next hT F.entry_zip_next
      (zs_item D hz hTI hTO h1 h2 hl hx hy fun h' a1 a2 a3 a4 a5 a6 a7 => wpAny_pure (hQ h' a1 a2 a3 a4 a5 a6 a7)) (F.args_zip_next_1 _))))
theorem nz_end {z TI TO i1 i2 l : Addr} {t : Tok} {k : Nat} {tx : Str} {ys : Array Value} {a b : Value} {Q : Option Value → Shared → Prop} (hh : A.handled = none) (D : ZipApart z TI TO i1 i2 l l)
    (hz : IsZip s.heap z TI TO .none) (hTI : IsPair s.heap TI (.ref i1) (.ref i2)) (hTO : IsPair s.heap TO a b)
    (h1 : s.heap.IsStrIter i1 (strIterType tx) tx t k) (h2 : s.heap.IsTupleIter i2 l k) (hl : s.heap.IsTuple l ys) (hend : tx.cps[k]? = none ∨ ys[k]? = none)
    (hQ : ∀ h' tk, (∀ c o, c ≠ z → c ≠ TO → c ≠ i1 → c ≠ i2 → s.heap.get? c = some o → h'.get? c = some o) → Q none { s with heap := h', toks := tk }) : wpAny (model prog w) A (pyNext (.ref z)) Q E s := by
  have hT : s.TypeIs (.ref z) "zip" := ⟨_, hz, rfl⟩
  unfold pyNext
  refine wpAny_bind (wpAny_attempt (wpAny_callSpecial?_slot (name := Str.ofString "__next__") hT F.slot_zip_next
    (wpAny_call_entry F.slot_zip_next hT F.entry_zip_next (zs_end hh D hz hTI hTO h1 h2 hl hend fun h' tk e hk he => ?_) (F.args_zip_next_1 _))))
  obtain ⟨o, ho, hc⟩ := he
  refine wpAny_bind (wpAny_isInstance (T := "StopIteration") (b := true) ⟨o, ho, hc⟩ isSubtype_stop ?_)
  exact wpAny_pure (hQ _ _ hk)
end
abbrev zsH1 (h : Heap) (x : Str) (t : Tok) : Heap := h.push { cls := .type (strIterType x), data := .fields #[.str x t, .int 0 0] }
abbrev zsH2 (h : Heap) (x : Str) (t : Tok) (l : Addr) : Heap := (zsH1 h x t).push { cls := .type "tuple_iterator", data := .fields #[.ref l, .int 0 0] }
abbrev zsH3 (h : Heap) (x : Str) (t : Tok) (l : Addr) : Heap := (zsH2 h x t l).push { cls := .type "tuple", data := .seq #[.ref h.objs.size, .ref (zsH1 h x t).objs.size] }
abbrev zsH4 (h : Heap) (x : Str) (t : Tok) (l : Addr) : Heap := (zsH3 h x t l).push { cls := .type "tuple", data := .seq #[.none, .none] }
abbrev zsH5 (h : Heap) (x : Str) (t : Tok) (l : Addr) : Heap := (zsH4 h x t l).push { cls := .type "zip", data := .fields #[.none, .bool false, .bool false, .ref (zsH2 h x t l).objs.size, .ref (zsH3 h x t l).objs.size] }
theorem meets_zs (x : Str) (t : Tok) (l : Addr) (ys : Array Value) :
    Meets (Builtin.«zip.__new__» ⟨[.type "zip", .str x t, .ref l], []⟩) (fun _ R s => s.heap.IsTuple l ys ∧
      R (.ok (.ret (.ref (zsH4 s.heap x t l).objs.size))) { s with heap := zsH5 s.heap x t l }) :=
  .of_wp fun prog w A R s h => by
    obtain ⟨hp, g, d, tk, os⟩ := s; obtain ⟨hl, h⟩ := h
    have hsub := sub_zip
    have hL2 : Heap.IsTuple (Shared.heap ⟨hp.push { cls := .type (strIterType x), data := .fields #[.str x t, .int 0 0] }, g, d, tk, os⟩) l ys := Heap.IsTuple.push hl _
    wp_walk using wpAny_pyIter_strU, wpAny_pyIter_tuple hL2
    exact ⟨_, rfl, h⟩
section
variable {prog : Program} {w : World} {A : Around} {E : Value → Shared → Prop} {s : Shared}
theorem call_zs {x : Str} {t : Tok} {l : Addr} {ys : Array Value} {Q : Value → Shared → Prop} (hl : s.heap.IsTuple l ys)
    (h : ∀ h', IsZip h' (s.heap.objs.size + 4) (s.heap.objs.size + 2) (s.heap.objs.size + 3) .none → IsPair h' (s.heap.objs.size + 2) (.ref s.heap.objs.size) (.ref (s.heap.objs.size + 1)) →
      IsPair h' (s.heap.objs.size + 3) .none .none → h'.IsStrIter s.heap.objs.size (strIterType x) x t 0 → h'.IsTupleIter (s.heap.objs.size + 1) l 0 → h'.objs.size = s.heap.objs.size + 5 →
      (∀ c o, s.heap.get? c = some o → h'.get? c = some o) → Q (.ref (s.heap.objs.size + 4)) { s with heap := h' }) :
    wpAny (model prog w) A (call (.type "zip") [.str x t, .ref l]) Q E s := by
  refine callType_new F.called_zip (by decide) (F.typeCall_zip_2 _ _) (F.newCall_zip_2 _ _) (fun obj => F.args_object_init_3 obj _ _) F.entry_zip_new
    (meets_zs x t l ys) ⟨hl, ?_⟩
  have z1 : (zsH1 s.heap x t).objs.size = s.heap.objs.size + 1 := Heap.size_push ..
  have z2 : (zsH2 s.heap x t l).objs.size = s.heap.objs.size + 2 := by rw [Heap.size_push, z1]
  have z3 : (zsH3 s.heap x t l).objs.size = s.heap.objs.size + 3 := by rw [Heap.size_push, z2]
  have z4 : (zsH4 s.heap x t l).objs.size = s.heap.objs.size + 4 := by rw [Heap.size_push, z3]
  have z5 : (zsH5 s.heap x t l).objs.size = s.heap.objs.size + 5 := by rw [Heap.size_push, z4]
  have g5 : (zsH5 s.heap x t l).get? (zsH4 s.heap x t l).objs.size = some _ := Heap.get?_push_size _ rfl
  have g4 : (zsH5 s.heap x t l).get? (zsH3 s.heap x t l).objs.size = some _ := Heap.get?_push_of_some _ (Heap.get?_push_size _ rfl)
  have g3 : (zsH5 s.heap x t l).get? (zsH2 s.heap x t l).objs.size = some _ := Heap.get?_push_of_some _ (Heap.get?_push_of_some _ (Heap.get?_push_size _ rfl))
  have g2 : (zsH5 s.heap x t l).get? (zsH1 s.heap x t).objs.size = some _ := Heap.get?_push_of_some _ (Heap.get?_push_of_some _ (Heap.get?_push_of_some _ (Heap.get?_push_size _ rfl)))
  have g1 : (zsH5 s.heap x t l).get? s.heap.objs.size = some _ := Heap.get?_push_of_some _ (Heap.get?_push_of_some _ (Heap.get?_push_of_some _ (Heap.get?_push_of_some _ (Heap.get?_push_size _ rfl))))
  show _ ∧ _
  rw [z2, z3, z4] at g5
  rw [z1, z2] at g3
  rw [z3] at g4
  rw [z1] at g2
  rw [z4]
  exact ⟨⟨_, g5, rfl⟩, h _ g5 g3 g4 ⟨_, g1, rfl, rfl⟩ ⟨_, g2, rfl, rfl⟩ z5 fun c o y =>
    Heap.get?_push_of_some _ (Heap.get?_push_of_some _ (Heap.get?_push_of_some _ (Heap.get?_push_of_some _ (Heap.get?_push_of_some _ y))))⟩
end
/-- a text, and the tuple at b as it stands at each turn, in new pairs -/
def ItzS (K : PySem.W.Frag) (x : Str) (b : Addr) : It :=
  ⟨fun i H => ∃ (ys : List V) (c : Nat) (y : V), SqT K H b ys ∧ x.cps[i]? = some c ∧ ys[i]? = some y,
    fun i H v H' => ∃ T c y, v = .ref T ∧ H T = none ∧ H' = upd H T (.tup [.str ⟨#[c]⟩, y]) ∧ x.cps[i]? = some c ∧ ∀ ys, SqT K H b ys → ys[i]? = some y,
    fun i H => ∃ ys : List V, SqT K H b ys ∧ (x.cps.size ≤ i ∨ ys.length ≤ i)⟩
theorem turn_zs {P : Program} {w : World} {K : PySem.W.Frag} {elts : List Expr} {kk : Nat} {tpos : Pos} {x : Str} {t : Tok} {b z TI TO i1 i2 : Addr} (D : ZipApart z TI TO i1 i2 b b) :
    Turn P w K (.Tuple elts kk tpos) (ItzS K x b) [z, TI, TO, i1, i2] z (fun i h => IsZip h z TI TO .none ∧ IsPair h TI (.ref i1) (.ref i2) ∧ (∃ x y, IsPair h TO x y) ∧ h.IsStrIter i1 (strIterType x) x t i ∧ h.IsTupleIter i2 b i) where
  mem := by simp
  obj := fun i h st c hc => by
    obtain ⟨hz, hTI, ⟨x, y, hTO⟩, ⟨o1, e1, _, d1⟩, ⟨o2, e2, _, d2⟩⟩ := st
    have e' : c = z ∨ c = TI ∨ c = TO ∨ c = i1 ∨ c = i2 := by simpa using hc
    rcases e' with q | q | q | q | q
    · rw [q]; exact ⟨_, hz, fun v q => nomatch q⟩
    · rw [q]; exact ⟨_, hTI, fun v q => nomatch q⟩
    · rw [q]; exact ⟨_, hTO, fun v q => nomatch q⟩
    · rw [q]; exact ⟨o1, e1, fun v q => by rw [d1] at q; cases q⟩
    · rw [q]; exact ⟨o2, e2, fun v q => by rw [d2] at q; cases q⟩
  keep := fun i h h' st k => by
    obtain ⟨hz, hTI, ⟨x, y, hTO⟩, h1, h2⟩ := st
    exact ⟨k z (by simp) _ hz, k TI (by simp) _ hTI, ⟨x, y, k TO (by simp) _ hTO⟩, sit_at h1 fun o q => k i1 (by simp) o q, h2.at fun o q => k i2 (by simp) o q⟩
  item := by
    intro X hP hw hK hc i pins s σ H E I hf st hg
    subst hP hw hK
    obtain ⟨hz, hTI, ⟨x0, y0, hTO⟩, h1, h2⟩ := st
    obtain ⟨ys, c, y, hqy, hx, hy⟩ := hg
    obtain ⟨its2, rv2, p2, _⟩ := I.tuple hqy
    obtain ⟨u2, hu2, ru2⟩ := rv2.get hy
    have hzl : z < s.heap.objs.size := Heap.lt_size hz
    refine nz_item D hz hTI hTO h1 h2 p2 (c := c) (y := u2) hx (by simpa using hu2) fun h' z' TO' h1' h2' hT hsz hk => ?_
    refine ⟨_, rfl, wpAny_letOwnedTupleGo_zip (s := { s with heap := h', toks := s.toks + 1 }) z' fun h'' z'' sb => ?_⟩
    have hT2 : h''.get? s.heap.objs.size = some { cls := .type "tuple", data := .seq #[.str ⟨#[c]⟩ s.toks, u2] } := (sb.2 _ (Nat.ne_of_gt hzl)).trans hT
    have ru : RelV (.str ⟨#[c]⟩) (.str ⟨#[c]⟩ s.toks) := ⟨s.toks, rfl⟩
    have new : ObjOk X.prog X.w (upd H s.heap.objs.size (.tup [.str ⟨#[c]⟩, y])) h'' s.heap.objs.size (.tup [.str ⟨#[c]⟩, y]) :=
      ⟨by show 2 ≤ sizeLine; decide, [.str ⟨#[c]⟩ s.toks, u2], .cons ru (.cons ru2 .nil), ⟨_, hT2, rfl, _, rfl⟩⟩
    have I1 : Inv X pins σ (upd H s.heap.objs.size (.tup [.str ⟨#[c]⟩, y])) { s with heap := h'', toks := s.toks + 1 } :=
      I.turnedNew (t' := s.toks + 1) (ch := [z, TI, TO, i1, i2]) (fun c o hb q => (sb.2 c (fun q' => hb (by simp [q']))).trans (hk c o (fun q' => hb (by simp [q'])) (fun q' => hb (by simp [q'])) (fun q' => hb (by simp [q'])) (fun q' => hb (by simp [q'])) q)) hf (Nat.le_refl _) new
    refine ⟨.ref s.heap.objs.size, _, I1, rfl, ⟨_, c, y, rfl, I.hok.fresh (Nat.le_refl _), rfl, hx, fun l hl => by rw [I.tuple_inj hl hqy]; exact hy⟩, ⟨z'', ?_, ⟨.str ⟨#[c]⟩ s.toks, u2, ?_⟩, ?_, ?_⟩, fun c hcm => ?_⟩
    · exact (sb.2 _ D.TIz).trans (hk _ _ D.TIz D.TITO D.TIi1 D.TIi2 hTI)
    · exact (sb.2 _ D.TOz).trans TO'
    · exact sit_at h1' fun o q => (sb.2 _ D.i1z).trans q
    · exact h2'.at fun o q => (sb.2 _ D.i2z).trans q
    · have hlt : c < s.heap.objs.size := by
        have e' : c = z ∨ c = TI ∨ c = TO ∨ c = i1 ∨ c = i2 := by simpa using hcm
        rcases e' with q | q | q | q | q
        · rw [q]; exact hzl
        · rw [q]; exact Heap.lt_size hTI
        · rw [q]; exact Heap.lt_size hTO
        · rw [q]; obtain ⟨_, e1, _⟩ := h1; exact Heap.lt_size e1
        · rw [q]; obtain ⟨_, e2, _⟩ := h2; exact Heap.lt_size e2
      rw [upd_ne (Nat.ne_of_lt hlt)]
      exact (hf c hcm).1
  done := by
    intro X hP hw hK hc i pins s σ H E I hf st hg
    subst hP hw hK
    obtain ⟨hz, hTI, ⟨x0, y0, hTO⟩, h1, h2⟩ := st
    obtain ⟨ys, hqy, hend⟩ := hg
    obtain ⟨its2, rv2, p2, _⟩ := I.tuple hqy
    have l2 := rv2.length
    have he : x.cps[i]? = none ∨ its2.toArray[i]? = none := by
      rcases hend with q | q
      · exact .inl (by simp; omega)
      · exact .inr (by simp; omega)
    exact nz_end (I.ok.hd hc) D hz hTI hTO h1 h2 p2 he fun h' tk hk => ⟨rfl, I.turnedL (t' := tk) (ch := [z, TI, TO, i1, i2]) (fun c o hb q =>
      hk c o (fun q' => hb (by simp [q'])) (fun q' => hb (by simp [q'])) (fun q' => hb (by simp [q'])) (fun q' => hb (by simp [q'])) q) hf⟩
  self := fun A i s Q E st h => wpAny_pyIter_zip st.1 h
/-- zip of two lists, two tuples, or a text and a tuple -/
def iZipX (K : PySem.W.Frag) (ta : TA) : TI := fun σ H R => ta σ H fun vs H1 => (∃ a b xs ys, vs = [.ref a, .ref b] ∧ ((SqL K H1 a xs ∧ SqL K H1 b ys ∧ R (Itz K a b) H1) ∨ (SqT K H1 a xs ∧ SqT K H1 b ys ∧ R (ItzT K a b) H1))) ∨ ∃ x b ys, vs = [.str x, .ref b] ∧ SqT K H1 b ys ∧ R (ItzS K x b) H1
theorem pi_zipX {X : Cx} {e e2 : Expr} {ta : TA} {p pos tpos : Pos} {elts : List Expr} {kk : Nat} (hg : Gl X "zip") (hm : X.mg "zip" = none) (ha : PA X [e, e2] ta)
    (hs : starEach [e, e2] X.env = (false, eval e X.env) :: starEach [e2] X.env := by rfl) (hpl : (backTo pos (starEach [e2] X.env)).any (·.1) = false := by rfl) :
    PI X (.Tuple elts kk tpos) (.Call (.Name "zip" p) [e, e2] [] pos) (iZipX X.K ta) := by
  refine ⟨fun pins s σ H R I h => ?_⟩
  refine Call_ (ld_blt I hg hm PyProof.Rows.boot_zip (PyProof.Rows.callWith_type1 (thn (ha.run pos pins s σ H _ I h) fun us s1 ⟨vs, H1, I1, r1, q1⟩ => ?_) hs hpl))
  have fresh5 : ∀ c, c ∈ [s1.heap.objs.size + 4, s1.heap.objs.size + 2, s1.heap.objs.size + 3, s1.heap.objs.size, s1.heap.objs.size + 1] → FpOk X pins H1 c := fun c hcm => by
    have e' : c = s1.heap.objs.size + 4 ∨ c = s1.heap.objs.size + 2 ∨ c = s1.heap.objs.size + 3 ∨ c = s1.heap.objs.size ∨ c = s1.heap.objs.size + 1 := by simpa using hcm
    have hle : s1.heap.objs.size ≤ c := by
      rcases e' with z | z | z | z | z
      · rw [z]; exact Nat.le_add_right _ _
      · rw [z]; exact Nat.le_add_right _ _
      · rw [z]; exact Nat.le_add_right _ _
      · rw [z]; exact Nat.le_refl _
      · rw [z]; exact Nat.le_add_right _ _
    exact I1.fpOk hle (I1.hok.fresh hle)
  rcases q1 with ⟨a, b, xs, ys, ex, q1⟩ | ⟨x, b, ys, ex, hqy, q⟩
  · subst ex
    cases r1 with
    | cons r rr =>
      cases rr with
      | cons r' rr =>
        cases rr
        cases r
        cases r'
        rcases q1 with ⟨hqx, hqy, q⟩ | ⟨hqx, hqy, q⟩
        · obtain ⟨its, rv, p1, _⟩ := I1.list hqx
          obtain ⟨its2, rv2, p2, _⟩ := I1.list hqy
          refine call_zip_2 p1.isList p2.isList fun h' hz hTI hTO h1 h2 hsz hk => wpAny_pyIter_zip hz ?_
          have I2 : Inv X pins σ H1 { s1 with heap := h' } := I1.kept (t' := s1.toks) hk
          exact ⟨s1.heap.objs.size + 4, [s1.heap.objs.size + 4, s1.heap.objs.size + 2, s1.heap.objs.size + 3, s1.heap.objs.size, s1.heap.objs.size + 1], _, _, H1, rfl, I2, turn_zip (PySem.W.ktu_apart s1.heap.objs.size a b p1.lt p2.lt), ⟨hz, hTI, ⟨_, _, hTO⟩, h1, h2⟩, fresh5, q⟩
        · obtain ⟨its, rv, p1, _⟩ := I1.tuple hqx
          obtain ⟨its2, rv2, p2, _⟩ := I1.tuple hqy
          obtain ⟨o1, ho1, _⟩ := id p1
          obtain ⟨o2, ho2, _⟩ := id p2
          refine call_zipT (show s1.heap.IsTuple a its.toArray from p1) (show s1.heap.IsTuple b its2.toArray from p2) fun h' hz hTI hTO h1 h2 hsz hk => wpAny_pyIter_zip hz ?_
          have I2 : Inv X pins σ H1 { s1 with heap := h' } := I1.kept (t' := s1.toks) hk
          exact ⟨s1.heap.objs.size + 4, [s1.heap.objs.size + 4, s1.heap.objs.size + 2, s1.heap.objs.size + 3, s1.heap.objs.size, s1.heap.objs.size + 1], _, _, H1, rfl, I2, turn_zipT (PySem.W.ktu_apart s1.heap.objs.size a b (Heap.lt_size ho1) (Heap.lt_size ho2)), ⟨hz, hTI, ⟨_, _, hTO⟩, h1, h2⟩, fresh5, q⟩
  · subst ex
    cases r1 with
    | cons r rr =>
      cases rr with
      | cons r' rr =>
        cases rr
        obtain ⟨tk, rfl⟩ := r
        cases r'
        obtain ⟨its2, rv2, p2, _⟩ := I1.tuple hqy
        obtain ⟨o2, ho2, _⟩ := id p2
        refine call_zs (show s1.heap.IsTuple b its2.toArray from p2) fun h' hz hTI hTO h1 h2 hsz hk => wpAny_pyIter_zip hz ?_
        have I2 : Inv X pins σ H1 { s1 with heap := h' } := I1.kept (t' := s1.toks) hk
        exact ⟨s1.heap.objs.size + 4, [s1.heap.objs.size + 4, s1.heap.objs.size + 2, s1.heap.objs.size + 3, s1.heap.objs.size, s1.heap.objs.size + 1], _, _, H1, rfl, I2, turn_zs (PySem.W.ktu_apart s1.heap.objs.size b b (Heap.lt_size ho2) (Heap.lt_size ho2)), ⟨hz, hTI, ⟨_, _, hTO⟩, h1, h2⟩, fresh5, q⟩
end ZL

set_option Elab.async false
set_option linter.all false
set_option maxRecDepth 100000
/-! Z1: pure data, the tree of a def's text, its evaluator. -/
namespace Z
open PySem

/-- a value, by what it is worth -/
inductive D where
  | non
  | bl (b : Bool)
  | int (i : Int)
  | str (s : Str)
  | ty (n : String)
  | cls (c : Nat)
  | fn (f : Nat)
  | tup (xs : List D)
  | lst (xs : List D)
  | frz (xs : List D)      -- a list that is never changed: the script
  | dct (kvs : List (Str × D))
  | exc (c : Nat) (fs : List (Str × D))
  | hnd (k : Nat)
  | lam (b : Bool)         -- a lambda of one name that always tells b

/-- a field of an ambient object: a value, or a list of its own -/
inductive Fld where
  | imm (d : D)
  | own (ds : List D)
def Fld.asD : Fld → D
  | .imm d => d
  | .own ds => .lst ds
/-- the ambient objects: dicts with text keys -/
abbrev Obj1 := List (Str × Fld)
abbrev G := List Obj1

/-- what an evaluation comes to -/
inductive R (α : Type) where
  | ok (a : α)
  | exc (c : Nat) (fs : List (Str × D)) (g : G)
  | bad

def R.bind {α β : Type} : R α → (α → R β) → R β
  | .ok a, f => f a
  | .exc c fs g, _ => .exc c fs g
  | .bad, _ => .bad
@[simp] theorem R.bind_ok {α β : Type} (a : α) (f : α → R β) : (R.ok a).bind f = f a := rfl
@[simp] theorem R.bind_exc {α β : Type} (c : Nat) (fs : List (Str × D)) (g : G) (f : α → R β) : (R.exc c fs g).bind f = .exc c fs g := rfl
@[simp] theorem R.bind_bad {α β : Type} (f : α → R β) : (R.bad (α := α)).bind f = .bad := rfl

/-- a slot of a def: not assigned, a value, a list of the def's own -/
inductive Sl where
  | un
  | val (d : D)
  | own (ds : List D)

/-- what a statement comes to -/
inductive SR where
  | nx (ρ : List Sl) (g : G)
  | rt (d : D) (g : G)
  | bk (ρ : List Sl) (g : G)
  | ct (ρ : List Sl) (g : G)
  | exc (c : Nat) (fs : List (Str × D)) (ρ : List Sl) (g : G)
  | bad

/-- primitives -/
inductive P where
  | add | sub | mul | fdiv | mod | pow | shl | shr | band
  | eq | ne | lt | le | gt | ge
  | isN | notN | isB | notB | in_ | notIn
  | neg | not
  | mkTup | mkLst | mkDct (ks : List Str)
  | ix | slo | shi | slb
  | abs | len | min2 | max2 | toInt | isinst | all | any | sum | toTup | toLst | maxL | minL | str_ | repr_ | revL | rev | addL | tupRg | lstRg
  deriving DecidableEq

/-- what is walked -/
inductive Ik where
  | seq | rng | zip | enum | rev
  deriving DecidableEq

/-- targets of loops -/
inductive Tg where
  | nm (i : Nat)
  | tp (is : List Nat)
  deriving DecidableEq

mutual
inductive E where
  | var (i : Nat)
  | con (d : D)
  | prim (p : P) (es : Es)
  | and (a b : E)
  | or (a b : E)
  | ite (c a b : E)
  | chain (p q : P) (a b c : E)
  | call (f : Nat) (es : Es)
  | callv (e : E) (es : Es)
  | callp (i : Nat) (fs : List Nat) (es : Es)
  | lam (b : Bool)
  | cget (kvs : List (Str × D)) (e f : E)
  | cix (kvs : List (Str × D)) (e : E)
  | cin (neg : Bool) (kvs : List (Str × D)) (e : E)
  | comp (k : Ik) (es : Es) (tg : Tg) (cond : E) (elt : E)
  | hget (e : E) (key : Str)
  | hgetix (e : E) (key : Str) (j : Nat)
  | hnew (ks : List Str) (es : Es)
  | hnewL (k1 k2 k3 : Str) (e1 e2 : E) (d3 : D)
inductive Es where
  | nil
  | cons (e : E) (es : Es)
end

mutual
inductive S where
  | set (i : Nat) (rd : List Nat) (e : E)
  | own (i : Nat) (rd : List Nat) (e : E)
  | unp (is : List Nat) (rd : List Nat) (e : E)
  | par (is : List Nat) (rd : List Nat) (es : Es)
  | aug (i : Nat) (rd : List Nat) (e : E)
  | app (i : Nat) (rd : List Nat) (e : E)
  | ext (i : Nat) (rd : List Nat) (e : E)
  | setix (i : Nat) (rd : List Nat) (e1 e2 : E)
  | ins (i : Nat) (rd : List Nat) (es : Es)
  | clr (i : Nat)
  | par0 (i j : Nat) (rd : List Nat) (e : E)
  | ownc (i : Nat) (e : E)
  | hset (e : E) (key : Str) (v : E)
  | hsetix (e : E) (key : Str) (j : Nat) (v : E)
  | expr (rd : List Nat) (e : E)
  | ret (rd : List Nat) (e : E)
  | retN
  | ite (rd : List Nat) (c : E) (a b : Ss)
  | whl (rd : List Nat) (c : E) (b : Ss)
  | for (k : Ik) (rd : List Nat) (es : Es) (tg : Tg) (b : Ss)
  | rais (c : Nat)
  | try_ (b : Ss) (c : Nat) (v : Option Nat) (i : Nat)
  | pass
  | brk
  | cnt
inductive Ss where
  | nil
  | cons (s : S) (r : Ss)
end

/-- a def: parameters, slots in all, body -/
structure FD where
  np : Nat
  ns : Nat
  body : Ss

/-! ### looks at values -/
mutual
/-- no list or dict within: nothing of it can be changed -/
def D.imm : D → Bool
  | .tup xs => D.immAll xs
  | .frz xs => D.immAll xs
  | .lst _ => false
  | .dct _ => false
  | _ => true
def D.immAll : List D → Bool
  | [] => true
  | x :: xs => x.imm && D.immAll xs
end
mutual
/-- none, bools, ints, texts, lists, tuples of such -/
def D.plain : D → Bool
  | .non => true
  | .bl _ => true
  | .int _ => true
  | .str s => PyData.strOk s
  | .tup xs => D.plainAll xs
  | .lst xs => D.plainAll xs
  | .frz xs => D.plainAll xs
  | _ => false
def D.plainAll : List D → Bool
  | [] => true
  | x :: xs => x.plain && D.plainAll xs
end
mutual
def D.dp : D → Nat
  | .tup xs => D.dpAll xs + 1
  | .lst xs => D.dpAll xs + 1
  | .frz xs => D.dpAll xs + 1
  | _ => 0
def D.dpAll : List D → Nat
  | [] => 0
  | x :: xs => max x.dp (D.dpAll xs)
end
mutual
/-- == -/
def D.beq : D → D → Bool
  | .non, .non => true
  | .bl a, .bl b => a == b
  | .bl a, .int j => (if a then 1 else 0) == j
  | .int i, .bl b => i == (if b then 1 else 0)
  | .int i, .int j => i == j
  | .str x, .str y => x == y
  | .lst xs, .lst ys => D.beqAll xs ys
  | .frz xs, .lst ys => D.beqAll xs ys
  | .lst xs, .frz ys => D.beqAll xs ys
  | .frz xs, .frz ys => D.beqAll xs ys
  | .tup xs, .tup ys => D.beqAll xs ys
  | _, _ => false
def D.beqAll : List D → List D → Bool
  | [], [] => true
  | x :: xs, y :: ys => D.beq x y && D.beqAll xs ys
  | _, _ => false
end
def D.okEq (d : D) : Bool := d.plain && decide (d.dp ≤ 64)
mutual
def D.py : D → PyData
  | .bl b => .bool b
  | .int i => .int i
  | .str s => .str s
  | .tup xs => .tuple (D.pys xs)
  | .lst xs => .list (D.pys xs)
  | .frz xs => .list (D.pys xs)
  | _ => .none
def D.pys : List D → List PyData
  | [] => []
  | x :: xs => x.py :: D.pys xs
end
/-- one flat thing -/
def D.flat : D → Bool
  | .non => true
  | .bl _ => true
  | .int _ => true
  | .str _ => true
  | _ => false

/-! ### whole numbers' limits -/
def mulOk (i j : Int) : Bool := decide (Builtin.Int.intBits i + Builtin.Int.intBits j ≤ 134217728) || (decide (-(2 ^ 64) < i ∧ i < 2 ^ 64) || decide (-(2 ^ 64) < j ∧ j < 2 ^ 64))
def divOk (i j : Int) : Bool := decide (j ≠ 0) && !Builtin.divisionGoesByPylong i j
def shlOk (i j : Int) : Bool := decide (0 ≤ j) && decide ((Builtin.Int.intBits i : Int) + j ≤ 134217728)
def powOk (i j : Int) : Bool := decide (0 ≤ j) && decide (j ≤ 1000000) && decide (i.natAbs < 2 ^ 64)

/-! ### what the primitives come to. T.isa: whether a value's class is under a class -/
/-- a class as isinstance takes it -/
inductive Cl where
  | ty (n : String)
  | own (c : Nat)
def D.tag : D → Option Cl
  | .non => some (.ty "NoneType")
  | .bl _ => some (.ty "bool")
  | .int _ => some (.ty "int")
  | .str _ => some (.ty "str")
  | .tup _ => some (.ty "tuple")
  | .lst _ => some (.ty "list")
  | .frz _ => some (.ty "list")
  | .dct _ => some (.ty "dict")
  | .exc c [] => some (.own c)
  | _ => none
def D.asCl : D → Option Cl
  | .ty n => some (.ty n)
  | .cls c => some (.own c)
  | _ => none
/-- the text's classes: sub c n: what is told of an own class c: is it under the built-in n, under the own c' -/
structure Kl where
  ty : String → String → Option Bool
  tyOwn : String → Nat → Option Bool
  ownTy : Nat → String → Option Bool
  own : Nat → Nat → Option Bool
def Kl.isa (k : Kl) : Cl → Cl → Option Bool
  | .ty a, .ty b => k.ty a b
  | .ty a, .own c => k.tyOwn a c
  | .own c, .ty b => k.ownTy c b
  | .own c, .own c' => k.own c c'
def Kl.isaAny (k : Kl) (t : Cl) : List D → Option Bool
  | [] => some false
  | c :: cs => match c.asCl with
    | none => none
    | some cl => match k.isa t cl with
      | some true => match Kl.isaAny k t cs with
        | some _ => some true
        | none => none
      | some false => Kl.isaAny k t cs
      | none => none

def inOf (d : D) : List D → Bool
  | [] => false
  | x :: xs => x.beq d || inOf d xs
def isBls : List D → Option (List Bool)
  | [] => some []
  | .bl b :: xs => (isBls xs).map (b :: ·)
  | _ :: _ => none
def isInts : List D → Option (List Int)
  | [] => some []
  | .int b :: xs => (isInts xs).map (b :: ·)
  | _ :: _ => none
/-- the place that an index means -/
def place (n : Nat) (i : Int) : Option Nat :=
  if 0 ≤ i then (if i < (n : Int) then some i.toNat else none) else if -(n : Int) ≤ i then some (i + n).toNat else none

def semAdd : D → D → Option D
  | .int i, .int j => some (.int (i + j))
  | .lst xs, .lst ys => if xs.length + ys.length ≤ sizeLine then some (.lst (xs ++ ys)) else none
  | .frz xs, .lst ys => if xs.length + ys.length ≤ sizeLine then some (.lst (xs ++ ys)) else none
  | .tup xs, .tup ys => if xs.length + ys.length ≤ sizeLine then some (.tup (xs ++ ys)) else none
  | .str x, .str y => if x.length + y.length ≤ sizeLine then some (.str (x ++ y)) else none
  | _, _ => none
/-- list + list -/
def semAddL : D → D → Option D
  | .lst xs, .lst ys => if xs.length + ys.length ≤ sizeLine then some (.lst (xs ++ ys)) else none
  | _, _ => none
/-- += -/
def semAug : D → D → Option D
  | .int i, .int j => some (.int (i + j))
  | .str x, .str y => if x.length + y.length ≤ sizeLine then some (.str (x ++ y)) else none
  | _, _ => none
def semMul : D → D → Option D
  | .int i, .int j => if mulOk i j = true then some (.int (i * j)) else none
  | .lst xs, .int k => if -(2 ^ 63) ≤ k ∧ k < 2 ^ 63 ∧ xs.length * k.toNat ≤ sizeLine then some (.lst (List.replicate k.toNat xs).flatten) else none
  | .tup xs, .int k => if xs ≠ [] ∧ 2 ≤ k ∧ k ≤ 1000 ∧ xs.length ≤ 1000 then some (.tup (List.replicate k.toNat xs).flatten) else none
  | _, _ => none
def semEq (x y : D) : Option Bool := if x.okEq = true ∧ y.okEq = true then some (x.beq y) else none
def semIx : D → D → Option D
  | .frz xs, .int i => match place xs.length i with
    | some k => xs[k]?
    | none => none
  | .lst xs, .int i => match place xs.length i with
    | some k => xs[k]?
    | none => none
  | .tup xs, .int i => match place xs.length i with
    | some k => xs[k]?
    | none => none
  | _, _ => none

/-- xs[lo:hi] -/
def cutD (xs : List D) (lo hi : Option Int) : List D := (xs.drop (HT.sIx xs.length 0 lo)).take (HT.sIx xs.length xs.length hi - HT.sIx xs.length 0 lo)
def semSl (lo hi : Option Int) : D → Option D
  | .lst xs => some (.lst (cutD xs lo hi))
  | .frz xs => some (.lst (cutD xs lo hi))
  | .tup xs => some (.tup (cutD xs lo hi))
  | .str z => if z.length ≤ sizeLine then some (.str (L2.cutS z lo hi)) else none
  | _ => none
def semSlo : D → D → Option D
  | x, .int i => semSl (some i) none x
  | _, _ => none
def semShi : D → D → Option D
  | x, .int i => semSl none (some i) x
  | _, _ => none
def semSlb : List D → Option D
  | [x, .int i, .int j] => semSl (some i) (some j) x
  | _ => none
def semToLst : D → Option D
  | .lst xs => some (.lst xs)
  | .frz xs => some (.lst xs)
  | .tup xs => some (.lst xs)
  | _ => none
def semToTup : D → Option D
  | .lst xs => some (.tup xs)
  | .frz xs => some (.tup xs)
  | .tup xs => some (.tup xs)
  | _ => none
/-- max of a tuple of whole numbers -/
def semMax1 : D → Option D
  | .tup xs => match isInts xs with
    | some (n :: r) => some (.int (r.foldl max n))
    | _ => none
  | _ => none
def semSum : D → Option D
  | .lst xs => (isInts xs).map fun ns => .int ns.sum
  | .tup xs => (isInts xs).map fun ns => .int ns.sum
  | _ => none
def semAny : D → Option D
  | .lst xs => (isBls xs).map fun bs => .bl (bs.any id)
  | _ => none
/-- list(reversed(x)) -/
def semRevL : D → Option D
  | .lst xs => some (.lst xs.reverse)
  | _ => none
/-- x[::-1] -/
def semRev : D → Option D
  | .lst xs => some (.lst xs.reverse)
  | .tup xs => some (.tup xs.reverse)
  | _ => none
def flatAll : List D → Bool
  | [] => true
  | x :: xs => x.flat && flatAll xs
/-- one sign in a text -/
def semSign : D → D → Option Bool
  | .str c, .str z => match c.cps.toList with
    | [k] => some (decide (k ∈ z.cps.toList))
    | _ => none
  | _, _ => none
/-- a flat thing in a tuple of such -/
def semInT : D → D → Option Bool
  | x, .tup ys => if x.flat = true ∧ flatAll ys = true then some (inOf x ys) else none
  | _, _ => none
def semInL : D → D → Option Bool
  | x, .lst ys => if x.okEq = true ∧ (D.lst ys).okEq = true then some (inOf x ys) else none
  | _, _ => none
def semIn (x : D) : D → Option Bool
  | .lst ys => semInL x (.lst ys)
  | .tup ys => semInT x (.tup ys)
  | .str z => semSign x (.str z)
  | _ => none
def semAll : D → Option D
  | .lst xs => (isBls xs).map fun bs => .bl (bs.all id)
  | _ => none
def on1 (f : D → Option D) : List D → Option D
  | [x] => f x
  | _ => none
def on2 (f : D → D → Option D) : List D → Option D
  | [x, y] => f x y
  | _ => none
def onI (f : Int → Int → Option D) : D → D → Option D
  | .int i, .int j => f i j
  | _, _ => none
def semIsN (b : Bool) : D → Option D
  | .non => some (.bl b)
  | _ => some (.bl !b)
def semIsB (b : Bool) : D → D → Option D
  | .bl x, .bl y => some (.bl (decide (x = y) == b))
  | _, _ => none
def semNeg : D → Option D
  | .int i => some (.int (-i))
  | _ => none
def semNot : D → Option D
  | .bl b => some (.bl !b)
  | _ => none
def semAbs : D → Option D
  | .int i => some (.int (if i < 0 then -i else i))
  | _ => none
def semLen : D → Option D
  | .frz xs => some (.int xs.length)
  | .lst xs => some (.int xs.length)
  | .tup xs => some (.int xs.length)
  | .str s => if s.length ≤ sizeLine then some (.int s.length) else none
  | _ => none
/-- repr -/
def semRepr (d : D) : Option D := if d.okEq = true ∧ d.py.showable = true ∧ d.py.shown.length ≤ sizeLine then some (.str d.py.shown) else none
/-- tuple(range(n)) -/
def semTupRg : D → Option D
  | .int n => if n < 2 ^ 62 ∧ -(2 ^ 62) ≤ n ∧ n.toNat ≤ 2 ^ 24 then some (.tup ((List.range n.toNat).map fun (k : Nat) => D.int (k : Int))) else none
  | _ => none
def semLstRg (d : D) : Option D := match semTupRg d with | some (.tup xs) => some (.lst xs) | _ => none
def semStr : D → Option D
  | .int n => if n.natAbs.log2 < 1920 then some (.str (Str.ofString (toString n))) else none
  | _ => none
def semToInt : D → Option D
  | .int i => some (.int i)
  | .bl b => some (.int (if b then 1 else 0))
  | _ => none
def semIsI (k : Kl) (x c : D) : Option D := match x.tag with
  | none => none
  | some t => match c with
    | .tup cs => (k.isaAny t cs).map .bl
    | _ => match c.asCl with
      | some cl => (k.isa t cl).map .bl
      | none => none

def P.sem (k : Kl) (p : P) (ds : List D) : Option D := match p with
  | .add => on2 semAdd ds
  | .sub => on2 (onI fun i j => some (.int (i - j))) ds
  | .mul => on2 semMul ds
  | .fdiv => on2 (onI fun i j => if divOk i j = true then some (.int (i.fdiv j)) else none) ds
  | .mod => on2 (onI fun i j => if 0 < j then some (.int (i % j)) else none) ds
  | .pow => on2 (onI fun i j => if powOk i j = true then some (.int (i ^ j.toNat)) else none) ds
  | .shl => on2 (onI fun i j => if shlOk i j = true then some (.int (i * 2 ^ j.toNat)) else none) ds
  | .shr => on2 (onI fun i j => if 0 ≤ j then some (.int (i / 2 ^ j.toNat)) else none) ds
  | .band => on2 (onI fun i j => some (.int (Builtin.bitAnd i j))) ds
  | .eq => on2 (fun x y => (semEq x y).map .bl) ds
  | .ne => on2 (fun x y => (semEq x y).map fun b => .bl !b) ds
  | .lt => on2 (onI fun i j => some (.bl (decide (i < j)))) ds
  | .le => on2 (onI fun i j => some (.bl (decide (i ≤ j)))) ds
  | .gt => on2 (onI fun i j => some (.bl (decide (j < i)))) ds
  | .ge => on2 (onI fun i j => some (.bl (decide (j ≤ i)))) ds
  | .isN => on1 (semIsN true) ds
  | .notN => on1 (semIsN false) ds
  | .isB => on2 (semIsB true) ds
  | .notB => on2 (semIsB false) ds
  | .neg => on1 semNeg ds
  | .not => on1 semNot ds
  | .mkTup => if ds.length ≤ sizeLine then some (.tup ds) else none
  | .mkLst => if ds.length ≤ sizeLine then some (.lst ds) else none
  | .mkDct ks => match ks, ds with
    | [], [] => some (.dct [])
    | _, _ => none
  | .ix => on2 semIx ds
  | .abs => on1 semAbs ds
  | .len => on1 semLen ds
  | .min2 => on2 (onI fun i j => some (.int (if j < i then j else i))) ds
  | .max2 => on2 (onI fun i j => some (.int (if j > i then j else i))) ds
  | .toInt => on1 semToInt ds
  | .isinst => on2 (semIsI k) ds
  | .slo => on2 semSlo ds
  | .in_ => on2 (fun x y => (semIn x y).map .bl) ds
  | .notIn => on2 (fun x y => (semIn x y).map fun b => .bl !b) ds
  | .all => on1 semAll ds
  | .any => on1 semAny ds
  | .repr_ => on1 semRepr ds
  | .addL => on2 semAddL ds
  | .sum => on1 semSum ds
  | .maxL => on1 semMax1 ds
  | .shi => on2 semShi ds
  | .slb => semSlb ds
  | .toLst => on1 semToLst ds
  | .toTup => on1 semToTup ds
  | .revL => on1 semRevL ds
  | .tupRg => on1 semTupRg ds
  | .lstRg => on1 semLstRg ds
  | .str_ => on1 semStr ds
  | .rev => on1 semRev ds
  | _ => none

def zipD : List D → List D → List D
  | x :: xs, y :: ys => .tup [x, y] :: zipD xs ys
  | _, _ => []
/-- a text's letters -/
def strD (x : Str) : List D := x.cps.toList.map fun c => .str ⟨#[c]⟩
def enumD : Nat → List D → List D
  | _, [] => []
  | n, x :: xs => .tup [.int (n : Int), x] :: enumD (n + 1) xs
/-- what is walked, as a list -/
def Ik.items : Ik → List D → Option (List D)
  | .seq, [.lst xs] => some xs
  | .seq, [.frz xs] => some xs
  | .seq, [.tup xs] => some xs
  | .zip, [.lst xs, .lst ys] => some (zipD xs ys)
  | .zip, [.tup xs, .tup ys] => some (zipD xs ys)
  | .zip, [.str x, .tup ys] => some (zipD (strD x) ys)
  | .enum, [.lst xs] => some (enumD 0 xs)
  | .rng, [.int n] => if n < 2 ^ 62 ∧ -(2 ^ 62) ≤ n then some ((List.range n.toNat).map fun (k : Nat) => D.int (k : Int)) else none
  | .rng, [.int a, .int b] => if (b < 2 ^ 62 ∧ -(2 ^ 62) ≤ b) ∧ (a < 2 ^ 62 ∧ -(2 ^ 62) ≤ a) then some ((List.range (b - a).toNat).map fun (k : Nat) => D.int (a + (k : Int))) else none
  | _, _ => none

def setSl : List Sl → List Nat → List D → Option (List Sl)
  | ρ, [], [] => some ρ
  | ρ, i :: is, d :: ds => setSl (ρ.set i (.val d)) is ds
  | _, _, _ => none
def Tg.bind (t : Tg) (d : D) (ρ : List Sl) : Option (List Sl) := match t with
  | .nm i => some (ρ.set i (.val d))
  | .tp is => match d with
    | .tup ds => setSl ρ is ds
    | _ => none
def Tg.slots : Tg → List Nat
  | .nm i => [i]
  | .tp is => is

/-- the slot i as an expression sees it -/
def seen (rd : List Nat) (ρ : List Sl) (i : Nat) : Option D := match ρ[i]? with
  | some (.val d) => some d
  | some (.own ds) => if rd.contains i then some (.lst ds) else none
  | _ => none
def wipeSl (ρ : List Sl) : List Nat → List Sl
  | [] => ρ
  | v :: vs => (wipeSl ρ vs).set v .un

def addO : Option D → List D → List D
  | some d, xs => d :: xs
  | none, xs => xs
/-- a comprehension's turns: f gives what is added, if anything -/
def evTurns (f : D → G → R (Option D × G)) : List D → G → R (List D × G)
  | [], g => .ok ([], g)
  | x :: xs, g => (f x g).bind fun p => (evTurns f xs p.2).bind fun q => .ok (addO p.1 q.1, q.2)

/-- an exception within a comprehension is not served -/
def R.noexc {α : Type} : R α → R α
  | .ok a => .ok a
  | _ => .bad

def oget (g : G) (k : Nat) (key : Str) : Option Fld := match g[k]? with
  | some o => o.lookup key
  | none => none
def putK1 (key : Str) (f : Fld) : Obj1 → Obj1
  | [] => []
  | (k, v) :: r => if k = key then (k, f) :: r else (k, v) :: putK1 key f r
def oput (g : G) (k : Nat) (key : Str) (f : Fld) : G := match g[k]? with
  | some o => g.set k (putK1 key f o)
  | none => g
def mkFlds : List Str → List D → Option Obj1
  | [], [] => some []
  | k :: ks, d :: ds => if d.imm = true then (mkFlds ks ds).map ((k, .imm d) :: ·) else none
  | _, _ => none
def nodupS : List Str → Bool
  | [] => true
  | k :: ks => !ks.contains k && nodupS ks
def isFresh : E → Bool
  | .prim .mkLst _ => true
  | .prim .addL _ => true
  | .prim .toLst _ => true
  | .comp _ _ _ _ _ => true
  | _ => false

def freshen : E → E
  | .prim .add es => .prim .addL es
  | A => A
/-- what a def comes to: the def's number, its arguments, the ambient objects -/
abbrev Cal := Nat → List D → G → R (D × G)

section
variable (kl : Kl) (cl : Cal) (rd : List Nat)
mutual
def evE : E → List Sl → G → R (D × G)
  | .var i, ρ, g => match seen rd ρ i with
    | some d => .ok (d, g)
    | none => .bad
  | .con d, _, g => .ok (d, g)
  | .prim p es, ρ, g => (evEs es ρ g).bind fun q => match p.sem kl q.1 with
    | some d => .ok (d, q.2)
    | none => .bad
  | .and a b, ρ, g => (evE a ρ g).bind fun q => match q.1 with
    | .bl true => evE b ρ q.2
    | .bl false => .ok (.bl false, q.2)
    | _ => .bad
  | .or a b, ρ, g => (evE a ρ g).bind fun q => match q.1 with
    | .bl false => evE b ρ q.2
    | .bl true => .ok (.bl true, q.2)
    | _ => .bad
  | .ite c a b, ρ, g => (evE c ρ g).bind fun q => match q.1 with
    | .bl true => evE a ρ q.2
    | .bl false => evE b ρ q.2
    | _ => .bad
  | .chain p q a b c, ρ, g => (evE a ρ g).bind fun x => (evE b ρ x.2).bind fun y => match p.sem kl [x.1, y.1] with
    | some (.bl true) => (evE c ρ y.2).bind fun z => match q.sem kl [y.1, z.1] with
      | some d => .ok (d, z.2)
      | none => .bad
    | some (.bl false) => .ok (.bl false, y.2)
    | _ => .bad
  | .call f es, ρ, g => (evEs es ρ g).bind fun q => cl f q.1 q.2
  | .callv e es, ρ, g => (evE e ρ g).bind fun x => match x.1 with
    | .fn f => (evEs es ρ x.2).bind fun q => cl f q.1 q.2
    | _ => .bad
  | .callp i fs es, ρ, g => match seen rd ρ i with
    | some (.fn f) => if fs.contains f = true then (evEs es ρ g).bind fun q => cl f q.1 q.2 else .bad
    | some (.lam b) => (evEs es ρ g).bind fun q => if q.1.length = 1 then .ok (.bl b, q.2) else .bad
    | _ => .bad
  | .lam b, _, g => .ok (.lam b, g)
  | .cget kvs e f, ρ, g => (evE e ρ g).bind fun x => (evE f ρ x.2).bind fun y => match x.1 with
    | .str k => .ok ((kvs.lookup k).getD y.1, y.2)
    | _ => .bad
  | .cix kvs e, ρ, g => (evE e ρ g).bind fun x => match x.1 with
    | .str k => match kvs.lookup k with
      | some d => .ok (d, x.2)
      | none => .bad
    | _ => .bad
  | .cin neg kvs e, ρ, g => (evE e ρ g).bind fun x => match x.1 with
    | .str k => .ok (.bl ((kvs.lookup k).isSome != neg), x.2)
    | _ => .bad
  | .comp k es tg cond elt, ρ, g => (evEs es ρ g).bind fun q => match k.items q.1 with
    | some xs => ((evTurns (fun x g1 => match tg.bind x (wipeSl ρ tg.slots) with
        | some ρ1 => (evE cond ρ1 g1).bind fun c => match c.1 with
          | .bl true => (evE elt ρ1 c.2).bind fun y => .ok (some y.1, y.2)
          | .bl false => .ok (none, c.2)
          | _ => .bad
        | none => .bad) xs q.2).noexc).bind fun r => if r.1.length ≤ sizeLine then .ok (.lst r.1, r.2) else .bad
    | none => .bad
  | .hget e key, ρ, g => (evE e ρ g).bind fun x => match x.1 with
    | .hnd k => match oget x.2 k key with
      | some (.imm d) => .ok (d, x.2)
      | _ => .bad
    | _ => .bad
  | .hgetix e key j, ρ, g => (evE e ρ g).bind fun x => match x.1 with
    | .hnd k => match oget x.2 k key with
      | some f => match seen rd ρ j with
        | some i => match semIx f.asD i with
          | some z => .ok (z, x.2)
          | none => .bad
        | none => .bad
      | none => .bad
    | _ => .bad
  | .hnew ks es, ρ, g => (evEs es ρ g).bind fun q => if nodupS ks = true ∧ ks.length ≤ 15 then match mkFlds ks q.1 with
      | some o => .ok (.hnd q.2.length, q.2 ++ [o])
      | none => .bad
    else .bad
  | .hnewL k1 k2 k3 e1 e2 d3, ρ, g => if nodupS [k1, k2, k3] = true then
      (evE e1 ρ g).bind fun x => (evE e2 ρ x.2).bind fun y => match y.1 with
        | .lst ys => if x.1.imm = true ∧ D.immAll ys = true ∧ d3.imm = true then .ok (.hnd y.2.length, y.2 ++ [[(k1, .imm x.1), (k2, .own ys), (k3, .imm d3)]]) else .bad
        | _ => .bad
    else .bad
def evEs : Es → List Sl → G → R (List D × G)
  | .nil, _, g => .ok ([], g)
  | .cons e es, ρ, g => (evE e ρ g).bind fun x => (evEs es ρ x.2).bind fun y => .ok (x.1 :: y.1, y.2)
end
end

/-- own slots read by their lists are no longer the def's own, where what was told is a list itself -/
def freeze (rd : List Nat) (ρ : List Sl) : List Sl := go 0 ρ
where
  go (i : Nat) : List Sl → List Sl
    | [] => []
    | .own ds :: r => (if rd.contains i then .val (.lst ds) else .own ds) :: go (i + 1) r
    | s :: r => s :: go (i + 1) r
def after (rd : List Nat) (d : D) (ρ : List Sl) : List Sl := if d.imm = true then ρ else freeze rd ρ

/-- the slots that hold no list: what a call's own list may be made of -/
def immSl1 : Sl → Sl
  | .val d => if d.imm = true then .val d else .un
  | _ => .un
def immSl (ρ : List Sl) : List Sl := ρ.map immSl1
def SR.ofR {α : Type} (ρ : List Sl) (f : α → SR) : R α → SR
  | .ok a => f a
  | .exc c fs g => .exc c fs ρ g
  | .bad => .bad
@[simp] theorem SR.ofR_ok {α : Type} (ρ : List Sl) (f : α → SR) (a : α) : SR.ofR ρ f (.ok a) = f a := rfl
@[simp] theorem SR.ofR_exc {α : Type} (ρ : List Sl) (f : α → SR) (c : Nat) (fs : List (Str × D)) (g : G) : SR.ofR ρ f (.exc c fs g) = .exc c fs ρ g := rfl
@[simp] theorem SR.ofR_bad {α : Type} (ρ : List Sl) (f : α → SR) : SR.ofR ρ f .bad = .bad := rfl

/-- a while loop, so many turns at most -/
def evWhl (c : List Sl → G → R (D × G)) (b : List Sl → G → SR) : Nat → List Sl → G → SR
  | 0, _, _ => .bad
  | w + 1, ρ, g => SR.ofR ρ (fun q => match q.1 with
    | .bl true => match b ρ q.2 with
      | .nx ρ1 g1 => evWhl c b w ρ1 g1
      | .ct ρ1 g1 => evWhl c b w ρ1 g1
      | .bk ρ1 g1 => .nx ρ1 g1
      | r => r
    | .bl false => .nx ρ q.2
    | _ => .bad) (c ρ g)
/-- a for loop over items -/
def evFor (tg : Tg) (b : List Sl → G → SR) : List D → List Sl → G → SR
  | [], ρ, g => .nx ρ g
  | x :: xs, ρ, g => match tg.bind x ρ with
    | some ρ1 => match b ρ1 g with
      | .nx ρ2 g2 => evFor tg b xs ρ2 g2
      | .ct ρ2 g2 => evFor tg b xs ρ2 g2
      | .bk ρ2 g2 => .nx ρ2 g2
      | r => r
    | none => .bad

section
variable (kl : Kl) (cl : Cal) (w : Nat)
mutual
def evS : S → List Sl → G → SR
  | .set i rd e, ρ, g => SR.ofR ρ (fun q => .nx ((after rd q.1 ρ).set i (.val q.1)) q.2) (evE kl cl rd e ρ g)
  | .own i rd e, ρ, g => if isFresh e = true ∧ i < ρ.length then SR.ofR ρ (fun q => match q.1 with
      | .lst ds => .nx ((if D.immAll ds = true then ρ else freeze rd ρ).set i (.own ds)) q.2
      | _ => .bad) (evE kl cl rd e ρ g) else .bad
  | .unp is rd e, ρ, g => SR.ofR ρ (fun q => match q.1 with
      | .tup ds => match setSl (after rd q.1 ρ) is ds with
        | some ρ1 => .nx ρ1 q.2
        | none => .bad
      | .lst ds => match setSl (after rd q.1 ρ) is ds with
        | some ρ1 => .nx ρ1 q.2
        | none => .bad
      | _ => .bad) (evE kl cl rd e ρ g)
  | .par is rd es, ρ, g => SR.ofR ρ (fun q => match setSl (after rd (.tup q.1) ρ) is q.1 with
      | some ρ1 => .nx ρ1 q.2
      | none => .bad) (evEs kl cl rd es ρ g)
  | .aug i rd e, ρ, g => match ρ[i]? with
    | some (.val d0) => SR.ofR ρ (fun q => match semAug d0 q.1 with
      | some d => .nx ((after rd d ρ).set i (.val d)) q.2
      | none => .bad) (evE kl cl rd e ρ g)
    | _ => .bad
  | .app i rd e, ρ, g => match ρ[i]? with
    | some (.own _) => SR.ofR ρ (fun q => match (after rd q.1 ρ)[i]? with
      | some (.own ds) => if ds.length < sizeLine then .nx ((after rd q.1 ρ).set i (.own (ds ++ [q.1]))) q.2 else .bad
      | _ => .bad) (evE kl cl rd e ρ g)
    | _ => .bad
  | .ext i rd e, ρ, g => match ρ[i]? with
    | some (.own _) => SR.ofR ρ (fun q => match q.1 with
      | .lst xs => match (after rd q.1 ρ)[i]? with
        | some (.own ds) => if ds.length + xs.length ≤ sizeLine then .nx ((after rd q.1 ρ).set i (.own (ds ++ xs))) q.2 else .bad
        | _ => .bad
      | _ => .bad) (evE kl cl rd e ρ g)
    | _ => .bad
  | .setix i rd e1 e2, ρ, g => match ρ[i]? with
    | some (.own ds) => SR.ofR ρ (fun q => SR.ofR ρ (fun r => match r.1 with
      | .int n => match place ds.length n with
        | some m => if q.1.imm = true then .nx (ρ.set i (.own (ds.set m q.1))) r.2 else .bad
        | none => .bad
      | _ => .bad) (evE kl cl [] e1 ρ q.2)) (evE kl cl rd e2 ρ g)
    | _ => .bad
  | .ins i rd es, ρ, g => match ρ[i]? with
    | some (.own ds) => SR.ofR ρ (fun q => match q.1 with
      | [.int n, d] => if d.imm = true ∧ ds.length < sizeLine ∧ 0 ≤ n ∧ n < 2 ^ 63 then .nx (ρ.set i (.own (ds.take n.toNat ++ [d] ++ ds.drop n.toNat))) q.2 else .bad
      | _ => .bad) (evEs kl cl rd es ρ g)
    | _ => .bad
  | .ownc i e, ρ, g => if i < ρ.length then SR.ofR ρ (fun q => match q.1 with
      | .lst ds => if D.immAll ds = true then .nx (ρ.set i (.own ds)) q.2 else .bad
      | _ => .bad) (evE kl cl [] e (immSl ρ) g) else .bad
  | .par0 i j rd e, ρ, g => if i < ρ.length ∧ i ≠ j then SR.ofR ρ (fun q => .nx (((after rd q.1 ρ).set i (.own [])).set j (.val q.1)) q.2) (evE kl cl rd e ρ g) else .bad
  | .clr i, ρ, g => match ρ[i]? with
    | some (.own _) => .nx (ρ.set i (.own [])) g
    | _ => .bad
  | .hset e key v, ρ, g => SR.ofR ρ (fun x => SR.ofR ρ (fun y => match y.1 with
      | .hnd k => match oget y.2 k key with
        | some (.imm _) => if x.1.imm = true then .nx ρ (oput y.2 k key (.imm x.1)) else .bad
        | _ => .bad
      | _ => .bad) (evE kl cl [] e ρ x.2)) (evE kl cl [] v ρ g)
  | .hsetix e key j v, ρ, g => SR.ofR ρ (fun x => SR.ofR ρ (fun y => match y.1 with
      | .hnd k => match oget y.2 k key, seen [] ρ j with
        | some (.own ds), some (.int n) => match place ds.length n with
            | some m => if x.1.imm = true then .nx ρ (oput y.2 k key (.own (ds.set m x.1))) else .bad
            | none => .bad
        | _, _ => .bad
      | _ => .bad) (evE kl cl [] e ρ x.2)) (evE kl cl [] v ρ g)
  | .expr rd e, ρ, g => SR.ofR ρ (fun q => .nx ρ q.2) (evE kl cl rd e ρ g)
  | .ret rd e, ρ, g => SR.ofR ρ (fun q => .rt q.1 q.2) (evE kl cl rd e ρ g)
  | .retN, _, g => .rt .non g
  | .ite rd c a b, ρ, g => SR.ofR ρ (fun q => match q.1 with
      | .bl true => evSs a ρ q.2
      | .bl false => evSs b ρ q.2
      | _ => .bad) (evE kl cl rd c ρ g)
  | .whl rd c b, ρ, g => evWhl (evE kl cl rd c) (evSs b) w ρ g
  | .for k rd es tg b, ρ, g => SR.ofR ρ (fun q => match k.items q.1 with
      | some xs => evFor tg (evSs b) xs (freeze rd ρ) q.2
      | none => .bad) (evEs kl cl rd es ρ g)
  | .rais c, ρ, g => .exc c [] ρ g
  | .try_ b c v i, ρ, g => match evSs b ρ g with
    | .exc c' fs ρ1 g1 => match kl.own c' c with
      | some true => (match v with
        | some j => if j < ρ1.length then .nx (((ρ1.set j (.val (.exc c' fs))).set i (.val (.exc c' fs))).set j .un) g1 else .bad
        | none => .nx (ρ1.set i (.val .non)) g1)
      | some false => .exc c' fs ρ1 g1
      | none => .bad
    | r => r
  | .pass, ρ, g => .nx ρ g
  | .brk, ρ, g => .bk ρ g
  | .cnt, ρ, g => .ct ρ g
def evSs : Ss → List Sl → G → SR
  | .nil, ρ, g => .nx ρ g
  | .cons s r, ρ, g => match evS s ρ g with
    | .nx ρ1 g1 => evSs r ρ1 g1
    | r1 => r1
end
end

def startSl (f : FD) (ds : List D) : List Sl := ds.map .val ++ List.replicate (f.ns - ds.length) .un

/-- the whole text: so many calls deep at most, so many turns a while loop at most -/
def run (kl : Kl) (tb : List FD) (w : Nat) : Nat → Cal
  | 0, _, _, _ => .bad
  | n + 1, f, ds, g => match tb[f]? with
    | none => .bad
    | some fd => if ds.length = fd.np then match evSs kl (run kl tb w n) w fd.body (startSl fd ds) g with
        | .nx _ g1 => .ok (.non, g1)
        | .rt d g1 => .ok (d, g1)
        | .exc c fs _ g1 => .exc c fs g1
        | _ => .bad
      else .bad

end Z

set_option Elab.async false
set_option linter.all false
set_option maxRecDepth 100000
set_option maxHeartbeats 4000000
/-! Z2: how data lies in the heap; the states; what an expression's evaluation means. -/
namespace Z
open PySem PySem.Spec PyProof.Rows L2

inductive Tag where
  | obj (k : Nat)
  | fld (k : Nat) (key : Str)
  | slot (i : Nat)
  | tab (k : Nat)
  deriving DecidableEq

/-- where the text's own classes and defs stand -/
structure Tb where
  cls : Nat → Option Addr
  fn : Nat → Option Addr
  tabs : List (Addr × Str) := []
  cds : List (Addr × Addr) := []

/-- the exception kept at a -/
def excH (a C : Addr) (dd : Option Addr) : HO := .ext fun h => ∃ o, h.get? a = some o ∧ Zc (.ref C) dd o ∧ ∃ vs, o.data = .fields vs

/-- a lambda of one name, that tells b -/
def lamB (params : Arguments) (body : Expr) (scope : Scope) : Option Bool := match params, body, scope with
  | ⟨[], [⟨x, none, _⟩], none, [], [], none, []⟩, .Constant (.bool b) _ _, ⟨.function, [(y, .local)], false, false, _⟩ => if x = y then some b else none
  | _, _, _ => none
def LamO (f c : Addr) (q : Str) (b : Bool) : HO := .ext fun h => ∃ (params : Arguments) (body : Expr) (scope : Scope) (pm ctv : Value),
  h.get? f = some (PySem.W.kla_obj "<lambda>" q params body scope [] pm c ctv) ∧ lamB params body scope = some b
/-- a list that nobody changes: the script -/
def FzL (K : PySem.W.Frag) (H : Hp) (a : Addr) (vs : List V) : Prop := (∃ o, H a = some (.frz o (.lst vs))) ∨
    ∃ (o : Obj) (its : Array Value) (n : Nat), K.lookup a = some o ∧ o.cls = .type "list" ∧ o.dict = none ∧ o.data = .seq its n ∧ its.size ≤ sizeLine ∧ Vals vs its.toList
theorem FzL.sq {K : PySem.W.Frag} {H : Hp} {a : Addr} {vs : List V} (h : FzL K H a vs) : SqL K H a vs := h.elim (fun ⟨o, h⟩ => .inl (.inr ⟨o, h⟩)) .inr
theorem FzL.ty {K : PySem.W.Frag} {H : Hp} {a : Addr} {vs : List V} (h : FzL K H a vs) : TyX K H (.ref a) (.type "list") := by
  rcases h with ⟨o, h⟩ | ⟨o, its, n, h1, h2, _⟩
  · exact .base (.frz h)
  · exact .kList h1 h2
mutual
/-- v, in the abstract heap H, is worth d; lists and the like stand at addresses of A -/
inductive Rep (T : Tb) (K : PySem.W.Frag) (hm : List Addr) (A : Addr → Prop) (H : Hp) : V → D → Prop
  | non : Rep T K hm A H .non .non
  | bl (b : Bool) : Rep T K hm A H (.bl b) (.bl b)
  | int (i : Int) : Rep T K hm A H (.int i) (.int i)
  | str (x : Str) : Rep T K hm A H (.str x) (.str x)
  | ty (n : String) : Rep T K hm A H (.ty n) (.ty n)
  | cls {c : Nat} {a : Addr} : T.cls c = some a → Rep T K hm A H (.ref a) (.cls c)
  | fn {f : Nat} {a : Addr} : T.fn f = some a → Rep T K hm A H (.ref a) (.fn f)
  | hnd {k : Nat} {a : Addr} : hm[k]? = some a → Rep T K hm A H (.ref a) (.hnd k)
  | tup {a : Addr} {vs : List V} {ds : List D} : SqT K H a vs → Reps T K hm A H vs ds → Rep T K hm A H (.ref a) (.tup ds)
  | lst {a : Addr} {vs : List V} {ds : List D} : H a = some (.lst vs) → A a → Reps T K hm A H vs ds → Rep T K hm A H (.ref a) (.lst ds)
  | frz {a : Addr} {vs : List V} {ds : List D} : FzL K H a vs → Reps T K hm A H vs ds → Rep T K hm A H (.ref a) (.frz ds)
  | dct {a : Addr} {kvs : List (Key × V)} {ds : List (Str × D)} : Rd H a (.dK kvs) → A a → RepD T K hm A H kvs ds → Rep T K hm A H (.ref a) (.dct ds)
  | lam {a c : Addr} {q : Str} {b : Bool} : H a = some (LamO a c q b) → H c = some (LamX.CodeO c q) → Rep T K hm A H (.ref a) (.lam b)
  | exc {a C : Addr} {c : Nat} {dd : Option Addr} {fs : List (Str × D)} : T.cls c = some C → H a = some (excH a C dd) → RepX T K hm A H dd fs → Rep T K hm A H (.ref a) (.exc c fs)
inductive Reps (T : Tb) (K : PySem.W.Frag) (hm : List Addr) (A : Addr → Prop) (H : Hp) : List V → List D → Prop
  | nil : Reps T K hm A H [] []
  | cons {v : V} {vs : List V} {d : D} {ds : List D} : Rep T K hm A H v d → Reps T K hm A H vs ds → Reps T K hm A H (v :: vs) (d :: ds)
inductive RepD (T : Tb) (K : PySem.W.Frag) (hm : List Addr) (A : Addr → Prop) (H : Hp) : List (Key × V) → List (Str × D) → Prop
  | nil : RepD T K hm A H [] []
  | cons {k : Str} {v : V} {vs : List (Key × V)} {d : D} {ds : List (Str × D)} : Rep T K hm A H v d → RepD T K hm A H vs ds → RepD T K hm A H ((.inr k, v) :: vs) ((k, d) :: ds)
/-- an exception's own dict -/
inductive RepX (T : Tb) (K : PySem.W.Frag) (hm : List Addr) (A : Addr → Prop) (H : Hp) : Option Addr → List (Str × D) → Prop
  | none : RepX T K hm A H none []
  | one {d : Addr} {k : Str} {v : V} {x : D} : H d = some (.xd [(k, v)]) → x.imm = true → Rep T K hm A H v x → RepX T K hm A H (some d) [(k, x)]
end

def fixd : HO → Bool
  | .tup _ => true
  | .frz _ _ => true
  | .xd _ => true
  | .ext _ => true
  | _ => false

section
variable {T : Tb} {K : PySem.W.Frag} {hm hm' : List Addr} {A A' : Addr → Prop} {H H' : Hp}
/-- what data leans on -/
structure Kept (hm hm' : List Addr) (A A' : Addr → Prop) (H H' : Hp) : Prop where
  at_ : ∀ a o, A a → H a = some o → H' a = some o ∧ A' a
  fx : ∀ a o, fixd o = true → H a = some o → H' a = some o
  pre : hm <+: hm'
theorem Kept.seqT (k : Kept hm hm' A A' H H') {a : Addr} {xs : List V} (h : SqT K H a xs) : SqT K H' a xs := by
  rcases h with (h | ⟨o, h⟩) | h
  · exact .inl (.inl (k.fx _ _ rfl h))
  · exact .inl (.inr ⟨o, k.fx _ _ rfl h⟩)
  · exact .inr h
theorem Kept.fzl (k : Kept hm hm' A A' H H') {a : Addr} {xs : List V} (h : FzL K H a xs) : FzL K H' a xs := h.imp (fun ⟨o, h⟩ => ⟨o, k.fx _ _ rfl h⟩) id
theorem Kept.rd (k : Kept hm hm' A A' H H') {a : Addr} {u : HO} (h : Rd H a u) (ha : A a) : Rd H' a u ∧ A' a := by
  rcases h with h | ⟨o, h⟩
  · exact ⟨.inl (k.at_ _ _ ha h).1, (k.at_ _ _ ha h).2⟩
  · exact ⟨.inr ⟨o, (k.at_ _ _ ha h).1⟩, (k.at_ _ _ ha h).2⟩
theorem Kept.hmk (k : Kept hm hm' A A' H H') {i : Nat} {a : Addr} (h : hm[i]? = some a) : hm'[i]? = some a := by
  obtain ⟨t, rfl⟩ := k.pre
  rw [List.getElem?_append_left (List.getElem?_eq_some_iff.mp h).1]
  exact h
mutual
theorem Rep.keep (k : Kept hm hm' A A' H H') : ∀ {v : V} {d : D}, Rep T K hm A H v d → Rep T K hm' A' H' v d
  | _, _, .non => .non
  | _, _, .bl b => .bl b
  | _, _, .int i => .int i
  | _, _, .str x => .str x
  | _, _, .ty n => .ty n
  | _, _, .cls h => .cls h
  | _, _, .fn h => .fn h
  | _, _, .hnd h => .hnd (k.hmk h)
  | _, _, .tup h r => .tup (k.seqT h) (Reps.keep k r)
  | _, _, .lst h a r => .lst (k.at_ _ _ a h).1 (k.at_ _ _ a h).2 (Reps.keep k r)
  | _, _, .frz h r => .frz (k.fzl h) (Reps.keep k r)
  | _, _, .dct h a r => .dct (k.rd h a).1 (k.rd h a).2 (RepD.keep k r)
  | _, _, .lam h1 h2 => .lam (k.fx _ _ rfl h1) (k.fx _ _ rfl h2)
  | _, _, .exc c h r => .exc c (k.fx _ _ rfl h) (RepX.keep k r)
theorem Reps.keep (k : Kept hm hm' A A' H H') : ∀ {vs : List V} {ds : List D}, Reps T K hm A H vs ds → Reps T K hm' A' H' vs ds
  | _, _, .nil => .nil
  | _, _, .cons r rs => .cons (Rep.keep k r) (Reps.keep k rs)
theorem RepD.keep (k : Kept hm hm' A A' H H') : ∀ {vs : List (Key × V)} {ds : List (Str × D)}, RepD T K hm A H vs ds → RepD T K hm' A' H' vs ds
  | _, _, .nil => .nil
  | _, _, .cons r rs => .cons (Rep.keep k r) (RepD.keep k rs)
theorem RepX.keep (k : Kept hm hm' A A' H H') : ∀ {vs : Option Addr} {ds : List (Str × D)}, RepX T K hm A H vs ds → RepX T K hm' A' H' vs ds
  | _, _, .none => .none
  | _, _, .one h e r => .one (k.fx _ _ rfl h) e (Rep.keep k r)
end
mutual
/-- data without lists leans on no address of A -/
theorem Rep.imm : ∀ {d : D} {v : V}, d.imm = true → Rep T K hm A H v d → Rep T K hm A' H v d
  | .non, _, _, .non => .non
  | .bl _, _, _, .bl b => .bl b
  | .int _, _, _, .int i => .int i
  | .str _, _, _, .str x => .str x
  | .ty _, _, _, .ty n => .ty n
  | .cls _, _, _, .cls h => .cls h
  | .fn _, _, _, .fn h => .fn h
  | .hnd _, _, _, .hnd h => .hnd h
  | .tup ds, _, e, .tup h r => .tup h (Reps.imm (by simpa [D.imm] using e) r)
  | .frz ds, _, e, .frz h r => .frz h (Reps.imm (by simpa [D.imm] using e) r)
  | .lst _, _, e, _ => by simp [D.imm] at e
  | .dct _, _, e, _ => by simp [D.imm] at e
  | .lam _, _, _, .lam h1 h2 => .lam h1 h2
  | .exc _ _, _, _, .exc c h r => .exc c h (RepX.imm r)
theorem Reps.imm : ∀ {ds : List D} {vs : List V}, D.immAll ds = true → Reps T K hm A H vs ds → Reps T K hm A' H vs ds
  | [], _, _, .nil => .nil
  | d :: ds, _, e, .cons r rs => by
    have e : (d.imm && D.immAll ds) = true := by simpa [D.immAll] using e
    rw [Bool.and_eq_true] at e
    exact .cons (Rep.imm e.1 r) (Reps.imm e.2 rs)
theorem RepX.imm : ∀ {ds : List (Str × D)} {vs : Option Addr}, RepX T K hm A H vs ds → RepX T K hm A' H vs ds
  | [], _, .none => .none
  | [(k, x)], _, .one h e r => .one h e (Rep.imm e r)
end
end

/-! ### states -/
structure Gh where
  H : Hp
  hm : List Addr
  ow : Addr → Option Tag
  g : G

def Al (S : Addr → Prop) (st : Gh) : Addr → Prop := fun a => S a ∧ st.ow a = none
abbrev RepS (T : Tb) (K : PySem.W.Frag) (S : Addr → Prop) (st : Gh) (v : V) (d : D) : Prop := Rep T K st.hm (Al S st) st.H v d
abbrev RepsS (T : Tb) (K : PySem.W.Frag) (S : Addr → Prop) (st : Gh) (v : List V) (d : List D) : Prop := Reps T K st.hm (Al S st) st.H v d

/-- the fields of the ambient object k -/
inductive FldsR (T : Tb) (K : PySem.W.Frag) (S : Addr → Prop) (st : Gh) (k : Nat) : List (Key × V) → Obj1 → Prop
  | nil : FldsR T K S st k [] []
  | imm {n : Str} {v : V} {d : D} {kvs : List (Key × V)} {o : Obj1} : d.imm = true → RepS T K S st v d → FldsR T K S st k kvs o → FldsR T K S st k ((.inr n, v) :: kvs) ((n, .imm d) :: o)
  | own {n : Str} {l : Addr} {vs : List V} {ds : List D} {kvs : List (Key × V)} {o : Obj1} : D.immAll ds = true → st.ow l = some (.fld k n) → st.H l = some (.lst vs) → RepsS T K S st vs ds → FldsR T K S st k kvs o → FldsR T K S st k ((.inr n, .ref l) :: kvs) ((n, .own ds) :: o)

/-- the code objects that a def's lambdas have so far -/
def TabsH (T : Tb) (H : Hp) (ow : Addr → Option Tag) : Prop := ∀ p ∈ T.tabs, LamX.TabS H p.1 p.2 ∧ ∃ k, ow p.1 = some (.tab k)
theorem TabsH.keep {T : Tb} {H H' : Hp} {ow ow' : Addr → Option Tag} (t : TabsH T H ow) (h : ∀ a k u, ow a = some (.tab k) → H a = some u → H' a = some u ∧ ow' a = some (.tab k)) (fx : ∀ a u, fixd u = true → H a = some u → H' a = some u) : TabsH T H' ow' := fun q hq => by
  obtain ⟨⟨ps, h1, h2, h3⟩, k, hk⟩ := t q hq
  obtain ⟨e1, e2⟩ := h _ _ _ hk h1
  exact ⟨⟨ps, e1, h2, fun pos cv hc => let ⟨c, f1, f2⟩ := h3 pos cv hc; ⟨c, f1, fx _ _ rfl f2⟩⟩, k, e2⟩
structure GOk (T : Tb) (K : PySem.W.Frag) (S : Addr → Prop) (st : Gh) : Prop where
  live : ∀ a t, st.ow a = some t → ∃ o, st.H a = some o ∧ fixd o = false
  fr : ∀ a, st.H a = none → S a
  len : st.hm.length = st.g.length
  obj : ∀ k o, st.g[k]? = some o → ∃ a kvs, st.hm[k]? = some a ∧ st.ow a = some (.obj k) ∧ st.H a = some (.dK kvs) ∧ FldsR T K S st k kvs o ∧ o.length ≤ 1000 ∧ (o.map (·.1)).Nodup
  tab : TabsH T st.H st.ow

/-- from one state to a later one, within an expression -/
structure Step (st st' : Gh) : Prop where
  pre : st.hm <+: st'.hm
  keep : ∀ a o, st.H a = some o → st.ow a = none → st'.H a = some o ∧ st'.ow a = none
  slot : ∀ a i, st.ow a = some (.slot i) → st'.ow a = some (.slot i) ∧ st'.H a = st.H a
  slot' : ∀ a i, st'.ow a = some (.slot i) → st.ow a = some (.slot i)
  own : ∀ a t, st.ow a = some t → st'.ow a = some t
theorem Step.refl (st : Gh) : Step st st := ⟨List.prefix_refl _, fun _ _ h h' => ⟨h, h'⟩, fun _ _ h => ⟨h, rfl⟩, fun _ _ h => h, fun _ _ h => h⟩
theorem Step.trans {a b c : Gh} (x : Step a b) (y : Step b c) : Step a c where
  pre := x.pre.trans y.pre
  keep := fun p o h h' => let ⟨h1, h2⟩ := x.keep p o h h'; y.keep p o h1 h2
  slot := fun p i h => let ⟨h1, h2⟩ := x.slot p i h; let ⟨h3, h4⟩ := y.slot p i h1; ⟨h3, h4.trans h2⟩
  slot' := fun p i h => x.slot' p i (y.slot' p i h)
  own := fun p t h => y.own p t (x.own p t h)

section
variable {T : Tb} {K : PySem.W.Frag} {S : Addr → Prop} {st st' : Gh}
theorem GOk.fixow (ok : GOk T K S st) {a : Addr} {o : HO} (h : st.H a = some o) (f : fixd o = true) : st.ow a = none := by
  cases e : st.ow a with
  | none => rfl
  | some t =>
    obtain ⟨o', h1, h2⟩ := ok.live a t e
    rw [h] at h1; cases h1
    rw [f] at h2; cases h2
theorem Step.kept (s : Step st st') (ok : GOk T K S st) : Kept st.hm st'.hm (Al S st) (Al S st') st.H st'.H where
  at_ := fun a o ⟨h1, h2⟩ h => let ⟨h3, h4⟩ := s.keep a o h h2; ⟨h3, h1, h4⟩
  fx := fun a o f h => (s.keep a o h (ok.fixow h f)).1
  pre := s.pre
theorem RepS.step {v : V} {d : D} (r : RepS T K S st v d) (ok : GOk T K S st) (s : Step st st') : RepS T K S st' v d := Rep.keep (s.kept ok) r
theorem RepsS.step {v : List V} {d : List D} (r : RepsS T K S st v d) (ok : GOk T K S st) (s : Step st st') : RepsS T K S st' v d := Reps.keep (s.kept ok) r
theorem Reps.length {hm : List Addr} {A : Addr → Prop} {H : Hp} : ∀ {vs : List V} {ds : List D}, Reps T K hm A H vs ds → vs.length = ds.length
  | _, _, .nil => rfl
  | _, _, .cons _ rs => congrArg (· + 1) (Reps.length rs)
theorem Reps.get {hm : List Addr} {A : Addr → Prop} {H : Hp} : ∀ {vs : List V} {ds : List D} {i : Nat} {d : D}, Reps T K hm A H vs ds → ds[i]? = some d → ∃ v, vs[i]? = some v ∧ Rep T K hm A H v d
  | _, _, 0, _, .cons r _, e => by simp at e; subst e; exact ⟨_, rfl, r⟩
  | _, _, i + 1, d, .cons _ rs, e => by
    obtain ⟨v, h1, h2⟩ := Reps.get (i := i) (d := d) rs (by simpa using e)
    exact ⟨v, by simpa using h1, h2⟩
theorem Reps.append {hm : List Addr} {A : Addr → Prop} {H : Hp} : ∀ {vs ws : List V} {ds es : List D}, Reps T K hm A H vs ds → Reps T K hm A H ws es → Reps T K hm A H (vs ++ ws) (ds ++ es)
  | _, _, _, _, .nil, s => s
  | _, _, _, _, .cons r rs, s => .cons r (Reps.append rs s)
theorem Reps.set {hm : List Addr} {A : Addr → Prop} {H : Hp} {v : V} {d : D} (r : Rep T K hm A H v d) : ∀ {vs : List V} {ds : List D} (i : Nat), Reps T K hm A H vs ds → Reps T K hm A H (vs.set i v) (ds.set i d)
  | _, _, _, .nil => .nil
  | _, _, 0, .cons _ rs => .cons r rs
  | _, _, i + 1, .cons q rs => .cons q (Reps.set r i rs)

theorem FldsR.step (s : Step st st') (ok : GOk T K S st) {k : Nat} (hs : ∀ l n, st.ow l = some (.fld k n) → st'.H l = st.H l) : ∀ {kvs : List (Key × V)} {o : Obj1}, FldsR T K S st k kvs o → FldsR T K S st' k kvs o
  | _, _, .nil => .nil
  | _, _, .imm e r rs => .imm e (RepS.step r ok s) (FldsR.step s ok hs rs)
  | _, _, .own e h1 h2 r rs => .own e (s.own _ _ h1) ((hs _ _ h1).trans h2) (RepsS.step r ok s) (FldsR.step s ok hs rs)

/-- a new object that never changes, or a new list that stays -/
def Gh.lay (st : Gh) (p : Addr) (o : HO) : Gh := { st with H := upd st.H p o }
theorem Gh.lay_step (ok : GOk T K S st) {p : Addr} {o : HO} (hp : st.H p = none) : Step st (st.lay p o) where
  pre := List.prefix_refl _
  keep := fun a u h h' => ⟨by show upd st.H p o a = _; rw [upd_ne (ne_of_none h hp)]; exact h, h'⟩
  slot := fun a i h => ⟨h, by
    obtain ⟨u, h1, _⟩ := ok.live a _ h
    show upd st.H p o a = _
    rw [upd_ne (ne_of_none h1 hp)]⟩
  slot' := fun _ _ h => h
  own := fun _ _ h => h
theorem GOk.owp (ok : GOk T K S st) {p : Addr} (hp : st.H p = none) : st.ow p = none := by
  cases e : st.ow p with
  | none => rfl
  | some t =>
    obtain ⟨u, h1, _⟩ := ok.live p t e
    rw [hp] at h1; cases h1
theorem GOk.lay (ok : GOk T K S st) {p : Addr} {o : HO} (hp : st.H p = none) : GOk T K S (st.lay p o) where
  live := fun a t h => by
    obtain ⟨u, h1, h2⟩ := ok.live a t h
    refine ⟨u, ?_, h2⟩
    show upd st.H p o a = _
    rw [upd_ne (ne_of_none h1 hp)]; exact h1
  fr := fun a h => ok.fr a (by
    cases e : st.H a with
    | none => rfl
    | some u =>
      have : upd st.H p o a = some u := by rw [upd_ne (ne_of_none e hp)]; exact e
      have h' : upd st.H p o a = none := h
      rw [this] at h'; cases h')
  len := ok.len
  obj := fun k ob h => by
    obtain ⟨a, kvs, h1, h2, h3, h4, h5, h6⟩ := ok.obj k ob h
    refine ⟨a, kvs, h1, h2, ?_, FldsR.step (Gh.lay_step ok hp) ok (fun l n hl => ?_) h4, h5, h6⟩
    · show upd st.H p o a = _
      rw [upd_ne (ne_of_none h3 hp)]; exact h3
    · obtain ⟨u, h1, _⟩ := ok.live l _ hl
      show upd st.H p o l = _
      rw [upd_ne (ne_of_none h1 hp)]
  tab := fun q hq => ⟨(ok.tab q hq).1.ext fun b u e => by show upd st.H p o b = _; rw [upd_ne (ne_of_none e hp)]; exact e, (ok.tab q hq).2⟩
theorem GOk.alnew (ok : GOk T K S st) {p : Addr} {o : HO} (hp : st.H p = none) : Al S (st.lay p o) p := ⟨ok.fr p hp, ok.owp hp⟩
end

/-! ### what an evaluation means -/
/-- an exception in the air -/
def ExcR (T : Tb) (K : PySem.W.Frag) (S : Addr → Prop) (st : Gh) (c : Nat) (fs : List (Str × D)) (cv : Value) (dd : Option Addr) : Prop :=
  ∃ C, T.cls c = some C ∧ cv = .ref C ∧ RepX T K st.hm (Al S st) st.H dd fs

def post (T : Tb) (K : PySem.W.Frag) (S : Addr → Prop) (W : WX) (σ : L2.St) (st : Gh) (r : R (D × G)) (Q : VK) : Prop := match r with
  | .ok p => ∀ v st', GOk T K S st' → st'.g = p.2 → Step st st' → RepS T K S st' v p.1 → Q v st'.H
  | .exc c fs g' => ∀ cv dd st', GOk T K S st' → st'.g = g' → Step st st' → ExcR T K S st' c fs cv dd → W cv dd σ st'.H
  | .bad => False
def posts (T : Tb) (K : PySem.W.Frag) (S : Addr → Prop) (W : WX) (σ : L2.St) (st : Gh) (r : R (List D × G)) (Q : List V → Hp → Prop) : Prop := match r with
  | .ok p => ∀ v st', GOk T K S st' → st'.g = p.2 → Step st st' → RepsS T K S st' v p.1 → Q v st'.H
  | .exc c fs g' => ∀ cv dd st', GOk T K S st' → st'.g = g' → Step st st' → ExcR T K S st' c fs cv dd → W cv dd σ st'.H
  | .bad => False

/-- the slots as an expression sees them -/
structure ERel (T : Tb) (K : PySem.W.Frag) (S : Addr → Prop) (st : Gh) (rd : List Nat) (σ : L2.St) (ρ : List Sl) : Prop where
  len : σ.length = ρ.length
  get : ∀ i d, seen rd ρ i = some d → ∃ v, σ[i]? = some (some v) ∧ RepS T K S st v d
theorem ERel.step {T : Tb} {K : PySem.W.Frag} {S : Addr → Prop} {st st' : Gh} {rd : List Nat} {σ : L2.St} {ρ : List Sl} (e : ERel T K S st rd σ ρ) (ok : GOk T K S st) (s : Step st st') : ERel T K S st' rd σ ρ :=
  ⟨e.len, fun i d h => let ⟨v, h1, h2⟩ := e.get i d h; ⟨v, h1, RepS.step h2 ok s⟩⟩

abbrev EvF := List Sl → G → R (D × G)
def tE (T : Tb) (K : PySem.W.Frag) (W : WX) (rd : List Nat) (f : EvF) : TE := fun σ H Q =>
  ∃ S st ρ, st.H = H ∧ GOk T K S st ∧ ERel T K S st rd σ ρ ∧ post T K S W σ st (f ρ st.g) Q
def tEs (T : Tb) (K : PySem.W.Frag) (W : WX) (rd : List Nat) (f : List Sl → G → R (List D × G)) : TA := fun σ H Q =>
  ∃ S st ρ, st.H = H ∧ GOk T K S st ∧ ERel T K S st rd σ ρ ∧ posts T K S W σ st (f ρ st.g) Q

theorem PE.mono {X : Cx} {e : Expr} {t t' : TE} (h : PE X e t) (m : ∀ σ H Q, t' σ H Q → t σ H Q) : PE X e t' := ⟨fun pins s σ H Q I q => h.run pins s σ H Q I (m σ H Q q)⟩
theorem PT.mono {X : Cx} {e : Expr} {t t' : TT} (h : PT X e t) (m : ∀ σ H Q, t' σ H Q → t σ H Q) : PT X e t' := ⟨fun pins s σ H Q I q => h.run pins s σ H Q I (m σ H Q q)⟩
theorem PW.mono {X : Cx} {e : Expr} {t t' : TT} (h : PW X e t) (m : ∀ σ H Q, t' σ H Q → t σ H Q) : PW X e t' := ⟨fun wh pins s σ H Q I q => h.run wh pins s σ H Q I (m σ H Q q)⟩
theorem PA.mono {X : Cx} {e : List Expr} {t t' : TA} (h : PA X e t) (m : ∀ σ H Q, t' σ H Q → t σ H Q) : PA X e t' := ⟨fun pos pins s σ H Q I q => h.run pos pins s σ H Q I (m σ H Q q)⟩
theorem PS.mono {X : Cx} {e : Stmt} {t t' : TS} (h : PS X e t) (m : ∀ D σ H, t' D σ H → t D σ H) : PS X e t' := ⟨fun pins s σ H D I q => h.run pins s σ H D I (m D σ H q)⟩
theorem PSs.mono {X : Cx} {e : List Stmt} {t t' : TS} (h : PSs X e t) (m : ∀ D σ H, t' D σ H → t D σ H) : PSs X e t' := ⟨fun pins s σ H D I q => h.run pins s σ H D I (m D σ H q)⟩

/-! ### a chain of two -/
section
variable {T : Tb} {K : PySem.W.Frag} {S : Addr → Prop} {W : WX} {σ : L2.St} {st : Gh}
/-- the first part of a bind: what is wanted of it -/
theorem post_bind {r : R (D × G)} {f : D × G → R (D × G)} {Q Q' : VK} (h : post T K S W σ st (r.bind f) Q)
    (hk : ∀ p, r = .ok p → ∀ v st1, GOk T K S st1 → st1.g = p.2 → Step st st1 → RepS T K S st1 v p.1 → post T K S W σ st1 (f p) Q → Q' v st1.H) : post T K S W σ st r Q' := by
  cases r with
  | bad => exact h
  | exc c fs g' => exact h
  | ok p =>
    intro v st1 ok1 e1 s1 r1
    refine hk p rfl v st1 ok1 e1 s1 r1 ?_
    have h : post T K S W σ st (f p) Q := h
    revert h
    cases f p with
    | bad => exact fun h => h
    | exc c fs g' => exact fun h cv dd st' ok' e' s' x => h cv dd st' ok' e' (s1.trans s') x
    | ok q => exact fun h v st' ok' e' s' x => h v st' ok' e' (s1.trans s') x
theorem post_binds {r : R (List D × G)} {f : List D × G → R (D × G)} {Q : VK} {Q' : List V → Hp → Prop} (h : post T K S W σ st (r.bind f) Q)
    (hk : ∀ p, r = .ok p → ∀ v st1, GOk T K S st1 → st1.g = p.2 → Step st st1 → RepsS T K S st1 v p.1 → post T K S W σ st1 (f p) Q → Q' v st1.H) : posts T K S W σ st r Q' := by
  cases r with
  | bad => exact h
  | exc c fs g' => exact h
  | ok p =>
    intro v st1 ok1 e1 s1 r1
    refine hk p rfl v st1 ok1 e1 s1 r1 ?_
    have h : post T K S W σ st (f p) Q := h
    revert h
    cases f p with
    | bad => exact fun h => h
    | exc c fs g' => exact fun h cv dd st' ok' e' s' x => h cv dd st' ok' e' (s1.trans s') x
    | ok q => exact fun h v st' ok' e' s' x => h v st' ok' e' (s1.trans s') x
theorem posts_bind {r : R (D × G)} {f : D × G → R (List D × G)} {Q : List V → Hp → Prop} {Q' : VK} (h : posts T K S W σ st (r.bind f) Q)
    (hk : ∀ p, r = .ok p → ∀ v st1, GOk T K S st1 → st1.g = p.2 → Step st st1 → RepS T K S st1 v p.1 → posts T K S W σ st1 (f p) Q → Q' v st1.H) : post T K S W σ st r Q' := by
  cases r with
  | bad => exact h
  | exc c fs g' => exact h
  | ok p =>
    intro v st1 ok1 e1 s1 r1
    refine hk p rfl v st1 ok1 e1 s1 r1 ?_
    have h : posts T K S W σ st (f p) Q := h
    revert h
    cases f p with
    | bad => exact fun h => h
    | exc c fs g' => exact fun h cv dd st' ok' e' s' x => h cv dd st' ok' e' (s1.trans s') x
    | ok q => exact fun h v st' ok' e' s' x => h v st' ok' e' (s1.trans s') x
theorem posts_binds {r : R (List D × G)} {f : List D × G → R (List D × G)} {Q : List V → Hp → Prop} {Q' : List V → Hp → Prop} (h : posts T K S W σ st (r.bind f) Q)
    (hk : ∀ p, r = .ok p → ∀ v st1, GOk T K S st1 → st1.g = p.2 → Step st st1 → RepsS T K S st1 v p.1 → posts T K S W σ st1 (f p) Q → Q' v st1.H) : posts T K S W σ st r Q' := by
  cases r with
  | bad => exact h
  | exc c fs g' => exact h
  | ok p =>
    intro v st1 ok1 e1 s1 r1
    refine hk p rfl v st1 ok1 e1 s1 r1 ?_
    have h : posts T K S W σ st (f p) Q := h
    revert h
    cases f p with
    | bad => exact fun h => h
    | exc c fs g' => exact fun h cv dd st' ok' e' s' x => h cv dd st' ok' e' (s1.trans s') x
    | ok q => exact fun h v st' ok' e' s' x => h v st' ok' e' (s1.trans s') x
end
end Z

set_option Elab.async false
set_option linter.all false
set_option maxRecDepth 100000
set_option maxHeartbeats 4000000
/-! Z3: the primitives keep what their sem says. -/
namespace Z
open PySem PySem.Spec PyProof.Rows L2

section
variable {T : Tb} {K : PySem.W.Frag} {hm : List Addr} {A : Addr → Prop} {H : Hp} {v : V}
theorem Rep.int_ {i : Int} (r : Rep T K hm A H v (.int i)) : v = .int i := by cases r; rfl
theorem Rep.bl_ {b : Bool} (r : Rep T K hm A H v (.bl b)) : v = .bl b := by cases r; rfl
theorem Rep.str_ {x : Str} (r : Rep T K hm A H v (.str x)) : v = .str x := by cases r; rfl
theorem Rep.non_ (r : Rep T K hm A H v .non) : v = .non := by cases r; rfl
theorem Rep.tup_ {ds : List D} (r : Rep T K hm A H v (.tup ds)) : ∃ a vs, v = .ref a ∧ SqT K H a vs ∧ Reps T K hm A H vs ds := by cases r with | tup h rs => exact ⟨_, _, rfl, h, rs⟩
theorem Rep.lst_ {ds : List D} (r : Rep T K hm A H v (.lst ds)) : ∃ a vs, v = .ref a ∧ Rd H a (.lst vs) ∧ A a ∧ Reps T K hm A H vs ds := by cases r with | lst h ha rs => exact ⟨_, _, rfl, .inl h, ha, rs⟩
theorem Rep.lst' {ds : List D} (r : Rep T K hm A H v (.lst ds)) : ∃ a vs, v = .ref a ∧ H a = some (.lst vs) ∧ A a ∧ Reps T K hm A H vs ds := by cases r with | lst h ha rs => exact ⟨_, _, rfl, h, ha, rs⟩
theorem Rep.frz_ {ds : List D} (r : Rep T K hm A H v (.frz ds)) : ∃ a vs, v = .ref a ∧ FzL K H a vs ∧ Reps T K hm A H vs ds := by cases r with | frz h rs => exact ⟨_, _, rfl, h, rs⟩
theorem RdL.sq {a : Addr} {vs : List V} (h : Rd H a (.lst vs)) : SqL K H a vs := .inl h
end

/-- a binary operator's reading keeps a sem -/
def PrimR (T : Tb) (K : PySem.W.Frag) (r : R2) (sem : D → D → Option D) : Prop :=
  ∀ (S : Addr → Prop) (st : Gh) (x y : V) (dx dy d : D) (Q : VK), GOk T K S st → RepS T K S st x dx → RepS T K S st y dy → sem dx dy = some d →
    (∀ v st', GOk T K S st' → st'.g = st.g → Step st st' → RepS T K S st' v d → Q v st'.H) → r x y st.H Q
/-- nothing is made -/
theorem fin0 {T : Tb} {K : PySem.W.Frag} {S : Addr → Prop} {st : Gh} {d : D} {v : V} {Q : VK} (ok : GOk T K S st)
    (k : ∀ v st', GOk T K S st' → st'.g = st.g → Step st st' → RepS T K S st' v d → Q v st'.H) (r : RepS T K S st v d) : Q v st.H := k v st ok rfl (Step.refl _) r
/-- a new tuple -/
theorem finT {T : Tb} {K : PySem.W.Frag} {S : Addr → Prop} {st : Gh} {ds : List D} {vs : List V} {Q : VK} (ok : GOk T K S st)
    (k : ∀ v st', GOk T K S st' → st'.g = st.g → Step st st' → RepS T K S st' v (.tup ds) → Q v st'.H) (r : RepsS T K S st vs ds) : ∀ p, st.H p = none → Q (.ref p) (upd st.H p (.tup vs)) := fun p hp =>
  k (.ref p) (st.lay p (.tup vs)) (ok.lay hp) rfl (Gh.lay_step ok hp) (.tup (.inl (.inl upd_same)) (RepsS.step r ok (Gh.lay_step ok hp)))
/-- a new list -/
theorem finL {T : Tb} {K : PySem.W.Frag} {S : Addr → Prop} {st : Gh} {ds : List D} {vs : List V} {Q : VK} (ok : GOk T K S st)
    (k : ∀ v st', GOk T K S st' → st'.g = st.g → Step st st' → RepS T K S st' v (.lst ds) → Q v st'.H) (r : RepsS T K S st vs ds) : ∀ p, st.H p = none → Q (.ref p) (upd st.H p (.lst vs)) := fun p hp =>
  k (.ref p) (st.lay p (.lst vs)) (ok.lay hp) rfl (Gh.lay_step ok hp) (.lst upd_same (ok.alnew hp) (RepsS.step r ok (Gh.lay_step ok hp)))

/-! ### whole numbers -/
theorem prI {T : Tb} {K : PySem.W.Frag} {C : Int → Int → Prop} {g : Int → Int → V} {sem : D → D → Option D}
    (h : ∀ dx dy d, sem dx dy = some d → ∃ i j, dx = .int i ∧ dy = .int j ∧ C i j ∧ ∀ (hm : List Addr) (A : Addr → Prop) (H : Hp), Rep T K hm A H (g i j) d) : PrimR T K (rI C g) sem := by
  intro S st x y dx dy d Q ok rx ry hs k
  obtain ⟨i, j, rfl, rfl, hc, r⟩ := h _ _ _ hs
  exact ⟨i, j, rx.int_, ry.int_, hc, fin0 ok k (r _ _ _)⟩
theorem prI0 {T : Tb} {K : PySem.W.Frag} {g : Int → Int → V} {sem : D → D → Option D}
    (h : ∀ dx dy d, sem dx dy = some d → ∃ i j, dx = .int i ∧ dy = .int j ∧ ∀ (hm : List Addr) (A : Addr → Prop) (H : Hp), Rep T K hm A H (g i j) d) : PrimR T K (rI0 g) sem := by
  intro S st x y dx dy d Q ok rx ry hs k
  obtain ⟨i, j, rfl, rfl, r⟩ := h _ _ _ hs
  exact ⟨i, j, rx.int_, ry.int_, fin0 ok k (r _ _ _)⟩
theorem PrimR.or {T : Tb} {K : PySem.W.Frag} {r r' : R2} {s s' sem : D → D → Option D} (h : PrimR T K r s) (h' : PrimR T K r' s') (e : ∀ x y d, sem x y = some d → s x y = some d ∨ s' x y = some d) :
    PrimR T K (fun x y H Q => r x y H Q ∨ r' x y H Q) sem := fun S st x y dx dy d Q ok rx ry hs k => by
  rcases e _ _ _ hs with q | q
  · exact .inl (h S st x y dx dy d Q ok rx ry q k)
  · exact .inr (h' S st x y dx dy d Q ok rx ry q k)

section
variable {X : Cx} {T : Tb} {kl : Kl}
/-! ### list + list -/
def rCatL (K : PySem.W.Frag) : R2 := fun x y H Q => ∃ l b xs zs, x = .ref l ∧ y = .ref b ∧ SqL K H l xs ∧ SqL K H b zs ∧ xs.length + zs.length ≤ sizeLine ∧ ∀ p, H p = none → Q (.ref p) (upd H p (.lst (xs ++ zs)))
theorem op_catL : OpR X (binaryOp .Add) (rCatL X.K) := by
  intro pins s σ H x y v u Q I rx ry h
  obtain ⟨l, b, xs, zs, rfl, rfl, hH, hB, hz, q⟩ := h
  cases rx
  cases ry
  obtain ⟨its, r, pl, _⟩ := I.list hH
  obtain ⟨its2, r2, pl2, _⟩ := I.list hB
  obtain ⟨⟨cls, dd, data, sl⟩, n, ho, hc, hdd, hd⟩ := pl
  obtain ⟨⟨cls2, dd2, data2, sl2⟩, n2, ho2, hc2, hdd2, hd2⟩ := pl2
  simp only at hc hd hc2 hd2
  subst hc hd hc2 hd2
  have hl := r.length
  have hl2 := r2.length
  have ea : its.toArray ++ its2.toArray = (its ++ its2).toArray := by simp
  refine concat_meets ⟨_, ho, rfl⟩ ⟨_, ho2, rfl⟩ noFill_list_add seq_list_add PySem.F.slot_list_add PySem.F.entry_list_add (PySem.F.args_list_add_2 _ _) (list_addW l b its.toArray its2.toArray n n2 dd dd2 sl sl2 (by rw [List.size_toArray, List.size_toArray]; omega)) ⟨ho, ho2, ?_⟩
  rw [ea]
  exact ⟨.ref _, _, I.lnew (t' := s.toks) (r.append r2) (by rw [List.length_append]; omega), rfl, q _ I.fresh⟩

def rAddZ (K : PySem.W.Frag) : R2 := fun x y H Q => ((rI0 fun i j => .int (i + j)) x y H Q ∨ rCatL K x y H Q) ∨ (rCatA K x y H Q ∨ ∃ i j, x = .str i ∧ y = .str j ∧ i.length + j.length ≤ sizeLine ∧ Q (.str (i ++ j)) H)
theorem op_addZ : OpR X (binaryOp .Add) (rAddZ X.K) := (op_add.or op_catL).or (op_catA.or op_add_str)
theorem Reps.nil_iff {K : PySem.W.Frag} {hm : List Addr} {A : Addr → Prop} {H : Hp} {vs : List V} {ds : List D} (r : Reps T K hm A H vs ds) : vs = [] ↔ ds = [] := by
  cases r with
  | nil => simp
  | cons _ _ => simp
theorem pr_add : PrimR T X.K (rAddZ X.K) semAdd := by
  intro S st x y dx dy d Q ok rx ry hs k
  unfold semAdd at hs
  split at hs
  · cases hs
    exact .inl (.inl ⟨_, _, rx.int_, ry.int_, fin0 ok k (.int _)⟩)
  · rename_i xs ys
    split at hs
    · rename_i hz
      cases hs
      obtain ⟨a, vs, rfl, h1, h2, h3⟩ := rx.lst_
      obtain ⟨b, ws, rfl, h4, h5, h6⟩ := ry.lst_
      refine .inl (.inr ⟨a, b, vs, ws, rfl, rfl, .inl h1, .inl h4, ?_, finL ok k (Reps.append h3 h6)⟩)
      rw [Reps.length h3, Reps.length h6]; exact hz
    · cases hs
  · rename_i xs ys
    split at hs
    · rename_i hz
      cases hs
      obtain ⟨a, vs, rfl, h1, h3⟩ := rx.frz_
      obtain ⟨b, ws, rfl, h4, h5, h6⟩ := ry.lst_
      refine .inl (.inr ⟨a, b, vs, ws, rfl, rfl, h1.sq, .inl h4, ?_, finL ok k (Reps.append h3 h6)⟩)
      rw [Reps.length h3, Reps.length h6]; exact hz
    · cases hs
  · rename_i xs ys
    split at hs
    · rename_i hz
      cases hs
      obtain ⟨a, vs, rfl, h1, h3⟩ := rx.tup_
      obtain ⟨b, ws, rfl, h4, h6⟩ := ry.tup_
      refine .inr (.inl ⟨a, b, vs, ws, rfl, rfl, h1, h4, ?_, fun e => ?_, fun _ e => ?_, fun _ _ => finT ok k (Reps.append h3 h6)⟩)
      · rw [Reps.length h3, Reps.length h6]; exact hz
      · have ex : xs = [] := (Reps.nil_iff h3).mp e
        subst ex
        exact fin0 ok k (.tup h4 h6)
      · have ey : ys = [] := (Reps.nil_iff h6).mp e
        subst ey
        exact fin0 ok k (by rw [List.append_nil]; exact .tup h1 h3)
    · cases hs
  · split at hs
    · rename_i hz
      cases hs
      exact .inr (.inr ⟨_, _, rx.str_, ry.str_, hz, fin0 ok k (.str _)⟩)
    · cases hs
  · cases hs

/-! ### the other operators -/
def CMulZ (i j : Int) : Prop := mulOk i j = true
theorem CMulZ.ok {i j : Int} (h : CMulZ i j) : IntMulOk i j := by
  have h : (decide (Builtin.Int.intBits i + Builtin.Int.intBits j ≤ 134217728) || (decide (-(2 ^ 64) < i ∧ i < 2 ^ 64) || decide (-(2 ^ 64) < j ∧ j < 2 ^ 64))) = true := h
  rw [Bool.or_eq_true, Bool.or_eq_true] at h
  rcases h with h | h | h
  · exact CMulX.ok (by have := of_decide_eq_true h; unfold CMulX; omega)
  · exact CMul.ok (.inl (of_decide_eq_true h))
  · exact CMul.ok (.inr (of_decide_eq_true h))
theorem op_mulI : OpR X (binaryOp .Mult) (rI CMulZ fun i j => .int (i * j)) := opI fun _ _ _ _ _ _ _ hc q => mul_int q (CMulZ.ok hc)
def rMulZ (K : PySem.W.Frag) : R2 := fun x y H Q => rI CMulZ (fun i j => .int (i * j)) x y H Q ∨ (rRep x y H Q ∨ rRepT K x y H Q)
theorem op_mulZ : OpR X (binaryOp .Mult) (rMulZ X.K) := op_mulI.or (op_rep.or op_repT)
theorem Reps.rep {K : PySem.W.Frag} {hm : List Addr} {A : Addr → Prop} {H : Hp} {vs : List V} {ds : List D} (r : Reps T K hm A H vs ds) : ∀ n : Nat, Reps T K hm A H (List.replicate n vs).flatten (List.replicate n ds).flatten
  | 0 => .nil
  | n + 1 => by
    rw [List.replicate_succ, List.replicate_succ, List.flatten_cons, List.flatten_cons]
    exact Reps.append r (Reps.rep r n)
theorem pr_mul : PrimR T X.K (rMulZ X.K) semMul := by
  intro S st x y dx dy d Q ok rx ry hs k
  unfold semMul at hs
  split at hs
  · split at hs
    · rename_i i j hm
      cases hs
      exact .inl ⟨i, j, rx.int_, ry.int_, hm, fin0 ok k (.int _)⟩
    · cases hs
  · split at hs
    · rename_i xs n hz
      cases hs
      obtain ⟨a, vs, rfl, h1, h2, h3⟩ := rx.lst'
      refine .inr (.inl ⟨a, n, vs, rfl, ry.int_, h1, hz.1, hz.2.1, by rw [Reps.length h3]; exact hz.2.2, finL ok k (Reps.rep h3 _)⟩)
    · cases hs
  · split at hs
    · rename_i xs n hz
      cases hs
      obtain ⟨a, vs, rfl, h1, h3⟩ := rx.tup_
      refine .inr (.inr ⟨a, n, vs, rfl, ry.int_, h1, fun e => hz.1 ((Reps.nil_iff h3).1 e), hz.2.1, hz.2.2.1, by rw [Reps.length h3]; exact hz.2.2.2, finT ok k (Reps.rep h3 _)⟩)
    · cases hs
  · cases hs
theorem op_subZ : OpR X (binaryOp .Sub) (rI0 fun i j => .int (i - j)) := op_sub
theorem prOnI {C : Int → Int → Prop} {g : Int → Int → V} {f : Int → Int → Option D} (h : ∀ i j d, f i j = some d → C i j ∧ ∀ (hm : List Addr) (A : Addr → Prop) (H : Hp), Rep T X.K hm A H (g i j) d) : PrimR T X.K (rI C g) (onI f) := prI fun dx dy d e => by
  unfold onI at e
  split at e
  · exact ⟨_, _, rfl, rfl, h _ _ _ e⟩
  · cases e
theorem prOnI0 {g : Int → Int → V} {f : Int → Int → Option D} (h : ∀ i j d, f i j = some d → ∀ (hm : List Addr) (A : Addr → Prop) (H : Hp), Rep T X.K hm A H (g i j) d) : PrimR T X.K (rI0 g) (onI f) := prI0 fun dx dy d e => by
  unfold onI at e
  split at e
  · exact ⟨_, _, rfl, rfl, h _ _ _ e⟩
  · cases e
theorem rep_int {i : Int} {d : D} (e : some (D.int i) = some d) (hm : List Addr) (A : Addr → Prop) (H : Hp) : Rep T X.K hm A H (.int i) d := by cases e; exact .int _
theorem rep_bl {i : Bool} {d : D} (e : some (D.bl i) = some d) (hm : List Addr) (A : Addr → Prop) (H : Hp) : Rep T X.K hm A H (.bl i) d := by cases e; exact .bl _
theorem pr_sub : PrimR T X.K (rI0 fun i j => .int (i - j)) (onI fun i j => some (.int (i - j))) := prOnI0 fun i j d e => rep_int e
theorem pr_and : PrimR T X.K (rI0 fun i j => .int (Builtin.bitAnd i j)) (onI fun i j => some (.int (Builtin.bitAnd i j))) := prOnI0 fun i j d e => rep_int e
theorem pr_lt : PrimR T X.K (rI0 fun i j => .bl (decide (i < j))) (onI fun i j => some (.bl (decide (i < j)))) := prOnI0 fun i j d e => rep_bl e
theorem pr_le : PrimR T X.K (rI0 fun i j => .bl (decide (i ≤ j))) (onI fun i j => some (.bl (decide (i ≤ j)))) := prOnI0 fun i j d e => rep_bl e
theorem pr_gt : PrimR T X.K (rI0 fun i j => .bl (decide (j < i))) (onI fun i j => some (.bl (decide (j < i)))) := prOnI0 fun i j d e => rep_bl e
theorem pr_ge : PrimR T X.K (rI0 fun i j => .bl (decide (j ≤ i))) (onI fun i j => some (.bl (decide (j ≤ i)))) := prOnI0 fun i j d e => rep_bl e
theorem prIf {c : Int → Int → Prop} [∀ i j, Decidable (c i j)] {g : Int → Int → Int} : PrimR T X.K (rI c fun i j => .int (g i j)) (onI fun i j => if c i j then some (.int (g i j)) else none) := prOnI fun i j d e => by
  by_cases h : c i j
  · rw [if_pos h] at e
    exact ⟨h, rep_int e⟩
  · rw [if_neg h] at e; cases e
def CDivZ (i j : Int) : Prop := divOk i j = true
instance (i j : Int) : Decidable (CDivZ i j) := inferInstanceAs (Decidable (_ = _))
theorem op_fdivZ : OpR X (binaryOp .FloorDiv) (rI CDivZ fun i j => .int (i.fdiv j)) := opI fun i j _ _ _ _ _ hc q => by
  have hc : (decide (j ≠ 0) && !Builtin.divisionGoesByPylong i j) = true := hc
  rw [Bool.and_eq_true] at hc
  have h1 : j ≠ 0 := of_decide_eq_true hc.1
  have h2 : Builtin.divisionGoesByPylong i j = false := by simpa using hc.2
  exact floordiv_int h1 q (.inl h2)
def CPowZ (i j : Int) : Prop := powOk i j = true
instance (i j : Int) : Decidable (CPowZ i j) := inferInstanceAs (Decidable (_ = _))
theorem op_powZ : OpR X (binaryOp .Pow) (rI CPowZ fun i j => .int (i ^ j.toNat)) := opI fun i j _ _ _ _ _ hc q => by
  have hc : (decide (0 ≤ j) && decide (j ≤ 1000000) && decide (i.natAbs < 2 ^ 64)) = true := hc
  rw [Bool.and_eq_true, Bool.and_eq_true] at hc
  exact pow_int_small (of_decide_eq_true hc.1.1) (of_decide_eq_true hc.1.2) (of_decide_eq_true hc.2) q
def CShlZ (i j : Int) : Prop := shlOk i j = true
instance (i j : Int) : Decidable (CShlZ i j) := inferInstanceAs (Decidable (_ = _))
theorem op_shlZ : OpR X (binaryOp .LShift) (rI CShlZ fun i j => .int (i * 2 ^ j.toNat)) := opI fun i j _ _ _ _ _ hc q => by
  have hc : (decide (0 ≤ j) && decide ((Builtin.Int.intBits i : Int) + j ≤ 134217728)) = true := hc
  rw [Bool.and_eq_true] at hc
  exact lshift_int (of_decide_eq_true hc.1) (of_decide_eq_true hc.2) q
theorem pr_fdiv : PrimR T X.K (rI CDivZ fun i j => .int (i.fdiv j)) (onI fun i j => if divOk i j = true then some (.int (i.fdiv j)) else none) := prIf (c := CDivZ)
theorem pr_pow : PrimR T X.K (rI CPowZ fun i j => .int (i ^ j.toNat)) (onI fun i j => if powOk i j = true then some (.int (i ^ j.toNat)) else none) := prIf (c := CPowZ)
theorem pr_shl : PrimR T X.K (rI CShlZ fun i j => .int (i * 2 ^ j.toNat)) (onI fun i j => if shlOk i j = true then some (.int (i * 2 ^ j.toNat)) else none) := prIf (c := CShlZ)
theorem pr_mod : PrimR T X.K (rI (fun _ j => 0 < j) fun i j => .int (i % j)) (onI fun i j => if 0 < j then some (.int (i % j)) else none) := prIf (c := fun _ j => 0 < j)
theorem pr_shr : PrimR T X.K (rI (fun _ j => 0 ≤ j) fun i j => .int (i / 2 ^ j.toNat)) (onI fun i j => if 0 ≤ j then some (.int (i / 2 ^ j.toNat)) else none) := prIf (c := fun _ j => 0 ≤ j)

/-! ### == -/
mutual
theorem dp_py {H : Hp} {K : PySem.W.Frag} {hm : List Addr} {A : Addr → Prop} : ∀ {d : D} {v : V}, Rep T K hm A H v d → d.plain = true → Dp K H v d.py
  | .non, _, .non, _ => .non
  | .bl _, _, .bl b, _ => .bl b
  | .int _, _, .int i, _ => .int i
  | .str _, _, .str x, _ => .str x
  | .ty _, _, .ty n, h => by simp [D.plain] at h
  | .cls _, _, .cls n, h => by simp [D.plain] at h
  | .fn _, _, .fn n, h => by simp [D.plain] at h
  | .hnd _, _, .hnd n, h => by simp [D.plain] at h
  | .dct _, _, .dct _ _ _, h => by simp [D.plain] at h
  | .exc _ _, _, .exc _ _ _, h => by simp [D.plain] at h
  | .tup ds, _, .tup hq r, h => .tup hq (dps_py r (by simpa [D.plain] using h))
  | .lst ds, _, .lst hq a r, h => .lst (.inl (.inl hq)) (dps_py r (by simpa [D.plain] using h))
  | .frz ds, _, .frz hq r, h => .lst hq.sq (dps_py r (by simpa [D.plain] using h))
theorem dps_py {H : Hp} {K : PySem.W.Frag} {hm : List Addr} {A : Addr → Prop} : ∀ {d : List D} {v : List V}, Reps T K hm A H v d → D.plainAll d = true → DpAll K H v (D.pys d)
  | [], _, .nil, _ => .nil
  | d :: ds, _, .cons r rs, h => by
    have h' : (d.plain && D.plainAll ds) = true := by simpa [D.plainAll] using h
    rw [Bool.and_eq_true] at h'
    exact .cons (dp_py r h'.1) (dps_py rs h'.2)
end
mutual
theorem canLay_py : ∀ {d : D}, d.plain = true → d.py.canLay0 = true
  | .non, _ => rfl
  | .bl _, _ => rfl
  | .int _, _ => rfl
  | .str s, h => by simpa [D.plain, D.py, PyData.canLay0] using h
  | .ty _, h => by simp [D.plain] at h
  | .cls _, h => by simp [D.plain] at h
  | .fn _, h => by simp [D.plain] at h
  | .hnd _, h => by simp [D.plain] at h
  | .dct _, h => by simp [D.plain] at h
  | .exc _ _, h => by simp [D.plain] at h
  | .tup ds, h => by
    have := canLays_py (d := ds) (by simpa [D.plain] using h)
    simpa [D.py, PyData.canLay0] using this
  | .lst ds, h => by
    have := canLays_py (d := ds) (by simpa [D.plain] using h)
    simpa [D.py, PyData.canLay0] using this
  | .frz ds, h => by
    have := canLays_py (d := ds) (by simpa [D.plain] using h)
    simpa [D.py, PyData.canLay0] using this
theorem canLays_py : ∀ {d : List D}, D.plainAll d = true → PyData.canLayAll0 (D.pys d) = true
  | [], _ => rfl
  | d :: ds, h => by
    have h' : (d.plain && D.plainAll ds) = true := by simpa [D.plainAll] using h
    rw [Bool.and_eq_true] at h'
    simp [D.pys, PyData.canLayAll0, canLay_py h'.1, canLays_py h'.2]
end
mutual
theorem depth_py : ∀ (d : D), d.py.depth ≤ d.dp
  | .non => Nat.zero_le _
  | .bl _ => Nat.zero_le _
  | .int _ => Nat.zero_le _
  | .str s => Nat.zero_le _
  | .ty _ => Nat.zero_le _
  | .cls _ => Nat.zero_le _
  | .fn _ => Nat.zero_le _
  | .lam _ => Nat.zero_le _
  | .hnd _ => Nat.zero_le _
  | .dct _ => Nat.zero_le _
  | .exc _ _ => Nat.zero_le _
  | .tup ds => by have := depths_py ds; simp only [D.py, D.dp, PyData.depth]; omega
  | .lst ds => by have := depths_py ds; simp only [D.py, D.dp, PyData.depth]; omega
  | .frz ds => by have := depths_py ds; simp only [D.py, D.dp, PyData.depth]; omega
theorem depths_py : ∀ (d : List D), PyData.depthAll (D.pys d) ≤ D.dpAll d
  | [] => Nat.zero_le _
  | d :: ds => by have := depth_py d; have := depths_py ds; simp only [D.pys, D.dpAll, PyData.depthAll]; omega
end
mutual
theorem eqv_py : ∀ (x y : D), x.plain = true → y.plain = true → PyData.eqv x.py y.py = x.beq y
  | x, y, hx, hy => by
    cases x <;> cases y <;> first
      | (simp [D.plain] at hx; done)
      | (simp [D.plain] at hy; done)
      | (simp [D.py, PyData.eqv, D.beq]; done)
      | (simp only [D.py, PyData.eqv, D.beq]; exact eqvs_py _ _ (by simpa [D.plain] using hx) (by simpa [D.plain] using hy))
theorem eqvs_py : ∀ (x y : List D), D.plainAll x = true → D.plainAll y = true → PyData.eqvAll (D.pys x) (D.pys y) = D.beqAll x y
  | [], [], _, _ => by simp [D.pys, PyData.eqvAll, D.beqAll]
  | [], _ :: _, _, _ => by simp [D.pys, PyData.eqvAll, D.beqAll]
  | _ :: _, [], _, _ => by simp [D.pys, PyData.eqvAll, D.beqAll]
  | x :: xs, y :: ys, hx, hy => by
    have h' : (x.plain && D.plainAll xs) = true := by simpa [D.plainAll] using hx
    have h2 : (y.plain && D.plainAll ys) = true := by simpa [D.plainAll] using hy
    rw [Bool.and_eq_true] at h' h2
    simp only [D.pys, PyData.eqvAll, D.beqAll]
    rw [eqv_py x y h'.1 h2.1, eqvs_py xs ys h'.2 h2.2]
end
theorem shaped_py {d : D} (h : d.okEq = true) : SeqAt.shaped d.py = true ∧ d.plain = true := by
  have h : (d.plain && decide (d.dp ≤ 64)) = true := h
  rw [Bool.and_eq_true] at h
  refine ⟨?_, h.1⟩
  show (d.py.canLay0 && decide (d.py.depth ≤ 64)) = true
  rw [Bool.and_eq_true]
  have := depth_py d
  have := of_decide_eq_true h.2
  exact ⟨canLay_py h.1, decide_eq_true (by omega)⟩
theorem pr_eq : PrimR T X.K (rEqD X.K) (fun x y => (semEq x y).map .bl) := by
  intro S st x y dx dy d Q ok rx ry hs k
  dsimp only at hs
  unfold semEq at hs
  split at hs
  · rename_i h
    obtain ⟨s1, p1⟩ := shaped_py h.1
    obtain ⟨s2, p2⟩ := shaped_py h.2
    cases hs
    exact ⟨_, _, dp_py rx p1, dp_py ry p2, s1, s2, by rw [eqv_py _ _ p1 p2]; exact fin0 ok k (.bl _)⟩
  · cases hs
theorem pr_ne : PrimR T X.K (rNeD X.K) (fun x y => (semEq x y).map fun b => .bl !b) := by
  intro S st x y dx dy d Q ok rx ry hs k
  dsimp only at hs
  unfold semEq at hs
  split at hs
  · rename_i h
    obtain ⟨s1, p1⟩ := shaped_py h.1
    obtain ⟨s2, p2⟩ := shaped_py h.2
    cases hs
    exact ⟨_, _, dp_py rx p1, dp_py ry p2, s1, s2, by rw [eqv_py _ _ p1 p2]; exact fin0 ok k (.bl _)⟩
  · cases hs
theorem inOf_py {d : D} (hd : d.plain = true) : ∀ {ys : List D}, D.plainAll ys = true → ((D.pys ys).any fun z => PyData.eqv z d.py) = inOf d ys
  | [], _ => rfl
  | y :: ys, h => by
    have h' : (y.plain && D.plainAll ys) = true := by simpa [D.plainAll] using h
    rw [Bool.and_eq_true] at h'
    show (PyData.eqv y.py d.py || (D.pys ys).any fun z => PyData.eqv z d.py) = (y.beq d || inOf d ys)
    rw [eqv_py y d h'.1 hd, inOf_py hd h'.2]
theorem semInL_some {x y : D} {b : Bool} (h : semInL x y = some b) : ∃ ys, y = .lst ys ∧ x.okEq = true ∧ (D.lst ys).okEq = true ∧ b = inOf x ys := by
  unfold semInL at h
  split at h
  · split at h
    · rename_i q
      cases h
      exact ⟨_, rfl, q.1, q.2, rfl⟩
    · cases h
  · cases h
theorem pr_inL {f : Bool → Bool} : PrimR T X.K (fun x y H Q => rInD X.K x y H fun v H1 => ∀ b, v = .bl b → Q (.bl (f b)) H1) (fun x y => (semInL x y).map fun b => .bl (f b)) := by
  intro S st x y dx dy d Q ok rx ry hs k
  dsimp only at hs
  cases hb : semInL dx dy with
  | none => rw [hb] at hs; cases hs
  | some b =>
    rw [hb] at hs
    cases hs
    obtain ⟨ys, rfl, h1, h2, rfl⟩ := semInL_some hb
    obtain ⟨s1, p1⟩ := shaped_py h1
    obtain ⟨s2, p2⟩ := shaped_py h2
    have p3 : D.plainAll ys = true := by simpa [D.plain] using p2
    exact ⟨dx.py, D.pys ys, dp_py rx p1, dp_py ry p2, s1, s2, fun b e => by rw [inOf_py p1 p3] at e; cases e; exact fin0 ok k (.bl _)⟩
theorem flat_rep {K : PySem.W.Frag} {hm : List Addr} {A : Addr → Prop} {H : Hp} {v : V} {d : D} (r : Rep T K hm A H v d) (h : d.flat = true) : flatV v = true := by
  cases r <;> first | rfl | cases h
theorem flats_rep {K : PySem.W.Frag} {hm : List Addr} {A : Addr → Prop} {H : Hp} : ∀ {ds : List D} {vs : List V}, Reps T K hm A H vs ds → flatAll ds = true → vs.all flatV = true
  | _, _, .nil, _ => rfl
  | d :: ds, v :: vs, .cons r rs, h => by
    have h : (d.flat && flatAll ds) = true := h
    rw [Bool.and_eq_true] at h
    rw [List.all_cons, flat_rep r h.1, flats_rep rs h.2]; rfl
theorem flat_eq {K : PySem.W.Frag} {hm : List Addr} {A : Addr → Prop} {H : Hp} {v w : V} {d e : D} (r : Rep T K hm A H v d) (q : Rep T K hm A H w e) (h : d.flat = true) (h' : e.flat = true) : eqV v w = d.beq e := by
  cases r <;> first | (cases h; done) | skip
  all_goals (cases q <;> first | (cases h'; done) | skip)
  all_goals (first | rfl | (simp [eqV, D.beq]; done) | skip)
theorem inV_rep {K : PySem.W.Frag} {hm : List Addr} {A : Addr → Prop} {H : Hp} {v : V} {d : D} (r : Rep T K hm A H v d) (h : d.flat = true) : ∀ {ds : List D} {vs : List V}, Reps T K hm A H vs ds → flatAll ds = true → inV v vs = inOf d ds
  | _, _, .nil, _ => rfl
  | e :: ds, u :: vs, .cons q qs, h' => by
    have h' : (e.flat && flatAll ds) = true := h'
    rw [Bool.and_eq_true] at h'
    have e1 := inV_rep r h qs h'.2
    show (eqV u v || inV v vs) = (e.beq d || inOf d ds)
    rw [flat_eq q r h'.1 h, e1]
theorem semInT_some {x y : D} {b : Bool} (h : semInT x y = some b) : ∃ ys, y = .tup ys ∧ x.flat = true ∧ flatAll ys = true ∧ b = inOf x ys := by
  unfold semInT at h
  split at h
  · split at h
    · rename_i q
      cases h
      exact ⟨_, rfl, q.1, q.2, rfl⟩
    · cases h
  · cases h
theorem pr_inT {neg : Bool} : PrimR T X.K (rIn X.K neg) (fun x y => (semInT x y).map fun b => .bl (if neg then !b else b)) := by
  intro S st x y dx dy d Q ok rx ry hs k
  dsimp only at hs
  cases hb : semInT dx dy with
  | none => rw [hb] at hs; cases hs
  | some b =>
    rw [hb] at hs
    cases hs
    obtain ⟨ys, rfl, h1, h2, rfl⟩ := semInT_some hb
    obtain ⟨a, vs, rfl, t1, t2⟩ := ry.tup_
    exact ⟨a, vs, rfl, .inr t1, flat_rep rx h1, flats_rep t2 h2, by rw [inV_rep rx h1 t2 h2]; exact fin0 ok k (.bl _)⟩
theorem semSign_some {x y : D} {b : Bool} (h : semSign x y = some b) : ∃ (c : Nat) (z : Str), x = .str ⟨#[c]⟩ ∧ y = .str z ∧ b = decide (c ∈ z.cps.toList) := by
  unfold semSign at h
  split at h
  · rename_i c z
    split at h
    · rename_i k hk
      cases h
      refine ⟨k, z, ?_, rfl, rfl⟩
      obtain ⟨⟨l⟩⟩ := c
      have hk : l = [k] := hk
      subst hk
      rfl
    · cases h
  · cases h
def rSign (f : Bool → Bool) : R2 := fun x y H Q => ∃ (c : Nat) (z : Str), x = .str ⟨#[c]⟩ ∧ y = .str z ∧ Q (.bl (f (decide (c ∈ z.cps.toList)))) H
theorem pr_sign {f : Bool → Bool} : PrimR T X.K (rSign f) (fun x y => (semSign x y).map fun b => .bl (f b)) := by
  intro S st x y dx dy d Q ok rx ry hs k
  dsimp only at hs
  cases hb : semSign dx dy with
  | none => rw [hb] at hs; cases hs
  | some b =>
    rw [hb] at hs
    cases hs
    obtain ⟨c, z, rfl, rfl, rfl⟩ := semSign_some hb
    exact ⟨c, z, rx.str_, ry.str_, fin0 ok k (.bl _)⟩
/-- in, not in: a list, a tuple of flat things, a text -/
def rInZ (K : PySem.W.Frag) : R2 := fun x y H Q => (rInD K x y H fun v H1 => ∀ b, v = .bl b → Q (.bl b) H1) ∨ (rIn K false x y H Q ∨ rSign id x y H Q)
def rNotInZ (K : PySem.W.Frag) : R2 := fun x y H Q => (rInD K x y H fun v H1 => ∀ b, v = .bl b → Q (.bl !b) H1) ∨ (rIn K true x y H Q ∨ rSign not x y H Q)
theorem semIn_or {f : Bool → Bool} (x y d : D) (h : (semIn x y).map (fun b => D.bl (f b)) = some d) : (semInL x y).map (fun b => D.bl (f b)) = some d ∨ ((semInT x y).map (fun b => D.bl (f b)) = some d ∨ (semSign x y).map (fun b => D.bl (f b)) = some d) := by
  unfold semIn at h
  split at h
  · exact .inl h
  · exact .inr (.inl h)
  · exact .inr (.inr h)
  · cases h
theorem pr_in : PrimR T X.K (rInZ X.K) (fun x y => (semIn x y).map .bl) := by
  intro S st x y dx dy d Q ok rx ry hs k
  rcases semIn_or (f := id) dx dy d hs with h | h | h
  · exact .inl (pr_inL (f := id) S st x y dx dy d Q ok rx ry h k)
  · exact .inr (.inl (pr_inT (neg := false) S st x y dx dy d Q ok rx ry h k))
  · exact .inr (.inr (pr_sign (f := id) S st x y dx dy d Q ok rx ry h k))
theorem pr_notIn : PrimR T X.K (rNotInZ X.K) (fun x y => (semIn x y).map fun b => .bl !b) := by
  intro S st x y dx dy d Q ok rx ry hs k
  rcases semIn_or (f := not) dx dy d hs with h | h | h
  · exact .inl (pr_inL (f := not) S st x y dx dy d Q ok rx ry h k)
  · exact .inr (.inl (pr_inT (neg := true) S st x y dx dy d Q ok rx ry h k))
  · exact .inr (.inr (pr_sign (f := not) S st x y dx dy d Q ok rx ry h k))
theorem op_inZ (hu : X.A.units + 65 < cLine) : OpR X (compareOp .In) (rInZ X.K) := by
  have h1 : OpR X (compareOp .In) (fun x y H Q => rInD X.K x y H fun v H1 => ∀ b, v = .bl b → Q (.bl b) H1) := by
    intro pins s σ H x y v u Q I r1 r2 ⟨d, ds, p1, p2, p3, p4, h⟩
    exact op_inD hu pins s σ H x y v u Q I r1 r2 ⟨d, ds, p1, p2, p3, p4, h _ rfl⟩
  exact h1.or (op_in_seq.or op_in_sign)
theorem op_notInZ (hu : X.A.units + 65 < cLine) : OpR X (compareOp .NotIn) (rNotInZ X.K) := by
  have h1 : OpR X (compareOp .NotIn) (fun x y H Q => rInD X.K x y H fun v H1 => ∀ b, v = .bl b → Q (.bl !b) H1) := by
    intro pins s σ H x y v u Q I r1 r2 ⟨d, ds, p1, p2, p3, p4, h⟩
    exact op_notInD hu pins s σ H x y v u Q I r1 r2 ⟨d, ds, p1, p2, p3, p4, h _ rfl⟩
  exact h1.or (op_notIn_seq.or op_notIn_sign)
/-! ### xs[i:] -/
theorem Reps.drop {K : PySem.W.Frag} {hm : List Addr} {A : Addr → Prop} {H : Hp} : ∀ {vs : List V} {ds : List D} (n : Nat), Reps T K hm A H vs ds → Reps T K hm A H (vs.drop n) (ds.drop n)
  | _, _, 0, r => r
  | _, _, n + 1, .nil => .nil
  | _, _, n + 1, .cons _ rs => Reps.drop n rs
theorem Reps.take {K : PySem.W.Frag} {hm : List Addr} {A : Addr → Prop} {H : Hp} : ∀ {vs : List V} {ds : List D} (n : Nat), Reps T K hm A H vs ds → Reps T K hm A H (vs.take n) (ds.take n)
  | _, _, 0, _ => .nil
  | _, _, n + 1, .nil => .nil
  | _, _, n + 1, .cons r rs => .cons r (Reps.take n rs)
/-- x[lo:hi] of lists, tuples, texts -/
def rSlZ (K : PySem.W.Frag) : V → Option Int → Option Int → Hp → VK → Prop := fun x lo hi H Q => rSlL K x lo hi H Q ∨ (rSlA K x lo hi H Q ∨ rSlS x lo hi H Q)
theorem sl_all : SlR X (rSlZ X.K) := sl_list.or (sl_tupA.or sl_str)
theorem cut_whole {xs : List V} {lo hi : Option Int} (h : HT.sIx xs.length 0 lo = 0 ∧ HT.sIx xs.length xs.length hi = xs.length) : (xs.drop (HT.sIx xs.length 0 lo)).take (HT.sIx xs.length xs.length hi - HT.sIx xs.length 0 lo) = xs := by
  rw [h.1, h.2, List.drop_zero, Nat.sub_zero, List.take_length]
theorem Reps.cut {K : PySem.W.Frag} {hm : List Addr} {A : Addr → Prop} {H : Hp} {vs : List V} {ds : List D} (r : Reps T K hm A H vs ds) (lo hi : Option Int) : Reps T K hm A H ((vs.drop (HT.sIx vs.length 0 lo)).take (HT.sIx vs.length vs.length hi - HT.sIx vs.length 0 lo)) (cutD ds lo hi) := by
  unfold cutD
  rw [Reps.length r]
  exact Reps.take _ (Reps.drop _ r)
theorem pr_sl {S : Addr → Prop} {st : Gh} {x : V} {dx d : D} {lo hi : Option Int} {Q : VK} (ok : GOk T X.K S st) (rx : RepS T X.K S st x dx) (hs : semSl lo hi dx = some d)
    (k : ∀ v st', GOk T X.K S st' → st'.g = st.g → Step st st' → RepS T X.K S st' v d → Q v st'.H) : rSlZ X.K x lo hi st.H Q := by
  unfold semSl at hs
  split at hs
  · cases hs
    obtain ⟨a, vs, rfl, h1, h2, h3⟩ := rx.lst_
    exact .inl ⟨a, vs, rfl, .inl h1, finL ok k (Reps.cut h3 lo hi)⟩
  · cases hs
    obtain ⟨a, vs, rfl, h1, h3⟩ := rx.frz_
    exact .inl ⟨a, vs, rfl, h1.sq, finL ok k (Reps.cut h3 lo hi)⟩
  · cases hs
    obtain ⟨a, vs, rfl, h1, h3⟩ := rx.tup_
    have hc := Reps.cut h3 lo hi
    refine .inr (.inl ⟨a, vs, rfl, h1, fun hw => ?_, fun _ => finT ok k hc⟩)
    rw [cut_whole hw] at hc
    exact fin0 ok k (.tup h1 hc)
  · split at hs
    · rename_i z hz
      cases hs
      exact .inr (.inr ⟨z, rx.str_, hz, fin0 ok k (.str _)⟩)
    · cases hs
  · cases hs
def rSlo (K : PySem.W.Frag) : R2 := fun x y H Q => ∃ i, y = .int i ∧ rSlZ K x (some i) none H Q
theorem pr_slo : PrimR T X.K (rSlo X.K) semSlo := by
  intro S st x y dx dy d Q ok rx ry hs k
  unfold semSlo at hs
  split at hs
  · exact ⟨_, ry.int_, pr_sl ok rx hs k⟩
  · cases hs
theorem pr_slb (S : Addr → Prop) (st : Gh) (x y z : V) (dx dy dz d : D) (Q : VK) (ok : GOk T X.K S st) (rx : RepS T X.K S st x dx) (ry : RepS T X.K S st y dy) (rz : RepS T X.K S st z dz) (hs : P.sem kl .slb [dx, dy, dz] = some d)
    (k : ∀ v st', GOk T X.K S st' → st'.g = st.g → Step st st' → RepS T X.K S st' v d → Q v st'.H) : ∃ i, y = .int i ∧ ∃ j, z = .int j ∧ rSlZ X.K x (some i) (some j) st.H Q := by
  have hs : semSlb [dx, dy, dz] = some d := hs
  unfold semSlb at hs
  split at hs
  · rename_i e
    injection e with e1 e2
    injection e2 with e2 e3
    injection e3 with e3 e4
    subst e1 e2 e3
    exact ⟨_, ry.int_, _, rz.int_, pr_sl ok rx hs k⟩
  · cases hs
def rShi (K : PySem.W.Frag) : R2 := fun x y H Q => ∃ i, y = .int i ∧ rSlZ K x none (some i) H Q
theorem pr_shi : PrimR T X.K (rShi X.K) semShi := by
  intro S st x y dx dy d Q ok rx ry hs k
  unfold semShi at hs
  split at hs
  · exact ⟨_, ry.int_, pr_sl ok rx hs k⟩
  · cases hs
theorem Reps.rev {K : PySem.W.Frag} {hm : List Addr} {A : Addr → Prop} {H : Hp} : ∀ {vs : List V} {ds : List D}, Reps T K hm A H vs ds → Reps T K hm A H vs.reverse ds.reverse
  | _, _, .nil => .nil
  | _, _, .cons r rs => by
    rw [List.reverse_cons, List.reverse_cons]
    exact Reps.append (Reps.rev rs) (.cons r .nil)
/-! ### is -/
theorem Rep.isN {H : Hp} {K : PySem.W.Frag} {hm : List Addr} {A : Addr → Prop} {d : D} {v : V} (r : Rep T K hm A H v d) {b : Bool} {z : D} (h : semIsN b d = some z) : z = .bl (decide (v = .non) == b) := by
  cases r <;> (cases h; cases b <;> rfl)
theorem pr_isB : PrimR T X.K rIsB (semIsB true) := by
  intro S st x y dx dy d Q ok rx ry hs k
  unfold semIsB at hs
  split at hs
  · cases hs
    exact ⟨_, _, rx.bl_, ry.bl_, fin0 ok k (by have e : ∀ b : Bool, (b == true) = b := by decide
                                               rw [e]; exact .bl _)⟩
  · cases hs
theorem pr_notB : PrimR T X.K rNotB (semIsB false) := by
  intro S st x y dx dy d Q ok rx ry hs k
  unfold semIsB at hs
  split at hs
  · cases hs
    exact ⟨_, _, rx.bl_, ry.bl_, fin0 ok k (by have e : ∀ b : Bool, (b == false) = !b := by decide
                                               rw [e]; exact .bl _)⟩
  · cases hs
/-! ### o[i] -/
theorem place_ix (n : Nat) (i : Int) : place n i = ixN n i := rfl
theorem pr_ix : PrimR T X.K (rIx X.K) semIx := by
  intro S st x y dx dy d Q ok rx ry hs k
  unfold semIx at hs
  split at hs
  · rename_i xs i
    split at hs
    · rename_i j e
      obtain ⟨a, vs, rfl, h1, h3⟩ := rx.frz_
      obtain ⟨v, h4, h5⟩ := Reps.get h3 hs
      exact .inl ⟨a, vs, i, v, rfl, ry.int_, h1.sq, by unfold atI; rw [Reps.length h3, ← place_ix, e]; exact h4, fin0 ok k h5⟩
    · cases hs
  · rename_i xs i
    split at hs
    · rename_i j e
      obtain ⟨a, vs, rfl, h1, h2, h3⟩ := rx.lst_
      obtain ⟨v, h4, h5⟩ := Reps.get h3 hs
      exact .inl ⟨a, vs, i, v, rfl, ry.int_, .inl h1, by unfold atI; rw [Reps.length h3, ← place_ix, e]; exact h4, fin0 ok k h5⟩
    · cases hs
  · rename_i xs i
    split at hs
    · rename_i j e
      obtain ⟨a, vs, rfl, h1, h3⟩ := rx.tup_
      obtain ⟨v, h4, h5⟩ := Reps.get h3 hs
      exact .inr (.inl ⟨a, vs, i, v, rfl, ry.int_, h1, by unfold atI; rw [Reps.length h3, ← place_ix, e]; exact h4, fin0 ok k h5⟩)
    · cases hs
  · cases hs
end
end Z

set_option Elab.async false
set_option linter.all false
set_option maxRecDepth 100000
set_option maxHeartbeats 4000000
/-! Z4: the rules of expressions. -/
namespace Z
open PySem PySem.Spec PyProof.Rows L2

section
variable {X : Cx} {T : Tb} {W : WX} {rd : List Nat}

/-! ### values, constants -/
theorem post_ok {K : PySem.W.Frag} {S : Addr → Prop} {σ : L2.St} {st : Gh} {d : D} {g : G} {v : V} {Q : VK} (h : post T K S W σ st (.ok (d, g)) Q) (ok : GOk T K S st) (e : st.g = g) (r : RepS T K S st v d) : Q v st.H :=
  h v st ok e (Step.refl _) r
theorem fe_var {e : Expr} {i : Nat} (h : PE X e (tVar i)) : PE X e (tE T X.K W rd fun ρ g => match seen rd ρ i with | some d => .ok (d, g) | none => .bad) := by
  refine PE.mono h ?_
  rintro σ H Q ⟨S, st, ρ, rfl, ok, er, h⟩
  dsimp only at h
  cases e : seen rd ρ i with
  | none => rw [e] at h; exact h.elim
  | some d =>
    rw [e] at h
    obtain ⟨v, h1, h2⟩ := er.get i d e
    exact ⟨v, h1, post_ok h ok rfl h2⟩
/-- what is worth d in every state -/
def Const (T : Tb) (K : PySem.W.Frag) (v : V) (d : D) : Prop := ∀ (hm : List Addr) (A : Addr → Prop) (H : Hp), Rep T K hm A H v d
theorem fe_con {e : Expr} {v : V} {d : D} (h : PE X e (tC v)) (c : Const T X.K v d) : PE X e (tE T X.K W rd fun _ g => .ok (d, g)) := by
  refine PE.mono h ?_
  rintro σ H Q ⟨S, st, ρ, rfl, ok, er, h⟩
  exact post_ok h ok rfl (c _ _ _)

/-! ### operators -/
abbrev bin2 (fa fb : EvF) (sem : D → D → Option D) : EvF := fun ρ g => (fa ρ g).bind fun x => (fb ρ x.2).bind fun y => match sem x.1 y.1 with | some d => .ok (d, y.2) | none => .bad
theorem bin_mono {r : R2} {fa fb : EvF} {sem : D → D → Option D} (hs : PrimR T X.K r sem) (σ : L2.St) (H : Hp) (Q : VK) : tE T X.K W rd (bin2 fa fb sem) σ H Q → tOp r (tE T X.K W rd fa) (tE T X.K W rd fb) σ H Q := by
  rintro ⟨S, st, ρ, rfl, ok, er, h⟩
  refine ⟨S, st, ρ, rfl, ok, er, post_bind h fun p hp v st1 ok1 e1 s1 r1 h1 => ?_⟩
  refine ⟨S, st1, ρ, rfl, ok1, er.step ok s1, ?_⟩
  rw [e1]
  refine post_bind h1 fun q hq v2 st2 ok2 e2 s2 r2 h2 => ?_
  cases hsem : sem p.1 q.1 with
  | none => rw [hsem] at h2; exact h2.elim
  | some d =>
    rw [hsem] at h2
    exact hs S st2 v v2 p.1 q.1 d Q ok2 (RepS.step r1 ok1 s2) r2 hsem fun v st' ok' e' s' r' => h2 v st' ok' (e'.trans e2) s' r'
theorem fe_bin {e' : Expr} {r : R2} {fa fb : EvF} {sem : D → D → Option D} (h : PE X e' (tOp r (tE T X.K W rd fa) (tE T X.K W rd fb))) (hs : PrimR T X.K r sem) : PE X e' (tE T X.K W rd (bin2 fa fb sem)) :=
  PE.mono h (bin_mono hs)
theorem ft_bin {e' : Expr} {r : R2} {fa fb : EvF} {sem : D → D → Option D} (h : PT X e' (tTest (tOp r (tE T X.K W rd fa) (tE T X.K W rd fb)))) (hs : PrimR T X.K r sem) : PT X e' (tTest (tE T X.K W rd (bin2 fa fb sem))) :=
  PT.mono h fun σ H Q q => bin_mono hs σ H _ q
/-- three operands -/
abbrev tri (fa fb fc : EvF) (sem : D → D → D → Option D) : EvF := fun ρ g => (fa ρ g).bind fun x => (fb ρ x.2).bind fun y => (fc ρ y.2).bind fun z => match sem x.1 y.1 z.1 with | some d => .ok (d, z.2) | none => .bad
theorem tri_mono {r : V → V → V → Hp → VK → Prop} {fa fb fc : EvF} {sem : D → D → D → Option D} (hs : ∀ (S : Addr → Prop) (st : Gh) (x y z : V) (dx dy dz d : D) (Q : VK), GOk T X.K S st → RepS T X.K S st x dx → RepS T X.K S st y dy → RepS T X.K S st z dz → sem dx dy dz = some d →
    (∀ v st', GOk T X.K S st' → st'.g = st.g → Step st st' → RepS T X.K S st' v d → Q v st'.H) → r x y z st.H Q) (σ : L2.St) (H : Hp) (Q : VK) :
    tE T X.K W rd (tri fa fb fc sem) σ H Q → tE T X.K W rd fa σ H fun x H1 => tE T X.K W rd fb σ H1 fun y H2 => tE T X.K W rd fc σ H2 fun z H3 => r x y z H3 Q := by
  rintro ⟨S, st, ρ, rfl, ok, er, h⟩
  refine ⟨S, st, ρ, rfl, ok, er, post_bind h fun p hp v st1 ok1 e1 s1 r1 h1 => ?_⟩
  refine ⟨S, st1, ρ, rfl, ok1, er.step ok s1, ?_⟩
  rw [e1]
  refine post_bind h1 fun q hq v2 st2 ok2 e2 s2 r2 h2 => ?_
  refine ⟨S, st2, ρ, rfl, ok2, (er.step ok s1).step ok1 s2, ?_⟩
  rw [e2]
  refine post_bind h2 fun u hu v3 st3 ok3 e3 s3 r3 h3 => ?_
  cases hsem : sem p.1 q.1 u.1 with
  | none => rw [hsem] at h3; exact h3.elim
  | some d =>
    rw [hsem] at h3
    exact hs S st3 v v2 v3 p.1 q.1 u.1 d Q ok3 (RepS.step (RepS.step r1 ok1 s2) ok2 s3) (RepS.step r2 ok2 s3) r3 hsem fun v st' ok' e' s' r' => h3 v st' ok' (e'.trans e3) s' r'
/-- one operand -/
def PrimU (T : Tb) (K : PySem.W.Frag) (r : V → Hp → VK → Prop) (sem : D → Option D) : Prop :=
  ∀ (S : Addr → Prop) (st : Gh) (x : V) (dx d : D) (Q : VK), GOk T K S st → RepS T K S st x dx → sem dx = some d →
    (∀ v st', GOk T K S st' → st'.g = st.g → Step st st' → RepS T K S st' v d → Q v st'.H) → r x st.H Q
abbrev un1 (fa : EvF) (sem : D → Option D) : EvF := fun ρ g => (fa ρ g).bind fun x => match sem x.1 with | some d => .ok (d, x.2) | none => .bad
theorem un_mono {r : V → Hp → VK → Prop} {fa : EvF} {sem : D → Option D} (hs : PrimU T X.K r sem) (σ : L2.St) (H : Hp) (Q : VK) : tE T X.K W rd (un1 fa sem) σ H Q → tUn r (tE T X.K W rd fa) σ H Q := by
  rintro ⟨S, st, ρ, rfl, ok, er, h⟩
  refine ⟨S, st, ρ, rfl, ok, er, post_bind h fun p hp v st1 ok1 e1 s1 r1 h1 => ?_⟩
  cases hsem : sem p.1 with
  | none => rw [hsem] at h1; exact h1.elim
  | some d =>
    rw [hsem] at h1
    exact hs S st1 v p.1 d Q ok1 r1 hsem fun v st' ok' e' s' r' => h1 v st' ok' (e'.trans e1) s' r'
theorem fe_un {e' : Expr} {r : V → Hp → VK → Prop} {fa : EvF} {sem : D → Option D} (h : PE X e' (tUn r (tE T X.K W rd fa))) (hs : PrimU T X.K r sem) : PE X e' (tE T X.K W rd (un1 fa sem)) :=
  PE.mono h (un_mono hs)
theorem pr_neg : PrimU T X.K (rU fun i => .int (-i)) semNeg := by
  intro S st x dx d Q ok rx hs k
  unfold semNeg at hs
  split at hs
  · cases hs
    exact ⟨_, rx.int_, fin0 ok k (.int _)⟩
  · cases hs
theorem fe_not {a e' : Expr} {fa : EvF} (h : PE X e' (tNotV (tE T X.K W rd fa))) : PE X e' (tE T X.K W rd (un1 fa semNot)) := by
  refine PE.mono h ?_
  rintro σ H Q ⟨S, st, ρ, rfl, ok, er, h⟩
  refine ⟨S, st, ρ, rfl, ok, er, post_bind h fun p hp v st1 ok1 e1 s1 r1 h1 => ?_⟩
  cases hsem : semNot p.1 with
  | none => rw [hsem] at h1; exact h1.elim
  | some d =>
    rw [hsem] at h1
    unfold semNot at hsem
    split at hsem
    · rename_i b eb
      cases hsem
      rw [eb] at r1
      exact ⟨b, r1.bl_, post_ok h1 ok1 e1 (.bl _)⟩
    · cases hsem
theorem ft_not {e' : Expr} {fa : EvF} (h : PT X e' (tNot (tTest (tE T X.K W rd fa)))) : PT X e' (tTest (tE T X.K W rd (un1 fa semNot))) := by
  refine PT.mono h ?_
  rintro σ H Q ⟨S, st, ρ, rfl, ok, er, h⟩
  refine ⟨S, st, ρ, rfl, ok, er, post_bind h fun p hp v st1 ok1 e1 s1 r1 h1 => ?_⟩
  cases hsem : semNot p.1 with
  | none => rw [hsem] at h1; exact h1.elim
  | some d =>
    rw [hsem] at h1
    unfold semNot at hsem
    split at hsem
    · rename_i b eb
      cases hsem
      rw [eb] at r1
      obtain ⟨c, hc, q⟩ := post_ok (v := .bl !b) h1 ok1 e1 (.bl _)
      cases hc
      exact ⟨b, r1.bl_, q⟩
    · cases hsem

/-! ### and, or, if -/
abbrev andF (fa fb : EvF) : EvF := fun ρ g => (fa ρ g).bind fun q => match q.1 with | .bl true => fb ρ q.2 | .bl false => .ok (.bl false, q.2) | _ => .bad
abbrev orF (fa fb : EvF) : EvF := fun ρ g => (fa ρ g).bind fun q => match q.1 with | .bl false => fb ρ q.2 | .bl true => .ok (.bl true, q.2) | _ => .bad
abbrev iteF' (fc fa fb : EvF) : EvF := fun ρ g => (fc ρ g).bind fun q => match q.1 with | .bl true => fa ρ q.2 | .bl false => fb ρ q.2 | _ => .bad
theorem and_mono {fa fb : EvF} (σ : L2.St) (H : Hp) (Q : VK) : tE T X.K W rd (andF fa fb) σ H Q → tAndV (tE T X.K W rd fa) (tE T X.K W rd fb) σ H Q := by
  rintro ⟨S, st, ρ, rfl, ok, er, h⟩
  refine ⟨S, st, ρ, rfl, ok, er, post_bind h fun p hp v st1 ok1 e1 s1 r1 h1 => ?_⟩
  split at h1
  · rename_i eb
    rw [eb] at r1
    refine ⟨true, r1.bl_, ?_⟩
    refine iteT ?_
    exact ⟨S, st1, ρ, rfl, ok1, er.step ok s1, by rw [e1]; exact h1⟩
  · rename_i eb
    rw [eb] at r1
    refine ⟨false, r1.bl_, ?_⟩
    refine iteF ?_
    exact post_ok h1 ok1 e1 (.bl _)
  · exact h1.elim
theorem or_mono {fa fb : EvF} (σ : L2.St) (H : Hp) (Q : VK) : tE T X.K W rd (orF fa fb) σ H Q → tOrV (tE T X.K W rd fa) (tE T X.K W rd fb) σ H Q := by
  rintro ⟨S, st, ρ, rfl, ok, er, h⟩
  refine ⟨S, st, ρ, rfl, ok, er, post_bind h fun p hp v st1 ok1 e1 s1 r1 h1 => ?_⟩
  split at h1
  · rename_i eb
    rw [eb] at r1
    refine ⟨false, r1.bl_, ?_⟩
    refine iteF ?_
    exact ⟨S, st1, ρ, rfl, ok1, er.step ok s1, by rw [e1]; exact h1⟩
  · rename_i eb
    rw [eb] at r1
    refine ⟨true, r1.bl_, ?_⟩
    refine iteT ?_
    exact post_ok h1 ok1 e1 (.bl _)
  · exact h1.elim
theorem fe_and {e' : Expr} {fa fb : EvF} (h : PE X e' (tAndV (tE T X.K W rd fa) (tE T X.K W rd fb))) : PE X e' (tE T X.K W rd (andF fa fb)) := PE.mono h and_mono
theorem fe_or {e' : Expr} {fa fb : EvF} (h : PE X e' (tOrV (tE T X.K W rd fa) (tE T X.K W rd fb))) : PE X e' (tE T X.K W rd (orF fa fb)) := PE.mono h or_mono
theorem andT_mono {fa fb : EvF} (σ : L2.St) (H : Hp) (Q : Bool → Hp → Prop) (q : tTest (tE T X.K W rd (andF fa fb)) σ H Q) : tAnd (tTest (tE T X.K W rd fa)) (tTest (tE T X.K W rd fb)) σ H Q := by
  obtain ⟨S, st, ρ, rfl, ok, er, h⟩ := q
  refine ⟨S, st, ρ, rfl, ok, er, post_bind h fun p hp v st1 ok1 e1 s1 r1 h1 => ?_⟩
  split at h1
  · rename_i eb
    rw [eb] at r1
    refine ⟨true, r1.bl_, ?_⟩
    refine iteT ?_
    exact ⟨S, st1, ρ, rfl, ok1, er.step ok s1, by rw [e1]; exact h1⟩
  · rename_i eb
    rw [eb] at r1
    refine ⟨false, r1.bl_, ?_⟩
    refine iteF ?_
    obtain ⟨c, hc, q⟩ := post_ok (v := .bl false) h1 ok1 e1 (.bl _)
    cases hc
    exact q
  · exact h1.elim
theorem orT_mono {fa fb : EvF} (σ : L2.St) (H : Hp) (Q : Bool → Hp → Prop) (q : tTest (tE T X.K W rd (orF fa fb)) σ H Q) : tOr (tTest (tE T X.K W rd fa)) (tTest (tE T X.K W rd fb)) σ H Q := by
  obtain ⟨S, st, ρ, rfl, ok, er, h⟩ := q
  refine ⟨S, st, ρ, rfl, ok, er, post_bind h fun p hp v st1 ok1 e1 s1 r1 h1 => ?_⟩
  split at h1
  · rename_i eb
    rw [eb] at r1
    refine ⟨false, r1.bl_, ?_⟩
    refine iteF ?_
    exact ⟨S, st1, ρ, rfl, ok1, er.step ok s1, by rw [e1]; exact h1⟩
  · rename_i eb
    rw [eb] at r1
    refine ⟨true, r1.bl_, ?_⟩
    refine iteT ?_
    obtain ⟨c, hc, q⟩ := post_ok (v := .bl true) h1 ok1 e1 (.bl _)
    cases hc
    exact q
  · exact h1.elim
theorem ite_mono {fc fa fb : EvF} (σ : L2.St) (H : Hp) (Q : VK) : tE T X.K W rd (iteF' fc fa fb) σ H Q → tIf (tTest (tE T X.K W rd fc)) (tE T X.K W rd fa) (tE T X.K W rd fb) σ H Q := by
  rintro ⟨S, st, ρ, rfl, ok, er, h⟩
  refine ⟨S, st, ρ, rfl, ok, er, post_bind h fun p hp v st1 ok1 e1 s1 r1 h1 => ?_⟩
  split at h1
  · rename_i eb
    rw [eb] at r1
    refine ⟨true, r1.bl_, ?_⟩
    refine iteT ?_
    exact ⟨S, st1, ρ, rfl, ok1, er.step ok s1, by rw [e1]; exact h1⟩
  · rename_i eb
    rw [eb] at r1
    refine ⟨false, r1.bl_, ?_⟩
    refine iteF ?_
    exact ⟨S, st1, ρ, rfl, ok1, er.step ok s1, by rw [e1]; exact h1⟩
  · exact h1.elim
theorem fe_ite {c a b : Expr} {pos : Pos} {fc fa fb : EvF} (hc : PT X c (tTest (tE T X.K W rd fc))) (ha : PE X a (tE T X.K W rd fa)) (hb : PE X b (tE T X.K W rd fb)) : PE X (.IfExp c a b pos) (tE T X.K W rd (iteF' fc fa fb)) :=
  PE.mono (pe_ifExp hc ha hb) ite_mono
/-- a comparison of three -/
abbrev chF (fa fb fc : EvF) (s1 s2 : D → D → Option D) : EvF := fun ρ g => (fa ρ g).bind fun x => (fb ρ x.2).bind fun y => match s1 x.1 y.1 with
    | some (.bl true) => (fc ρ y.2).bind fun z => match s2 y.1 z.1 with
      | some d => .ok (d, z.2)
      | none => .bad
    | some (.bl false) => .ok (.bl false, y.2)
    | _ => .bad
theorem ch_mono {r r' : R2} {fa fb fc : EvF} {s1 s2 : D → D → Option D} (h1 : PrimR T X.K r s1) (h2 : PrimR T X.K r' s2) (σ : L2.St) (H : Hp) (Q : VK) : tE T X.K W rd (chF fa fb fc s1 s2) σ H Q →
    tE T X.K W rd fa σ H fun x H1 => tE T X.K W rd fb σ H1 fun y H2 => r x y H2 fun z H3 => ∃ k, z = .bl k ∧ if k = true then tE T X.K W rd fc σ H3 fun w H4 => r' y w H4 Q else Q (.bl false) H3 := by
  rintro ⟨S, st, ρ, rfl, ok, er, h⟩
  refine ⟨S, st, ρ, rfl, ok, er, post_bind h fun p hp v st1 ok1 e1 s1' r1 h => ?_⟩
  refine ⟨S, st1, ρ, rfl, ok1, er.step ok s1', ?_⟩
  rw [e1]
  refine post_bind h fun q hq v2 st2 ok2 e2 s2' r2 h => ?_
  split at h
  · rename_i es
    refine h1 S st2 v v2 p.1 q.1 _ _ ok2 (RepS.step r1 ok1 s2') r2 es fun u st3 ok3 e3 s3 r3 => ?_
    refine ⟨true, r3.bl_, ?_⟩
    refine iteT ?_
    have e23 := e3.trans e2
    refine ⟨S, st3, ρ, rfl, ok3, ((er.step ok s1').step ok1 s2').step ok2 s3, ?_⟩
    rw [e23]
    have h : post T X.K S W σ st3 ((fc ρ q.2).bind fun z => match s2 q.1 z.1 with
      | some d => .ok (d, z.2)
      | none => .bad) Q := by
      revert h
      cases ((fc ρ q.2).bind fun z => match s2 q.1 z.1 with
      | some d => R.ok (d, z.2)
      | none => .bad) with
      | bad => exact fun h => h
      | exc c fs g' => exact fun h cv dd st' ok' e' s' x => h cv dd st' ok' e' (s3.trans s') x
      | ok q => exact fun h v st' ok' e' s' x => h v st' ok' e' (s3.trans s') x
    refine post_bind h fun z hz w st4 ok4 e4 s4 r4 h => ?_
    cases hsem : s2 q.1 z.1 with
    | none => rw [hsem] at h; exact h.elim
    | some d =>
      rw [hsem] at h
      exact h2 S st4 v2 w q.1 z.1 d Q ok4 (RepS.step (RepS.step r2 ok2 s3) ok3 s4) r4 hsem fun v st' ok' e' s' r' => h v st' ok' (e'.trans e4) s' r'
  · rename_i es
    refine h1 S st2 v v2 p.1 q.1 _ _ ok2 (RepS.step r1 ok1 s2') r2 es fun u st3 ok3 e3 s3 r3 => ?_
    refine ⟨false, r3.bl_, ?_⟩
    refine iteF ?_
    exact h (.bl false) st3 ok3 (e3.trans e2) s3 (.bl _)
  · exact h.elim

/-! ### rows of expressions -/
theorem fes_nil : PA X [] (tEs T X.K W rd fun _ g => .ok ([], g)) := by
  refine PA.mono pa_nil ?_
  rintro σ H Q ⟨S, st, ρ, rfl, ok, er, h⟩
  exact h [] st ok rfl (Step.refl _) .nil
abbrev consF (fa : EvF) (fs : List Sl → G → R (List D × G)) : List Sl → G → R (List D × G) := fun ρ g => (fa ρ g).bind fun x => (fs ρ x.2).bind fun y => .ok (x.1 :: y.1, y.2)
theorem fes_cons {e : Expr} {es : List Expr} {fa : EvF} {fs : List Sl → G → R (List D × G)} (ha : PE X e (tE T X.K W rd fa)) (hs : PA X es (tEs T X.K W rd fs)) (hst : starEach (e :: es) X.env = (false, eval e X.env) :: starEach es X.env) :
    PA X (e :: es) (tEs T X.K W rd (consF fa fs)) := by
  refine PA.mono (pa_cons ha hs hst) ?_
  rintro σ H Q ⟨S, st, ρ, rfl, ok, er, h⟩
  refine ⟨S, st, ρ, rfl, ok, er, posts_bind h fun p hp v st1 ok1 e1 s1 r1 h1 => ?_⟩
  refine ⟨S, st1, ρ, rfl, ok1, er.step ok s1, ?_⟩
  rw [e1]
  refine posts_binds h1 fun q hq vs st2 ok2 e2 s2 r2 h2 => ?_
  exact h2 (v :: vs) st2 ok2 e2 (Step.refl _) (.cons (RepS.step r1 ok1 s2) r2)
/-- the value of a list of values -/
def PrimL (T : Tb) (K : PySem.W.Frag) (r : List V → Hp → VK → Prop) (sem : List D → Option D) : Prop :=
  ∀ (S : Addr → Prop) (st : Gh) (x : List V) (dx : List D) (d : D) (Q : VK), GOk T K S st → RepsS T K S st x dx → sem dx = some d →
    (∀ v st', GOk T K S st' → st'.g = st.g → Step st st' → RepS T K S st' v d → Q v st'.H) → r x st.H Q
abbrev lsF (fs : List Sl → G → R (List D × G)) (sem : List D → Option D) : EvF := fun ρ g => (fs ρ g).bind fun q => match sem q.1 with | some d => .ok (d, q.2) | none => .bad
theorem ls_mono {r : List V → Hp → VK → Prop} {fs : List Sl → G → R (List D × G)} {sem : List D → Option D} (hs : PrimL T X.K r sem) (σ : L2.St) (H : Hp) (Q : VK) : tE T X.K W rd (lsF fs sem) σ H Q → tEs T X.K W rd fs σ H fun xs H1 => r xs H1 Q := by
  rintro ⟨S, st, ρ, rfl, ok, er, h⟩
  refine ⟨S, st, ρ, rfl, ok, er, post_binds h fun p hp v st1 ok1 e1 s1 r1 h1 => ?_⟩
  cases hsem : sem p.1 with
  | none => rw [hsem] at h1; exact h1.elim
  | some d =>
    rw [hsem] at h1
    exact hs S st1 v p.1 d Q ok1 r1 hsem fun v st' ok' e' s' r' => h1 v st' ok' (e'.trans e1) s' r'
theorem fe_ls {e' : Expr} {r : List V → Hp → VK → Prop} {fs : List Sl → G → R (List D × G)} {sem : List D → Option D} (h : PE X e' (fun σ H Q => tEs T X.K W rd fs σ H fun xs H1 => r xs H1 Q)) (hs : PrimL T X.K r sem) : PE X e' (tE T X.K W rd (lsF fs sem)) :=
  PE.mono h (ls_mono hs)
theorem pr_tup : PrimL T X.K (fun xs H Q => xs.length ≤ sizeLine ∧ ∀ p, H p = none → Q (.ref p) (upd H p (.tup xs))) (fun ds => if ds.length ≤ sizeLine then some (.tup ds) else none) := by
  intro S st x dx d Q ok rx hs k
  dsimp only at hs
  split at hs
  · rename_i h
    cases hs
    exact ⟨by rw [Reps.length rx]; exact h, finT ok k rx⟩
  · cases hs
theorem pr_lst : PrimL T X.K (fun xs H Q => xs.length ≤ sizeLine ∧ ∀ p, H p = none → Q (.ref p) (upd H p (.lst xs))) (fun ds => if ds.length ≤ sizeLine then some (.lst ds) else none) := by
  intro S st x dx d Q ok rx hs k
  dsimp only at hs
  split at hs
  · rename_i h
    cases hs
    exact ⟨by rw [Reps.length rx]; exact h, finL ok k rx⟩
  · cases hs
theorem fe_tup {es : List Expr} {k : Nat} {pos : Pos} {fs : List Sl → G → R (List D × G)} (h : PA X es (tEs T X.K W rd fs)) : PE X (.Tuple es k pos) (tE T X.K W rd (lsF fs fun ds => if ds.length ≤ sizeLine then some (.tup ds) else none)) :=
  fe_ls (pe_tup h) pr_tup
theorem fe_lst {es : List Expr} {pos : Pos} {fs : List Sl → G → R (List D × G)} (h : PA X es (tEs T X.K W rd fs)) : PE X (.List es pos) (tE T X.K W rd (lsF fs fun ds => if ds.length ≤ sizeLine then some (.lst ds) else none)) :=
  fe_ls (pe_lst h) pr_lst
end
end Z

set_option Elab.async false
set_option linter.all false
set_option maxRecDepth 100000
set_option maxHeartbeats 4000000
/-! Z5: calls of built-ins and of the text's own defs. -/
namespace Z
open PySem PySem.Spec PyProof.Rows L2

/-! ### isinstance -/
def clv (T : Tb) : Cl → Value → Prop
  | .ty n, v => v = .type n
  | .own c, v => ∃ C, T.cls c = some C ∧ v = .ref C
/-- what is known of the classes -/
structure KlOk (T : Tb) (K : PySem.W.Frag) (kl : Kl) : Prop where
  isa : ∀ t c b tv cv, kl.isa t c = some b → clv T t tv → clv T c cv → PySem.W.kitOne K tv cv = some b
  exc : ∀ c C, T.cls c = some C → ExcC K C
  exm : ∀ a b x A B, kl.own a b = some x → T.cls a = some A → T.cls b = some B → PySem.W.exmOne K (.ref A) (.ref B) = some x

section
variable {X : Cx} {T : Tb} {kl : Kl} {pins : List (Addr × Obj)} {σ : L2.St} {H : Hp} {s : Shared} {hm : List Addr} {A : Addr → Prop}
/-- a value's class, for isinstance -/
theorem kit_rep (KO : KlOk T X.K kl) (I : Inv X pins σ H s) {x : V} {u : Value} (rx : RelV x u) {d : D} {t : Cl} (r : Rep T X.K hm A H x d) (ht : d.tag = some t) :
    ∃ (tv : Value) (P : Heap → Prop), clv T t tv ∧ PySem.W.KitX X.K u tv P ∧ P s.heap ∧ u ≠ .builtin "__main__.__loader__#opaque" := by
  have base : ∀ {n : String}, TyX X.K H x (.type n) → t = .ty n → ∃ (tv : Value) (P : Heap → Prop), clv T t tv ∧ PySem.W.KitX X.K u tv P ∧ P s.heap ∧ u ≠ .builtin "__main__.__loader__#opaque" := fun {n} ty e => by
    subst e
    obtain ⟨P, h1, h2, h3⟩ := kit_of I rx ty
    exact ⟨_, P, rfl, h1, h2, h3⟩
  cases r with
  | non => cases ht; exact base (.base .non) rfl
  | bl b => cases ht; exact base (.base (.bl b)) rfl
  | int i => cases ht; exact base (.base (.int i)) rfl
  | str i => cases ht; exact base (.base (.str i)) rfl
  | ty n => cases ht
  | cls h => cases ht
  | fn h => cases ht
  | lam _ _ => cases ht
  | hnd h => cases ht
  | tup h r =>
    cases ht
    rcases h with (h | ⟨o, h⟩) | ⟨o, its, n, h1, h2, _⟩
    · exact base (.base (.tup h)) rfl
    · exact base (.fTuple h) rfl
    · exact base (.kTuple h1 h2) rfl
  | lst h a r =>
    cases ht
    exact base (.base (.lst h)) rfl
  | frz h r => cases ht; exact base h.ty rfl
  | dct h a r =>
    cases ht
    rcases h with h | ⟨o, h⟩
    · exact base (.base (.dK h)) rfl
    · exact base (.fDict h) rfl
  | @exc a C c dd fs hc h rx' =>
    cases rx' with
    | one _ _ _ => cases ht
    | none =>
      cases ht
      obtain rfl : u = Value.ref a := rx
      obtain ⟨⟨oe, he, hz, vs, hd⟩, _⟩ := (show ObjOk X.prog X.w H s.heap a (excH a C none) from I.hok a _ h)
      have E := KO.exc c C hc
      obtain ⟨oc, od, odt, osl⟩ := oe
      obtain ⟨z1, z2⟩ := hz
      dsimp only at z1 z2 hd
      subst z1 z2 hd
      exact ⟨.ref C, _, ⟨C, hc, rfl⟩, PySem.W.handS_kitx_exc E.hg E.hk E.hs E.hd E.ha E.hn E.ht E.hm, ⟨he, rfl, rfl, trivial⟩, fun z => nomatch z⟩
theorem cls_rep {c : D} {cl : Cl} {v : V} {u : Value} (r : Rep T X.K hm A H v c) (rv : RelV v u) (h : c.asCl = some cl) : clv T cl u := by
  cases r <;> (try (cases h; done))
  · cases h; exact rv
  · rename_i hc; cases h; exact ⟨_, hc, rv⟩
theorem any_rep (KO : KlOk T X.K kl) {t : Cl} {tv : Value} (ht : clv T t tv) : ∀ {cs : List D} {vs : List V} {us : List Value} {b : Bool}, Reps T X.K hm A H vs cs → Vals vs us → kl.isaAny t cs = some b → PySem.W.kitAny X.K tv us = some b
  | [], _, _, b, .nil, .nil, h => by cases h; rfl
  | c :: cs, _, _, b, .cons r rs, .cons rv rvs, h => by
    unfold Kl.isaAny at h
    cases hc : c.asCl with
    | none => rw [hc] at h; cases h
    | some cl =>
      rw [hc] at h
      dsimp only at h
      cases hi : kl.isa t cl with
      | none => rw [hi] at h; cases h
      | some k =>
        rw [hi] at h
        have e := KO.isa t cl k _ _ hi ht (cls_rep r rv hc)
        unfold PySem.W.kitAny
        rw [e]
        cases k with
        | true =>
          dsimp only at h ⊢
          cases ha : Kl.isaAny kl t cs with
          | none => rw [ha] at h; cases h
          | some q => rw [ha] at h; cases h; rfl
        | false =>
          dsimp only at h ⊢
          exact any_rep KO ht rs rvs h
end
section
variable {X : Cx} {T : Tb} {W : WX} {rd : List Nat} {kl : Kl}
/-- isinstance, told by data -/
def rIsZ (T : Tb) (K : PySem.W.Frag) (kl : Kl) : List V → Hp → VK → Prop := fun xs H Q => ∃ (x c : V) (dx dc d : D) (hm : List Addr) (A : Addr → Prop), xs = [x, c] ∧ Rep T K hm A H x dx ∧ Rep T K hm A H c dc ∧ semIsI kl dx dc = some d ∧ ∀ b, d = .bl b → Q (.bl b) H
theorem call_isZ (KO : KlOk T X.K kl) : CallR X (.builtin "isinstance") (rIsZ T X.K kl) := by
  intro pins s σ H xs us Q I r h
  obtain ⟨x, c, dx, dc, d, hm, A, rfl, rx, rc, hs, q⟩ := h
  obtain ⟨u1, u2, rfl, r1, r2⟩ := vals2 r
  unfold semIsI at hs
  cases ht : dx.tag with
  | none => rw [ht] at hs; cases hs
  | some t =>
    rw [ht] at hs
    dsimp only at hs
    obtain ⟨tv, P, ct, Z, p, hx⟩ := kit_rep KO I r1 rx ht
    split at hs
    · rename_i cs
      obtain ⟨a, vs, rfl, hq, rs⟩ := rc.tup_
      cases hb : Kl.isaAny kl t cs with
      | none => rw [hb] at hs; cases hs
      | some b =>
        rw [hb] at hs
        cases hs
        cases (show u2 = Value.ref a from r2)
        obtain ⟨its, rv, ⟨o, h1, h2, n, h3⟩, _⟩ := I.tuple hq
        obtain ⟨oc, od, dt, sl⟩ := o
        simp only at h2 h3
        subst h2 h3
        exact PySem.W.kia_tup Z I.kIn p h1 (any_rep KO ct rs rv hb) hx fun tk => ⟨.bl b, H, I.tok tk, rfl, q b rfl⟩
    · split at hs
      · rename_i cl hc
        cases hi : kl.isa t cl with
        | none => rw [hi] at hs; cases hs
        | some b =>
          rw [hi] at hs
          cases hs
          exact PySem.W.kia_one Z I.kIn p (KO.isa _ _ _ _ _ hi ct (cls_rep rc r2 hc)) hx fun tk => ⟨.bl b, H, I.tok tk, rfl, q b rfl⟩
      · cases hs
theorem pr_isi : PrimL T X.K (rIsZ T X.K kl) (on2 (semIsI kl)) := by
  intro S st xs dxs d Q ok r hs k
  unfold on2 at hs
  split at hs
  · rename_i dx dc
    cases r with
    | cons rx r' =>
      cases r' with
      | cons rc r'' =>
        cases r''
        refine ⟨_, _, dx, dc, d, _, _, rfl, rx, rc, hs, fun b e => ?_⟩
        subst e
        exact fin0 ok k (.bl b)
  · cases hs

/-! ### other built-ins -/
theorem pr_on1 {r : List V → Hp → VK → Prop} {f : D → Option D} (h : ∀ (S : Addr → Prop) (st : Gh) (x : V) (dx d : D) (Q : VK), GOk T X.K S st → RepS T X.K S st x dx → f dx = some d →
    (∀ v st', GOk T X.K S st' → st'.g = st.g → Step st st' → RepS T X.K S st' v d → Q v st'.H) → r [x] st.H Q) : PrimL T X.K r (on1 f) := by
  intro S st xs dxs d Q ok rr hs k
  unfold on1 at hs
  split at hs
  · cases rr with
    | cons rx r' =>
      cases r'
      exact h S st _ _ d Q ok rx hs k
  · cases hs
theorem pr_on2 {r : List V → Hp → VK → Prop} {f : D → D → Option D} (h : ∀ (S : Addr → Prop) (st : Gh) (x y : V) (dx dy d : D) (Q : VK), GOk T X.K S st → RepS T X.K S st x dx → RepS T X.K S st y dy → f dx dy = some d →
    (∀ v st', GOk T X.K S st' → st'.g = st.g → Step st st' → RepS T X.K S st' v d → Q v st'.H) → r [x, y] st.H Q) : PrimL T X.K r (on2 f) := by
  intro S st xs dxs d Q ok rr hs k
  unfold on2 at hs
  split at hs
  · cases rr with
    | cons rx r' =>
      cases r' with
      | cons ry r'' =>
        cases r''
        exact h S st _ _ _ _ d Q ok rx ry hs k
  · cases hs
theorem pr_abs : PrimL T X.K (fun xs H Q => ∃ i, xs = [.int i] ∧ Q (.int (if i < 0 then -i else i)) H) (on1 semAbs) := pr_on1 fun S st x dx d Q ok r hs k => by
  unfold semAbs at hs
  split at hs
  · cases hs
    exact ⟨_, by rw [r.int_], fin0 ok k (.int _)⟩
  · cases hs
theorem pr_len : PrimL T X.K (fun xs H Q => ∃ x n, xs = [x] ∧ LenV X.K x H n ∧ Q (.int n) H) (on1 semLen) := pr_on1 fun S st x dx d Q ok r hs k => by
  unfold semLen at hs
  split at hs
  · cases hs
    obtain ⟨a, vs, rfl, h1, h3⟩ := r.frz_
    exact ⟨_, vs.length, rfl, .inl ⟨vs, h1.sq, rfl⟩, by rw [Reps.length h3]; exact fin0 ok k (.int _)⟩
  · cases hs
    obtain ⟨a, vs, rfl, h1, h2, h3⟩ := r.lst_
    exact ⟨_, vs.length, rfl, .inl ⟨vs, .inl h1, rfl⟩, by rw [Reps.length h3]; exact fin0 ok k (.int _)⟩
  · cases hs
    obtain ⟨a, vs, rfl, h1, h3⟩ := r.tup_
    exact ⟨_, vs.length, rfl, .inr ⟨vs, h1, rfl⟩, by rw [Reps.length h3]; exact fin0 ok k (.int _)⟩
  · split at hs
    · rename_i hz
      cases hs
      exact ⟨_, _, rfl, by rw [r.str_]; exact ⟨hz, rfl⟩, fin0 ok k (.int _)⟩
    · cases hs
  · cases hs
theorem isBls_rep {hm : List Addr} {A : Addr → Prop} {H : Hp} {K : PySem.W.Frag} : ∀ {xs : List D} {vs : List V} {bs : List Bool}, Reps T K hm A H vs xs → isBls xs = some bs → vs = bs.map V.bl
  | [], _, _, .nil, h => by cases h; rfl
  | .bl b :: xs, _, bs, .cons r rs, h => by
    have h : (isBls xs).map (b :: ·) = some bs := h
    cases hx : isBls xs with
    | none => rw [hx] at h; cases h
    | some cs =>
      rw [hx] at h
      cases h
      rw [r.bl_, isBls_rep rs hx]; rfl
theorem pr_all : PrimL T X.K (rAll X.K) (on1 semAll) := pr_on1 fun S st x dx d Q ok r hs k => by
  unfold semAll at hs
  split at hs
  · rename_i xs
    cases hx : isBls xs with
    | none => rw [hx] at hs; cases hs
    | some bs =>
      rw [hx] at hs
      cases hs
      obtain ⟨a, vs, rfl, h1, h2, h3⟩ := r.lst_
      have e := isBls_rep h3 hx
      subst e
      exact ⟨a, bs, rfl, .inl h1, fin0 ok k (.bl _)⟩
  · cases hs
mutual
theorem noDict_py : ∀ d : D, d.py.hasDict = false
  | .bl _ => by simp [D.py, PyData.hasDict]
  | .int _ => by simp [D.py, PyData.hasDict]
  | .str _ => by simp [D.py, PyData.hasDict]
  | .tup xs => by simp [D.py, PyData.hasDict, noDict_pys xs]
  | .lst xs => by simp [D.py, PyData.hasDict, noDict_pys xs]
  | .frz xs => by simp [D.py, PyData.hasDict, noDict_pys xs]
  | .non => by simp [D.py, PyData.hasDict]
  | .ty _ => by simp [D.py, PyData.hasDict]
  | .cls _ => by simp [D.py, PyData.hasDict]
  | .fn _ => by simp [D.py, PyData.hasDict]
  | .dct _ => by simp [D.py, PyData.hasDict]
  | .exc _ _ => by simp [D.py, PyData.hasDict]
  | .hnd _ => by simp [D.py, PyData.hasDict]
  | .lam _ => by simp [D.py, PyData.hasDict]
theorem noDict_pys : ∀ xs : List D, PyData.hasDictAll (D.pys xs) = false
  | [] => by simp [D.pys, PyData.hasDictAll]
  | x :: xs => by simp [D.pys, PyData.hasDictAll, noDict_py x, noDict_pys xs]
end
theorem pr_repr : PrimL T X.K (fun xs H Q => ∃ x d, xs = [x] ∧ Dp X.K H x d ∧ d.showable = true ∧ d.hasDict = false ∧ d.depth ≤ 64 ∧ d.shown.length ≤ sizeLine ∧ Q (.str d.shown) H) (on1 semRepr) := pr_on1 fun S st x dx d Q ok r hs k => by
  unfold semRepr at hs
  split at hs
  · rename_i h
    cases hs
    have hp : dx.plain = true ∧ dx.dp ≤ 64 := by
      have := h.1
      unfold D.okEq at this
      rw [Bool.and_eq_true] at this
      exact ⟨this.1, of_decide_eq_true this.2⟩
    exact ⟨x, dx.py, rfl, dp_py r hp.1, h.2.1, noDict_py _, Nat.le_trans (depth_py _) hp.2, h.2.2, fin0 ok k (.str _)⟩
  · cases hs
theorem pr_any : PrimL T X.K (rAny X.K) (on1 semAny) := pr_on1 fun S st x dx d Q ok r hs k => by
  unfold semAny at hs
  split at hs
  · rename_i xs
    cases hx : isBls xs with
    | none => rw [hx] at hs; cases hs
    | some bs =>
      rw [hx] at hs
      cases hs
      obtain ⟨a, vs, rfl, h1, h2, h3⟩ := r.lst_
      have e := isBls_rep h3 hx
      subst e
      exact ⟨a, bs, rfl, .inl h1, fin0 ok k (.bl _)⟩
  · cases hs
theorem isInts_rep {hm : List Addr} {A : Addr → Prop} {H : Hp} {K : PySem.W.Frag} : ∀ {xs : List D} {vs : List V} {bs : List Int}, Reps T K hm A H vs xs → isInts xs = some bs → vs = bs.map V.int
  | [], _, _, .nil, h => by cases h; rfl
  | .int b :: xs, _, bs, .cons r rs, h => by
    have h : (isInts xs).map (b :: ·) = some bs := h
    cases hx : isInts xs with
    | none => rw [hx] at h; cases h
    | some cs =>
      rw [hx] at h
      cases h
      rw [r.int_, isInts_rep rs hx]; rfl
theorem foldl_max : ∀ (r : List Int) (n : Int), r.foldl max n ∈ n :: r ∧ ∀ y ∈ n :: r, y ≤ r.foldl max n
  | [], n => ⟨.head _, fun y h => by rw [List.mem_singleton.1 h]; exact Int.le_refl _⟩
  | a :: r, n => by
    obtain ⟨h1, h2⟩ := foldl_max r (max n a)
    refine ⟨?_, fun y hy => ?_⟩
    · show r.foldl max (max n a) ∈ _
      rcases List.mem_cons.1 h1 with e | e
      · rw [e]
        rcases Int.le_total n a with k | k
        · rw [Int.max_eq_right k]; exact .tail _ (.head _)
        · rw [Int.max_eq_left k]; exact .head _
      · exact .tail _ (.tail _ e)
    · show y ≤ r.foldl max (max n a)
      have k := h2 (max n a) (.head _)
      rcases List.mem_cons.1 hy with rfl | hy
      · omega
      · rcases List.mem_cons.1 hy with rfl | hy
        · omega
        · exact h2 y (.tail _ hy)
theorem pr_maxL : PrimL T X.K (ZL.rMaxT X.K) (on1 semMax1) := pr_on1 fun S st x dx d Q ok r hs k => by
  unfold semMax1 at hs
  split at hs
  · rename_i xs
    split at hs
    · rename_i n rr hx
      cases hs
      obtain ⟨a, vs, rfl, h1, h2⟩ := r.tup_
      have e := isInts_rep h2 hx
      subst e
      obtain ⟨m1, m2⟩ := foldl_max rr n
      refine ⟨a, n :: rr, rfl, h1, Nat.succ_pos _, fun m hm hle => ?_⟩
      have : m = rr.foldl max n := Int.le_antisymm (m2 m hm) (hle _ m1)
      subst this
      exact fin0 ok k (.int _)
    · cases hs
  · cases hs
theorem pr_sum : PrimL T X.K (ZL.rSumT X.K) (on1 semSum) := pr_on1 fun S st x dx d Q ok r hs k => by
  unfold semSum at hs
  split at hs
  · rename_i xs
    cases hx : isInts xs with
    | none => rw [hx] at hs; cases hs
    | some bs =>
      rw [hx] at hs
      cases hs
      obtain ⟨a, vs, rfl, h1, h2, h3⟩ := r.lst_
      have e := isInts_rep h3 hx
      subst e
      exact ⟨a, bs, rfl, .inl (.inl h1), fin0 ok k (.int _)⟩
  · rename_i xs
    cases hx : isInts xs with
    | none => rw [hx] at hs; cases hs
    | some bs =>
      rw [hx] at hs
      cases hs
      obtain ⟨a, vs, rfl, h1, h3⟩ := r.tup_
      have e := isInts_rep h3 hx
      subst e
      exact ⟨a, bs, rfl, .inr h1, fin0 ok k (.int _)⟩
  · cases hs
theorem pr_toLst : PrimL T X.K (fun xs H Q => ∃ p ys, xs = [.ref p] ∧ (SqL X.K H p ys ∨ SqT X.K H p ys) ∧ ∀ l, H l = none → Q (.ref l) (upd H l (.lst ys))) (on1 semToLst) := pr_on1 fun S st x dx d Q ok r hs k => by
  unfold semToLst at hs
  split at hs
  · cases hs
    obtain ⟨a, vs, rfl, h1, h2, h3⟩ := r.lst_
    exact ⟨a, vs, rfl, .inl (.inl h1), finL ok k h3⟩
  · cases hs
    obtain ⟨a, vs, rfl, h1, h3⟩ := r.frz_
    exact ⟨a, vs, rfl, .inl h1.sq, finL ok k h3⟩
  · cases hs
    obtain ⟨a, vs, rfl, h1, h3⟩ := r.tup_
    exact ⟨a, vs, rfl, .inr h1, finL ok k h3⟩
  · cases hs
theorem pr_toTup : PrimL T X.K (fun xs H Q => ∃ p ys, xs = [.ref p] ∧ ((SqL X.K H p ys ∧ ∀ l, H l = none → Q (.ref l) (upd H l (.tup ys))) ∨ (SqT X.K H p ys ∧ Q (.ref p) H))) (on1 semToTup) := pr_on1 fun S st x dx d Q ok r hs k => by
  unfold semToTup at hs
  split at hs
  · cases hs
    obtain ⟨a, vs, rfl, h1, h2, h3⟩ := r.lst_
    exact ⟨a, vs, rfl, .inl ⟨.inl h1, finT ok k h3⟩⟩
  · cases hs
    obtain ⟨a, vs, rfl, h1, h3⟩ := r.frz_
    exact ⟨a, vs, rfl, .inl ⟨h1.sq, finT ok k h3⟩⟩
  · cases hs
    obtain ⟨a, vs, rfl, h1, h3⟩ := r.tup_
    exact ⟨a, vs, rfl, .inr ⟨h1, fin0 ok k (.tup h1 h3)⟩⟩
  · cases hs
theorem pr_str : PrimL T X.K (fun xs H Q => ∃ i : Int, xs = [.int i] ∧ i.natAbs.log2 < 1920 ∧ Q (.str (Str.ofString (toString i))) H) (on1 semStr) := pr_on1 fun S st x dx d Q ok r hs k => by
  unfold semStr at hs
  split at hs
  · split at hs
    · rename_i i h
      cases hs
      exact ⟨i, by rw [r.int_], h, fin0 ok k (.str _)⟩
    · cases hs
  · cases hs
theorem reps_rng {K : PySem.W.Frag} {hm : List Addr} {A : Addr → Prop} {H : Hp} (n : Nat) : Reps T K hm A H (rgV 0 n) ((List.range n).map fun (k : Nat) => D.int (k : Int)) := by
  unfold rgV
  have e : ((n : Int) - 0).toNat = n := by omega
  rw [e]
  have : ∀ l : List Nat, Reps T K hm A H (l.map fun (i : Nat) => V.int (0 + (i : Int))) (l.map fun (k : Nat) => D.int (k : Int)) := fun l => by
    induction l with
    | nil => exact .nil
    | cons a l ih =>
      refine .cons ?_ ih
      show Rep T K hm A H (V.int (0 + (a : Int))) (D.int (a : Int))
      rw [Int.zero_add]
      exact .int _
  exact this _
theorem rgV_neg {n : Int} (h : n ≤ 0) : rgV 0 n = [] := by
  unfold rgV
  rw [show (n - 0).toNat = 0 by omega]; rfl
theorem pr_min2 : PrimL T X.K (fun xs H Q => ∃ i j, xs = [.int i, .int j] ∧ Q (.int (if j < i then j else i)) H) (on2 (onI fun i j => some (.int (if j < i then j else i)))) := pr_on2 fun S st x y dx dy d Q ok rx ry hs k => by
  unfold onI at hs
  split at hs
  · cases hs
    exact ⟨_, _, by rw [rx.int_, ry.int_], fin0 ok k (.int _)⟩
  · cases hs
theorem pr_max2 : PrimL T X.K (fun xs H Q => ∃ i j, xs = [.int i, .int j] ∧ Q (.int (if j > i then j else i)) H) (on2 (onI fun i j => some (.int (if j > i then j else i)))) := pr_on2 fun S st x y dx dy d Q ok rx ry hs k => by
  unfold onI at hs
  split at hs
  · cases hs
    exact ⟨_, _, by rw [rx.int_, ry.int_], fin0 ok k (.int _)⟩
  · cases hs
theorem pr_toInt : PrimL T X.K (fun xs H Q => (∃ i, xs = [.int i] ∧ Q (.int i) H) ∨ ∃ k, xs = [.bl k] ∧ Q (.int (if k then 1 else 0)) H) (on1 semToInt) := pr_on1 fun S st x dx d Q ok r hs k => by
  unfold semToInt at hs
  split at hs
  · cases hs
    exact .inl ⟨_, by rw [r.int_], fin0 ok k (.int _)⟩
  · cases hs
    exact .inr ⟨_, by rw [r.bl_], fin0 ok k (.int _)⟩
  · cases hs

/-! ### the text's own defs -/
def Tag.isSlot : Tag → Bool
  | .slot _ => true
  | _ => false
def erS (ow : Addr → Option Tag) : Addr → Option Tag := fun a => match ow a with
  | some (.slot _) => none
  | x => x
/-- what the def with so many parameters and the answer F promises -/
def spF (T : Tb) (K : PySem.W.Frag) (np : Nat) (F : List D → G → R (D × G)) : Sp := fun vs H Q E => vs.length = np ∧ ∃ S st ds, st.H = H ∧ GOk T K S st ∧ (∀ a i, st.ow a ≠ some (.slot i)) ∧ RepsS T K S st vs ds ∧
  post T K S (fun cv dd _ H => E cv dd H) [] st (F ds st.g) Q

section
variable {K : PySem.W.Frag} {S : Addr → Prop} {st st' : Gh}
/-- a callee's state, its own look -/
def Gh.inn (st : Gh) : Gh := { st with ow := erS st.ow }
def Sin (S : Addr → Prop) (st : Gh) : Addr → Prop := fun a => S a ∧ ∀ i, st.ow a ≠ some (.slot i)
/-- back in the caller -/
def Gh.out (st st' : Gh) : Gh := { st' with ow := fun a => match st.ow a with | some (.slot i) => some (.slot i) | _ => st'.ow a }
theorem ers_none {ow : Addr → Option Tag} {a : Addr} (h : ow a = none) : erS ow a = none := by unfold erS; rw [h]
theorem ers_slot {ow : Addr → Option Tag} {a : Addr} {i : Nat} (h : ow a = some (.slot i)) : erS ow a = none := by unfold erS; rw [h]
theorem ers_ns {ow : Addr → Option Tag} {a : Addr} (i : Nat) : erS ow a ≠ some (.slot i) := by
  unfold erS
  split
  · exact fun z => nomatch z
  · rename_i h; exact h i
theorem ers_obj {ow : Addr → Option Tag} {a : Addr} {t : Tag} (h : ow a = some t) (ht : t.isSlot = false) : erS ow a = some t := by
  unfold erS
  rw [h]
  cases t <;> first | rfl | cases ht
theorem ers_of {ow : Addr → Option Tag} {a : Addr} {t : Tag} (h : erS ow a = some t) : ow a = some t := by
  unfold erS at h
  split at h
  · cases h
  · exact h
theorem kept_inn : Kept st.hm st.inn.hm (Al S st) (Al (Sin S st) st.inn) st.H st.inn.H :=
  ⟨fun a o ha h => ⟨h, ⟨ha.1, fun i => by rw [ha.2]; exact fun z => nomatch z⟩, ers_none ha.2⟩, fun _ _ _ h => h, List.prefix_refl _⟩
theorem FldsR.inn {k : Nat} : ∀ {kvs : List (Key × V)} {o : Obj1}, FldsR T K S st k kvs o → FldsR T K (Sin S st) st.inn k kvs o
  | _, _, .nil => .nil
  | _, _, .imm e r rs => .imm e (Rep.keep kept_inn r) (FldsR.inn rs)
  | _, _, .own e h1 h2 r rs => .own e (ers_obj h1 rfl) h2 (Reps.keep kept_inn r) (FldsR.inn rs)
theorem GOk.inn (ok : GOk T K S st) : GOk T K (Sin S st) st.inn where
  live := fun a t h => ok.live a t (ers_of h)
  fr := fun a h => ⟨ok.fr a h, fun i z => by
    obtain ⟨o, h1, _⟩ := ok.live a _ z
    have h : st.H a = none := h
    rw [h] at h1; cases h1⟩
  len := ok.len
  obj := fun k o h => by
    obtain ⟨a, kvs, h1, h2, h3, h4, h5⟩ := ok.obj k o h
    exact ⟨a, kvs, h1, ers_obj h2 rfl, h3, h4.inn, h5⟩
  tab := fun q hq => ⟨(ok.tab q hq).1, let ⟨k, hk⟩ := (ok.tab q hq).2; ⟨k, ers_obj hk rfl⟩⟩
theorem out_slot {a : Addr} {i : Nat} (h : st.ow a = some (.slot i)) : (st.out st').ow a = some (.slot i) := by unfold Gh.out; dsimp only; rw [h]
theorem out_ns {a : Addr} (h : ∀ i, st.ow a ≠ some (.slot i)) : (st.out st').ow a = st'.ow a := by
  unfold Gh.out
  dsimp only
  split
  · rename_i i e; exact absurd e (h i)
  · rfl
theorem kept_out : Kept st'.hm (st.out st').hm (Al (Sin S st) st') (Al S (st.out st')) st'.H (st.out st').H :=
  ⟨fun a o ha h => ⟨h, ha.1.1, by rw [out_ns ha.1.2]; exact ha.2⟩, fun _ _ _ h => h, List.prefix_refl _⟩
theorem step_out (ok : GOk T K S st) (s : Step st.inn st') : Step st (st.out st') where
  pre := s.pre
  keep := fun a o h h' => by
    obtain ⟨h1, h2⟩ := s.keep a o h (ers_none h')
    exact ⟨h1, by rw [out_ns (fun i => by rw [h']; exact fun z => nomatch z)]; exact h2⟩
  slot := fun a i h => ⟨out_slot h, by
    obtain ⟨o, h1, _⟩ := ok.live a _ h
    rw [h1]
    exact (s.keep a o h1 (ers_slot h)).1⟩
  slot' := fun a i h => by
    cases e : st.ow a with
    | none =>
      rw [out_ns (fun i => by rw [e]; exact fun z => nomatch z)] at h
      have := s.slot' a i h
      exact absurd this (ers_ns i)
    | some t =>
      cases t with
      | slot j =>
        rw [out_slot e] at h
        exact h
      | obj k =>
        rw [out_ns (fun i => by rw [e]; exact fun z => nomatch z)] at h
        exact absurd (s.slot' a i h) (ers_ns i)
      | fld k n =>
        rw [out_ns (fun i => by rw [e]; exact fun z => nomatch z)] at h
        exact absurd (s.slot' a i h) (ers_ns i)
      | tab k =>
        rw [out_ns (fun i => by rw [e]; exact fun z => nomatch z)] at h
        exact absurd (s.slot' a i h) (ers_ns i)
  own := fun a t h => by
    cases t with
    | slot j => exact out_slot h
    | obj k => rw [out_ns (fun i => by rw [h]; exact fun z => nomatch z)]; exact s.own a _ (ers_obj h rfl)
    | fld k n => rw [out_ns (fun i => by rw [h]; exact fun z => nomatch z)]; exact s.own a _ (ers_obj h rfl)
    | tab k => rw [out_ns (fun i => by rw [h]; exact fun z => nomatch z)]; exact s.own a _ (ers_obj h rfl)
/-- what the callee owns isn't a slot's -/
theorem out_obj (ok : GOk T K S st) (s : Step st.inn st') {a : Addr} {t : Tag} (h : st'.ow a = some t) : ∀ i, st.ow a ≠ some (.slot i) := fun i e => by
  obtain ⟨o, h1, _⟩ := ok.live a _ e
  have := (s.keep a o h1 (ers_slot e)).2
  rw [this] at h; cases h
theorem FldsR.out (ok : GOk T K S st) (s : Step st.inn st') {k : Nat} : ∀ {kvs : List (Key × V)} {o : Obj1}, FldsR T K (Sin S st) st' k kvs o → FldsR T K S (st.out st') k kvs o
  | _, _, .nil => .nil
  | _, _, .imm e r rs => .imm e (Rep.keep kept_out r) (FldsR.out ok s rs)
  | _, _, .own e h1 h2 r rs => .own e (by rw [out_ns (out_obj ok s h1)]; exact h1) h2 (Reps.keep kept_out r) (FldsR.out ok s rs)
theorem GOk.out (ok : GOk T K S st) (s : Step st.inn st') (ok' : GOk T K (Sin S st) st') : GOk T K S (st.out st') where
  live := fun a t h => by
    cases e : st.ow a with
    | none =>
      rw [out_ns (fun i => by rw [e]; exact fun z => nomatch z)] at h
      exact ok'.live a t h
    | some t' =>
      cases t' with
      | slot j =>
        obtain ⟨o, h1, h2⟩ := ok.live a _ e
        exact ⟨o, (s.keep a o h1 (ers_slot e)).1, h2⟩
      | obj k =>
        rw [out_ns (fun i => by rw [e]; exact fun z => nomatch z)] at h
        exact ok'.live a t h
      | fld k n =>
        rw [out_ns (fun i => by rw [e]; exact fun z => nomatch z)] at h
        exact ok'.live a t h
      | tab k =>
        rw [out_ns (fun i => by rw [e]; exact fun z => nomatch z)] at h
        exact ok'.live a t h
  fr := fun a h => (ok'.fr a h).1
  len := ok'.len
  obj := fun k o h => by
    obtain ⟨a, kvs, h1, h2, h3, h4, h5⟩ := ok'.obj k o h
    exact ⟨a, kvs, h1, by rw [out_ns (out_obj ok s h2)]; exact h2, h3, FldsR.out ok s h4, h5⟩
  tab := fun q hq => ⟨(ok'.tab q hq).1, let ⟨k, hk⟩ := (ok'.tab q hq).2; ⟨k, by rw [out_ns (out_obj ok s hk)]; exact hk⟩⟩
end

/-- a def's call: what its promise asks -/
theorem call_sp {K : PySem.W.Frag} {S : Addr → Prop} {σ : L2.St} {st : Gh} {np : Nat} {F : List D → G → R (D × G)} {vs : List V} {ds : List D} {Q : VK} (ok : GOk T K S st) (r : RepsS T K S st vs ds) (hl : vs.length = np)
    (h : post T K S W σ st (F ds st.g) Q) : spF T K np F vs st.H Q (fun cv dd H => W cv dd σ H) := by
  refine ⟨hl, Sin S st, st.inn, ds, rfl, ok.inn, fun a i => ers_ns i, Reps.keep kept_inn r, ?_⟩
  show post T K (Sin S st) _ [] st.inn (F ds st.g) Q
  revert h
  cases F ds st.g with
  | bad => exact fun h => h
  | exc c fs g' =>
    intro h cv dd st' ok' e' s' ⟨C, h1, h2, h3⟩
    exact h cv dd (st.out st') (ok.out s' ok') e' (step_out ok s') ⟨C, h1, h2, RepX.keep kept_out h3⟩
  | ok p =>
    intro h v st' ok' e' s' r'
    exact h v (st.out st') (ok.out s' ok') e' (step_out ok s') (Rep.keep kept_out r')
abbrev callF (np : Nat) (F : List D → G → R (D × G)) (fs : List Sl → G → R (List D × G)) : EvF := fun ρ g => (fs ρ g).bind fun q => F q.1 q.2
theorem call_mono {np : Nat} {F : List D → G → R (D × G)} {fs : List Sl → G → R (List D × G)} (hl : ∀ ds g, F ds g ≠ .bad → ds.length = np) (σ : L2.St) (H : Hp) (Q : VK) : tE T X.K W rd (callF np F fs) σ H Q → tCallS (spF T X.K np F) (WE W) (tEs T X.K W rd fs) σ H Q := by
  rintro ⟨S, st, ρ, rfl, ok, er, h⟩
  refine ⟨S, st, ρ, rfl, ok, er, post_binds h fun p hp v st1 ok1 e1 s1 r1 h1 => ?_⟩
  have hn : F p.1 p.2 ≠ .bad := fun e => by rw [e] at h1; exact h1
  exact call_sp (σ := σ) ok1 r1 ((Reps.length r1).trans (hl _ _ hn)) (by rw [e1]; exact h1)
end
end Z

set_option Elab.async false
set_option linter.all false
set_option maxRecDepth 100000
set_option maxHeartbeats 4000000
/-! Z6: what is walked, comprehensions, ambient objects' reading. -/
namespace Z
open PySem PySem.Spec PyProof.Rows L2

/-- from one state to a later one, behind statements too -/
structure Evo (st st' : Gh) : Prop where
  pre : st.hm <+: st'.hm
  keep : ∀ a o, st.H a = some o → st.ow a = none → st'.H a = some o ∧ st'.ow a = none
  own : ∀ a t, t.isSlot = false → st.ow a = some t → st'.ow a = some t
theorem Step.evo {st st' : Gh} (s : Step st st') : Evo st st' := ⟨s.pre, s.keep, fun a t _ h => s.own a t h⟩
theorem Evo.refl (st : Gh) : Evo st st := (Step.refl st).evo
theorem Evo.trans {a b c : Gh} (x : Evo a b) (y : Evo b c) : Evo a c where
  pre := x.pre.trans y.pre
  keep := fun p o h h' => let ⟨h1, h2⟩ := x.keep p o h h'; y.keep p o h1 h2
  own := fun p t ht h => y.own p t ht (x.own p t ht h)
section
variable {T : Tb} {K : PySem.W.Frag} {S : Addr → Prop} {st st' : Gh}
theorem Evo.kept (s : Evo st st') (ok : GOk T K S st) : Kept st.hm st'.hm (Al S st) (Al S st') st.H st'.H where
  at_ := fun a o ⟨h1, h2⟩ h => let ⟨h3, h4⟩ := s.keep a o h h2; ⟨h3, h1, h4⟩
  fx := fun a o f h => (s.keep a o h (ok.fixow h f)).1
  pre := s.pre
theorem RepS.evo {v : V} {d : D} (r : RepS T K S st v d) (ok : GOk T K S st) (s : Evo st st') : RepS T K S st' v d := Rep.keep (s.kept ok) r
theorem RepsS.evo {v : List V} {d : List D} (r : RepsS T K S st v d) (ok : GOk T K S st) (s : Evo st st') : RepsS T K S st' v d := Reps.keep (s.kept ok) r
end

/-- what an iterator yields, from the state st0 on -/
structure ItOk (T : Tb) (K : PySem.W.Frag) (S : Addr → Prop) (st0 : Gh) (J : It) (ds : List D) : Prop where
  go : ∀ st i, Evo st0 st → GOk T K S st → i < ds.length → J.go i st.H
  stop : ∀ st, Evo st0 st → GOk T K S st → J.stop ds.length st.H
  yld : ∀ st i x H', Evo st0 st → GOk T K S st → i < ds.length → J.yld i st.H x H' → ∃ st' d, st'.H = H' ∧ GOk T K S st' ∧ st'.g = st.g ∧ Step st st' ∧ ds[i]? = some d ∧ RepS T K S st' x d
section
variable {T : Tb} {K : PySem.W.Frag} {S : Addr → Prop} {st0 : Gh}
theorem rd_evo {st : Gh} {a : Addr} {u : HO} (s : Evo st0 st) (h : Rd st0.H a u) (ho : st0.ow a = none) : Rd st.H a u := by
  rcases h with h | ⟨o, h⟩
  · exact .inl (s.keep _ _ h ho).1
  · exact .inr ⟨o, (s.keep _ _ h ho).1⟩
theorem it_list {a : Addr} {vs : List V} {ds : List D} (ok0 : GOk T K S st0) (h : Rd st0.H a (.lst vs)) (ha : Al S st0 a) (r : RepsS T K S st0 vs ds) : ItOk T K S st0 (Itl K a) ds where
  go := fun st i s ok hi => by
    obtain ⟨v, h1, _⟩ := Reps.get r (List.getElem?_eq_getElem hi)
    exact ⟨vs, v, .inl (rd_evo s h ha.2), h1⟩
  stop := fun st s ok => ⟨vs, .inl (rd_evo s h ha.2), by rw [Reps.length r]; exact Nat.le_refl _⟩
  yld := fun st i x H' s ok hi y => by
    obtain ⟨e, y⟩ := y
    subst e
    have h1 := y vs (.inl (rd_evo s h ha.2))
    obtain ⟨v, h2, h3⟩ := Reps.get r (List.getElem?_eq_getElem hi)
    rw [h1] at h2; cases h2
    exact ⟨st, _, rfl, ok, rfl, Step.refl _, List.getElem?_eq_getElem hi, RepS.evo h3 ok0 s⟩
theorem it_frz {a : Addr} {vs : List V} {ds : List D} (ok0 : GOk T K S st0) (h : FzL K st0.H a vs) (r : RepsS T K S st0 vs ds) : ItOk T K S st0 (Itl K a) ds where
  go := fun st i s ok hi => by
    obtain ⟨v, h1, _⟩ := Reps.get r (List.getElem?_eq_getElem hi)
    exact ⟨vs, v, ((s.kept ok0).fzl h).sq, h1⟩
  stop := fun st s ok => ⟨vs, ((s.kept ok0).fzl h).sq, by rw [Reps.length r]; exact Nat.le_refl _⟩
  yld := fun st i x H' s ok hi y => by
    obtain ⟨e, y⟩ := y
    subst e
    have h1 := y vs (((s.kept ok0).fzl h).sq)
    obtain ⟨v, h2, h3⟩ := Reps.get r (List.getElem?_eq_getElem hi)
    rw [h1] at h2; cases h2
    exact ⟨st, _, rfl, ok, rfl, Step.refl _, List.getElem?_eq_getElem hi, RepS.evo h3 ok0 s⟩
theorem it_tup {a : Addr} {vs : List V} {ds : List D} (ok0 : GOk T K S st0) (h : SqT K st0.H a vs) (r : RepsS T K S st0 vs ds) : ItOk T K S st0 (Itt K a) ds where
  go := fun st i s ok hi => by
    obtain ⟨v, h1, _⟩ := Reps.get r (List.getElem?_eq_getElem hi)
    exact ⟨vs, v, (s.kept ok0).seqT h, h1⟩
  stop := fun st s ok => ⟨vs, (s.kept ok0).seqT h, by rw [Reps.length r]; exact Nat.le_refl _⟩
  yld := fun st i x H' s ok hi y => by
    obtain ⟨e, y⟩ := y
    subst e
    have h1 := y vs ((s.kept ok0).seqT h)
    obtain ⟨v, h2, h3⟩ := Reps.get r (List.getElem?_eq_getElem hi)
    rw [h1] at h2; cases h2
    exact ⟨st, _, rfl, ok, rfl, Step.refl _, List.getElem?_eq_getElem hi, RepS.evo h3 ok0 s⟩
theorem it_rng (lo : Int) (n : Nat) : ItOk T K S st0 (Itr lo n) ((List.range n).map fun (k : Nat) => D.int (lo + (k : Int))) where
  go := fun st i s ok hi => by show i < n; simpa using hi
  stop := fun st s ok => by show n ≤ _; simp
  yld := fun st i x H' s ok hi y => by
    obtain ⟨e, y⟩ := y
    subst e y
    have hi' : i < n := by simpa using hi
    exact ⟨st, _, rfl, ok, rfl, Step.refl _, by rw [List.getElem?_map, List.getElem?_range hi']; rfl, .int _⟩
end

/-! zip, enumerate -/
theorem zipD_len : ∀ (xs ys : List D), (zipD xs ys).length = min xs.length ys.length
  | [], _ => by simp [zipD]
  | x :: xs, [] => by simp [zipD]
  | x :: xs, y :: ys => by simp [zipD, zipD_len xs ys]
theorem zipD_get : ∀ (xs ys : List D) (i : Nat) (x y : D), xs[i]? = some x → ys[i]? = some y → (zipD xs ys)[i]? = some (.tup [x, y])
  | [], _, i, x, y, h, _ => by simp at h
  | _ :: _, [], i, x, y, _, h => by simp at h
  | a :: xs, b :: ys, 0, x, y, h1, h2 => by
    simp at h1 h2; subst h1 h2; rfl
  | a :: xs, b :: ys, i + 1, x, y, h1, h2 => by
    show (zipD xs ys)[i]? = _
    exact zipD_get xs ys i x y (by simpa using h1) (by simpa using h2)
theorem enumD_len : ∀ (n : Nat) (xs : List D), (enumD n xs).length = xs.length
  | _, [] => rfl
  | n, x :: xs => congrArg (· + 1) (enumD_len (n + 1) xs)
theorem enumD_get : ∀ (n : Nat) (xs : List D) (i : Nat) (x : D), xs[i]? = some x → (enumD n xs)[i]? = some (.tup [.int ((n + i : Nat) : Int), x])
  | n, [], i, x, h => by simp at h
  | n, a :: xs, 0, x, h => by simp at h; subst h; rfl
  | n, a :: xs, i + 1, x, h => by
    show (enumD (n + 1) xs)[i]? = _
    rw [enumD_get (n + 1) xs i x (by simpa using h)]
    rw [show n + 1 + i = n + (i + 1) by omega]
section
variable {T : Tb} {K : PySem.W.Frag} {S : Addr → Prop} {st0 : Gh}
/-- a walked thing's items stay -/
def Stays (T : Tb) (K : PySem.W.Frag) (S : Addr → Prop) (st0 : Gh) (P : Hp → List V → Prop) (ds : List D) : Prop := ∃ vs, RepsS T K S st0 vs ds ∧ ∀ st, Evo st0 st → GOk T K S st → P st.H vs
theorem it_zip0 {J : It} {PA PB : Hp → List V → Prop} {ds es : List D} (ok0 : GOk T K S st0) (hA : Stays T K S st0 PA ds) (hB : Stays T K S st0 PB es)
    (hgo : ∀ i H, (∃ (xs ys : List V) (x y : V), PA H xs ∧ PB H ys ∧ xs[i]? = some x ∧ ys[i]? = some y) → J.go i H)
    (hyl : ∀ i H v H', J.yld i H v H' → ∃ T x y, v = .ref T ∧ H T = none ∧ H' = upd H T (.tup [x, y]) ∧ (∀ xs, PA H xs → xs[i]? = some x) ∧ ∀ ys, PB H ys → ys[i]? = some y)
    (hst : ∀ i H, (∃ xs ys : List V, PA H xs ∧ PB H ys ∧ (xs.length ≤ i ∨ ys.length ≤ i)) → J.stop i H) : ItOk T K S st0 J (zipD ds es) := by
  obtain ⟨vs, rA, pA⟩ := hA
  obtain ⟨ws, rB, pB⟩ := hB
  refine ⟨fun st i s ok hi => ?_, fun st s ok => ?_, fun st i x H' s ok hi y => ?_⟩
  · rw [zipD_len] at hi
    obtain ⟨v, h1, _⟩ := Reps.get rA (List.getElem?_eq_getElem (show i < ds.length by omega))
    obtain ⟨w, h2, _⟩ := Reps.get rB (List.getElem?_eq_getElem (show i < es.length by omega))
    exact hgo i _ ⟨vs, ws, v, w, pA st s ok, pB st s ok, h1, h2⟩
  · refine hst _ _ ⟨vs, ws, pA st s ok, pB st s ok, ?_⟩
    rw [zipD_len, Reps.length rA, Reps.length rB]
    omega
  · rw [zipD_len] at hi
    obtain ⟨p, u, w, rfl, hp, rfl, q1, q2⟩ := hyl _ _ _ _ y
    have q1 := q1 vs (pA st s ok)
    have q2 := q2 ws (pB st s ok)
    have g1 := List.getElem?_eq_getElem (show i < ds.length by omega)
    have g2 := List.getElem?_eq_getElem (show i < es.length by omega)
    obtain ⟨v1, h1, r1⟩ := Reps.get rA g1
    obtain ⟨v2, h2, r2⟩ := Reps.get rB g2
    rw [q1] at h1; cases h1
    rw [q2] at h2; cases h2
    have sl := Gh.lay_step (o := .tup [u, w]) ok hp
    refine ⟨st.lay p (.tup [u, w]), _, rfl, ok.lay hp, rfl, sl, zipD_get _ _ _ _ _ g1 g2, ?_⟩
    exact .tup (.inl (.inl upd_same)) (.cons (RepS.step (RepS.evo r1 ok0 s) ok sl) (.cons (RepS.step (RepS.evo r2 ok0 s) ok sl) .nil))
theorem stays_lst {a : Addr} {vs : List V} {ds : List D} (h : Rd st0.H a (.lst vs)) (ha : Al S st0 a) (r : RepsS T K S st0 vs ds) : Stays T K S st0 (fun H vs => SqL K H a vs) ds := ⟨vs, r, fun st s ok => .inl (rd_evo s h ha.2)⟩
theorem stays_tup {a : Addr} {vs : List V} {ds : List D} (ok0 : GOk T K S st0) (h : SqT K st0.H a vs) (r : RepsS T K S st0 vs ds) : Stays T K S st0 (fun H vs => SqT K H a vs) ds := ⟨vs, r, fun st s ok => (s.kept ok0).seqT h⟩
theorem it_zipL {a b : Addr} {ds es : List D} (ok0 : GOk T K S st0) (hA : Stays T K S st0 (fun H vs => SqL K H a vs) ds) (hB : Stays T K S st0 (fun H vs => SqL K H b vs) es) : ItOk T K S st0 (Itz K a b) (zipD ds es) :=
  it_zip0 ok0 hA hB (fun i H h => h) (fun i H v H' h => h) (fun i H h => h)
theorem it_zipT {a b : Addr} {ds es : List D} (ok0 : GOk T K S st0) (hA : Stays T K S st0 (fun H vs => SqT K H a vs) ds) (hB : Stays T K S st0 (fun H vs => SqT K H b vs) es) : ItOk T K S st0 (RZ.ItzT K a b) (zipD ds es) :=
  it_zip0 ok0 hA hB (fun i H h => h) (fun i H v H' h => h) (fun i H h => h)
theorem strD_get (x : Str) (i : Nat) : (strD x)[i]? = (x.cps[i]?).map fun c => D.str ⟨#[c]⟩ := by
  unfold strD
  rw [List.getElem?_map, Array.getElem?_toList]
theorem strD_len (x : Str) : (strD x).length = x.cps.size := by unfold strD; rw [List.length_map, Array.length_toList]
theorem it_zipS {x : Str} {b : Addr} {es : List D} (ok0 : GOk T K S st0) (hB : Stays T K S st0 (fun H vs => SqT K H b vs) es) : ItOk T K S st0 (ZL.ItzS K x b) (zipD (strD x) es) := by
  obtain ⟨ws, rB, pB⟩ := hB
  refine ⟨fun st i s ok hi => ?_, fun st s ok => ?_, fun st i y H' s ok hi hy => ?_⟩
  · rw [zipD_len, strD_len] at hi
    obtain ⟨w, h2, _⟩ := Reps.get rB (List.getElem?_eq_getElem (show i < es.length by omega))
    exact ⟨ws, x.cps[i], w, pB st s ok, Array.getElem?_eq_getElem (by omega), h2⟩
  · refine ⟨ws, pB st s ok, ?_⟩
    rw [zipD_len, strD_len, Reps.length rB]
    omega
  · rw [zipD_len, strD_len] at hi
    obtain ⟨p, c, w, rfl, hp, rfl, q1, q2⟩ := hy
    have q2 := q2 ws (pB st s ok)
    have g2 := List.getElem?_eq_getElem (show i < es.length by omega)
    obtain ⟨v2, h2, r2⟩ := Reps.get rB g2
    rw [q2] at h2; cases h2
    have sl := Gh.lay_step (o := .tup [.str ⟨#[c]⟩, w]) ok hp
    refine ⟨st.lay p (.tup [.str ⟨#[c]⟩, w]), _, rfl, ok.lay hp, rfl, sl, zipD_get _ _ _ _ _ (by rw [strD_get, q1]; rfl) g2, ?_⟩
    exact .tup (.inl (.inl upd_same)) (.cons (.str _) (.cons (RepS.step (RepS.evo r2 ok0 s) ok sl) .nil))
theorem it_enum {a : Addr} {ds : List D} (ok0 : GOk T K S st0) (hA : Stays T K S st0 (fun H vs => SqL K H a vs) ds) : ItOk T K S st0 (Ite K a) (enumD 0 ds) := by
  obtain ⟨vs, rA, pA⟩ := hA
  refine ⟨fun st i s ok hi => ?_, fun st s ok => ?_, fun st i x H' s ok hi y => ?_⟩
  · rw [enumD_len] at hi
    obtain ⟨v, h1, _⟩ := Reps.get rA (List.getElem?_eq_getElem hi)
    exact ⟨vs, v, pA st s ok, h1⟩
  · refine ⟨vs, pA st s ok, ?_⟩
    rw [enumD_len, Reps.length rA]; exact Nat.le_refl _
  · rw [enumD_len] at hi
    obtain ⟨p, u, rfl, hp, rfl, q1⟩ := y
    have q1 := q1 vs (pA st s ok)
    have g1 := List.getElem?_eq_getElem hi
    obtain ⟨v1, h1, r1⟩ := Reps.get rA g1
    rw [q1] at h1; cases h1
    have sl := Gh.lay_step (o := .tup [.int (i : Nat), u]) ok hp
    refine ⟨st.lay p (.tup [.int (i : Nat), u]), _, rfl, ok.lay hp, rfl, sl, (by rw [enumD_get 0 _ _ _ g1, Nat.zero_add]), ?_⟩
    exact .tup (.inl (.inl upd_same)) (.cons (.int _) (.cons (RepS.step (RepS.evo r1 ok0 s) ok sl) .nil))
end

/-- what is walked: an expression's meaning -/
def tI (T : Tb) (K : PySem.W.Frag) (W : WX) (rd : List Nat) (f : List Sl → G → R (List D × G)) (k : Ik) : TI := fun σ H Rr =>
  ∃ S st ρ, st.H = H ∧ GOk T K S st ∧ ERel T K S st rd σ ρ ∧ match f ρ st.g with
    | .ok p => match k.items p.1 with
      | some xs => ∀ J st', GOk T K S st' → st'.g = p.2 → Step st st' → ItOk T K S st' J xs → Rr J st'.H
      | none => False
    | .exc c fs g' => ∀ cv dd st', GOk T K S st' → st'.g = g' → Step st st' → ExcR T K S st' c fs cv dd → W cv dd σ st'.H
    | .bad => False
section
variable {X : Cx} {T : Tb} {W : WX} {rd : List Nat} {tg : Expr}
/-- a list or a tuple -/
def iSeq (K : PySem.W.Frag) (tl : TE) : TI := fun σ H Rr => tl σ H fun x H1 => ∃ a, x = .ref a ∧ ((∃ xs, SqL K H1 a xs ∧ Rr (Itl K a) H1) ∨ ∃ xs, SqT K H1 a xs ∧ Rr (Itt K a) H1)
theorem pi_seq {l : Expr} {tl : TE} (hl : PE X l tl) : PI X tg l (iSeq X.K tl) := by
  refine ⟨fun pins s σ H R I h => ?_⟩
  refine thn (hl.run pins s σ H _ I h) fun v s1 ⟨x, H1, I1, r1, q1⟩ => ?_
  obtain ⟨a, e, q⟩ := q1
  subst e
  cases r1
  rcases q with ⟨xs, hq, q⟩ | ⟨xs, hq, q⟩
  · obtain ⟨its, rv, p, hz⟩ := I1.list hq
    refine wpAny_pyIter_list p.isList ?_
    refine ⟨s1.heap.objs.size, [s1.heap.objs.size], _, _, H1, rfl, I1.kept (t' := s1.toks) fun b o e => Heap.get?_push_of_some _ e, turn_list a _, ⟨_, Heap.get?_push_size _ rfl, rfl, rfl⟩, fun b hb => ?_, q⟩
    have e : b = s1.heap.objs.size := by simpa using hb
    subst e
    exact I1.fpOk (Nat.le_refl _) (I1.hok.fresh (Nat.le_refl _))
  · obtain ⟨its, rv, p, hz⟩ := I1.tuple hq
    refine wpAny_pyIter_tuple (show s1.heap.IsTuple a its.toArray from p) ?_
    refine ⟨s1.heap.objs.size, [s1.heap.objs.size], _, _, H1, rfl, I1.kept (t' := s1.toks) fun b o e => Heap.get?_push_of_some _ e, turn_tuple a _, ⟨_, Heap.get?_push_size _ rfl, rfl, rfl⟩, fun b hb => ?_, q⟩
    have e : b = s1.heap.objs.size := by simpa using hb
    subst e
    exact I1.fpOk (Nat.le_refl _) (I1.hok.fresh (Nat.le_refl _))
theorem PI.mono {iter : Expr} {t t' : TI} (h : PI X tg iter t) (m : ∀ σ H Q, t' σ H Q → t σ H Q) : PI X tg iter t' := ⟨fun pins s σ H Q I q => h.run pins s σ H Q I (m σ H Q q)⟩
theorem fi_seq {l : Expr} {fa : EvF} (h : PE X l (tE T X.K W rd fa)) : PI X tg l (tI T X.K W rd (consF fa fun _ g => .ok ([], g)) .seq) := by
  refine PI.mono (pi_seq h) ?_
  rintro σ H Q ⟨S, st, ρ, rfl, ok, er, h⟩
  refine ⟨S, st, ρ, rfl, ok, er, ?_⟩
  have e : consF fa (fun _ g => .ok ([], g)) ρ st.g = (fa ρ st.g).bind fun x => .ok ([x.1], x.2) := rfl
  rw [e] at h
  cases hr : fa ρ st.g with
  | bad => rw [hr] at h; exact h
  | exc c fs g' => rw [hr] at h; exact h
  | ok p =>
    rw [hr] at h
    intro v st1 ok1 e1 s1 r1
    have h : match Ik.seq.items [p.1] with
      | some xs => ∀ J st', GOk T X.K S st' → st'.g = p.2 → Step st st' → ItOk T X.K S st' J xs → Q J st'.H
      | none => False := h
    cases hp : p.1 <;> rw [hp] at h r1 <;> first
      | exact h.elim
      | (obtain ⟨a, vs, rfl, h1, h3⟩ := r1.frz_
         exact ⟨a, rfl, .inl ⟨vs, h1.sq, h _ st1 ok1 e1 s1 (it_frz ok1 h1 h3)⟩⟩)
      | (obtain ⟨a, vs, rfl, h1, h3⟩ := r1.tup_
         exact ⟨a, rfl, .inr ⟨vs, h1, h _ st1 ok1 e1 s1 (it_tup ok1 h1 h3)⟩⟩)
      | (obtain ⟨a, vs, rfl, h1, h2, h3⟩ := r1.lst_
         exact ⟨a, rfl, .inl ⟨vs, .inl h1, h _ st1 ok1 e1 s1 (it_list ok1 h1 h2 h3)⟩⟩)
theorem fi_rng1 {a : Expr} {fs : List Sl → G → R (List D × G)} {p pos : Pos} (hg : Gl X "range") (hm : X.mg "range" = none) (ha : PA X [a] (tEs T X.K W rd fs)) (hs : starEach [a] X.env = [(false, eval a X.env)]) (h1 : ∀ ρ g q, fs ρ g = .ok q → q.1.length = 1) :
    PI X tg (.Call (.Name "range" p) [a] [] pos) (tI T X.K W rd fs .rng) := by
  refine PI.mono (pi_range1 hg hm ha hs) ?_
  rintro σ H Q ⟨S, st, ρ, rfl, ok, er, h⟩
  refine ⟨S, st, ρ, rfl, ok, er, ?_⟩
  cases hr : fs ρ st.g with
  | bad => rw [hr] at h; exact h
  | exc c fs g' => rw [hr] at h; exact h
  | ok p =>
    rw [hr] at h
    intro v st1 ok1 e1 s1 r1
    have hlen := h1 _ _ _ hr
    dsimp only at h
    obtain ⟨p1, p2⟩ := p
    dsimp only at h hlen r1 e1
    match p1, hlen, r1, h with
    | [d], _, .cons rx .nil, h =>
      cases hd : d <;> rw [hd] at h rx <;> first
        | exact h.elim
        | skip
      rename_i n
      unfold Ik.items at h
      dsimp only at h
      split at h
      · rename_i xs hxs
        split at hxs
        · rename_i hb
          cases hxs
          refine ⟨n, by rw [rx.int_], hb.2, hb.1, ?_⟩
          have q := h (Itr 0 n.toNat) st1 ok1 e1 s1 (by
            have := it_rng (T := T) (K := X.K) (S := S) (st0 := st1) 0 n.toNat
            simpa using this)
          simpa using q
        · cases hxs
      · exact h.elim
theorem fi_rng2 {a b : Expr} {fs : List Sl → G → R (List D × G)} {p pos : Pos} (hg : Gl X "range") (hm : X.mg "range" = none) (ha : PA X [a, b] (tEs T X.K W rd fs)) (hs : starEach [a, b] X.env = [(false, eval a X.env), (false, eval b X.env)]) (hs2 : starEach [b] X.env = [(false, eval b X.env)])
    (h1 : ∀ ρ g q, fs ρ g = .ok q → q.1.length = 2) : PI X tg (.Call (.Name "range" p) [a, b] [] pos) (tI T X.K W rd fs .rng) := by
  refine PI.mono (pi_range2 hg hm ha hs hs2) ?_
  rintro σ H Q ⟨S, st, ρ, rfl, ok, er, h⟩
  refine ⟨S, st, ρ, rfl, ok, er, ?_⟩
  cases hr : fs ρ st.g with
  | bad => rw [hr] at h; exact h
  | exc c fs g' => rw [hr] at h; exact h
  | ok p =>
    rw [hr] at h
    intro v st1 ok1 e1 s1 r1
    have hlen := h1 _ _ _ hr
    dsimp only at h
    obtain ⟨p1, p2⟩ := p
    dsimp only at h hlen r1 e1
    match p1, hlen, r1, h with
    | [d, d2], _, .cons rx (.cons ry .nil), h =>
      unfold Ik.items at h
      split at h
      · rename_i xs hxs
        split at hxs <;> first
          | (exact absurd ‹Ik.rng = Ik.zip› (by decide))
          | (exact absurd ‹Ik.rng = Ik.enum› (by decide))
          | (cases hxs; done)
          | (rename_i hh; cases hh; done)
          | skip
        · rename_i hh
          cases hh
          split at hxs
          · rename_i hb
            cases hxs
            refine ⟨_, _, by rw [rx.int_, ry.int_], ⟨hb.2.2, hb.2.1, hb.1.2, hb.1.1⟩, ?_⟩
            exact h _ st1 ok1 e1 s1 (it_rng _ _)
          · cases hxs
      · exact h.elim
theorem fi_zip {a b : Expr} {fs : List Sl → G → R (List D × G)} {p pos tpos : Pos} {elts : List Expr} {kk : Nat} (hg : Gl X "zip") (hm : X.mg "zip" = none) (ha : PA X [a, b] (tEs T X.K W rd fs)) (hs : starEach [a, b] X.env = (false, eval a X.env) :: starEach [b] X.env) (hs2 : (backTo pos (starEach [b] X.env)).any (·.1) = false)
    (h1 : ∀ ρ g q, fs ρ g = .ok q → q.1.length = 2) : PI X (.Tuple elts kk tpos) (.Call (.Name "zip" p) [a, b] [] pos) (tI T X.K W rd fs .zip) := by
  refine PI.mono (ZL.pi_zipX hg hm ha hs hs2) ?_
  rintro σ H Q ⟨S, st, ρ, rfl, ok, er, h⟩
  refine ⟨S, st, ρ, rfl, ok, er, ?_⟩
  cases hr : fs ρ st.g with
  | bad => rw [hr] at h; exact h
  | exc c fs g' => rw [hr] at h; exact h
  | ok p =>
    rw [hr] at h
    intro v st1 ok1 e1 s1 r1
    have hlen := h1 _ _ _ hr
    dsimp only at h
    obtain ⟨p1, p2⟩ := p
    dsimp only at h hlen r1 e1
    match p1, hlen, r1, h with
    | [d, d2], _, .cons rx (.cons ry .nil), h =>
      cases d <;> cases d2 <;> first
        | exact h.elim
        | (obtain ⟨a, vs, rfl, x1, x2, x3⟩ := rx.lst_
           obtain ⟨b, ws, rfl, y1, y2, y3⟩ := ry.lst_
           exact .inl ⟨a, b, vs, ws, rfl, .inl ⟨.inl x1, .inl y1, h _ st1 ok1 e1 s1 (it_zipL ok1 (stays_lst x1 x2 x3) (stays_lst y1 y2 y3))⟩⟩)
        | (obtain ⟨a, vs, rfl, x1, x3⟩ := rx.tup_
           obtain ⟨b, ws, rfl, y1, y3⟩ := ry.tup_
           exact .inl ⟨a, b, vs, ws, rfl, .inr ⟨x1, y1, h _ st1 ok1 e1 s1 (it_zipT ok1 (stays_tup ok1 x1 x3) (stays_tup ok1 y1 y3))⟩⟩)
        | (have ex := rx.str_
           obtain ⟨b, ws, rfl, y1, y3⟩ := ry.tup_
           exact .inr ⟨_, b, ws, by rw [ex], y1, h _ st1 ok1 e1 s1 (it_zipS ok1 (stays_tup ok1 y1 y3))⟩)
theorem fi_enum {a : Expr} {fs : List Sl → G → R (List D × G)} {p pos tpos : Pos} {elts : List Expr} {kk : Nat} (hg : Gl X "enumerate") (hm : X.mg "enumerate" = none) (ha : PA X [a] (tEs T X.K W rd fs)) (hs : starEach [a] X.env = [(false, eval a X.env)])
    (h1 : ∀ ρ g q, fs ρ g = .ok q → q.1.length = 1) : PI X (.Tuple elts kk tpos) (.Call (.Name "enumerate" p) [a] [] pos) (tI T X.K W rd fs .enum) := by
  refine PI.mono (pi_enum hg hm ha hs) ?_
  rintro σ H Q ⟨S, st, ρ, rfl, ok, er, h⟩
  refine ⟨S, st, ρ, rfl, ok, er, ?_⟩
  cases hr : fs ρ st.g with
  | bad => rw [hr] at h; exact h
  | exc c fs g' => rw [hr] at h; exact h
  | ok p =>
    rw [hr] at h
    intro v st1 ok1 e1 s1 r1
    have hlen := h1 _ _ _ hr
    dsimp only at h
    obtain ⟨p1, p2⟩ := p
    dsimp only at h hlen r1 e1
    match p1, hlen, r1, h with
    | [d], _, .cons rx .nil, h =>
      cases d <;> first
        | exact h.elim
        | (obtain ⟨a, vs, rfl, x1, x2, x3⟩ := rx.lst_
           exact ⟨a, vs, rfl, .inl x1, h _ st1 ok1 e1 s1 (it_enum ok1 (stays_lst x1 x2 x3))⟩)
end
end Z

set_option Elab.async false
set_option linter.all false
set_option maxRecDepth 100000
set_option maxHeartbeats 4000000
/-! Z7: targets, comprehensions, new lists. -/
namespace Z
open PySem PySem.Spec PyProof.Rows L2

/-! ### what is owned is written -/
section
variable {T : Tb} {K : PySem.W.Frag} {S : Addr → Prop} {st st' : Gh}
def Gh.put (st : Gh) (p : Addr) (o : HO) : Gh := { st with H := upd st.H p o }
def Gh.tag (st : Gh) (p : Addr) (t : Option Tag) : Gh := { st with ow := fun a => if a = p then t else st.ow a }
theorem tag_same {p : Addr} {t : Option Tag} : (st.tag p t).ow p = t := if_pos rfl
theorem tag_ne {p a : Addr} {t : Option Tag} (h : a ≠ p) : (st.tag p t).ow a = st.ow a := if_neg h
/-- data isn't touched by a store to what is owned -/
theorem kept_put (ok : GOk T K S st) {p : Addr} {o : HO} {t : Tag} (hp : st.ow p = some t) : Kept st.hm (st.put p o).hm (Al S st) (Al S (st.put p o)) st.H (st.put p o).H where
  at_ := fun a u ha h => by
    have ne : a ≠ p := fun e => by rw [e] at ha; rw [ha.2] at hp; cases hp
    exact ⟨by show upd st.H p o a = _; rw [upd_ne ne]; exact h, ha⟩
  fx := fun a u f h => by
    have ne : a ≠ p := fun e => by
      rw [e] at h
      obtain ⟨u', h1, h2⟩ := ok.live p t hp
      rw [h] at h1; cases h1
      rw [f] at h2; cases h2
    show upd st.H p o a = _
    rw [upd_ne ne]; exact h
  pre := List.prefix_refl _
theorem FldsR.put (ok : GOk T K S st) {p : Addr} {o : HO} {i : Nat} (hp : st.ow p = some (.slot i)) {k : Nat} : ∀ {kvs : List (Key × V)} {ob : Obj1}, FldsR T K S st k kvs ob → FldsR T K S (st.put p o) k kvs ob
  | _, _, .nil => .nil
  | _, _, .imm e r rs => .imm e (Rep.keep (kept_put ok hp) r) (FldsR.put ok hp rs)
  | _, _, .own e h1 h2 r rs => .own e h1 (by
      show upd st.H p o _ = _
      rw [upd_ne (fun e => by rw [e, hp] at h1; cases h1)]
      exact h2) (Reps.keep (kept_put ok hp) r) (FldsR.put ok hp rs)
theorem GOk.put (ok : GOk T K S st) {p : Addr} {o : HO} {i : Nat} (hp : st.ow p = some (.slot i)) (hf : fixd o = false := by rfl) : GOk T K S (st.put p o) where
  live := fun a t h => by
    by_cases e : a = p
    · subst e; exact ⟨_, upd_same, hf⟩
    · obtain ⟨u, h1, h2⟩ := ok.live a t h
      refine ⟨u, ?_, h2⟩
      show upd st.H p _ a = _
      rw [upd_ne e]; exact h1
  fr := fun a h => ok.fr a (by
    by_cases e : a = p
    · subst e
      have h : upd st.H a o a = none := h
      rw [upd_same] at h; cases h
    · have h : upd st.H p o a = none := h
      rw [upd_ne e] at h; exact h)
  len := ok.len
  obj := fun k o h => by
    obtain ⟨a, kvs, h1, h2, h3, h4, h5⟩ := ok.obj k o h
    refine ⟨a, kvs, h1, h2, ?_, FldsR.put ok hp h4, h5⟩
    show upd st.H p _ a = _
    rw [upd_ne (fun e => by rw [e, hp] at h2; cases h2)]
    exact h3
  tab := ok.tab.keep (fun a k u h1 h2 => ⟨by show upd st.H p o a = _; rw [upd_ne (fun e => by rw [e, hp] at h1; cases h1)]; exact h2, h1⟩) (kept_put ok hp).fx
/-- a tag on what is new, or no longer a tag -/
theorem kept_tagged {p : Addr} {t : Option Tag} {o : HO} (hp : st.H p = none) : Kept st.hm ((st.put p o).tag p t).hm (Al S st) (Al S ((st.put p o).tag p t)) st.H ((st.put p o).tag p t).H where
  at_ := fun a u ha h => by
    have ne := ne_of_none h hp
    exact ⟨by show upd st.H p o a = _; rw [upd_ne ne]; exact h, ha.1, by rw [tag_ne ne]; exact ha.2⟩
  fx := fun a u f h => by
    show upd st.H p o a = _
    rw [upd_ne (ne_of_none h hp)]; exact h
  pre := List.prefix_refl _
theorem FldsR.tagged (ok : GOk T K S st) {p : Addr} {t : Option Tag} {o : HO} (hp : st.H p = none) {k : Nat} : ∀ {kvs : List (Key × V)} {ob : Obj1}, FldsR T K S st k kvs ob → FldsR T K S ((st.put p o).tag p t) k kvs ob
  | _, _, .nil => .nil
  | _, _, .imm e r rs => .imm e (Rep.keep (kept_tagged hp) r) (FldsR.tagged ok hp rs)
  | _, _, .own e h1 h2 r rs => .own e (by rw [tag_ne (ne_of_none h2 hp)]; exact h1) (by
      show upd st.H p o _ = _
      rw [upd_ne (ne_of_none h2 hp)]
      exact h2) (Reps.keep (kept_tagged hp) r) (FldsR.tagged ok hp rs)
theorem GOk.tagged (ok : GOk T K S st) {p : Addr} {o : HO} {i : Nat} (hp : st.H p = none) (hf : fixd o = false := by rfl) : GOk T K S ((st.put p o).tag p (some (.slot i))) where
  live := fun a t h => by
    by_cases e : a = p
    · subst e; exact ⟨_, upd_same, hf⟩
    · rw [tag_ne e] at h
      obtain ⟨u, h1, h2⟩ := ok.live a t h
      refine ⟨u, ?_, h2⟩
      show upd st.H p _ a = _
      rw [upd_ne e]; exact h1
  fr := fun a h => by
    by_cases e : a = p
    · subst e; exact ok.fr _ hp
    · have h : upd st.H p o a = none := h
      rw [upd_ne e] at h; exact ok.fr a h
  len := ok.len
  obj := fun k o h => by
    obtain ⟨a, kvs, h1, h2, h3, h4, h5⟩ := ok.obj k o h
    refine ⟨a, kvs, h1, ?_, ?_, FldsR.tagged ok hp h4, h5⟩
    · rw [tag_ne (ne_of_none h3 hp)]; exact h2
    · show upd st.H p _ a = _
      rw [upd_ne (ne_of_none h3 hp)]
      exact h3
  tab := ok.tab.keep (fun a k u h1 h2 => ⟨by show upd st.H p o a = _; rw [upd_ne (ne_of_none h2 hp)]; exact h2, by rw [tag_ne (ne_of_none h2 hp)]; exact h1⟩) (kept_tagged (S := S) (t := some (.slot i)) hp).fx
/-- a slot's tag goes -/
theorem kept_untag {p : Addr} : Kept st.hm (st.tag p none).hm (Al S st) (Al S (st.tag p none)) st.H (st.tag p none).H where
  at_ := fun a u ha h => ⟨h, ha.1, by
    by_cases e : a = p
    · subst e; exact tag_same
    · rw [tag_ne e]; exact ha.2⟩
  fx := fun a u f h => h
  pre := List.prefix_refl _
theorem FldsR.untag {p : Addr} {i : Nat} (hp : st.ow p = some (.slot i)) {k : Nat} : ∀ {kvs : List (Key × V)} {ob : Obj1}, FldsR T K S st k kvs ob → FldsR T K S (st.tag p none) k kvs ob
  | _, _, .nil => .nil
  | _, _, .imm e r rs => .imm e (Rep.keep kept_untag r) (FldsR.untag hp rs)
  | _, _, .own e h1 h2 r rs => .own e (by rw [tag_ne (fun e => by rw [e, hp] at h1; cases h1)]; exact h1) h2 (Reps.keep kept_untag r) (FldsR.untag hp rs)
theorem GOk.untag (ok : GOk T K S st) {p : Addr} {i : Nat} (hp : st.ow p = some (.slot i)) : GOk T K S (st.tag p none) where
  live := fun a t h => by
    by_cases e : a = p
    · subst e; rw [tag_same] at h; cases h
    · rw [tag_ne e] at h; exact ok.live a t h
  fr := ok.fr
  len := ok.len
  obj := fun k o h => by
    obtain ⟨a, kvs, h1, h2, h3, h4, h5⟩ := ok.obj k o h
    exact ⟨a, kvs, h1, by rw [tag_ne (fun e => by rw [e, hp] at h2; cases h2)]; exact h2, h3, FldsR.untag hp h4, h5⟩
  tab := ok.tab.keep (fun a k u h1 h2 => ⟨h2, by rw [tag_ne (fun e => by rw [e, hp] at h1; cases h1)]; exact h1⟩) fun _ _ _ h => h

/-- as Step, but for the list at D that is being made -/
structure StepD (D : Addr) (st st' : Gh) : Prop where
  pre : st.hm <+: st'.hm
  keep : ∀ a o, st.H a = some o → st.ow a = none → st'.H a = some o ∧ st'.ow a = none
  slot : ∀ a i, st.ow a = some (.slot i) → st'.ow a = some (.slot i) ∧ st'.H a = st.H a
  slot' : ∀ a i, st'.ow a = some (.slot i) → a = D ∨ st.ow a = some (.slot i)
  own : ∀ a t, st.ow a = some t → st'.ow a = some t
  new_ : st.H D = none
theorem StepD.evo {D : Addr} (s : StepD D st st') : Evo st st' := ⟨s.pre, s.keep, fun a t _ h => s.own a t h⟩
theorem StepD.new (ok : GOk T K S st) {p : Addr} {o : HO} (hp : st.H p = none) : StepD p st ((st.put p o).tag p (some (.slot 0))) where
  pre := List.prefix_refl _
  keep := fun a u h h' => ⟨by show upd st.H p _ a = _; rw [upd_ne (ne_of_none h hp)]; exact h, by rw [tag_ne (ne_of_none h hp)]; exact h'⟩
  slot := fun a i h => by
    obtain ⟨u, h1, _⟩ := ok.live a _ h
    exact ⟨by rw [tag_ne (ne_of_none h1 hp)]; exact h, by show upd st.H p _ a = _; rw [upd_ne (ne_of_none h1 hp)]⟩
  slot' := fun a i h => by
    by_cases e : a = p
    · exact .inl e
    · rw [tag_ne e] at h; exact .inr h
  own := fun a t h => by
    obtain ⟨u, h1, _⟩ := ok.live a _ h
    rw [tag_ne (ne_of_none h1 hp)]; exact h
  new_ := hp
theorem StepD.step {D : Addr} {st1 : Gh} (s : StepD D st st') (s' : Step st' st1) : StepD D st st1 where
  pre := s.pre.trans s'.pre
  keep := fun a o h h' => let ⟨h1, h2⟩ := s.keep a o h h'; s'.keep a o h1 h2
  slot := fun a i h => let ⟨h1, h2⟩ := s.slot a i h; let ⟨h3, h4⟩ := s'.slot a i h1; ⟨h3, h4.trans h2⟩
  slot' := fun a i h => s.slot' a i (s'.slot' a i h)
  own := fun a t h => s'.own a t (s.own a t h)
  new_ := s.new_
theorem StepD.put (ok : GOk T K S st) {D : Addr} {o : HO} (s : StepD D st st') : StepD D st (st'.put D o) where
  pre := s.pre
  keep := fun a u h h' => by
    obtain ⟨h1, h2⟩ := s.keep a u h h'
    exact ⟨by show upd st'.H D o a = _; rw [upd_ne (ne_of_none h s.new_)]; exact h1, h2⟩
  slot := fun a i h => by
    obtain ⟨h1, h2⟩ := s.slot a i h
    obtain ⟨u, h3, _⟩ := ok.live a _ h
    exact ⟨h1, by show upd st'.H D o a = _; rw [upd_ne (ne_of_none h3 s.new_)]; exact h2⟩
  slot' := s.slot'
  own := s.own
  new_ := s.new_
/-- the list is done -/
theorem StepD.done (ok : GOk T K S st) {D : Addr} (s : StepD D st st') : Step st (st'.tag D none) where
  pre := s.pre
  keep := fun a u h h' => by
    obtain ⟨h1, h2⟩ := s.keep a u h h'
    exact ⟨h1, by rw [tag_ne (ne_of_none h s.new_)]; exact h2⟩
  slot := fun a i h => by
    obtain ⟨h1, h2⟩ := s.slot a i h
    obtain ⟨u, h3, _⟩ := ok.live a _ h
    exact ⟨by rw [tag_ne (ne_of_none h3 s.new_)]; exact h1, h2⟩
  slot' := fun a i h => by
    by_cases e : a = D
    · subst e; rw [tag_same] at h; cases h
    · rw [tag_ne e] at h
      exact (s.slot' a i h).resolve_left e
  own := fun a t h => by
    obtain ⟨u, h3, _⟩ := ok.live a _ h
    rw [tag_ne (ne_of_none h3 s.new_)]; exact s.own a t h
theorem StepD.after {D : Addr} {st0 : Gh} (ok0 : GOk T K S st0) (ok : GOk T K S st) (s0 : Step st0 st) (s : StepD D st st') : StepD D st0 st' where
  pre := s0.pre.trans s.pre
  keep := fun a o h h' => let ⟨h1, h2⟩ := s0.keep a o h h'; s.keep a o h1 h2
  slot := fun a i h => let ⟨h1, h2⟩ := s0.slot a i h; let ⟨h3, h4⟩ := s.slot a i h1; ⟨h3, h4.trans h2⟩
  slot' := fun a i h => (s.slot' a i h).imp_right (s0.slot' a i)
  own := fun a t h => s.own a t (s0.own a t h)
  new_ := by
    cases e : st0.H D with
    | none => rfl
    | some o =>
      cases e2 : st0.ow D with
      | none =>
        have := (s0.keep D o e e2).1
        rw [s.new_] at this; cases this
      | some t =>
        obtain ⟨o', h1, _⟩ := ok.live D t (s0.own D t e2)
        rw [s.new_] at h1; cases h1
theorem Step.none_back (ok : GOk T K S st) (s : Step st st') (ok' : GOk T K S st') {p : Addr} (h : st'.H p = none) : st.H p = none := by
  cases e : st.H p with
  | none => rfl
  | some o =>
    cases e2 : st.ow p with
    | none =>
      have := (s.keep p o e e2).1
      rw [h] at this; cases this
    | some t =>
      obtain ⟨o', h1, _⟩ := ok'.live p t (s.own p t e2)
      rw [h] at h1; cases h1
end

/-- as Step, new slots' tags let by -/
structure StepW (st st' : Gh) : Prop where
  pre : st.hm <+: st'.hm
  keep : ∀ a o, st.H a = some o → st.ow a = none → st'.H a = some o ∧ st'.ow a = none
  slot : ∀ a i, st.ow a = some (.slot i) → st'.ow a = some (.slot i) ∧ st'.H a = st.H a
  own : ∀ a t, st.ow a = some t → st'.ow a = some t
theorem Step.w {st st' : Gh} (s : Step st st') : StepW st st' := ⟨s.pre, s.keep, s.slot, s.own⟩
theorem StepD.w {D : Addr} {st st' : Gh} (s : StepD D st st') : StepW st st' := ⟨s.pre, s.keep, s.slot, s.own⟩

/-! ### targets -/
def setσ : L2.St → List Nat → List V → L2.St
  | σ, i :: is, v :: vs => setσ (σ.set i (some v)) is vs
  | σ, _, _ => σ
def gNames : List Nat → TGs
  | [] => gNil
  | i :: is => gCons (gName i) (gNames is)
theorem gNames_of {H : Hp} {Q : L2.St → Hp → Prop} : ∀ {is : List Nat} {vs : List V} {σ : L2.St}, vs.length = is.length → Q (setσ σ is vs) H → gNames is vs σ H Q
  | [], [], σ, _, q => ⟨rfl, q⟩
  | i :: is, v :: vs, σ, h, q => ⟨v, vs, rfl, gNames_of (is := is) (vs := vs) (by simpa using h) q⟩
  | [], _ :: _, _, h, _ => by cases h
  | _ :: _, [], _, h, _ => by cases h
/-- a target's reading -/
def gZ (K : PySem.W.Frag) : Tg → TG
  | .nm i => gName i
  | .tp is => gTup K is.length (gNames is)
section
variable {T : Tb} {K : PySem.W.Frag} {S : Addr → Prop} {st : Gh} {rd : List Nat}
theorem seen_set {ρ : List Sl} {i j : Nat} {d x : D} (h : seen rd (ρ.set i (.val d)) j = some x) : (j = i ∧ x = d) ∨ (j ≠ i ∧ seen rd ρ j = some x) := by
  unfold seen at h ⊢
  by_cases e : i = j
  · subst e
    by_cases hi : i < ρ.length
    · rw [List.getElem?_set_self hi] at h
      cases h
      exact .inl ⟨rfl, rfl⟩
    · rw [List.getElem?_eq_none (by simpa using hi)] at h; cases h
  · rw [List.getElem?_set_ne e] at h
    exact .inr ⟨fun z => e z.symm, h⟩
theorem ERel.set {σ : L2.St} {ρ : List Sl} (e : ERel T K S st rd σ ρ) {i : Nat} {v : V} {d : D} (r : RepS T K S st v d) : ERel T K S st rd (σ.set i (some v)) (ρ.set i (.val d)) := by
  refine ⟨by rw [List.length_set, List.length_set]; exact e.len, ?_⟩
  have hl := e.len
  intro j x h
  rcases seen_set h with ⟨rfl, rfl⟩ | ⟨ne, h⟩
  · have hj : j < ρ.length := by
      unfold seen at h
      by_cases hj : j < ρ.length
      · exact hj
      · rw [List.getElem?_eq_none (by simpa using hj)] at h; cases h
    exact ⟨v, by rw [List.getElem?_set_self (by omega)], r⟩
  · obtain ⟨w, h1, h2⟩ := e.get j x h
    exact ⟨w, by rw [List.getElem?_set_ne (Ne.symm ne)]; exact h1, h2⟩
theorem setσ_len : ∀ {is : List Nat} {vs : List V} {σ : L2.St}, (setσ σ is vs).length = σ.length
  | [], _, _ => by cases ‹List V› <;> rfl
  | i :: is, [], _ => rfl
  | i :: is, v :: vs, σ => by
    show (setσ (σ.set i (some v)) is vs).length = _
    rw [setσ_len, List.length_set]
theorem ERel.sets : ∀ {is : List Nat} {vs : List V} {ds : List D} {σ : L2.St} {ρ ρ1 : List Sl}, ERel T K S st rd σ ρ → RepsS T K S st vs ds → setSl ρ is ds = some ρ1 → ERel T K S st rd (setσ σ is vs) ρ1 ∧ vs.length = is.length
  | [], _, _, σ, ρ, ρ1, e, .nil, h => by cases h; exact ⟨e, rfl⟩
  | [], _, _, σ, ρ, ρ1, e, .cons _ _, h => by cases h
  | i :: is, _, _, σ, ρ, ρ1, e, .nil, h => by cases h
  | i :: is, v :: vs, d :: ds, σ, ρ, ρ1, e, .cons r rs, h => by
    have h : setSl (ρ.set i (.val d)) is ds = some ρ1 := h
    obtain ⟨h1, h3⟩ := ERel.sets (e.set r) rs h
    exact ⟨h1, by rw [List.length_cons, List.length_cons, h3]⟩
/-- what a target does to the slots -/
def Tg.σ (tg : Tg) (v : V) (xs : List V) (σ : L2.St) : L2.St := match tg with
  | .nm i => σ.set i (some v)
  | .tp is => setσ σ is xs
theorem gZ_of {tg : Tg} {v : V} {d : D} {σ : L2.St} {ρ ρ1 : List Sl} {Q : L2.St → Hp → Prop} (e : ERel T K S st rd σ ρ) (r : RepS T K S st v d) (hb : tg.bind d ρ = some ρ1)
    (q : ∀ xs, ERel T K S st rd (tg.σ v xs σ) ρ1 → Q (tg.σ v xs σ) st.H) : gZ K tg v σ st.H Q := by
  cases tg with
  | nm i =>
    cases hb
    exact q [] (e.set r)
  | tp is =>
    unfold Tg.bind at hb
    dsimp only at hb
    split at hb
    · rename_i ds
      obtain ⟨a, vs, rfl, h1, h3⟩ := r.tup_
      obtain ⟨e1, l2⟩ := ERel.sets e h3 hb
      exact ⟨a, vs, rfl, h1, l2, gNames_of l2 (q vs e1)⟩
    · cases hb
theorem wipeSl_out {ρ : List Sl} {i : Nat} : ∀ {vs : List Nat}, i ∉ vs → (wipeSl ρ vs)[i]? = ρ[i]?
  | [], _ => rfl
  | v :: vs, h => by
    unfold wipeSl
    rw [List.getElem?_set_ne (fun e => h (by rw [e]; exact List.mem_cons_self))]
    exact wipeSl_out fun z => h (List.mem_cons_of_mem _ z)
theorem wipeSl_in {ρ : List Sl} {i : Nat} {s : Sl} : ∀ {vs : List Nat}, i ∈ vs → (wipeSl ρ vs)[i]? = some s → s = .un
  | [], h, _ => by cases h
  | v :: vs, h, e => by
    unfold wipeSl at e
    by_cases hv : v = i
    · subst hv
      by_cases hl : v < (wipeSl ρ vs).length
      · rw [List.getElem?_set_self hl] at e; cases e; rfl
      · rw [List.getElem?_eq_none (by simpa using hl)] at e; cases e
    · rw [List.getElem?_set_ne hv] at e
      rcases List.mem_cons.mp h with z | z
      · exact absurd z.symm hv
      · exact wipeSl_in z e
theorem wipeSl_len {ρ : List Sl} : ∀ {vs : List Nat}, (wipeSl ρ vs).length = ρ.length
  | [] => rfl
  | v :: vs => by unfold wipeSl; rw [List.length_set, wipeSl_len]
theorem ERel.wipe {σ : L2.St} {ρ : List Sl} (e : ERel T K S st rd σ ρ) (vs : List Nat) : ERel T K S st rd (L2.wipe σ vs) (wipeSl ρ vs) := by
  refine ⟨by rw [L2.wipe_length, wipeSl_len]; exact e.len, ?_⟩
  intro i d h
  by_cases hi : i ∈ vs
  · unfold seen at h
    cases q : (wipeSl ρ vs)[i]? with
    | none => rw [q] at h; cases h
    | some s =>
      have := wipeSl_in hi q
      subst this
      rw [q] at h; cases h
  · have e2 : seen rd (wipeSl ρ vs) i = seen rd ρ i := by unfold seen; rw [wipeSl_out hi]
    rw [e2] at h
    obtain ⟨v, h1, h2⟩ := e.get i d h
    exact ⟨v, by rw [L2.wipe_out hi]; exact h1, h2⟩
theorem wipe_set {σ : L2.St} {i : Nat} {x : Option V} : ∀ {vs : List Nat}, i ∈ vs → L2.wipe (σ.set i x) vs = L2.wipe σ vs
  | [], h => by cases h
  | v :: vs, h => by
    unfold L2.wipe
    by_cases hv : v = i
    · subst hv
      by_cases hm : v ∈ vs
      · rw [wipe_set hm]
      · have : ∀ (l : List Nat) (τ : L2.St), v ∉ l → L2.wipe (τ.set v x) l = (L2.wipe τ l).set v x := by
          intro l
          induction l with
          | nil => intro τ _; rfl
          | cons u us ih =>
            intro τ hu
            unfold L2.wipe
            rw [ih τ (fun z => hu (List.mem_cons_of_mem _ z)), List.set_comm _ _ (fun e => hu (by rw [← e]; exact List.mem_cons_self))]
        rw [this vs σ hm, List.set_set]
    · rcases List.mem_cons.mp h with z | z
      · exact absurd z.symm hv
      · rw [wipe_set z]
theorem wipe_setσ : ∀ {is : List Nat} {xs : List V} {σ : L2.St} {vs : List Nat}, (∀ i ∈ is, i ∈ vs) → L2.wipe (setσ σ is xs) vs = L2.wipe σ vs
  | [], xs, σ, vs, _ => by cases xs <;> rfl
  | i :: is, [], σ, vs, _ => rfl
  | i :: is, x :: xs, σ, vs, h => by
    show L2.wipe (setσ (σ.set i (some x)) is xs) vs = _
    rw [wipe_setσ (fun j hj => h j (List.mem_cons_of_mem _ hj)), wipe_set (h i List.mem_cons_self)]
theorem wipe_idem {σ : L2.St} {vs : List Nat} : L2.wipe (L2.wipe σ vs) vs = L2.wipe σ vs := by
  have : ∀ (l m : List Nat), (∀ i ∈ l, i ∈ m) → ∀ τ : L2.St, L2.wipe (L2.wipe τ l) m = L2.wipe τ m := by
    intro l
    induction l with
    | nil => intro m _ τ; rfl
    | cons u us ih =>
      intro m h τ
      show L2.wipe ((L2.wipe τ us).set u none) m = _
      rw [wipe_set (h u List.mem_cons_self), ih m (fun i hi => h i (List.mem_cons_of_mem _ hi))]
  exact this vs vs (fun _ h => h) σ
theorem wipe_tg {tg : Tg} {v : V} {xs : List V} {σ : L2.St} : L2.wipe (tg.σ v xs (L2.wipe σ tg.slots)) tg.slots = L2.wipe σ tg.slots := by
  cases tg with
  | nm i => exact (wipe_set (by simp [Tg.slots])).trans wipe_idem
  | tp is => exact (wipe_setσ (fun i hi => hi)).trans wipe_idem
end
end Z

set_option Elab.async false
set_option linter.all false
set_option maxRecDepth 100000
set_option maxHeartbeats 4000000
/-! Z8: comprehensions, fresh lists. -/
namespace Z
open PySem PySem.Spec PyProof.Rows L2

/-- as post, of a list that nobody else holds -/
def postF (T : Tb) (K : PySem.W.Frag) (S : Addr → Prop) (W : WX) (σ : L2.St) (st : Gh) (r : R (D × G)) (Q : VK) : Prop := match r with
  | .ok p => match p.1 with
    | .lst ds => ∀ l vs st', GOk T K S st' → st'.g = p.2 → StepD l st st' → st'.H l = some (.lst vs) → st'.ow l = some (.slot 0) → RepsS T K S st' vs ds → Q (.ref l) st'.H
    | _ => False
  | .exc c fs g' => ∀ cv dd st', GOk T K S st' → st'.g = g' → Step st st' → ExcR T K S st' c fs cv dd → W cv dd σ st'.H
  | .bad => False
def tEF (T : Tb) (K : PySem.W.Frag) (W : WX) (rd : List Nat) (f : EvF) : TE := fun σ H Q =>
  ∃ S st ρ, st.H = H ∧ GOk T K S st ∧ ERel T K S st rd σ ρ ∧ postF T K S W σ st (f ρ st.g) Q
/-- f tells lists alone -/
def ListF (f : EvF) : Prop := ∀ ρ g p, f ρ g = .ok p → ∃ ds, p.1 = .lst ds
theorem fe_fresh {X : Cx} {T : Tb} {W : WX} {rd : List Nat} {e : Expr} {f : EvF} (h : PE X e (tEF T X.K W rd f)) (hf : ListF f) : PE X e (tE T X.K W rd f) := by
  refine PE.mono h ?_
  rintro σ H Q ⟨S, st, ρ, rfl, ok, er, h⟩
  refine ⟨S, st, ρ, rfl, ok, er, ?_⟩
  cases hr : f ρ st.g with
  | bad => rw [hr] at h; exact h
  | exc c fs g' => rw [hr] at h; exact h
  | ok p =>
    rw [hr] at h
    obtain ⟨ds, e⟩ := hf _ _ _ hr
    obtain ⟨p1, p2⟩ := p
    dsimp only at e
    subst e
    intro l vs st' ok' e' s' h2 h3 h5
    exact h (.ref l) (st'.tag l none) (ok'.untag h3) e' (s'.done ok) (.lst h2 ⟨ok.fr l s'.new_, tag_same⟩ (Reps.keep kept_untag h5))

section
variable {X : Cx} {T : Tb} {W : WX} {rd : List Nat}
theorem fe_lstF {es : List Expr} {pos : Pos} {fs : List Sl → G → R (List D × G)} (h : PA X es (tEs T X.K W rd fs)) : PE X (.List es pos) (tEF T X.K W rd (lsF fs fun ds => if ds.length ≤ sizeLine then some (.lst ds) else none)) := by
  refine PE.mono (pe_lst h) ?_
  rintro σ H Q ⟨S, st, ρ, rfl, ok, er, h⟩
  refine ⟨S, st, ρ, rfl, ok, er, ?_⟩
  have e : lsF fs (fun ds => if ds.length ≤ sizeLine then some (.lst ds) else none) ρ st.g = (fs ρ st.g).bind fun q => match (if q.1.length ≤ sizeLine then some (D.lst q.1) else none) with | some d => .ok (d, q.2) | none => .bad := rfl
  rw [e] at h
  cases hr : fs ρ st.g with
  | bad => rw [hr] at h; exact h
  | exc c fs g' => rw [hr] at h; exact h
  | ok p =>
    rw [hr] at h
    intro v st1 ok1 e1 s1 r1
    by_cases hz : p.1.length ≤ sizeLine
    · have h : postF T X.K S W σ st (.ok (.lst p.1, p.2)) Q := by
        have h' := h
        simp only [R.bind_ok, if_pos hz] at h'
        exact h'
      refine ⟨by rw [Reps.length r1]; exact hz, fun q hq => ?_⟩
      exact h q v ((st1.put q (.lst v)).tag q (some (.slot 0))) (ok1.tagged hq) e1 ((StepD.new ok1 hq).after ok ok1 s1) upd_same tag_same (Reps.keep (kept_tagged hq) r1)
    · have h' : postF T X.K S W σ st .bad Q := by
        have h' := h
        simp only [R.bind_ok, if_neg hz] at h'
        exact h'
      exact h'.elim

/-- one turn -/
def turnF (tg : Tg) (fc fe : EvF) (ρ : List Sl) (x : D) (g1 : G) : R (Option D × G) := match tg.bind x (wipeSl ρ tg.slots) with
  | some ρ1 => (fc ρ1 g1).bind fun c => match c.1 with
    | .bl true => (fe ρ1 c.2).bind fun y => .ok (some y.1, y.2)
    | .bl false => .ok (none, c.2)
    | _ => .bad
  | none => .bad
def compF (k : Ik) (fs : List Sl → G → R (List D × G)) (tg : Tg) (fc fe : EvF) : EvF := fun ρ g => (fs ρ g).bind fun q => match k.items q.1 with
  | some xs => ((evTurns (turnF tg fc fe ρ) xs q.2).noexc).bind fun r => if r.1.length ≤ sizeLine then .ok (.lst r.1, r.2) else .bad
  | none => .bad
theorem compF_list {k : Ik} {fs : List Sl → G → R (List D × G)} {tg : Tg} {fc fe : EvF} : ListF (compF k fs tg fc fe) := by
  intro ρ g p h
  unfold compF at h
  cases h1 : fs ρ g with
  | bad => rw [h1] at h; cases h
  | exc c fs g' => rw [h1] at h; cases h
  | ok q =>
    rw [h1] at h
    dsimp only [R.bind] at h
    split at h
    · cases h2 : (evTurns (turnF tg fc fe ρ) _ q.2).noexc with
      | bad => rw [h2] at h; cases h
      | exc c fs g' => rw [h2] at h; cases h
      | ok r =>
        rw [h2] at h
        dsimp only [R.bind] at h
        split at h
        · cases h; exact ⟨_, rfl⟩
        · cases h
    · cases h
abbrev W0 : WX := fun _ _ _ _ => False
/-- where a comprehension stands at its i-th turn -/
def CompAt (T : Tb) (K : PySem.W.Frag) (S : Addr → Prop) (st1 : Gh) (D1 : Addr) (f : D → G → R (Option D × G)) (xs res : List D) (gE : G) (i : Nat) (H : Hp) : Prop :=
  ∃ st acc accD rest, st.H = H ∧ GOk T K S st ∧ StepD D1 st1 st ∧ st.ow D1 = some (.slot 0) ∧ st.H D1 = some (.lst acc) ∧ RepsS T K S st acc accD ∧ evTurns f (xs.drop i) st.g = .ok (rest, gE) ∧ accD ++ rest = res
theorem R.noexc_ok {α : Type} {r : R α} {a : α} (h : r.noexc = .ok a) : r = .ok a := by
  cases r <;> first | exact h | cases h
theorem R.bind_eq_ok {α β : Type} {r : R α} {f : α → R β} {b : β} (h : r.bind f = .ok b) : ∃ a, r = .ok a ∧ f a = .ok b := by
  cases r with
  | ok a => exact ⟨a, rfl, h⟩
  | exc _ _ _ => cases h
  | bad => cases h
theorem evTurns_cons {f : D → G → R (Option D × G)} {x : D} {xs : List D} {g : G} : evTurns f (x :: xs) g = (f x g).bind fun p => (evTurns f xs p.2).bind fun q => .ok (addO p.1 q.1, q.2) := rfl
theorem comp_mono {k : Ik} {fs : List Sl → G → R (List D × G)} {tg : Tg} {fc fe : EvF} (σ : L2.St) (H : Hp) (Q : VK) : tEF T X.K W rd (compF k fs tg fc fe) σ H Q →
    tLc (tI T X.K W rd fs k) (gZ X.K tg) (tTest (tE T X.K W0 rd fc)) (tE T X.K W0 rd fe) tg.slots σ H Q := by
  rintro ⟨S, st, ρ, rfl, ok, er, h⟩
  refine ⟨S, st, ρ, rfl, ok, er, ?_⟩
  unfold compF at h
  cases hr : fs ρ st.g with
  | bad => rw [hr] at h; exact h
  | exc c fs g' => rw [hr] at h; exact h
  | ok p =>
    rw [hr] at h
    dsimp only [R.bind] at h ⊢
    cases hi : k.items p.1 with
    | none => rw [hi] at h; exact h
    | some xs =>
      rw [hi] at h
      dsimp only at h ⊢
      intro J st1 ok1 e1 s1 it D1 hD
      cases ht : (evTurns (turnF tg fc fe ρ) xs p.2).noexc with
      | bad => rw [ht] at h; exact h.elim
      | exc c fs g' =>
        exfalso
        cases hq : evTurns (turnF tg fc fe ρ) xs p.2 <;> rw [hq] at ht <;> cases ht
      | ok r =>
        rw [ht] at h
        dsimp only at h
        have ht := R.noexc_ok ht
        by_cases hz : r.1.length ≤ sizeLine
        · rw [if_pos hz] at h
          have er1 := er.step ok s1
          refine ⟨fun i m H => m = xs.length - i ∧ i ≤ xs.length ∧ CompAt T X.K S st1 D1 (turnF tg fc fe ρ) xs r.1 r.2 i H, ⟨xs.length, by simp, Nat.zero_le _, ?_⟩, ?_⟩
          · refine ⟨(st1.put D1 (.lst [])).tag D1 (some (.slot 0)), [], [], r.1, rfl, ok1.tagged hD, StepD.new ok1 hD, tag_same, upd_same, .nil, ?_, rfl⟩
            show evTurns _ (xs.drop 0) st1.g = _
            rw [e1]; exact ht
          · rintro i m H2 ⟨rfl, hile, st2, acc, accD, rest, rfl, ok2, s2, ow2, hD2, r2, ht2, hres⟩
            have ev := s2.evo
            by_cases hlt : i < xs.length
            · refine .inr ⟨it.go st2 i ev ok2 hlt, CompAt T X.K S st1 D1 (turnF tg fc fe ρ) xs r.1 r.2 (i + 1), fun H' c => ⟨xs.length - (i + 1), by omega, rfl, hlt, c⟩, fun x H' y => ?_⟩
              obtain ⟨st3, d, rfl, ok3, g3, s3, hd, rx⟩ := it.yld st2 i x H' ev ok2 hlt y
              have hdrop : xs.drop i = d :: xs.drop (i + 1) := by
                rw [List.drop_eq_getElem_cons hlt]
                rw [List.getElem?_eq_getElem hlt] at hd
                cases hd; rfl
              rw [hdrop] at ht2
              rw [evTurns_cons] at ht2
              obtain ⟨q1, hq1, ht2⟩ := R.bind_eq_ok ht2
              obtain ⟨q2, hq2, ht2⟩ := R.bind_eq_ok ht2
              have hrest := (Prod.mk.inj (R.ok.inj ht2)).1
              have hge := (Prod.mk.inj (R.ok.inj ht2)).2
              subst hrest
              unfold turnF at hq1
              cases hb : tg.bind d (wipeSl ρ tg.slots) with
              | none => rw [hb] at hq1; cases hq1
              | some ρ1 =>
                rw [hb] at hq1
                dsimp only at hq1
                obtain ⟨c, hc, hq1⟩ := R.bind_eq_ok hq1
                have erw : ERel T X.K S st3 rd (L2.wipe σ tg.slots) (wipeSl ρ tg.slots) := by
                  have e2 : ERel T X.K S st3 rd σ ρ := ⟨er1.len, fun j z hj => by
                    obtain ⟨w, h1, h2⟩ := er1.get j z hj
                    exact ⟨w, h1, RepS.evo h2 ok1 (ev.trans s3.evo)⟩⟩
                  exact e2.wipe _
                refine gZ_of erw rx hb fun vs er3 => ⟨wipe_tg, ?_⟩
                refine ⟨S, st3, ρ1, rfl, ok3, er3, ?_⟩
                rw [g3, hc]
                intro cv st4 ok4 e4 s4 r4
                cases hcv : c.1 <;> rw [hcv] at hq1 r4 <;> first
                  | (cases hq1; done)
                  | skip
                rename_i b
                refine ⟨b, r4.bl_, ?_⟩
                have s24 := s3.trans s4
                cases b with
                | false =>
                  refine iteF ?_
                  cases hq1
                  refine ⟨st4, acc, accD, q2.1, rfl, ok4, s2.step s24, (s24.slot _ _ ow2).1, (s24.slot _ _ ow2).2.trans hD2, RepsS.step r2 ok2 s24, ?_, ?_⟩
                  · rw [e4, ← hge]; exact hq2
                  · exact hres
                | true =>
                  refine iteT ?_
                  obtain ⟨y, hy, hq1⟩ := R.bind_eq_ok hq1
                  cases hq1
                  refine ⟨S, st4, ρ1, rfl, ok4, er3.step ok3 s4, ?_⟩
                  rw [e4, hy]
                  intro yv st5 ok5 e5 s5 r5
                  have s25 := s24.trans s5
                  have ow5 := (s25.slot _ _ ow2).1
                  have hD5 := (s25.slot _ _ ow2).2.trans hD2
                  have racc := RepsS.step r2 ok2 s25
                  have hres : accD ++ y.1 :: q2.1 = r.1 := hres
                  refine ⟨acc, hD5, ?_, st5.put D1 (.lst (acc ++ [yv])), acc ++ [yv], accD ++ [y.1], q2.1, rfl, ok5.put ow5, (s2.step s25).put ok1, ow5, upd_same, Reps.keep (kept_put ok5 ow5) (Reps.append racc (.cons r5 .nil)), ?_, ?_⟩
                  · have hl := Reps.length racc
                    have := congrArg List.length hres
                    simp only [List.length_append, List.length_cons] at this
                    omega
                  · show evTurns _ _ st5.g = _
                    rw [e5, ← hge]; exact hq2
                  · rw [List.append_assoc]; exact hres
            · have hie : i = xs.length := by omega
              subst hie
              refine .inl ⟨it.stop st2 ev ok2, ?_⟩
              rw [List.drop_length] at ht2
              have hrest := (Prod.mk.inj (R.ok.inj ht2)).1
              have hge := (Prod.mk.inj (R.ok.inj ht2)).2
              subst hrest
              rw [List.append_nil] at hres
              rw [← hres] at h
              exact h D1 acc st2 ok2 hge (s2.after ok ok1 s1) hD2 ow2 r2
        · rw [if_neg hz] at h
          exact h.elim
theorem fe_comp {elt tgt iter : Expr} {ifs : List Expr} {scope : Scope} {own : List (Str × Nat)} {pos : Pos} {k : Ik} {fs : List Sl → G → R (List D × G)} {tg : Tg} {fc fe : EvF} (hc : X.calm = true) (hN : X.N.Nodup) (hi : PI X tgt iter (tI T X.K W rd fs k)) (ok : BlkOk X.N X.env.scope scope own)
    (hown : own.map (·.2) = tg.slots) (hg : ∀ (s : Shared) (H : Hp) (C : Addr) (cl : List (Str × Addr)) (fp : List Addr), PG (X.blk s H scope (compEnvC scope cl C X.env) fp) tgt (gZ X.K tg))
    (ht : ∀ (s : Shared) (H : Hp) (C : Addr) (cl : List (Str × Addr)) (fp : List Addr), PTs (X.blk s H scope (compEnvC scope cl C X.env) fp) ifs (tTest (tE T X.K W0 rd fc)))
    (he : ∀ (s : Shared) (H : Hp) (C : Addr) (cl : List (Str × Addr)) (fp : List Addr), PE (X.blk s H scope (compEnvC scope cl C X.env) fp) elt (tE T X.K W0 rd fe)) (hs : ∀ x, foldedSetIterable iter X.env x = pure x) :
    PE X (.ListComp elt [⟨tgt, iter, ifs, 0⟩] scope pos) (tEF T X.K W rd (compF k fs tg fc fe)) := by
  refine PE.mono (pe_lc hc hN hi ok hg ht he hs) ?_
  rw [hown]
  exact comp_mono
theorem pts_none {Y : Cx} : PTs Y [] (tTest (tE T Y.K W0 rd fun _ g => .ok (.bl true, g))) := by
  refine ⟨fun pins s σ H Q I h => pts_nil.run pins s σ H Q I ?_⟩
  obtain ⟨S, st, ρ, rfl, ok, er, h⟩ := h
  obtain ⟨k, e, q⟩ := post_ok (v := .bl true) h ok rfl (.bl _)
  cases e
  exact q
/-! list + list, list(x) that nobody else holds -/
theorem postF_step {K : PySem.W.Frag} {S : Addr → Prop} {σ : L2.St} {st st1 : Gh} {r : R (D × G)} {Q : VK} (ok : GOk T K S st) (ok1 : GOk T K S st1) (s1 : Step st st1) (h : postF T K S W σ st r Q) : postF T K S W σ st1 r Q := by
  revert h
  cases r with
  | bad => exact fun h => h
  | exc c fs g' => exact fun h cv dd st' ok' e' s' x => h cv dd st' ok' e' (s1.trans s') x
  | ok p =>
    obtain ⟨d, g⟩ := p
    cases d <;> first
      | exact fun h => h
      | exact fun h l vs st' ok' e' s' h2 h3 h5 => h l vs st' ok' e' (s'.after ok ok1 s1) h2 h3 h5
theorem post_bindF {K : PySem.W.Frag} {S : Addr → Prop} {σ : L2.St} {st : Gh} {r : R (D × G)} {f : D × G → R (D × G)} {Q Q' : VK} (ok : GOk T K S st) (h : postF T K S W σ st (r.bind f) Q)
    (hk : ∀ p, r = .ok p → ∀ v st1, GOk T K S st1 → st1.g = p.2 → Step st st1 → RepS T K S st1 v p.1 → postF T K S W σ st1 (f p) Q → Q' v st1.H) : post T K S W σ st r Q' := by
  cases r with
  | bad => exact h
  | exc c fs g' => exact h
  | ok p =>
    intro v st1 ok1 e1 s1 r1
    exact hk p rfl v st1 ok1 e1 s1 r1 (postF_step ok ok1 s1 h)
theorem post_bindsF {K : PySem.W.Frag} {S : Addr → Prop} {σ : L2.St} {st : Gh} {r : R (List D × G)} {f : List D × G → R (D × G)} {Q : VK} {Q' : List V → Hp → Prop} (ok : GOk T K S st) (h : postF T K S W σ st (r.bind f) Q)
    (hk : ∀ p, r = .ok p → ∀ v st1, GOk T K S st1 → st1.g = p.2 → Step st st1 → RepsS T K S st1 v p.1 → postF T K S W σ st1 (f p) Q → Q' v st1.H) : posts T K S W σ st r Q' := by
  cases r with
  | bad => exact h
  | exc c fs g' => exact h
  | ok p =>
    intro v st1 ok1 e1 s1 r1
    exact hk p rfl v st1 ok1 e1 s1 r1 (postF_step ok ok1 s1 h)
theorem finF {K : PySem.W.Frag} {S : Addr → Prop} {σ : L2.St} {st : Gh} {ds : List D} {vs : List V} {g : G} {Q : VK} (ok : GOk T K S st) (e : st.g = g) (h : postF T K S W σ st (.ok (.lst ds, g)) Q) (r : RepsS T K S st vs ds) : ∀ p, st.H p = none → Q (.ref p) (upd st.H p (.lst vs)) := fun p hp =>
  h p vs ((st.put p (.lst vs)).tag p (some (.slot 0))) (ok.tagged hp) e (StepD.new ok hp) upd_same tag_same (Reps.keep (kept_tagged hp) r)
theorem fe_addF {a b : Expr} {pos : Pos} {fa fb : EvF} (ha : PE X a (tE T X.K W rd fa)) (hb : PE X b (tE T X.K W rd fb)) : PE X (.BinOp a .Add b pos) (tEF T X.K W rd (bin2 fa fb semAddL)) := by
  refine PE.mono (pe_op op_catL ha hb) ?_
  rintro σ H Q ⟨S, st, ρ, rfl, ok, er, h⟩
  refine ⟨S, st, ρ, rfl, ok, er, post_bindF ok h fun p hp v st1 ok1 e1 s1 r1 h1 => ?_⟩
  refine ⟨S, st1, ρ, rfl, ok1, er.step ok s1, ?_⟩
  rw [e1]
  refine post_bindF ok1 h1 fun q hq v2 st2 ok2 e2 s2 r2 h2 => ?_
  cases hsem : semAddL p.1 q.1 with
  | none => rw [hsem] at h2; exact h2.elim
  | some d =>
    rw [hsem] at h2
    unfold semAddL at hsem
    split at hsem
    · rename_i xs ys ex ey
      rw [ex] at r1
      rw [ey] at r2
      split at hsem
      · rename_i hz
        cases hsem
        obtain ⟨a, vs, rfl, h1, h2', h3⟩ := (RepS.step r1 ok1 s2).lst_
        obtain ⟨b, ws, rfl, h4, h5, h6⟩ := r2.lst_
        exact ⟨a, b, vs, ws, rfl, rfl, .inl h1, .inl h4, by rw [Reps.length h3, Reps.length h6]; exact hz, finF ok2 e2 h2 (Reps.append h3 h6)⟩
      · cases hsem
    · cases hsem
theorem semAddL_list {x y d : D} (h : semAddL x y = some d) : ∃ ds, d = .lst ds := by
  unfold semAddL at h
  split at h
  · split at h
    · cases h; exact ⟨_, rfl⟩
    · cases h
  · cases h
theorem bin2_list {fa fb : EvF} : ListF (bin2 fa fb semAddL) := by
  intro ρ g p h
  have h : ((fa ρ g).bind fun x => (fb ρ x.2).bind fun y => match semAddL x.1 y.1 with | some d => R.ok (d, y.2) | none => .bad) = .ok p := h
  obtain ⟨x, _, h⟩ := R.bind_eq_ok h
  obtain ⟨y, _, h⟩ := R.bind_eq_ok h
  cases hs : semAddL x.1 y.1 with
  | none => rw [hs] at h; cases h
  | some d => rw [hs] at h; cases h; exact semAddL_list hs
def rToLst (K : PySem.W.Frag) : List V → Hp → VK → Prop := fun xs H Q => ∃ p ys, xs = [.ref p] ∧ (SqL K H p ys ∨ SqT K H p ys) ∧ ∀ l, H l = none → Q (.ref l) (upd H l (.lst ys))
theorem toLstF_mono {fs : List Sl → G → R (List D × G)} (σ : L2.St) (H : Hp) (Q : VK) : tEF T X.K W rd (lsF fs (on1 semToLst)) σ H Q → tEs T X.K W rd fs σ H fun xs H1 => rToLst X.K xs H1 Q := by
  rintro ⟨S, st, ρ, rfl, ok, er, h⟩
  refine ⟨S, st, ρ, rfl, ok, er, post_bindsF ok h fun p hp v st1 ok1 e1 s1 r1 h1 => ?_⟩
  cases hsem : on1 semToLst p.1 with
  | none => rw [hsem] at h1; exact h1.elim
  | some d =>
    rw [hsem] at h1
    unfold on1 at hsem
    split at hsem
    · rename_i x ex
      rw [ex] at r1
      cases r1 with
      | cons rx r' =>
        cases r'
        unfold semToLst at hsem
        split at hsem
        · cases hsem
          obtain ⟨a, vs, rfl, h1', h2, h3⟩ := rx.lst_
          exact ⟨a, vs, rfl, .inl (.inl h1'), finF ok1 e1 h1 h3⟩
        · cases hsem
          obtain ⟨a, vs, rfl, h1', h3⟩ := rx.frz_
          exact ⟨a, vs, rfl, .inl h1'.sq, finF ok1 e1 h1 h3⟩
        · cases hsem
          obtain ⟨a, vs, rfl, h1', h3⟩ := rx.tup_
          exact ⟨a, vs, rfl, .inr h1', finF ok1 e1 h1 h3⟩
        · cases hsem
    · cases hsem
theorem toLst_list {fs : List Sl → G → R (List D × G)} : ListF (lsF fs (on1 semToLst)) := by
  intro ρ g p h
  have h : ((fs ρ g).bind fun q => match on1 semToLst q.1 with | some d => R.ok (d, q.2) | none => .bad) = .ok p := h
  obtain ⟨q, _, h⟩ := R.bind_eq_ok h
  cases hs : on1 semToLst q.1 with
  | none => rw [hs] at h; cases h
  | some d =>
    rw [hs] at h
    cases h
    unfold on1 at hs
    split at hs
    · unfold semToLst at hs
      split at hs <;> first
        | (cases hs; exact ⟨_, rfl⟩)
        | cases hs
    · cases hs
end
end Z

set_option Elab.async false
set_option linter.all false
set_option maxRecDepth 100000
set_option maxHeartbeats 4000000
/-! Z9: the ambient objects. -/
namespace Z
open PySem PySem.Spec PyProof.Rows L2

section
variable {T : Tb} {K : PySem.W.Frag} {S : Addr → Prop} {st : Gh} {k : Nat}
theorem inr_ne {a b : Str} (h : ¬ a = b) : ¬ (Sum.inr a : Key) = Sum.inr b := fun e => h (Sum.inr.inj e)
/-- what stands under a key -/
theorem FldsR.look {key : Str} {f : Fld} : ∀ {kvs : List (Key × V)} {o : Obj1}, FldsR T K S st k kvs o → o.lookup key = some f → ∃ v, valV kvs (.inr key) = some v ∧
    match f with
    | .imm d => RepS T K S st v d
    | .own ds => ∃ l vs, v = .ref l ∧ st.ow l = some (.fld k key) ∧ st.H l = some (.lst vs) ∧ RepsS T K S st vs ds
  | _, _, .nil, h => by cases h
  | _, _, .imm (n := n) e0 r rs, h => by
    by_cases e : key = n
    · subst e
      rw [List.lookup_cons_self] at h
      cases h
      exact ⟨_, valV_pos rfl, r⟩
    · have hb : (key == n) = false := by simpa using e
      rw [List.lookup_cons, hb] at h
      obtain ⟨v, h1, h2⟩ := FldsR.look rs h
      exact ⟨v, by rw [valV_neg (inr_ne (fun z => e z.symm))]; exact h1, h2⟩
  | _, _, .own (n := n) e0 h1 h2 r rs, h => by
    by_cases e : key = n
    · subst e
      rw [List.lookup_cons_self] at h
      cases h
      exact ⟨_, valV_pos rfl, _, _, rfl, h1, h2, r⟩
    · have hb : (key == n) = false := by simpa using e
      rw [List.lookup_cons, hb] at h
      obtain ⟨v, h3, h4⟩ := FldsR.look rs h
      exact ⟨v, by rw [valV_neg (inr_ne (fun z => e z.symm))]; exact h3, h4⟩
theorem FldsR.length : ∀ {kvs : List (Key × V)} {o : Obj1}, FldsR T K S st k kvs o → kvs.length = o.length
  | _, _, .nil => rfl
  | _, _, .imm _ _ rs => congrArg (· + 1) (FldsR.length rs)
  | _, _, .own _ _ _ _ rs => congrArg (· + 1) (FldsR.length rs)
theorem oget_some {g : G} {key : Str} {f : Fld} (h : oget g k key = some f) : ∃ o, g[k]? = some o ∧ o.lookup key = some f := by
  unfold oget at h
  split at h
  · exact ⟨_, ‹_›, h⟩
  · cases h
end

section
variable {X : Cx} {T : Tb} {W : WX} {rd : List Nat}
abbrev hgetF (fa : EvF) (key : Str) : EvF := fun ρ g => (fa ρ g).bind fun x => match x.1 with
    | .hnd k => match oget x.2 k key with
      | some (.imm d) => .ok (d, x.2)
      | _ => .bad
    | _ => .bad
theorem fe_hget {o i : Expr} {pos : Pos} {fa : EvF} {key : Str} (hu : X.A.units + 1 < cLine) (ho : PE X o (tE T X.K W rd fa)) (hi : PE X i (tC (.str key))) (hs : NoSl i) : PE X (.Subscript o i pos) (tE T X.K W rd (hgetF fa key)) := by
  refine PE.mono (pe_dget hu ho hi hs) ?_
  rintro σ H Q ⟨S, st, ρ, rfl, ok, er, h⟩
  refine ⟨S, st, ρ, rfl, ok, er, post_bind h fun p hp v st1 ok1 e1 s1 r1 h1 => ?_⟩
  obtain ⟨p1, p2⟩ := p
  cases p1 <;> first
    | exact h1.elim
    | skip
  rename_i k
  dsimp only at h1 e1
  cases hg : oget p2 k key with
  | none => rw [hg] at h1; exact h1.elim
  | some f =>
    rw [hg] at h1
    cases f with
    | own ds => exact h1.elim
    | imm d =>
      obtain ⟨ob, ho1, ho2⟩ := oget_some hg
      obtain ⟨a, kvs, q1, q2, q3, q4, _⟩ := ok1.obj k ob (by rw [e1]; exact ho1)
      obtain ⟨w, l1, l2⟩ := q4.look ho2
      cases r1 with
      | hnd hh =>
        rw [q1] at hh; cases hh
        exact ⟨a, w, rfl, by rw [← l1]; exact DGet.k (k := Sum.inr key) q3, post_ok h1 ok1 e1 l2⟩
abbrev hgetixF (fa : EvF) (key : Str) (rd : List Nat) (j : Nat) : EvF := fun ρ g => (fa ρ g).bind fun x => match x.1 with
    | .hnd k => match oget x.2 k key with
      | some f => match seen rd ρ j with
        | some i => match semIx f.asD i with
          | some z => .ok (z, x.2)
          | none => .bad
        | none => .bad
      | none => .bad
    | _ => .bad
theorem fe_hgetix {o i n : Expr} {pos pos2 : Pos} {fa : EvF} {key : Str} {j : Nat} (hu : X.A.units + 1 < cLine) (ho : PE X o (tE T X.K W rd fa)) (hi : PE X i (tC (.str key))) (hs : NoSl i) (hn : PE X n (tVar j)) (hp : PlainIx n) :
    PE X (.Subscript (.Subscript o i pos) n pos2) (tE T X.K W rd (hgetixF fa key rd j)) := by
  refine PE.mono (pe_ix ix_seq (pe_dget hu ho hi hs) hn hp) ?_
  rintro σ H Q ⟨S, st, ρ, rfl, ok, er, h⟩
  refine ⟨S, st, ρ, rfl, ok, er, post_bind h fun p hp v st1 ok1 e1 s1 r1 h1 => ?_⟩
  obtain ⟨p1, p2⟩ := p
  cases p1 <;> first
    | exact h1.elim
    | skip
  rename_i k
  dsimp only at h1 e1
  cases hg : oget p2 k key with
  | none => rw [hg] at h1; exact h1.elim
  | some f =>
    rw [hg] at h1
    dsimp only at h1
    cases hsn : seen rd ρ j with
    | none => rw [hsn] at h1; exact h1.elim
    | some iv =>
      rw [hsn] at h1
      dsimp only at h1
      obtain ⟨ob, ho1, ho2⟩ := oget_some hg
      obtain ⟨a, kvs, q1, q2, q3, q4, _⟩ := ok1.obj k ob (by rw [e1]; exact ho1)
      obtain ⟨w, l1, l2⟩ := q4.look ho2
      cases r1 with
      | hnd hh =>
        rw [q1] at hh; cases hh
        refine ⟨a, w, rfl, by rw [← l1]; exact DGet.k (k := Sum.inr key) q3, ?_⟩
        obtain ⟨vi, hv1, hv2⟩ := (er.step ok s1).get j iv hsn
        refine ⟨vi, hv1, ?_⟩
        cases hz : semIx f.asD iv with
        | none => rw [hz] at h1; exact h1.elim
        | some z =>
          rw [hz] at h1
          cases f with
          | imm d => exact pr_ix (T := T) S st1 w vi d iv z Q ok1 l2 hv2 hz fun v st' ok' e' s' r' => h1 v st' ok' (e'.trans e1) s' r'
          | own ds =>
            obtain ⟨l, vs, rfl, m1, m2, m3⟩ := l2
            have hz : semIx (.lst ds) iv = some z := hz
            cases iv <;> first
              | (cases hz; done)
              | skip
            rename_i n hz0
            have hz : (match place ds.length n with | some k => ds[k]? | none => none) = some z := hz
            cases hpl : place ds.length n with
            | none => rw [hpl] at hz; cases hz
            | some jj =>
              rw [hpl] at hz
              obtain ⟨v, h4, h5⟩ := Reps.get m3 hz
              exact .inl ⟨l, vs, n, v, rfl, hv2.int_, .inl (.inl m2), by unfold atI; rw [Reps.length m3, ← place_ix, hpl]; exact h4, post_ok h1 ok1 e1 h5⟩
end

/-! ### stores into an ambient object -/
section
variable {T : Tb} {K : PySem.W.Frag} {S : Addr → Prop} {st : Gh}
/-- data isn't touched by a store to what is owned; the ambient objects' worth may change -/
def Gh.putG (st : Gh) (p : Addr) (o : HO) (g : G) : Gh := { st with H := upd st.H p o, g := g }
theorem kept_putG (ok : GOk T K S st) {p : Addr} {o : HO} {t : Tag} {g : G} (hp : st.ow p = some t) : Kept st.hm (st.putG p o g).hm (Al S st) (Al S (st.putG p o g)) st.H (st.putG p o g).H := kept_put (T := T) (K := K) ok (o := o) hp
theorem evo_putG (ok : GOk T K S st) {p : Addr} {o : HO} {t : Tag} {g : G} (hp : st.ow p = some t) : Evo st (st.putG p o g) where
  pre := List.prefix_refl _
  keep := fun a u h h' => by
    have ne : a ≠ p := fun e => by rw [e, hp] at h'; cases h'
    exact ⟨by show upd st.H p o a = _; rw [upd_ne ne]; exact h, h'⟩
  own := fun a t _ h => h
theorem FldsR.other (ok : GOk T K S st) {p : Addr} {o : HO} {g : G} {t : Tag} (hp : st.ow p = some t) {k : Nat} (hne : ∀ n, t ≠ .fld k n) : ∀ {kvs : List (Key × V)} {ob : Obj1}, FldsR T K S st k kvs ob → FldsR T K S (st.putG p o g) k kvs ob
  | _, _, .nil => .nil
  | _, _, .imm e r rs => .imm e (Rep.keep (kept_putG ok hp) r) (FldsR.other ok hp hne rs)
  | _, _, .own (n := n) e0 h1 h2 r rs => .own e0 h1 (by
      show upd st.H p o _ = _
      rw [upd_ne (fun e => by rw [e, hp] at h1; exact hne n (Option.some.inj h1))]
      exact h2) (Reps.keep (kept_putG ok hp) r) (FldsR.other ok hp hne rs)
theorem keys_putK1 (key : Str) (f : Fld) : ∀ o : Obj1, (putK1 key f o).map (·.1) = o.map (·.1)
  | [] => rfl
  | (k, v) :: r => by
    unfold putK1
    by_cases e : k = key
    · rw [if_pos e]; subst e; rfl
    · rw [if_neg e]
      show k :: (putK1 key f r).map (·.1) = _
      rw [keys_putK1 key f r]; rfl
theorem length_putK1 (key : Str) (f : Fld) (o : Obj1) : (putK1 key f o).length = o.length := by
  have := congrArg List.length (keys_putK1 key f o)
  simpa using this
theorem putK_map {κ : Type} [DecidableEq κ] {kvs : List (κ × V)} {k : κ} {v w : V} (h : valV kvs k = some w) : putK kvs k v = kvs.map fun kv => if kv.1 = k then (kv.1, v) else kv := by
  unfold putK
  rw [valV_any, h]
  rfl
theorem map_out {κ : Type} [DecidableEq κ] {k : κ} {v : V} : ∀ {kvs : List (κ × V)}, k ∉ kvs.map (·.1) → (kvs.map fun kv => if kv.1 = k then (kv.1, v) else kv) = kvs
  | [], _ => rfl
  | p :: r, h => by
    have h1 : ¬ p.1 = k := fun e => h (by rw [← e]; exact List.mem_cons_self)
    show (if p.1 = k then (p.1, v) else p) :: _ = _
    rw [if_neg h1, map_out (fun z => h (List.mem_cons_of_mem _ z))]
theorem FldsR.keys {k : Nat} : ∀ {kvs : List (Key × V)} {o : Obj1}, FldsR T K S st k kvs o → kvs.map (·.1) = o.map fun q => (Sum.inr q.1 : Key)
  | _, _, .nil => rfl
  | _, _, .imm _ _ rs => by rw [List.map_cons, List.map_cons, FldsR.keys rs]
  | _, _, .own _ _ _ _ rs => by rw [List.map_cons, List.map_cons, FldsR.keys rs]
theorem inr_mem {key : Str} {o : Obj1} (h : key ∉ o.map (·.1)) : (Sum.inr key : Key) ∉ o.map fun q => (Sum.inr q.1 : Key) := fun z => by
  obtain ⟨q, h1, h2⟩ := List.mem_map.mp z
  exact h (List.mem_map.mpr ⟨q, h1, Sum.inr.inj h2⟩)
/-- the fields behind d[key] = v -/
theorem FldsR.setImm (ok : GOk T K S st) {p : Addr} {o' : HO} {g : G} {k : Nat} (hp : st.ow p = some (.obj k)) {key : Str} {v : V} {d : D} (hi : d.imm = true) (r : RepS T K S st v d) : ∀ {kvs : List (Key × V)} {o : Obj1} {f : Fld}, FldsR T K S st k kvs o → (o.map (·.1)).Nodup → o.lookup key = some f →
    FldsR T K S (st.putG p o' g) k (kvs.map fun kv => if kv.1 = .inr key then (kv.1, v) else kv) (putK1 key (.imm d) o)
  | _, _, f, .nil, _, h => by cases h
  | _, _, f, .imm (n := n) (kvs := kvs) (o := o) e0 r0 rs, nd, h => by
    rw [List.map_cons] at nd
    have nd := List.nodup_cons.mp nd
    rw [List.map_cons]
    by_cases e : n = key
    · subst e
      unfold putK1
      rw [if_pos rfl, if_pos rfl, map_out (by rw [FldsR.keys rs]; exact inr_mem nd.1)]
      exact .imm hi (Rep.keep (kept_putG ok hp) r) (FldsR.other ok hp (fun _ z => nomatch z) rs)
    · have hb : (key == n) = false := by simpa using fun z => e z.symm
      rw [List.lookup_cons, hb] at h
      unfold putK1
      rw [if_neg e, if_neg (inr_ne e)]
      exact .imm e0 (Rep.keep (kept_putG ok hp) r0) (FldsR.setImm ok hp hi r rs nd.2 h)
  | _, _, f, .own (n := n) (kvs := kvs) (o := o) e0 h1 h2 r0 rs, nd, h => by
    rw [List.map_cons] at nd
    have nd := List.nodup_cons.mp nd
    rw [List.map_cons]
    by_cases e : n = key
    · subst e
      unfold putK1
      rw [if_pos rfl, if_pos rfl, map_out (by rw [FldsR.keys rs]; exact inr_mem nd.1)]
      exact .imm hi (Rep.keep (kept_putG ok hp) r) (FldsR.other ok hp (fun _ z => nomatch z) rs)
    · have hb : (key == n) = false := by simpa using fun z => e z.symm
      rw [List.lookup_cons, hb] at h
      unfold putK1
      rw [if_neg e, if_neg (inr_ne e)]
      exact .own e0 h1 (by
        show upd st.H p o' _ = _
        rw [upd_ne (fun e => by rw [e, hp] at h1; cases h1)]
        exact h2) (Reps.keep (kept_putG ok hp) r0) (FldsR.setImm ok hp hi r rs nd.2 h)
theorem FldsR.away (ok : GOk T K S st) {l : Addr} {g : G} {k : Nat} {key : Str} {ws : List V} (hl : st.ow l = some (.fld k key)) : ∀ {kvs : List (Key × V)} {o : Obj1}, FldsR T K S st k kvs o → (∀ x, (key, x) ∉ o) → FldsR T K S (st.putG l (.lst ws) g) k kvs o
  | _, _, .nil, _ => .nil
  | _, _, .imm e0 r rs, nm => .imm e0 (Rep.keep (kept_putG ok hl) r) (FldsR.away ok hl rs (fun x z => nm x (List.mem_cons_of_mem _ z)))
  | _, _, .own (n := n) e0 h1 h2 r rs, nm => .own e0 h1 (by
      show upd st.H l _ _ = _
      rw [upd_ne (fun z => by rw [z, hl] at h1; cases h1; exact nm _ List.mem_cons_self)]
      exact h2) (Reps.keep (kept_putG ok hl) r) (FldsR.away ok hl rs (fun x z => nm x (List.mem_cons_of_mem _ z)))
/-- the fields behind a store into a field's own list at l -/
theorem FldsR.setOwn (ok : GOk T K S st) {l : Addr} {g : G} {k : Nat} {key : Str} (hl : st.ow l = some (.fld k key)) {ws : List V} {es : List D} (hi : D.immAll es = true) (rw_ : RepsS T K S st ws es) : ∀ {kvs : List (Key × V)} {o : Obj1} {f : Fld}, FldsR T K S st k kvs o → (o.map (·.1)).Nodup → o.lookup key = some f → valV kvs (.inr key) = some (.ref l) →
    FldsR T K S (st.putG l (.lst ws) g) k kvs (putK1 key (.own es) o)
  | _, _, f, .nil, _, h, _ => by cases h
  | _, _, f, .imm (n := n) (kvs := kvs) (o := o) e0 r0 rs, nd, h, hv => by
    rw [List.map_cons] at nd
    have nd := List.nodup_cons.mp nd
    by_cases e : n = key
    · subst e
      rw [valV_pos rfl] at hv
      cases hv
      unfold putK1
      rw [if_pos rfl]
      exact .own hi hl upd_same (Reps.keep (kept_putG ok hl) rw_) (FldsR.away ok hl rs (by simpa using nd.1))
    · have hb : (key == n) = false := by simpa using fun z => e z.symm
      rw [List.lookup_cons, hb] at h
      rw [valV_neg (inr_ne e)] at hv
      unfold putK1
      rw [if_neg e]
      exact .imm e0 (Rep.keep (kept_putG ok hl) r0) (FldsR.setOwn ok hl hi rw_ rs nd.2 h hv)
  | _, _, f, .own (n := n) (kvs := kvs) (o := o) e0 h1 h2 r0 rs, nd, h, hv => by
    rw [List.map_cons] at nd
    have nd := List.nodup_cons.mp nd
    by_cases e : n = key
    · subst e
      rw [valV_pos rfl] at hv
      cases hv
      unfold putK1
      rw [if_pos rfl]
      exact .own hi hl upd_same (Reps.keep (kept_putG ok hl) rw_) (FldsR.away ok hl rs (by simpa using nd.1))
    · have hb : (key == n) = false := by simpa using fun z => e z.symm
      rw [List.lookup_cons, hb] at h
      rw [valV_neg (inr_ne e)] at hv
      unfold putK1
      rw [if_neg e]
      exact .own e0 h1 (by
        show upd st.H l _ _ = _
        rw [upd_ne (fun z => by rw [z, hl] at h1; cases h1; exact e rfl)]
        exact h2) (Reps.keep (kept_putG ok hl) r0) (FldsR.setOwn ok hl hi rw_ rs nd.2 h hv)
theorem oput_get {g : G} {k : Nat} {key : Str} {f : Fld} {o : Obj1} (h : g[k]? = some o) : oput g k key f = g.set k (putK1 key f o) := by unfold oput; rw [h]
/-- a field of the ambient object k is set -/
theorem GOk.setImm (ok : GOk T K S st) {a : Addr} {k : Nat} {key : Str} {o : Obj1} {f : Fld} {kvs : List (Key × V)} {v : V} {d : D} (hi : d.imm = true) (r : RepS T K S st v d) (hg : st.g[k]? = some o) (hl : o.lookup key = some f) (ha : st.hm[k]? = some a) (ho : st.ow a = some (.obj k)) (hH : st.H a = some (.dK kvs)) (hf : FldsR T K S st k kvs o) :
    GOk T K S (st.putG a (.dK (putK kvs (.inr key) v)) (oput st.g k key (.imm d))) where
  live := fun b t h => by
    by_cases e : b = a
    · subst e; exact ⟨_, upd_same, rfl⟩
    · obtain ⟨u, h1, h2⟩ := ok.live b t h
      refine ⟨u, ?_, h2⟩
      show upd st.H a _ b = _
      rw [upd_ne e]; exact h1
  fr := fun b h => ok.fr b (by
    by_cases e : b = a
    · subst e
      have h : upd st.H b _ b = none := h
      rw [upd_same] at h; cases h
    · have h : upd st.H a _ b = none := h
      rw [upd_ne e] at h; exact h)
  len := by show st.hm.length = (oput st.g k key (.imm d)).length; rw [oput_get hg, List.length_set]; exact ok.len
  obj := fun j ob h => by
    have h : (oput st.g k key (.imm d))[j]? = some ob := h
    rw [oput_get hg] at h
    have hk : k < st.g.length := (List.getElem?_eq_some_iff.mp hg).1
    by_cases e : k = j
    · subst e
      rw [List.getElem?_set_self hk] at h
      cases h
      obtain ⟨a', kvs', h1, h2, h3, h4, h5, h6⟩ := ok.obj k o hg
      obtain ⟨w, hw, _⟩ := hf.look hl
      refine ⟨a, _, ha, ho, upd_same, ?_, by rw [length_putK1]; exact h5, by rw [keys_putK1]; exact h6⟩
      rw [putK_map hw]
      exact hf.setImm ok ho hi r h6 hl
    · rw [List.getElem?_set_ne e] at h
      obtain ⟨a', kvs', h1, h2, h3, h4, h5, h6⟩ := ok.obj j ob h
      have ne : a' ≠ a := fun z => by rw [z, ho] at h2; cases h2; exact e rfl
      refine ⟨a', kvs', h1, h2, ?_, h4.other ok ho (fun _ z => nomatch z), h5, h6⟩
      show upd st.H a _ a' = _
      rw [upd_ne ne]; exact h3
  tab := ok.tab.keep (fun b _ u h1 h2 => ⟨by show upd st.H a _ b = _; rw [upd_ne (fun e => by rw [e, ho] at h1; cases h1)]; exact h2, h1⟩) (kept_putG ok ho).fx
theorem GOk.setOwn (ok : GOk T K S st) {a l : Addr} {k : Nat} {key : Str} {o : Obj1} {f : Fld} {kvs : List (Key × V)} {ws : List V} {es : List D} (hi : D.immAll es = true) (r : RepsS T K S st ws es) (hg : st.g[k]? = some o) (hl : o.lookup key = some f) (ha : st.hm[k]? = some a) (ho : st.ow a = some (.obj k)) (hH : st.H a = some (.dK kvs)) (hf : FldsR T K S st k kvs o)
    (hv : valV kvs (.inr key) = some (.ref l)) (hw : st.ow l = some (.fld k key)) : GOk T K S (st.putG l (.lst ws) (oput st.g k key (.own es))) where
  live := fun b t h => by
    by_cases e : b = l
    · subst e; exact ⟨_, upd_same, rfl⟩
    · obtain ⟨u, h1, h2⟩ := ok.live b t h
      refine ⟨u, ?_, h2⟩
      show upd st.H l _ b = _
      rw [upd_ne e]; exact h1
  fr := fun b h => ok.fr b (by
    by_cases e : b = l
    · subst e
      have h : upd st.H b _ b = none := h
      rw [upd_same] at h; cases h
    · have h : upd st.H l _ b = none := h
      rw [upd_ne e] at h; exact h)
  len := by show st.hm.length = (oput st.g k key (.own es)).length; rw [oput_get hg, List.length_set]; exact ok.len
  obj := fun j ob h => by
    have h : (oput st.g k key (.own es))[j]? = some ob := h
    rw [oput_get hg] at h
    have hk : k < st.g.length := (List.getElem?_eq_some_iff.mp hg).1
    by_cases e : k = j
    · subst e
      rw [List.getElem?_set_self hk] at h
      cases h
      obtain ⟨a', kvs', h1, h2, h3, h4, h5, h6⟩ := ok.obj k o hg
      refine ⟨a, kvs, ha, ho, ?_, hf.setOwn ok hw hi r h6 hl hv, by rw [length_putK1]; exact h5, by rw [keys_putK1]; exact h6⟩
      show upd st.H l _ a = _
      rw [upd_ne (fun z => by rw [z, hw] at ho; cases ho)]; exact hH
    · rw [List.getElem?_set_ne e] at h
      obtain ⟨a', kvs', h1, h2, h3, h4, h5, h6⟩ := ok.obj j ob h
      have ne : a' ≠ l := fun z => by rw [z, hw] at h2; cases h2
      refine ⟨a', kvs', h1, h2, ?_, h4.other ok hw (fun n z => by cases z; exact e rfl), h5, h6⟩
      show upd st.H l _ a' = _
      rw [upd_ne ne]; exact h3
  tab := ok.tab.keep (fun b _ u h1 h2 => ⟨by show upd st.H l _ b = _; rw [upd_ne (fun e => by rw [e, hw] at h1; cases h1)]; exact h2, h1⟩) (kept_putG ok hw).fx
end
end Z

set_option Elab.async false
set_option linter.all false
set_option maxRecDepth 100000
set_option maxHeartbeats 4000000
/-! Z10: states at statements. -/
namespace Z
open PySem PySem.Spec PyProof.Rows L2

/-- the slots as statements see them -/
structure SRel (T : Tb) (K : PySem.W.Frag) (S : Addr → Prop) (st : Gh) (σ : L2.St) (ρ : List Sl) : Prop where
  len : σ.length = ρ.length
  val : ∀ (i : Nat) (d : D), ρ[i]? = some (Sl.val d) → ∃ v, σ[i]? = some (some v) ∧ RepS T K S st v d
  own : ∀ (i : Nat) (ds : List D), ρ[i]? = some (Sl.own ds) → ∃ a vs, σ[i]? = some (some (.ref a)) ∧ S a ∧ st.ow a = some (.slot i) ∧ st.H a = some (.lst vs) ∧ RepsS T K S st vs ds

/-- the tags of the slots rd are taken off -/
def Gh.er (rd : List Nat) (st : Gh) : Gh := { st with ow := fun a => match st.ow a with
  | some (.slot i) => if rd.contains i = true then none else some (.slot i)
  | x => x }
section
variable {T : Tb} {K : PySem.W.Frag} {S : Addr → Prop} {st st1 : Gh} {rd : List Nat}
theorem er_none {a : Addr} (h : st.ow a = none) : (st.er rd).ow a = none := by unfold Gh.er; dsimp only; rw [h]
theorem er_in {a : Addr} {i : Nat} (h : st.ow a = some (.slot i)) (hi : rd.contains i = true) : (st.er rd).ow a = none := by unfold Gh.er; dsimp only; rw [h]; dsimp only; rw [if_pos hi]
theorem er_out {a : Addr} {i : Nat} (h : st.ow a = some (.slot i)) (hi : ¬ rd.contains i = true) : (st.er rd).ow a = some (.slot i) := by unfold Gh.er; dsimp only; rw [h]; dsimp only; rw [if_neg hi]
theorem er_obj {a : Addr} {t : Tag} (h : st.ow a = some t) (ht : t.isSlot = false) : (st.er rd).ow a = some t := by
  unfold Gh.er
  dsimp only
  rw [h]
  cases t <;> first | rfl | cases ht
theorem er_of {a : Addr} {t : Tag} (h : (st.er rd).ow a = some t) : st.ow a = some t := by
  cases e : st.ow a with
  | none => rw [er_none e] at h; cases h
  | some u =>
    cases u with
    | slot i =>
      by_cases hi : rd.contains i = true
      · rw [er_in e hi] at h; cases h
      · rw [er_out e hi] at h; exact h
    | obj k => rw [er_obj e rfl] at h; exact h
    | fld k n => rw [er_obj e rfl] at h; exact h
    | tab k => rw [er_obj e rfl] at h; exact h
theorem kept_er : Kept st.hm (st.er rd).hm (Al S st) (Al S (st.er rd)) st.H (st.er rd).H :=
  ⟨fun a o ha h => ⟨h, ha.1, er_none ha.2⟩, fun _ _ _ h => h, List.prefix_refl _⟩
theorem FldsR.er {k : Nat} : ∀ {kvs : List (Key × V)} {o : Obj1}, FldsR T K S st k kvs o → FldsR T K S (st.er rd) k kvs o
  | _, _, .nil => .nil
  | _, _, .imm e r rs => .imm e (Rep.keep kept_er r) (FldsR.er rs)
  | _, _, .own e h1 h2 r rs => .own e (er_obj h1 rfl) h2 (Reps.keep kept_er r) (FldsR.er rs)
theorem GOk.er (ok : GOk T K S st) : GOk T K S (st.er rd) where
  live := fun a t h => ok.live a t (er_of h)
  fr := ok.fr
  len := ok.len
  obj := fun k o h => by
    obtain ⟨a, kvs, h1, h2, h3, h4, h5⟩ := ok.obj k o h
    exact ⟨a, kvs, h1, er_obj h2 rfl, h3, h4.er, h5⟩
  tab := ok.tab.keep (fun a k u h1 h2 => ⟨h2, er_obj h1 rfl⟩) fun _ _ _ h => h
theorem SRel.erel {σ : L2.St} {ρ : List Sl} (s : SRel T K S st σ ρ) : ERel T K S (st.er rd) rd σ ρ := by
  refine ⟨s.len, fun i d h => ?_⟩
  unfold seen at h
  cases e : ρ[i]? with
  | none => rw [e] at h; cases h
  | some sl =>
    rw [e] at h
    cases sl with
    | un => cases h
    | val x =>
      cases h
      obtain ⟨v, h1, h2⟩ := s.val i _ e
      exact ⟨v, h1, Rep.keep kept_er h2⟩
    | own ds =>
      dsimp only at h
      by_cases hi : rd.contains i = true
      · rw [if_pos hi] at h
        cases h
        obtain ⟨a, vs, h1, h2, h3, h4, h5⟩ := s.own i _ e
        exact ⟨.ref a, h1, .lst h4 ⟨h2, er_in h3 hi⟩ (Reps.keep kept_er h5)⟩
      · rw [if_neg hi] at h; cases h
theorem evo_er (ok : GOk T K S st) (s : StepW (st.er rd) st1) : Evo st st1 where
  pre := s.pre
  keep := fun a o h h' => s.keep a o h (er_none h')
  own := fun a t ht h => s.own a t (er_obj h ht)
theorem out_other {a : Addr} (h : ∀ i, st.ow a ≠ some (.slot i)) : (st.out st1).ow a = st1.ow a := out_ns h
/-- what stood at a slot's own address stands -/
theorem er_slot (ok : GOk T K S st) (s : StepW (st.er rd) st1) {a : Addr} {i : Nat} (h : st.ow a = some (.slot i)) : st1.H a = st.H a := by
  by_cases hi : rd.contains i = true
  · obtain ⟨o, h1, _⟩ := ok.live a _ h
    rw [h1]
    exact (s.keep a o h1 (er_in h hi)).1
  · exact (s.slot a i (er_out h hi)).2
theorem out_objE (ok : GOk T K S st) (s : StepW (st.er rd) st1) {a : Addr} {t : Tag} (h : st1.ow a = some t) (ht : t.isSlot = false) : ∀ i, st.ow a ≠ some (.slot i) := fun i e => by
  by_cases hi : rd.contains i = true
  · obtain ⟨o, h1, _⟩ := ok.live a _ e
    have := (s.keep a o h1 (er_in e hi)).2
    rw [this] at h; cases h
  · have := (s.slot a i (er_out e hi)).1
    rw [this] at h; cases h; cases ht
theorem FldsR.re (ok : GOk T K S st) (s : StepW (st.er rd) st1) {k : Nat} : ∀ {kvs : List (Key × V)} {o : Obj1}, FldsR T K S st1 k kvs o → FldsR T K S (st.out st1) k kvs o
  | _, _, .nil => .nil
  | _, _, .imm e r rs => .imm e (Rep.imm e r) (FldsR.re ok s rs)
  | _, _, .own e h1 h2 r rs => .own e (by rw [out_ns (out_objE ok s h1 rfl)]; exact h1) h2 (Reps.imm e r) (FldsR.re ok s rs)
theorem GOk.re (ok : GOk T K S st) (s : StepW (st.er rd) st1) (ok1 : GOk T K S st1) : GOk T K S (st.out st1) where
  live := fun a t h => by
    cases e : st.ow a with
    | none =>
      rw [out_ns (fun i => by rw [e]; exact fun z => nomatch z)] at h
      exact ok1.live a t h
    | some u =>
      cases u with
      | slot i =>
        obtain ⟨o, h1, h2⟩ := ok.live a _ e
        exact ⟨o, (er_slot ok s e).trans h1, h2⟩
      | obj k =>
        rw [out_ns (fun i => by rw [e]; exact fun z => nomatch z)] at h
        exact ok1.live a t h
      | fld k n =>
        rw [out_ns (fun i => by rw [e]; exact fun z => nomatch z)] at h
        exact ok1.live a t h
      | tab k =>
        rw [out_ns (fun i => by rw [e]; exact fun z => nomatch z)] at h
        exact ok1.live a t h
  fr := ok1.fr
  len := ok1.len
  obj := fun k o h => by
    obtain ⟨a, kvs, h1, h2, h3, h4, h5⟩ := ok1.obj k o h
    exact ⟨a, kvs, h1, by rw [out_ns (out_objE ok s h2 rfl)]; exact h2, h3, FldsR.re ok s h4, h5⟩
  tab := ok1.tab.keep (fun a k u h1 h2 => ⟨h2, by rw [out_ns (out_objE ok s h1 rfl)]; exact h1⟩) fun _ _ _ h => h
theorem evo_out (ok : GOk T K S st) (s : StepW (st.er rd) st1) : Evo st (st.out st1) where
  pre := s.pre
  keep := fun a o h h' => by
    obtain ⟨h1, h2⟩ := s.keep a o h (er_none h')
    exact ⟨h1, by rw [out_ns (fun i => by rw [h']; exact fun z => nomatch z)]; exact h2⟩
  own := fun a t ht h => by
    rw [out_ns (fun i z => by rw [h] at z; cases z; cases ht)]
    exact s.own a t (er_obj h ht)
/-- data that stood before, behind an expression, the tags back -/
theorem kept_out2 (ok : GOk T K S st) (s : StepW (st.er rd) st1) : Kept st.hm (st.out st1).hm (Al S st) (Al S (st.out st1)) st.H (st.out st1).H := (evo_out ok s).kept ok
theorem SRel.out {σ : L2.St} {ρ : List Sl} (r : SRel T K S st σ ρ) (ok : GOk T K S st) (s : StepW (st.er rd) st1) : SRel T K S (st.out st1) σ ρ where
  len := r.len
  val := fun i d h => by
    obtain ⟨v, h1, h2⟩ := r.val i d h
    exact ⟨v, h1, Rep.keep (kept_out2 ok s) h2⟩
  own := fun i ds h => by
    obtain ⟨a, vs, h1, h2, h3, h4, h5⟩ := r.own i ds h
    exact ⟨a, vs, h1, h2, out_slot h3, (er_slot ok s h3).trans h4, Reps.keep (kept_out2 ok s) h5⟩
theorem freeze_go_get (rd : List Nat) : ∀ (ρ : List Sl) (k i : Nat), (freeze.go rd k ρ)[i]? = (ρ[i]?).map fun s => match s with
    | .own ds => if rd.contains (k + i) = true then .val (.lst ds) else .own ds
    | s => s
  | [], k, i => by simp [freeze.go]
  | .un :: r, k, 0 => rfl
  | .val d :: r, k, 0 => rfl
  | .own ds :: r, k, 0 => rfl
  | .un :: r, k, i + 1 => by
    have := freeze_go_get rd r (k + 1) i
    simpa [freeze.go, Nat.add_assoc, Nat.add_comm 1 i] using this
  | .val d :: r, k, i + 1 => by
    have := freeze_go_get rd r (k + 1) i
    simpa [freeze.go, Nat.add_assoc, Nat.add_comm 1 i] using this
  | .own ds :: r, k, i + 1 => by
    have := freeze_go_get rd r (k + 1) i
    simpa [freeze.go, Nat.add_assoc, Nat.add_comm 1 i] using this
theorem freeze_get (rd : List Nat) (ρ : List Sl) (i : Nat) : (freeze rd ρ)[i]? = (ρ[i]?).map fun s => match s with
    | .own ds => if rd.contains i = true then .val (.lst ds) else .own ds
    | s => s := by
  have := freeze_go_get rd ρ 0 i
  rw [Nat.zero_add] at this
  exact this
theorem freeze_len (rd : List Nat) (ρ : List Sl) : (freeze rd ρ).length = ρ.length := by
  have : ∀ (l : List Sl) (k : Nat), (freeze.go rd k l).length = l.length := by
    intro l
    induction l with
    | nil => intro k; rfl
    | cons s r ih => intro k; cases s <;> simp [freeze.go, ih]
  exact this ρ 0
theorem SRel.frz {σ : L2.St} {ρ : List Sl} (r : SRel T K S st σ ρ) (ok : GOk T K S st) (s : StepW (st.er rd) st1) : SRel T K S st1 σ (freeze rd ρ) where
  len := by rw [freeze_len]; exact r.len
  val := fun i d h => by
    rw [freeze_get] at h
    cases e : ρ[i]? with
    | none => rw [e] at h; cases h
    | some sl =>
      rw [e] at h
      cases sl with
      | un => cases h
      | val x =>
        cases h
        obtain ⟨v, h1, h2⟩ := r.val i _ e
        exact ⟨v, h1, RepS.evo h2 ok (evo_er ok s)⟩
      | own ds =>
        simp only [Option.map_some] at h
        by_cases hi : rd.contains i = true
        · rw [if_pos hi] at h
          cases h
          obtain ⟨a, vs, h1, h2, h3, h4, h5⟩ := r.own i _ e
          obtain ⟨h6, h7⟩ := s.keep a _ h4 (er_in h3 hi)
          exact ⟨.ref a, h1, .lst h6 ⟨h2, h7⟩ (RepsS.evo h5 ok (evo_er ok s))⟩
        · rw [if_neg hi] at h; cases h
  own := fun i ds h => by
    rw [freeze_get] at h
    cases e : ρ[i]? with
    | none => rw [e] at h; cases h
    | some sl =>
      rw [e] at h
      cases sl with
      | un => cases h
      | val x => cases h
      | own xs =>
        simp only [Option.map_some] at h
        by_cases hi : rd.contains i = true
        · rw [if_pos hi] at h; cases h
        · rw [if_neg hi] at h
          cases h
          obtain ⟨a, vs, h1, h2, h3, h4, h5⟩ := r.own i _ e
          obtain ⟨h6, h7⟩ := s.slot a i (er_out h3 hi)
          exact ⟨a, vs, h1, h2, h6, h7.trans h4, RepsS.evo h5 ok (evo_er ok s)⟩
theorem after_ok {σ : L2.St} {ρ : List Sl} {v : V} {d : D} (r : SRel T K S st σ ρ) (ok : GOk T K S st) (s : StepW (st.er rd) st1) (ok1 : GOk T K S st1) (rv : RepS T K S st1 v d) :
    ∃ st', st'.H = st1.H ∧ st'.g = st1.g ∧ GOk T K S st' ∧ Evo st st' ∧ SRel T K S st' σ (after rd d ρ) ∧ RepS T K S st' v d := by
  unfold after
  by_cases hi : d.imm = true
  · rw [if_pos hi]
    exact ⟨st.out st1, rfl, rfl, ok.re s ok1, evo_out ok s, r.out ok s, Rep.imm hi rv⟩
  · rw [if_neg hi]
    exact ⟨st1, rfl, rfl, ok1, evo_er ok s, r.frz ok s, rv⟩
theorem SRel.evo_val {σ : L2.St} {ρ : List Sl} {i : Nat} {d : D} {v : V} (r : SRel T K S st σ ρ) (rv : RepS T K S st v d) : SRel T K S st (σ.set i (some v)) (ρ.set i (.val d)) where
  len := by rw [List.length_set, List.length_set]; exact r.len
  val := fun j x h => by
    by_cases e : i = j
    · subst e
      have hi : i < ρ.length := by
        by_cases hi : i < ρ.length
        · exact hi
        · rw [List.getElem?_eq_none (by simpa using hi)] at h; cases h
      rw [List.getElem?_set_self hi] at h
      cases h
      exact ⟨v, by rw [List.getElem?_set_self (by rw [r.len]; exact hi)], rv⟩
    · rw [List.getElem?_set_ne e] at h ⊢
      exact r.val j x h
  own := fun j x h => by
    by_cases e : i = j
    · subst e
      by_cases hi : i < ρ.length
      · rw [List.getElem?_set_self hi] at h; cases h
      · rw [List.getElem?_eq_none (by simpa using hi)] at h; cases h
    · rw [List.getElem?_set_ne e] at h ⊢
      exact r.own j x h
theorem SRel.un {σ : L2.St} {ρ : List Sl} {i : Nat} {x : Option V} (r : SRel T K S st σ ρ) : SRel T K S st (σ.set i x) (ρ.set i .un) where
  len := by rw [List.length_set, List.length_set]; exact r.len
  val := fun j y h => by
    by_cases e : i = j
    · subst e
      by_cases hi : i < ρ.length
      · rw [List.getElem?_set_self hi] at h; cases h
      · rw [List.getElem?_eq_none (by simpa using hi)] at h; cases h
    · rw [List.getElem?_set_ne e] at h ⊢
      exact r.val j y h
  own := fun j y h => by
    by_cases e : i = j
    · subst e
      by_cases hi : i < ρ.length
      · rw [List.getElem?_set_self hi] at h; cases h
      · rw [List.getElem?_eq_none (by simpa using hi)] at h; cases h
    · rw [List.getElem?_set_ne e] at h ⊢
      exact r.own j y h
theorem SRel.sets : ∀ {is : List Nat} {vs : List V} {ds : List D} {σ : L2.St} {ρ ρ1 : List Sl}, SRel T K S st σ ρ → RepsS T K S st vs ds → setSl ρ is ds = some ρ1 → SRel T K S st (setσ σ is vs) ρ1 ∧ vs.length = is.length
  | [], _, _, σ, ρ, ρ1, e, .nil, h => by cases h; exact ⟨e, rfl⟩
  | [], _, _, σ, ρ, ρ1, e, .cons _ _, h => by cases h
  | i :: is, _, _, σ, ρ, ρ1, e, .nil, h => by cases h
  | i :: is, v :: vs, d :: ds, σ, ρ, ρ1, e, .cons r rs, h => by
    have h : setSl (ρ.set i (.val d)) is ds = some ρ1 := h
    obtain ⟨h1, h3⟩ := SRel.sets (e.evo_val r) rs h
    exact ⟨h1, by rw [List.length_cons, List.length_cons, h3]⟩
theorem gZ_ofS {tg : Tg} {v : V} {d : D} {σ : L2.St} {ρ ρ1 : List Sl} {Q : L2.St → Hp → Prop} (e : SRel T K S st σ ρ) (r : RepS T K S st v d) (hb : tg.bind d ρ = some ρ1)
    (q : ∀ xs, SRel T K S st (tg.σ v xs σ) ρ1 → Q (tg.σ v xs σ) st.H) : gZ K tg v σ st.H Q := by
  cases tg with
  | nm i =>
    cases hb
    exact q [] (e.evo_val r)
  | tp is =>
    unfold Tg.bind at hb
    dsimp only at hb
    split at hb
    · rename_i ds
      obtain ⟨a, vs, rfl, h1, h3⟩ := r.tup_
      obtain ⟨e1, l2⟩ := SRel.sets e h3 hb
      exact ⟨a, vs, rfl, h1, l2, gNames_of l2 (q vs e1)⟩
    · cases hb
/-- behind a change that leaves the slots' lists -/
theorem SRel.evo {st' : Gh} {σ : L2.St} {ρ : List Sl} (r : SRel T K S st σ ρ) (ok : GOk T K S st) (e : Evo st st') (hs : ∀ a i, st.ow a = some (.slot i) → st'.ow a = some (.slot i) ∧ st'.H a = st.H a) : SRel T K S st' σ ρ where
  len := r.len
  val := fun i d h => by
    obtain ⟨v, h1, h2⟩ := r.val i d h
    exact ⟨v, h1, RepS.evo h2 ok e⟩
  own := fun i ds h => by
    obtain ⟨a, vs, h1, h2, h3, h4, h5⟩ := r.own i ds h
    exact ⟨a, vs, h1, h2, (hs a i h3).1, (hs a i h3).2.trans h4, RepsS.evo h5 ok e⟩
end

/-! ### what a statement means -/
def SPost (T : Tb) (K : PySem.W.Frag) (S : Addr → Prop) (W : WX) (st : Gh) (r : SR) (Dn : Ends) : Prop := match r with
  | .nx ρ' g' => ∀ σ' st', GOk T K S st' → st'.g = g' → Evo st st' → SRel T K S st' σ' ρ' → Dn.nx σ' st'.H
  | .bk ρ' g' => ∀ σ' st', GOk T K S st' → st'.g = g' → Evo st st' → SRel T K S st' σ' ρ' → Dn.bk σ' st'.H
  | .ct ρ' g' => ∀ σ' st', GOk T K S st' → st'.g = g' → Evo st st' → SRel T K S st' σ' ρ' → Dn.ct σ' st'.H
  | .rt d g' => ∀ v st', GOk T K S st' → st'.g = g' → Evo st st' → RepS T K S st' v d → Dn.rt v st'.H
  | .exc c fs ρ' g' => ∀ cv dd σ' st', GOk T K S st' → st'.g = g' → Evo st st' → SRel T K S st' σ' ρ' → ExcR T K S st' c fs cv dd → W cv dd σ' st'.H
  | .bad => False
abbrev SvF := List Sl → G → SR
def tS (T : Tb) (K : PySem.W.Frag) (W : WX) (f : SvF) : TS := fun Dn σ H =>
  ∃ S st ρ, st.H = H ∧ GOk T K S st ∧ SRel T K S st σ ρ ∧ SPost T K S W st (f ρ st.g) Dn
section
variable {T : Tb} {K : PySem.W.Frag} {S : Addr → Prop} {W : WX} {st st1 : Gh}
theorem SPost.evo {r : SR} {Dn : Ends} (h : SPost T K S W st r Dn) (e : Evo st st1) : SPost T K S W st1 r Dn := by
  revert h
  cases r with
  | nx ρ g => exact fun h σ' st' o1 o2 o3 => h σ' st' o1 o2 (e.trans o3)
  | bk ρ g => exact fun h σ' st' o1 o2 o3 => h σ' st' o1 o2 (e.trans o3)
  | ct ρ g => exact fun h σ' st' o1 o2 o3 => h σ' st' o1 o2 (e.trans o3)
  | rt d g => exact fun h v st' o1 o2 o3 => h v st' o1 o2 (e.trans o3)
  | exc c fs ρ g => exact fun h cv dd σ' st' o1 o2 o3 => h cv dd σ' st' o1 o2 (e.trans o3)
  | bad => exact fun h => h
/-- an expression within a statement -/
theorem ofR_post {ρ : List Sl} {σ : L2.St} {rd : List Nat} {r : R (D × G)} {f : D × G → SR} {Dn : Ends} {Q : VK} (ok : GOk T K S st) (sr : SRel T K S st σ ρ) (h : SPost T K S W st (SR.ofR ρ f r) Dn)
    (hk : ∀ p v st1, GOk T K S st1 → st1.g = p.2 → Step (st.er rd) st1 → RepS T K S st1 v p.1 → SPost T K S W st (f p) Dn → Q v st1.H) : post T K S W σ (st.er rd) r Q := by
  cases r with
  | bad => exact h
  | exc c fs g' =>
    intro cv dd st' ok' e' s' ⟨C, h1, h2, h3⟩
    exact h cv dd σ (st.out st') (ok.re s'.w ok') e' (evo_out ok s'.w) (sr.out ok s'.w) ⟨C, h1, h2, RepX.imm h3⟩
  | ok p => exact fun v st1 ok1 e1 s1 r1 => hk p v st1 ok1 e1 s1 r1 h
theorem ofR_posts {ρ : List Sl} {σ : L2.St} {rd : List Nat} {r : R (List D × G)} {f : List D × G → SR} {Dn : Ends} {Q : List V → Hp → Prop} (ok : GOk T K S st) (sr : SRel T K S st σ ρ) (h : SPost T K S W st (SR.ofR ρ f r) Dn)
    (hk : ∀ p v st1, GOk T K S st1 → st1.g = p.2 → Step (st.er rd) st1 → RepsS T K S st1 v p.1 → SPost T K S W st (f p) Dn → Q v st1.H) : posts T K S W σ (st.er rd) r Q := by
  cases r with
  | bad => exact h
  | exc c fs g' =>
    intro cv dd st' ok' e' s' ⟨C, h1, h2, h3⟩
    exact h cv dd σ (st.out st') (ok.re s'.w ok') e' (evo_out ok s'.w) (sr.out ok s'.w) ⟨C, h1, h2, RepX.imm h3⟩
  | ok p => exact fun v st1 ok1 e1 s1 r1 => hk p v st1 ok1 e1 s1 r1 h
theorem ofR_postF {ρ : List Sl} {σ : L2.St} {rd : List Nat} {r : R (D × G)} {f : D × G → SR} {Dn : Ends} {Q : VK} (ok : GOk T K S st) (sr : SRel T K S st σ ρ) (hl : ∀ p, r = .ok p → ∃ ds, p.1 = .lst ds) (h : SPost T K S W st (SR.ofR ρ f r) Dn)
    (hk : ∀ ds g l vs st1, r = .ok (.lst ds, g) → GOk T K S st1 → st1.g = g → StepD l (st.er rd) st1 → st1.H l = some (.lst vs) → st1.ow l = some (.slot 0) → RepsS T K S st1 vs ds → SPost T K S W st (f (.lst ds, g)) Dn → Q (.ref l) st1.H) : postF T K S W σ (st.er rd) r Q := by
  cases r with
  | bad => exact h
  | exc c fs g' =>
    intro cv dd st' ok' e' s' ⟨C, h1, h2, h3⟩
    exact h cv dd σ (st.out st') (ok.re s'.w ok') e' (evo_out ok s'.w) (sr.out ok s'.w) ⟨C, h1, h2, RepX.imm h3⟩
  | ok p =>
    obtain ⟨ds, e⟩ := hl p rfl
    obtain ⟨p1, p2⟩ := p
    dsimp only at e
    subst e
    exact fun l vs st1 ok1 e1 s1 h1 h2 r1 => hk ds p2 l vs st1 rfl ok1 e1 s1 h1 h2 r1 h
end
end Z

set_option Elab.async false
set_option linter.all false
set_option maxRecDepth 100000
set_option maxHeartbeats 4000000
/-! Z11: the rules of statements. -/
namespace Z
open PySem PySem.Spec PyProof.Rows L2

section
variable {X : Cx} {T : Tb} {W : WX} {rd : List Nat} {pos : Pos}

/-! ### blocks -/
def seqF (f g : SvF) : SvF := fun ρ g0 => match f ρ g0 with
  | .nx ρ1 g1 => g ρ1 g1
  | r1 => r1
theorem fss_nil : PSs X [] (tS T X.K W fun ρ g => .nx ρ g) := by
  refine PSs.mono pss_nil ?_
  rintro D σ H ⟨S, st, ρ, rfl, ok, sr, h⟩
  exact h σ st ok rfl (Evo.refl _) sr
theorem seq_mono {f g : SvF} (D : Ends) (σ : L2.St) (H : Hp) : tS T X.K W (seqF f g) D σ H → tSeq (tS T X.K W f) (tS T X.K W g) D σ H := by
  rintro ⟨S, st, ρ, rfl, ok, sr, h⟩
  refine ⟨S, st, ρ, rfl, ok, sr, ?_⟩
  unfold seqF at h
  cases hf : f ρ st.g with
  | nx ρ1 g1 =>
    rw [hf] at h
    intro σ' st' ok' e' ev' sr'
    exact ⟨S, st', ρ1, rfl, ok', sr', by rw [e']; exact h.evo ev'⟩
  | bk ρ1 g1 => rw [hf] at h; exact h
  | ct ρ1 g1 => rw [hf] at h; exact h
  | rt d g1 => rw [hf] at h; exact h
  | exc c fs ρ1 g1 => rw [hf] at h; exact h
  | bad => rw [hf] at h; exact h
theorem fss_cons {s : Stmt} {r : List Stmt} {f g : SvF} (h1 : PS X s (tS T X.K W f)) (h2 : PSs X r (tS T X.K W g)) : PSs X (s :: r) (tS T X.K W (seqF f g)) := PSs.mono (pss_cons h1 h2) seq_mono

/-! ### small statements -/
theorem fs_pass : PS X (.Pass pos) (tS T X.K W fun ρ g => .nx ρ g) := by
  refine PS.mono ps_pass ?_
  rintro D σ H ⟨S, st, ρ, rfl, ok, sr, h⟩
  exact h σ st ok rfl (Evo.refl _) sr
theorem fs_brk : PS X (.Break pos) (tS T X.K W fun ρ g => .bk ρ g) := by
  refine PS.mono ps_break ?_
  rintro D σ H ⟨S, st, ρ, rfl, ok, sr, h⟩
  exact h σ st ok rfl (Evo.refl _) sr
theorem fs_cnt : PS X (.Continue pos) (tS T X.K W fun ρ g => .ct ρ g) := by
  refine PS.mono ps_continue ?_
  rintro D σ H ⟨S, st, ρ, rfl, ok, sr, h⟩
  exact h σ st ok rfl (Evo.refl _) sr
theorem fs_retN : PS X (.Return none pos) (tS T X.K W fun ρ g => .rt .non g) := by
  refine PS.mono ps_retN ?_
  rintro D σ H ⟨S, st, ρ, rfl, ok, sr, h⟩
  exact h .non st ok rfl (Evo.refl _) .non
abbrev retF (rd : List Nat) (fe : EvF) : SvF := fun ρ g => SR.ofR ρ (fun q => .rt q.1 q.2) (fe ρ g)
theorem fs_ret {e : Expr} {fe : EvF} (he : PE X e (tE T X.K W rd fe)) : PS X (.Return (some e) pos) (tS T X.K W (retF rd fe)) := by
  refine PS.mono (ps_ret he) ?_
  rintro D σ H ⟨S, st, ρ, rfl, ok, sr, h⟩
  exact ⟨S, st.er rd, ρ, rfl, ok.er, sr.erel, ofR_post ok sr h fun p v st1 ok1 e1 s1 r1 h1 => h1 v st1 ok1 e1 (evo_er ok s1.w) r1⟩
abbrev exprF (rd : List Nat) (fe : EvF) : SvF := fun ρ g => SR.ofR ρ (fun q => .nx ρ q.2) (fe ρ g)
theorem fs_expr {e : Expr} {fe : EvF} (he : PE X e (tE T X.K W rd fe)) (hs : swapsWith e none pos.line X.env = pure false) : PS X (.Expr e pos) (tS T X.K W (exprF rd fe)) := by
  refine PS.mono (ps_expr he hs) ?_
  rintro D σ H ⟨S, st, ρ, rfl, ok, sr, h⟩
  exact ⟨S, st.er rd, ρ, rfl, ok.er, sr.erel, ofR_post ok sr h fun p v st1 ok1 e1 s1 r1 h1 => h1 σ (st.out st1) (ok.re s1.w ok1) e1 (evo_out ok s1.w) (sr.out ok s1.w)⟩
abbrev setF (i : Nat) (rd : List Nat) (fe : EvF) : SvF := fun ρ g => SR.ofR ρ (fun q => .nx ((after rd q.1 ρ).set i (.val q.1)) q.2) (fe ρ g)
theorem set_mono {i : Nat} {fe : EvF} (D : Ends) (σ : L2.St) (H : Hp) : tS T X.K W (setF i rd fe) D σ H → tAsg (tE T X.K W rd fe) (gName i) D σ H := by
  rintro ⟨S, st, ρ, rfl, ok, sr, h⟩
  refine ⟨S, st.er rd, ρ, rfl, ok.er, sr.erel, ofR_post ok sr h fun p v st1 ok1 e1 s1 r1 h1 => ?_⟩
  obtain ⟨st', hH, hg, ok', ev', sr', r'⟩ := after_ok sr ok s1.w ok1 r1
  rw [← hH]
  exact h1 _ st' ok' (hg.trans e1) ev' (sr'.evo_val r')
theorem fs_set {i : Nat} {e : Expr} {fe : EvF} {tgt : Expr} (h : PS X (.Assign [tgt] e pos) (tAsg (tE T X.K W rd fe) (gName i))) : PS X (.Assign [tgt] e pos) (tS T X.K W (setF i rd fe)) := PS.mono h set_mono
/-- name = a list of the def's own -/
abbrev ownF (i : Nat) (rd : List Nat) (fe : EvF) : SvF := fun ρ g => if i < ρ.length then SR.ofR ρ (fun q => match q.1 with
      | .lst ds => .nx ((if D.immAll ds = true then ρ else freeze rd ρ).set i (.own ds)) q.2
      | _ => .bad) (fe ρ g) else .bad
section
variable {K : PySem.W.Frag} {S : Addr → Prop} {st st1 : Gh}
/-- the new list's tag -/
theorem GOk.retag (ok : GOk T K S st) {p : Addr} {i j : Nat} (hp : st.ow p = some (.slot i)) : GOk T K S (st.tag p (some (.slot j))) where
  live := fun a t h => by
    by_cases e : a = p
    · subst e; exact ok.live a _ hp
    · rw [tag_ne e] at h; exact ok.live a t h
  fr := ok.fr
  len := ok.len
  obj := fun k o h => by
    obtain ⟨a, kvs, h1, h2, h3, h4, h5⟩ := ok.obj k o h
    refine ⟨a, kvs, h1, by rw [tag_ne (fun e => by rw [e, hp] at h2; cases h2)]; exact h2, h3, ?_, h5⟩
    have kp : Kept st.hm (st.tag p (some (.slot j))).hm (Al S st) (Al S (st.tag p (some (.slot j)))) st.H (st.tag p (some (.slot j))).H :=
      ⟨fun a o ha h => ⟨h, ha.1, by rw [tag_ne (fun e => by rw [e] at ha; rw [ha.2] at hp; cases hp)]; exact ha.2⟩, fun _ _ _ h => h, List.prefix_refl _⟩
    have go : ∀ {kvs : List (Key × V)} {ob : Obj1}, FldsR T K S st k kvs ob → FldsR T K S (st.tag p (some (.slot j))) k kvs ob := by
      intro kvs ob f
      induction f with
      | nil => exact .nil
      | imm e r _ ih => exact .imm e (Rep.keep kp r) ih
      | own e h1 h2 r _ ih => exact .own e (by rw [tag_ne (fun e => by rw [e, hp] at h1; cases h1)]; exact h1) h2 (Reps.keep kp r) ih
    exact go h4
  tab := ok.tab.keep (fun a k u h1 h2 => ⟨h2, by rw [tag_ne (fun e => by rw [e, hp] at h1; cases h1)]; exact h1⟩) fun _ _ _ h => h
theorem SRel.tagged {σ : L2.St} {ρ : List Sl} {p : Addr} {i : Nat} {vs : List V} {ds : List D} (r : SRel T K S st σ ρ) (hi : i < ρ.length) (hS : S p) (ht : st.ow p = some (.slot i)) (hH : st.H p = some (.lst vs)) (rs : RepsS T K S st vs ds) : SRel T K S st (σ.set i (some (.ref p))) (ρ.set i (.own ds)) where
  len := by rw [List.length_set, List.length_set]; exact r.len
  val := fun j x h => by
    by_cases e : i = j
    · subst e
      rw [List.getElem?_set_self hi] at h; cases h
    · rw [List.getElem?_set_ne e] at h ⊢
      exact r.val j x h
  own := fun j x h => by
    by_cases e : i = j
    · subst e
      rw [List.getElem?_set_self hi] at h
      cases h
      exact ⟨p, vs, by rw [List.getElem?_set_self (by rw [r.len]; exact hi)], hS, ht, hH, rs⟩
    · rw [List.getElem?_set_ne e] at h ⊢
      exact r.own j x h
/-- a temporary tag becomes the slot's -/
theorem kept_retag {p : Addr} {i j : Nat} (hp : st.ow p = some (.slot i)) : Kept st.hm (st.tag p (some (.slot j))).hm (Al S st) (Al S (st.tag p (some (.slot j)))) st.H (st.tag p (some (.slot j))).H :=
  ⟨fun a o ha h => ⟨h, ha.1, by rw [tag_ne (fun e => by rw [e] at ha; rw [ha.2] at hp; cases hp)]; exact ha.2⟩, fun _ _ _ h => h, List.prefix_refl _⟩
theorem SRel.retag {σ : L2.St} {ρ : List Sl} {p : Addr} {i j : Nat} (r : SRel T K S st σ ρ) (hp : st.ow p = some (.slot i)) (hno : ∀ (k : Nat) (a : Addr), σ[k]? = some (some (V.ref a)) → (∃ ds, ρ[k]? = some (Sl.own ds)) → a ≠ p) : SRel T K S (st.tag p (some (.slot j))) σ ρ where
  len := r.len
  val := fun k d h => by
    obtain ⟨v, h1, h2⟩ := r.val k d h
    exact ⟨v, h1, Rep.keep (kept_retag hp) h2⟩
  own := fun k ds h => by
    obtain ⟨a, vs, h1, h2, h3, h4, h5⟩ := r.own k ds h
    exact ⟨a, vs, h1, h2, by rw [tag_ne (hno k a h1 ⟨ds, h⟩)]; exact h3, h4, Reps.keep (kept_retag hp) h5⟩
theorem evo_retag {p : Addr} {i j : Nat} (hp : st.ow p = some (.slot i)) : Evo st (st.tag p (some (.slot j))) where
  pre := List.prefix_refl _
  keep := fun a o h h' => ⟨h, by rw [tag_ne (fun e => by rw [e, hp] at h'; cases h')]; exact h'⟩
  own := fun a t ht h => by rw [tag_ne (fun e => by rw [e, hp] at h; cases h; cases ht)]; exact h
/-- a new list for the slot i, the others as they are (b: tags back) or frozen -/
theorem own_core {σ : L2.St} {ρ' : List Sl} {l : Addr} {vs : List V} {ds : List D} {i : Nat} (ok : GOk T K S st) (ok' : GOk T K S st1) (ev : Evo st st1) (sr : SRel T K S st1 σ ρ') (hn : st.H l = none) (hpr : ∀ (k : Nat) (a : Addr) (ds' : List D), ρ'[k]? = some (Sl.own ds') → σ[k]? = some (some (V.ref a)) → st.H a ≠ none)
    (h1 : st1.H l = some (.lst vs)) (h2 : st1.ow l = some (.slot 0)) (r1 : RepsS T K S st1 vs ds) (hi : i < ρ'.length) :
    ∃ st', st'.H = st1.H ∧ st'.g = st1.g ∧ GOk T K S st' ∧ Evo st st' ∧ SRel T K S st' (σ.set i (some (.ref l))) (ρ'.set i (.own ds)) := by
  refine ⟨st1.tag l (some (.slot i)), rfl, rfl, ok'.retag h2, ev.trans (evo_retag h2), ?_⟩
  refine SRel.tagged (sr.retag h2 fun k a ha ⟨ds', hd⟩ e => ?_) hi (ok.fr l hn) tag_same h1 (Reps.keep (kept_retag h2) r1)
  subst e
  exact hpr k a ds' hd ha hn
end
theorem own_mono {i : Nat} {fe : EvF} (hl : ListF fe) (D : Ends) (σ : L2.St) (H : Hp) : tS T X.K W (ownF i rd fe) D σ H → tAsg (tEF T X.K W rd fe) (gName i) D σ H := by
  rintro ⟨S, st, ρ, rfl, ok, sr, h⟩
  by_cases hlen : i < ρ.length
  case neg =>
    unfold ownF at h
    rw [if_neg hlen] at h
    exact h.elim
  unfold ownF at h
  rw [if_pos hlen] at h
  refine ⟨S, st.er rd, ρ, rfl, ok.er, sr.erel, ofR_postF ok sr (fun p hp => hl _ _ _ hp) h fun ds g l vs st1 hr ok1 e1 s1 h1 h2 r1 hq => ?_⟩
  have hn : st.H l = none := s1.new_
  have hq : SPost T X.K S W st (.nx ((if Z.D.immAll ds = true then ρ else freeze rd ρ).set i (.own ds)) g) D := hq
  by_cases hm : Z.D.immAll ds = true
  · rw [if_pos hm] at hq
    have hns : ∀ j, st.ow l ≠ some (.slot j) := fun j e => by
      obtain ⟨o, h3, _⟩ := ok.live l _ e
      rw [hn] at h3; cases h3
    obtain ⟨st', hH, hg, ok', ev', sr'⟩ := own_core (i := i) ok (ok.re s1.w ok1) (evo_out ok s1.w) (sr.out ok s1.w) hn (fun k a ds' hd ha => by
      obtain ⟨a', vs', q1, _, _, q4, _⟩ := sr.own k ds' hd
      rw [q1] at ha; cases ha
      rw [q4]; exact fun z => nomatch z) h1 (by rw [out_ns hns]; exact h2) (Reps.imm hm r1) hlen
    have := hq _ st' ok' (hg.trans e1) ev' sr'
    rw [hH] at this
    exact this
  · rw [if_neg hm] at hq
    obtain ⟨st', hH, hg, ok', ev', sr'⟩ := own_core (i := i) ok ok1 (evo_er ok s1.w) (sr.frz ok s1.w) hn (fun k a ds' hd ha => by
      rw [freeze_get] at hd
      cases e : ρ[k]? with
      | none => rw [e] at hd; cases hd
      | some sl =>
        rw [e] at hd
        cases sl with
        | un => cases hd
        | val _ => cases hd
        | own xs =>
          obtain ⟨a', vs', q1, _, _, q4, _⟩ := sr.own k xs e
          rw [q1] at ha; cases ha
          rw [q4]; exact fun z => nomatch z) h1 h2 r1 (by rw [freeze_len]; exact hlen)
    have := hq _ st' ok' (hg.trans e1) ev' sr'
    rw [hH] at this
    exact this
theorem fs_own {i : Nat} {e : Expr} {fe : EvF} {tgt : Expr} (h : PS X (.Assign [tgt] e pos) (tAsg (tEF T X.K W rd fe) (gName i))) (hl : ListF fe) : PS X (.Assign [tgt] e pos) (tS T X.K W (ownF i rd fe)) := PS.mono h (own_mono hl)

/-! ### a, b = e; a, b = x, y -/
abbrev unpF (is : List Nat) (rd : List Nat) (fe : EvF) : SvF := fun ρ g => SR.ofR ρ (fun q => match q.1 with
      | .tup ds => match setSl (after rd q.1 ρ) is ds with
        | some ρ1 => .nx ρ1 q.2
        | none => .bad
      | .lst ds => match setSl (after rd q.1 ρ) is ds with
        | some ρ1 => .nx ρ1 q.2
        | none => .bad
      | _ => .bad) (fe ρ g)
/-- a tuple or a list, told apart into names -/
def gTL (K : PySem.W.Frag) (n : Nat) (t : TGs) : TG := fun v σ H Q => gTup K n t v σ H Q ∨ gLst K n t v σ H Q
theorem pg_TL {n : Nat} {t : TGs} {tgt : Expr} (h1 : PG X tgt (gTup X.K n t)) (h2 : PG X tgt (gLst X.K n t)) : PG X tgt (gTL X.K n t) :=
  ⟨fun pins s σ H v u Q I r h => h.elim (h1.run pins s σ H v u Q I r) (h2.run pins s σ H v u Q I r)⟩
theorem fs_unp {is : List Nat} {e : Expr} {fe : EvF} {tgt : Expr} (h : PS X (.Assign [tgt] e pos) (tAsg (tE T X.K W rd fe) (gTL X.K is.length (gNames is)))) : PS X (.Assign [tgt] e pos) (tS T X.K W (unpF is rd fe)) := by
  refine PS.mono h ?_
  rintro D σ H ⟨S, st, ρ, rfl, ok, sr, h⟩
  refine ⟨S, st.er rd, ρ, rfl, ok.er, sr.erel, ofR_post ok sr h fun p v st1 ok1 e1 s1 r1 h1 => ?_⟩
  obtain ⟨st', hH, hg, ok', ev', sr', r'⟩ := after_ok sr ok s1.w ok1 r1
  rw [← hH]
  split at h1
  · rename_i ds hd
    rw [hd] at r' sr'
    obtain ⟨a, vs, rfl, h3, h4⟩ := r'.tup_
    rw [hd] at h1
    cases hs : setSl (after rd (.tup ds) ρ) is ds with
    | none => rw [hs] at h1; exact h1.elim
    | some ρ1 =>
      rw [hs] at h1
      obtain ⟨e2, l2⟩ := SRel.sets sr' h4 hs
      exact .inl ⟨a, vs, rfl, h3, l2, gNames_of l2 (h1 _ st' ok' (hg.trans e1) ev' e2)⟩
  · rename_i ds hd
    rw [hd] at r' sr'
    obtain ⟨a, vs, rfl, h3, h5, h4⟩ := r'.lst_
    rw [hd] at h1
    cases hs : setSl (after rd (.lst ds) ρ) is ds with
    | none => rw [hs] at h1; exact h1.elim
    | some ρ1 =>
      rw [hs] at h1
      obtain ⟨e2, l2⟩ := SRel.sets sr' h4 hs
      exact .inr ⟨a, vs, rfl, .inl h3, l2, gNames_of l2 (h1 _ st' ok' (hg.trans e1) ev' e2)⟩
  · exact h1.elim
abbrev parF (is : List Nat) (rd : List Nat) (fs : List Sl → G → R (List D × G)) : SvF := fun ρ g => SR.ofR ρ (fun q => match setSl (after rd (.tup q.1) ρ) is q.1 with
      | some ρ1 => .nx ρ1 q.2
      | none => .bad) (fs ρ g)
theorem afters_ok {K : PySem.W.Frag} {S : Addr → Prop} {st st1 : Gh} {σ : L2.St} {ρ : List Sl} {v : List V} {d : List D} (r : SRel T K S st σ ρ) (ok : GOk T K S st) (s : StepW (st.er rd) st1) (ok1 : GOk T K S st1) (rv : RepsS T K S st1 v d) :
    ∃ st', st'.H = st1.H ∧ st'.g = st1.g ∧ GOk T K S st' ∧ Evo st st' ∧ SRel T K S st' σ (after rd (.tup d) ρ) ∧ RepsS T K S st' v d := by
  unfold after
  by_cases hi : (D.tup d).imm = true
  · rw [if_pos hi]
    exact ⟨st.out st1, rfl, rfl, ok.re s ok1, evo_out ok s, r.out ok s, Reps.imm (by simpa [D.imm] using hi) rv⟩
  · rw [if_neg hi]
    exact ⟨st1, rfl, rfl, ok1, evo_er ok s, r.frz ok s, rv⟩
theorem par_core {is : List Nat} {fs : List Sl → G → R (List D × G)} (D : Ends) (σ : L2.St) (H : Hp) : tS T X.K W (parF is rd fs) D σ H → tEs T X.K W rd fs σ H fun vs H1 => vs.length = is.length ∧ D.nx (setσ σ is vs) H1 := by
  rintro ⟨S, st, ρ, rfl, ok, sr, h⟩
  refine ⟨S, st.er rd, ρ, rfl, ok.er, sr.erel, ofR_posts ok sr h fun p v st1 ok1 e1 s1 r1 h1 => ?_⟩
  obtain ⟨st', hH, hg, ok', ev', sr', r'⟩ := afters_ok sr ok s1.w ok1 r1
  rw [← hH]
  cases hs : setSl (after rd (.tup p.1) ρ) is p.1 with
  | none => rw [hs] at h1; exact h1.elim
  | some ρ1 =>
    rw [hs] at h1
    obtain ⟨e2, l2⟩ := SRel.sets sr' r' hs
    exact ⟨l2, h1 _ st' ok' (hg.trans e1) ev' e2⟩
theorem fs_par2 {i j : Nat} {tgt e : Expr} {fs : List Sl → G → R (List D × G)} (h : PS X (.Assign [tgt] e pos) (tPar i j (tEs T X.K W rd fs))) : PS X (.Assign [tgt] e pos) (tS T X.K W (parF [i, j] rd fs)) := by
  refine PS.mono h fun D σ H q => ?_
  obtain ⟨S, st, ρ, e1, ok, er, q⟩ := par_core D σ H q
  refine ⟨S, st, ρ, e1, ok, er, ?_⟩
  revert q
  cases fs ρ st.g with
  | bad => exact fun q => q
  | exc c f g => exact fun q => q
  | ok p =>
    intro q v st' o1 o2 o3 o4
    obtain ⟨l, q⟩ := q v st' o1 o2 o3 o4
    match v, l, q with
    | [a, b], _, q => exact ⟨a, b, rfl, q⟩
theorem fs_par3 {i j l : Nat} {tgt e : Expr} {fs : List Sl → G → R (List D × G)} (h : PS X (.Assign [tgt] e pos) (tPar3 i j l (tEs T X.K W rd fs))) : PS X (.Assign [tgt] e pos) (tS T X.K W (parF [i, j, l] rd fs)) := by
  refine PS.mono h fun D σ H q => ?_
  obtain ⟨S, st, ρ, e1, ok, er, q⟩ := par_core D σ H q
  refine ⟨S, st, ρ, e1, ok, er, ?_⟩
  revert q
  cases fs ρ st.g with
  | bad => exact fun q => q
  | exc c f g => exact fun q => q
  | ok p =>
    intro q v st' o1 o2 o3 o4
    obtain ⟨l, q⟩ := q v st' o1 o2 o3 o4
    match v, l, q with
    | [a, b, c], _, q => exact ⟨a, b, c, rfl, q⟩

/-! ### if, while, for -/
abbrev iteS (rd : List Nat) (fc : EvF) (fa fb : SvF) : SvF := fun ρ g => SR.ofR ρ (fun q => match q.1 with
      | .bl true => fa ρ q.2
      | .bl false => fb ρ q.2
      | _ => .bad) (fc ρ g)
theorem fs_if {c : Expr} {a b : List Stmt} {fc : EvF} {fa fb : SvF} (hc : PT X c (tTest (tE T X.K W rd fc))) (ha : PSs X a (tS T X.K W fa)) (hb : PSs X b (tS T X.K W fb)) : PS X (.If c a b pos) (tS T X.K W (iteS rd fc fa fb)) := by
  refine PS.mono (ps_if hc ha hb) ?_
  rintro D σ H ⟨S, st, ρ, rfl, ok, sr, h⟩
  refine ⟨S, st.er rd, ρ, rfl, ok.er, sr.erel, ofR_post ok sr h fun p v st1 ok1 e1 s1 r1 h1 => ?_⟩
  have ev := evo_out ok s1.w
  split at h1
  · rename_i hd
    rw [hd] at r1
    refine ⟨true, r1.bl_, ?_⟩
    refine iteT ?_
    exact ⟨S, st.out st1, ρ, rfl, ok.re s1.w ok1, sr.out ok s1.w, by show SPost T X.K S W (st.out st1) (fa ρ st1.g) D; rw [e1]; exact h1.evo ev⟩
  · rename_i hd
    rw [hd] at r1
    refine ⟨false, r1.bl_, ?_⟩
    refine iteF ?_
    exact ⟨S, st.out st1, ρ, rfl, ok.re s1.w ok1, sr.out ok s1.w, by show SPost T X.K S W (st.out st1) (fb ρ st1.g) D; rw [e1]; exact h1.evo ev⟩
  · exact h1.elim
theorem fs_while {c : Expr} {body : List Stmt} {fc : EvF} {fb : SvF} (n : Nat) (hp : PassesOwn (model X.prog X.w) X.A X.env X.xe) (hc : PT X c (tTest (tE T X.K W rd fc))) (hb : PSs X body (tS T X.K W fb)) :
    PS X (.While c body [] pos) (tS T X.K W (fun ρ g => evWhl fc fb n ρ g)) := by
  refine PS.mono (ps_while hp hc hb) ?_
  rintro D σ H ⟨S, st0, ρ, rfl, ok, sr, h⟩
  refine ⟨fun m σ H => ∃ st ρ, st.H = H ∧ GOk T X.K S st ∧ Evo st0 st ∧ SRel T X.K S st σ ρ ∧ SPost T X.K S W st (evWhl fc fb m ρ st.g) D, ⟨n, st0, ρ, rfl, ok, Evo.refl _, sr, h⟩, ?_⟩
  rintro m σ H ⟨st, ρ, rfl, ok, ev0, sr, h⟩
  cases m with
  | zero => exact h.elim
  | succ m =>
    refine ⟨S, st.er rd, ρ, rfl, ok.er, sr.erel, ofR_post (f := fun q => match q.1 with
      | .bl true => match fb ρ q.2 with
        | .nx ρ1 g1 => evWhl fc fb m ρ1 g1
        | .ct ρ1 g1 => evWhl fc fb m ρ1 g1
        | .bk ρ1 g1 => .nx ρ1 g1
        | r => r
      | .bl false => .nx ρ q.2
      | _ => .bad) ok sr h fun p v st1 ok1 e1 s1 r1 h1 => ?_⟩
    have ev := evo_out ok s1.w
    split at h1
    · rename_i hd
      rw [hd] at r1
      refine ⟨true, r1.bl_, ?_⟩
      refine iteT ?_
      refine ⟨fun σ' H' => ∃ st' ρ', st'.H = H' ∧ GOk T X.K S st' ∧ Evo st0 st' ∧ SRel T X.K S st' σ' ρ' ∧ SPost T X.K S W st' (evWhl fc fb m ρ' st'.g) D, fun σ' H' q => ⟨m, Nat.lt_succ_self m, q⟩, ?_⟩
      refine ⟨S, st.out st1, ρ, rfl, ok.re s1.w ok1, sr.out ok s1.w, ?_⟩
      show SPost T X.K S W (st.out st1) (fb ρ st1.g) _
      rw [e1]
      cases hf : fb ρ p.2 with
      | nx ρ1 g1 =>
        rw [hf] at h1
        intro σ' st' ok' e' ev' sr'
        exact ⟨st', ρ1, rfl, ok', (ev0.trans ev).trans ev', sr', by rw [e']; exact (h1.evo (ev.trans ev'))⟩
      | ct ρ1 g1 =>
        rw [hf] at h1
        intro σ' st' ok' e' ev' sr'
        exact ⟨st', ρ1, rfl, ok', (ev0.trans ev).trans ev', sr', by rw [e']; exact (h1.evo (ev.trans ev'))⟩
      | bk ρ1 g1 =>
        rw [hf] at h1
        intro σ' st' ok' e' ev' sr'
        exact h1 σ' st' ok' e' (ev.trans ev') sr'
      | rt d g1 =>
        rw [hf] at h1
        intro v' st' ok' e' ev' r'
        exact h1 v' st' ok' e' (ev.trans ev') r'
      | exc cc fs ρ1 g1 =>
        rw [hf] at h1
        intro cv dd σ' st' ok' e' ev' sr' x
        exact h1 cv dd σ' st' ok' e' (ev.trans ev') sr' x
      | bad => rw [hf] at h1; exact h1
    · rename_i hd
      rw [hd] at r1
      refine ⟨false, r1.bl_, ?_⟩
      refine iteF ?_
      exact h1 σ (st.out st1) (ok.re s1.w ok1) e1 ev (sr.out ok s1.w)
    · exact h1.elim
abbrev forF (k : Ik) (rd : List Nat) (fs : List Sl → G → R (List D × G)) (tg : Tg) (fb : SvF) : SvF := fun ρ g => SR.ofR ρ (fun q => match k.items q.1 with
      | some xs => evFor tg fb xs (freeze rd ρ) q.2
      | none => .bad) (fs ρ g)
theorem fs_for {iter tgt : Expr} {body : List Stmt} {k : Ik} {fs : List Sl → G → R (List D × G)} {tg : Tg} {fb : SvF} (hp : PassesOwn (model X.prog X.w) X.A X.env X.xe) (hc : X.calm = true) (hi : PI X tgt iter (tI T X.K W rd fs k)) (hg : PG X tgt (gZ X.K tg)) (hb : PSs X body (tS T X.K W fb))
    (hs : ∀ x, foldedSetIterable iter X.env x = pure x) : PS X (.For tgt iter body [] pos) (tS T X.K W (forF k rd fs tg fb)) := by
  refine PS.mono (ps_for hp hc hi hg hb hs) ?_
  rintro D σ H ⟨S, st0, ρ, rfl, ok0, sr0, h⟩
  refine ⟨S, st0.er rd, ρ, rfl, ok0.er, sr0.erel, ?_⟩
  cases hr : fs ρ st0.g with
  | bad =>
    have h : SPost T X.K S W st0 (SR.ofR ρ _ (fs ρ st0.g)) D := h
    rw [hr] at h; exact h.elim
  | exc c f g' =>
    have h : SPost T X.K S W st0 (SR.ofR ρ _ (fs ρ st0.g)) D := h
    rw [hr] at h
    have hr' : fs ρ (st0.er rd).g = .exc c f g' := hr
    rw [hr']
    intro cv dd st' ok' e' s' ⟨C, h1, h2, h3⟩
    exact h cv dd σ (st0.out st') (ok0.re s'.w ok') e' (evo_out ok0 s'.w) (sr0.out ok0 s'.w) ⟨C, h1, h2, RepX.imm h3⟩
  | ok p =>
    have h : SPost T X.K S W st0 (SR.ofR ρ _ (fs ρ st0.g)) D := h
    rw [hr] at h
    have hr' : fs ρ (st0.er rd).g = .ok p := hr
    rw [hr']
    dsimp only [SR.ofR] at h ⊢
    cases hk : k.items p.1 with
    | none => rw [hk] at h; exact h.elim
    | some xs =>
      rw [hk] at h
      dsimp only
      intro J st1 ok1 e1 s1 it
      have ev1 := evo_er ok0 s1.w
      refine ⟨fun i m σ H => m = xs.length - i ∧ i ≤ xs.length ∧ ∃ st ρ, st.H = H ∧ GOk T X.K S st ∧ Evo st1 st ∧ SRel T X.K S st σ ρ ∧ SPost T X.K S W st (evFor tg fb (xs.drop i) ρ st.g) D, ⟨xs.length, by simp, Nat.zero_le _, st1, freeze rd ρ, rfl, ok1, Evo.refl _, sr0.frz ok0 s1.w, ?_⟩, ?_⟩
      · rw [e1]; exact h.evo ev1
      · rintro i m σ H ⟨rfl, hile, st, ρ2, rfl, ok, ev, sr, h⟩
        by_cases hlt : i < xs.length
        · refine .inr ⟨it.go st i ev ok hlt, fun σ' H' => ∃ st' ρ', st'.H = H' ∧ GOk T X.K S st' ∧ Evo st1 st' ∧ SRel T X.K S st' σ' ρ' ∧ SPost T X.K S W st' (evFor tg fb (xs.drop (i + 1)) ρ' st'.g) D, fun σ' H' q => ⟨xs.length - (i + 1), by omega, rfl, hlt, q⟩, fun x H' y => ?_⟩
          obtain ⟨st2, d, rfl, ok2, g2, s2, hd, rx⟩ := it.yld st i x H' ev ok hlt y
          have hdrop : xs.drop i = d :: xs.drop (i + 1) := by
            rw [List.drop_eq_getElem_cons hlt]
            rw [List.getElem?_eq_getElem hlt] at hd
            cases hd; rfl
          rw [hdrop] at h
          have h : SPost T X.K S W st (match tg.bind d ρ2 with
            | some ρ1 => match fb ρ1 st.g with
              | .nx ρ2 g2 => evFor tg fb (xs.drop (i + 1)) ρ2 g2
              | .ct ρ2 g2 => evFor tg fb (xs.drop (i + 1)) ρ2 g2
              | .bk ρ2 g2 => .nx ρ2 g2
              | r => r
            | none => .bad) D := h
          cases hb : tg.bind d ρ2 with
          | none => rw [hb] at h; exact h.elim
          | some ρ3 =>
            rw [hb] at h
            dsimp only at h
            have sr2 : SRel T X.K S st2 σ ρ2 := sr.evo ok s2.evo fun a j hh => s2.slot a j hh
            refine gZ_ofS sr2 rx hb fun vs sr3 => ?_
            refine ⟨S, st2, ρ3, rfl, ok2, sr3, ?_⟩
            rw [g2]
            have ev2 := s2.evo
            cases hf : fb ρ3 st.g with
            | nx ρ4 g4 =>
              rw [hf] at h
              intro σ' st' ok' e' ev' sr'
              exact ⟨st', ρ4, rfl, ok', (ev.trans ev2).trans ev', sr', by rw [e']; exact h.evo (ev2.trans ev')⟩
            | ct ρ4 g4 =>
              rw [hf] at h
              intro σ' st' ok' e' ev' sr'
              exact ⟨st', ρ4, rfl, ok', (ev.trans ev2).trans ev', sr', by rw [e']; exact h.evo (ev2.trans ev')⟩
            | bk ρ4 g4 =>
              rw [hf] at h
              intro σ' st' ok' e' ev' sr'
              exact h σ' st' ok' e' (ev2.trans ev') sr'
            | rt d4 g4 =>
              rw [hf] at h
              intro v' st' ok' e' ev' r'
              exact h v' st' ok' e' (ev2.trans ev') r'
            | exc cc f4 ρ4 g4 =>
              rw [hf] at h
              intro cv dd σ' st' ok' e' ev' sr' x
              exact h cv dd σ' st' ok' e' (ev2.trans ev') sr' x
            | bad => rw [hf] at h; exact h
        · have hie : i = xs.length := by omega
          subst hie
          refine .inl ⟨it.stop st ev ok, ?_⟩
          rw [List.drop_length] at h
          exact h σ st ok rfl (Evo.refl _) sr
end
end Z

set_option Elab.async false
set_option linter.all false
set_option maxRecDepth 100000
set_option maxHeartbeats 4000000
/-! Z12: stores, new ambient objects, raise. -/
namespace Z
open PySem PySem.Spec PyProof.Rows L2

section
variable {T : Tb} {K : PySem.W.Frag} {S : Addr → Prop} {st : Gh}
theorem evo_put (ok : GOk T K S st) {p : Addr} {o : HO} {t : Tag} (hp : st.ow p = some t) : Evo st (st.put p o) where
  pre := List.prefix_refl _
  keep := fun a u h h' => by
    have ne : a ≠ p := fun e => by rw [e, hp] at h'; cases h'
    exact ⟨by show upd st.H p o a = _; rw [upd_ne ne]; exact h, h'⟩
  own := fun a t _ h => h
/-- the slot's own list is changed -/
theorem SRel.put {σ : L2.St} {ρ : List Sl} {i : Nat} {a : Addr} {vs : List V} {ds ds0 : List D} (r : SRel T K S st σ ρ) (ok : GOk T K S st) (h0 : ρ[i]? = some (.own ds0)) (ha : σ[i]? = some (some (.ref a))) (hS : S a) (ht : st.ow a = some (.slot i)) (rs : RepsS T K S st vs ds) :
    SRel T K S (st.put a (.lst vs)) σ (ρ.set i (.own ds)) where
  len := by rw [List.length_set]; exact r.len
  val := fun j x h => by
    by_cases e : i = j
    · subst e
      rw [List.getElem?_set_self (List.getElem?_eq_some_iff.mp h0).1] at h; cases h
    · rw [List.getElem?_set_ne e] at h
      obtain ⟨v, h1, h2⟩ := r.val j x h
      exact ⟨v, h1, Rep.keep (kept_put ok ht) h2⟩
  own := fun j x h => by
    by_cases e : i = j
    · subst e
      rw [List.getElem?_set_self (List.getElem?_eq_some_iff.mp h0).1] at h
      cases h
      exact ⟨a, vs, ha, hS, ht, upd_same, Reps.keep (kept_put ok ht) rs⟩
    · rw [List.getElem?_set_ne e] at h
      obtain ⟨b, ws, h1, h2, h3, h4, h5⟩ := r.own j x h
      refine ⟨b, ws, h1, h2, h3, ?_, Reps.keep (kept_put ok ht) h5⟩
      show upd st.H a _ b = _
      rw [upd_ne (fun z => by rw [z, ht] at h3; cases h3; exact e rfl)]
      exact h4
theorem after_own {rd : List Nat} {d : D} {ρ : List Sl} {i : Nat} {ds : List D} (h : (after rd d ρ)[i]? = some (.own ds)) : ρ[i]? = some (.own ds) := by
  unfold after at h
  split at h
  · exact h
  · rw [freeze_get] at h
    cases e : ρ[i]? with
    | none => rw [e] at h; cases h
    | some s =>
      rw [e] at h
      cases s with
      | un => cases h
      | val _ => cases h
      | own xs =>
        simp only [Option.map_some] at h
        split at h
        · cases h
        · cases h; rfl
end
section
variable {X : Cx} {T : Tb} {W : WX} {rd : List Nat} {pos : Pos}
/-! ### x.append(e), x.extend(e) -/
abbrev appF (i : Nat) (rd : List Nat) (fe : EvF) : SvF := fun ρ g => SR.ofR ρ (fun q => match (after rd q.1 ρ)[i]? with
      | some (.own ds) => if ds.length < sizeLine then .nx ((after rd q.1 ρ).set i (.own (ds ++ [q.1]))) q.2 else .bad
      | _ => .bad) (fe ρ g)
/-- what such a call does, in whichever frame -/
theorem fs_app {i : Nat} {o e : Expr} {apos cpos : Pos} {fe : EvF} (ho : PE X o (tVar i)) (he : PE X e (tE T X.K W rd fe)) (hst : starEach [e] X.env = (false, eval e X.env) :: starEach [] X.env) (hbase : attributeBase o "append" X.env (eval o X.env) = eval o X.env)
    (hline : (apos.endLine == cpos.line) = true) (hsw : swapsWith (.Call (.Attribute o "append" apos) [e] [] cpos) none pos.line X.env = pure false)
    (hfew : ((backTo cpos (starEach [e] X.env)).all (fun x => !x.1) && (backToKw cpos (keywordEach [] X.env)).all (fun x => x.1.isSome)
      && decide ([e].length + ([] : List Keyword).length + (if ([] : List Keyword).isEmpty then 0 else 1) < 30)) = true) :
    PS X (.Expr (.Call (.Attribute o "append" apos) [e] [] cpos) pos) (tS T X.K W (fun ρ g => match ρ[i]? with | some (.own _) => appF i rd fe ρ g | _ => .bad)) := by
  refine PS.mono (ps_expr (pe_bm PySem.F.plainAttrs_list PySem.F.slot_list_append PySem.F.type_list_append mt_append ho (pa_cons he pa_nil hst) hbase hfew hline hst) hsw) ?_
  rintro D σ H ⟨S, st, ρ, rfl, ok, sr, h⟩
  dsimp only at h
  cases h0 : ρ[i]? with
  | none => rw [h0] at h; exact h.elim
  | some s0 =>
    rw [h0] at h
    cases s0 with
    | un => exact h.elim
    | val _ => exact h.elim
    | own ds0 =>
      obtain ⟨a0, vs0, q1, q2, q3, q4, q5⟩ := sr.own i ds0 h0
      refine ⟨.ref a0, q1, .inl ⟨rfl, vs0, .inl (.inl q4)⟩, ?_⟩
      refine ⟨S, st.er rd, ρ, rfl, ok.er, sr.erel, ofR_post (f := fun q => match (after rd q.1 ρ)[i]? with
        | some (.own ds) => if ds.length < sizeLine then .nx ((after rd q.1 ρ).set i (.own (ds ++ [q.1]))) q.2 else .bad
        | _ => .bad) ok sr h fun p v st1 ok1 e1 s1 r1 h1 => ?_⟩
      obtain ⟨st', hH, hg, ok', ev', sr', r'⟩ := after_ok sr ok s1.w ok1 r1
      show rAppend (.ref a0) [v] st1.H fun _ H1 => D.nx σ H1
      rw [← hH]
      split at h1
      · rename_i ds hd
        have hd0 := after_own hd
        rw [h0] at hd0
        cases hd0
        obtain ⟨a, vs, w1, w2, w3, w4, w5⟩ := sr'.own i ds0 hd
        rw [q1] at w1; cases w1
        split at h1
        · rename_i hz
          refine ⟨a0, vs, v, rfl, rfl, w4, by rw [Reps.length w5]; exact hz, ?_⟩
          exact h1 σ (st'.put a0 (.lst (vs ++ [v]))) (ok'.put w3) (hg.trans e1) (ev'.trans (evo_put ok' w3)) (sr'.put ok' hd q1 w2 w3 (Reps.append w5 (.cons r' .nil)))
        · exact h1.elim
      · exact h1.elim
abbrev extF (i : Nat) (rd : List Nat) (fe : EvF) : SvF := fun ρ g => SR.ofR ρ (fun q => match q.1 with
      | .lst xs => match (after rd q.1 ρ)[i]? with
        | some (.own ds) => if ds.length + xs.length ≤ sizeLine then .nx ((after rd q.1 ρ).set i (.own (ds ++ xs))) q.2 else .bad
        | _ => .bad
      | _ => .bad) (fe ρ g)
theorem fs_ext {i : Nat} {o e : Expr} {apos cpos : Pos} {fe : EvF} (ho : PE X o (tVar i)) (he : PE X e (tE T X.K W rd fe)) (hst : starEach [e] X.env = (false, eval e X.env) :: starEach [] X.env) (hbase : attributeBase o "extend" X.env (eval o X.env) = eval o X.env)
    (hline : (apos.endLine == cpos.line) = true) (hsw : swapsWith (.Call (.Attribute o "extend" apos) [e] [] cpos) none pos.line X.env = pure false)
    (hfew : ((backTo cpos (starEach [e] X.env)).all (fun x => !x.1) && (backToKw cpos (keywordEach [] X.env)).all (fun x => x.1.isSome)
      && decide ([e].length + ([] : List Keyword).length + (if ([] : List Keyword).isEmpty then 0 else 1) < 30)) = true) :
    PS X (.Expr (.Call (.Attribute o "extend" apos) [e] [] cpos) pos) (tS T X.K W (fun ρ g => match ρ[i]? with | some (.own _) => extF i rd fe ρ g | _ => .bad)) := by
  refine PS.mono (ps_expr (pe_bm PySem.F.plainAttrs_list PySem.F.slot_list_extend PySem.F.type_list_extend mt_extend ho (pa_cons he pa_nil hst) hbase hfew hline hst) hsw) ?_
  rintro D σ H ⟨S, st, ρ, rfl, ok, sr, h⟩
  dsimp only at h
  cases h0 : ρ[i]? with
  | none => rw [h0] at h; exact h.elim
  | some s0 =>
    rw [h0] at h
    cases s0 with
    | un => exact h.elim
    | val _ => exact h.elim
    | own ds0 =>
      obtain ⟨a0, vs0, q1, q2, q3, q4, q5⟩ := sr.own i ds0 h0
      refine ⟨.ref a0, q1, .inl ⟨rfl, vs0, .inl (.inl q4)⟩, ?_⟩
      refine ⟨S, st.er rd, ρ, rfl, ok.er, sr.erel, ofR_post (f := fun q => match q.1 with
        | .lst xs => match (after rd q.1 ρ)[i]? with
          | some (.own ds) => if ds.length + xs.length ≤ sizeLine then .nx ((after rd q.1 ρ).set i (.own (ds ++ xs))) q.2 else .bad
          | _ => .bad
        | _ => .bad) ok sr h fun p v st1 ok1 e1 s1 r1 h1 => ?_⟩
      obtain ⟨st', hH, hg, ok', ev', sr', r'⟩ := after_ok sr ok s1.w ok1 r1
      show rExtend (.ref a0) [v] st1.H fun _ H1 => D.nx σ H1
      rw [← hH]
      split at h1
      · rename_i xs hx
        split at h1
        · rename_i ds hd
          have hd0 := after_own hd
          rw [h0] at hd0
          cases hd0
          obtain ⟨a, vs, w1, w2, w3, w4, w5⟩ := sr'.own i ds0 hd
          rw [q1] at w1; cases w1
          rw [hx] at r'
          obtain ⟨b, ws, rfl, y1, y2, y3⟩ := r'.lst'
          split at h1
          · rename_i hz
            refine ⟨a0, b, vs, ws, rfl, rfl, w4, y1, by rw [Reps.length w5, Reps.length y3]; exact hz, ?_⟩
            exact h1 σ (st'.put a0 (.lst (vs ++ ws))) (ok'.put w3) (hg.trans e1) (ev'.trans (evo_put ok' w3)) (sr'.put ok' hd q1 w2 w3 (Reps.append w5 y3))
          · exact h1.elim
        · exact h1.elim
      · exact h1.elim

/-! ### x += e -/
abbrev augF (i : Nat) (sem : D → D → Option D) (rd : List Nat) (fe : EvF) : SvF := fun ρ g => match ρ[i]? with
    | some (.val d0) => SR.ofR ρ (fun q => match sem d0 q.1 with
      | some d => .nx ((after rd d ρ).set i (.val d)) q.2
      | none => .bad) (fe ρ g)
    | _ => .bad
theorem fs_aug {i : Nat} {e : Expr} {fe : EvF} {tgt : Expr} {op : Operator} {r : R2} {sem : D → D → Option D} (h : PS X (.AugAssign tgt op e pos) (tAug i (tE T X.K W rd fe) r)) (hs : PrimR T X.K r sem) (hi : ∀ x y d, sem x y = some d → x.imm = true) : PS X (.AugAssign tgt op e pos) (tS T X.K W (augF i sem rd fe)) := by
  refine PS.mono h ?_
  rintro D σ H ⟨S, st, ρ, rfl, ok, sr, h⟩
  unfold augF at h
  cases h0 : ρ[i]? with
  | none => rw [h0] at h; exact h.elim
  | some s0 =>
    rw [h0] at h
    cases s0 with
    | un => exact h.elim
    | own _ => exact h.elim
    | val d0 =>
      dsimp only at h
      obtain ⟨x, hx, rx⟩ := sr.val i d0 h0
      refine ⟨x, hx, S, st.er rd, ρ, rfl, ok.er, sr.erel, ofR_post ok sr h fun p v st1 ok1 e1 s1 r1 h1 => ?_⟩
      cases hq : sem d0 p.1 with
      | none => rw [hq] at h1; exact h1.elim
      | some d =>
        rw [hq] at h1
        have rx1 : RepS T X.K S st1 x d0 := Rep.keep ((evo_er ok s1.w).kept ok) rx
        refine hs S st1 x v d0 p.1 d _ ok1 rx1 r1 hq fun z st2 ok2 e2 s2 r2 => ?_
        obtain ⟨st', hH, hg, ok', ev', sr', r'⟩ := after_ok sr ok (s1.trans s2).w ok2 r2
        rw [← hH]
        exact h1 _ st' ok' ((hg.trans e2).trans e1) ev' (sr'.evo_val r')

/-! ### raise -/
theorem fs_raise {e : Expr} {c : Nat} {C : Addr} (hc : X.calm = true) (tk : Takes X W) (he : PMk X e (fun _ H Q => Q (.ref C) none H)) (hC : T.cls c = some C) : PS X (.Raise (some e) none pos) (tS T X.K W fun ρ g => .exc c [] ρ g) := by
  refine PS.mono (ps_raise hc tk he) ?_
  rintro D σ H ⟨S, st, ρ, rfl, ok, sr, h⟩
  exact h (.ref C) none σ st ok rfl (Evo.refl _) sr ⟨C, hC, rfl, .none⟩

/-! ### stores into ambient objects -/
abbrev hsetF (fe : EvF) (key : Str) (fv : EvF) : SvF := fun ρ g => SR.ofR ρ (fun x => SR.ofR ρ (fun y => match y.1 with
      | .hnd k => match oget y.2 k key with
        | some (.imm _) => if x.1.imm = true then .nx ρ (oput y.2 k key (.imm x.1)) else .bad
        | _ => .bad
      | _ => .bad) (fe ρ x.2)) (fv ρ g)
theorem er_nil {st : Gh} : st.er [] = st := by
  unfold Gh.er
  obtain ⟨H, hm, ow, g⟩ := st
  congr
  funext a
  dsimp only
  cases ow a with
  | none => rfl
  | some t => cases t <;> rfl
theorem fs_hset {o i v : Expr} {tgt : Expr} {fe fv : EvF} {key : Str} (h : PS X (.Assign [tgt] v pos) (sDPut (tE T X.K W [] fe) (tC (.str key)) (tE T X.K W [] fv))) : PS X (.Assign [tgt] v pos) (tS T X.K W (hsetF fe key fv)) := by
  refine PS.mono h ?_
  rintro D σ H ⟨S, st, ρ, rfl, ok, sr, h⟩
  refine ⟨S, st.er [], ρ, rfl, ok.er, sr.erel, ofR_post ok sr h fun p v st1 ok1 e1 s1 r1 h1 => ?_⟩
  have ok2 := ok.re s1.w ok1
  have sr2 := sr.out ok s1.w
  have ev2 := evo_out ok s1.w
  have h1 := h1.evo ev2
  refine ⟨S, (st.out st1).er [], ρ, rfl, ok2.er, sr2.erel, ?_⟩
  show post T X.K S W σ _ (fe ρ st1.g) _
  rw [e1]
  refine ofR_post ok2 sr2 h1 fun q u st3 ok3 e3 s3 r3 h3 => ?_
  split at h3
  · rename_i k hk
    rw [hk] at r3
    split at h3
    · rename_i d0 hg
      split at h3
      · rename_i hi
        obtain ⟨ob, ho1, ho2⟩ := oget_some hg
        obtain ⟨a, kvs, q1, q2, q3, q4, q5, q6⟩ := ok3.obj k ob (by rw [e3]; exact ho1)
        cases r3 with
        | hnd hh =>
          rw [q1] at hh; cases hh
          have ok4 := ok2.re s3.w ok3
          have sr4 := sr2.out ok2 s3.w
          have ev4 := evo_out ok2 s3.w
          have ha4 : ((st.out st1).out st3).ow a = some (.obj k) := by rw [out_ns (out_objE ok2 s3.w q2 rfl)]; exact q2
          have q4' := FldsR.re ok2 s3.w q4
          have rv : RepS T X.K S ((st.out st1).out st3) v p.1 := Rep.imm hi (Rep.keep (s3.kept ok2.er) (Rep.imm (A' := Al S ((st.out st1).er [])) hi r1))
          refine ⟨a, _, rfl, DPut.k (k := Sum.inr key) q3 (by rw [q4.length]; exact Nat.lt_of_le_of_lt q5 (by decide)), ?_⟩
          have ok5 := GOk.setImm (st := (st.out st1).out st3) ok4 hi rv (by show st3.g[k]? = _; rw [e3]; exact ho1) ho2 q1 ha4 q3 q4'
          refine h3 σ _ ok5 (by show oput st3.g _ _ _ = _; rw [e3]) (ev4.trans (evo_putG ok4 ha4)) ?_
          refine sr4.evo ok4 (evo_putG ok4 ha4) fun b j hb => ⟨hb, ?_⟩
          show upd _ a _ b = _
          rw [upd_ne (fun z => by rw [z, ha4] at hb; cases hb)]
      · exact h3.elim
    · exact h3.elim
  · exact h3.elim
end
end Z

set_option Elab.async false
set_option linter.all false
set_option maxRecDepth 100000
set_option maxHeartbeats 4000000
/-! Z13: new ambient objects, stores into their lists, the empty dict. -/
namespace Z
open PySem PySem.Spec PyProof.Rows L2

section
variable {T : Tb} {K : PySem.W.Frag} {S : Addr → Prop} {st st1 : Gh}
/-- a new ambient object at p, its own list, if any, at l -/
def lTag (n : Nat) (lo : Option (Addr × Str)) (ow : Addr → Option Tag) (a : Addr) : Option Tag := match lo with
  | some q => if a = q.1 then some (.fld n q.2) else ow a
  | none => ow a
def Gh.addO (st : Gh) (p : Addr) (lo : Option (Addr × Str)) (kvs : List (Key × V)) (o : Obj1) : Gh where
  H := upd st.H p (.dK kvs)
  hm := st.hm ++ [p]
  ow := fun a => if a = p then some (.obj st.hm.length) else lTag st.hm.length lo st.ow a
  g := st.g ++ [o]
structure AddOk (st : Gh) (p : Addr) (lo : Option (Addr × Str)) : Prop where
  p_ : st.ow p = some (.slot 0)
  l_ : ∀ q, lo = some q → st.ow q.1 = some (.slot 0) ∧ q.1 ≠ p
variable {p : Addr} {lo : Option (Addr × Str)} {kvs : List (Key × V)} {o : Obj1}
theorem addO_ow (h : AddOk st p lo) {a : Addr} (ha : st.ow a ≠ some (.slot 0)) : (st.addO p lo kvs o).ow a = st.ow a := by
  show (if a = p then _ else lTag st.hm.length lo st.ow a) = _
  rw [if_neg (fun e => ha (by rw [e]; exact h.p_))]
  unfold lTag
  cases lo with
  | none => rfl
  | some q =>
    dsimp only
    rw [if_neg (fun e => ha (by rw [e]; exact (h.l_ q rfl).1))]
theorem addO_p : (st.addO p lo kvs o).ow p = some (.obj st.hm.length) := if_pos rfl
theorem addO_l {l : Addr} {key : Str} (hne : l ≠ p) : (st.addO p (some (l, key)) kvs o).ow l = some (.fld st.hm.length key) := by
  show (if l = p then _ else lTag st.hm.length (some (l, key)) st.ow l) = _
  rw [if_neg hne]
  exact if_pos rfl
theorem addO_H (h : AddOk st p lo) {a : Addr} (ha : a ≠ p) : (st.addO p lo kvs o).H a = st.H a := upd_ne ha
theorem kept_addO (ok : GOk T K S st) (h : AddOk st p lo) : Kept st.hm (st.addO p lo kvs o).hm (Al S st) (Al S (st.addO p lo kvs o)) st.H (st.addO p lo kvs o).H where
  at_ := fun a u ⟨h1, h2⟩ hu => by
    have e : st.ow a ≠ some (.slot 0) := by rw [h2]; exact fun z => nomatch z
    refine ⟨?_, h1, (addO_ow h e).trans h2⟩
    rw [addO_H h (fun z => by rw [z, h.p_] at h2; cases h2)]; exact hu
  fx := fun a u f hu => by
    have h2 := ok.fixow hu f
    rw [addO_H h (fun z => by rw [z, h.p_] at h2; cases h2)]; exact hu
  pre := ⟨[p], rfl⟩
theorem FldsR.addO (ok : GOk T K S st) (h : AddOk st p lo) {k : Nat} : ∀ {kvs' : List (Key × V)} {o' : Obj1}, FldsR T K S st k kvs' o' → FldsR T K S (st.addO p lo kvs o) k kvs' o'
  | _, _, .nil => .nil
  | _, _, .imm e r rs => .imm e (Rep.keep (kept_addO ok h) r) (FldsR.addO ok h rs)
  | _, _, .own e h1 h2 r rs => .own e (by rw [addO_ow h (by rw [h1]; exact fun z => nomatch z)]; exact h1)
      (by rw [addO_H h (fun z => by rw [z, h.p_] at h1; cases h1)]; exact h2) (Reps.keep (kept_addO ok h) r) (FldsR.addO ok h rs)
theorem GOk.addO (ok : GOk T K S st) (h : AddOk st p lo) (hf : FldsR T K S (st.addO p lo kvs o) st.hm.length kvs o) (hl : o.length ≤ 1000) (hn : (o.map (·.1)).Nodup) : GOk T K S (st.addO p lo kvs o) where
  live := fun a t ht => by
    by_cases e : a = p
    · subst e; exact ⟨_, upd_same, rfl⟩
    · rw [addO_H h e]
      by_cases h0 : st.ow a = some (.slot 0)
      · exact ok.live a _ h0
      · rw [addO_ow h h0] at ht; exact ok.live a t ht
  fr := fun a ha => by
    by_cases e : a = p
    · subst e
      have ha : upd st.H a _ a = none := ha
      rw [upd_same] at ha; cases ha
    · rw [addO_H h e] at ha; exact ok.fr a ha
  len := by show (st.hm ++ [p]).length = (st.g ++ [o]).length; rw [List.length_append, List.length_append, ok.len]; rfl
  obj := fun k ob hk => by
    have hk : (st.g ++ [o])[k]? = some ob := hk
    by_cases e : k < st.g.length
    · rw [List.getElem?_append_left e] at hk
      obtain ⟨a, kvs', h1, h2, h3, h4, h5⟩ := ok.obj k ob hk
      refine ⟨a, kvs', ?_, ?_, ?_, FldsR.addO ok h h4, h5⟩
      · show (st.hm ++ [p])[k]? = _
        rw [List.getElem?_append_left (by rw [ok.len]; exact e)]; exact h1
      · rw [addO_ow h (by rw [h2]; exact fun z => nomatch z)]; exact h2
      · rw [addO_H h (fun z => by rw [z, h.p_] at h2; cases h2)]; exact h3
    · have e2 : k = st.g.length := by
        have := (List.getElem?_eq_some_iff.mp hk).1
        rw [List.length_append] at this
        simp at this
        omega
      subst e2
      rw [List.getElem?_append_right (Nat.le_refl _), Nat.sub_self] at hk
      cases hk
      refine ⟨p, kvs, ?_, ?_, upd_same, ?_, hl, hn⟩
      · show (st.hm ++ [p])[st.g.length]? = _
        rw [← ok.len, List.getElem?_append_right (Nat.le_refl _), Nat.sub_self]; rfl
      · rw [← ok.len]; exact addO_p
      · rw [← ok.len]; exact hf
  tab := ok.tab.keep (fun a k u h1 h2 => ⟨by rw [addO_H h (fun z => by rw [z, h.p_] at h1; cases h1)]; exact h2, by rw [addO_ow h (by rw [h1]; exact fun z => nomatch z)]; exact h1⟩) (kept_addO ok h).fx
/-- steps that leave new tagged places -/
structure Step2 (D : Addr → Prop) (st st' : Gh) : Prop where
  pre : st.hm <+: st'.hm
  keep : ∀ a o, st.H a = some o → st.ow a = none → st'.H a = some o ∧ st'.ow a = none
  slot : ∀ a i, st.ow a = some (.slot i) → st'.ow a = some (.slot i) ∧ st'.H a = st.H a
  slot' : ∀ a i, st'.ow a = some (.slot i) → D a ∨ st.ow a = some (.slot i)
  own : ∀ a t, st.ow a = some t → st'.ow a = some t
  new_ : ∀ a, D a → st.H a = none
theorem StepD.to2 {D : Addr} (s : StepD D st st1) : Step2 (· = D) st st1 := ⟨s.pre, s.keep, s.slot, s.slot', s.own, fun a e => by rw [e]; exact s.new_⟩
theorem StepD.two {D D' : Addr} {st2 : Gh} (ok1 : GOk T K S st1) (s : StepD D st st1) (s' : StepD D' st1 st2) : Step2 (fun a => a = D ∨ a = D') st st2 where
  pre := s.pre.trans s'.pre
  keep := fun a o h h' => let ⟨h1, h2⟩ := s.keep a o h h'; s'.keep a o h1 h2
  slot := fun a i h => let ⟨h1, h2⟩ := s.slot a i h; let ⟨h3, h4⟩ := s'.slot a i h1; ⟨h3, h4.trans h2⟩
  slot' := fun a i h => (s'.slot' a i h).elim (fun e => .inl (.inr e)) fun h => (s.slot' a i h).imp .inl id
  own := fun a t h => s'.own a t (s.own a t h)
  new_ := fun a h => by
    rcases h with e | e
    · rw [e]; exact s.new_
    · subst e
      cases e : st.H a with
      | none => rfl
      | some o =>
        cases e2 : st.ow a with
        | none =>
          have := (s.keep a o e e2).1
          rw [s'.new_] at this; cases this
        | some t =>
          obtain ⟨o', h1, _⟩ := ok1.live a t (s.own a t e2)
          rw [s'.new_] at h1; cases h1
theorem Step2.addO {D : Addr → Prop} (ok : GOk T K S st) (s : Step2 D st st1) (h : AddOk st1 p lo) (hp : D p) (hl : ∀ q, lo = some q → D q.1) (hD : ∀ a, D a → a = p ∨ ∃ q, lo = some q ∧ a = q.1) : Step st (st1.addO p lo kvs o) := by
  have off : ∀ a t, st.ow a = some t → a ≠ p ∧ (st1.addO p lo kvs o).ow a = st1.ow a := by
    intro a t ht
    obtain ⟨u, h1, _⟩ := ok.live a t ht
    have e1 : a ≠ p := fun e => by rw [e, s.new_ p hp] at h1; cases h1
    refine ⟨e1, ?_⟩
    show (if a = p then _ else lTag st1.hm.length lo st1.ow a) = _
    rw [if_neg e1]
    unfold lTag
    cases lo with
    | none => rfl
    | some q =>
      dsimp only
      rw [if_neg (fun e => by rw [e, s.new_ _ (hl q rfl)] at h1; cases h1)]
  exact {
    pre := s.pre.trans ⟨[p], rfl⟩
    keep := fun a u h1 h2 => by
      obtain ⟨h3, h4⟩ := s.keep a u h1 h2
      have e : st1.ow a ≠ some (.slot 0) := by rw [h4]; exact fun z => nomatch z
      refine ⟨?_, (addO_ow h e).trans h4⟩
      rw [addO_H h (fun z => by rw [z, h.p_] at h4; cases h4)]; exact h3
    slot := fun a i h1 => by
      obtain ⟨h2, h3⟩ := s.slot a i h1
      obtain ⟨h4, h5⟩ := off a _ h1
      exact ⟨h5.trans h2, (addO_H h h4).trans h3⟩
    slot' := fun a i h1 => by
      by_cases hd : D a
      · exfalso
        rcases hD a hd with e | ⟨q, e1, e2⟩
        · subst e; rw [addO_p] at h1; cases h1
        · obtain ⟨q1, q2⟩ := q
          dsimp only at e2
          subst e1 e2
          rw [addO_l (h.l_ _ rfl).2] at h1; cases h1
      · have e : st1.ow a = some (.slot i) := by
          have e1 : a ≠ p := fun e => hd (by rw [e]; exact hp)
          have h1 : (if a = p then _ else lTag st1.hm.length lo st1.ow a) = some (Tag.slot i) := h1
          rw [if_neg e1] at h1
          unfold lTag at h1
          cases lo with
          | none => exact h1
          | some q =>
            dsimp only at h1
            rw [if_neg (fun e => hd (by rw [e]; exact hl q rfl))] at h1
            exact h1
        exact (s.slot' a i e).resolve_left hd
    own := fun a t h1 => (off a t h1).2.trans (s.own a t h1) }
theorem ERel.tagged (ok : GOk T K S st) {rd : List Nat} {σ : L2.St} {ρ : List Sl} (e : ERel T K S st rd σ ρ) {p : Addr} {o : HO} (hp : st.H p = none) : ERel T K S ((st.put p o).tag p (some (.slot 0))) rd σ ρ :=
  ⟨e.len, fun i d h => let ⟨v, h1, h2⟩ := e.get i d h; ⟨v, h1, Rep.keep (kept_tagged hp) h2⟩⟩
end

/-! ### the keys of a display -/
theorem mergeK_new : ∀ (more acc : List (Key × V)), (∀ k ∈ more.map (·.1), k ∉ acc.map (·.1)) → (more.map (·.1)).Nodup → mergeK acc more = acc ++ more
  | [], acc, _, _ => (List.append_nil acc).symm
  | p :: r, acc, h, nd => by
    rw [List.map_cons] at nd h
    have nd := List.nodup_cons.mp nd
    have hp : p.1 ∉ acc.map (·.1) := h _ List.mem_cons_self
    have e : putK acc p.1 p.2 = acc ++ [p] := by
      unfold putK
      rw [if_neg]
      intro z
      obtain ⟨q, h1, h2⟩ := List.any_eq_true.mp z
      exact hp (List.mem_map.mpr ⟨q, h1, of_decide_eq_true h2⟩)
    show mergeK (putK acc p.1 p.2) r = _
    rw [e, mergeK_new r (acc ++ [p]) (fun k hk z => by
      rw [List.map_append, List.mem_append] at z
      rcases z with z | z
      · exact h k (List.mem_cons_of_mem _ hk) z
      · simp only [List.map_cons, List.map_nil, List.mem_singleton] at z
        subst z; exact nd.1 hk) nd.2, List.append_assoc]
    rfl
theorem nodupS_ok : ∀ {ks : List Str}, nodupS ks = true → ks.Nodup
  | [], _ => .nil
  | k :: ks, h => by
    have h : (!ks.contains k && nodupS ks) = true := h
    rw [Bool.and_eq_true] at h
    refine List.nodup_cons.mpr ⟨fun z => ?_, nodupS_ok h.2⟩
    have : ks.contains k = true := by simpa using z
    rw [this] at h; cases h.1
def kvZ (ks : List Str) (vs : List V) : List (Key × V) := List.zipWith (fun k v => (Sum.inr k, v)) ks vs
theorem kvZ_keys : ∀ {ks : List Str} {vs : List V}, vs.length = ks.length → (kvZ ks vs).map (·.1) = ks.map Sum.inr
  | [], [], _ => rfl
  | k :: ks, v :: vs, h => by
    show Sum.inr k :: (kvZ ks vs).map (·.1) = _
    rw [kvZ_keys (by simpa using h)]; rfl
theorem inr_nodup {ks : List Str} (h : ks.Nodup) : (ks.map (Sum.inr : Str → Key)).Nodup := by
  induction ks with
  | nil => exact .nil
  | cons k ks ih =>
    have h := List.nodup_cons.mp h
    refine List.nodup_cons.mpr ⟨fun z => ?_, ih h.2⟩
    obtain ⟨q, h1, h2⟩ := List.mem_map.mp z
    cases h2; exact h.1 h1
theorem kvZ_merge {ks : List Str} {vs : List V} (h : vs.length = ks.length) (hn : nodupS ks = true) : mergeK [] (kvZ ks vs) = kvZ ks vs :=
  mergeK_new _ [] (fun _ _ z => nomatch z) (by rw [kvZ_keys h]; exact inr_nodup (nodupS_ok hn))
theorem mkFlds_ok {T : Tb} {K : PySem.W.Frag} {S : Addr → Prop} {st : Gh} {k : Nat} : ∀ {ks : List Str} {ds : List D} {vs : List V} {o : Obj1}, mkFlds ks ds = some o → RepsS T K S st vs ds → FldsR T K S st k (kvZ ks vs) o ∧ vs.length = ks.length ∧ o.map (·.1) = ks
  | [], [], _, o, h, .nil => by cases h; exact ⟨.nil, rfl, rfl⟩
  | [], d :: ds, _, o, h, _ => by cases h
  | k :: ks, [], _, o, h, _ => by cases h
  | k :: ks, d :: ds, _, o, h, .cons r rs => by
    unfold mkFlds at h
    by_cases hi : d.imm = true
    · rw [if_pos hi] at h
      cases e : mkFlds ks ds with
      | none => rw [e] at h; cases h
      | some o' =>
        rw [e] at h
        cases h
        obtain ⟨h1, h2, h3⟩ := mkFlds_ok e rs
        exact ⟨.imm hi r h1, by simp [h2], by simp [h3]⟩
    · rw [if_neg hi] at h; cases h

section
variable {X : Cx} {T : Tb} {W : WX} {rd : List Nat} {pos : Pos}
abbrev hnewF (ks : List Str) (fs : List Sl → G → R (List D × G)) : EvF := fun ρ g => (fs ρ g).bind fun q => if nodupS ks = true ∧ ks.length ≤ 15 then match mkFlds ks q.1 with
      | some o => .ok (.hnd q.2.length, q.2 ++ [o])
      | none => .bad
    else .bad
/-- pairs with text keys -/
def PairsF (T : Tb) (K : PySem.W.Frag) (W : WX) (rd : List Nat) (ks : List Str) (trs : List (TE × TE)) (fs : List Sl → G → R (List D × G)) : Prop :=
  ∀ (σ : L2.St) (H : Hp) (Q : List (V × V) → Hp → Prop), tEs T K W rd fs σ H (fun vs H1 => vs.length = ks.length → Q (List.zipWith (fun k v => (V.str k, v)) ks vs) H1) → tPairs trs σ H Q
theorem pairs_nil : PairsF T X.K W rd [] [] (fun _ g => .ok ([], g)) := by
  rintro σ H Q ⟨S, st, ρ, rfl, ok, er, h⟩
  exact h [] st ok rfl (Step.refl _) .nil rfl
theorem pairs_cons {k : Str} {ks : List Str} {fa : EvF} {trs : List (TE × TE)} {fs : List Sl → G → R (List D × G)} (h : PairsF T X.K W rd ks trs fs) : PairsF T X.K W rd (k :: ks) ((tC (.str k), tE T X.K W rd fa) :: trs) (consF fa fs) := by
  rintro σ H Q ⟨S, st, ρ, rfl, ok, er, h0⟩
  refine ⟨S, st, ρ, rfl, ok, er, posts_bind h0 fun p hp v st1 ok1 e1 s1 r1 h1 => ?_⟩
  refine h σ st1.H _ ⟨S, st1, ρ, rfl, ok1, er.step ok s1, ?_⟩
  rw [e1]
  refine posts_binds h1 fun q hq vs st2 ok2 e2 s2 r2 h2 hl => ?_
  exact h2 (v :: vs) st2 ok2 e2 (Step.refl _) (.cons (RepS.step r1 ok1 s2) r2) (by simp [hl])
theorem zip_kv : ∀ {ks : List Str} {vs : List V}, List.zipWith (fun k v => (V.str k, v)) ks vs = (kvZ ks vs).map fun kv => (kV kv.1, kv.2)
  | [], _ => by simp [kvZ]
  | _ :: _, [] => by simp [kvZ]
  | k :: ks, v :: vs => by
    show (V.str k, v) :: List.zipWith (fun k v => (V.str k, v)) ks vs = _
    rw [zip_kv]; rfl
theorem kvZ_len {ks : List Str} {vs : List V} (h : vs.length = ks.length) : (kvZ ks vs).length = ks.length := by
  unfold kvZ
  rw [List.length_zipWith, h, Nat.min_self]
theorem fe_hnew {keys : List (Option Expr)} {values : List Expr} {trs : List (TE × TE)} {ks : List Str} {fs : List Sl → G → R (List D × G)} (h : PE X (.Dict keys values pos) (tDisp trs)) (hp : PairsF T X.K W rd ks trs fs) : PE X (.Dict keys values pos) (tE T X.K W rd (hnewF ks fs)) := by
  refine PE.mono h ?_
  rintro σ H Q ⟨S, st, ρ, rfl, ok, er, h⟩ p hpn
  refine hp σ _ _ ⟨S, (st.put p (.dK [])).tag p (some (.slot 0)), ρ, rfl, ok.tagged hpn, er.tagged ok hpn, ?_⟩
  show posts T X.K S W σ _ (fs ρ st.g) _
  have h : post T X.K S W σ st ((fs ρ st.g).bind fun q => if nodupS ks = true ∧ ks.length ≤ 15 then match mkFlds ks q.1 with
      | some o => .ok (.hnd q.2.length, q.2 ++ [o])
      | none => .bad
    else .bad) Q := h
  have s0 : StepD p st ((st.put p (.dK [])).tag p (some (.slot 0))) := StepD.new ok hpn
  cases hr : fs ρ st.g with
  | bad => rw [hr] at h; exact h
  | exc c f g' =>
    rw [hr] at h
    intro cv dd st' ok' e' s' ⟨C, x1, x2, x3⟩
    have sd := s0.step s'
    have ht : st'.ow p = some (.slot 0) := (s'.slot p 0 tag_same).1
    refine h cv dd (st'.tag p none) (ok'.untag ht) e' (sd.done ok) ⟨C, x1, x2, RepX.keep kept_untag x3⟩
  | ok q =>
    rw [hr] at h
    dsimp only [R.bind] at h
    by_cases hk : nodupS ks = true ∧ ks.length ≤ 15
    case neg => rw [if_neg hk] at h; exact h.elim
    rw [if_pos hk] at h
    cases hm : mkFlds ks q.1 with
    | none => rw [hm] at h; exact h.elim
    | some o =>
      rw [hm] at h
      intro vs st1 ok1 e1 s1 r1 hl
      have sd := s0.step s1
      obtain ⟨ht, hH⟩ := s1.slot p 0 tag_same
      have ao : AddOk st1 p none := ⟨ht, fun _ z => nomatch z⟩
      obtain ⟨f1, f2, f3⟩ := mkFlds_ok (k := st1.hm.length) hm r1
      refine ⟨hH.trans upd_same, kvZ ks vs, zip_kv, by rw [kvZ_len hl]; exact hk.2, ?_⟩
      rw [kvZ_merge hl hk.1]
      have ol : o.length = ks.length := by rw [← f3, List.length_map]
      have ok2 : GOk T X.K S (st1.addO p none (kvZ ks vs) o) := ok1.addO ao (FldsR.addO ok1 ao f1) (by rw [ol]; omega) (by rw [f3]; exact nodupS_ok hk.1)
      refine h (.ref p) (st1.addO p none (kvZ ks vs) o) ok2 (by show st1.g ++ [o] = _; rw [e1]) (sd.to2.addO ok ao rfl (fun _ z => nomatch z) fun a e => .inl e) ?_
      rw [← e1, ← ok1.len]
      exact .hnd (by show (st1.hm ++ [p])[st1.hm.length]? = _; rw [List.getElem?_append_right (Nat.le_refl _), Nat.sub_self]; rfl)

theorem seen_un {rd : List Nat} {m i : Nat} : seen rd (List.replicate m .un) i = none := by
  unfold seen
  rw [List.getElem?_replicate]
  by_cases h : i < m
  · rw [if_pos h]
  · rw [if_neg h]
abbrev hnewLF (k1 k2 k3 : Str) (f1 f2 : EvF) (d3 : D) : EvF := fun ρ g => if nodupS [k1, k2, k3] = true then
      (f1 ρ g).bind fun x => (f2 ρ x.2).bind fun y => match y.1 with
        | .lst ys => if x.1.imm = true ∧ D.immAll ys = true ∧ d3.imm = true then .ok (.hnd y.2.length, y.2 ++ [[(k1, .imm x.1), (k2, .own ys), (k3, .imm d3)]]) else .bad
        | _ => .bad
    else .bad
theorem fe_hnewL {keys : List (Option Expr)} {values : List Expr} {k1 k2 k3 : Str} {f1 f2 : EvF} {d3 : D} (h : PE X (.Dict keys values pos) (tDisp [(tC (.str k1), tE T X.K W rd f1), (tC (.str k2), tEF T X.K W rd f2), (tC (.str k3), tE T X.K W rd fun _ g => .ok (d3, g))])) : PE X (.Dict keys values pos) (tE T X.K W rd (hnewLF k1 k2 k3 f1 f2 d3)) := by
  refine PE.mono h ?_
  rintro σ H Q ⟨S, st, ρ, rfl, ok, er, h⟩ p hpn
  unfold hnewLF at h
  by_cases hk : nodupS [k1, k2, k3] = true
  case neg => rw [if_neg hk] at h; exact h.elim
  rw [if_pos hk] at h
  have s0 : StepD p st ((st.put p (.dK [])).tag p (some (.slot 0))) := StepD.new ok hpn
  have ok0 : GOk T X.K S ((st.put p (.dK [])).tag p (some (.slot 0))) := ok.tagged hpn
  have er0 : ERel T X.K S ((st.put p (.dK [])).tag p (some (.slot 0))) rd σ ρ := er.tagged ok hpn
  refine ⟨S, (st.put p (.dK [])).tag p (some (.slot 0)), ρ, rfl, ok0, er0, ?_⟩
  show post T X.K S W σ _ (f1 ρ st.g) _
  cases hr : f1 ρ st.g with
  | bad => rw [hr] at h; exact h
  | exc c f g' =>
    rw [hr] at h
    intro cv dd st' ok' e' s' ⟨C, x1, x2, x3⟩
    have sd := s0.step s'
    have ht : st'.ow p = some (.slot 0) := (s'.slot p 0 tag_same).1
    refine h cv dd (st'.tag p none) (ok'.untag ht) e' (sd.done ok) ⟨C, x1, x2, RepX.keep kept_untag x3⟩
  | ok x =>
    rw [hr] at h
    dsimp only [R.bind] at h
    intro v1 sta oka ea sa ra
    refine ⟨S, sta, ρ, rfl, oka, er0.step ok0 sa, ?_⟩
    rw [ea]
    have sda := s0.step sa
    obtain ⟨hta, hHa⟩ := sa.slot p 0 tag_same
    cases hr2 : f2 ρ x.2 with
    | bad => rw [hr2] at h; exact h
    | exc c f g' =>
      rw [hr2] at h
      intro cv dd st' ok' e' s' ⟨C, x1, x2, x3⟩
      have sd := sda.step s'
      have ht : st'.ow p = some (.slot 0) := (s'.slot p 0 hta).1
      refine h cv dd (st'.tag p none) (ok'.untag ht) e' (sd.done ok) ⟨C, x1, x2, RepX.keep kept_untag x3⟩
    | ok y =>
      rw [hr2] at h
      obtain ⟨y1, y2⟩ := y
      cases y1 <;> first
        | exact h.elim
        | skip
      rename_i ys
      dsimp only at h
      by_cases hi : x.1.imm = true ∧ Z.D.immAll ys = true ∧ d3.imm = true
      case neg => rw [if_neg hi] at h; exact h.elim
      rw [if_pos hi] at h
      intro l vs st0' ok0' e0' s0' hl1' hl2' r0'
      obtain ⟨hi1, hi2, hi3⟩ := hi
      refine ⟨S, st0', List.replicate σ.length .un, rfl, ok0', ⟨by rw [List.length_replicate], fun i d hs => by rw [seen_un] at hs; cases hs⟩, ?_⟩
      intro v3 st1 ok1 e1 s1' r3
      have s1 := s0'.step s1'
      obtain ⟨hl2, hl1⟩ := s1'.slot l 0 hl2'
      have hl1 := hl1.trans hl1'
      have r1 : RepsS T X.K S st1 vs ys := RepsS.step r0' ok0' s1'
      obtain ⟨ht, hH⟩ := s1.slot p 0 hta
      have hne : l ≠ p := fun e => by
        have := s1.new_
        rw [e, hHa, show ((st.put p (.dK [])).tag p (some (.slot 0))).H p = some (.dK []) from upd_same] at this
        cases this
      have ao : AddOk st1 p (some (l, k2)) := ⟨ht, fun q z => by cases z; exact ⟨hl2, hne⟩⟩
      have rx : RepS T X.K S st1 v1 x.1 := Rep.keep (s1.evo.kept oka) ra
      refine ⟨hH.trans (hHa.trans upd_same), kvZ [k1, k2, k3] [v1, .ref l, v3], rfl, by show 3 ≤ 15; decide, ?_⟩
      rw [kvZ_merge rfl hk]
      let o : Obj1 := [(k1, .imm x.1), (k2, .own ys), (k3, .imm d3)]
      have ff : FldsR T X.K S (st1.addO p (some (l, k2)) (kvZ [k1, k2, k3] [v1, .ref l, v3]) o) st1.hm.length (kvZ [k1, k2, k3] [v1, .ref l, v3]) o :=
        .imm hi1 (Rep.keep (kept_addO ok1 ao) rx) (.own hi2 (addO_l hne) (by rw [addO_H ao hne]; exact hl1) (Reps.keep (kept_addO ok1 ao) r1) (.imm hi3 (Rep.keep (kept_addO ok1 ao) r3) .nil))
      have ok2 := ok1.addO ao ff (by show 3 ≤ 1000; decide) (nodupS_ok hk)
      have st2 : Step2 (fun a => a = p ∨ a = l) st st1 := StepD.two oka sda s1
      have e1 : st1.g = y2 := e1.trans e0'
      refine h (.ref p) (st1.addO p (some (l, k2)) (kvZ [k1, k2, k3] [v1, .ref l, v3]) o) ok2 (by show st1.g ++ [o] = _; rw [e1]) (st2.addO ok ao (.inl rfl) (fun q z => by cases z; exact .inr rfl) fun a e => e.elim .inl fun e => .inr ⟨_, rfl, e⟩) ?_
      show Rep _ _ _ _ _ _ (.hnd y2.length)
      rw [← e1, ← ok1.len]
      exact .hnd (by show (st1.hm ++ [p])[st1.hm.length]? = _; rw [List.getElem?_append_right (Nat.le_refl _), Nat.sub_self]; rfl)

/-- {} -/
theorem fe_dct0 : PE X (.Dict [] [] pos) (tE T X.K W rd fun _ g => .ok (.dct [], g)) := by
  refine PE.mono pe_dnewK ?_
  rintro σ H Q ⟨S, st, ρ, rfl, ok, er, h⟩ p hp
  exact h (.ref p) (st.lay p (.dK [])) (ok.lay hp) rfl (Gh.lay_step ok hp) (.dct (.inl upd_same) (ok.alnew hp) .nil)

abbrev hsetixF (fe : EvF) (key : Str) (j : Nat) (fv : EvF) : SvF := fun ρ g => SR.ofR ρ (fun x => SR.ofR ρ (fun y => match y.1 with
      | .hnd k => match oget y.2 k key, seen [] ρ j with
        | some (.own ds), some (.int n) => match place ds.length n with
            | some m => if x.1.imm = true then .nx ρ (oput y.2 k key (.own (ds.set m x.1))) else .bad
            | none => .bad
        | _, _ => .bad
      | _ => .bad) (fe ρ x.2)) (fv ρ g)
theorem immAll_set {x : D} (hx : x.imm = true) : ∀ {ds : List D} {m : Nat}, D.immAll ds = true → D.immAll (ds.set m x) = true
  | [], _, _ => rfl
  | d :: ds, 0, h => by
    have h : (d.imm && D.immAll ds) = true := h
    rw [Bool.and_eq_true] at h
    show (x.imm && D.immAll ds) = true
    rw [hx, h.2]; rfl
  | d :: ds, m + 1, h => by
    have h : (d.imm && D.immAll ds) = true := h
    rw [Bool.and_eq_true] at h
    show (d.imm && D.immAll (ds.set m x)) = true
    rw [h.1, immAll_set hx h.2]; rfl
theorem FldsR.immO {K : PySem.W.Frag} {S : Addr → Prop} {st : Gh} {k : Nat} {key : Str} {ds : List D} : ∀ {kvs : List (Key × V)} {o : Obj1}, FldsR T K S st k kvs o → o.lookup key = some (.own ds) → D.immAll ds = true
  | _, _, .nil, h => by cases h
  | _, _, .imm (n := n) _ _ rs, h => by
    rw [List.lookup_cons] at h
    split at h
    · cases h
    · exact FldsR.immO rs h
  | _, _, .own (n := n) e _ _ _ rs, h => by
    rw [List.lookup_cons] at h
    split at h
    · cases h; exact e
    · exact FldsR.immO rs h
/-! x[i] = e, x.insert(i, e) of an own list -/
abbrev setixF (i : Nat) (f1 fv : EvF) : SvF := fun ρ g => match ρ[i]? with
    | some (.own ds) => SR.ofR ρ (fun q => SR.ofR ρ (fun r => match r.1 with
      | .int n => match place ds.length n with
        | some m => if q.1.imm = true then .nx (ρ.set i (.own (ds.set m q.1))) r.2 else .bad
        | none => .bad
      | _ => .bad) (f1 ρ q.2)) (fv ρ g)
    | _ => .bad
theorem fs_setix {v : Expr} {tgt : Expr} {rd : List Nat} {f1 fv : EvF} {i : Nat} (h : PS X (.Assign [tgt] v pos) (tAsg (tE T X.K W rd fv) (gSub (tVar i) (tE T X.K W [] f1) rSetL))) : PS X (.Assign [tgt] v pos) (tS T X.K W (setixF i f1 fv)) := by
  refine PS.mono h ?_
  rintro D σ H ⟨S, st, ρ, rfl, ok, sr, h⟩
  unfold setixF at h
  cases h0 : ρ[i]? with
  | none => rw [h0] at h; exact h.elim
  | some s0 =>
    rw [h0] at h
    cases s0 with
    | un => exact h.elim
    | val _ => exact h.elim
    | own ds =>
      dsimp only at h
      refine ⟨S, st.er rd, ρ, rfl, ok.er, sr.erel, ofR_post ok sr h fun p v st1 ok1 e1 s1 r1 h1 => ?_⟩
      have ok2 := ok.re s1.w ok1
      have sr2 := sr.out ok s1.w
      have ev2 := evo_out ok s1.w
      have h1 := h1.evo ev2
      obtain ⟨a0, vs0, q1, q2, q3, q4, q5⟩ := sr2.own i ds h0
      refine ⟨.ref a0, q1, ?_⟩
      refine ⟨S, (st.out st1).er [], ρ, rfl, ok2.er, sr2.erel, ?_⟩
      show post T X.K S W σ _ (f1 ρ st1.g) _
      rw [e1]
      refine ofR_post ok2 sr2 h1 fun q u st3 ok3 e3 s3 r3 h3 => ?_
      split at h3
      · rename_i n hn
        split at h3
        · rename_i m hm
          split at h3
          · rename_i hi
            have ok4 := ok2.re s3.w ok3
            have sr4 := sr2.out ok2 s3.w
            have ev4 := evo_out ok2 s3.w
            obtain ⟨a, vs, w1, w2, w3, w4, w5⟩ := sr4.own i ds h0
            rw [q1] at w1; cases w1
            have rv : RepS T X.K S ((st.out st1).out st3) v p.1 := Rep.imm hi (Rep.keep (s3.kept ok2.er) (Rep.imm (A' := Al S ((st.out st1).er [])) hi r1))
            rw [hn] at r3
            refine ⟨a0, vs, n, m, rfl, r3.int_, w4, by rw [Reps.length w5, ← place_ix]; exact hm, ?_⟩
            exact h3 σ (((st.out st1).out st3).put a0 (.lst (vs.set m v))) (ok4.put w3) e3 (ev4.trans (evo_put ok4 w3)) (sr4.put ok4 h0 q1 w2 w3 (Reps.set rv m w5))
          · exact h3.elim
        · exact h3.elim
      · exact h3.elim
abbrev insF (i : Nat) (fs : List Sl → G → R (List D × G)) : SvF := fun ρ g => match ρ[i]? with
    | some (.own ds) => SR.ofR ρ (fun q => match q.1 with
      | [.int n, d] => if d.imm = true ∧ ds.length < sizeLine ∧ 0 ≤ n ∧ n < 2 ^ 63 then .nx (ρ.set i (.own (ds.take n.toNat ++ [d] ++ ds.drop n.toNat))) q.2 else .bad
      | _ => .bad) (fs ρ g)
    | _ => .bad
theorem fs_ins {i : Nat} {rd : List Nat} {o e1 e2 : Expr} {apos cpos : Pos} {fs : List Sl → G → R (List D × G)} (ho : PE X o (tVar i)) (ha : PA X [e1, e2] (tEs T X.K W rd fs)) (hst : starEach [e1, e2] X.env = (false, eval e1 X.env) :: starEach [e2] X.env) (hpl : (backTo cpos (starEach [e2] X.env)).any (·.1) = false)
    (hbase : attributeBase o "insert" X.env (eval o X.env) = eval o X.env)
    (hline : (apos.endLine == cpos.line) = true) (hsw : swapsWith (.Call (.Attribute o "insert" apos) [e1, e2] [] cpos) none pos.line X.env = pure false)
    (hfew : ((backTo cpos (starEach [e1, e2] X.env)).all (fun x => !x.1) && (backToKw cpos (keywordEach [] X.env)).all (fun x => x.1.isSome)
      && decide ([e1, e2].length + ([] : List Keyword).length + (if ([] : List Keyword).isEmpty then 0 else 1) < 30)) = true) :
    PS X (.Expr (.Call (.Attribute o "insert" apos) [e1, e2] [] cpos) pos) (tS T X.K W (insF i fs)) := by
  refine PS.mono (ps_expr (pe_bm PySem.F.plainAttrs_list PySem.F.slot_list_insert PySem.F.type_list_insert mt_insert ho ha hbase hfew hline hst hpl) hsw) ?_
  rintro D σ H ⟨S, st, ρ, rfl, ok, sr, h⟩
  unfold insF at h
  cases h0 : ρ[i]? with
  | none => rw [h0] at h; exact h.elim
  | some s0 =>
    rw [h0] at h
    cases s0 with
    | un => exact h.elim
    | val _ => exact h.elim
    | own ds0 =>
      obtain ⟨a0, vs0, q1, q2, q3, q4, q5⟩ := sr.own i ds0 h0
      refine ⟨.ref a0, q1, .inl ⟨rfl, vs0, .inl (.inl q4)⟩, ?_⟩
      dsimp only at h
      refine ⟨S, st.er rd, ρ, rfl, ok.er, sr.erel, ofR_posts ok sr h fun p v st1 ok1 e1 s1 r1 h1 => ?_⟩
      have ok' := ok.re s1.w ok1
      have sr' := sr.out ok s1.w
      have ev' := evo_out ok s1.w
      obtain ⟨a, vs, w1, w2, w3, w4, w5⟩ := sr'.own i ds0 h0
      rw [q1] at w1; cases w1
      split at h1
      · rename_i n d hd
        rw [hd] at r1
        cases r1 with
        | cons rn r1 =>
          cases r1 with
          | cons rv r1 =>
            cases r1
            split at h1
            · rename_i hh
              obtain ⟨hi, hz, h0n, h1n⟩ := hh
              have rv' : RepS T X.K S (st.out st1) _ d := Rep.imm hi rv
              refine ⟨a0, vs, n, _, rfl, by rw [rn.int_], w4, by rw [Reps.length w5]; exact hz, h0n, h1n, ?_⟩
              exact h1 σ ((st.out st1).put a0 (.lst (vs.take n.toNat ++ [_] ++ vs.drop n.toNat))) (ok'.put w3) e1 (ev'.trans (evo_put ok' w3)) (sr'.put ok' h0 q1 w2 w3 (Reps.append (Reps.append (Reps.take _ w5) (.cons rv' .nil)) (Reps.drop _ w5)))
            · exact h1.elim
      · exact h1.elim
/-! name = a call whose answer is a list: nothing else holds it, where all that the call sees holds no list -/
section
variable {K : PySem.W.Frag} {S S' : Addr → Prop} {st st1 : Gh}
theorem FldsR.immS {T : Tb} {k : Nat} : ∀ {kvs : List (Key × V)} {o : Obj1}, FldsR T K S st k kvs o → FldsR T K S' st k kvs o
  | _, _, .nil => .nil
  | _, _, .imm e r rs => .imm e (Rep.imm e r) (FldsR.immS rs)
  | _, _, .own e h1 h2 r rs => .own e h1 h2 (Reps.imm e r) (FldsR.immS rs)
def Snew (S : Addr → Prop) (st : Gh) : Addr → Prop := fun a => S a ∧ st.H a = none
theorem GOk.new {T : Tb} (ok : GOk T K S st) : GOk T K (Snew S st) st where
  live := ok.live
  fr := fun a h => ⟨ok.fr a h, h⟩
  len := ok.len
  obj := fun k o h => by
    obtain ⟨a, kvs, h1, h2, h3, h4, h5⟩ := ok.obj k o h
    exact ⟨a, kvs, h1, h2, h3, h4.immS, h5⟩
  tab := ok.tab
theorem GOk.old {T : Tb} {st0 : Gh} (ok : GOk T K (Snew S st0) st) : GOk T K S st where
  live := ok.live
  fr := fun a h => (ok.fr a h).1
  len := ok.len
  obj := fun k o h => by
    obtain ⟨a, kvs, h1, h2, h3, h4, h5⟩ := ok.obj k o h
    exact ⟨a, kvs, h1, h2, h3, h4.immS, h5⟩
  tab := ok.tab
theorem SRel.new {T : Tb} {σ : L2.St} {ρ : List Sl} (r : SRel T K S st σ ρ) : ERel T K (Snew S st) st [] σ (immSl ρ) where
  len := by rw [r.len, immSl, List.length_map]
  get := fun i d h => by
    unfold seen immSl at h
    rw [List.getElem?_map] at h
    cases e : ρ[i]? with
    | none => rw [e] at h; cases h
    | some s =>
      rw [e] at h
      cases s with
      | un => cases h
      | own _ => cases h
      | val d' =>
        have h : (match some (if d'.imm = true then Sl.val d' else Sl.un) with
          | some (.val d) => some d
          | some (.own ds) => if ([] : List Nat).contains i then some (.lst ds) else none
          | _ => none) = some d := h
        by_cases hi : d'.imm = true
        · rw [if_pos hi] at h
          cases h
          obtain ⟨v, h1, h2⟩ := r.val i _ e
          exact ⟨v, h1, Rep.imm hi h2⟩
        · rw [if_neg hi] at h
          cases h
theorem evo_step (s : Step st st1) : Evo st st1 := ⟨s.pre, s.keep, fun a t _ h => s.own a t h⟩
end
abbrev owncF (i : Nat) (fe : EvF) : SvF := fun ρ g => if i < ρ.length then SR.ofR ρ (fun q => match q.1 with
      | .lst ds => if D.immAll ds = true then .nx (ρ.set i (.own ds)) q.2 else .bad
      | _ => .bad) (fe (immSl ρ) g) else .bad
theorem ownc_mono {i : Nat} {fe : EvF} (Dn : Ends) (σ : L2.St) (H : Hp) : tS T X.K W (owncF i fe) Dn σ H → tAsg (tE T X.K W [] fe) (gName i) Dn σ H := by
  rintro ⟨S, st, ρ, rfl, ok, sr, h⟩
  by_cases hlen : i < ρ.length
  case neg =>
    unfold owncF at h
    rw [if_neg hlen] at h
    exact h.elim
  unfold owncF at h
  rw [if_pos hlen] at h
  refine ⟨Snew S st, st, immSl ρ, rfl, ok.new, sr.new, ?_⟩
  revert h
  cases fe (immSl ρ) st.g with
  | bad => exact fun h => h
  | exc c fs g' =>
    intro h cv dd st' ok' e' s' ⟨C, h1, h2, h3⟩
    exact h cv dd σ st' ok'.old e' (evo_step s') (sr.evo ok (evo_step s') fun a i ha => s'.slot a i ha) ⟨C, h1, h2, RepX.imm h3⟩
  | ok p =>
    obtain ⟨d, g'⟩ := p
    intro h v st' ok' e' s' r'
    cases d with
    | lst ds =>
      have h : SPost T X.K S W st (if Z.D.immAll ds = true then .nx (ρ.set i (.own ds)) g' else .bad) Dn := h
      by_cases hm : Z.D.immAll ds = true
      · rw [if_pos hm] at h
        cases r' with
        | @lst a vs _ ha hA rs =>
          obtain ⟨⟨hS, hn⟩, ho⟩ := hA
          have st0 : (st'.tag a (some (.slot 0))).ow a = some (.slot 0) := tag_same
          have kp : ∀ {k : Nat} {kvs : List (Key × V)} {o : Obj1}, FldsR T X.K S st' k kvs o → FldsR T X.K S (st'.tag a (some (.slot 0))) k kvs o := by
            intro k kvs o f
            induction f with
            | nil => exact .nil
            | imm e r _ ih => exact .imm e (Rep.imm e r) ih
            | own e h1 h2 r _ ih => exact .own e (by rw [tag_ne (fun z => by rw [z, ho] at h1; cases h1)]; exact h1) h2 (Reps.imm e r) ih
          have ok1 : GOk T X.K S (st'.tag a (some (.slot 0))) := by
            have o2 := ok'.old
            refine ⟨fun b t hb => ?_, o2.fr, o2.len, fun k o hk => ?_, o2.tab.keep (fun b k u h1 h2 => ⟨h2, by rw [tag_ne (fun z => by rw [z, ho] at h1; cases h1)]; exact h1⟩) fun _ _ _ h => h⟩
            · by_cases e : b = a
              · subst e; exact ⟨_, ha, rfl⟩
              · rw [tag_ne e] at hb; exact o2.live b t hb
            · obtain ⟨b, kvs, h1, h2, h3, h4, h5⟩ := o2.obj k o hk
              exact ⟨b, kvs, h1, by rw [tag_ne (fun z => by rw [z, ho] at h2; cases h2)]; exact h2, h3, kp h4, h5⟩
          have ev : Evo st (st'.tag a (some (.slot 0))) := by
            refine ⟨s'.pre, fun b o hb hb' => ?_, fun b t ht hb => ?_⟩
            · obtain ⟨k1, k2⟩ := s'.keep b o hb hb'
              exact ⟨k1, by rw [tag_ne (fun z => by rw [z, hn] at hb; cases hb)]; exact k2⟩
            · have := s'.own b t hb
              rw [tag_ne (fun z => by rw [z, ho] at this; cases this)]
              exact this
          have sr1 : SRel T X.K S (st'.tag a (some (.slot 0))) σ ρ := sr.evo ok ev fun b j hb => by
            obtain ⟨k1, k2⟩ := s'.slot b j hb
            exact ⟨by rw [tag_ne (fun z => by rw [z, ho] at k1; cases k1)]; exact k1, k2⟩
          obtain ⟨st2, hH, hg, ok2, ev2, sr2⟩ := own_core (i := i) ok ok1 ev sr1 hn (fun k b ds' hd hb => by
            obtain ⟨a', vs', q1, _, _, q4, _⟩ := sr.own k ds' hd
            rw [q1] at hb; cases hb
            rw [q4]; exact fun z => nomatch z) ha st0 (Reps.imm hm rs) hlen
          have := h _ st2 ok2 (hg.trans e') ev2 sr2
          rw [hH] at this
          exact this
      · rw [if_neg hm] at h
        exact h.elim
    | _ => exact h.elim
theorem fs_ownc {i : Nat} {e : Expr} {fe : EvF} {tgt : Expr} (h : PS X (.Assign [tgt] e pos) (tAsg (tE T X.K W [] fe) (gName i))) : PS X (.Assign [tgt] e pos) (tS T X.K W (owncF i fe)) := PS.mono h ownc_mono
abbrev clrF (i : Nat) : SvF := fun ρ g => match ρ[i]? with
    | some (.own _) => .nx (ρ.set i (.own [])) g
    | _ => .bad
theorem fs_clr {i : Nat} {o : Expr} {apos cpos : Pos} (ho : PE X o (tVar i))
    (hbase : attributeBase o "clear" X.env (eval o X.env) = eval o X.env)
    (hline : (apos.endLine == cpos.line) = true) (hsw : swapsWith (.Call (.Attribute o "clear" apos) [] [] cpos) none pos.line X.env = pure false) :
    PS X (.Expr (.Call (.Attribute o "clear" apos) [] [] cpos) pos) (tS T X.K W (clrF i)) := by
  refine PS.mono (ps_expr (pe_bm0 PySem.F.plainAttrs_list PySem.F.slot_list_clear PySem.F.type_list_clear mt_clear ho hbase hline) hsw) ?_
  rintro D σ H ⟨S, st, ρ, rfl, ok, sr, h⟩
  unfold clrF at h
  cases h0 : ρ[i]? with
  | none => rw [h0] at h; exact h.elim
  | some s0 =>
    rw [h0] at h
    cases s0 with
    | un => exact h.elim
    | val _ => exact h.elim
    | own ds0 =>
      obtain ⟨a0, vs0, q1, q2, q3, q4, q5⟩ := sr.own i ds0 h0
      refine ⟨.ref a0, q1, .inl ⟨rfl, vs0, .inl (.inl q4)⟩, a0, vs0, rfl, rfl, q4, ?_⟩
      dsimp only at h
      exact h σ (st.put a0 (.lst [])) (ok.put q3) rfl (evo_put ok q3) (sr.put ok h0 q1 q2 q3 .nil)
/-! a, b = [], e: a is a list of the def's own -/
section
variable {K : PySem.W.Frag} {S : Addr → Prop} {st st1 : Gh}
theorem own_core2 {σ : L2.St} {ρ' : List Sl} {l : Addr} {vs : List V} {ds : List D} {i : Nat} (ok : GOk T K S st) (ok' : GOk T K S st1) (ev : Evo st st1) (sr : SRel T K S st1 σ ρ') (hn : st.H l = none) (hpr : ∀ (k : Nat) (a : Addr) (ds' : List D), ρ'[k]? = some (Sl.own ds') → σ[k]? = some (some (V.ref a)) → st.H a ≠ none)
    (h1 : st1.H l = some (.lst vs)) (h2 : st1.ow l = some (.slot 0)) (r1 : RepsS T K S st1 vs ds) (hi : i < ρ'.length) :
    ∃ st', st'.H = st1.H ∧ st'.g = st1.g ∧ GOk T K S st' ∧ Evo st st' ∧ SRel T K S st' (σ.set i (some (.ref l))) (ρ'.set i (.own ds)) ∧ ∀ v d, RepS T K S st1 v d → RepS T K S st' v d := by
  refine ⟨st1.tag l (some (.slot i)), rfl, rfl, ok'.retag h2, ev.trans (evo_retag h2), ?_, fun v d r => Rep.keep (kept_retag h2) r⟩
  refine SRel.tagged (sr.retag h2 fun k a ha ⟨ds', hd⟩ e => ?_) hi (ok.fr l hn) tag_same h1 (Reps.keep (kept_retag h2) r1)
  subst e
  exact hpr k a ds' hd ha hn
end
abbrev par0F (i j : Nat) (rd : List Nat) (fe : EvF) : SvF := fun ρ g => if i < ρ.length ∧ i ≠ j then SR.ofR ρ (fun q => .nx (((after rd q.1 ρ).set i (.own [])).set j (.val q.1)) q.2) (fe ρ g) else .bad
theorem fs_par0 {i j : Nat} {tgt e : Expr} {fe : EvF} (h : PS X (.Assign [tgt] e pos) (tPar i j (tCons (tLst tNil) (tCons (tE T X.K W rd fe) tNil)))) : PS X (.Assign [tgt] e pos) (tS T X.K W (par0F i j rd fe)) := by
  refine PS.mono h ?_
  rintro Dn σ H ⟨S, st, ρ, rfl, ok, sr, h⟩
  by_cases hlen : i < ρ.length ∧ i ≠ j
  case neg =>
    unfold par0F at h
    rw [if_neg hlen] at h
    exact h.elim
  unfold par0F at h
  rw [if_pos hlen] at h
  refine ⟨Nat.zero_le _, fun l hl => ?_⟩
  have hl' : (st.er rd).H l = none := hl
  have s0 : StepD l (st.er rd) (((st.er rd).put l (.lst [])).tag l (some (.slot 0))) := StepD.new ok.er hl'
  have ok0 : GOk T X.K S (((st.er rd).put l (.lst [])).tag l (some (.slot 0))) := ok.er.tagged hl'
  have er0 : ERel T X.K S (((st.er rd).put l (.lst [])).tag l (some (.slot 0))) rd σ ρ := (sr.erel).tagged ok.er hl'
  have hH0 : (((st.er rd).put l (.lst [])).tag l (some (.slot 0))).H l = some (.lst []) := upd_same
  refine ⟨S, ((st.er rd).put l (.lst [])).tag l (some (.slot 0)), ρ, rfl, ok0, er0, ?_⟩
  show post T X.K S W σ _ (fe ρ st.g) _
  cases hr : fe ρ st.g with
  | bad => rw [hr] at h; exact h
  | exc c f g' =>
    rw [hr] at h
    intro cv dd st' ok' e' s' ⟨C, x1, x2, x3⟩
    have sd := s0.step s'
    have ht : st'.ow l = some (.slot 0) := (s'.slot l 0 tag_same).1
    have s2 := sd.done ok.er
    exact h cv dd σ (st.out (st'.tag l none)) (ok.re s2.w (ok'.untag ht)) e' (evo_out ok s2.w) (sr.out ok s2.w) ⟨C, x1, x2, RepX.imm x3⟩
  | ok p =>
    rw [hr] at h
    intro v st1 ok1 e1 s1 r1
    have sd := s0.step s1
    obtain ⟨ht, hH⟩ := s1.slot l 0 tag_same
    have hH1 : st1.H l = some (.lst []) := hH.trans hH0
    have h : SPost T X.K S W st (.nx (((after rd p.1 ρ).set i (.own [])).set j (.val p.1)) p.2) Dn := h
    refine ⟨.ref l, v, rfl, ?_⟩
    by_cases hm : p.1.imm = true
    · have ea : after rd p.1 ρ = ρ := if_pos hm
      rw [ea] at h
      have hns : ∀ j, st.ow l ≠ some (.slot j) := fun j e => by
        obtain ⟨o, h3, _⟩ := ok.live l _ e
        rw [hl] at h3; cases h3
      obtain ⟨st', hH', hg, ok', ev', sr', kp⟩ := own_core2 (i := i) ok (ok.re sd.w ok1) (evo_out ok sd.w) (sr.out ok sd.w) hl (fun k a ds' hd ha => by
        obtain ⟨a', vs', q1, _, _, q4, _⟩ := sr.own k ds' hd
        rw [q1] at ha; cases ha
        rw [q4]; exact fun z => nomatch z) hH1 (by rw [out_ns hns]; exact ht) (vs := []) (ds := []) .nil hlen.1
      have := h _ st' ok' (hg.trans e1) ev' (sr'.evo_val (i := j) (kp v p.1 (Rep.imm hm r1)))
      rw [hH'] at this
      exact this
    · have ea : after rd p.1 ρ = freeze rd ρ := if_neg hm
      rw [ea] at h
      obtain ⟨st', hH', hg, ok', ev', sr', kp⟩ := own_core2 (i := i) ok ok1 (evo_er ok sd.w) (sr.frz ok sd.w) hl (fun k a ds' hd ha => by
        rw [freeze_get] at hd
        cases e : ρ[k]? with
        | none => rw [e] at hd; cases hd
        | some sl =>
          rw [e] at hd
          cases sl with
          | un => cases hd
          | val _ => cases hd
          | own xs =>
            obtain ⟨a', vs', q1, _, _, q4, _⟩ := sr.own k xs e
            rw [q1] at ha; cases ha
            rw [q4]; exact fun z => nomatch z) hH1 ht (vs := []) (ds := []) .nil (by rw [freeze_len]; exact hlen.1)
      have := h _ st' ok' (hg.trans e1) ev' (sr'.evo_val (i := j) (kp v p.1 r1))
      rw [hH'] at this
      exact this
theorem fs_hsetix {v : Expr} {tgt : Expr} {fe fv : EvF} {key : Str} {j : Nat} (h : PS X (.Assign [tgt] v pos) (tAsg (tE T X.K W [] fv) (gSub (tDGet (tE T X.K W [] fe) (tC (.str key))) (tVar j) rSetL))) : PS X (.Assign [tgt] v pos) (tS T X.K W (hsetixF fe key j fv)) := by
  refine PS.mono h ?_
  rintro D σ H ⟨S, st, ρ, rfl, ok, sr, h⟩
  refine ⟨S, st.er [], ρ, rfl, ok.er, sr.erel, ofR_post ok sr h fun p v st1 ok1 e1 s1 r1 h1 => ?_⟩
  have ok2 := ok.re s1.w ok1
  have sr2 := sr.out ok s1.w
  have ev2 := evo_out ok s1.w
  have h1 := h1.evo ev2
  refine ⟨S, (st.out st1).er [], ρ, rfl, ok2.er, sr2.erel, ?_⟩
  show post T X.K S W σ _ (fe ρ st1.g) _
  rw [e1]
  refine ofR_post ok2 sr2 h1 fun q u st3 ok3 e3 s3 r3 h3 => ?_
  split at h3
  · rename_i k hk
    rw [hk] at r3
    split at h3
    · rename_i ds n hg hsn
      split at h3
      · rename_i m hm
        split at h3
        · rename_i hi
          obtain ⟨ob, ho1, ho2⟩ := oget_some hg
          obtain ⟨a, kvs, q1, q2, q3, q4, q5, q6⟩ := ok3.obj k ob (by rw [e3]; exact ho1)
          cases r3 with
          | hnd hh =>
            rw [q1] at hh; cases hh
            obtain ⟨w, l1, l, vs, rfl, m1, m2, m3⟩ := q4.look ho2
            have ok4 := ok2.re s3.w ok3
            have sr4 := sr2.out ok2 s3.w
            have ev4 := evo_out ok2 s3.w
            have ha4 : ((st.out st1).out st3).ow a = some (.obj k) := by rw [out_ns (out_objE ok2 s3.w q2 rfl)]; exact q2
            have hl4 : ((st.out st1).out st3).ow l = some (.fld k key) := by rw [out_ns (out_objE ok2 s3.w m1 rfl)]; exact m1
            have q4' := FldsR.re ok2 s3.w q4
            have him := q4.immO ho2
            have rv : RepS T X.K S ((st.out st1).out st3) v p.1 := Rep.imm hi (Rep.keep (s3.kept ok2.er) (Rep.imm (A' := Al S ((st.out st1).er [])) hi r1))
            have m3' : RepsS T X.K S ((st.out st1).out st3) vs ds := Reps.imm him m3
            refine ⟨a, .ref l, rfl, by rw [← l1]; exact DGet.k (k := Sum.inr key) q3, ?_⟩
            obtain ⟨vi, hv1, hv2⟩ := (sr4.erel (rd := [])).get j _ hsn
            refine ⟨vi, hv1, ?_⟩
            refine ⟨l, vs, n, m, rfl, hv2.int_, m2, by rw [Reps.length m3, ← place_ix]; exact hm, ?_⟩
            have ok5 := GOk.setOwn (st := (st.out st1).out st3) (key := key) ok4 (immAll_set hi him) (Reps.set rv m m3') (by show st3.g[k]? = _; rw [e3]; exact ho1) ho2 q1 ha4 q3 q4' l1 hl4
            refine h3 σ _ ok5 (by show oput st3.g _ _ _ = _; rw [e3]) (ev4.trans (evo_putG ok4 hl4)) ?_
            refine sr4.evo ok4 (evo_putG ok4 hl4) fun b j hb => ⟨hb, ?_⟩
            show upd _ l _ b = _
            rw [upd_ne (fun z => by rw [z, hl4] at hb; cases hb)]
        · exact h3.elim
      · exact h3.elim
    · exact h3.elim
  · exact h3.elim
end
end Z

set_option Elab.async false
set_option linter.all false
set_option maxRecDepth 100000
set_option maxHeartbeats 4000000
/-! Z14: try: the exception is kept as a value. -/
namespace Z
open PySem PySem.Spec PyProof.Rows L2

/-- what the clause 'except x as n' wishes: the exception's object is tracked from then on -/
def wAsZ (K : PySem.W.Frag) (c : Value) (i : Nat) (ts : TS) (Wout : WX) (D : Ends) : WX := fun cls d σ H =>
  ∃ b, PySem.W.exmOne K cls c = some b ∧ (b = true → ∃ C, cls = .ref C ∧ ∀ a, H a = none → ts { nx := fun σ' H' => D.nx (σ'.set i none) H', rt := D.rt, bk := fun σ' H' => D.bk (σ'.set i none) H', ct := fun σ' H' => D.ct (σ'.set i none) H' } (σ.set i (some (.ref a))) (upd H a (excH a C d))) ∧
    (b = false → Wout cls d σ H)
theorem Inv.unsuiteZ {X : Cx} {pins : List (Addr × Obj)} {σ : L2.St} {H : Hp} {s : Shared} {a : Addr} {pn' : List (Addr × Obj)} (I : Inv (X.suite a (X.pn ++ pins)) pn' σ H s) (ok : X.Ok) : Inv X pins σ H s :=
  ⟨ok, I.os, I.bare, I.base, I.loc, I.cell, I.free, I.freeC, fun p hp => I.pin p (List.mem_append_left _ hp), I.hok, I.len⟩
/-- the exception's object becomes known -/
theorem Inv.suiteZ {X : Cx} {pins : List (Addr × Obj)} {σ : L2.St} {H : Hp} {sI s : Shared} {a C : Addr} {d : Option Addr} {oe : Obj} {vs : Array Value} (hex : X.ex = []) (J : Inv X pins σ H sI) (I : Inv X pins σ H s) (hn : sI.heap.get? a = none) (na : H a = none) (nL : a ≠ X.env.locals)
    (ha : s.heap.get? a = some oe) (hz : Zc (.ref C) d oe) (hd : oe.data = .fields vs) : Inv (X.suite a (X.pn ++ pins)) [] σ (upd H a (excH a C d)) s := by
  have off : ∀ b o, sI.heap.get? b = some o → b ≠ a := fun b o e z => by rw [z, hn] at e; cases e
  have offB : ∀ b o, X.s_0.heap.get? b = some o → b ≠ a := fun b o e => by
    obtain ⟨o', h1⟩ := J.base.there b o e (by rw [hex]; exact fun z => nomatch z)
    exact off b o' h1
  refine ⟨I.ok.suite _ _, I.os, I.bare, ⟨I.base.keep, I.base.slot, fun b o h h0 hx => ?_, I.base.there, fun b xs h => ?_, fun b o u h => ?_, fun b ps h => ?_⟩, I.loc, I.cell, ?_, fun x c e => ?_, fun p hp => ?_, fun b u q => ?_, I.len⟩
  · rw [upd_ne (offB b o h)]; exact I.base.free b o h h0 hx
  · have h1 := I.base.tups b xs h
    rw [upd_ne (ne_of_none h1 na)]; exact h1
  · have h1 := I.base.frzs b o u h
    rw [upd_ne (ne_of_none h1 na)]; exact h1
  · obtain ⟨more, h1⟩ := I.base.tbls b ps h
    exact ⟨more, by rw [upd_ne (ne_of_none h1 na)]; exact h1⟩
  · rw [upd_ne (Ne.symm nL)]; exact I.free
  · obtain ⟨v, o, h1, _⟩ := J.cell x c e
    rw [upd_ne (off c o h1)]; exact I.freeC x c e
  · have hp' : p ∈ X.pn ++ pins := by rw [List.append_nil] at hp; exact hp
    obtain ⟨h1, h2, h3⟩ := I.pin p hp'
    obtain ⟨h4, _⟩ := J.pin p hp'
    exact ⟨h1, by rw [upd_ne (off _ _ h4)]; exact h2, h3⟩
  · by_cases e : b = a
    · subst e
      rw [upd_same] at q
      cases q
      exact ⟨⟨oe, ha, hz, vs, hd⟩, ⟨oe, ha⟩, fun h1 h2 ⟨o, x1, x2⟩ k => ⟨o, k o x1, x2⟩⟩
    · rw [upd_ne e] at q
      exact (I.hok b u q).stay (fun c v _ q => q) (fun c q => by rw [upd_ne (ne_of_none q na)]; exact q) fun c xs q => by rw [upd_ne (ne_of_none q na)]; exact q
section
variable {X : Cx} {x n : Str} {c : Value} {i : Nat} {body suite : List Stmt} {b₀ : Stmt} {np pos pos' : Pos} {tb : WX → TS} {ts : TS} {Wout : WX}
theorem ps_try_asZ (hex : X.ex = []) (hs : X.stack = X.env :: X.outer) (hf : X.env.frame = some X.env.locals) (hN : X.N.Nodup) (hi : X.N[i]? = some n) (hln : X.env.kindOf n = some .local) (hc : Names X x c) (tk : Takes X Wout)
    (hb : ∀ (W : WX) (pn : List (Addr × Obj)) (xe : Value → Shared → Prop), Takes (X.tr pn xe) W → PassesOwn (model X.prog X.w) X.A X.env xe → PSs (X.tr pn xe) body (tb W))
    (hsu : ∀ (a : Addr) (pn : List (Addr × Obj)), PSs (X.suite a pn) (b₀ :: suite) ts) :
    PS X (.Try body [.ExceptHandler (some (.Name x np)) (some n) (b₀ :: suite) pos'] [] [] pos) (fun D σ H => tb (wAsZ X.K c i ts Wout D) D σ H) := by
  refine ⟨fun pins s σ H D I h => ?_⟩
  have ok := I.ok
  have hfr : X.A.frames = some (X.env :: X.outer) := by rw [ok.frames, hs]
  have hloc : Loc X.env.scope n := .inl hln
  refine wpAny_Try_except ?_
  refine wpAny_mono ((hb (wAsZ X.K c i ts Wout D) (X.pn ++ pins) (fun e s₁ => wpAny (model X.prog X.w) X.A (noteFrame e X.env) (fun _ s₂ => wpAny (model X.prog X.w) X.A (setFlight e none) (fun _ s₃ =>
    wpAny (model X.prog X.w) X.A (handleBy e X.env [.ExceptHandler (some (.Name x np)) (some n) (b₀ :: suite) pos']) (SP X pins D) X.xe s₃) X.xe s₂) X.xe s₁) (fun u s' xx => ?_) PassesOwn.looking).run [] s σ H D (I.toTry _) h) (fun f s1 hsp => ?_) (fun e s1 he => he)
  · obtain ⟨a, B, sI, pins', σ', H', cls, d, rfl, J', nb, up, sky, na, os, ag, b, hb1, hyes, hno⟩ := xx
    have J : Inv X pins σ' H' sI := J'.ofTry ok
    have sky' : Sky B (X.env :: X.outer) a (Zc cls d) X.env.locals s'.heap := by rw [← hs]; exact sky
    have hBn : B.get? a = none := by
      rcases sky' with h | h | h
      · exact h.2.1
      · exact h.2.1
      · exact h.2.1
    show wpAny (model X.prog X.w) X.A (noteFrame (.ref a) X.env) _ _ _
    refine Sky.land Zc.steady hfr hf sky' fun h3 fl3 up3 => ?_
    have J3 : Inv X pins σ' H' { s' with heap := h3 } := J.landed nb fl3.1 (up.trans up3) os ag
    obtain ⟨oe3, vs3, he3, hz3, hd3⟩ := fl3.there
    have notFr : ∀ {h : Heap} {o : Obj} {vs : Array Value}, h.FunFrames B (X.env :: X.outer) → h.get? a = some o → o.data = .fields vs → a ∉ frs (X.env :: X.outer) := fun {h o vs} ff e dd hm => by
      obtain ⟨_, o', e', hnf⟩ := ff.mem hm
      rw [e] at e'; cases e'
      exact hnf _ dd
    have nfr := notFr fl3.2.2.1 he3 hd3
    have nL : a ≠ X.env.locals := fun z => nfr (List.mem_filterMap.mpr ⟨X.env, List.mem_cons_self, by rw [hf, z]⟩)
    have nF : a ∉ X.fs := fun hm => by
      obtain ⟨e, he, q⟩ := List.mem_filterMap.mp hm
      exact nfr (List.mem_filterMap.mpr ⟨e, List.mem_cons_of_mem _ he, q⟩)
    have hIn : sI.heap.get? a = none := by
      cases e : sI.heap.get? a with
      | none => rfl
      | some o =>
        have := nb a o e (by rw [hs]; exact nfr)
        rw [hBn] at this; cases this
    have S3 := J3.suite he3 hd3 na nL nF
    refine wpAny_handleBy_cons (codeAny_handlers_test ?_) (by intro q; cases q)
    have LT : PySem.W.Looks (model X.prog X.w) h3 (typeOf (.ref a)) cls := fun A Q E s k q => wpAny_typeOf_ref (k _ _ he3) (by rw [hz3.1]; exact q)
    have LM := PySem.W.exm_one (M := model X.prog X.w) (J3.kIn) LT hb1
    have test : ∀ {Q : Value → Shared → Prop} {E : Value → Shared → Prop}, Q c { s' with heap := h3 } → wpAny (model X.prog X.w) (X.A.mark (some (.ref a))) (eval (.Name x np) X.env) Q E { s' with heap := h3 } := fun {Q E} q => by
      obtain ⟨hg, hdbg, hm | ⟨hm, hv, hnn⟩⟩ := hc
      · exact ld_glob (X := X.suite a ((a, oe3) :: (X.pn ++ pins))) S3 hg hm q hdbg
      · exact ld_blt (X := X.suite a ((a, oe3) :: (X.pn ++ pins))) S3 hg hm hv q hnn hdbg
    refine test (LM.here ?_)
    cases b with
    | true =>
      obtain ⟨C, rfl, hyes2⟩ := hyes rfl
      refine codeAny_handlers_suite_as ?_
      refine HandSPX.lands_againZ fl3 fun h4 fl4 up4 => ?_
      have J4 : Inv X pins σ' H' { s' with heap := h4 } := J.landed nb fl4.1 ((up.trans up3).trans up4) os ag
      obtain ⟨oe4, vs4, he4, hz4, hd4⟩ := fl4.there
      have S4 := Inv.suiteZ hex J J4 hIn na nL he4 hz4 hd4
      refine store_ok (X := X.suite a (X.pn ++ pins)) (v := .ref a) S4 hN hi hloc rfl (fun s5 S5 => ?_) (.inr hln)
      refine wpAny_mono ((hsu a (X.pn ++ pins)).run [] s5 _ _ _ S5 (hyes2 a na)) (fun f s6 hsp => ?_) (fun _ _ z => False.elim z)
      have end_ : ∀ {σ6 : L2.St} {H6 : Hp} {Q : Shared → Prop}, Inv (X.suite a (X.pn ++ pins)) [] σ6 H6 s6 → (∀ s7, Inv X pins (σ6.set i none) H6 s7 → Q s7) →
          wpAny (model X.prog X.w) X.A (do bindName X.env n .none; unbindBehindTheSuite X.env n pos') (fun _ s7 => Q s7) X.xe s6 := fun {σ6 H6 Q} S6 hq => gone_ok (Inv.unsuiteZ S6 ok) hN hi hln hq
      cases f with
      | next =>
        obtain ⟨σ6, H6, S6, q6⟩ := hsp
        exact end_ S6 fun s7 J7 => ⟨_, _, J7, q6⟩
      | brk =>
        obtain ⟨σ6, H6, S6, q6⟩ := hsp
        exact end_ S6 fun s7 J7 => ⟨_, _, J7, q6⟩
      | cont =>
        obtain ⟨σ6, H6, S6, q6⟩ := hsp
        exact end_ S6 fun s7 J7 => ⟨_, _, J7, q6⟩
      | ret u =>
        obtain ⟨v6, σ6, H6, S6, r6, q6⟩ := hsp
        exact end_ S6 fun s7 J7 => ⟨_, _, _, J7, r6, q6⟩
    | false =>
      show wpAny _ X.A (handleBy (.ref a) X.env []) _ _ _
      refine wpAny_handleBy_nil ?_
      obtain ⟨k1, k2, k3, oe, vs, T, oT, ts', he, hz, hd, h1, hr⟩ := id fl3
      unfold PySem.passOn
      refine wpAny_bind (wpAny_field he hd h1 ?_)
      rw [if_neg (show ¬ ((Value.ref T == Value.none) = true) from by simp)]
      have fin : wpAny (model X.prog X.w) X.A (setFlight (.ref a) X.env.frame) (fun _ s4 => wpAny (model X.prog X.w) X.A (throw (.ref a) : Sem Flow) (SP X pins D) X.xe s4) X.xe { s' with heap := h3 } := by
        rw [hf]
        refine HandSPX.setFlight_upZ fl3 fun h4 hh4 up4 => wpAny_throw (tk _ _ ?_)
        exact ⟨a, B, sI, pins, σ', H', cls, d, rfl, J, nb, (up.trans up3).trans up4, .inr (.inr (by rw [hs]; exact hh4)), na, os, ag, hno rfl⟩
      first
        | exact wpAny_bind (wpAny_pure (wpAny_bind fin))
        | exact wpAny_bind fin
  · cases f with
    | next =>
      obtain ⟨σ', H', J', q⟩ := hsp
      exact wpAny_execs_nil ⟨σ', H', J'.ofTry ok, q⟩
    | brk =>
      obtain ⟨σ', H', J', q⟩ := hsp
      exact ⟨σ', H', J'.ofTry ok, q⟩
    | cont =>
      obtain ⟨σ', H', J', q⟩ := hsp
      exact ⟨σ', H', J'.ofTry ok, q⟩
    | ret u =>
      obtain ⟨v, σ', H', J', r, q⟩ := hsp
      exact ⟨v, σ', H', J'.ofTry ok, r, q⟩
end

/-! ### by data -/
def tryF (kl : Kl) (fb : SvF) (c : Nat) (v : Option Nat) (i : Nat) : SvF := fun ρ g => match fb ρ g with
    | .exc c' fs ρ1 g1 => match kl.own c' c with
      | some true => (match v with
        | some j => if j < ρ1.length then .nx (((ρ1.set j (.val (.exc c' fs))).set i (.val (.exc c' fs))).set j .un) g1 else .bad
        | none => .nx (ρ1.set i (.val .non)) g1)
      | some false => .exc c' fs ρ1 g1
      | none => .bad
    | r => r
section
variable {T : Tb} {K : PySem.W.Frag} {S : Addr → Prop} {st : Gh}
theorem RepS.laid (ok : GOk T K S st) {p : Addr} {o : HO} (hp : st.H p = none) {v : V} {d : D} (r : RepS T K S st v d) : RepS T K S (st.lay p o) v d := RepS.step r ok (Gh.lay_step ok hp)
theorem evo_lay (ok : GOk T K S st) {p : Addr} {o : HO} (hp : st.H p = none) : Evo st (st.lay p o) :=
  ⟨List.prefix_refl _, (Gh.lay_step ok hp).keep, fun a t _ h => h⟩
theorem SRel.lay {σ : L2.St} {ρ : List Sl} (r : SRel T K S st σ ρ) (ok : GOk T K S st) {p : Addr} {o : HO} (hp : st.H p = none) : SRel T K S (st.lay p o) σ ρ :=
  r.evo ok (evo_lay ok hp) (Gh.lay_step ok hp).slot
end
section
variable {X : Cx} {T : Tb} {kl : Kl} {Wout : WX} {fb : SvF} {x : Str} {n : Str} {c : Nat} {C : Addr} {i j : Nat} {body suite : List Stmt} {b₀ : Stmt} {np pos pos' : Pos}
theorem fs_try_as (KO : KlOk T X.K kl) (hex : X.ex = []) (hs : X.stack = X.env :: X.outer) (hf : X.env.frame = some X.env.locals) (hN : X.N.Nodup) (hi : X.N[j]? = some n) (hln : X.env.kindOf n = some .local) (hC : T.cls c = some C) (hc : Names X x (.ref C)) (tk : Takes X Wout)
    (hb : ∀ (W : WX) (pn : List (Addr × Obj)) (xe : Value → Shared → Prop), Takes (X.tr pn xe) W → PassesOwn (model X.prog X.w) X.A X.env xe → PSs (X.tr pn xe) body (tS T X.K W fb))
    (hsu : ∀ (a : Addr) (pn : List (Addr × Obj)), PSs (X.suite a pn) (b₀ :: suite) (tSeq (tAsg (tVar j) (gName i)) fun D σ H => D.nx σ H)) :
    PS X (.Try body [.ExceptHandler (some (.Name x np)) (some n) (b₀ :: suite) pos'] [] [] pos) (tS T X.K Wout (tryF kl fb c (some j) i)) := by
  refine PS.mono (ps_try_asZ (c := .ref C) hex hs hf hN hi hln hc tk hb hsu) ?_
  rintro D σ H ⟨S, st, ρ, rfl, ok, sr, h⟩
  refine ⟨S, st, ρ, rfl, ok, sr, ?_⟩
  unfold tryF at h
  cases hr : fb ρ st.g with
  | bad => rw [hr] at h; exact h
  | nx ρ1 g1 => rw [hr] at h; exact h
  | bk ρ1 g1 => rw [hr] at h; exact h
  | ct ρ1 g1 => rw [hr] at h; exact h
  | rt d g1 => rw [hr] at h; exact h
  | exc c' fs ρ1 g1 =>
    rw [hr] at h
    dsimp only at h
    rintro cv dd σ' st' ok' e' ev' sr' ⟨C', hC', rfl, rx⟩
    cases ho : kl.own c' c with
    | none => rw [ho] at h; exact h.elim
    | some b =>
      rw [ho] at h
      refine ⟨b, KO.exm _ _ _ _ _ ho hC' hC, fun e => ?_, fun e => ?_⟩
      · subst e
        refine ⟨C', rfl, fun a na => ?_⟩
        dsimp only at h
        by_cases hj : j < ρ1.length
        case neg => rw [if_neg hj] at h; exact h.elim
        rw [if_pos hj] at h
        have ok2 : GOk T X.K S (st'.lay a (excH a C' dd)) := ok'.lay na
        have rv : RepS T X.K S (st'.lay a (excH a C' dd)) (.ref a) (.exc c' fs) := .exc hC' upd_same (RepX.keep ((Gh.lay_step ok' na).kept ok') rx)
        have sr2 := (sr'.lay ok' (o := excH a C' dd) na).evo_val (i := j) rv
        refine ⟨.ref a, by rw [List.getElem?_set_self (by rw [sr'.len]; exact hj)], ?_⟩
        exact h _ (st'.lay a (excH a C' dd)) ok2 e' (ev'.trans (evo_lay ok' na)) ((sr2.evo_val (i := i) rv).un)
      · subst e
        exact h (.ref C') dd σ' st' ok' e' ev' sr' ⟨C', hC', rfl, rx⟩
theorem fs_try_no (KO : KlOk T X.K kl) (hs : X.stack = X.env :: X.outer) (hf : X.env.frame = some X.env.locals) (hC : T.cls c = some C) (hc : Names X x (.ref C)) (tk : Takes X Wout)
    (hb : ∀ (W : WX) (pn : List (Addr × Obj)) (xe : Value → Shared → Prop), Takes (X.tr pn xe) W → PassesOwn (model X.prog X.w) X.A X.env xe → PSs (X.tr pn xe) body (tS T X.K W fb))
    (hsu : ∀ (a : Addr) (pn : List (Addr × Obj)), PSs (X.suite a pn) (b₀ :: suite) (tSeq (tAsg (tC .non) (gName i)) fun D σ H => D.nx σ H)) :
    PS X (.Try body [.ExceptHandler (some (.Name x np)) none (b₀ :: suite) pos'] [] [] pos) (tS T X.K Wout (tryF kl fb c none i)) := by
  refine PS.mono (ps_try_only (c := .ref C) hs hf hc tk hb fun a oe cls d pn _ _ => hsu a ((a, oe) :: pn)) ?_
  rintro D σ H ⟨S, st, ρ, rfl, ok, sr, h⟩
  refine ⟨S, st, ρ, rfl, ok, sr, ?_⟩
  unfold tryF at h
  cases hr : fb ρ st.g with
  | bad => rw [hr] at h; exact h
  | nx ρ1 g1 => rw [hr] at h; exact h
  | bk ρ1 g1 => rw [hr] at h; exact h
  | ct ρ1 g1 => rw [hr] at h; exact h
  | rt d g1 => rw [hr] at h; exact h
  | exc c' fs ρ1 g1 =>
    rw [hr] at h
    dsimp only at h
    rintro cv dd σ' st' ok' e' ev' sr' ⟨C', hC', rfl, rx⟩
    cases ho : kl.own c' c with
    | none => rw [ho] at h; exact h.elim
    | some b =>
      rw [ho] at h
      refine ⟨b, KO.exm _ _ _ _ _ ho hC' hC, fun e => ?_, fun e => ?_⟩
      · subst e
        intro a na
        exact h _ st' ok' e' ev' (sr'.evo_val (i := i) .non)
      · subst e
        exact h (.ref C') dd σ' st' ok' e' ev' sr' ⟨C', hC', rfl, rx⟩
end
end Z

set_option Elab.async false
set_option linter.all false
set_option maxRecDepth 100000
set_option maxHeartbeats 4000000
/-! ZG: calls where no text of a thing is under way; repr. -/
namespace ZG
open PySem PySem.Spec PyProof.Rows L2
/-- a def's promise, where no repr is under way around the call -/
structure FnG (P : Program) (w : World) (K : PySem.W.Frag) (mg : Str → Option Value) (base : Heap) (CX : CXT) (k : Nat) (f : Addr) (fd : FuncData) (ps : List Str) (sp : Sp) : Prop where
  len : ∀ vs H Q E, sp vs H Q E → vs.length = ps.length
  run : ∀ (A : Around) (ou : List Env) (s : Shared) (H : Hp) (ar : Args) (us : List Value) (vs : List V) (Q : VK) (E : XK), Room k A → A.guards = some [] → Env0 P w K mg base A ou s H → BindsTo s fd ar (ps.zip us) → Vals vs us → sp vs H Q E →
    codeAny (model P w) A (.call (.ref f) ar) (CR CX ou P w H s Q E) s
section
variable {CX : CXT} {P : Program} {w : World} {K : PySem.W.Frag} {mg : Str → Option Value} {base : Heap} {k : Nat} {f : Addr} {N ps : List Str} {sp : Sp}
theorem fnG_of {name qual : Str} {params : Arguments} {body : List Stmt} {scope : Scope} {dV kV doc pm cdv ct oc : Value} {an od : Option Addr} {osl : Array (Option Value)}
    (at_ : K.lookup f = some ⟨oc, od, .func (PySem.W.fnOf name qual params body scope dV kV doc pm an cdv ct), osl⟩) (code : PySem.W.codeIn K cdv qual = true) (S : FnScope N ps scope) (len : ∀ vs H Q E, sp vs H Q E → vs.length = ps.length)
    (walk : ∀ (A : Around) (ou : List Env) (s : Shared) (H : Hp) (vs : List V) (Q : VK) (E : XK), Room k (A.deeper (envOfC qual scope s.heap.objs.size f cdv)) → A.guards = some [] → sp vs H Q E →
      ∃ t, PSs (cxOf CX P w K mg base N qual scope f cdv A ou s H E) body t ∧ t { nx := fun _ H' => Q .non H', rt := Q } (start N vs) H) :
    FnG P w K mg base CX (k + 1) f (PySem.W.fnOf name qual params body scope dV kV doc pm an cdv ct) ps sp := by
  refine ⟨len, fun A ou s H ar us vs Q E room gd e0 bd rv hs => ?_⟩
  have hl := len _ _ _ _ hs
  have here : K.In s.heap := e0.mod.kin.keeps fun b o z => (e0.bs b o z).1
  have free : s.heap.NoLimit := e0.mod.nolimit.keeps fun b o z => (e0.bs b o z).1
  have kinds : ∀ y ∈ ps.zip us, scope.names.lookup y.1 = some .local ∨ (scope.names.lookup y.1 = some .cell ∧ ((cellsFrom (s.heap.objs.size + 1) scope.names []).lookup y.1).isSome = true) := by
    rintro ⟨nm, v⟩ hy
    rcases S.par nm (List.of_mem_zip hy).1 with z | z
    · exact .inl z
    · exact .inr ⟨z, PySem.W.cellsFrom_some _ _ _ (.inl z)⟩
  refine codeAny_call_function room.depth (here _ _ at_) rfl S.co S.gen rfl (PySem.W.codeRec_of here code) (bd _ _ _ _ ?_)
  refine wpAny_newFunctionEnv_cells S.kind kinds fun env he t1 x => ?_
  subst he
  refine ⟨free.keeps x.toInCall.keep, codeAny_func ?_⟩
  obtain ⟨t, ht, hq⟩ := walk A ou s H vs Q E (room.deeper _) gd hs
  have J : Inv (cxOf CX P w K mg base N qual scope f cdv A ou s H E) [] (start N vs) H t1 := inv_start S room.hd e0 hl rv x
  have back : ∀ {τ : L2.St} {H' : Hp} {v : V} {u : Value} {s' : Shared}, Inv (cxOf CX P w K mg base N qual scope f cdv A ou s H E) [] τ H' s' → RelV v u → Q v H' → CE ou P w H s Q u s' :=
    fun {τ H' v u s'} J' r' q => ⟨v, H', J'.os, J'.bare, J'.base, J'.hok, r', q⟩
  refine wpAny_mono (ht.run [] t1 (start N vs) H _ J hq) (fun fl s' hz => ?_) fun e s' hz => hz
  cases fl with
  | next =>
    obtain ⟨τ, H', J', q⟩ := hz
    exact back (v := V.non) (u := Value.none) J' rfl q
  | ret u =>
    obtain ⟨v, τ, H', J', r', q⟩ := hz
    exact back J' r' q
  | cont =>
    obtain ⟨_, _, _, q⟩ := hz
    exact q.elim
  | brk =>
    obtain ⟨_, _, _, q⟩ := hz
    exact q.elim
theorem FunD.okG {x qual : Str} {params : Arguments} {body : List Stmt} {scope : Scope} {dvs : List V} {kws : List (Str × V)} {fd : FuncData} (F : FunD K x qual params body scope dvs kws f fd) (S : FnScope N ps scope) (len : ∀ vs H Q E, sp vs H Q E → vs.length = ps.length)
    (walk : ∀ (cdv : Value), (∃ (oc : Value) (od : Option Addr) (fd' : FuncData) (osl : Array (Option Value)), K.lookup f = some ⟨oc, od, .func fd', osl⟩ ∧ fd'.code = cdv) → ∀ (A : Around) (ou : List Env) (s : Shared) (H : Hp) (vs : List V) (Q : VK) (E : XK), Room k (A.deeper (envOfC qual scope s.heap.objs.size f cdv)) → A.guards = some [] → sp vs H Q E →
      ∃ t, PSs (cxOf CX P w K mg base N qual scope f cdv A ou s H E) body t ∧ t { nx := fun _ H' => Q .non H', rt := Q } (start N vs) H) : FnG P w K mg base CX (k + 1) f fd ps sp := by
  obtain ⟨oc, od, dV, kV, doc, pm, an, cdv, ct, osl, rfl, lk, hc, _, _⟩ := F.ex
  exact fnG_of lk hc S len fun A ou s H vs Q E room gd hs => walk cdv ⟨_, _, _, _, lk, rfl⟩ A ou s H vs Q E room gd hs
end
section
variable {X : Cx} {CX : CXT} {k : Nat} {f : Addr} {fd : FuncData} {ps : List Str} {sp : Sp} {dvs : List V} {ds : List Value} {E : L2.St → XK} {x : Str} {p pos : Pos} {e : Expr} {es : List Expr} {t : TA}
theorem run_fnG {pins : List (Addr × Obj)} {σ : L2.St} {H : Hp} {s : Shared} {Q : VK} {us : List Value} {vs : List V} (F : FnG X.prog X.w X.K X.mg X.base CX k f fd ps sp) (room : Room k X.A) (gd : X.A.guards = some []) (hb : Binds X.K fd ps ds) (hd : Vals dvs ds) (pass : PassesAt CX X σ (E σ))
    (J : Inv X pins σ H s) (r : Vals vs us) (h : sp (vs ++ dvs) H Q (E σ)) : wpAny (model X.prog X.w) X.A (call (.ref f) us) (EP X pins σ Q) X.xe s := by
  have rr : Vals (vs ++ dvs) (us ++ ds) := r.append hd
  have ll : (us ++ ds).length = ps.length := rr.length.symm.trans (F.len _ _ _ _ h)
  refine wpAny_call (codeAny_mono (F.run X.A X.stack s H ⟨us, []⟩ (us ++ ds) (vs ++ dvs) Q (E σ) room gd J.env0 (hb s us J.kIn ll) rr h) fun res s' hq => ?_)
  match res, hq with
  | .error e, hq => exact pass pins H s e s' J hq
  | .ok (.ret u), hq => exact J.after hq
theorem pe_callG (F : FnG X.prog X.w X.K X.mg X.base CX k f fd ps sp) (room : Room k X.A) (gd : X.A.guards = some []) (hg : Gl X x) (hm : X.mg x = some (.ref f)) (hk : PySem.W.keepIn X.K (.ref f) = true) (hb : Binds X.K fd ps ds) (hd : Vals dvs ds) (pass : ∀ σ : L2.St, PassesAt CX X σ (E σ))
    (ha : PA X (e :: es) t) (ndb : (x == ("__debug__" : Str)) = false) (st1 : starEach (e :: es) X.env = (false, eval e X.env) :: starEach es X.env) (st2 : (backTo pos (starEach es X.env)).any (·.1) = false) :
    PE X (.Call (.Name x p) (e :: es) [] pos) (tCallSD sp dvs E t) := by
  refine ⟨fun pins s σ H Q J h => wpAny_Call_Name_kw (ld_glob J hg hm ?_ ndb)⟩
  refine PySem.W.callWith_K (h₀ := X.base) J.ok.mod.kin hk (thn (ha.run pos pins s σ H _ J h) fun us t1 ⟨vs, H1, J1, r, q⟩ => ⟨J1.kIn, ?_⟩) st1 st2
  exact run_fnG F room gd hb hd (pass σ) J1 r q
end
/-- nothing but the script and the tables may be tracked -/
def OnlyT (cs : List (Addr × Addr)) (H : Hp) : Prop := ∀ b, H b = none ∨ b ∈ cs.map Prod.snd ∨ ∃ o xs, H b = some (.frz o (.lst xs))
def noTab : Obj := { cls := .none, data := .fields #[] }
/-- the law's call; cs: code objects of defs with lambdas, their tables -/
theorem law_callG {P : Program} {w : World} {K : PySem.W.Frag} {mg mb : Str → Option Value} {CX : CXT} {k : Nat} {fa a : Addr} {fd : FuncData} {x : Str} {sp : Sp} {t0 : Shared} {vs : List Value} {ns : List Int} {cs : List (Addr × Addr)}
    (here : K.In t0.heap) (hns : t0.heap.Ns mainGlobals mg) (hb : t0.heap.Ns builtinsNs mb) (hbb : ∀ y : Str, y ≠ "__name__" → mb y = bootBuiltins y) (free : t0.heap.NoLimit) (hg : t0.gens = #[])
    (tT : ∀ p ∈ cs, t0.heap.get? p.2 = some noTab) (tK : ∀ p ∈ cs, K.lookup p.2 = none) (tC : ∀ p ∈ cs, PySem.W.CodeHd t0.heap p.1 p.2)
    (tb : ∃ (bm : Addr) (ob : Obj), mg "__builtins__" = some (.ref bm) ∧ bm ≠ builtinsNs ∧ t0.heap.get? bm = some ob ∧ ob.cls = .type "module" ∧ ob.dict = some builtinsNs ∧ ob.data = .plain)
    (ha : t0.heap.get? a = some { cls := .type "list", data := .seq vs.toArray }) (hi : IntsAre vs ns) (hl : ns.length ≤ sizeLine) (room : Room k callerA)
    (F : ∀ base : Heap, K.In base → base.Ns mainGlobals mg → (∀ p ∈ cs, LamX.TabB base mg p.1 p.2) → FnG P w K mg base CX k fa fd [x] sp) (bd : ∀ (s : Shared) (u : Value), BindsTo s fd ⟨[u], []⟩ [(x, u)])
    (hs : ∀ H : Hp, OnlyT cs H → (∀ p ∈ cs, H p.2 = some (.tbl #[])) → SqL K H a (ns.map V.int) → sp [.ref a] H (fun v _ => v = .bl true) fun _ _ _ => False) (hx : ∀ H e s', CX [] H t0 (fun _ _ _ => False) e s' → False) :
    codeAny (model P w) callerA (.call (.ref fa) ⟨[.ref a], []⟩) (fun r s' => r = .ok (.ret (.bool true)) ∧ OldK t0.heap s'.heap ∧ s'.os = t0.os ∧ AllBare s'.gens) t0 := by
  have rv := vals_ints hi
  have lenV := hi.length
  have inT : ∀ {b : Addr}, b ∈ cs.map Prod.snd → t0.heap.get? b = some noTab := fun {b} hb => by
    obtain ⟨p, hp, rfl⟩ := List.mem_map.1 hb
    exact tT p hp
  have ofT : ∀ p ∈ cs, p.2 ∈ cs.map Prod.snd := fun p hp => List.mem_map.2 ⟨p, hp, rfl⟩
  have naT : a ∉ cs.map Prod.snd := fun z => by
    have y := inT z
    rw [ha] at y
    exact absurd (congrArg Obj.data (Option.some.inj y)) (fun y => nomatch y)
  have main : ∀ H : Hp, OnlyT cs H → (∀ p ∈ cs, H p.2 = some (.tbl #[])) → SqL K H a (ns.map V.int) → HOk P w H t0.heap → (∀ b, H b ≠ none → b = a ∨ b ∈ cs.map Prod.snd) → (H a ≠ none → K.lookup a = none) →
      codeAny (model P w) callerA (.call (.ref fa) ⟨[.ref a], []⟩) (fun r s' => r = .ok (.ret (.bool true)) ∧ OldK t0.heap s'.heap ∧ s'.os = t0.os ∧ AllBare s'.gens) t0 := by
    intro H hO hH hS hok only hK
    have hid : ∀ {b : Addr} {o : Obj}, t0.heap.get? b = some o → H b = none → (hidT t0.heap H).get? b = some o := fun z nz => hidT_get z nz
    have away : ∀ {b : Addr} {o : Obj}, t0.heap.get? b = some o → (∀ vs n, o.data ≠ .seq vs n) → o.data ≠ .fields #[] → H b = none := fun {b o} z d1 d2 => by
      cases q : H b with
      | none => rfl
      | some u =>
        rcases only b (by rw [q]; exact fun y => nomatch y) with rfl | y
        · rw [ha] at z
          cases z
          exact absurd rfl (d1 _ _)
        · rw [inT y] at z
          cases z
          exact absurd rfl d2
    have off : ∀ {b : Addr} {o : Obj} {es : Array DictEntry} {ep : Nat}, t0.heap.get? b = some o → o.data = .dict es ep → H b = none := fun {b o es ep} z d =>
      away z (fun vs n y => by rw [d] at y; cases y) fun y => by rw [d] at y; cases y
    have nsH : ∀ {b : Addr} {m : Str → Option Value}, t0.heap.Ns b m → (hidT t0.heap H).Ns b m := fun {b m} ⟨o, es, ep, z, d, r⟩ => ⟨o, es, ep, hid z (off z d), d, r⟩
    have inH : K.In (hidT t0.heap H) := fun b o z => hid (here b o z) (by
      cases q : H b with
      | none => rfl
      | some u =>
        rcases only b (by rw [q]; exact fun y => nomatch y) with rfl | y
        · rw [hK (by rw [q]; exact fun y => nomatch y)] at z
          cases z
        · obtain ⟨p, hp, rfl⟩ := List.mem_map.1 y
          rw [tK p hp] at z
          cases z)
    have md : Mod K mg (hidT t0.heap H) := ⟨inH, nsH hns, ⟨mb, nsH hb, hbb⟩, let ⟨mc, z1, z2⟩ := free; ⟨mc, nsH z1, z2⟩⟩
    have notG : ∀ {b : Addr} {o : Obj}, t0.heap.get? b = some o → (∀ es ep, o.data ≠ .dict es ep) → b ≠ mainGlobals := fun {b o} z d y => by
      obtain ⟨o', es, ep, z', d', _⟩ := hns
      rw [y, z'] at z
      cases z
      exact d _ _ d'
    have TB : ∀ p ∈ cs, LamX.TabB (hidT t0.heap H) mg p.1 p.2 := fun p hp => by
      have hTp := tT p hp
      refine ⟨?_, ?_, fun y => notG hTp (fun es ep z => nomatch z) y.symm⟩
      · obtain ⟨o, us, file, tf, flags, tg, inF, text, tt, z1, r1, r2, r3, r⟩ := tC p hp
        exact ⟨o, us, file, tf, flags, tg, inF, text, tt, hid z1 (away z1 (fun vs n y => by rw [r2] at y; cases y) fun y => by rw [r2] at y; cases y; simp at r3), r1, r2, r3, r⟩
      · obtain ⟨bm, ob, y1, y2, y3, y4, y5, y6⟩ := tb
        refine ⟨bm, ob, y1, y2, notG y3 (fun es ep z => by rw [y6] at z; cases z), fun q => ?_, hid y3 (away y3 (fun vs n y => by rw [y6] at y; cases y) fun y => by rw [y6] at y; cases y), y4, y5, y6⟩
        rw [q, hTp] at y3
        cases y3
        cases y6
    have e0 : Env0 P w K mg (hidT t0.heap H) callerA [] t0 H := ⟨rfl, md, fun b o z => of_hidT z, Nat.le_of_eq (hidT_size _ _), trivial, (fun b z => by cases z), hok, .of_eq hg⟩
    refine codeAny_mono ((F _ inH (nsH hns) TB).run callerA [] t0 H ⟨[.ref a], []⟩ [.ref a] [.ref a] _ _ room rfl e0 (bd t0 (.ref a)) (.cons rfl .nil) (hs H hO hH hS)) fun r s' h => ?_
    match r, h with
    | .error e, h => exact (hx H e s' h).elim
    | .ok (.ret u), ⟨v, H', os, bare, un, hok', r', q⟩ =>
      have q' : v = .bl true := q
      subst q'
      obtain rfl : u = Value.bool true := r'
      have old : ∀ b o, b ∉ cs.map Prod.snd → t0.heap.get? b = some o → s'.heap.get? b = some o := fun b o nb z => by
        cases q : H b with
        | none => exact un.keep b o z q (fun y => by cases y) (fun y => by cases y)
        | some u =>
          rcases hO b with y | y | ⟨ob, xs, y⟩
          · rw [q] at y; cases y
          · exact absurd y nb
          · obtain ⟨z1, _⟩ := hok b _ y
            obtain ⟨z2, _⟩ := hok' b _ (un.frzs b ob _ y)
            rw [z] at z1
            cases z1
            exact z2
      have more : ∀ p ∈ cs, ∃ xs : Array Value, s'.heap.get? p.2 = some { cls := .none, data := .fields xs } := fun p hp => by
        obtain ⟨xs, z⟩ := un.tbls p.2 #[] (hH p hp)
        exact ⟨_, hok' p.2 _ z⟩
      refine ⟨rfl, ⟨fun b o z => ?_, fun b o z => ?_⟩, os, bare⟩
      · rcases Decidable.em (b ∈ cs.map Prod.snd) with y | y
        · obtain ⟨p, hp, rfl⟩ := List.mem_map.1 y
          obtain ⟨xs, hm⟩ := more p hp
          have z' := tT p hp
          rw [z] at z'
          cases z'
          exact .inr (.inl ⟨((tC p hp).tab (tT p hp)).isCodeTable, rfl, #[], xs, rfl, by rw [Array.empty_append]; exact hm⟩)
        · exact .inl (old b o y z)
      · rcases Decidable.em (b ∈ cs.map Prod.snd) with y | y
        · obtain ⟨p, hp, rfl⟩ := List.mem_map.1 y
          obtain ⟨xs, hm⟩ := more p hp
          exact ⟨_, hm⟩
        · exact ⟨o, old b o y z⟩
  cases hk : K.lookup a with
  | some o =>
    have z := here a o hk
    rw [ha] at z
    cases z
    have hA : (fun b => if b ∈ cs.map Prod.snd then some (HO.tbl #[]) else none) a = none := if_neg naT
    refine main (fun b => if b ∈ cs.map Prod.snd then some (.tbl #[]) else none) (fun b => ?_) (fun p hp => if_pos (ofT p hp)) (.inr ⟨_, vs.toArray, _, hk, rfl, rfl, rfl, by rw [List.size_toArray, lenV]; exact hl, by simpa using rv⟩) (fun b u y => ?_) (fun b y => ?_) fun y => absurd hA y
    · rcases Decidable.em (b ∈ cs.map Prod.snd) with y | y
      · exact .inr (.inl y)
      · exact .inl (if_neg y)
    · rcases Decidable.em (b ∈ cs.map Prod.snd) with z | z
      · have y := (if_pos z).symm.trans y
        cases y
        exact inT z
      · have y := (if_neg z).symm.trans y
        cases y
    · rcases Decidable.em (b ∈ cs.map Prod.snd) with z | z
      · exact .inr z
      · exact absurd (if_neg z) y
  | none =>
    have tA : ∀ p ∈ cs, ¬ p.2 = a := fun p hp z => naT (by rw [← z]; exact ofT p hp)
    refine main (fun b => if b = a then some (.frz { cls := .type "list", data := .seq vs.toArray } (.lst (ns.map V.int))) else if b ∈ cs.map Prod.snd then some (.tbl #[]) else none) (fun b => ?_) (fun p hp => (if_neg (tA p hp)).trans (if_pos (ofT p hp))) (.inl (.inr ⟨{ cls := .type "list", data := .seq vs.toArray }, if_pos rfl⟩)) (fun b u y => ?_) (fun b y => ?_) fun _ => hk
    · by_cases y : b = a
      · exact .inr (.inr ⟨_, _, if_pos y⟩)
      · rcases Decidable.em (b ∈ cs.map Prod.snd) with z | z
        · exact .inr (.inl z)
        · exact .inl ((if_neg y).trans (if_neg z))
    · by_cases z : b = a
      · have y := (if_pos z).symm.trans y
        cases y
        subst z
        exact ⟨ha, by rw [List.length_map]; exact hl, vs, _, rv, ha⟩
      · have y := (if_neg z).symm.trans y
        rcases Decidable.em (b ∈ cs.map Prod.snd) with z2 | z2
        · have y := (if_pos z2).symm.trans y
          cases y
          exact inT z2
        · have y := (if_neg z2).symm.trans y
          cases y
    · by_cases z : b = a
      · exact .inl z
      · rcases Decidable.em (b ∈ cs.map Prod.snd) with z2 | z2
        · exact .inr z2
        · exact absurd ((if_neg z).trans (if_neg z2)) y
/-! ### repr -/
section
variable {X : Cx}
theorem call_reprZ (gd : X.A.guards = some []) (hu : X.A.units + 80 < cLine) : CallR X (.builtin "repr") (fun xs H Q => ∃ x d, xs = [x] ∧ Dp X.K H x d ∧ d.showable = true ∧ d.hasDict = false ∧ d.depth ≤ 64 ∧ d.shown.length ≤ sizeLine ∧ Q (.str d.shown) H) := by
  intro pins s σ H xs us Q J r h
  obtain ⟨x, d, rfl, hd, h1, h2, h3, h4, q⟩ := h
  obtain ⟨u, rfl, rx⟩ := vals1 r
  obtain ⟨as, rd⟩ := Dp.reads J d x u hd rx
  have fin : ∀ (m : Str), m = d.shown → ∀ (h' : Heap) (tk0 tk : Nat), (∀ b o, s.heap.get? b = some o → h'.get? b = some o) → EP X pins σ Q (.str m tk0) { s with heap := h', toks := tk } := fun m em h' tk0 tk keep =>
    ⟨.str d.shown, H, J.kept (t' := tk) keep, by subst em; exact ⟨tk0, rfl⟩, q⟩
  cases rd with
  | none => exact PySem.P.repr_of_none (fin _ (PyData.shown_none).symm s.heap _ _ fun _ _ e => e)
  | bool b => exact PySem.P.repr_of_bool (fin _ (PyData.shown_bool b).symm s.heap _ _ fun _ _ e => e)
  | int i t => exact PySem.P.repr_of_int (by simpa [PyData.showable] using h1) (fin _ (PyData.shown_int i).symm s.heap _ _ fun _ _ e => e)
  | str y t => exact PySem.P.repr_of_str (fin _ (PyData.shown_str y).symm s.heap _ _ fun _ _ e => e) (by rw [← PyData.shown_str]; exact h4)
  | list z1 z2 z3 z4 => exact repr_of_reads' (.list z1 z2 z3 z4) h1 (PyData.noDict_hsm h2) gd (by omega) (fun _ _ e => e) (fun h' u' tk keep => fin _ rfl h' _ tk keep) h4
  | tuple z1 z2 z3 z4 => exact repr_of_reads' (.tuple z1 z2 z3 z4) h1 (PyData.noDict_hsm h2) gd (by omega) (fun _ _ e => e) (fun h' u' tk keep => fin _ rfl h' _ tk keep) h4
  | dict z1 z2 z3 z4 z5 => simp [PyData.hasDict] at h2
end
end ZG

set_option Elab.async false
set_option linter.all false
set_option maxRecDepth 100000
set_option maxHeartbeats 4000000
/-! Z15: the translation of expressions, sound. -/
namespace Z
open PySem PySem.Spec PyProof.Rows L2

inductive GK where
  | fn (i np : Nat) (dfl : List D) (ps : List Str) (km : List Nat)
  | cls (c : Nat) (rs : Bool)
  | con (d : D)
  | dct (kvs : List (Str × D))
/-- what the translation knows of the def -/
structure Sc where
  N : List Str
  names : List (Str × NameKind)
  orig : List (Str × NameKind)
  own : List Nat
  gl : List (Str × GK)
  blt : List Str
def ixOf (x : Str) : List Str → Nat → Option Nat
  | [], _ => none
  | y :: r, i => if y = x then some i else ixOf x r (i + 1)
theorem ixOf_ok {x : Str} : ∀ {l : List Str} {i j : Nat}, ixOf x l i = some j → i ≤ j ∧ l[j - i]? = some x
  | [], _, _, h => by cases h
  | y :: r, i, j, h => by
    unfold ixOf at h
    split at h
    · rename_i e
      cases h
      exact ⟨Nat.le_refl _, by rw [Nat.sub_self]; exact congrArg some e⟩
    · obtain ⟨h1, h2⟩ := ixOf_ok h
      refine ⟨by omega, ?_⟩
      have : j - i = (j - (i + 1)) + 1 := by omega
      rw [this]; exact h2
def noDbg (x : Str) : Bool := !(x == ("__debug__" : Str)) && !(x == ("__classdict__" : Str)) && !(x == ("__name__" : Str))
def isVis (names : List (Str × NameKind)) (x : Str) : Bool := match names.lookup x with
  | some .local => true
  | some .cell => true
  | some .free => true
  | _ => false
def isLoc (sc : Sc) (x : Str) : Bool := match sc.names.lookup x with
  | some .local => true
  | some .cell => match sc.orig.lookup x with
    | some .cell => true
    | _ => false
  | _ => false
def isGl (names : List (Str × NameKind)) (x : Str) : Bool := match names.lookup x with
  | some .globalImplicit => true
  | _ => false
def varIx (sc : Sc) (x : Str) : Option Nat := if isVis sc.names x && noDbg x then ixOf x sc.N 0 else none
def locIx (sc : Sc) (x : Str) : Option Nat := if isLoc sc x && noDbg x then ixOf x sc.N 0 else none
def glK (sc : Sc) (x : Str) : Option GK := if isGl sc.names x && noDbg x then sc.gl.lookup x else none
/-- a built-in by its own name -/
def bltIs (sc : Sc) (x : Str) (n : Str) : Bool := decide (x = n) && isGl sc.names x && sc.blt.contains x
def tyTab : List (Str × String) := [("int", "int"), ("bool", "bool"), ("str", "str"), ("tuple", "tuple"), ("list", "list"), ("dict", "dict"), ("ValueError", "ValueError"), ("TypeError", "TypeError"), ("Exception", "Exception"), ("float", "float")]
theorem tyTab_ok : ∀ p ∈ tyTab, bootBuiltins p.1 = some (.type p.2) ∧ p.1 ≠ "__name__" ∧ (p.1 == ("__debug__" : Str)) = false := by
  intro p hp
  simp only [tyTab, List.mem_cons, List.not_mem_nil, or_false] at hp
  rcases hp with rfl | rfl | rfl | rfl | rfl | rfl | rfl | rfl | rfl | rfl <;> exact ⟨rfl, by decide, by decide⟩
def trName (sc : Sc) (x : Str) : Option E := match varIx sc x with
  | some i => some (.var i)
  | none => match glK sc x with
    | some (.cls c _) => some (.con (.cls c))
    | some (.fn i _ _ _ _) => some (.con (.fn i))
    | some (.con d) => some (.con d)
    | some (.dct _) => none
    | none => if isGl sc.names x && sc.blt.contains x then match tyTab.lookup x with
        | some n => some (.con (.ty n))
        | none => none
      else none
def trConst : PySem.Const → Option D
  | .none => some .non
  | .bool b => some (.bl b)
  | .int i => some (.int i)
  | .str s => some (.str s)
  | _ => none

/-! ### what is known of a context -/
/-- what a written dict tells of a key -/
def DctV (T : Tb) (K : PySem.W.Frag) (o : Option Value) : Option D → Prop
  | some d => ∃ u v, o = some u ∧ RelV v u ∧ ∀ (hm : List Addr) (A : Addr → Prop) (H : Hp), Rep T K hm A H v d
  | none => o = none
/-- the whole text's facts -/
structure GlobF (P : Program) (w : World) (K : PySem.W.Frag) (mg : Str → Option Value) (base : Heap) (T : Tb) (kl : Kl) (gl : List (Str × GK)) (blt : List Str) : Prop where
  kl : KlOk T K kl
  blt : ∀ x ∈ blt, mg x = none
  cls : ∀ x c rs, gl.lookup x = some (.cls c rs) → ∃ C, mg x = some (.ref C) ∧ T.cls c = some C ∧ (rs = true → (∃ B n i bm, ExcBaseFacts B n i bm ∧ PySem.W.excIn K C bm n = true) ∧ PySem.W.keepIn K (.ref C) = true ∧ PySem.W.subIn K (.ref C) (.type "BaseException") = some true ∧ PySem.W.typeIn K (.ref C) = some (.type "type"))
  fn : ∀ x i np dfl ps km, gl.lookup x = some (.fn i np dfl ps km) → ∃ f, mg x = some (.ref f) ∧ T.fn i = some f ∧ PySem.W.keepIn K (.ref f) = true
  con : ∀ x d, gl.lookup x = some (.con d) → ∃ u v, mg x = some u ∧ RelV v u ∧ ∀ (hm : List Addr) (A : Addr → Prop) (H : Hp), Rep T K hm A H v d
  dct : ∀ x kvs, gl.lookup x = some (.dct kvs) → ∃ a es n, mg x = some (.ref a) ∧ L2.KDict K w a es n ∧ ∀ z, DctV T K (findBy Value.isStrOf es z) (kvs.lookup z)
/-- the defs at a level -/
structure FnsAt (P : Program) (w : World) (K : PySem.W.Frag) (mg : Str → Option Value) (base : Heap) (T : Tb) (gl : List (Str × GK)) (n : Nat) (cl : Cal) : Prop where
  fn : ∀ x i np dfl ps km, gl.lookup x = some (.fn i np dfl ps km) → ∃ f fd, mg x = some (.ref f) ∧ ps.length = np ∧ (∃ oc od osl, K.lookup f = some ⟨oc, od, .func fd, osl⟩) ∧ ZG.FnG P w K mg base (L2.CX P w) n f fd ps (spF T K np (cl i)) ∧ (∀ ds g, cl i ds g ≠ .bad → ds.length = np) ∧
    (∀ j, j ≤ dfl.length → ∃ (vs : List V) (us : List Value), Vals vs us ∧ Binds K fd ps us ∧ vs.length = dfl.length - j ∧ ∀ (hm : List Addr) (A : Addr → Prop) (H : Hp), Reps T K hm A H vs (dfl.drop j)) ∧
    (∀ m ∈ km, KBn K fd ps m (ps.drop m) (fun us ws => us ++ ws) (fun vs zs => vs ++ zs))
structure CxF (T : Tb) (kl : Kl) (sc : Sc) (n : Nat) (cl : Cal) (X : Cx) (W : WX) : Prop where
  gl : GlobF X.prog X.w X.K X.mg X.base T kl sc.gl sc.blt
  fns : FnsAt X.prog X.w X.K X.mg X.base T sc.gl n cl
  calm : X.calm = true
  nd : X.N.Nodup
  N : X.N = sc.N
  names : X.env.scope.names = sc.names
  kind : X.env.scope.kind = .function
  fnn : ∀ x, sc.orig.lookup x = some .cell → X.fn x = true
  room : Room n X.A
  grd : X.A.guards = some []
  tk : Takes X W
  lam : sc.own.contains 2000 = true → ∃ c P, X.env.code = .ref c ∧ (P, X.env.qual ++ "<lambda>") ∈ T.tabs ∧ (∀ q, (P, q) ∈ T.tabs → q = X.env.qual ++ "<lambda>") ∧ LamX.TabB X.base X.mg c P
section
variable {T : Tb} {kl : Kl} {sc : Sc} {n : Nat} {cl : Cal} {X : Cx} {W : WX}
theorem isVis_ok (F : CxF T kl sc n cl X W) {x : Str} (h : isVis sc.names x = true) : Vis X.env.scope x := by
  unfold Vis
  rw [F.names]
  unfold isVis at h
  split at h <;> first | exact .inl ‹_› | exact .inr (.inl ‹_›) | exact .inr (.inr ‹_›) | cases h
theorem isLoc_ok (F : CxF T kl sc n cl X W) {x : Str} (h : isLoc sc x = true) : L2.Loc X.env.scope x := by
  unfold L2.Loc
  rw [F.names]
  unfold isLoc at h
  split at h <;> first | exact .inl ‹_› | exact .inr ‹_› | cases h
theorem isLoc_fn (F : CxF T kl sc n cl X W) {x : Str} (h : isLoc sc x = true) : X.fn x = true ∨ X.env.scope.names.lookup x = some .local := by
  rw [F.names]
  unfold isLoc at h
  split at h
  · exact .inr ‹_›
  · split at h
    · exact .inl (F.fnn x ‹_›)
    · cases h
  · cases h
theorem isGl_ok (F : CxF T kl sc n cl X W) {x : Str} (h : isGl sc.names x = true) : Gl X x := by
  unfold Gl Env.kindOf
  rw [F.names]
  unfold isGl at h
  split at h
  · assumption
  · cases h
theorem noDbg_ok {x : Str} (h : noDbg x = true) : (x == ("__debug__" : Str)) = false ∧ (x == ("__classdict__" : Str)) = false ∧ (x == ("__name__" : Str)) = false := by
  unfold noDbg at h
  rw [Bool.and_eq_true, Bool.and_eq_true] at h
  obtain ⟨⟨h1, h2⟩, h3⟩ := h
  exact ⟨by simpa using h1, by simpa using h2, by simpa using h3⟩
theorem varIx_ok (F : CxF T kl sc n cl X W) {x : Str} {i : Nat} (h : varIx sc x = some i) : X.N[i]? = some x ∧ Vis X.env.scope x ∧ (x == ("__debug__" : Str)) = false ∧ (x == ("__classdict__" : Str)) = false := by
  unfold varIx at h
  split at h
  · rename_i e
    rw [Bool.and_eq_true] at e
    obtain ⟨h1, h2⟩ := ixOf_ok h
    obtain ⟨d1, d2, _⟩ := noDbg_ok e.2
    exact ⟨by rw [F.N]; exact h2, isVis_ok F e.1, d1, d2⟩
  · cases h
theorem locIx_ok (F : CxF T kl sc n cl X W) {x : Str} {i : Nat} (h : locIx sc x = some i) : X.N[i]? = some x ∧ L2.Loc X.env.scope x ∧ (X.fn x = true ∨ X.env.scope.names.lookup x = some .local) := by
  unfold locIx at h
  split at h
  · rename_i e
    rw [Bool.and_eq_true] at e
    obtain ⟨h1, h2⟩ := ixOf_ok h
    exact ⟨by rw [F.N]; exact h2, isLoc_ok F e.1, isLoc_fn F e.1⟩
  · cases h
theorem glK_ok (F : CxF T kl sc n cl X W) {x : Str} {k : GK} (h : glK sc x = some k) : Gl X x ∧ sc.gl.lookup x = some k ∧ (x == ("__debug__" : Str)) = false := by
  unfold glK at h
  split at h
  · rename_i e
    rw [Bool.and_eq_true] at e
    exact ⟨isGl_ok F e.1, h, (noDbg_ok e.2).1⟩
  · cases h
theorem bltIs_ok (F : CxF T kl sc n cl X W) {x nm : Str} (h : bltIs sc x nm = true) : x = nm ∧ Gl X x ∧ X.mg x = none := by
  unfold bltIs at h
  rw [Bool.and_eq_true, Bool.and_eq_true] at h
  exact ⟨of_decide_eq_true h.1.1, isGl_ok F h.1.2, F.gl.blt x (by simpa using h.2)⟩

/-! ### shapes -/
/-- an expression that stands where a value is asked, no star, no slice, no set display -/
def plainX : Expr → Bool
  | .Starred _ _ => false
  | .Slice _ _ _ _ => false
  | .Set _ _ _ => false
  | .SetComp _ _ _ _ => false
  | .DictComp _ _ _ _ _ => false
  | _ => true
/-- .. and no and, or, not, if, comparison -/
def leafX : Expr → Bool
  | .UnaryOp .Not _ _ => false
  | .BoolOp _ _ _ => false
  | .IfExp _ _ _ _ => false
  | .Compare _ _ _ _ => false
  | _ => true
theorem plain_star {e : Expr} {es : List Expr} {env : Env} (h : plainX e = true) : starEach (e :: es) env = (false, eval e env) :: starEach es env := by
  cases e <;> first | rfl | cases h
theorem plain_ix {e : Expr} (h : plainX e = true) : PlainIx e := by
  cases e <;> first | (intro o i; rfl) | cases h
theorem plain_fold {e : Expr} {env : Env} (h : plainX e = true) (x : Value) : foldedSetIterable e env x = pure x := by
  cases e <;> first | rfl | cases h
theorem plain_behind {e : Expr} {op : CmpOp} (h : plainX e = true) : behindInMarks op e = false := by
  cases e <;> first | rfl | cases h
theorem leaf_true {e : Expr} {env : Env} (h : leafX e = true) (whole : Sem Value) : isTrue e env whole = (do let v ← whole; standAt e.pos; holding [v] (truthy v)) := by
  cases e with
  | UnaryOp op a p => cases op <;> first | rfl | cases h
  | BoolOp => cases h
  | IfExp => cases h
  | Compare => cases h
  | _ => rfl
def isComp : Expr → Bool
  | .ListComp _ _ _ _ => true
  | _ => false
theorem plain_swap {e : Expr} {t : Option Expr} {l : Nat} {env : Env} (h : plainX e = true) (hc : isComp e = false) : swapsWith e t l env = pure false := by
  cases e <;> first | rfl | (cases h; done) | (cases hc; done)

/-- what is to be shown of an expression -/
structure Snd (T : Tb) (kl : Kl) (cl : Cal) (X : Cx) (W : WX) (rd : List Nat) (e : Expr) (A : E) : Prop where
  pe : PE X e (tE T X.K W rd (evE kl cl rd A))
  pt : PT X e (tTest (tE T X.K W rd (evE kl cl rd A)))
  plain : plainX e = true
  fr : isFresh (freshen A) = true → PE X e (tEF T X.K W rd (evE kl cl rd (freshen A))) ∧ ListF (evE kl cl rd (freshen A))
variable {rd : List Nat}
theorem Snd.leaf {e : Expr} {A : E} (h : PE X e (tE T X.K W rd (evE kl cl rd A))) (hp : plainX e = true) (hl : leafX e = true) (hf : isFresh (freshen A) = false := by rfl) : Snd T kl cl X W rd e A := ⟨h, pt_val h (leaf_true hl), hp, fun z => by rw [hf] at z; cases z⟩
theorem Snd.leafEq {e : Expr} {A : E} {f : EvF} (h : PE X e (tE T X.K W rd f)) (ef : evE kl cl rd A = f) (hp : plainX e = true) (hl : leafX e = true) (hf : isFresh (freshen A) = false := by rfl) : Snd T kl cl X W rd e A := by
  subst ef; exact .leaf h hp hl hf

theorem trConst_ok {c : PySem.Const} {d : D} (h : trConst c = some d) {j : Nat} {pos : Pos} : ∃ v, PE X (.Constant c j pos) (tC v) ∧ Const T X.K v d := by
  cases c <;> first | (cases h; done) | cases h
  · exact ⟨_, pe_non, fun _ _ _ => .non⟩
  · exact ⟨_, pe_bl, fun _ _ _ => .bl _⟩
  · exact ⟨_, pe_int, fun _ _ _ => .int _⟩
  · exact ⟨_, pe_str, fun _ _ _ => .str _⟩
theorem lookup_mem {α β : Type} [BEq α] [LawfulBEq α] {x : α} {b : β} : ∀ {l : List (α × β)}, l.lookup x = some b → (x, b) ∈ l
  | [], h => by cases h
  | p :: r, h => by
    obtain ⟨p1, p2⟩ := p
    rw [List.lookup_cons] at h
    split at h
    · rename_i e
      cases h
      rw [eq_of_beq e]
      exact List.mem_cons_self
    · exact List.mem_cons_of_mem _ (lookup_mem h)
theorem trName_ok (F : CxF T kl sc n cl X W) {x : Str} {A : E} {pos : Pos} (h : trName sc x = some A) : Snd T kl cl X W rd (.Name x pos) A := by
  unfold trName at h
  split at h
  · rename_i i hi
    cases h
    obtain ⟨h1, h2, h3, h4⟩ := varIx_ok F hi
    exact .leafEq (fe_var (pe_var h1 h2 h3 h4)) rfl rfl rfl
  · split at h
    · rename_i c rs hc
      cases h
      obtain ⟨h1, h2, h3⟩ := glK_ok F hc
      obtain ⟨C, m1, m2, _⟩ := F.gl.cls x _ _ h2
      exact .leafEq (fe_con (pe_glob (v := .ref C) h1 m1 rfl h3) fun _ _ _ => .cls m2) rfl rfl rfl
    · rename_i i _ _ _ _ hc
      cases h
      obtain ⟨h1, h2, h3⟩ := glK_ok F hc
      obtain ⟨C, m1, m2, _⟩ := F.gl.fn x _ _ _ _ _ h2
      exact .leafEq (fe_con (pe_glob (v := .ref C) h1 m1 rfl h3) fun _ _ _ => .fn m2) rfl rfl rfl
    · rename_i d hc
      cases h
      obtain ⟨h1, h2, h3⟩ := glK_ok F hc
      obtain ⟨u, v, m1, rv, m2⟩ := F.gl.con x _ h2
      exact .leafEq (fe_con (pe_glob (v := v) h1 m1 rv h3) fun hm A H => m2 hm A H) rfl rfl rfl
    · cases h
    · split at h
      · rename_i e
        rw [Bool.and_eq_true] at e
        split at h
        · rename_i nm ht
          cases h
          obtain ⟨b1, b2, b3⟩ := tyTab_ok _ (lookup_mem ht)
          exact .leafEq (fe_con (pe_bltn (v := .ty nm) (isGl_ok F e.1) (F.gl.blt x (by simpa using e.2)) b1 rfl b2 b3) fun _ _ _ => .ty nm) rfl rfl rfl
        · cases h
      · cases h

/-! ### operators -/
theorem ev_prim1 {p : P} {A : E} : evE kl cl rd (.prim p (.cons A .nil)) = un1 (evE kl cl rd A) (fun x => p.sem kl [x]) := by
  funext ρ g
  show ((evE kl cl rd A ρ g).bind fun x => _).bind _ = _
  unfold un1
  cases evE kl cl rd A ρ g <;> rfl
theorem ev_prim2 {p : P} {A B : E} : evE kl cl rd (.prim p (.cons A (.cons B .nil))) = bin2 (evE kl cl rd A) (evE kl cl rd B) (fun x y => p.sem kl [x, y]) := by
  funext ρ g
  show ((evE kl cl rd A ρ g).bind fun x => _).bind _ = _
  unfold bin2
  cases evE kl cl rd A ρ g with
  | bad => rfl
  | exc => rfl
  | ok a =>
    have e : evEs kl cl rd (.cons B .nil) ρ a.2 = (evE kl cl rd B ρ a.2).bind fun x => (R.ok (([] : List D), x.2)).bind fun y => .ok (x.1 :: y.1, y.2) := rfl
    rw [R.bind_ok, R.bind_ok, e]
    cases evE kl cl rd B ρ a.2 <;> rfl
theorem ev_prim3 {p : P} {A B C : E} : evE kl cl rd (.prim p (.cons A (.cons B (.cons C .nil)))) = tri (evE kl cl rd A) (evE kl cl rd B) (evE kl cl rd C) (fun x y z => p.sem kl [x, y, z]) := by
  funext ρ g
  show ((evE kl cl rd A ρ g).bind fun x => _).bind _ = _
  unfold tri
  cases evE kl cl rd A ρ g with
  | bad => rfl
  | exc => rfl
  | ok a =>
    have e : evEs kl cl rd (.cons B (.cons C .nil)) ρ a.2 = (evE kl cl rd B ρ a.2).bind fun x => ((evE kl cl rd C ρ x.2).bind fun x => (R.ok (([] : List D), x.2)).bind fun y => .ok (x.1 :: y.1, y.2)).bind fun y => .ok (x.1 :: y.1, y.2) := rfl
    rw [R.bind_ok, R.bind_ok, e]
    cases evE kl cl rd B ρ a.2 with
    | bad => rfl
    | exc => rfl
    | ok b =>
      rw [R.bind_ok, R.bind_ok]
      cases evE kl cl rd C ρ b.2 <;> rfl
theorem ev_primL {p : P} {Es : Es} : evE kl cl rd (.prim p Es) = lsF (evEs kl cl rd Es) (p.sem kl) := rfl
def trOp : Operator → Option P
  | .Add => some .add
  | .Sub => some .sub
  | .Mult => some .mul
  | .FloorDiv => some .fdiv
  | .Mod => some .mod
  | .Pow => some .pow
  | .LShift => some .shl
  | .RShift => some .shr
  | .BitAnd => some .band
  | _ => none
theorem trOp_ok {op : Operator} {p : P} (h : trOp op = some p) : ∃ r, OpR X (binaryOp op) r ∧ PrimR T X.K r (fun x y => p.sem kl [x, y]) := by
  cases op <;> first | (cases h; done) | cases h
  · exact ⟨_, op_addZ, pr_add⟩
  · exact ⟨_, op_subZ, pr_sub⟩
  · exact ⟨_, op_mulZ, pr_mul⟩
  · exact ⟨_, op_mod, pr_mod⟩
  · exact ⟨_, op_powZ, pr_pow⟩
  · exact ⟨_, op_shlZ, pr_shl⟩
  · exact ⟨_, op_shr, pr_shr⟩
  · exact ⟨_, op_and, pr_and⟩
  · exact ⟨_, op_fdivZ, pr_fdiv⟩
def trCmpOp : CmpOp → Option P
  | .Eq => some .eq
  | .NotEq => some .ne
  | .Lt => some .lt
  | .LtE => some .le
  | .Gt => some .gt
  | .GtE => some .ge
  | .Is => some .isB
  | .IsNot => some .notB
  | .In => some .in_
  | .NotIn => some .notIn
theorem trCmpOp_ok (hu : X.A.units + 65 < cLine) {op : CmpOp} {p : P} (h : trCmpOp op = some p) : ∃ r, OpR X (compareOp op) r ∧ PrimR T X.K r (fun x y => p.sem kl [x, y]) := by
  cases op <;> first | (cases h; done) | cases h
  · exact ⟨_, op_eqD (by omega), pr_eq⟩
  · exact ⟨_, op_neD (by omega), pr_ne⟩
  · exact ⟨_, op_lt, pr_lt⟩
  · exact ⟨_, op_le, pr_le⟩
  · exact ⟨_, op_gt, pr_gt⟩
  · exact ⟨_, op_ge, pr_ge⟩
  · exact ⟨_, op_isBl, pr_isB⟩
  · exact ⟨_, op_notBl, pr_notB⟩
  · exact ⟨_, op_inZ hu, pr_in⟩
  · exact ⟨_, op_notInZ hu, pr_notIn⟩
theorem snd_op {a b : Expr} {op : Operator} {p : P} {A B : E} {pos : Pos} (h : trOp op = some p) (sa : Snd T kl cl X W rd a A) (sb : Snd T kl cl X W rd b B) : Snd T kl cl X W rd (.BinOp a op b pos) (.prim p (.cons A (.cons B .nil))) := by
  obtain ⟨r, h1, h2⟩ := trOp_ok (X := X) (T := T) (kl := kl) h
  have q : PE X (.BinOp a op b pos) (tE T X.K W rd (evE kl cl rd (.prim p (.cons A (.cons B .nil))))) := by rw [ev_prim2]; exact fe_bin (pe_op h1 sa.pe sb.pe) h2
  refine ⟨q, pt_val q (leaf_true rfl), rfl, fun hf => ?_⟩
  cases op <;> cases h <;> first | (cases hf; done) | skip
  have e : evE kl cl rd (freshen (.prim .add (.cons A (.cons B .nil)))) = bin2 (evE kl cl rd A) (evE kl cl rd B) semAddL := ev_prim2 (p := .addL)
  rw [e]
  exact ⟨fe_addF sa.pe sb.pe, bin2_list⟩
theorem snd_cmp (hu : X.A.units + 65 < cLine) {a b : Expr} {op : CmpOp} {p : P} {A B : E} {pos : Pos} (h : trCmpOp op = some p) (sa : Snd T kl cl X W rd a A) (sb : Snd T kl cl X W rd b B) : Snd T kl cl X W rd (.Compare a [op] [b] pos) (.prim p (.cons A (.cons B .nil))) := by
  obtain ⟨r, h1, h2⟩ := trCmpOp_ok (X := X) (T := T) (kl := kl) hu h
  refine ⟨?_, ?_, rfl, by cases op <;> cases h <;> exact fun z => nomatch z⟩
  · rw [ev_prim2]; exact fe_bin (pe_cmpR h1 sa.pe sb.pe (plain_behind sb.plain)) h2
  · rw [ev_prim2]; exact ft_bin (pt_cmpR h1 sa.pe sb.pe (plain_behind sb.plain)) h2
theorem snd_not {a : Expr} {A : E} {pos : Pos} (sa : Snd T kl cl X W rd a A) : Snd T kl cl X W rd (.UnaryOp .Not a pos) (.prim .not (.cons A .nil)) := by
  refine ⟨?_, ?_, rfl, fun z => nomatch z⟩
  · rw [ev_prim1]; exact fe_not (a := a) (pe_not sa.pe)
  · rw [ev_prim1]; exact ft_not (pt_not sa.pt)
end
end Z

set_option Elab.async false
set_option linter.all false
set_option maxRecDepth 100000
set_option maxHeartbeats 4000000
/-! Z16: the translation of expressions: lists, calls, indexing, displays, comprehensions. -/
namespace Z
open PySem PySem.Spec PyProof.Rows L2

/-! ### the functions -/
def trList (t : Expr → Option E) : List Expr → Option Es
  | [] => some .nil
  | e :: es => match t e with
    | some A => match trList t es with
      | some B => some (.cons A B)
      | none => none
    | none => none
def trBool (t : Expr → Option E) (f : E → E → E) : List Expr → Option E
  | [] => none
  | e :: es => match es with
    | [] => t e
    | _ => match t e with
      | some A => match trBool t f es with
        | some B => some (f A B)
        | none => none
      | none => none
def Es.ofD : List D → Es
  | [] => .nil
  | d :: ds => .cons (.con d) (Es.ofD ds)
def Es.cat : Es → Es → Es
  | .nil, B => B
  | .cons e es, B => .cons e (Es.cat es B)
def Es.app (B : Es) (ds : List D) : Es := B.cat (Es.ofD ds)
def trCmp (t : Expr → Option E) (a : Expr) (ops : List CmpOp) (bs : List Expr) : Option E := match ops, bs with
  | [op], [b] => match op, b with
    | .Is, .Constant .none _ _ => match t a with
      | some A => some (.prim .isN (.cons A .nil))
      | none => none
    | .IsNot, .Constant .none _ _ => match t a with
      | some A => some (.prim .notN (.cons A .nil))
      | none => none
    | op, b => match trCmpOp op, t a, t b with
      | some p, some A, some B => some (.prim p (.cons A (.cons B .nil)))
      | _, _, _ => none
  | [op, op'], [b, c] => match trCmpOp op, trCmpOp op', t a, t b, t c with
    | some p, some p', some A, some B, some C => some (.chain p p' A B C)
    | _, _, _, _, _ => none
  | _, _ => none
def bltTab : List (Str × P × Nat) := [("isinstance", .isinst, 2), ("abs", .abs, 1), ("len", .len, 1), ("min", .min2, 2), ("max", .max2, 2), ("int", .toInt, 1), ("all", .all, 1), ("list", .toLst, 1), ("tuple", .toTup, 1), ("sum", .sum, 1), ("any", .any, 1), ("repr", .repr_, 1), ("str", .str_, 1)]
def kwNames : List Keyword → List (Option Str)
  | [] => []
  | k :: ks => k.arg :: kwNames ks
def kwVals : List Keyword → List Expr
  | [] => []
  | k :: ks => k.value :: kwVals ks
/-- a def of the text that takes just k -/
def okFn (sc : Sc) (k i : Nat) : Bool := match sc.gl.find? (fun p => match p.2 with | .fn j _ _ _ _ => j == i | _ => false) with
  | some p => match sc.gl.lookup p.1 with
    | some (.fn j np _ _ _) => decide (j = i ∧ np = k)
    | _ => false
  | none => false
def fnNo : GK → Option Nat
  | .fn i _ _ _ _ => some i
  | _ => none
/-- all defs that take just k -/
def fnsOf (sc : Sc) (k : Nat) : List Nat := (sc.gl.filterMap fun p => fnNo p.2).filter (okFn sc k)
def fnEs (sc : Sc) (k : Nat) : Es → Bool
  | .nil => true
  | .cons (.con (.fn i)) r => okFn sc k i && fnEs sc k r
  | _ => false
/-- one of a display of defs, by its place -/
def isFnIx (sc : Sc) (k : Nat) : E → Bool
  | .prim .ix (.cons (.prim .mkLst Fs) (.cons _ .nil)) => fnEs sc k Fs
  | _ => false
/-- list(reversed(e)) -/
def trRevL (sc : Sc) (t : Expr → Option E) (x : Str) (args : List Expr) (kws : List Keyword) : Option E := match args, kws with
  | [.Call (.Name y _) [e] [] _], [] => if bltIs sc x "list" && bltIs sc y "reversed" then match t e with
      | some A => some (.prim .revL (.cons A .nil))
      | none => none
    else none
  | _, _ => none
/-- tuple(range(e)), list(range(e)) -/
def trTupRg (sc : Sc) (t : Expr → Option E) (x : Str) (args : List Expr) (kws : List Keyword) : Option E := match args, kws with
  | [.Call (.Name y _) [e] [] _], [] => if bltIs sc x "tuple" && bltIs sc y "range" then match t e with
      | some A => some (.prim .tupRg (.cons A .nil))
      | none => none
    else if bltIs sc x "list" && bltIs sc y "range" then match t e with
      | some A => some (.prim .lstRg (.cons A .nil))
      | none => none
    else none
  | _, _ => none
def trCall (sc : Sc) (t : Expr → Option E) (f : Expr) (args : List Expr) (kws : List Keyword) : Option E := match f with
  | .Name x _ => match trRevL sc t x args kws with
   | some A => some A
   | none => match trTupRg sc t x args kws with
   | some A => some A
   | none => match args, trList t args with
    | e :: es, some B => match kws with
      | [] => match glK sc x with
        | some (.fn i np dfl ps _) => if (e :: es).length ≤ np ∧ np ≤ (e :: es).length + dfl.length then some (.call i (B.app (dfl.drop (dfl.length - (np - (e :: es).length))))) else none
        | some (.cls _ _) => none
        | some (.con _) => none
        | some (.dct _) => none
        | none => if isGl sc.names x && sc.blt.contains x then match bltTab.lookup x with
            | some (p, k) => if (e :: es).length = k then some (.prim p B) else if x = "max" ∧ (e :: es).length = 1 then some (.prim .maxL B) else none
            | none => none
          else match varIx sc x with
            | some i => some (.callp i (fnsOf sc (e :: es).length) B)
            | none => none
      | kws => match glK sc x, trList t (kwVals kws) with
        | some (.fn i np dfl ps km), some C => if (e :: es).length + kws.length = np ∧ km.contains (e :: es).length = true ∧ kwNames kws = (ps.drop (e :: es).length).map some then some (.call i (B.cat C)) else none
        | _, _ => none
    | _, _ => none
  | .Subscript o i p => match args, trList t args with
    | e :: es, some B => match kws with
      | [] => match t (.Subscript o i p) with
        | some A => if isFnIx sc (e :: es).length A = true then some (.callv A B) else none
        | none => none
      | _ => none
    | _, _ => none
  | _ => none
/-- x.get(k, d) of a written dict x -/
def trGet (sc : Sc) (t : Expr → Option E) (f : Expr) (args : List Expr) (kws : List Keyword) (cpos : Pos) : Option E := match f, args, kws with
  | .Attribute (.Name x _) m apos, [e, f], [] => if m = "get" ∧ (apos.endLine == cpos.line) = true then match glK sc x, t e, t f with
      | some (.dct kvs), some A, some B => some (.cget kvs A B)
      | _, _, _ => none
    else none
  | _, _, _ => none
/-- x[k] of a written dict -/
def trKdIx (sc : Sc) (t : Expr → Option E) (o i : Expr) : Option E := match o with
  | .Name x _ => match glK sc x, t i with
    | some (.dct kvs), some A => some (.cix kvs A)
    | _, _ => none
  | _ => none
/-- k in x, k not in x of a written dict -/
def trKdIn (sc : Sc) (t : Expr → Option E) (a : Expr) (ops : List CmpOp) (bs : List Expr) : Option E := match ops, bs with
  | [.In], [.Name x _] => match glK sc x, t a with
    | some (.dct kvs), some A => some (.cin false kvs A)
    | _, _ => none
  | [.NotIn], [.Name x _] => match glK sc x, t a with
    | some (.dct kvs), some A => some (.cin true kvs A)
    | _, _ => none
  | _, _ => none
mutual
/-- raises nothing -/
def calmE : E → Bool
  | .var _ => true
  | .con _ => true
  | .prim _ es => calmEs es
  | _ => false
def calmEs : Es → Bool
  | .nil => true
  | .cons e es => calmE e && calmEs es
end
def trSub (sc : Sc) (t : Expr → Option E) (o i : Expr) : Option E := match i with
  | .Constant (.str key) _ _ => match t o with
    | some A => some (.hget A key)
    | none => none
  | .Slice (some lo) none none _ => match t o, t lo with
    | some A, some B => some (.prim .slo (.cons A (.cons B .nil)))
    | _, _ => none
  | .Slice none (some hi) none _ => match t o, t hi with
    | some A, some B => some (.prim .shi (.cons A (.cons B .nil)))
    | _, _ => none
  | .Slice (some lo) (some hi) none _ => match t o, t lo, t hi with
    | some A, some B, some C => if calmE C then some (.prim .slb (.cons A (.cons B (.cons C .nil)))) else none
    | _, _, _ => none
  | .Slice none none (some (.UnaryOp .USub (.Constant (.int 1) _ _) _)) _ => match t o with
    | some A => some (.prim .rev (.cons A .nil))
    | none => none
  | i => match o, i with
    | .Subscript o' (.Constant (.str key) _ _) _, .Name y _ => match t o', varIx sc y with
      | some A, some j => some (.hgetix A key j)
      | _, _ => none
    | o, i => match t o, t i with
      | some A, some B => some (.prim .ix (.cons A (.cons B .nil)))
      | _, _ => none
def trNm (sc : Sc) (e : Expr) : Option (Str × Nat) := match e with
  | .Name x _ => match locIx sc x with
    | some i => some (x, i)
    | none => none
  | _ => none
def trNms (sc : Sc) : List Expr → Option (List (Str × Nat))
  | [] => some []
  | e :: es => match trNm sc e, trNms sc es with
    | some p, some ps => some (p :: ps)
    | _, _ => none
def trTg (sc : Sc) (e : Expr) : Option (Tg × List (Str × Nat)) := match e with
  | .Name _ _ => match trNm sc e with
    | some p => some (.nm p.2, [p])
    | none => none
  | .Tuple es _ _ => match trNms sc es with
    | some ps => some (.tp (ps.map (·.2)), ps)
    | none => none
  | _ => none
def isTupX : Expr → Bool
  | .Tuple _ _ _ => true
  | _ => false
def trIt (sc : Sc) (t : Expr → Option E) (tgt e : Expr) : Option (Ik × Es) := match e with
  | .Call (.Name x _) args [] _ => if bltIs sc x "range" then match args, trList t args with
      | [_], some B => some (.rng, B)
      | [_, _], some B => some (.rng, B)
      | _, _ => none
    else if bltIs sc x "zip" && isTupX tgt then match args, trList t args with
      | [_, _], some B => some (.zip, B)
      | _, _ => none
    else if bltIs sc x "enumerate" && isTupX tgt then match args, trList t args with
      | [_], some B => some (.enum, B)
      | _, _ => none
    else match t e with
      | some A => some (.seq, .cons A .nil)
      | none => none
  | e => match t e with
    | some A => some (.seq, .cons A .nil)
    | none => none
def relab (names : List (Str × NameKind)) : List (Str × NameKind) → List (Str × NameKind)
  | [] => []
  | (n, k) :: r => (if k == .free && names.lookup n == some .cell then (n, .cell) else (n, k)) :: relab names r
def scopeIn (sc : Sc) (scope : Scope) : Sc := { sc with names := relab sc.names scope.names, orig := scope.names }
def fakeS (sc : Sc) : Scope := { kind := .function, names := sc.names, isGenerator := false, isCoroutine := false }
def trComp (sc : Sc) (tr : Sc → Expr → Option E) (elt : Expr) (gens : List Comprehension) (scope : Scope) : Option E := match gens with
  | [g] => if g.is_async = 0 then match trIt sc (tr sc) g.target g.iter, trTg (scopeIn sc scope) g.target, tr (scopeIn sc scope) elt with
    | some (k, Es), some (tg, own), some A => if blkC sc.N (fakeS sc) scope own && plainX g.iter then match g.ifs with
        | [] => some (.comp k Es tg (.con (.bl true)) A)
        | [c] => match tr (scopeIn sc scope) c with
          | some C => some (.comp k Es tg C A)
          | none => none
        | _ => none
      else none
    | _, _, _ => none
    else none
  | _ => none
def trKeys : List (Option Expr) → Option (List Str)
  | [] => some []
  | some (.Constant (.str key) _ _) :: r => match trKeys r with
    | some ks => some (key :: ks)
    | none => none
  | _ => none
def trDict (t : Expr → Option E) (keys : List (Option Expr)) (values : List Expr) : Option E := match trKeys keys, trList t values with
  | some ks, some B => match ks, B with
    | [], .nil => some (.prim (.mkDct []) .nil)
    | [k1, k2, k3], .cons A1 (.cons A2 (.cons (.con d3) .nil)) => if isFresh A2 = true then some (.hnewL k1 k2 k3 A1 A2 d3) else some (.hnew ks B)
    | _, _ => some (.hnew ks B)
  | _, _ => none
def trE : Nat → Sc → Expr → Option E
  | 0, _, _ => none
  | n + 1, sc, e => match e with
    | .Name x _ => trName sc x
    | .Constant c _ _ => match trConst c with
      | some d => some (.con d)
      | none => none
    | .BoolOp .And vs _ => match trBool (trE n sc) .and vs with
      | some A => if isFresh (freshen A) = false then some A else none
      | none => none
    | .BoolOp .Or vs _ => match trBool (trE n sc) .or vs with
      | some A => if isFresh (freshen A) = false then some A else none
      | none => none
    | .BinOp a op b _ => match trOp op, trE n sc a, trE n sc b with
      | some p, some A, some B => some (.prim p (.cons A (.cons B .nil)))
      | _, _, _ => none
    | .UnaryOp .Not a _ => match trE n sc a with
      | some A => some (.prim .not (.cons A .nil))
      | none => none
    | .UnaryOp .USub a _ => match trE n sc a with
      | some A => some (.prim .neg (.cons A .nil))
      | none => none
    | .Compare a ops bs _ => match trKdIn sc (trE n sc) a ops bs with
      | some A => some A
      | none => trCmp (trE n sc) a ops bs
    | .IfExp c a b _ => match trE n sc c, trE n sc a, trE n sc b with
      | some C, some A, some B => some (.ite C A B)
      | _, _, _ => none
    | .Call f args kws cpos => match trGet sc (trE n sc) f args kws cpos with
      | some A => some A
      | none => trCall sc (trE n sc) f args kws
    | .List es _ => match trList (trE n sc) es with
      | some B => some (.prim .mkLst B)
      | none => none
    | .Tuple es _ _ => match trList (trE n sc) es with
      | some B => some (.prim .mkTup B)
      | none => none
    | .Subscript o i _ => match trKdIx sc (trE n sc) o i with
      | some A => some A
      | none => trSub sc (trE n sc) o i
    | .Lambda params body scope _ => match lamB params body scope with
      | some b => if sc.own.contains 2000 = true then some (.lam b) else none
      | none => none
    | .ListComp elt gens scope _ => trComp sc (trE n) elt gens scope
    | .Dict keys values _ => if keys.length = values.length ∧ keys.length ≤ 15 then trDict (trE n sc) keys values else none
    | _ => none

/-! ### soundness -/
section
variable {T : Tb} {kl : Kl} {sc : Sc} {n : Nat} {cl : Cal} {X : Cx} {W : WX} {rd : List Nat} {t : Expr → Option E}
theorem trList_pa (ht : ∀ e A, t e = some A → Snd T kl cl X W rd e A) : ∀ {es : List Expr} {B : Es}, trList t es = some B → PA X es (tEs T X.K W rd (evEs kl cl rd B)) ∧ ∀ e ∈ es, plainX e = true
  | [], B, h => by cases h; exact ⟨fes_nil, fun e z => nomatch z⟩
  | e :: es, B, h => by
    unfold trList at h
    split at h
    · rename_i A hA
      split at h
      · rename_i B' hB
        cases h
        obtain ⟨h1, h2⟩ := trList_pa ht hB
        have s := ht e A hA
        refine ⟨fes_cons s.pe h1 (plain_star s.plain), fun e' z => ?_⟩
        rcases List.mem_cons.mp z with z | z
        · subst z; exact s.plain
        · exact h2 e' z
      · cases h
    · cases h
theorem trList_len : ∀ {es : List Expr} {B : Es} {ρ : List Sl} {g : G} {q : List D × G}, trList t es = some B → evEs kl cl rd B ρ g = .ok q → q.1.length = es.length
  | [], B, ρ, g, q, h, e => by cases h; cases e; rfl
  | x :: es, B, ρ, g, q, h, e => by
    unfold trList at h
    split at h
    · rename_i A hA
      split at h
      · rename_i B' hB
        cases h
        have e : ((evE kl cl rd A ρ g).bind fun x => (evEs kl cl rd B' ρ x.2).bind fun y => R.ok (x.1 :: y.1, y.2)) = .ok q := e
        obtain ⟨a, _, e⟩ := R.bind_eq_ok e
        obtain ⟨b, hb, e⟩ := R.bind_eq_ok e
        cases e
        have := trList_len (q := b) hB hb
        simp [this]
      · cases h
    · cases h
theorem plain_stars {es : List Expr} {env : Env} (h : ∀ e ∈ es, plainX e = true) : starEach es env = es.map fun e => (false, eval e env) := by
  induction es with
  | nil => rfl
  | cons e es ih =>
    rw [plain_star (h e List.mem_cons_self), ih fun e' z => h e' (List.mem_cons_of_mem _ z)]
    rfl
theorem plain_any {es : List Expr} {env : Env} {pos : Pos} (h : ∀ e ∈ es, plainX e = true) : (backTo pos (starEach es env)).any (·.1) = false := by
  rw [plain_stars h]
  induction es with
  | nil => rfl
  | cons e es ih =>
    have := ih fun e' z => h e' (List.mem_cons_of_mem _ z)
    show ((false : Bool) || (backTo pos (es.map fun e => (false, eval e env))).any (·.1)) = false
    rw [this]; rfl

/-! and, or -/
theorem trBool_and (ht : ∀ e A, t e = some A → Snd T kl cl X W rd e A) {pos : Pos} : ∀ {es : List Expr} {A : E}, trBool t .and es = some A → PE X (.BoolOp .And es pos) (tE T X.K W rd (evE kl cl rd A)) ∧ PW X (.BoolOp .And es pos) (tTest (tE T X.K W rd (evE kl cl rd A)))
  | [], _, h => by cases h
  | [e], A, h => by
    have s := ht e A h
    exact ⟨pe_one s.pe, pw_and1 s.pt⟩
  | e :: e2 :: es, A, h => by
    have h : (match t e with
      | some A => match trBool t .and (e2 :: es) with
        | some B => some (E.and A B)
        | none => none
      | none => none) = some A := h
    split at h
    · rename_i A1 h1
      split at h
      · rename_i B h2
        cases h
        have s := ht e _ h1
        obtain ⟨r1, r2⟩ := trBool_and ht (pos := pos) h2
        refine ⟨fe_and (fa := evE kl cl rd A1) (fb := evE kl cl rd B) (pe_and s.pe r1), ⟨fun wh pins s0 σ H Q I q => (pw_and s.pt r2).run wh pins s0 σ H Q I (andT_mono (fa := evE kl cl rd A1) (fb := evE kl cl rd B) σ H Q q)⟩⟩
      · cases h
    · cases h
theorem trBool_or (ht : ∀ e A, t e = some A → Snd T kl cl X W rd e A) {pos : Pos} : ∀ {es : List Expr} {A : E}, trBool t .or es = some A → PE X (.BoolOp .Or es pos) (tE T X.K W rd (evE kl cl rd A)) ∧ PW X (.BoolOp .Or es pos) (tTest (tE T X.K W rd (evE kl cl rd A)))
  | [], _, h => by cases h
  | [e], A, h => by
    have s := ht e A h
    exact ⟨pe_one s.pe, pw_or1 s.pt⟩
  | e :: e2 :: es, A, h => by
    have h : (match t e with
      | some A => match trBool t .or (e2 :: es) with
        | some B => some (E.or A B)
        | none => none
      | none => none) = some A := h
    split at h
    · rename_i A1 h1
      split at h
      · rename_i B h2
        cases h
        have s := ht e _ h1
        obtain ⟨r1, r2⟩ := trBool_or ht (pos := pos) h2
        refine ⟨fe_or (fa := evE kl cl rd A1) (fb := evE kl cl rd B) (pe_or s.pe r1), ⟨fun wh pins s0 σ H Q I q => (pw_or s.pt r2).run wh pins s0 σ H Q I (orT_mono (fa := evE kl cl rd A1) (fb := evE kl cl rd B) σ H Q q)⟩⟩
      · cases h
    · cases h
end
end Z

set_option Elab.async false
set_option linter.all false
set_option maxRecDepth 100000
set_option maxHeartbeats 4000000
/-! Z17: soundness of the translation: comparisons, calls, indexing. -/
namespace Z
open PySem PySem.Spec PyProof.Rows L2

/-! ### lambdas of one name that tell one truth -/
theorem bind1 {q x : Str} {p : Pos} {b : Bool} {j : Nat} {p' : Pos} {mo : List (Str × PySem.Const)} {pm ctv u : Value} {c : Addr} : bindArgs (PySem.W.kla_fn "<lambda>" q ⟨[], [⟨x, none, p⟩], none, [], [], none, []⟩ (.Constant (.bool b) j p') ⟨.function, [(x, .local)], false, false, mo⟩ [] pm (.ref c) ctv) ⟨[u], []⟩ = pure [(x, u)] := by
  have e : List.lookup x [(x, u)] = some u := by rw [List.lookup_cons, beq_self_eq_true]
  have s0 : seqItems? .none = pure none := rfl
  unfold bindArgs
  dsimp only [List.map_cons, List.map_nil, List.nil_append, List.zip_cons_cons, List.zip_nil_right]
  simp [e, s0]
section
variable {X : Cx} {T : Tb} {pins : List (Addr × Obj)} {σ : L2.St} {H : Hp} {s : Shared}
theorem call_lam {f c : Addr} {q : Str} {b : Bool} {u : Value} {Q : VK} (I : Inv X pins σ H s) (h1 : H f = some (LamO f c q b)) (h2 : H c = some (LamX.CodeO c q)) (hr : X.A.depth < recursionLimit) (h : Q (.bl b) H) :
    wpAny (model X.prog X.w) X.A (call (.ref f) [u]) (EP X pins σ Q) X.xe s := by
  obtain ⟨⟨params, body, scope, pm, ctv, ho, hl⟩, _⟩ := I.hok f _ h1
  obtain ⟨⟨oc, vs, t, hoc, hd, hv⟩, _⟩ := I.hok c _ h2
  unfold lamB at hl
  split at hl
  · rename_i x p b' j p' y mo
    split at hl
    · rename_i exy
      subst exy
      cases hl
      refine wpAny_call (codeAny_mono (R := fun r s' => match r with | .ok (.ret v) => EP X pins σ Q v s' | .ok _ => False | .error e => X.xe e s') ?_ fun r s' hq => hq)
      refine PySem.W.kla_callFunE hr ho rfl rfl rfl rfl ⟨c, oc, vs, t, rfl, hoc, hd, hv⟩ ?_
      have hb : bindArgs (PySem.W.kla_fn "<lambda>" q ⟨[], [⟨x, none, p⟩], none, [], [], none, []⟩ (.Constant (.bool b) j p') ⟨.function, [(x, .local)], false, false, mo⟩ [] pm (.ref c) ctv) ⟨[u], []⟩ = pure [(x, u)] := bind1
      rw [hb]
      refine wpAny_pure (wpAny_newFunctionEnv (fun z hz => ?_) (fun z hz => ?_) (fun h₁ hns hsb => ⟨I.nolimit.fresh _ hsb, ?_⟩) rfl)
      · rw [List.mem_singleton.1 hz]; exact fun z => nomatch z
      · rw [List.mem_singleton.1 hz]
        show List.lookup x [(x, NameKind.local)] = _
        rw [List.lookup_cons, beq_self_eq_true]
      · have kp : ∀ b o, s.heap.get? b = some o → h₁.get? b = some o := fun b o e => hsb.extBut b o (Nat.ne_of_lt (Heap.lt_size e)) (Heap.get?_push_of_some _ e)
        exact PySem.W.kla_codeExpr (PyProof.Rows.Constant_bool ⟨.bl b, H, I.kept kp, rfl, h⟩)
    · cases hl
  · cases hl
end
section
variable {T : Tb} {K : PySem.W.Frag} {S : Addr → Prop} {st : Gh}
theorem FldsR.tput (ok : GOk T K S st) {p : Addr} {o : HO} {j : Nat} (hp : st.ow p = some (.tab j)) {k : Nat} : ∀ {kvs : List (Key × V)} {ob : Obj1}, FldsR T K S st k kvs ob → FldsR T K S (st.put p o) k kvs ob
  | _, _, .nil => .nil
  | _, _, .imm e r rs => .imm e (Rep.keep (kept_put ok hp) r) (FldsR.tput ok hp rs)
  | _, _, .own e h1 h2 r rs => .own e h1 (by
      show upd st.H p o _ = _
      rw [upd_ne (fun e => by rw [e, hp] at h1; cases h1)]
      exact h2) (Reps.keep (kept_put ok hp) r) (FldsR.tput ok hp rs)
theorem GOk.tput (ok : GOk T K S st) {p : Addr} {ps : Array Value} {j : Nat} (hp : st.ow p = some (.tab j)) (hT : ∀ q, (p, q) ∈ T.tabs → LamX.TabS (upd st.H p (.tbl ps)) p q) : GOk T K S (st.put p (.tbl ps)) where
  live := fun a t h => by
    by_cases e : a = p
    · subst e; exact ⟨_, upd_same, rfl⟩
    · obtain ⟨u, h1, h2⟩ := ok.live a t h
      refine ⟨u, ?_, h2⟩
      show upd st.H p _ a = _
      rw [upd_ne e]; exact h1
  fr := fun a h => ok.fr a (by
    by_cases e : a = p
    · subst e
      have h : upd st.H a _ a = none := h
      rw [upd_same] at h; cases h
    · have h : upd st.H p _ a = none := h
      rw [upd_ne e] at h; exact h)
  len := ok.len
  obj := fun k o h => by
    obtain ⟨a, kvs, h1, h2, h3, h4, h5⟩ := ok.obj k o h
    refine ⟨a, kvs, h1, h2, ?_, FldsR.tput ok hp h4, h5⟩
    show upd st.H p _ a = _
    rw [upd_ne (fun e => by rw [e, hp] at h2; cases h2)]
    exact h3
  tab := fun q hq => by
    obtain ⟨a, q⟩ := q
    by_cases e : a = p
    · subst e; exact ⟨hT q hq, j, hp⟩
    · obtain ⟨⟨xs, h1, h2, h3⟩, k, hk⟩ := ok.tab _ hq
      refine ⟨⟨xs, ?_, h2, fun pos cv hc => let ⟨c, f1, f2⟩ := h3 pos cv hc; ⟨c, f1, (kept_put ok hp).fx _ _ rfl f2⟩⟩, k, hk⟩
      show upd st.H p _ a = _
      rw [upd_ne e]; exact h1
theorem step_tput (ok : GOk T K S st) {p : Addr} {o : HO} {j : Nat} (hp : st.ow p = some (.tab j)) : Step st (st.put p o) where
  pre := List.prefix_refl _
  keep := fun a u h h' => ⟨by
    show upd st.H p o a = _
    rw [upd_ne (fun e => by rw [e, hp] at h'; cases h')]; exact h, h'⟩
  slot := fun a i h => ⟨h, by
    show upd st.H p o a = _
    rw [upd_ne (fun e => by rw [e, hp] at h; cases h)]⟩
  slot' := fun _ _ h => h
  own := fun _ _ h => h
end
theorem upd_comm {H : Hp} {a b : Addr} {x y : HO} (h : a ≠ b) : upd (upd H a x) b y = upd (upd H b y) a x := by
  funext c
  by_cases h1 : c = b
  · subst h1; rw [upd_same, upd_ne (Ne.symm h), upd_same]
  · by_cases h2 : c = a
    · subst h2; rw [upd_ne h1, upd_same, upd_same]
    · rw [upd_ne h1, upd_ne h2, upd_ne h2, upd_ne h1]
theorem snd_lam {T : Tb} {kl : Kl} {sc : Sc} {n : Nat} {cl : Cal} {X : Cx} {W : WX} {rd : List Nat} (F : CxF T kl sc n cl X W) {params : Arguments} {body : Expr} {scope : Scope} {b : Bool} {pos : Pos} (hl : sc.own.contains 2000 = true) (hb : lamB params body scope = some b) :
    PE X (.Lambda params body scope pos) (tE T X.K W rd (evE kl cl rd (.lam b))) := by
  refine ⟨fun pins s σ H Q I h => ?_⟩
  obtain ⟨S, st, ρ, rfl, ok, er, h⟩ := h
  have h : post T X.K S W σ st (R.ok (.lam b, st.g)) Q := h
  obtain ⟨c, P, hcode, hm, huq, TB⟩ := F.lam hl
  obtain ⟨⟨ps, hP, ht, ha⟩, k, hk⟩ := ok.tab _ hm
  have hdef : defaultsOf params X.env = ([], []) := by
    unfold lamB at hb
    split at hb
    · rfl
    · cases hb
  have hclo : closureFor scope X.env = pure [] := by
    unfold lamB at hb
    split at hb
    · exact (closure_ok (fun z hz e => by rw [List.mem_singleton.1 hz] at e; cases e)).trans rfl
    · cases hb
  refine PySem.W.kla_eval hdef ?_
  have hP' : s.heap.get? P = some { cls := .none, data := .fields ps } := I.hok P _ hP
  generalize X.env.qual ++ "<lambda>" = q at *
  have fin : ∀ (st1 : Gh) (f c' : Addr) (pm ctv : Value) (s1 : Shared) (h2 : Heap) (tk : Tok), Inv X pins σ st1.H s1 → GOk T X.K S st1 → st1.g = st.g → Step st st1 → st1.H c' = some (LamX.CodeO c' q) → s1.heap.objs.size = f → h2 = s1.heap.push (PySem.W.kla_obj "<lambda>" q params body scope [] pm c' ctv) →
      EP X pins σ Q (.ref f) { s1 with heap := h2, toks := tk } := by
    intro st1 f c' pm ctv s1 h2 tk I1 ok1 g1 sp1 hc' hf e2
    subst e2 hf
    have nF := I1.hok.fresh (Nat.le_refl s1.heap.objs.size)
    have I2 := I1.laid (a := s1.heap.objs.size) (o := LamO s1.heap.objs.size c' q b) (h' := s1.heap.push (PySem.W.kla_obj "<lambda>" q params body scope [] pm c' ctv)) (t' := tk) (fun b u e => Heap.get?_push_of_some _ e) (Nat.le_refl _)
      ⟨⟨params, body, scope, pm, ctv, Heap.get?_push_size _ rfl, hb⟩, ⟨_, Heap.get?_push_size _ rfl⟩, fun h1 h2 ⟨p1, p2, p3, p4, p5, p6, p7⟩ stt => ⟨p1, p2, p3, p4, p5, stt _ p6, p7⟩⟩
    refine ⟨.ref s1.heap.objs.size, _, I2, rfl, h (.ref s1.heap.objs.size) (st1.lay s1.heap.objs.size (LamO s1.heap.objs.size c' q b)) (ok1.lay nF) g1 (sp1.trans (Gh.lay_step ok1 nF)) (.lam upd_same ?_)⟩
    show upd st1.H _ _ c' = _
    rw [upd_ne (ne_of_none hc' nF)]; exact hc'
  cases hc : codeAmong pos ps.toList with
  | none =>
    refine PySem.W.kla_makeFunction (mg := X.mg) (c := c) (P := P) (ps := ps) (clos := []) hclo I.ok.glob (I.mod.glob.keeps I.bk) hcode (TB.code.keeps I.bk) hP' ht hc TB.gP (TB.bm.keeps I.bk) fun c' ctv h' tk hx hge hlt hrec htb => ?_
    obtain ⟨c2, oc, vs, t, e2, hoc, hd, hv⟩ := hrec
    cases e2
    have nC : st.H c' = none := I.hok.fresh hge
    have nPc : P ≠ c' := ne_of_none hP nC
    have I1 := LamX.inv_table (t' := tk) (more := #[rawInt pos.line, rawInt pos.col, .ref c']) (h' := h') (q := q) I hP (fun b o hb e => hx b o hb e) htb hge ⟨oc, vs, t, hoc, hd, hv⟩
    have okc : GOk T X.K S (st.lay c' (LamX.CodeO c' q)) := ok.lay nC
    have eL : (ps ++ #[rawInt pos.line, rawInt pos.col, .ref c']).toList = ps.toList ++ [rawInt pos.line, rawInt pos.col, .ref c'] := by simp
    have ok1 : GOk T X.K S ((st.lay c' (LamX.CodeO c' q)).put P (.tbl (ps ++ #[rawInt pos.line, rawInt pos.col, .ref c']))) := okc.tput (j := k) hk fun q' hq' => by
      obtain rfl := huq q' hq'
      have cH : ∀ b u, (∀ xs, u ≠ .tbl xs) → st.H b = some u → upd (upd st.H c' (LamX.CodeO c' q')) P (.tbl (ps ++ #[rawInt pos.line, rawInt pos.col, .ref c'])) b = some u := fun b u hn e => by
        rw [upd_ne (fun z => by rw [z, hP] at e; cases e; exact hn _ rfl), upd_ne (ne_of_none e nC)]; exact e
      refine ⟨_, upd_same, by rw [eL]; exact PySem.TriplesOk_snoc _ _ _ _ ht, fun p' cv hcv => ?_⟩
      rw [eL] at hcv
      rcases LamX.among_app _ ht hcv with z | z
      · obtain ⟨c0, e1, e2⟩ := ha p' cv z
        exact ⟨c0, e1, cH _ _ (fun xs => LamX.codeO_ne xs) e2⟩
      · refine ⟨c', z, ?_⟩
        show upd (upd st.H c' _) P _ c' = _
        rw [upd_ne (Ne.symm nPc), upd_same]
    have sp1 : Step st ((st.lay c' (LamX.CodeO c' q)).put P (.tbl (ps ++ #[rawInt pos.line, rawInt pos.col, .ref c']))) := (Gh.lay_step ok nC).trans (step_tput okc hk)
    have eH : ((st.lay c' (LamX.CodeO c' q)).put P (.tbl (ps ++ #[rawInt pos.line, rawInt pos.col, .ref c']))).H = upd (upd st.H P (.tbl (ps ++ #[rawInt pos.line, rawInt pos.col, .ref c']))) c' (LamX.CodeO c' q) := (upd_comm nPc).symm
    exact fin _ h'.objs.size c' _ ctv { s with heap := h', toks := tk } _ tk (by rw [eH]; exact I1) ok1 rfl sp1 (by rw [eH]; exact upd_same) rfl rfl
  | some cv =>
    obtain ⟨c', e, hco⟩ := ha pos cv hc
    subst e
    refine PySem.W.kla_makeFunctionHit (mg := X.mg) (c := c) (P := P) (ps := ps) (clos := []) hclo I.ok.glob (I.mod.glob.keeps I.bk) hcode (TB.code.keeps I.bk) hP' ht hc (TB.bm.keeps I.bk) fun ctv h' tk hx hsz => ?_
    exact fin st h'.objs.size c' _ ctv { s with heap := h', toks := tk } _ tk (I.kept hx) ok rfl (Step.refl _) hco rfl rfl

section
variable {T : Tb} {kl : Kl} {sc : Sc} {n : Nat} {cl : Cal} {X : Cx} {W : WX} {rd : List Nat} {t : Expr → Option E}
theorem isN_mono {fa : EvF} {b : Bool} (σ : L2.St) (H : Hp) (Q : VK) : tE T X.K W rd (un1 fa (semIsN b)) σ H Q → tE T X.K W rd fa σ H fun x H1 => Q (.bl (decide (x = .non) == b)) H1 := by
  rintro ⟨S, st, ρ, rfl, ok, er, h⟩
  refine ⟨S, st, ρ, rfl, ok, er, post_bind h fun p hp v st1 ok1 e1 s1 r1 h1 => ?_⟩
  cases hs : semIsN b p.1 with
  | none => rw [hs] at h1; exact h1.elim
  | some z =>
    rw [hs] at h1
    have hz := r1.isN hs
    subst hz
    exact h1 _ st1 ok1 e1 (Step.refl _) (.bl _)
theorem snd_isN {a : Expr} {A : E} {pos p2 : Pos} {j : Nat} (sa : Snd T kl cl X W rd a A) : Snd T kl cl X W rd (.Compare a [.Is] [.Constant .none j p2] pos) (.prim .isN (.cons A .nil)) := by
  have m : ∀ (σ : L2.St) (H : Hp) (Q : VK), tE T X.K W rd (evE kl cl rd (.prim .isN (.cons A .nil))) σ H Q → tIsN (tE T X.K W rd (evE kl cl rd A)) σ H Q := fun σ H Q h => by
    rw [ev_prim1] at h
    have h1 := isN_mono (b := true) σ H Q h
    simpa [tIsN] using h1
  exact ⟨PE.mono (pe_cmp (pc_isN sa.pe)) m, ⟨fun pins s σ H Q I h => (pt_cmp (pc_isN sa.pe)).run pins s σ H Q I (m σ H _ h)⟩, rfl, fun z => nomatch z⟩
theorem snd_notN {a : Expr} {A : E} {pos p2 : Pos} {j : Nat} (sa : Snd T kl cl X W rd a A) : Snd T kl cl X W rd (.Compare a [.IsNot] [.Constant .none j p2] pos) (.prim .notN (.cons A .nil)) := by
  have m : ∀ (σ : L2.St) (H : Hp) (Q : VK), tE T X.K W rd (evE kl cl rd (.prim .notN (.cons A .nil))) σ H Q → tNotN (tE T X.K W rd (evE kl cl rd A)) σ H Q := fun σ H Q h => by
    rw [ev_prim1] at h
    have h1 := isN_mono (b := false) σ H Q h
    simpa [tNotN] using h1
  exact ⟨PE.mono (pe_cmp (pc_notN sa.pe)) m, ⟨fun pins s σ H Q I h => (pt_cmp (pc_notN sa.pe)).run pins s σ H Q I (m σ H _ h)⟩, rfl, fun z => nomatch z⟩
theorem snd_chain (hu : X.A.units + 65 < cLine) {a b c : Expr} {op op' : CmpOp} {p p' : P} {A B C : E} {pos : Pos} (h : trCmpOp op = some p) (h' : trCmpOp op' = some p') (sa : Snd T kl cl X W rd a A) (sb : Snd T kl cl X W rd b B) (sc : Snd T kl cl X W rd c C) :
    Snd T kl cl X W rd (.Compare a [op, op'] [b, c] pos) (.chain p p' A B C) := by
  obtain ⟨r, h1, h2⟩ := trCmpOp_ok (X := X) (T := T) (kl := kl) hu h
  obtain ⟨r', h3, h4⟩ := trCmpOp_ok (X := X) (T := T) (kl := kl) hu h'
  have hm : lastMarks [op, op'] [b, c] = false := by
    show behindInMarks op' c = false
    exact plain_behind sc.plain
  have m : ∀ (σ : L2.St) (H : Hp) (Q : VK), tE T X.K W rd (evE kl cl rd (.chain p p' A B C)) σ H Q → tChain r r' (tE T X.K W rd (evE kl cl rd A)) (tE T X.K W rd (evE kl cl rd B)) (tE T X.K W rd (evE kl cl rd C)) σ H Q := fun σ H Q h => ch_mono (fa := evE kl cl rd A) (fb := evE kl cl rd B) (fc := evE kl cl rd C) h2 h4 σ H Q h
  exact ⟨PE.mono (pe_chain h1 h3 sa.pe sb.pe sc.pe hm) m, ⟨fun pins s σ H Q I q => (pt_chain h1 h3 sa.pe sb.pe sc.pe hm).run pins s σ H Q I (m σ H _ q)⟩, rfl, fun z => nomatch z⟩
theorem trCmp_ok (hu : X.A.units + 65 < cLine) (ht : ∀ e A, t e = some A → Snd T kl cl X W rd e A) {a : Expr} {ops : List CmpOp} {bs : List Expr} {A : E} {pos : Pos} (h : trCmp t a ops bs = some A) : Snd T kl cl X W rd (.Compare a ops bs pos) A := by
  unfold trCmp at h
  split at h
  · split at h
    · split at h
      · cases h; exact snd_isN (ht _ _ ‹_›)
      · cases h
    · split at h
      · cases h; exact snd_notN (ht _ _ ‹_›)
      · cases h
    · split at h
      · rename_i h1 h2 h3
        cases h; exact snd_cmp hu h1 (ht _ _ h2) (ht _ _ h3)
      · cases h
  · split at h
    · rename_i h1 h2 h3 h4 h5
      cases h; exact snd_chain hu h1 h2 (ht _ _ h3) (ht _ _ h4) (ht _ _ h5)
    · cases h
  · cases h

/-! ### calls of built-ins -/
theorem bltTab_ok (F : CxF T kl sc n cl X W) {x : Str} {p : P} {k : Nat} (h : bltTab.lookup x = some (p, k)) : ∃ r, PrimL T X.K r (p.sem kl) ∧ ((isFresh (freshen (.prim p .nil)) = false) ∨ (p = .toLst ∧ r = rToLst X.K)) ∧ ∀ {e : Expr} {es : List Expr} {ta : TA} {p1 pos : Pos}, Gl X x → X.mg x = none → PA X (e :: es) ta →
    starEach (e :: es) X.env = (false, eval e X.env) :: starEach es X.env → (backTo pos (starEach es X.env)).any (·.1) = false → PE X (.Call (.Name x p1) (e :: es) [] pos) (tCB r ta) := by
  have hm := lookup_mem h
  simp only [bltTab, List.mem_cons, List.not_mem_nil, or_false, Prod.mk.injEq] at hm
  rcases hm with ⟨rfl, rfl, rfl⟩ | ⟨rfl, rfl, rfl⟩ | ⟨rfl, rfl, rfl⟩ | ⟨rfl, rfl, rfl⟩ | ⟨rfl, rfl, rfl⟩ | ⟨rfl, rfl, rfl⟩ | ⟨rfl, rfl, rfl⟩ | ⟨rfl, rfl, rfl⟩ | ⟨rfl, rfl, rfl⟩ | ⟨rfl, rfl, rfl⟩ | ⟨rfl, rfl, rfl⟩ | ⟨rfl, rfl, rfl⟩ | ⟨rfl, rfl, rfl⟩
  · exact ⟨_, pr_isi, .inl rfl, fun g m a s1 s2 => pe_callB (call_isZ F.gl.kl) g m rfl a (by decide) (by decide) s1 s2⟩
  · exact ⟨_, pr_abs, .inl rfl, fun g m a s1 s2 => pe_callB call_abs g m rfl a (by decide) (by decide) s1 s2⟩
  · exact ⟨_, pr_len, .inl rfl, fun g m a s1 s2 => pe_callB call_len g m rfl a (by decide) (by decide) s1 s2⟩
  · exact ⟨_, pr_min2, .inl rfl, fun g m a s1 s2 => pe_callB (call_min2 F.calm) g m rfl a (by decide) (by decide) s1 s2⟩
  · exact ⟨_, pr_max2, .inl rfl, fun g m a s1 s2 => pe_callB (call_max2 F.calm) g m rfl a (by decide) (by decide) s1 s2⟩
  · exact ⟨_, pr_toInt, .inl rfl, fun g m a s1 s2 => pe_callTy call_int1 g m rfl a (by decide) (by decide) s1 s2⟩
  · exact ⟨_, pr_all, .inl rfl, fun g m a s1 s2 => pe_callB (cr_all F.calm) g m rfl a (by decide) (by decide) s1 s2⟩
  · exact ⟨rToLst X.K, pr_toLst, .inr ⟨rfl, rfl⟩, fun g m a s1 s2 => pe_callTy call_list_of g m rfl a (by decide) (by decide) s1 s2⟩
  · exact ⟨_, pr_toTup, .inl rfl, fun g m a s1 s2 => pe_callTy call_tuple_of g m rfl a (by decide) (by decide) s1 s2⟩
  · exact ⟨_, pr_sum, .inl rfl, fun g m a s1 s2 => pe_callB (ZL.cr_sumT F.calm) g m rfl a (by decide) (by decide) s1 s2⟩
  · exact ⟨_, pr_any, .inl rfl, fun g m a s1 s2 => pe_callB (cr_any F.calm) g m rfl a (by decide) (by decide) s1 s2⟩
  · exact ⟨_, pr_repr, .inl rfl, fun g m a s1 s2 => pe_callB (ZG.call_reprZ F.grd (by have := F.room.un; omega)) g m rfl a (by decide) (by decide) s1 s2⟩
  · exact ⟨_, pr_str, .inl rfl, fun g m a s1 s2 => pe_callTy call_str_int g m rfl a (by decide) (by decide) s1 s2⟩

/-! ### calls of defs -/
theorem evEs_cat {ρ : List Sl} : ∀ {B C : Es} {g : G}, evEs kl cl rd (B.cat C) ρ g = (evEs kl cl rd B ρ g).bind fun q => (evEs kl cl rd C ρ q.2).bind fun r => .ok (q.1 ++ r.1, r.2)
  | .nil, C, g => by
    show evEs kl cl rd C ρ g = (evEs kl cl rd C ρ g).bind fun r => .ok ([] ++ r.1, r.2)
    cases evEs kl cl rd C ρ g <;> rfl
  | .cons A B, C, g => by
    show (evE kl cl rd A ρ g).bind (fun x => (evEs kl cl rd (B.cat C) ρ x.2).bind fun y => R.ok (x.1 :: y.1, y.2)) = ((evE kl cl rd A ρ g).bind fun x => (evEs kl cl rd B ρ x.2).bind fun y => R.ok (x.1 :: y.1, y.2)).bind _
    cases evE kl cl rd A ρ g with
    | bad => rfl
    | exc => rfl
    | ok a =>
      rw [R.bind_ok, R.bind_ok, evEs_cat]
      cases evEs kl cl rd B ρ a.2 with
      | bad => rfl
      | exc => rfl
      | ok b =>
        rw [R.bind_ok, R.bind_ok]
        dsimp only [R.bind]
        cases evEs kl cl rd C ρ b.2 <;> rfl
theorem evEs_ofD {ρ : List Sl} {g : G} : ∀ {ds : List D}, evEs kl cl rd (Es.ofD ds) ρ g = .ok (ds, g)
  | [] => rfl
  | d :: ds => by
    show (R.ok (d, g)).bind (fun x => (evEs kl cl rd (Es.ofD ds) ρ x.2).bind fun y => R.ok (x.1 :: y.1, y.2)) = _
    rw [R.bind_ok, evEs_ofD]; rfl
theorem evEs_app {ρ : List Sl} {g : G} {B : Es} {ds : List D} : evEs kl cl rd (B.app ds) ρ g = (evEs kl cl rd B ρ g).bind fun q => .ok (q.1 ++ ds, q.2) := by
  unfold Es.app
  rw [evEs_cat]
  cases evEs kl cl rd B ρ g with
  | bad => rfl
  | exc => rfl
  | ok b => rw [R.bind_ok, R.bind_ok, evEs_ofD]; rfl
theorem snd_call (F : CxF T kl sc n cl X W) {x : Str} {i np : Nat} {dfl : List D} {ps : List Str} {km : List Nat} {e : Expr} {es : List Expr} {B : Es} {j : Nat} {p pos : Pos} (hx : glK sc x = some (.fn i np dfl ps km)) (hj : j ≤ dfl.length) (ha : PA X (e :: es) (tEs T X.K W rd (evEs kl cl rd B))) (hp : ∀ y ∈ e :: es, plainX y = true) :
    PE X (.Call (.Name x p) (e :: es) [] pos) (tE T X.K W rd (evE kl cl rd (.call i (B.app (dfl.drop j))))) := by
  obtain ⟨h1, h2, h3⟩ := glK_ok F hx
  obtain ⟨f, fd, m1, l1, _, fo, lb, hd, _⟩ := F.fns.fn x _ _ _ _ _ h2
  obtain ⟨f', m1', _, kp⟩ := F.gl.fn x _ _ _ _ _ h2
  rw [m1] at m1'; cases m1'
  obtain ⟨vs, us, v1, b1, l2, rs⟩ := hd j hj
  refine PE.mono (ZG.pe_callG fo F.room F.grd h1 m1 kp b1 v1 (E := WE W) (passAt F.tk) ha h3 (plain_star (hp e List.mem_cons_self)) (plain_any fun y z => hp y (List.mem_cons_of_mem _ z))) ?_
  rintro σ H Q ⟨S, st, ρ, rfl, ok, er, h⟩
  refine ⟨S, st, ρ, rfl, ok, er, ?_⟩
  have e0 : evE kl cl rd (.call i (B.app (dfl.drop j))) ρ st.g = (evEs kl cl rd B ρ st.g).bind fun q => cl i (q.1 ++ dfl.drop j) q.2 := by
    show (evEs kl cl rd (B.app (dfl.drop j)) ρ st.g).bind (fun q => cl i q.1 q.2) = _
    rw [evEs_app]
    cases evEs kl cl rd B ρ st.g <;> rfl
  rw [e0] at h
  refine post_binds h fun q hq v st1 ok1 e1 s1 r1 h1 => ?_
  have hn : cl i (q.1 ++ dfl.drop j) q.2 ≠ .bad := fun e => by rw [e] at h1; exact h1
  have rr : RepsS T X.K S st1 (v ++ vs) (q.1 ++ dfl.drop j) := Reps.append r1 (rs _ _ _)
  exact call_sp (σ := σ) ok1 rr ((Reps.length rr).trans (lb _ _ hn)) (by rw [e1]; exact h1)

/-! keywords -/
theorem fpk_nil : PK X [] (tEs T X.K W rd fun _ g => .ok ([], g)) := by
  refine ⟨fun pos pins s σ H Q I h => pk_nil.run pos pins s σ H Q I ?_⟩
  obtain ⟨S, st, ρ, rfl, ok, er, h⟩ := h
  exact h [] st ok rfl (Step.refl _) .nil
theorem fpk_cons {nm : Option Str} {e : Expr} {kpos : Pos} {kws : List Keyword} {fa : EvF} {fs : List Sl → G → R (List D × G)} (ha : PE X e (tE T X.K W rd fa)) (hs : PK X kws (tEs T X.K W rd fs)) : PK X (⟨nm, e, kpos⟩ :: kws) (tEs T X.K W rd (consF fa fs)) := by
  refine ⟨fun pos pins s σ H Q I h => (pk_cons ha hs).run pos pins s σ H Q I ?_⟩
  obtain ⟨S, st, ρ, rfl, ok, er, h⟩ := h
  refine ⟨S, st, ρ, rfl, ok, er, posts_bind h fun p hp v st1 ok1 e1 s1 r1 h1 => ?_⟩
  refine ⟨S, st1, ρ, rfl, ok1, er.step ok s1, ?_⟩
  rw [e1]
  refine posts_binds h1 fun q hq vs st2 ok2 e2 s2 r2 h2 => ?_
  exact h2 (v :: vs) st2 ok2 e2 (Step.refl _) (.cons (RepS.step r1 ok1 s2) r2)
theorem trList_pk (ht : ∀ e A, t e = some A → Snd T kl cl X W rd e A) : ∀ {kws : List Keyword} {B : Es}, trList t (kwVals kws) = some B → PK X kws (tEs T X.K W rd (evEs kl cl rd B))
  | [], B, h => by cases h; exact fpk_nil
  | ⟨nm, e, kpos⟩ :: kws, B, h => by
    have h : trList t (e :: kwVals kws) = some B := h
    unfold trList at h
    split at h
    · rename_i A hA
      split at h
      · rename_i B' hB
        cases h
        exact fpk_cons (ht e A hA).pe (trList_pk ht hB)
      · cases h
    · cases h
theorem kw_len {kws : List Keyword} {ks : List Str} (h : kwNames kws = ks.map some) : (kwVals kws).length = ks.length := by
  have e1 : (kwVals kws).length = (kwNames kws).length := by
    clear h
    induction kws with
    | nil => rfl
    | cons k r ih => exact congrArg (· + 1) ih
  rw [e1, h, List.length_map]
theorem kw_all {kws : List Keyword} {ks : List Str} {env : Env} {pos : Pos} (h : kwNames kws = ks.map some) : (backToKw pos (keywordEach kws env)).all (·.1.isSome) = true ∧ (backToKw pos (keywordEach kws env)).filterMap (·.1) = ks ∧ (backToKw pos (keywordEach kws env)).any (·.1.isNone) = false := by
  induction kws generalizing ks with
  | nil =>
    cases ks with
    | nil => exact ⟨rfl, rfl, rfl⟩
    | cons k ks => cases h
  | cons kw kws ih =>
    obtain ⟨nm, e, kp⟩ := kw
    cases ks with
    | nil => cases h
    | cons k ks =>
      have h : nm :: kwNames kws = some k :: ks.map some := h
      injection h with h1 h2
      subst h1
      obtain ⟨i1, i2, i3⟩ := ih h2
      refine ⟨?_, ?_, ?_⟩
      · show (true && (backToKw pos (keywordEach kws env)).all (·.1.isSome)) = true
        rw [i1]; rfl
      · show k :: (backToKw pos (keywordEach kws env)).filterMap (·.1) = _
        rw [i2]
      · show (false || (backToKw pos (keywordEach kws env)).any (·.1.isNone)) = false
        rw [i3]; rfl
def tCallKS (n m : Nat) (sp : Sp) (E : L2.St → XK) (t tk : TA) : TE := fun σ H Q => t σ H fun vs H1 => tk σ H1 fun zs H2 => vs.length = n ∧ zs.length = m ∧ sp (vs ++ zs) H2 Q (E σ)
theorem pe_callKS {CX : CXT} {k nn : Nat} {f : Addr} {fd : FuncData} {ps ks : List Str} {sp : Sp} {E : L2.St → XK} {x : Str} {p pos : Pos} {e : Expr} {es : List Expr} {kws : List Keyword} {ta tk : TA} (F : ZG.FnG X.prog X.w X.K X.mg X.base CX k f fd ps sp) (hr : Room k X.A) (hgd : X.A.guards = some []) (hg : Gl X x) (hm : X.mg x = some (.ref f)) (hk : PySem.W.keepIn X.K (.ref f) = true)
    (hb : KBn X.K fd ps nn ks (fun us ws => us ++ ws) (fun vs zs => vs ++ zs)) (hx : ∀ σ, PassesAt CX X σ (E σ)) (ha : PA X (e :: es) ta) (hkw : PK X kws tk) (hn : kwNames kws = ks.map some) (hdb : (x == ("__debug__" : Str)) = false) (he : starEach (e :: es) X.env = (false, eval e X.env) :: starEach es X.env)
    (hpl : (backTo pos (starEach (e :: es) X.env)).any (·.1) = false) : PE X (.Call (.Name x p) (e :: es) kws pos) (tCallKS nn ks.length sp E ta tk) := by
  obtain ⟨q1, q2, q3⟩ := kw_all (env := X.env) (pos := pos) hn
  refine ⟨fun pins s σ H Q I h => ?_⟩
  refine wpAny_Call_Name_kw (ld_glob I hg hm ?_ hdb)
  refine PySem.W.callWith_KW (h₀ := X.base) I.ok.mod.kin hk q1 (thn (ha.run pos pins s σ H _ I h) fun us s1 ⟨vs, H1, I1, r, q⟩ => ?_) (by rw [hpl, q3]; rfl) he
  refine thn (hkw.run pos pins s1 σ H1 _ I1 q) fun ws s2 ⟨zs, H2, I2, rz, l1, l2, q2'⟩ => ⟨I2.kIn, ?_⟩
  rw [q2]
  have r2 := hb.rel r rz
  refine wpAny_call (codeAny_mono (F.run X.A X.stack s2 H2 ⟨us, ks.zip ws⟩ (us ++ ws) (vs ++ zs) Q (E σ) hr hgd I2.env0 (hb.to s2 us ws I2.kIn (r.length.symm.trans l1) (rz.length.symm.trans l2)) r2 q2') fun r s' hq => ?_)
  cases r with
  | error e => exact hx σ pins H2 s2 e s' I2 hq
  | ok fl =>
    cases fl with
    | ret u => exact I2.after hq
    | next => exact False.elim hq
    | brk => exact False.elim hq
    | cont => exact False.elim hq
theorem snd_callK (F : CxF T kl sc n cl X W) {x : Str} {i np : Nat} {dfl : List D} {ps : List Str} {e : Expr} {es : List Expr} {kws : List Keyword} {B C : Es} {km : List Nat} {m : Nat} {p pos : Pos} (hx : glK sc x = some (.fn i np dfl ps km)) (hm : m ∈ km) (ha : PA X (e :: es) (tEs T X.K W rd (evEs kl cl rd B))) (hp : ∀ y ∈ e :: es, plainX y = true)
    (hkw : PK X kws (tEs T X.K W rd (evEs kl cl rd C))) (hn : kwNames kws = (ps.drop m).map some) (hB : ∀ ρ g q, evEs kl cl rd B ρ g = .ok q → q.1.length = m) (hC : ∀ ρ g q, evEs kl cl rd C ρ g = .ok q → q.1.length = (ps.drop m).length) : PE X (.Call (.Name x p) (e :: es) kws pos) (tE T X.K W rd (evE kl cl rd (.call i (B.cat C)))) := by
  obtain ⟨h1, h2, h3⟩ := glK_ok F hx
  obtain ⟨f, fd, m1, l1, _, fo, lb, _, hk⟩ := F.fns.fn x _ _ _ _ _ h2
  obtain ⟨f', m1', _, kp⟩ := F.gl.fn x _ _ _ _ _ h2
  rw [m1] at m1'; cases m1'
  refine PE.mono (pe_callKS fo F.room F.grd h1 m1 kp (hk m hm) (E := WE W) (passAt F.tk) ha hkw hn h3 (plain_star (hp e List.mem_cons_self)) (plain_any hp)) ?_
  rintro σ H Q ⟨S, st, ρ, rfl, ok, er, h⟩
  refine ⟨S, st, ρ, rfl, ok, er, ?_⟩
  have e0 : evE kl cl rd (.call i (B.cat C)) ρ st.g = (evEs kl cl rd B ρ st.g).bind fun q => (evEs kl cl rd C ρ q.2).bind fun r => cl i (q.1 ++ r.1) r.2 := by
    show (evEs kl cl rd (B.cat C) ρ st.g).bind (fun q => cl i q.1 q.2) = _
    rw [evEs_cat]
    cases evEs kl cl rd B ρ st.g with
    | bad => rfl
    | exc => rfl
    | ok b =>
      rw [R.bind_ok, R.bind_ok]
      cases evEs kl cl rd C ρ b.2 <;> rfl
  rw [e0] at h
  refine post_binds h fun q hq v st1 ok1 e1 s1 r1 h1 => ?_
  refine ⟨S, st1, ρ, rfl, ok1, er.step ok s1, ?_⟩
  rw [e1]
  refine post_binds h1 fun q2 hq2 z st2 ok2 e2 s2 r2 h2 => ?_
  have hn : cl i (q.1 ++ q2.1) q2.2 ≠ .bad := fun e => by rw [e] at h2; exact h2
  refine ⟨(Reps.length r1).trans (hB _ _ _ hq), (Reps.length r2).trans (hC _ _ _ hq2), ?_⟩
  have rr : RepsS T X.K S st2 (v ++ z) (q.1 ++ q2.1) := Reps.append (RepsS.step r1 ok1 s2) r2
  exact call_sp (σ := σ) ok2 rr ((Reps.length rr).trans (lb _ _ hn)) (by rw [e2]; exact h2)
theorem okFn_ok {k i : Nat} (h : okFn sc k i = true) : ∃ x dfl ps km, sc.gl.lookup x = some (.fn i k dfl ps km) := by
  unfold okFn at h
  split at h
  · rename_i p _
    split at h
    · rename_i j np dfl ps km hl
      obtain ⟨rfl, rfl⟩ := of_decide_eq_true h
      exact ⟨p.1, dfl, ps, km, hl⟩
    · cases h
  · cases h
theorem fnEs_ok {k : Nat} {ρ : List Sl} : ∀ {Fs : Es} {g : G} {q : List D × G}, fnEs sc k Fs = true → evEs kl cl rd Fs ρ g = .ok q → ∀ d ∈ q.1, ∃ i, d = .fn i ∧ okFn sc k i = true
  | .nil, g, q, _, e, d, hd => by
    have e : R.ok (([] : List D), g) = .ok q := e
    cases e; cases hd
  | .cons (.con (.fn i)) r, g, q, h, e, d, hd => by
    have h : (okFn sc k i && fnEs sc k r) = true := h
    rw [Bool.and_eq_true] at h
    have e : ((R.ok (D.fn i, g)).bind fun x => (evEs kl cl rd r ρ x.2).bind fun y => R.ok (x.1 :: y.1, y.2)) = .ok q := e
    rw [R.bind_ok] at e
    obtain ⟨b, hb, e⟩ := R.bind_eq_ok e
    cases e
    rcases List.mem_cons.1 hd with rfl | hd
    · exact ⟨i, rfl, h.1⟩
    · exact fnEs_ok h.2 hb d hd
theorem isFnIx_ok {k : Nat} {A : E} (h : isFnIx sc k A = true) {ρ : List Sl} {g : G} {q : D × G} (e : evE kl cl rd A ρ g = .ok q) : ∃ i, q.1 = .fn i ∧ okFn sc k i = true := by
  unfold isFnIx at h
  split at h
  · rename_i Fs B
    rw [ev_prim2] at e
    obtain ⟨x, hx, e⟩ := R.bind_eq_ok e
    obtain ⟨y, hy, e⟩ := R.bind_eq_ok e
    have hx : ((evEs kl cl rd Fs ρ g).bind fun q => match (if q.1.length ≤ sizeLine then some (D.lst q.1) else none) with | some d => R.ok (d, q.2) | none => .bad) = .ok x := hx
    obtain ⟨z, hz, hx⟩ := R.bind_eq_ok hx
    by_cases hs : z.1.length ≤ sizeLine
    · rw [if_pos hs] at hx
      cases hx
      have e : (match semIx (.lst z.1) y.1 with | some d => R.ok (d, y.2) | none => R.bad) = R.ok q := e
      cases hv : semIx (.lst z.1) y.1 with
      | none => rw [hv] at e; cases e
      | some d =>
        rw [hv] at e
        cases e
        have hm : d ∈ z.1 := by
          unfold semIx at hv
          split at hv
          · rename_i z1 _; cases z1
          · rename_i xs i h1 _
            cases h1
            split at hv
            · exact List.mem_of_getElem? hv
            · cases hv
          · rename_i z1 _; cases z1
          · cases hv
        exact fnEs_ok h hz d hm
    · rw [if_neg hs] at hx; cases hx
  · cases h
theorem snd_callv (F : CxF T kl sc n cl X W) {o ix : Expr} {A : E} {k : Nat} {e : Expr} {es : List Expr} {B : Es} {p2 pos : Pos} (sA : PE X (.Subscript o ix p2) (tE T X.K W rd (evE kl cl rd A))) (hA : isFnIx sc k A = true)
    (ha : PA X (e :: es) (tEs T X.K W rd (evEs kl cl rd B))) (hp : ∀ y ∈ e :: es, plainX y = true) : PE X (.Call (.Subscript o ix p2) (e :: es) [] pos) (tE T X.K W rd (evE kl cl rd (.callv A B))) := by
  refine ⟨fun pins s σ H Q I h => ?_⟩
  obtain ⟨S, st, ρ, rfl, ok, er, h⟩ := h
  have e0 : evE kl cl rd (.callv A B) ρ st.g = (evE kl cl rd A ρ st.g).bind fun x => match x.1 with
    | .fn f => (evEs kl cl rd B ρ x.2).bind fun q => cl f q.1 q.2
    | _ => .bad := rfl
  rw [e0] at h
  have ar : eval (.Call (.Subscript o ix p2) (e :: es) [] pos) X.env = (do
    callWith pos (← eval (.Subscript o ix p2) X.env) [] (backTo pos (starEach (e :: es) X.env)) (backToKw pos (keywordEach [] X.env))) := rfl
  rw [ar]
  refine wpAny_bind (thn (sA.run pins s σ st.H (fun x H1 => ∃ (i : Nat) (st1 : Gh), st1.H = H1 ∧ GOk T X.K S st1 ∧ Step st st1 ∧ RepS T X.K S st1 x (.fn i) ∧ okFn sc k i = true ∧ post T X.K S W σ st1 ((evEs kl cl rd B ρ st1.g).bind fun q => cl i q.1 q.2) Q) I ⟨S, st, ρ, rfl, ok, er, post_bind h fun p hp v st1 ok1 e1 s1 r1 h1 => ?_⟩) fun v s1 ⟨x, H1, I1, r1, q1⟩ => ?_)
  · obtain ⟨i, hi, hok⟩ := isFnIx_ok (sc := sc) hA hp
    rw [hi] at r1 h1
    exact ⟨i, st1, rfl, ok1, s1, r1, hok, by rw [e1]; exact h1⟩
  · obtain ⟨i, st1, rfl, ok1, s1', rx, hok, hq⟩ := q1
    obtain ⟨xn, dfl, ps, km, hl⟩ := okFn_ok hok
    obtain ⟨f, fd, m1, l1, _, fo, lb, hd, _⟩ := F.fns.fn xn _ _ _ _ _ hl
    obtain ⟨f', m1', t1, kp⟩ := F.gl.fn xn _ _ _ _ _ hl
    rw [m1] at m1'; cases m1'
    cases rx with
    | fn ta =>
      rw [t1] at ta
      cases ta
      cases r1
      obtain ⟨vs, us, v1, b1, l2, rs⟩ := hd dfl.length (Nat.le_refl _)
      have hvs : vs = [] := List.length_eq_zero_iff.1 (by omega)
      subst hvs
      refine PySem.W.callWith_K (h₀ := X.base) I1.ok.mod.kin kp (thn (ha.run pos pins s1 σ st1.H (fun vs H2 => spF T X.K k (cl i) (vs ++ []) H2 Q (WE W σ)) I1 ⟨S, st1, ρ, rfl, ok1, er.step ok s1', post_binds hq fun q hq' v st2 ok2 e2 s2 r2 h2 => ?_⟩) fun us' s2 ⟨vs', H2, I2, r, q⟩ => ⟨I2.kIn, ?_⟩) (plain_star (hp e List.mem_cons_self)) (plain_any fun y z => hp y (List.mem_cons_of_mem _ z))
      · have hn : cl i q.1 q.2 ≠ .bad := fun e => by rw [e] at h2; exact h2
        have rr : RepsS T X.K S st2 (v ++ []) q.1 := by rw [List.append_nil]; exact r2
        exact call_sp (σ := σ) ok2 rr ((Reps.length rr).trans (lb _ _ hn)) (by rw [e2]; exact h2)
      · exact ZG.run_fnG fo F.room F.grd b1 v1 (passAt F.tk σ) I2 r q
theorem fnsOf_ok {k f : Nat} (h : (fnsOf sc k).contains f = true) : okFn sc k f = true := by
  unfold fnsOf at h
  rw [List.contains_iff_mem] at h
  exact (List.mem_filter.1 h).2
/-- a call of what a name holds -/
theorem snd_callp (F : CxF T kl sc n cl X W) {x : Str} {i : Nat} {e : Expr} {es : List Expr} {B : Es} {p1 pos : Pos} (hi : varIx sc x = some i)
    (ha : PA X (e :: es) (tEs T X.K W rd (evEs kl cl rd B))) (hp : ∀ y ∈ e :: es, plainX y = true) (hlen : ∀ ρ g q, evEs kl cl rd B ρ g = .ok q → q.1.length = (e :: es).length) : PE X (.Call (.Name x p1) (e :: es) [] pos) (tE T X.K W rd (evE kl cl rd (.callp i (fnsOf sc (e :: es).length) B))) := by
  refine ⟨fun pins s σ H Q I h => ?_⟩
  obtain ⟨S, st, ρ, rfl, ok, er, h⟩ := h
  obtain ⟨v1, v2, v3, v4⟩ := varIx_ok F hi
  have e0 : evE kl cl rd (.callp i (fnsOf sc (e :: es).length) B) ρ st.g = match seen rd ρ i with
    | some (.fn f) => if (fnsOf sc (e :: es).length).contains f = true then (evEs kl cl rd B ρ st.g).bind fun q => cl f q.1 q.2 else .bad
    | some (.lam b) => (evEs kl cl rd B ρ st.g).bind fun q => if q.1.length = 1 then .ok (.bl b, q.2) else .bad
    | _ => .bad := rfl
  rw [e0] at h
  cases hs : seen rd ρ i with
  | none => rw [hs] at h; exact h.elim
  | some d =>
    rw [hs] at h
    obtain ⟨v, g1, r1⟩ := er.get i d hs
    refine wpAny_Call_Name_kw (thn ((pe_var (pos := p1) (i := i) v1 v2 v3 v4).run pins s σ st.H (fun u H1 => u = v ∧ H1 = st.H) I ⟨v, g1, rfl, rfl⟩) fun u s1 ⟨u', H1, I1, ru, q1⟩ => ?_)
    obtain ⟨rfl, rfl⟩ := q1
    cases d with
    | fn f =>
      dsimp only at h
      by_cases hc : (fnsOf sc (e :: es).length).contains f = true
      case neg => rw [if_neg hc] at h; exact h.elim
      rw [if_pos hc] at h
      obtain ⟨xn, dfl, ps, km, hl⟩ := okFn_ok (fnsOf_ok hc)
      obtain ⟨fa, fd, m1, l1, _, fo, lb, hd, _⟩ := F.fns.fn xn _ _ _ _ _ hl
      obtain ⟨f', m1', t1, kp⟩ := F.gl.fn xn _ _ _ _ _ hl
      rw [m1] at m1'; cases m1'
      cases r1 with
      | fn ta =>
        rw [t1] at ta
        cases ta
        cases ru
        obtain ⟨vs, us, w1, b1, l2, rs⟩ := hd dfl.length (Nat.le_refl _)
        have hvs : vs = [] := List.length_eq_zero_iff.1 (by omega)
        subst hvs
        refine PySem.W.callWith_K (h₀ := X.base) I1.ok.mod.kin kp (thn (ha.run pos pins s1 σ st.H (fun vs H2 => spF T X.K (e :: es).length (cl f) (vs ++ []) H2 Q (WE W σ)) I1 ⟨S, st, ρ, rfl, ok, er, post_binds h fun q hq' v st2 ok2 e2 s2 r2 h2 => ?_⟩) fun us' s2 ⟨vs', H2, I2, r, q⟩ => ⟨I2.kIn, ?_⟩) (plain_star (hp e List.mem_cons_self)) (plain_any fun y z => hp y (List.mem_cons_of_mem _ z))
        · have hn : cl f q.1 q.2 ≠ .bad := fun e => by rw [e] at h2; exact h2
          have rr : RepsS T X.K S st2 (v ++ []) q.1 := by rw [List.append_nil]; exact r2
          exact call_sp (σ := σ) ok2 rr ((Reps.length rr).trans (lb _ _ hn)) (by rw [e2]; exact h2)
        · exact ZG.run_fnG fo F.room F.grd b1 w1 (passAt F.tk σ) I2 r q
    | lam b =>
      dsimp only at h
      cases r1 with
      | @lam a c q _ h1 h2 =>
        cases ru
        have fnAt : ∀ {s' : Shared} {H' : Hp}, Inv X pins σ H' s' → H' a = some (LamO a c q b) → PySem.W.FnAt a s'.heap := fun {s' H'} J e => by
          obtain ⟨⟨p1, p2, p3, p4, p5, p6, p7⟩, _⟩ := J.hok a _ e
          exact ⟨_, _, _, _, p6⟩
        refine PySem.W.callWith_F (fnAt I1 h1) (thn (ha.run pos pins s1 σ st.H (fun vs H2 => vs.length = 1 ∧ H2 a = some (LamO a c q b) ∧ H2 c = some (LamX.CodeO c q) ∧ Q (.bl b) H2) I1 ⟨S, st, ρ, rfl, ok, er, post_binds h fun p hq' v st2 ok2 e2 s2 r2 h3 => ?_⟩) fun us' s2 ⟨vs', H2, I2, r, hv, k1, k2, hQ⟩ => ?_) (plain_star (hp e List.mem_cons_self)) (plain_any fun y z => hp y (List.mem_cons_of_mem _ z))
        · by_cases hl : p.1.length = 1
          case neg => rw [if_neg hl] at h3; exact h3.elim
          rw [if_pos hl] at h3
          have kp := s2.kept ok
          exact ⟨(Reps.length r2).trans hl, kp.fx _ _ rfl h1, kp.fx _ _ rfl h2, h3 (.bl b) st2 ok2 e2 (Step.refl _) (.bl b)⟩
        · obtain ⟨w, rfl⟩ := List.length_eq_one_iff.1 hv
          obtain ⟨u, rfl, ru⟩ := vals1 r
          exact ⟨fnAt I2 k1, call_lam I2 k1 k2 F.room.depth hQ⟩
    | _ => exact h.elim
mutual
theorem calm_ok : ∀ {A : E} {ρ : List Sl} {g : G} {c : Nat} {fs : List (Str × D)} {g' : G}, calmE A = true → evE kl cl rd A ρ g ≠ .exc c fs g'
  | .var i, ρ, g, c, fs, g', _ => fun h => by
    have h : (match seen rd ρ i with | some d => R.ok (d, g) | none => .bad) = .exc c fs g' := h
    split at h <;> cases h
  | .con d, ρ, g, c, fs, g', _ => fun h => by
    have h : R.ok (d, g) = .exc c fs g' := h
    cases h
  | .prim p es, ρ, g, c, fs, g', hc => fun h => by
    have h : ((evEs kl cl rd es ρ g).bind fun q => match p.sem kl q.1 with | some d => R.ok (d, q.2) | none => .bad) = .exc c fs g' := h
    cases hq : evEs kl cl rd es ρ g with
    | bad => rw [hq] at h; cases h
    | exc c1 f1 g1 => exact calms_ok hc hq
    | ok q =>
      rw [hq, R.bind_ok] at h
      split at h <;> cases h
  | .and _ _, _, _, _, _, _, hc => by simp [calmE] at hc
  | .or _ _, _, _, _, _, _, hc => by simp [calmE] at hc
  | .ite _ _ _, _, _, _, _, _, hc => by simp [calmE] at hc
  | .chain _ _ _ _ _, _, _, _, _, _, hc => by simp [calmE] at hc
  | .call _ _, _, _, _, _, _, hc => by simp [calmE] at hc
  | .callv _ _, _, _, _, _, _, hc => by simp [calmE] at hc
  | .comp _ _ _ _ _, _, _, _, _, _, hc => by simp [calmE] at hc
  | .hget _ _, _, _, _, _, _, hc => by simp [calmE] at hc
  | .hgetix _ _ _, _, _, _, _, _, hc => by simp [calmE] at hc
  | .hnew _ _, _, _, _, _, _, hc => by simp [calmE] at hc
  | .hnewL _ _ _ _ _ _, _, _, _, _, _, hc => by simp [calmE] at hc
theorem calms_ok : ∀ {B : Es} {ρ : List Sl} {g : G} {c : Nat} {fs : List (Str × D)} {g' : G}, calmEs B = true → evEs kl cl rd B ρ g ≠ .exc c fs g'
  | .nil, ρ, g, c, fs, g', _ => fun h => by
    have h : R.ok (([] : List D), g) = .exc c fs g' := h
    cases h
  | .cons e es, ρ, g, c, fs, g', hc => fun h => by
    have hc : (calmE e && calmEs es) = true := by rw [← hc]; simp [calmEs]
    rw [Bool.and_eq_true] at hc
    have h : ((evE kl cl rd e ρ g).bind fun x => (evEs kl cl rd es ρ x.2).bind fun y => R.ok (x.1 :: y.1, y.2)) = .exc c fs g' := h
    cases hq : evE kl cl rd e ρ g with
    | bad => rw [hq] at h; cases h
    | exc c1 f1 g1 => exact calm_ok hc.1 hq
    | ok q =>
      rw [hq, R.bind_ok] at h
      cases hr : evEs kl cl rd es ρ q.2 with
      | bad => rw [hr] at h; cases h
      | exc c1 f1 g1 => exact calms_ok hc.2 hr
      | ok r => rw [hr] at h; cases h
end
theorem slb_mono {fa fb fc : EvF} (hc : ∀ ρ g c fs g', fc ρ g ≠ .exc c fs g') (σ : L2.St) (H : Hp) (Q : VK) : tE T X.K W rd (tri fa fb fc fun x y z => P.sem kl .slb [x, y, z]) σ H Q → tSl (rSlZ X.K) (tE T X.K W rd fa) (tPart (tE T X.K W rd fb)) (tPart (tE T X.K W rd fc)) σ H Q := by
  rintro ⟨S, st, ρ, rfl, ok, er, h⟩
  refine ⟨S, st, ρ, rfl, ok, er, post_bind h fun p hp v st1 ok1 e1 s1 r1 h1 => ?_⟩
  refine ⟨S, st1, ρ, rfl, ok1, er.step ok s1, ?_⟩
  rw [e1]
  refine post_bind h1 fun q hq v2 st2 ok2 e2 s2 r2 h2 => ?_
  have hz : ∃ i, q.1 = .int i := by
    cases hr : fc ρ q.2 with
    | bad => rw [hr] at h2; exact h2.elim
    | exc c fs g' => exact absurd hr (hc _ _ _ _ _)
    | ok u =>
      rw [hr, R.bind_ok] at h2
      dsimp only at h2
      cases hs : P.sem kl .slb [p.1, q.1, u.1] with
      | none => rw [hs] at h2; exact h2.elim
      | some d =>
        have hs : semSlb [p.1, q.1, u.1] = some d := hs
        unfold semSlb at hs
        split at hs
        · rename_i e
          injection e with e1 e2
          injection e2 with e2 e3
          exact ⟨_, e2⟩
        · cases hs
  obtain ⟨i, hi⟩ := hz
  have r2' := r2
  rw [hi] at r2'
  refine ⟨i, r2'.int_, ?_⟩
  refine ⟨S, st2, ρ, rfl, ok2, (er.step ok s1).step ok1 s2, ?_⟩
  rw [e2]
  refine post_bind h2 fun u hu v3 st3 ok3 e3 s3 r3 h3 => ?_
  dsimp only at h3
  cases hsem : P.sem kl .slb [p.1, q.1, u.1] with
  | none => rw [hsem] at h3; exact h3.elim
  | some d =>
    rw [hsem] at h3
    obtain ⟨i', q1, j, q2, q3⟩ := pr_slb (T := T) (X := X) (kl := kl) S st3 v v2 v3 p.1 q.1 u.1 d Q ok3 (RepS.step (RepS.step r1 ok1 s2) ok2 s3) (RepS.step r2 ok2 s3) r3 hsem fun v st' ok' e' s' r' => h3 v st' ok' (e'.trans e3) s' r'
    rw [r2'.int_] at q1
    cases q1
    exact ⟨j, q2, q3⟩
theorem revL_mono {fa : EvF} (σ : L2.St) (H : Hp) (Q : VK) : tE T X.K W rd (un1 fa semRevL) σ H Q → ZL.tLstRev X.K (tE T X.K W rd fa) σ H Q := by
  rintro ⟨S, st, ρ, rfl, ok, er, h⟩
  refine ⟨S, st, ρ, rfl, ok, er, post_bind h fun p hp v st1 ok1 e1 s1 r1 h1 => ?_⟩
  cases hs : semRevL p.1 with
  | none => rw [hs] at h1; exact h1.elim
  | some z =>
    rw [hs] at h1
    unfold semRevL at hs
    split at hs
    · rename_i xs hx
      cases hs
      rw [hx] at r1
      obtain ⟨a, vs, rfl, q1, q2, q3⟩ := r1.lst_
      refine ⟨a, vs, rfl, .inl q1, finL ok1 (fun v st' ok' e' s' r' => h1 v st' ok' (e'.trans e1) s' r') (Reps.rev q3)⟩
    · cases hs
theorem rev_mono {fa : EvF} (σ : L2.St) (H : Hp) (Q : VK) : tE T X.K W rd (un1 fa semRev) σ H Q → ZL.tRevA X.K (tE T X.K W rd fa) σ H Q := by
  rintro ⟨S, st, ρ, rfl, ok, er, h⟩
  refine ⟨S, st, ρ, rfl, ok, er, post_bind h fun p hp v st1 ok1 e1 s1 r1 h1 => ?_⟩
  cases hs : semRev p.1 with
  | none => rw [hs] at h1; exact h1.elim
  | some z =>
    rw [hs] at h1
    have k : ∀ v st', GOk T X.K S st' → st'.g = st1.g → Step st1 st' → RepS T X.K S st' v z → Q v st'.H := fun v st' ok' e' s' r' => h1 v st' ok' (e'.trans e1) s' r'
    unfold semRev at hs
    split at hs
    · rename_i xs hx
      cases hs
      rw [hx] at r1
      obtain ⟨a, vs, rfl, q1, q2, q3⟩ := r1.lst_
      exact ⟨a, vs, rfl, .inl ⟨.inl q1, finL ok1 k (Reps.rev q3)⟩⟩
    · rename_i xs hx
      cases hs
      rw [hx] at r1
      obtain ⟨a, vs, rfl, q1, q3⟩ := r1.tup_
      exact ⟨a, vs, rfl, .inr ⟨q1, finT ok1 k (Reps.rev q3)⟩⟩
    · cases hs
theorem trRevL_ok (F : CxF T kl sc n cl X W) (ht : ∀ e A, t e = some A → Snd T kl cl X W rd e A) {x : Str} {args : List Expr} {kws : List Keyword} {A : E} {p1 pos : Pos} (h : trRevL sc t x args kws = some A) : Snd T kl cl X W rd (.Call (.Name x p1) args kws pos) A := by
  unfold trRevL at h
  split at h
  · rename_i y py e cpos
    split at h
    · rename_i hb
      rw [Bool.and_eq_true] at hb
      obtain ⟨e1, g1, m1⟩ := bltIs_ok F hb.1
      obtain ⟨e2, g2, m2⟩ := bltIs_ok F hb.2
      subst e1 e2
      split at h
      · rename_i A' hA
        cases h
        have s := ht _ _ hA
        exact .leafEq (PE.mono (ZL.pe_lstRev F.calm g1 m1 g2 m2 s.pe (plain_star s.plain) rfl) revL_mono) ev_prim1 rfl rfl
      · cases h
    · cases h
  · cases h
theorem tupRg_mono {fa : EvF} (σ : L2.St) (H : Hp) (Q : VK) : tE T X.K W rd (un1 fa semTupRg) σ H Q → tTupRg (tRg1 (tE T X.K W rd fa)) σ H Q := by
  rintro ⟨S, st, ρ, rfl, ok, er, h⟩
  refine ⟨S, st, ρ, rfl, ok, er, post_bind h fun p hp v st1 ok1 e1 s1 r1 h1 => ?_⟩
  cases hs : semTupRg p.1 with
  | none => rw [hs] at h1; exact h1.elim
  | some z =>
    rw [hs] at h1
    unfold semTupRg at hs
    split at hs
    · rename_i n hn
      split at hs
      · rename_i hb
        cases hs
        rw [hn] at r1
        refine ⟨n, r1.int_, ⟨by omega, by omega, by omega, by omega, by omega⟩, fun q hq => ?_⟩
        have hr : rgV 0 n = rgV 0 (n.toNat : Int) := by
          by_cases h0 : 0 ≤ n
          · rw [show ((n.toNat : Nat) : Int) = n by omega]
          · rw [rgV_neg (by omega), rgV_neg (by omega)]
        rw [hr]
        have k1 := finT (T := T) (K := X.K) (S := S) (st := st1) (Q := Q) (ds := (List.range n.toNat).map fun (k : Nat) => D.int (k : Int)) (vs := rgV 0 (n.toNat : Int)) ok1 (fun v st' ok' e' s' r' => h1 v st' ok' (e'.trans e1) s' r') (reps_rng n.toNat)
        exact k1 q hq
      · cases hs
    · cases hs
theorem lstRg_mono {fa : EvF} (σ : L2.St) (H : Hp) (Q : VK) : tE T X.K W rd (un1 fa semLstRg) σ H Q → tLstRg (tRg1 (tE T X.K W rd fa)) σ H Q := by
  rintro ⟨S, st, ρ, rfl, ok, er, h⟩
  refine ⟨S, st, ρ, rfl, ok, er, post_bind h fun p hp v st1 ok1 e1 s1 r1 h1 => ?_⟩
  cases hs : semLstRg p.1 with
  | none => rw [hs] at h1; exact h1.elim
  | some z =>
    rw [hs] at h1
    unfold semLstRg semTupRg at hs
    obtain ⟨p1, p2⟩ := p
    cases p1 <;> first | (cases hs; done) | skip
    rename_i n
    dsimp only at hs r1 h1
    split at hs
    · rename_i xs hx
      cases hs
      split at hx
      · rename_i hb
        cases hx
        refine ⟨n, r1.int_, ⟨by omega, by omega, by omega, by omega, by omega⟩, fun q hq => ?_⟩
        have hr : rgV 0 n = rgV 0 (n.toNat : Int) := by
          by_cases h0 : 0 ≤ n
          · rw [show ((n.toNat : Nat) : Int) = n by omega]
          · rw [rgV_neg (by omega), rgV_neg (by omega)]
        rw [hr]
        have k1 := finL (T := T) (K := X.K) (S := S) (st := st1) (Q := Q) (ds := (List.range n.toNat).map fun (k : Nat) => D.int (k : Int)) (vs := rgV 0 (n.toNat : Int)) ok1 (fun v st' ok' e' s' r' => h1 v st' ok' (e'.trans e1) s' r') (reps_rng n.toNat)
        exact k1 q hq
      · cases hx
    · cases hs
theorem trTupRg_ok (F : CxF T kl sc n cl X W) (ht : ∀ e A, t e = some A → Snd T kl cl X W rd e A) {x : Str} {args : List Expr} {kws : List Keyword} {A : E} {p1 pos : Pos} (h : trTupRg sc t x args kws = some A) : Snd T kl cl X W rd (.Call (.Name x p1) args kws pos) A := by
  unfold trTupRg at h
  split at h
  · rename_i y p2 e p3
    split at h
    · rename_i hb
      rw [Bool.and_eq_true] at hb
      obtain ⟨rfl, hg, hm⟩ := bltIs_ok F hb.1
      obtain ⟨rfl, hg2, hm2⟩ := bltIs_ok F hb.2
      split at h
      · rename_i A' hA
        cases h
        have s := ht _ _ hA
        exact .leafEq (PE.mono (pe_tupRg F.calm hg hm (prg_1 hg2 hm2 s.pe (plain_star s.plain))) tupRg_mono) ev_prim1 rfl rfl
      · cases h
    · split at h
      · rename_i hb
        rw [Bool.and_eq_true] at hb
        obtain ⟨rfl, hg, hm⟩ := bltIs_ok F hb.1
        obtain ⟨rfl, hg2, hm2⟩ := bltIs_ok F hb.2
        split at h
        · rename_i A' hA
          cases h
          have s := ht _ _ hA
          exact .leafEq (PE.mono (pe_listRg F.calm hg hm (prg_1 hg2 hm2 s.pe (plain_star s.plain))) lstRg_mono) ev_prim1 rfl rfl
        · cases h
      · cases h
  · cases h
theorem trCall_ok (F : CxF T kl sc n cl X W) (ht : ∀ e A, t e = some A → Snd T kl cl X W rd e A) {f : Expr} {args : List Expr} {kws : List Keyword} {A : E} {pos : Pos} (h : trCall sc t f args kws = some A) : Snd T kl cl X W rd (.Call f args kws pos) A := by
  unfold trCall at h
  split at h
  · rename_i x p1
    split at h
    · rename_i A0 hA0
      cases h
      exact trRevL_ok F ht hA0
    split at h
    · rename_i A0 hA0
      cases h
      exact trTupRg_ok F ht hA0
    split at h
    · rename_i e es B _ _ hB
      obtain ⟨ha, hp⟩ := trList_pa ht hB
      split at h
      · split at h
        · rename_i i np dfl ps km hx
          split at h
          · cases h
            exact .leaf (snd_call F hx (Nat.sub_le _ _) ha hp) rfl rfl
          · cases h
        · cases h
        · cases h
        · cases h
        · split at h
          · rename_i hg
            rw [Bool.and_eq_true] at hg
            split at h
            · rename_i p k hl
              split at h
              · cases h
                obtain ⟨r, hr, hf, hc⟩ := bltTab_ok F hl
                have hcc := hc (p1 := p1) (pos := pos) (isGl_ok F hg.1) (F.gl.blt x (by simpa using hg.2)) ha (plain_star (hp e List.mem_cons_self)) (plain_any fun y z => hp y (List.mem_cons_of_mem _ z))
                have q : PE X (.Call (.Name x p1) (e :: es) [] pos) (tE T X.K W rd (evE kl cl rd (.prim p B))) := by rw [ev_primL]; exact fe_ls hcc hr
                refine ⟨q, pt_val q (leaf_true rfl), rfl, fun hz => ?_⟩
                rcases hf with hf | ⟨rfl, rfl⟩
                · exfalso
                  cases p <;> first | (cases hf; done) | (cases hz; done)
                · exact ⟨PE.mono hcc toLstF_mono, toLst_list⟩
              · split at h
                · rename_i hmx
                  cases h
                  obtain ⟨rfl, _⟩ := hmx
                  have hcc : PE X (.Call (.Name "max" p1) (e :: es) [] pos) (tCB (ZL.rMaxT X.K) (tEs T X.K W rd (evEs kl cl rd B))) := pe_callB (ZL.cr_maxT F.calm) (isGl_ok F hg.1) (F.gl.blt "max" (by simpa using hg.2)) rfl ha (by decide) (by decide) (plain_star (hp e List.mem_cons_self)) (plain_any fun y z => hp y (List.mem_cons_of_mem _ z))
                  have q : PE X (.Call (.Name "max" p1) (e :: es) [] pos) (tE T X.K W rd (evE kl cl rd (.prim .maxL B))) := by rw [ev_primL]; exact fe_ls hcc pr_maxL
                  exact ⟨q, pt_val q (leaf_true rfl), rfl, fun hz => by cases hz⟩
                · cases h
            · cases h
          · split at h
            · rename_i i hi
              cases h
              exact .leaf (snd_callp F hi ha hp (fun ρ g q e => trList_len hB e)) rfl rfl
            · cases h
      · split at h
        · rename_i i np dfl ps km C hx hC
          split at h
          · rename_i hh
            cases h
            exact .leaf (snd_callK F hx (by simpa using hh.2.1) ha hp (trList_pk ht hC) hh.2.2 (fun ρ g q e => trList_len hB e) (fun ρ g q e => (trList_len hC e).trans (kw_len hh.2.2))) rfl rfl
          · cases h
        · cases h
    · cases h
  · split at h
    · rename_i e es B hB
      obtain ⟨ha, hp⟩ := trList_pa ht hB
      split at h
      · split at h
        · rename_i A' hA'
          split at h
          · rename_i hf
            cases h
            exact .leaf (snd_callv F (ht _ _ hA').pe hf ha hp) rfl rfl
          · cases h
        · cases h
      · cases h
    · cases h
  · cases h

/-! ### a written dict -/
theorem get_kd {X : Cx} {pins : List (Addr × Obj)} {σ : L2.St} {H : Hp} {s : Shared} {d : Addr} {es : Array DictEntry} {n : Nat} {z : Str} {tk : Tok} {r : Value} {A : Around} {E : Value → Shared → Prop} {Q : Value → Shared → Prop} (D : L2.KDict X.K X.w d es n) (I : Inv X pins σ H s)
    (h : ∀ s', Inv X pins σ H s' → Q ((findBy Value.isStrOf es z).getD r) s') : wpAny (model X.prog X.w) A (call (.builtin "dict.get") [.ref d, .str z tk, r]) Q E s := by
  have mp := PySem.W.mapOf_K (prog := X.prog) (w := X.w) I.kIn D.at_ D.lit
  exact call_meetsIn PySem.F.slot_dict_get mp.typeIs PySem.F.entry_dict_get (PySem.F.args_dict_get_3 _ _ _) (meets_dict_get_default (strKind X.prog X.w) d (PySem.strKind_is X.prog X.w z tk) D.low r) ⟨_, mp, h _ (I.tok _)⟩
theorem glK_dct (F : CxF T kl sc n cl X W) {x : Str} {kvs : List (Str × D)} {p : Pos} (h : glK sc x = some (.dct kvs)) : ∃ a es m, L2.KDict X.K X.w a es m ∧ (∀ z, DctV T X.K (findBy Value.isStrOf es z) (kvs.lookup z)) ∧ PE X (.Name x p) (fun _ H Q => Q (.ref a) H) := by
  obtain ⟨h1, h2, h3⟩ := glK_ok F h
  obtain ⟨a, es, m, m1, m2, m3⟩ := F.gl.dct x _ h2
  exact ⟨a, es, m, m2, m3, pe_glob (v := .ref a) h1 m1 rfl h3⟩
theorem trGet_ok (F : CxF T kl sc n cl X W) (ht : ∀ e A, t e = some A → Snd T kl cl X W rd e A) {f : Expr} {args : List Expr} {kws : List Keyword} {A : E} {pos : Pos} (h : trGet sc t f args kws pos = some A) : Snd T kl cl X W rd (.Call f args kws pos) A := by
  unfold trGet at h
  split at h
  · rename_i x p1 m apos e f
    split at h
    · rename_i hm
      obtain ⟨rfl, hline⟩ := hm
      split at h
      · rename_i kvs A' B' hx hA hB
        cases h
        obtain ⟨a, es, k, kd, hv, ho⟩ := glK_dct F (p := p1) hx
        have sa := ht _ _ hA
        have sb := ht _ _ hB
        refine .leaf ⟨fun pins s σ H Q I h => ?_⟩ rfl rfl
        obtain ⟨S, st, ρ, rfl, ok, er, h⟩ := h
        have st2 : starEach [e, f] X.env = [(false, eval e X.env), (false, eval f X.env)] := by rw [plain_star sa.plain, plain_star sb.plain] <;> rfl
        refine wpAny_Call_method (by rfl) (by rw [st2]; rfl) hline PySem.F.plainAttrs_dict PySem.F.slot_dict_get PySem.F.type_dict_get (thn (ho.run pins s σ st.H (fun v H1 => v = .ref a ∧ H1 = st.H) I ⟨rfl, rfl⟩) fun u s1 ⟨v, H1, I1, rx, q1⟩ => ?_)
        obtain ⟨rfl, rfl⟩ := q1
        obtain rfl : u = Value.ref a := rx
        refine ⟨L2.kd_type kd I1, fun b q => ?_, ?_⟩
        · cases q
          exact ⟨_, I1.kIn _ _ kd.at_, rfl⟩
        · rw [st2]
          have h : post T X.K S W σ st ((evE kl cl rd A' ρ st.g).bind fun x => (evE kl cl rd B' ρ x.2).bind fun y => match x.1 with
            | .str k => .ok ((kvs.lookup k).getD y.1, y.2)
            | _ => .bad) Q := h
          refine Calls.callWith_builtin rfl (Calls.evalArgs_plain (Calls.spliced_cons (thn (sa.pe.run pins s1 σ st.H (fun x H1 => ∃ (d : D) (st1 : Gh), st1.H = H1 ∧ GOk T X.K S st1 ∧ Step st st1 ∧ RepS T X.K S st1 x d ∧ post T X.K S W σ st1 ((evE kl cl rd B' ρ st1.g).bind fun y => match (generalizing := false) d with
            | .str k => .ok ((kvs.lookup k).getD y.1, y.2)
            | _ => .bad) Q) I1 ⟨S, st, ρ, rfl, ok, er, post_bind h fun p hp v st1 ok1 e1 s1 r1 h1 => ⟨p.1, st1, rfl, ok1, s1, r1, by rw [e1]; exact h1⟩⟩) fun iv s2 ⟨y, H2, I2, ry, d1, st1, eH, ok1, sp1, r1, h1⟩ => ?_)))
          subst eH
          refine Calls.spliced_cons (thn (sb.pe.run pins s2 σ st1.H (fun x H1 => ∃ (d : D) (st2 : Gh), st2.H = H1 ∧ GOk T X.K S st2 ∧ Step st1 st2 ∧ RepS T X.K S st2 x d ∧ post T X.K S W σ st2 (match (generalizing := false) d1 with
            | .str k => .ok ((kvs.lookup k).getD d, st2.g)
            | _ => .bad) Q) I2 ⟨S, st1, ρ, rfl, ok1, er.step ok sp1, post_bind h1 fun p hp v st2 ok2 e2 s2 r2 h2 => ⟨p.1, st2, rfl, ok2, s2, r2, by rw [e2]; exact h2⟩⟩) fun fv s3 ⟨z, H3, I3, rz, d2, st2, eH, ok2, sp2, r2, h2⟩ => Calls.spliced_nil ?_)
          subst eH
          cases d1 with
          | str k =>
            cases r1 with
            | str _ =>
              obtain ⟨tk, rfl⟩ := ry
              refine get_kd kd I3 fun s' I' => ?_
              have hk := hv k
              have h2 : post T X.K S W σ st2 (R.ok ((kvs.lookup k).getD d2, st2.g)) Q := h2
              revert hk h2
              cases kvs.lookup k with
              | none =>
                intro hk h2
                rw [show findBy Value.isStrOf es k = none from hk]
                exact ⟨z, st2.H, I', rz, h2 z st2 ok2 rfl (Step.refl _) r2⟩
              | some d =>
                intro hk h2
                obtain ⟨u, v, e1, e2, e3⟩ := hk
                rw [e1]
                exact ⟨v, st2.H, I', e2, h2 v st2 ok2 rfl (Step.refl _) (e3 _ _ _)⟩
          | _ => exact h2.elim
      · cases h
    · cases h
  · cases h
/-! ### written dicts: by key, membership -/
theorem ns_kd {K : PySem.W.Frag} {w : World} {a : Addr} {es : Array DictEntry} {m : Nat} (D : L2.KDict K w a es m) (z : Str) : PySem.W.nsIn K a z = some (findBy Value.isStrOf es z) := by
  unfold PySem.W.nsIn
  rw [D.at_]
  dsimp only
  have hl := D.lit
  clear D
  obtain ⟨l⟩ := es
  dsimp only at hl ⊢
  unfold findBy
  rw [List.find?_toArray]
  have e1 : (fun x : DictEntry => x.key.isStr z) = fun e => Value.isStrOf z e.key := by
    funext e
    cases e.key <;> rfl
  rw [e1]
  have nr : (l.any fun x => x.refKey) = false := by
    clear e1
    induction l with
    | nil => rfl
    | cons e l ih =>
      have hl : (∃ x t, e.key = Value.str x t ∧ e.hash = PyData.keyHash w.params x) ∧ PySem.W.KeysLit w.params l := by simpa only [PySem.W.KeysLit] using hl
      obtain ⟨⟨x, t, k1, _⟩, hl2⟩ := hl
      have ih := ih hl2
      rw [List.any_cons, ih, Bool.or_false]
      obtain ⟨h, k, v⟩ := e
      dsimp only at k1
      subst k1
      rfl
  cases hf : List.find? (fun e => Value.isStrOf z e.key) l with
  | none => simp only [nr]; rfl
  | some e => rfl
theorem trKdIx_ok (F : CxF T kl sc n cl X W) (ht : ∀ e A, t e = some A → Snd T kl cl X W rd e A) {o i : Expr} {A : E} {pos : Pos} (h : trKdIx sc t o i = some A) : Snd T kl cl X W rd (.Subscript o i pos) A := by
  unfold trKdIx at h
  split at h
  · rename_i x p
    split at h
    · rename_i kvs A' hx hA
      cases h
      obtain ⟨a, es, k, kd, hv, ho⟩ := glK_dct F (p := p) hx
      have sa := ht _ _ hA
      refine .leaf (PE.mono (pe_ixDX F.calm F.tk ho sa.pe (plain_ix sa.plain)) ?_) rfl rfl
      rintro σ H Q ⟨S, st, ρ, rfl, ok, er, h⟩
      have h : post T X.K S W σ st ((evE kl cl rd A' ρ st.g).bind fun x => match x.1 with
        | .str k => match kvs.lookup k with
          | some d => .ok (d, x.2)
          | none => .bad
        | _ => .bad) Q := h
      refine ⟨S, st, ρ, rfl, ok, er, post_bind h fun p hp v st1 ok1 e1 s1 r1 h1 => ?_⟩
      obtain ⟨d1, g1⟩ := p
      cases d1 with
      | str z =>
        have hk := hv z
        have h1 : post T X.K S W σ st1 (match kvs.lookup z with
          | some d => R.ok (d, g1)
          | none => .bad) Q := h1
        revert hk h1
        cases kvs.lookup z with
        | none => exact fun _ h1 => h1.elim
        | some d =>
          intro hk h1
          obtain ⟨u, v', e2, e3, e4⟩ := hk
          refine ⟨a, z, rfl, r1.str_, .inl ⟨v', ⟨es, k, u, kd.at_, kd.lit, by rw [ns_kd kd, e2], e3⟩, ?_⟩⟩
          exact h1 v' st1 ok1 e1 (Step.refl _) (e4 _ _ _)
      | _ => exact h1.elim
    · cases h
  · cases h
theorem kdIn_mono {fa : EvF} {neg : Bool} {kvs : List (Str × D)} {a : Addr} {es : Array DictEntry} {k : Nat} (kd : L2.KDict X.K X.w a es k) (hv : ∀ z, DctV T X.K (findBy Value.isStrOf es z) (kvs.lookup z)) (σ : L2.St) (H : Hp) (Q : VK) :
    tE T X.K W rd (fun ρ g => (fa ρ g).bind fun x => match x.1 with
      | .str k => .ok (.bl ((kvs.lookup k).isSome != neg), x.2)
      | _ => .bad) σ H Q → tOp (fun x y H Q => ∃ (z : Str) (r : Option Value), x = .str z ∧ y = .ref a ∧ PySem.W.nsIn X.K a z = some r ∧ Q (.bl (r.isSome != neg)) H) (tE T X.K W rd fa) (fun _ H Q => Q (.ref a) H) σ H Q := by
  rintro ⟨S, st, ρ, rfl, ok, er, h⟩
  refine ⟨S, st, ρ, rfl, ok, er, post_bind h fun p hp v st1 ok1 e1 s1 r1 h1 => ?_⟩
  obtain ⟨d1, g1⟩ := p
  cases d1 with
  | str z =>
    refine ⟨z, _, r1.str_, rfl, ns_kd kd z, ?_⟩
    have hk := hv z
    have e2 : (findBy Value.isStrOf es z).isSome = (kvs.lookup z).isSome := by
      revert hk
      cases kvs.lookup z with
      | none => intro hk; rw [show findBy Value.isStrOf es z = none from hk]; rfl
      | some d => intro hk; obtain ⟨u, v', e2, _⟩ := hk; rw [e2]; rfl
    rw [e2]
    exact h1 _ st1 ok1 e1 (Step.refl _) (.bl _)
  | _ => exact h1.elim
theorem trKdIn_ok (F : CxF T kl sc n cl X W) (ht : ∀ e A, t e = some A → Snd T kl cl X W rd e A) {a : Expr} {ops : List CmpOp} {bs : List Expr} {A : E} {pos : Pos} (h : trKdIn sc t a ops bs = some A) : Snd T kl cl X W rd (.Compare a ops bs pos) A := by
  unfold trKdIn at h
  split at h
  · rename_i x p
    split at h
    · rename_i kvs A' hx hA
      cases h
      obtain ⟨ad, es, k, kd, hv, ho⟩ := glK_dct F (p := p) hx
      have sa := ht _ _ hA
      have q : ∀ (b : Bool), (b != false) = b := fun b => by cases b <;> rfl
      have op : OpR X (compareOp .In) (fun x y H Q => ∃ (z : Str) (r : Option Value), x = .str z ∧ y = .ref ad ∧ PySem.W.nsIn X.K ad z = some r ∧ Q (.bl (r.isSome != false)) H) := by
        intro pins s σ H x y v u Q I r1 r2 ⟨z, r, p1, p2, p3, p4⟩
        rw [q] at p4
        exact op_in_kd kd pins s σ H x y v u Q I r1 r2 ⟨z, r, p1, p2, p3, p4⟩
      refine ⟨PE.mono (pe_cmpR op sa.pe ho rfl) (fun σ H Q => kdIn_mono (fa := evE kl cl rd A') kd hv σ H Q), ⟨fun pins s σ H Q I h => (pt_cmpR op sa.pe ho rfl).run pins s σ H Q I (kdIn_mono (fa := evE kl cl rd A') kd hv σ H _ h)⟩, rfl, fun z => nomatch z⟩
    · cases h
  · rename_i x p
    split at h
    · rename_i kvs A' hx hA
      cases h
      obtain ⟨ad, es, k, kd, hv, ho⟩ := glK_dct F (p := p) hx
      have sa := ht _ _ hA
      have q : ∀ (b : Bool), (b != true) = !b := fun b => by cases b <;> rfl
      have op : OpR X (compareOp .NotIn) (fun x y H Q => ∃ (z : Str) (r : Option Value), x = .str z ∧ y = .ref ad ∧ PySem.W.nsIn X.K ad z = some r ∧ Q (.bl (r.isSome != true)) H) := by
        intro pins s σ H x y v u Q I r1 r2 ⟨z, r, p1, p2, p3, p4⟩
        rw [q] at p4
        exact op_notIn_kd kd pins s σ H x y v u Q I r1 r2 ⟨z, r, p1, p2, p3, p4⟩
      refine ⟨PE.mono (pe_cmpR op sa.pe ho rfl) (fun σ H Q => kdIn_mono (fa := evE kl cl rd A') kd hv σ H Q), ⟨fun pins s σ H Q I h => (pt_cmpR op sa.pe ho rfl).run pins s σ H Q I (kdIn_mono (fa := evE kl cl rd A') kd hv σ H _ h)⟩, rfl, fun z => nomatch z⟩
    · cases h
  · cases h
/-! ### indexing -/
theorem trSub_ok (F : CxF T kl sc n cl X W) (ht : ∀ e A, t e = some A → Snd T kl cl X W rd e A) {o i : Expr} {A : E} {pos : Pos} (h : trSub sc t o i = some A) : Snd T kl cl X W rd (.Subscript o i pos) A := by
  have hu : X.A.units + 1 < cLine := by have := F.room.un; omega
  unfold trSub at h
  split at h
  · split at h
    · rename_i key _ _ A' hA
      cases h
      exact .leafEq (fe_hget hu (ht _ _ hA).pe pe_str (fun _ _ => rfl)) rfl rfl rfl
    · cases h
  · split at h
    · rename_i A' B' h1 h2
      cases h
      have sb := ht _ _ h2
      exact .leafEq (fe_bin (r := rSlo X.K) (PE.mono (pe_slice sl_all (ht _ _ h1).pe (po_some sb.pe) po_none) fun _ _ _ q => q) pr_slo) ev_prim2 rfl rfl
    · cases h
  · split at h
    · rename_i A' B' h1 h2
      cases h
      have sb := ht _ _ h2
      exact .leafEq (fe_bin (r := rShi X.K) (PE.mono (pe_slice sl_all (ht _ _ h1).pe po_none (po_some sb.pe)) fun _ _ _ q => q) pr_shi) ev_prim2 rfl rfl
    · cases h
  · split at h
    · rename_i A' B' C' h1 h2 h3
      split at h
      · rename_i hc
        cases h
        exact .leafEq (PE.mono (pe_slice sl_all (ht _ _ h1).pe (po_some (ht _ _ h2).pe) (po_some (ht _ _ h3).pe)) (slb_mono fun ρ g c fs g' => calm_ok hc)) ev_prim3 rfl rfl
      · cases h
    · cases h
  · split at h
    · rename_i A' h1
      cases h
      exact .leafEq (PE.mono (ZL.pe_revA (ht _ _ h1).pe) rev_mono) ev_prim1 rfl rfl
    · cases h
  · split at h
    · split at h
      · rename_i A' j h1 h2
        cases h
        obtain ⟨v1, v2, v3, v4⟩ := varIx_ok F h2
        exact .leafEq (fe_hgetix hu (ht _ _ h1).pe pe_str (fun _ _ => rfl) (pe_var v1 v2 v3 v4) (fun _ _ => rfl)) rfl rfl rfl
      · cases h
    · split at h
      · rename_i A' B' h1 h2
        cases h
        have sb := ht _ _ h2
        exact .leafEq (fe_bin (pe_ix ix_seq (ht _ _ h1).pe sb.pe (plain_ix sb.plain)) pr_ix) ev_prim2 rfl rfl
      · cases h
end
end Z

set_option Elab.async false
set_option linter.all false
set_option maxRecDepth 100000
set_option maxHeartbeats 4000000
/-! Z18: soundness of the translation: targets, comprehensions, dict displays; all expressions. -/
namespace Z
open PySem PySem.Spec PyProof.Rows L2

section
variable {T : Tb} {kl : Kl} {sc : Sc} {n : Nat} {cl : Cal} {X : Cx} {W : WX} {rd : List Nat} {t : Expr → Option E}
/-! ### targets -/
theorem trNm_ok (F : CxF T kl sc n cl X W) {e : Expr} {p : Str × Nat} (h : trNm sc e = some p) : ∃ pos, e = .Name p.1 pos ∧ X.N[p.2]? = some p.1 ∧ L2.Loc X.env.scope p.1 ∧ (X.fn p.1 = true ∨ X.env.scope.names.lookup p.1 = some .local) := by
  unfold trNm at h
  split at h
  · split at h
    · rename_i i hi
      cases h
      obtain ⟨h1, h2, h3⟩ := locIx_ok F hi
      exact ⟨_, rfl, h1, h2, h3⟩
    · cases h
  · cases h
theorem trNm_pg (F : CxF T kl sc n cl X W) {e : Expr} {p : Str × Nat} (h : trNm sc e = some p) : PG X e (gName p.2) := by
  obtain ⟨pos, rfl, h1, h2, h3⟩ := trNm_ok F h
  exact pg_name F.nd h1 h2 h3
theorem trNms_pg (F : CxF T kl sc n cl X W) : ∀ {es : List Expr} {ps : List (Str × Nat)}, trNms sc es = some ps → PGs X es (gNames (ps.map (·.2))) ∧ es.length = ps.length ∧ (∀ e ∈ es, ∃ x p, e = .Name x p) ∧ ∀ p ∈ ps, X.N[p.2]? = some p.1
  | [], ps, h => by cases h; exact ⟨pgs_nil, rfl, fun e z => (nomatch z), fun p z => (nomatch z)⟩
  | e :: es, ps, h => by
    unfold trNms at h
    split at h
    · rename_i p ps' h1 h2
      cases h
      obtain ⟨r1, r2, r3, r4⟩ := trNms_pg F h2
      obtain ⟨pos, he, h3, _⟩ := trNm_ok F h1
      refine ⟨pgs_cons (trNm_pg F h1) r1 (by subst he; rfl), congrArg (· + 1) r2, fun e' z => ?_, fun q z => ?_⟩
      · rcases List.mem_cons.mp z with z | z
        · subst z; exact ⟨_, _, he⟩
        · exact r3 e' z
      · rcases List.mem_cons.mp z with z | z
        · subst z; exact h3
        · exact r4 q z
    · cases h
theorem names_each {es : List Expr} {env : Env} (h : ∀ e ∈ es, ∃ x p, e = .Name x p) : (assignEach es env).length = es.length ∧ (assignEach es env).findIdx? (·.1) = none := by
  induction es with
  | nil => exact ⟨rfl, rfl⟩
  | cons e es ih =>
    obtain ⟨x, p, rfl⟩ := h e List.mem_cons_self
    obtain ⟨i1, i2⟩ := ih fun e' z => h e' (List.mem_cons_of_mem _ z)
    refine ⟨?_, ?_⟩
    · show (assignEach es env).length + 1 = _
      rw [i1]; rfl
    · have e : assignEach (.Name x p :: es) env = (false, assign (.Name x p) env) :: assignEach es env := rfl
      rw [e, List.findIdx?_cons, i2]; rfl
theorem trTg_pg (F : CxF T kl sc n cl X W) {e : Expr} {tg : Tg} {own : List (Str × Nat)} (h : trTg sc e = some (tg, own)) : PG X e (gZ X.K tg) ∧ own.map (·.2) = tg.slots ∧ ∀ p ∈ own, X.N[p.2]? = some p.1 := by
  unfold trTg at h
  split at h
  · split at h
    · rename_i p hp
      cases h
      obtain ⟨_, _, h1, _⟩ := trNm_ok F hp
      exact ⟨trNm_pg F hp, rfl, fun q z => by rw [List.mem_singleton.mp z]; exact h1⟩
    · cases h
  · rename_i es k pos
    split at h
    · rename_i ps hp
      cases h
      obtain ⟨r1, r2, r3, r4⟩ := trNms_pg F hp
      obtain ⟨n1, n2⟩ := names_each (env := X.env) r3
      refine ⟨?_, rfl, r4⟩
      exact pg_tup F.calm r1 (by rw [n1, r2, List.length_map]) n2
    · cases h
  · cases h
/-! ### what is walked -/
theorem trIt_pi (F : CxF T kl sc n cl X W) (ht : ∀ e A, t e = some A → Snd T kl cl X W rd e A) {tgt e : Expr} {k : Ik} {Es : Es} (h : trIt sc t tgt e = some (k, Es)) : PI X tgt e (tI T X.K W rd (evEs kl cl rd Es) k) := by
  have base : ∀ {A : E}, t e = some A → PI X tgt e (tI T X.K W rd (evEs kl cl rd (.cons A .nil)) .seq) := fun hA => fi_seq (ht _ _ hA).pe
  unfold trIt at h
  split at h
  · rename_i x p1 args pos
    split at h
    · rename_i hb
      obtain ⟨rfl, hg, hm⟩ := bltIs_ok F hb
      split at h
      · rename_i a B hB
        cases h
        obtain ⟨ha, hp⟩ := trList_pa ht hB
        exact fi_rng1 hg hm ha (plain_stars hp) fun ρ g q e => trList_len hB e
      · rename_i a b B hB
        cases h
        obtain ⟨ha, hp⟩ := trList_pa ht hB
        exact fi_rng2 hg hm ha (plain_stars hp) (plain_stars fun y z => hp y (List.mem_cons_of_mem _ z)) fun ρ g q e => trList_len hB e
      · cases h
    · split at h
      · rename_i hb
        rw [Bool.and_eq_true] at hb
        obtain ⟨rfl, hg, hm⟩ := bltIs_ok F hb.1
        cases tgt <;> (try (cases hb.2; done))
        split at h
        · rename_i a b B hB
          cases h
          obtain ⟨ha, hp⟩ := trList_pa ht hB
          exact fi_zip hg hm ha (plain_star (hp a List.mem_cons_self)) (plain_any fun y z => hp y (List.mem_cons_of_mem _ z)) fun ρ g q e => trList_len hB e
        · cases h
      · split at h
        · rename_i hb
          rw [Bool.and_eq_true] at hb
          obtain ⟨rfl, hg, hm⟩ := bltIs_ok F hb.1
          cases tgt <;> (try (cases hb.2; done))
          split at h
          · rename_i a B hB
            cases h
            obtain ⟨ha, hp⟩ := trList_pa ht hB
            exact fi_enum hg hm ha (plain_stars hp) fun ρ g q e => trList_len hB e
          · cases h
        · split at h
          · cases h; exact base ‹_›
          · cases h
  · split at h
    · cases h; exact base ‹_›
    · cases h
/-! ### comprehensions -/
theorem blk_sc {N : List Str} {sc1 : Scope} {scope : Scope} {own : List (Str × Nat)} (hn : sc1.names = sc.names) (h : BlkOk N (fakeS sc) scope own) : BlkOk N sc1 scope own :=
  ⟨h.kind, h.uniq, h.ix, fun y hy e => by rw [hn]; exact h.free y hy e, h.own⟩
theorem relab_eq {env : Env} (hk : env.scope.kind = .function) (hn : env.scope.names = sc.names) : ∀ l : List (Str × NameKind), (l.map fun (n, k) => if (k == .free && env.scope.kind == .function && env.kindOf n == some .cell) then (n, .cell) else (n, k)) = relab sc.names l
  | [] => rfl
  | (n, k) :: r => by
    have e : (env.scope.kind == .function) = true := by rw [hk]; rfl
    have e2 : (k == .free && env.scope.kind == .function && env.kindOf n == some .cell) = (k == .free && sc.names.lookup n == some .cell) := by unfold Env.kindOf; rw [hn, e, Bool.and_true]
    show (if (k == .free && env.scope.kind == .function && env.kindOf n == some .cell) = true then (n, NameKind.cell) else (n, k)) :: (r.map fun (n, k) => if (k == .free && env.scope.kind == .function && env.kindOf n == some .cell) then (n, .cell) else (n, k)) = (if (k == .free && sc.names.lookup n == some .cell) = true then (n, .cell) else (n, k)) :: relab sc.names r
    rw [e2, relab_eq hk hn r]
theorem CxF.blk (F : CxF T kl sc n cl X W) {scope : Scope} (hk : scope.kind = .function) (s : Shared) (H : Hp) (C : Addr) (c : List (Str × Addr)) (fp : List Addr) : CxF T kl (scopeIn sc scope) n cl (X.blk s H scope (compEnvC scope c C X.env) fp) W0 where
  gl := F.gl
  fns := F.fns
  calm := F.calm
  nd := F.nd
  N := F.N
  names := relab_eq F.kind F.names scope.names
  kind := hk
  fnn := fun x h => by
    show (scope.names.lookup x == some .cell) = true
    have h : scope.names.lookup x = some .cell := h
    rw [h]; rfl
  room := F.room
  grd := F.grd
  lam := F.lam
  tk := fun u s' ⟨_, _, _, _, _, _, _, _, _, _, _, _, _, _, _, _, w⟩ => w.elim
theorem ev_comp {k : Ik} {Es : Es} {tg : Tg} {C A : E} : evE kl cl rd (.comp k Es tg C A) = compF k (evEs kl cl rd Es) tg (evE kl cl rd C) (evE kl cl rd A) := rfl
theorem trComp_ok (F : CxF T kl sc n cl X W) {tr : Sc → Expr → Option E} (ht : ∀ (sc' : Sc) (X' : Cx) (W' : WX), CxF T kl sc' n cl X' W' → ∀ e A, tr sc' e = some A → Snd T kl cl X' W' rd e A) {elt : Expr} {gens : List Comprehension} {scope : Scope} {A : E} {pos : Pos} (h : trComp sc tr elt gens scope = some A) :
    Snd T kl cl X W rd (.ListComp elt gens scope pos) A ∧ isFresh A = true := by
  unfold trComp at h
  split at h
  · rename_i g
    obtain ⟨tgt, iter, ifs, asy⟩ := g
    dsimp only at h
    split at h
    · rename_i hz
      subst hz
      split at h
      · rename_i k Es tg own A' h1 h2 h3
        split at h
        · rename_i hb
          rw [Bool.and_eq_true] at hb
          have bk := blk_sc (sc1 := X.env.scope) F.names (blkOk_by hb.1)
          have bk' : BlkOk X.N X.env.scope scope own := by rw [F.N]; exact bk
          have hi := trIt_pi F (fun e A he => ht sc X W F e A he) (tgt := tgt) h1
          have fB := fun s H C c fp => F.blk bk.kind s H C c fp
          have hg : ∀ (s : Shared) (H : Hp) (C : Addr) (cl : List (Str × Addr)) (fp : List Addr), PG (X.blk s H scope (compEnvC scope cl C X.env) fp) tgt (gZ X.K tg) := fun s H C c fp => (trTg_pg (fB s H C c fp) h2).1
          have hown : own.map (·.2) = tg.slots := (trTg_pg (fB (X.s_0) X.H_0 0 [] []) h2).2.1
          have he : ∀ (s : Shared) (H : Hp) (C : Addr) (c : List (Str × Addr)) (fp : List Addr), PE (X.blk s H scope (compEnvC scope c C X.env) fp) elt (tE T X.K W0 rd (evE kl cl rd A')) := fun s H C c fp => (ht _ _ _ (fB s H C c fp) _ _ h3).pe
          split at h
          · cases h
            have r : PE X (.ListComp elt [⟨tgt, iter, [], 0⟩] scope pos) (tEF T X.K W rd (evE kl cl rd (.comp k Es tg (.con (.bl true)) A'))) :=
              fe_comp F.calm F.nd hi bk' hown hg (fun s H C c fp => pts_none) he (plain_fold hb.2)
            have hl : ListF (evE kl cl rd (.comp k Es tg (.con (.bl true)) A')) := by rw [ev_comp]; exact compF_list
            exact ⟨⟨fe_fresh r hl, pt_val (fe_fresh r hl) (leaf_true rfl), rfl, fun _ => ⟨r, hl⟩⟩, rfl⟩
          · rename_i c
            split at h
            · rename_i C hC
              cases h
              have r : PE X (.ListComp elt [⟨tgt, iter, [c], 0⟩] scope pos) (tEF T X.K W rd (evE kl cl rd (.comp k Es tg C A'))) :=
                fe_comp F.calm F.nd hi bk' hown hg (fun s H C0 c0 fp => pts_one (ht _ _ _ (fB s H C0 c0 fp) _ _ hC).pt) he (plain_fold hb.2)
              have hl : ListF (evE kl cl rd (.comp k Es tg C A')) := by rw [ev_comp]; exact compF_list
              exact ⟨⟨fe_fresh r hl, pt_val (fe_fresh r hl) (leaf_true rfl), rfl, fun _ => ⟨r, hl⟩⟩, rfl⟩
            · cases h
          · cases h
        · cases h
      · cases h
    · cases h
  · cases h
/-! ### displays -/
theorem lsF_list {fs : List Sl → G → R (List D × G)} : ListF (lsF fs fun ds => if ds.length ≤ sizeLine then some (.lst ds) else none) := by
  intro ρ g p h
  have h : ((fs ρ g).bind fun q => match (if q.1.length ≤ sizeLine then some (D.lst q.1) else none) with | some d => R.ok (d, q.2) | none => .bad) = .ok p := h
  obtain ⟨q, _, h⟩ := R.bind_eq_ok h
  split at h
  · rename_i d hd
    cases h
    split at hd
    · cases hd; exact ⟨_, rfl⟩
    · cases hd
  · cases h
theorem snd_list (ht : ∀ e A, t e = some A → Snd T kl cl X W rd e A) {es : List Expr} {B : Es} {pos : Pos} (h : trList t es = some B) : Snd T kl cl X W rd (.List es pos) (.prim .mkLst B) := by
  obtain ⟨ha, hp⟩ := trList_pa ht h
  have r : PE X (.List es pos) (tE T X.K W rd (evE kl cl rd (.prim .mkLst B))) := fe_lst ha
  exact ⟨r, pt_val r (leaf_true rfl), rfl, fun _ => ⟨fe_lstF ha, lsF_list⟩⟩
theorem trKeys_ok : ∀ {keys : List (Option Expr)} {ks : List Str}, trKeys keys = some ks → keys.all (·.isSome) = true ∧ keys.length = ks.length
  | [], ks, h => by cases h; exact ⟨rfl, rfl⟩
  | none :: r, ks, h => by cases h
  | some e :: r, ks, h => by
    unfold trKeys at h
    split at h
    · rename_i z; cases z
    · rename_i heq
      injection heq with h1 h2
      cases h1
      subst h2
      split at h
      · rename_i ks' hk
        cases h
        obtain ⟨h1, h2⟩ := trKeys_ok hk
        exact ⟨by rw [List.all_cons, h1]; rfl, by simp [h2]⟩
      · cases h
    · cases h
theorem trKeys_pps (ht : ∀ e A, t e = some A → Snd T kl cl X W rd e A) {pos : Pos} : ∀ {keys : List (Option Expr)} {ks : List Str} {values : List Expr} {B : Es}, trKeys keys = some ks → trList t values = some B → keys.length = values.length →
    ∃ trs, PPs X pos keys values trs ∧ PairsF T X.K W rd ks trs (evEs kl cl rd B)
  | [], ks, [], B, h, hB, _ => by cases h; cases hB; exact ⟨[], pps_nil, pairs_nil⟩
  | [], _, _ :: _, _, _, _, hl => by cases hl
  | _ :: _, _, [], _, _, _, hl => by cases hl
  | none :: r, ks, _ :: _, B, h, _, _ => by cases h
  | some e :: r, ks, v :: vs, B, h, hB, hl => by
    unfold trKeys at h
    split at h
    · rename_i z; cases z
    · rename_i heq
      injection heq with h1 h2
      cases h1
      subst h2
      split at h
      · rename_i ks' hk
        cases h
        unfold trList at hB
        split at hB
        · rename_i A hA
          split at hB
          · rename_i B' hB'
            cases hB
            obtain ⟨trs, q1, q2⟩ := trKeys_pps ht (pos := pos) hk hB' (by simpa using hl)
            exact ⟨_, pps_cons pe_str (ht _ _ hA).pe q1, pairs_cons q2⟩
          · cases hB
        · cases hB
      · cases h
    · cases h
theorem snd_hnew (ht : ∀ e A, t e = some A → Snd T kl cl X W rd e A) {keys : List (Option Expr)} {values : List Expr} {ks : List Str} {B : Es} {pos : Pos} (hk : trKeys keys = some ks) (hB : trList t values = some B) (hl : keys.length = values.length) (h0 : ks ≠ []) (h15 : ks.length ≤ 15) :
    PE X (.Dict keys values pos) (tE T X.K W rd (evE kl cl rd (.hnew ks B))) := by
  obtain ⟨k1, k2⟩ := trKeys_ok hk
  obtain ⟨trs, p1, p2⟩ := trKeys_pps ht (pos := pos) hk hB hl
  exact fe_hnew (pe_disp p1 k1 hl (fun e => h0 (by rw [e] at k2; cases ks with | nil => rfl | cons _ _ => cases k2)) (by rw [k2]; exact h15)) p2
theorem fresh_id {A : E} (h : isFresh A = true) : freshen A = A := by
  cases A <;> first | rfl | skip
  rename_i p es
  cases p <;> first | rfl | cases h
theorem fresh_pe {e : Expr} {A : E} (s : Snd T kl cl X W rd e A) (h : isFresh A = true) : PE X e (tEF T X.K W rd (evE kl cl rd A)) := by
  have := (s.fr (by rw [fresh_id h]; exact h)).1
  rw [fresh_id h] at this
  exact this
theorem trDict_ok (ht : ∀ e A, t e = some A → Snd T kl cl X W rd e A) {keys : List (Option Expr)} {values : List Expr} {A : E} {pos : Pos} (hlen : keys.length = values.length ∧ keys.length ≤ 15) (h : trDict t keys values = some A) : Snd T kl cl X W rd (.Dict keys values pos) A := by
  unfold trDict at h
  split at h
  · rename_i ks B hk hB
    obtain ⟨k1, k2⟩ := trKeys_ok hk
    split at h
    · cases h
      have e1 : keys = [] := by cases keys with | nil => rfl | cons _ _ => cases k2
      subst e1
      have e2 : values = [] := by cases values with | nil => rfl | cons _ _ => cases hlen.1
      subst e2
      exact .leafEq fe_dct0 (by funext ρ g; rfl) rfl rfl
    · rename_i q1 q2 q3 A1 A2 d3
      split at h
      · rename_i hf
        cases h
        match keys, values, hk, hB, k1, k2, hlen with
        | [some e1, some e2, some e3], [v1, v2, v3], hk, hB, k1, k2, hlen =>
          unfold trKeys at hk
          split at hk
          · rename_i z; cases z
          · rename_i heq
            injection heq with g1 g2
            cases g1
            subst g2
            split at hk
            · rename_i ks1 hk1
              cases hk
              unfold trKeys at hk1
              split at hk1
              · rename_i z; cases z
              · rename_i heq
                injection heq with g1 g2
                cases g1
                subst g2
                split at hk1
                · rename_i ks2 hk2
                  cases hk1
                  unfold trKeys at hk2
                  split at hk2
                  · rename_i z; cases z
                  · rename_i heq
                    injection heq with g1 g2
                    cases g1
                    subst g2
                    split at hk2
                    · rename_i ks3 hk3
                      cases hk2
                      unfold trList at hB
                      split at hB
                      · rename_i B1 h1
                        split at hB
                        · rename_i C1 hC1
                          cases hB
                          unfold trList at hC1
                          split at hC1
                          · rename_i B2 h2
                            split at hC1
                            · rename_i C2 hC2
                              cases hC1
                              unfold trList at hC2
                              split at hC2
                              · rename_i B3 h3
                                split at hC2
                                · rename_i C3 hC3
                                  cases hC2
                                  have s3 := ht _ _ h3
                                  refine .leaf (fe_hnewL (pe_disp (pps_cons pe_str (ht _ _ h1).pe (pps_cons pe_str (fresh_pe (ht _ _ h2) hf) (pps_cons pe_str s3.pe pps_nil))) rfl rfl (by intro z; cases z) (by show 3 ≤ 15; decide))) rfl rfl
                                · cases hC2
                              · cases hC2
                            · cases hC1
                          · cases hC1
                        · cases hB
                      · cases hB
                    · cases hk2
                  · cases hk2
                · cases hk1
              · cases hk1
            · cases hk
          · cases hk
        | [none, _, _], _, hk, _, k1, _, _ => cases k1
        | [some _, none, _], _, hk, _, k1, _, _ => cases k1
        | [some _, some _, none], _, hk, _, k1, _, _ => cases k1
      · cases h
        exact .leaf (snd_hnew ht hk hB hlen.1 (fun z => by cases z) (by rw [← k2]; exact hlen.2)) rfl rfl
    · cases h
      rename_i h1 h2
      by_cases h0 : ks = []
      · subst h0
        have e1 : keys = [] := by cases keys with | nil => rfl | cons _ _ => cases k2
        subst e1
        have e2 : values = [] := by cases values with | nil => rfl | cons _ _ => cases hlen.1
        subst e2
        cases hB
        exact absurd rfl (h1 rfl)
      · exact .leaf (snd_hnew ht hk hB hlen.1 h0 (by rw [← k2]; exact hlen.2)) rfl rfl
  · cases h
theorem pt_ifExp {c a b : Expr} {tc ta tb : TT} {pos : Pos} (hc : PT X c tc) (ha : PT X a ta) (hb : PT X b tb) : PT X (.IfExp c a b pos) (fun σ H Q => tc σ H fun k H1 => if k = true then ta σ H1 Q else tb σ H1 Q) := by
  refine ⟨fun pins s σ H Q I h => ?_⟩
  show wpAny _ _ (do if ← isTrue c X.env (eval c X.env) then isTrue a X.env (eval a X.env) else isTrue b X.env (eval b X.env)) _ _ s
  refine wpAny_bind (thn (hc.run pins s σ H _ I h) fun k s1 ⟨H1, I1, q1⟩ => ?_)
  cases k with
  | true => exact ha.run pins s1 σ H1 Q I1 q1
  | false => exact hb.run pins s1 σ H1 Q I1 q1
/-- all expressions -/
theorem trE_ok : ∀ (m : Nat) {sc : Sc} {X : Cx} {W : WX}, CxF T kl sc n cl X W → ∀ (e : Expr) (A : E), trE m sc e = some A → Snd T kl cl X W rd e A
  | 0, _, _, _, _, _, _, h => by cases h
  | m + 1, sc, X, W, F, e, A, h => by
    have hu : X.A.units + 65 < cLine := by have := F.room.un; omega
    have ih : ∀ e A, trE m sc e = some A → Snd T kl cl X W rd e A := trE_ok m F
    unfold trE at h
    split at h
    · exact trName_ok F h
    · split at h
      · rename_i hd
        cases h
        obtain ⟨v, h1, h2⟩ := trConst_ok (X := X) (T := T) hd
        exact .leafEq (fe_con h1 h2) rfl rfl rfl
      · cases h
    · split at h
      · rename_i A' hA
        split at h
        · rename_i hf
          cases h
          obtain ⟨h1, h2⟩ := trBool_and ih hA
          exact ⟨h1, h2.pt, rfl, fun z => by rw [hf] at z; cases z⟩
        · cases h
      · cases h
    · split at h
      · rename_i A' hA
        split at h
        · rename_i hf
          cases h
          obtain ⟨h1, h2⟩ := trBool_or ih hA
          exact ⟨h1, h2.pt, rfl, fun z => by rw [hf] at z; cases z⟩
        · cases h
      · cases h
    · split at h
      · rename_i h1 h2 h3
        cases h
        exact snd_op h1 (ih _ _ h2) (ih _ _ h3)
      · cases h
    · split at h
      · cases h; exact snd_not (ih _ _ ‹_›)
      · cases h
    · split at h
      · cases h
        have s := ih _ _ ‹_›
        exact .leafEq (fe_un (pe_un un_neg s.pe) pr_neg) ev_prim1 rfl rfl
      · cases h
    · split at h
      · rename_i hA; cases h; exact trKdIn_ok F ih hA
      · exact trCmp_ok hu ih h
    · split at h
      · rename_i h1 h2 h3
        cases h
        have s1 := ih _ _ h1
        have s2 := ih _ _ h2
        have s3 := ih _ _ h3
        refine ⟨fe_ite s1.pt s2.pe s3.pe, ⟨fun pins s σ H Q I q => (pt_ifExp s1.pt s2.pt s3.pt).run pins s σ H Q I ?_⟩, rfl, fun z => nomatch z⟩
        exact ite_mono σ H _ q
      · cases h
    · split at h
      · rename_i hA; cases h; exact trGet_ok F ih hA
      · exact trCall_ok F ih h
    · split at h
      · cases h; exact snd_list ih ‹_›
      · cases h
    · split at h
      · cases h
        obtain ⟨ha, hp⟩ := trList_pa ih ‹_›
        exact .leafEq (fe_tup ha) rfl rfl rfl
      · cases h
    · split at h
      · rename_i hA; cases h; exact trKdIx_ok F ih hA
      · exact trSub_ok F ih h
    · split at h
      · split at h
        · cases h; exact .leaf (snd_lam F ‹_› ‹_›) rfl rfl
        · cases h
      · cases h
    · exact (trComp_ok F (fun sc' X' W' F' e A h => trE_ok m F' e A h) h).1
    · split at h
      · exact trDict_ok ih ‹_› h
      · cases h
    · cases h
end
end Z

set_option Elab.async false
set_option linter.all false
set_option maxRecDepth 100000
set_option maxHeartbeats 4000000
/-! Z19: the translation of statements, sound. -/
namespace Z
open PySem PySem.Spec PyProof.Rows L2

/-! ### the slots that an expression reads -/
mutual
def rdE : E → List Nat
  | .var i => [i]
  | .con _ => []
  | .prim _ es => rdEs es
  | .and a b => rdE a ++ rdE b
  | .or a b => rdE a ++ rdE b
  | .ite c a b => rdE c ++ (rdE a ++ rdE b)
  | .chain _ _ a b c => rdE a ++ (rdE b ++ rdE c)
  | .call _ es => rdEs es
  | .callv e es => rdE e ++ rdEs es
  | .callp i _ es => i :: rdEs es
  | .lam _ => []
  | .cget _ e f => rdE e ++ rdE f
  | .cix _ e => rdE e
  | .cin _ _ e => rdE e
  | .comp _ es _ c e => rdEs es ++ (rdE c ++ rdE e)
  | .hget e _ => rdE e
  | .hgetix e _ j => j :: rdE e
  | .hnew _ es => rdEs es
  | .hnewL _ _ _ a b _ => rdE a ++ rdE b
def rdEs : Es → List Nat
  | .nil => []
  | .cons e es => rdE e ++ rdEs es
end

/-! ### the functions -/
def allNm : List Expr → Bool
  | [] => true
  | .Name _ _ :: r => allNm r
  | _ => false
/-- a, b = x, y with the stores from the right -/
def swap2 (sc : Sc) (es vs : List Expr) : Bool := match es, vs with
  | [.Name x px, .Name y py], [a, b] => (match sc.names.lookup x with | some .local => true | _ => false) && (match sc.names.lookup y with | some .local => true | _ => false) && px.line == py.line && !(x == y) && plainX a && plainX b && !([a, b].all (foldedForSure 8)) && !([a, b].all (constantsAlone 8))
  | _, _ => false
def swap3 (sc : Sc) (es vs : List Expr) : Bool := match es, vs with
  | [.Name x px, .Name y py, .Name z pz], [a, b, c] => (match sc.names.lookup x with | some .local => true | _ => false) && (match sc.names.lookup y with | some .local => true | _ => false) && (match sc.names.lookup z with | some .local => true | _ => false) && px.line == py.line && px.line == pz.line && !(x == y) && !(x == z) && !(y == z) && plainX a && plainX b && plainX c && !([a, b, c].all (foldedForSure 8)) && !([a, b, c].all (constantsAlone 8))
  | _, _ => false
/-- the value isn't swapped for sure -/
def nonSwap (sc : Sc) (es : List Expr) (e : Expr) : Bool := match e with
  | .Tuple vs _ _ => vs.length != es.length || !(es.length == 2 || es.length == 3) || vs.all (foldedForSure 8) || es.any fun t => match t with
    | .Name x _ => match sc.names.lookup x with
      | some .local => false
      | _ => true
    | _ => true
  | .List _ _ => false
  | _ => true
/-- a, b = [], e where a is a list of the def's own: the slots and e -/
def par0At (sc : Sc) (ps : List (Str × Nat)) (vs : List Expr) : Option (Nat × Nat × Expr) := match ps, vs with
  | [p, q], [.List [] _, b] => if sc.own.contains p.2 = true ∧ sc.own.contains q.2 = false ∧ p.2 ≠ q.2 then some (p.2, q.2, b) else none
  | _, _ => none
def trAssign (sc : Sc) (t : Expr → Option E) (tg : Expr) (e : Expr) : Option S := match tg with
  | .Name y _ => match locIx sc y, t e with
    | some i, some A => if isFresh (freshen A) = true ∧ sc.own.contains i = true then some (.own i (rdE A) (freshen A)) else if sc.own.contains (i + 1000) = true then some (.ownc i A) else some (.set i (rdE A) A)
    | _, _ => none
  | .Tuple es _ _ => match trNms sc es with
    | some ps => match e with
      | .Tuple vs _ _ => match par0At sc ps vs with
       | some q => match t q.2.2 with
         | some A => if swap2 sc es vs then some (.par0 q.1 q.2.1 (rdE A) A) else none
         | none => none
       | none => match trList t vs with
        | some B => if swap2 sc es vs || swap3 sc es vs then some (.par (ps.map (·.2)) (rdEs B) B)
          else if nonSwap sc es e then some (.unp (ps.map (·.2)) (rdEs B) (.prim .mkTup B)) else none
        | none => none
      | _ => match t e with
        | some A => if nonSwap sc es e then some (.unp (ps.map (·.2)) (rdE A) A) else none
        | none => none
    | none => none
  | .Subscript o i _ => match i with
    | .Constant (.str key) _ _ => match t o, t e with
      | some A, some B => some (.hset A key B)
      | _, _ => none
    | .Name y _ => match o with
      | .Subscript o' (.Constant (.str key) _ _) _ => match t o', varIx sc y, t e with
        | some A, some j, some B => some (.hsetix A key j B)
        | _, _, _ => none
      | _ => none
    | i => match o with
      | .Name x _ => match varIx sc x, t i, t e with
        | some j, some A, some B => if plainX i then some (.setix j (rdE B) A B) else none
        | _, _, _ => none
      | _ => none
  | _ => none
def trExprS (sc : Sc) (t : Expr → Option E) (e : Expr) : Option S := match e with
  | .Call (.Attribute (.Name x _) m apos) [] [] cpos => if apos.endLine == cpos.line && decide (m = "clear") then match varIx sc x with
      | some i => some (.clr i)
      | none => none
    else none
  | .Call (.Attribute (.Name x _) m apos) [a, b] [] cpos => if apos.endLine == cpos.line && decide (m = "insert") then match varIx sc x, trList t [a, b] with
      | some i, some B => some (.ins i (rdEs B) B)
      | _, _ => none
    else none
  | .Call (.Attribute (.Name x _) m apos) [a] [] cpos => if apos.endLine == cpos.line then match varIx sc x, t a with
      | some i, some A => if m = "append" then some (.app i (rdE A) A) else if m = "extend" then some (.ext i (rdE A) A) else none
      | _, _ => none
    else none
  | e => match t e with
    | some A => if isComp e then none else some (.expr (rdE A) A)
    | none => none
def trRaise (sc : Sc) (e : Expr) : Option S := match e with
  | .Call (.Name x _) [.Constant (.str _) _ _] [] _ => match glK sc x with
    | some (.cls c true) => some (.rais c)
    | _ => none
  | _ => none
def trHandler (sc : Sc) (h : ExceptHandler) : Option (Nat × Option Nat × Nat) := match h with
  | .ExceptHandler (some (.Name x _)) nm [.Assign [.Name y _] v _] _ => match glK sc x, locIx sc y with
    | some (.cls c _), some i => match nm with
      | none => match v with
        | .Constant .none _ _ => some (c, none, i)
        | _ => none
      | some z => match v with
        | .Name z' _ => if z' = z then match varIx sc z, sc.names.lookup z with
            | some j, some .local => some (c, some j, i)
            | _, _ => none
          else none
        | _ => none
    | _, _ => none
  | _ => none
mutual
def trS : Nat → Nat → Sc → Stmt → Option S
  | 0, _, _, _ => none
  | n + 1, m, sc, s => match s with
    | .Assign [tg] e _ => trAssign sc (trE m sc) tg e
    | .AugAssign (.Name x _) .Add e _ => match locIx sc x, trE m sc e with
      | some i, some A => some (.aug i (rdE A) A)
      | _, _ => none
    | .Expr e _ => trExprS sc (trE m sc) e
    | .Return (some e) _ => match trE m sc e with
      | some A => some (.ret (rdE A) A)
      | none => none
    | .Return none _ => some .retN
    | .If c a b _ => match trE m sc c, trSs n m sc a, trSs n m sc b with
      | some C, some A, some B => some (.ite (rdE C) C A B)
      | _, _, _ => none
    | .While c b [] _ => match trE m sc c, trSs n m sc b with
      | some C, some B => some (.whl (rdE C) C B)
      | _, _ => none
    | .For tgt iter b [] _ => match trIt sc (trE m sc) tgt iter, trTg sc tgt, trSs n m sc b with
      | some (k, Es), some (tg, _), some B => if plainX iter then some (.for k (rdEs Es) Es tg B) else none
      | _, _, _ => none
    | .Raise (some e) none _ => trRaise sc e
    | .Try b [h] [] [] _ => match trSs n m sc b, trHandler sc h with
      | some B, some (c, v, i) => some (.try_ B c v i)
      | _, _ => none
    | .Pass _ => some .pass
    | .Break _ => some .brk
    | .Continue _ => some .cnt
    | _ => none
def trSs : Nat → Nat → Sc → List Stmt → Option Ss
  | 0, _, _, _ => none
  | n + 1, m, sc, ss => match ss with
    | [] => some .nil
    | s :: r => match trS n m sc s, trSs n m sc r with
      | some A, some B => some (.cons A B)
      | _, _ => none
end

/-! ### soundness -/
structure CxS (T : Tb) (kl : Kl) (sc : Sc) (n : Nat) (cl : Cal) (X : Cx) (W : WX) : Prop where
  cx : CxF T kl sc n cl X W
  hp : PassesOwn (model X.prog X.w) X.A X.env X.xe
  ex : X.ex = []
  stk : X.stack = X.env :: X.outer
  frm : X.env.frame = some X.env.locals
section
variable {T : Tb} {kl : Kl} {sc : Sc} {n : Nat} {cl : Cal} {X : Cx} {W : WX}
theorem CxS.try_ (F : CxS T kl sc n cl X W) {W' : WX} (pn : List (Addr × Obj)) (xe : Value → Shared → Prop) (tk : Takes (X.tr pn xe) W') (hp : PassesOwn (model X.prog X.w) X.A X.env xe) : CxS T kl sc n cl (X.tr pn xe) W' :=
  ⟨⟨F.cx.gl, F.cx.fns, F.cx.calm, F.cx.nd, F.cx.N, F.cx.names, F.cx.kind, F.cx.fnn, F.cx.room, F.cx.grd, tk, F.cx.lam⟩, hp, F.ex, F.stk, F.frm⟩
theorem fresh_mono {rd : List Nat} {f : EvF} (hf : ListF f) (σ : L2.St) (H : Hp) (Q : VK) : tE T X.K W rd f σ H Q → tEF T X.K W rd f σ H Q := by
  rintro ⟨S, st, ρ, rfl, ok, er, h⟩
  refine ⟨S, st, ρ, rfl, ok, er, ?_⟩
  cases hr : f ρ st.g with
  | bad => rw [hr] at h; exact h
  | exc c fs g' => rw [hr] at h; exact h
  | ok p =>
    rw [hr] at h
    obtain ⟨ds, e⟩ := hf _ _ _ hr
    obtain ⟨p1, p2⟩ := p
    dsimp only at e
    subst e
    intro l vs st' ok' e' s' h2 h3 h5
    exact h (.ref l) (st'.tag l none) (ok'.untag h3) e' (s'.done ok) (.lst h2 ⟨ok.fr l s'.new_, tag_same⟩ (Reps.keep kept_untag h5))
theorem sw_comp {elt : Expr} {gs : List Comprehension} {scope : Scope} {pos py : Pos} {y : Str} {l : Nat} (F : CxF T kl sc n cl X W) : ∃ b, swapsWith (.ListComp elt gs scope pos) (some (.Name y py)) l X.env = pure b ∧ (b = true → X.env.scope.names.lookup y = some .local) := by
  refine ⟨_, rfl, fun h => ?_⟩
  rw [Bool.and_eq_true, Bool.and_eq_true, Bool.and_eq_true] at h
  have := h.1.1.2
  unfold Env.kindOf at this
  exact eq_of_beq this
theorem comp_asg (F : CxF T kl sc n cl X W) {rd : List Nat} {m : Nat} {elt : Expr} {gens : List Comprehension} {scope : Scope} {A : E} {pos py spos : Pos} {y : Str} {i : Nat} (hy : X.N[i]? = some y) (hyl : X.env.scope.names.lookup y = some .local) (hsw : swapsWith (.ListComp elt gens scope pos) (some (.Name y py)) spos.line X.env = pure true)
    (h : trComp sc (trE m) elt gens scope = some A) : PS X (.Assign [.Name y py] (.ListComp elt gens scope pos) spos) (tAsg (tEF T X.K W rd (evE kl cl rd A)) (gName i)) := by
  unfold trComp at h
  split at h
  · rename_i g
    obtain ⟨tgt, iter, ifs, asy⟩ := g
    dsimp only at h
    split at h
    · rename_i hz
      subst hz
      split at h
      · rename_i k Es tg own A' h1 h2 h3
        split at h
        · rename_i hb
          rw [Bool.and_eq_true] at hb
          have bk := blk_sc (sc1 := X.env.scope) F.names (blkOk_by hb.1)
          have bk' : BlkOk X.N X.env.scope scope own := by rw [F.N]; exact bk
          have hi := trIt_pi F (fun e A he => trE_ok m F e A he) (rd := rd) (tgt := tgt) h1
          have fB := fun s H C c fp => F.blk bk.kind s H C c fp
          have hg : ∀ (s : Shared) (H : Hp) (C : Addr) (cl : List (Str × Addr)) (fp : List Addr), PG (X.blk s H scope (compEnvC scope cl C X.env) fp) tgt (gZ X.K tg) := fun s H C c fp => (trTg_pg (fB s H C c fp) h2).1
          have hown : own.map (·.2) = tg.slots := (trTg_pg (fB (X.s_0) X.H_0 0 [] []) h2).2.1
          have he : ∀ (s : Shared) (H : Hp) (C : Addr) (c : List (Str × Addr)) (fp : List Addr), PE (X.blk s H scope (compEnvC scope c C X.env) fp) elt (tE T X.K W0 rd (evE kl cl rd A')) := fun s H C c fp => (trE_ok m (fB s H C c fp) _ _ h3).pe
          split at h
          · cases h
            have ht : ∀ (s : Shared) (H : Hp) (C : Addr) (c : List (Str × Addr)) (fp : List Addr), PTs (X.blk s H scope (compEnvC scope c C X.env) fp) [] (tTest (tE T X.K W0 rd fun _ g => .ok (.bl true, g))) := fun s H C c fp => pts_none
            refine PS.mono (ps_setLc F.calm F.nd hy hyl hsw hi bk' hg ht he (plain_fold hb.2)) fun D σ H q => ?_
            rw [hown]
            exact comp_mono (tg := tg) (fc := evE kl cl rd (.con (.bl true))) σ H _ q
          · rename_i c
            split at h
            · rename_i C hC
              cases h
              have ht : ∀ (s : Shared) (H : Hp) (C0 : Addr) (c0 : List (Str × Addr)) (fp : List Addr), PTs (X.blk s H scope (compEnvC scope c0 C0 X.env) fp) [c] (tTest (tE T X.K W0 rd (evE kl cl rd C))) := fun s H C0 c0 fp => pts_one (trE_ok m (fB s H C0 c0 fp) _ _ hC).pt
              refine PS.mono (ps_setLc F.calm F.nd hy hyl hsw hi bk' hg ht he (plain_fold hb.2)) fun D σ H q => ?_
              rw [hown]
              exact comp_mono (tg := tg) (fc := evE kl cl rd C) σ H _ q
            · cases h
          · cases h
        · cases h
      · cases h
    · cases h
  · cases h
/-- name = e -/
theorem asg_name (F : CxF T kl sc n cl X W) {rd : List Nat} {m : Nat} {e : Expr} {A : E} {y : Str} {py spos : Pos} {i : Nat} (hi : locIx sc y = some i) (h : trE m sc e = some A) :
    PS X (.Assign [.Name y py] e spos) (tAsg (tE T X.K W rd (evE kl cl rd A)) (gName i)) ∧ (isFresh (freshen A) = true → ListF (evE kl cl rd (freshen A)) ∧ PS X (.Assign [.Name y py] e spos) (tAsg (tEF T X.K W rd (evE kl cl rd (freshen A))) (gName i))) := by
  have s := trE_ok m F (rd := rd) e A h
  obtain ⟨n1, n2, n3⟩ := locIx_ok F hi
  by_cases hc : isComp e = true
  · cases e <;> (try (cases hc; done))
    rename_i elt gens scope pos
    obtain ⟨b, hb, hbl⟩ := sw_comp (elt := elt) (gs := gens) (scope := scope) (pos := pos) (py := py) (y := y) (l := spos.line) F
    cases m with
    | zero => cases h
    | succ m =>
      have h' : trComp sc (trE m) elt gens scope = some A := h
      have fr := (trComp_ok F (rd := rd) (fun sc' X' W' F' e A h => trE_ok m F' e A h) (pos := pos) h').2
      have fi := fresh_id fr
      obtain ⟨f1, f2⟩ := s.fr (by rw [fi]; exact fr)
      rw [fi] at f1 f2 ⊢
      cases b with
      | false => exact ⟨ps_set F.nd n1 n2 s.pe hb n3, fun _ => ⟨f2, ps_set F.nd n1 n2 f1 hb n3⟩⟩
      | true =>
        have q := comp_asg F (rd := rd) n1 (hbl rfl) hb h'
        exact ⟨PS.mono q fun D σ H z => fresh_mono f2 σ H _ z, fun _ => ⟨f2, q⟩⟩
  · have hc : isComp e = false := by simpa using hc
    exact ⟨ps_set F.nd n1 n2 s.pe (plain_swap s.plain hc) n3, fun hf => ⟨(s.fr hf).2, ps_set F.nd n1 n2 (s.fr hf).1 (plain_swap s.plain hc) n3⟩⟩
theorem swap2_ok (F : CxF T kl sc n cl X W) {es vs : List Expr} {k1 k2 : Nat} {p1 p2 : Pos} (h : swap2 sc es vs = true) : ∃ x px y py a b, es = [.Name x px, .Name y py] ∧ vs = [a, b] ∧ X.env.scope.names.lookup x = some .local ∧ X.env.scope.names.lookup y = some .local ∧ x ≠ y ∧
    swappedStores [.Tuple es k1 p1] (.Tuple vs k2 p2) X.env = pure (some [x, y]) := by
  unfold swap2 at h
  split at h
  · rename_i x px y py a b
    simp only [Bool.and_eq_true, Bool.not_eq_true', beq_eq_false_iff_ne] at h
    obtain ⟨⟨⟨⟨⟨⟨⟨h1, h2⟩, h3⟩, h4⟩, h5⟩, h6⟩, h7⟩, h8⟩ := h
    have l1 : sc.names.lookup x = some .local := by
      split at h1
      · assumption
      · cases h1
    have l2 : sc.names.lookup y = some .local := by
      split at h2
      · assumption
      · cases h2
    have sa : (match (generalizing := false) a with | .Starred .. => true | _ => false) = false := by cases a <;> first | rfl | cases h5
    have sb : (match (generalizing := false) b with | .Starred .. => true | _ => false) = false := by cases b <;> first | rfl | cases h6
    have ln : px.line = py.line := eq_of_beq h3
    refine ⟨x, px, y, py, a, b, rfl, rfl, by rw [F.names]; exact l1, by rw [F.names]; exact l2, h4, ?_⟩
    have k1 : X.env.kindOf x = some .local := by unfold Env.kindOf; rw [F.names]; exact l1
    have k2 : X.env.kindOf y = some .local := by unfold Env.kindOf; rw [F.names]; exact l2
    have bk : X.env.blockKind = .function := by unfold Env.blockKind; rw [F.kind]; rfl
    have q2 : [x, y].eraseDups.length = 2 := by
      have : (y == x) = false := by simpa using fun z : y = x => h4 z.symm
      simp [List.eraseDups, List.eraseDupsBy, List.eraseDupsBy.loop, this]
    unfold swappedStores
    simp only [bk, h7, h8]
    simp [sa, sb, k1, k2, ln, h4, q2, List.filterMap_cons, Expr.pos]
    intro z
    rcases z with z | z
    · exact absurd (sa.symm.trans z) (by decide)
    · exact absurd (sb.symm.trans z) (by decide)
  · cases h
theorem swap3_ok (F : CxF T kl sc n cl X W) {es vs : List Expr} {k1 k2 : Nat} {p1 p2 : Pos} (h : swap3 sc es vs = true) : ∃ x px y py w pw a b c, es = [.Name x px, .Name y py, .Name w pw] ∧ vs = [a, b, c] ∧ X.env.scope.names.lookup x = some .local ∧ X.env.scope.names.lookup y = some .local ∧ X.env.scope.names.lookup w = some .local ∧ (x ≠ y ∧ x ≠ w ∧ y ≠ w) ∧
    swappedStores [.Tuple es k1 p1] (.Tuple vs k2 p2) X.env = pure (some [x, y, w]) := by
  unfold swap3 at h
  split at h
  · rename_i x px y py w pw a b c
    simp only [Bool.and_eq_true, Bool.not_eq_true', beq_eq_false_iff_ne] at h
    obtain ⟨⟨⟨⟨⟨⟨⟨⟨⟨⟨⟨⟨h1, h2⟩, h2'⟩, h3⟩, h3'⟩, h4⟩, h4'⟩, h4''⟩, h5⟩, h6⟩, h6'⟩, h7⟩, h8⟩ := h
    have l1 : sc.names.lookup x = some .local := by
      split at h1
      · assumption
      · cases h1
    have l2 : sc.names.lookup y = some .local := by
      split at h2
      · assumption
      · cases h2
    have l3 : sc.names.lookup w = some .local := by
      split at h2'
      · assumption
      · cases h2'
    have sa : (match (generalizing := false) a with | .Starred .. => true | _ => false) = false := by cases a <;> first | rfl | cases h5
    have sb : (match (generalizing := false) b with | .Starred .. => true | _ => false) = false := by cases b <;> first | rfl | cases h6
    have sd : (match (generalizing := false) c with | .Starred .. => true | _ => false) = false := by cases c <;> first | rfl | cases h6'
    have ln : px.line = py.line := eq_of_beq h3
    have ln2 : px.line = pw.line := eq_of_beq h3'
    refine ⟨x, px, y, py, w, pw, a, b, c, rfl, rfl, by rw [F.names]; exact l1, by rw [F.names]; exact l2, by rw [F.names]; exact l3, ⟨h4, h4', h4''⟩, ?_⟩
    have k1 : X.env.kindOf x = some .local := by unfold Env.kindOf; rw [F.names]; exact l1
    have k2 : X.env.kindOf y = some .local := by unfold Env.kindOf; rw [F.names]; exact l2
    have k3 : X.env.kindOf w = some .local := by unfold Env.kindOf; rw [F.names]; exact l3
    have bk : X.env.blockKind = .function := by unfold Env.blockKind; rw [F.kind]; rfl
    have q2 : [x, y, w].eraseDups.length = 3 := by
      have e1 : (y == x) = false := by simpa using fun z : y = x => h4 z.symm
      have e2 : (w == x) = false := by simpa using fun z : w = x => h4' z.symm
      have e3 : (w == y) = false := by simpa using fun z : w = y => h4'' z.symm
      simp [List.eraseDups, List.eraseDupsBy, List.eraseDupsBy.loop, e1, e2, e3]
    have ln3 : py.line = pw.line := ln.symm.trans ln2
    unfold swappedStores
    simp only [bk, h7, h8]
    simp [sa, sb, sd, k1, k2, k3, ← ln, ← ln2, h4, q2, List.filterMap_cons, Expr.pos]
    intro z
    rcases z with z | z | z
    · exact absurd (sa.symm.trans z) (by decide)
    · exact absurd (sb.symm.trans z) (by decide)
    · exact absurd (sd.symm.trans z) (by decide)
  · cases h
theorem filterMap_lt {α β : Type} {f : α → Option β} : ∀ {l : List α}, (∃ a ∈ l, f a = none) → (l.filterMap f).length ≠ l.length
  | [], ⟨a, h, _⟩ => nomatch h
  | x :: l, ⟨a, h, e⟩ => by
    have le := List.length_filterMap_le f l
    cases hx : f x with
    | none =>
      rw [List.filterMap_cons_none hx]
      simp only [List.length_cons]
      omega
    | some y =>
      rw [List.filterMap_cons_some hx]
      rcases List.mem_cons.mp h with z | z
      · subst z; rw [hx] at e; cases e
      · have := filterMap_lt (f := f) ⟨a, z, e⟩
        simp only [List.length_cons]
        omega
theorem nonSwap_ok (F : CxF T kl sc n cl X W) {es : List Expr} {e : Expr} {k : Nat} {p : Pos} (h : nonSwap sc es e = true) : swappedStores [.Tuple es k p] e X.env = pure none := by
  unfold nonSwap at h
  split at h
  · rename_i vs k2 p2
    unfold swappedStores
    simp only [pure_bind]
    simp only [Bool.or_eq_true] at h
    split
    · rfl
    · rename_i c1
      split
      · rfl
      · split
        · rfl
        · rename_i c3
          split
          · rfl
          · rename_i c4
            exfalso
            rcases h with ((h | h) | h) | h
            · exact c1 (by rw [h]; simp)
            · exact c1 (by rw [h]; simp)
            · exact c4 h
            · apply c3
              obtain ⟨t, ht, hn⟩ := List.any_eq_true.mp h
              rw [Bool.or_eq_true]
              left
              refine bne_iff_ne.mpr (filterMap_lt ⟨t, ht, ?_⟩)
              split at hn
              · rename_i x px
                split at hn
                · cases hn
                · rename_i hl
                  have : (X.env.kindOf x == some .local) = false := by
                    unfold Env.kindOf
                    rw [F.names]
                    simpa using hl
                  simp [this]
              · split
                · rename_i hx; exact (hx _ _ rfl).elim
                · rfl
  · cases h
  · cases e <;> first | rfl | (exfalso; simp_all)
end
end Z

set_option Elab.async false
set_option linter.all false
set_option maxRecDepth 100000
set_option maxHeartbeats 4000000
/-! Z20: soundness of the translation of statements. -/
namespace Z
open PySem PySem.Spec PyProof.Rows L2

section
variable {T : Tb} {kl : Kl} {sc : Sc} {n : Nat} {cl : Cal} {X : Cx} {W : WX} {w : Nat}
theorem ixOf_inj {N : List Str} (hN : N.Nodup) {i j : Nat} {x y : Str} (hi : N[i]? = some x) (hj : N[j]? = some y) (h : x ≠ y) : i ≠ j := fun e => by
  subst e
  rw [hi] at hj; cases hj; exact h rfl
theorem sw_sub {e tg : Expr} {l : Nat} {env : Env} (h : plainX e = true) (ht : ∀ x p, tg ≠ .Name x p) : swapsWith e (some tg) l env = pure false := by
  cases e <;> first | rfl | (cases h; done) | (cases tg <;> first | rfl | exact absurd rfl (ht _ _))
theorem asg_tuple (F : CxF T kl sc n cl X W) {rd : List Nat} {es : List Expr} {ps : List (Str × Nat)} {e : Expr} {A : E} {k : Nat} {p pos : Pos} (hn : trNms sc es = some ps) (s : Snd T kl cl X W rd e A) (hw : nonSwap sc es e = true) :
    PS X (.Assign [.Tuple es k p] e pos) (tAsg (tE T X.K W rd (evE kl cl rd A)) (gTL X.K (ps.map (·.2)).length (gNames (ps.map (·.2))))) := by
  obtain ⟨r1, r2, r3, r4⟩ := trNms_pg F hn
  obtain ⟨n1, n2⟩ := names_each (env := X.env) r3
  refine ps_asg s.pe (pg_TL (pg_tup F.calm r1 (by rw [n1, r2, List.length_map]) n2) (pg_lst F.calm r1 (by rw [n1, r2, List.length_map]) n2)) (show swapsWith e (some (.Tuple es k p)) pos.line X.env = pure false from sw_sub s.plain fun _ _ z => by cases z) (nonSwap_ok F hw) rfl
theorem nms_get {sc : Sc} : ∀ {es : List Expr} {ps : List (Str × Nat)}, trNms sc es = some ps → ∀ {j : Nat} {e : Expr}, es[j]? = some e → ∃ q, ps[j]? = some q ∧ trNm sc e = some q
  | [], _, _, j, e, h => by simp at h
  | x :: es, ps, hn, j, e, h => by
    unfold trNms at hn
    split at hn
    · rename_i q qs h1 h2
      cases hn
      cases j with
      | zero => simp at h; subst h; exact ⟨q, rfl, h1⟩
      | succ j =>
        have h : es[j]? = some e := by simpa using h
        obtain ⟨q', h3, h4⟩ := nms_get h2 h
        exact ⟨q', by simpa using h3, h4⟩
    · cases hn
theorem trNm_nm {x : Str} {px : Pos} {q : Str × Nat} (h : trNm sc (.Name x px) = some q) : q.1 = x := by
  unfold trNm at h
  dsimp only at h
  split at h
  · cases h; rfl
  · cases h
theorem trAssign_ok (F : CxF T kl sc n cl X W) {m : Nat} {tg e : Expr} {A : S} {pos : Pos} (h : trAssign sc (trE m sc) tg e = some A) : PS X (.Assign [tg] e pos) (tS T X.K W (evS kl cl w A)) := by
  have ih : ∀ (rd : List Nat) (e : Expr) (A : E), trE m sc e = some A → Snd T kl cl X W rd e A := fun rd => trE_ok m F
  have hu : X.A.units + 1 < cLine := by have := F.room.un; omega
  unfold trAssign at h
  split at h
  · rename_i y py
    split at h
    · rename_i i A' hi hA
      split at h
      · rename_i hf
        cases h
        obtain ⟨q1, q2⟩ := asg_name F (rd := rdE A') (py := py) (spos := pos) hi hA
        obtain ⟨l1, l2⟩ := q2 hf.1
        have q := fs_own l2 l1
        have ef : evS kl cl w (.own i (rdE A') (freshen A')) = ownF i (rdE A') (evE kl cl (rdE A') (freshen A')) := by
          funext ρ g
          show (if isFresh (freshen A') = true ∧ i < ρ.length then _ else _) = (if i < ρ.length then _ else _)
          by_cases hlen : i < ρ.length
          · rw [if_pos ⟨hf.1, hlen⟩, if_pos hlen] <;> rfl
          · rw [if_neg fun z => hlen z.2, if_neg hlen]
        rw [ef]; exact q
      · split at h
        · cases h
          exact fs_ownc (asg_name F (rd := []) (py := py) (spos := pos) hi hA).1
        · cases h
          exact fs_set (asg_name F (py := py) (spos := pos) hi hA).1
    · cases h
  · rename_i es k p
    split at h
    · rename_i ps hps
      split at h
      · rename_i vs k2 p2
        split at h
        · rename_i q0 hq0
          split at h
          · rename_i A' hA
            split at h
            · rename_i hs
              cases h
              obtain ⟨r1, r2, r3, r4⟩ := trNms_pg F hps
              obtain ⟨x, px, y, py, a, b, rfl, rfl, l1, l2, hne, hsw⟩ := swap2_ok F (k1 := k) (p1 := p) (k2 := k2) (p2 := p2) hs
              match ps, r2, hps, r4, hq0 with
              | [q1, q2], _, hps, r4, hq0 =>
                obtain ⟨q1', e1, t1⟩ := nms_get hps (j := 0) rfl
                obtain ⟨q2', e2, t2⟩ := nms_get hps (j := 1) rfl
                cases e1; cases e2
                have m1 := r4 q1 (by simp)
                have m2 := r4 q2 (by simp)
                rw [trNm_nm t1] at m1
                rw [trNm_nm t2] at m2
                unfold par0At at hq0
                split at hq0
                · rename_i ea eb
                  split at hq0
                  · rename_i hc
                    cases hq0
                    cases ea
                    cases eb
                    have sb := ih (rdE A') _ _ hA
                    exact fs_par0 (ps_par F.calm F.nd m1 m2 (ixOf_inj F.nd m1 m2 hne) l1 l2 (pa_cons (pe_lst pa_nil) (pa_cons sb.pe pa_nil (plain_star sb.plain)) rfl) hsw)
                  · cases hq0
                · cases hq0
            · cases h
          · cases h
        split at h
        · rename_i B hB
          split at h
          · rename_i hs
            cases h
            rw [Bool.or_eq_true] at hs
            obtain ⟨ha, hp⟩ := trList_pa (ih (rdEs B)) hB
            obtain ⟨r1, r2, r3, r4⟩ := trNms_pg F hps
            rcases hs with hs | hs
            · obtain ⟨x, px, y, py, a, b, rfl, rfl, l1, l2, hne, hsw⟩ := swap2_ok F (k1 := k) (p1 := p) (k2 := k2) (p2 := p2) hs
              match ps, r2, hps, r4 with
              | [q1, q2], _, hps, r4 =>
                obtain ⟨q1', e1, t1⟩ := nms_get hps (j := 0) rfl
                obtain ⟨q2', e2, t2⟩ := nms_get hps (j := 1) rfl
                cases e1; cases e2
                have m1 := r4 q1 (by simp)
                have m2 := r4 q2 (by simp)
                rw [trNm_nm t1] at m1
                rw [trNm_nm t2] at m2
                exact fs_par2 (ps_par F.calm F.nd m1 m2 (ixOf_inj F.nd m1 m2 hne) l1 l2 ha hsw)
            · obtain ⟨x, px, y, py, z, pz, a, b, c, rfl, rfl, l1, l2, l3, ⟨n1, n2, n3⟩, hsw⟩ := swap3_ok F (k1 := k) (p1 := p) (k2 := k2) (p2 := p2) hs
              match ps, r2, hps, r4 with
              | [q1, q2, q3], _, hps, r4 =>
                obtain ⟨q1', e1, t1⟩ := nms_get hps (j := 0) rfl
                obtain ⟨q2', e2, t2⟩ := nms_get hps (j := 1) rfl
                obtain ⟨q3', e3, t3⟩ := nms_get hps (j := 2) rfl
                cases e1; cases e2; cases e3
                have m1 := r4 q1 (by simp)
                have m2 := r4 q2 (by simp)
                have m3 := r4 q3 (by simp)
                rw [trNm_nm t1] at m1
                rw [trNm_nm t2] at m2
                rw [trNm_nm t3] at m3
                exact fs_par3 (ps_par3 F.calm F.nd m1 m2 m3 (ixOf_inj F.nd m1 m2 n1) (ixOf_inj F.nd m1 m3 n2) (ixOf_inj F.nd m2 m3 n3) l1 l2 l3 ha hsw)
          · split at h
            · rename_i hw
              cases h
              obtain ⟨ha, hp⟩ := trList_pa (ih (rdEs B)) hB
              have sn : Snd T kl cl X W (rdEs B) (.Tuple vs k2 p2) (.prim .mkTup B) := .leafEq (fe_tup ha) rfl rfl rfl
              exact fs_unp (asg_tuple F hps sn hw)
            · cases h
        · cases h
      · split at h
        · rename_i A' hA
          split at h
          · rename_i hw
            cases h
            exact fs_unp (asg_tuple F hps (ih _ _ _ hA) hw)
          · cases h
        · cases h
    · cases h
  · rename_i o i sp
    split at h
    · rename_i key ck cp
      split at h
      · rename_i A' B' h1 h2
        cases h
        have sb := ih [] _ _ h2
        exact fs_hset (o := o) (i := o) (ps_dput hu (ih [] _ _ h1).pe pe_str sb.pe (sw_sub sb.plain fun _ _ z => by cases z))
      · cases h
    · rename_i y py
      split at h
      · rename_i o' key ck cp sp2
        split at h
        · rename_i A' j B' h1 h2 h3
          cases h
          have sb := ih [] _ _ h3
          obtain ⟨v1, v2, v3, v4⟩ := varIx_ok F h2
          exact fs_hsetix (ps_asg sb.pe (pg_sub (pe_dget hu (ih [] _ _ h1).pe pe_str (fun _ _ => rfl)) (pe_var v1 v2 v3 v4) set_list (fun _ => rfl)) (show swapsWith e (some (.Subscript (.Subscript o' (.Constant (.str key) ck cp) sp2) (.Name y py) sp)) pos.line X.env = pure false from sw_sub sb.plain fun _ _ z => by cases z) (by cases e <;> rfl) rfl)
        · cases h
      · cases h
    · split at h
      · rename_i x px
        split at h
        · rename_i j A' B' h1 h2 h3
          split at h
          · rename_i hpl
            cases h
            have sb := ih (rdE B') _ _ h3
            obtain ⟨v1, v2, v3, v4⟩ := varIx_ok F h1
            exact fs_setix (rd := rdE B') (ps_asg sb.pe (pg_sub (pe_var v1 v2 v3 v4) (ih [] _ _ h2).pe set_list (fun _ => by cases i <;> first | rfl | cases hpl)) (show swapsWith e (some (.Subscript (.Name x px) i sp)) pos.line X.env = pure false from sw_sub sb.plain fun _ _ z => by cases z) (by cases e <;> rfl) rfl)
          · cases h
        · cases h
      · cases h
  · cases h
/-! ### += -/
def rAug : V → V → Hp → VK → Prop := fun x y H Q => ipI (fun i j => i + j) x y H Q ∨ rAddS x y H Q
theorem ip_aug : PIp X .Add rAug := fun pins s σ H x y v u Q I r1 r2 h => h.elim (fun h => ip_add pins s σ H x y v u Q I r1 r2 h) fun h => in_addS pins s σ H x y v u Q I r1 r2 h
theorem pr_aug : PrimR T X.K rAug semAug := by
  intro S st x y dx dy d Q ok rx ry hs k
  unfold semAug at hs
  split at hs
  · cases hs
    exact .inl ⟨_, _, rx.int_, ry.int_, fin0 ok k (.int _)⟩
  · split at hs
    · rename_i hz
      cases hs
      exact .inr ⟨_, _, rx.str_, ry.str_, hz, fin0 ok k (.str _)⟩
    · cases hs
  · cases hs
/-! ### raise, the handler -/
theorem glK_cls (F : CxF T kl sc n cl X W) {x : Str} {c : Nat} {rs : Bool} (h : glK sc x = some (.cls c rs)) : ∃ C, Gl X x ∧ X.mg x = some (.ref C) ∧ T.cls c = some C ∧ (x == ("__debug__" : Str)) = false := by
  obtain ⟨h1, h2, h3⟩ := glK_ok F h
  obtain ⟨C, m1, m2, _⟩ := F.gl.cls x _ _ h2
  exact ⟨C, h1, m1, m2, h3⟩
theorem trRaise_ok (F : CxF T kl sc n cl X W) {e : Expr} {A : S} {pos : Pos} (h : trRaise sc e = some A) : PS X (.Raise (some e) none pos) (tS T X.K W (evS kl cl w A)) := by
  unfold trRaise at h
  split at h
  · split at h
    · rename_i hx
      cases h
      obtain ⟨h1, h2, h3⟩ := glK_ok F hx
      obtain ⟨C, m1, m2, hr⟩ := F.gl.cls _ _ _ h2
      obtain ⟨⟨B, nn, ii, bm, f1, f2⟩, kp, sb, ty⟩ := hr rfl
      exact fs_raise F.calm F.tk (pmk_own f1 f2 m1 kp (raises_own sb ty) h1 h3) m2
    · cases h
  · cases h
theorem trExprS_ok (F : CxF T kl sc n cl X W) {m : Nat} {e : Expr} {A : S} {pos : Pos} (h : trExprS sc (trE m sc) e = some A) : PS X (.Expr e pos) (tS T X.K W (evS kl cl w A)) := by
  have ih : ∀ (rd : List Nat) (e : Expr) (A : E), trE m sc e = some A → Snd T kl cl X W rd e A := fun rd => trE_ok m F
  unfold trExprS at h
  split at h
  · rename_i x px mm apos cpos
    split at h
    · rename_i hl
      rw [Bool.and_eq_true] at hl
      have hm := of_decide_eq_true hl.2
      subst hm
      split at h
      · rename_i i hi
        cases h
        obtain ⟨v1, v2, v3, v4⟩ := varIx_ok F hi
        exact fs_clr (pe_var v1 v2 v3 v4) rfl hl.1 rfl
      · cases h
    · cases h
  · rename_i x px mm apos a b cpos
    split at h
    · rename_i hl
      rw [Bool.and_eq_true] at hl
      have hm := of_decide_eq_true hl.2
      subst hm
      split at h
      · rename_i i B hi hB
        cases h
        obtain ⟨v1, v2, v3, v4⟩ := varIx_ok F hi
        obtain ⟨ha, hp⟩ := trList_pa (ih (rdEs B)) hB
        have few : ((backTo cpos (starEach [a, b] X.env)).all (fun x => !x.1) && (backToKw cpos (keywordEach [] X.env)).all (fun x => x.1.isSome)
          && decide ([a, b].length + ([] : List Keyword).length + (if ([] : List Keyword).isEmpty then 0 else 1) < 30)) = true := by
          rw [plain_star (hp a List.mem_cons_self), plain_star (hp b (List.mem_cons_of_mem _ List.mem_cons_self))]; rfl
        exact fs_ins (pe_var v1 v2 v3 v4) ha (plain_star (hp a List.mem_cons_self)) (plain_any fun y z => hp y (List.mem_cons_of_mem _ z)) rfl hl.1 rfl few
      · cases h
    · cases h
  · rename_i x px mm apos a cpos
    split at h
    · rename_i hline
      split at h
      · rename_i i A' hi hA
        obtain ⟨v1, v2, v3, v4⟩ := varIx_ok F hi
        have s := ih (rdE A') _ _ hA
        have few : ((backTo cpos (starEach [a] X.env)).all (fun x => !x.1) && (backToKw cpos (keywordEach [] X.env)).all (fun x => x.1.isSome)
          && decide ([a].length + ([] : List Keyword).length + (if ([] : List Keyword).isEmpty then 0 else 1) < 30)) = true := by
          rw [plain_star s.plain]; rfl
        split at h
        · rename_i hm
          subst hm
          cases h
          exact fs_app (pe_var v1 v2 v3 v4) s.pe (plain_star s.plain) rfl hline rfl few
        · split at h
          · rename_i hm
            subst hm
            cases h
            exact fs_ext (pe_var v1 v2 v3 v4) s.pe (plain_star s.plain) rfl hline rfl few
          · cases h
      · cases h
    · cases h
  · split at h
    · rename_i A' hA
      split at h
      · cases h
      · rename_i hc
        cases h
        have s := ih (rdE A') _ _ hA
        exact fs_expr s.pe (plain_swap s.plain (by simpa using hc))
    · cases h
theorem try_ok (F : CxS T kl sc n cl X W) {b : List Stmt} {h : ExceptHandler} {B : Ss} {c : Nat} {v : Option Nat} {i : Nat} {pos : Pos} (hb : ∀ (W' : WX) (pn : List (Addr × Obj)) (xe : Value → Shared → Prop), Takes (X.tr pn xe) W' → PassesOwn (model X.prog X.w) X.A X.env xe → PSs (X.tr pn xe) b (tS T X.K W' (evSs kl cl w B)))
    (hh : trHandler sc h = some (c, v, i)) : PS X (.Try b [h] [] [] pos) (tS T X.K W (evS kl cl w (.try_ B c v i))) := by
  have ef : evS kl cl w (.try_ B c v i) = tryF kl (evSs kl cl w B) c v i := rfl
  rw [ef]
  unfold trHandler at hh
  split at hh
  · rename_i x px nm y py v' vp hp
    split at hh
    · rename_i c' rs' i' hx hy
      obtain ⟨C, g1, g2, g3, g4⟩ := glK_cls F.cx hx
      obtain ⟨n1, n2, n3⟩ := locIx_ok F.cx hy
      have nm1 : Names X x (.ref C) := ⟨g1, g4, .inl g2⟩
      split at hh
      · split at hh
        · cases hh
          refine fs_try_no F.cx.gl.kl F.stk F.frm g3 nm1 F.cx.tk hb fun a pn => ?_
          exact pss_cons (X := X.suite a pn) (ps_set (X := X.suite a pn) F.cx.nd n1 n2 pe_non rfl n3) pss_nil
        · cases hh
      · split at hh
        · split at hh
          · rename_i hz
            subst hz
            split at hh
            · rename_i j hj hl
              cases hh
              obtain ⟨v1, v2, v3, v4⟩ := varIx_ok F.cx hj
              refine fs_try_as F.cx.gl.kl F.ex F.stk F.frm F.cx.nd v1 (by unfold Env.kindOf; rw [F.cx.names]; exact hl) g3 nm1 F.cx.tk hb fun a pn => ?_
              exact pss_cons (X := X.suite a pn) (ps_set (X := X.suite a pn) F.cx.nd n1 n2 (pe_var (X := X.suite a pn) v1 v2 v3 v4) rfl n3) pss_nil
            · cases hh
          · cases hh
        · cases hh
    · cases hh
  · cases hh
/-- all statements -/
theorem trS_ok (m : Nat) : ∀ (k : Nat), (∀ {X : Cx} {W : WX}, CxS T kl sc n cl X W → ∀ (s : Stmt) (A : S), trS k m sc s = some A → PS X s (tS T X.K W (evS kl cl w A))) ∧ (∀ {X : Cx} {W : WX}, CxS T kl sc n cl X W → ∀ (ss : List Stmt) (A : Ss), trSs k m sc ss = some A → PSs X ss (tS T X.K W (evSs kl cl w A)))
  | 0 => by
    constructor
    · intro X W F s A h
      simp [trS] at h
    · intro X W F s A h
      simp [trSs] at h
  | k + 1 => by
    obtain ⟨ihS, ihB⟩ := trS_ok m k
    constructor
    · intro X W F s A h
      have hu : X.A.units + 1 < cLine := by have := F.cx.room.un; omega
      have ih : ∀ (rd : List Nat) (e : Expr) (A : E), trE m sc e = some A → Snd T kl cl X W rd e A := fun rd => trE_ok m F.cx
      unfold trS at h
      split at h
      · exact trAssign_ok F.cx h
      · split at h
        · rename_i i A' hi hA
          cases h
          obtain ⟨n1, n2, n3⟩ := locIx_ok F.cx hi
          exact fs_aug (ps_aug F.cx.nd n1 n2 (ih _ _ _ hA).pe ip_aug n3) pr_aug fun x y d hs => by
            unfold semAug at hs
            split at hs <;> first | rfl | cases hs
        · cases h
      · exact trExprS_ok F.cx h
      · split at h
        · cases h; exact fs_ret (ih _ _ _ ‹_›).pe
        · cases h
      · cases h; exact fs_retN
      · split at h
        · rename_i C A' B h1 h2 h3
          cases h
          exact fs_if (ih _ _ _ h1).pt (ihB F _ _ h2) (ihB F _ _ h3)
        · cases h
      · split at h
        · rename_i C B h1 h2
          cases h
          exact fs_while w F.hp (ih _ _ _ h1).pt (ihB F _ _ h2)
        · cases h
      · split at h
        · rename_i kk Es tg own B h1 h2 h3
          split at h
          · rename_i hp
            cases h
            exact fs_for F.hp F.cx.calm (trIt_pi F.cx (ih _) h1) (trTg_pg F.cx h2).1 (ihB F _ _ h3) (plain_fold hp)
          · cases h
        · cases h
      · exact trRaise_ok F.cx h
      · split at h
        · rename_i B c v i h1 h2
          cases h
          exact try_ok F (fun W' pn xe tk hp => ihB (F.try_ pn xe tk hp) _ _ h1) h2
        · cases h
      · cases h; exact fs_pass
      · cases h; exact fs_brk
      · cases h; exact fs_cnt
      · cases h
    · intro X W F ss A h
      unfold trSs at h
      split at h
      · cases h; exact fss_nil
      · split at h
        · rename_i A' B h1 h2
          cases h
          exact fss_cons (ihS F _ _ h1) (ihB F _ _ h2)
        · cases h
end
end Z

set_option Elab.async false
set_option linter.all false
set_option maxRecDepth 100000
set_option maxHeartbeats 4000000
/-! Z21: the whole text: each def keeps its promise at each level. -/
namespace Z
open PySem PySem.Spec PyProof.Rows L2

section
variable {T : Tb} {K : PySem.W.Frag} {S : Addr → Prop} {st st' : Gh}
theorem kept_all : Kept st.hm st.inn.hm (Al S st) (Al S st.inn) st.H st.inn.H :=
  ⟨fun a o ha h => ⟨h, ha.1, ers_none ha.2⟩, fun _ _ _ h => h, List.prefix_refl _⟩
theorem FldsR.all {k : Nat} : ∀ {kvs : List (Key × V)} {o : Obj1}, FldsR T K S st k kvs o → FldsR T K S st.inn k kvs o
  | _, _, .nil => .nil
  | _, _, .imm e r rs => .imm e (Rep.keep kept_all r) (FldsR.all rs)
  | _, _, .own e h1 h2 r rs => .own e (ers_obj h1 rfl) h2 (Reps.keep kept_all r) (FldsR.all rs)
theorem GOk.all (ok : GOk T K S st) : GOk T K S st.inn where
  live := fun a t h => ok.live a t (ers_of h)
  fr := fun a h => ok.fr a h
  len := ok.len
  obj := fun k o h => by
    obtain ⟨a, kvs, h1, h2, h3, h4, h5⟩ := ok.obj k o h
    exact ⟨a, kvs, h1, ers_obj h2 rfl, h3, h4.all, h5⟩
  tab := ok.tab.keep (fun a k u h1 h2 => ⟨h2, ers_obj h1 rfl⟩) fun _ _ _ h => h
theorem step_all (hn : ∀ a i, st.ow a ≠ some (.slot i)) (e : Evo st st') : Step st st'.inn where
  pre := e.pre
  keep := fun a o h h' => let ⟨h1, h2⟩ := e.keep a o h h'; ⟨h1, ers_none h2⟩
  slot := fun a i h => absurd h (hn a i)
  slot' := fun a i h => absurd h (ers_ns i)
  own := fun a t h => by
    cases t with
    | slot i => exact absurd h (hn a i)
    | obj k => exact ers_obj (e.own a _ rfl h) rfl
    | fld k n => exact ers_obj (e.own a _ rfl h) rfl
    | tab k => exact ers_obj (e.own a _ rfl h) rfl
end
theorem srel_start {T : Tb} {K : PySem.W.Frag} {S : Addr → Prop} {st : Gh} {N : List Str} {fd : FD} {vs : List V} {ds : List D} (h : fd.ns = N.length) (r : RepsS T K S st vs ds) : SRel T K S st (L2.start N vs) (startSl fd ds) where
  len := by
    unfold L2.start startSl
    rw [List.length_append, List.length_append, List.length_map, List.length_map, List.length_replicate, List.length_replicate, h, Reps.length r]
  val := fun i d e => by
    have hl := Reps.length r
    unfold startSl at e
    by_cases hi : i < ds.length
    · rw [List.getElem?_append_left (by simpa using hi), List.getElem?_map] at e
      cases e2 : ds[i]? with
      | none => rw [e2] at e; cases e
      | some d' =>
        rw [e2] at e
        cases e
        obtain ⟨v, h1, h2⟩ := Reps.get r e2
        refine ⟨v, ?_, h2⟩
        unfold L2.start
        rw [List.getElem?_append_left (by rw [List.length_map, hl]; exact hi), List.getElem?_map, h1]; rfl
    · rw [List.getElem?_append_right (by simpa using hi), List.getElem?_replicate] at e
      split at e <;> cases e
  own := fun i d e => by
    unfold startSl at e
    by_cases hi : i < ds.length
    · rw [List.getElem?_append_left (by simpa using hi), List.getElem?_map] at e
      cases e2 : ds[i]? with
      | none => rw [e2] at e; cases e
      | some d' => rw [e2] at e; cases e
    · rw [List.getElem?_append_right (by simpa using hi), List.getElem?_replicate] at e
      split at e <;> cases e

/-- the name that a def's lambdas bear -/
def qL (x : Str) : Str := x ++ ".<locals>." ++ "<lambda>"
/-- a def with lambdas: its code object, their table -/
def LamOf (T : Tb) (K : PySem.W.Frag) (x : Str) (f : Addr) : Prop := ∃ c P, (∀ oc od fd osl, K.lookup f = some ⟨oc, od, .func fd, osl⟩ → fd.code = .ref c) ∧ (c, P) ∈ T.cds ∧ (P, qL x) ∈ T.tabs ∧ ∀ q, (P, q) ∈ T.tabs → q = qL x
/-- a def of the text: how it stands, its tree -/
structure DefOk (K : PySem.W.Frag) (mg : Str → Option Value) (T : Tb) (gl : List (Str × GK)) (blt : List Str) (tb : List FD) (x : Str) (i np : Nat) (dfl : List D) (ps : List Str) (km : List Nat) : Prop where
  ex : ∃ (f : Addr) (fd : FuncData) (params : Arguments) (body : List Stmt) (scope : Scope) (dvs : List V) (N : List Str) (own : List Nat) (t : FD) (k m : Nat),
    mg x = some (.ref f) ∧ T.fn i = some f ∧ FunD K x x params body scope dvs [] f fd ∧ FnScope N ps scope ∧ ps.length = np ∧ tb[i]? = some t ∧ t.np = np ∧ t.ns = N.length ∧
    trSs k m ⟨N, scope.names, scope.names, own, gl, blt⟩ body = some t.body ∧
    (∀ j, j ≤ dfl.length → ∃ (vs : List V) (us : List Value), Vals vs us ∧ Binds K fd ps us ∧ vs.length = dfl.length - j ∧ ∀ (hm : List Addr) (A : Addr → Prop) (H : Hp), Reps T K hm A H vs (dfl.drop j)) ∧
    (∀ m ∈ km, KBn K fd ps m (ps.drop m) (fun us ws => us ++ ws) (fun vs zs => vs ++ zs)) ∧ (own.contains 2000 = true → LamOf T K x f)
theorem run_len {kl : Kl} {tb : List FD} {wf n i : Nat} {t : FD} (ht : tb[i]? = some t) {ds : List D} {g : G} (h : run kl tb wf n i ds g ≠ .bad) : ds.length = t.np := by
  cases n with
  | zero => exact absurd rfl h
  | succ n =>
    unfold run at h
    rw [ht] at h
    dsimp only at h
    by_cases e : ds.length = t.np
    · exact e
    · rw [if_neg e] at h; exact absurd rfl h
theorem fns_ok {P : Program} {w : World} {K : PySem.W.Frag} {mg : Str → Option Value} {base : Heap} {T : Tb} {kl : Kl} {gl : List (Str × GK)} {blt : List Str} {tb : List FD} {wf : Nat} (Gf : GlobF P w K mg base T kl gl blt)
    (TB : ∀ p ∈ T.cds, LamX.TabB base mg p.1 p.2) (Df : ∀ x i np dfl ps km, gl.lookup x = some (.fn i np dfl ps km) → DefOk K mg T gl blt tb x i np dfl ps km) : ∀ n, FnsAt P w K mg base T gl n (run kl tb wf n)
  | 0 => ⟨fun x i np dfl ps km h => by
    obtain ⟨f, fd, params, body, scope, dvs, N, own, t, k, m, h1, h2, h3, h4, h5, h6, h7, h8, h9, h10, h11, h12⟩ := (Df x i np dfl ps km h).ex
    have lk : ∃ oc od osl, K.lookup f = some ⟨oc, od, .func fd, osl⟩ := let ⟨oc, od, _, _, _, _, _, _, _, osl, _, q, _⟩ := h3.ex; ⟨oc, od, osl, q⟩
    refine ⟨f, fd, h1, h5, lk, ⟨fun vs H Q E q => q.1.trans h5.symm, fun A outer s H args us vs Q E _ _ _ _ _ hsp => ?_⟩, fun ds g hb => (run_len h6 hb).trans h7, h10, h11⟩
    obtain ⟨_, S, st, ds, _, _, _, _, hp⟩ := hsp
    exact hp.elim⟩
  | n + 1 => ⟨fun x i np dfl ps km h => by
    have Fn := fns_ok Gf TB Df n (wf := wf)
    obtain ⟨f, fd, params, body, scope, dvs, N, own, t, k, m, h1, h2, h3, h4, h5, h6, h7, h8, h9, h10, h11, h12⟩ := (Df x i np dfl ps km h).ex
    have lk : ∃ oc od osl, K.lookup f = some ⟨oc, od, .func fd, osl⟩ := let ⟨oc, od, _, _, _, _, _, _, _, osl, _, q, _⟩ := h3.ex; ⟨oc, od, osl, q⟩
    refine ⟨f, fd, h1, h5, lk, ?_, fun ds g hb => (run_len h6 hb).trans h7, h10, h11⟩
    refine ZG.FunD.okG h3 h4 (fun vs H Q E q => q.1.trans h5.symm) fun cdv hcd A outer s H vs Q E hr hgd hsp => ?_
    obtain ⟨hl, S, st, ds, rfl, ok, ns, rs, hp⟩ := hsp
    have F : CxS T kl ⟨N, scope.names, scope.names, own, gl, blt⟩ n (run kl tb wf n) (cxOf (L2.CX P w) P w K mg base N x scope f cdv A outer s st.H E) (fun cv dd _ H => E cv dd H) :=
      ⟨⟨Gf, Fn, rfl, h4.nd, rfl, rfl, h4.kind, fun _ _ => rfl, hr, hgd, takes_of rfl rfl rfl rfl, fun ho => let ⟨c, P, l1, l2, l3, l4⟩ := h12 ho; let ⟨oc, od, fd', osl, e1, e2⟩ := hcd; ⟨c, P, e2.symm.trans (l1 oc od fd' osl e1), l3, l4, TB _ l2⟩⟩, passes_of rfl, rfl, rfl, rfl⟩
    refine ⟨_, (trS_ok m k (w := wf)).2 F body _ h9, S, st, startSl t ds, rfl, ok, srel_start h8 rs, ?_⟩
    show SPost T K S _ st (evSs kl (run kl tb wf n) wf t.body (startSl t ds) st.g) _
    have e0 : run kl tb wf (n + 1) i ds st.g = match evSs kl (run kl tb wf n) wf t.body (startSl t ds) st.g with
        | .nx _ g1 => .ok (.non, g1)
        | .rt d g1 => .ok (d, g1)
        | .exc c fs _ g1 => .exc c fs g1
        | _ => .bad := by
      show (match tb[i]? with | none => _ | some fd => _) = _
      rw [h6]
      dsimp only
      rw [if_pos ((Reps.length rs).symm.trans (hl.trans h7.symm))] <;> (cases evSs kl (run kl tb wf n) wf t.body (startSl t ds) st.g <;> rfl)
    have hp : post T K S (fun cv dd _ H => E cv dd H) [] st (run kl tb wf (n + 1) i ds st.g) Q := hp
    rw [e0] at hp
    cases hr : evSs kl (run kl tb wf n) wf t.body (startSl t ds) st.g with
    | bad => rw [hr] at hp; exact hp
    | bk _ _ => rw [hr] at hp; exact hp.elim
    | ct _ _ => rw [hr] at hp; exact hp.elim
    | nx ρ g1 =>
      rw [hr] at hp
      intro σ' st' ok' e' ev' sr'
      exact hp .non st'.inn ok'.all e' (step_all ns ev') .non
    | rt d g1 =>
      rw [hr] at hp
      intro v st' ok' e' ev' r'
      exact hp v st'.inn ok'.all e' (step_all ns ev') (Rep.keep kept_all r')
    | exc c fs ρ g1 =>
      rw [hr] at hp
      intro cv dd σ' st' ok' e' ev' sr' ⟨C, x1, x2, x3⟩
      exact hp cv dd st'.inn ok'.all e' (step_all ns ev') ⟨C, x1, x2, RepX.keep kept_all x3⟩⟩
end Z

set_option Elab.async false
set_option linter.all false
set_option maxRecDepth 100000
set_option maxHeartbeats 4000000
/-! Z22: from the head's facts to the whole text's promise. -/
namespace Z
open PySem PySem.Spec PyProof.Rows L2

/-! ### classes -/
def find3 {α β : Type} [DecidableEq α] [DecidableEq β] (a : α) (b : β) : List (α × β × Bool) → Option Bool
  | [] => none
  | (x, y, v) :: r => if x = a ∧ y = b then some v else find3 a b r
theorem find3_mem {α β : Type} [DecidableEq α] [DecidableEq β] {a : α} {b : β} {v : Bool} : ∀ {l : List (α × β × Bool)}, find3 a b l = some v → (a, b, v) ∈ l
  | [], h => by cases h
  | (x, y, w) :: r, h => by
    unfold find3 at h
    split at h
    · rename_i e
      cases h
      obtain ⟨rfl, rfl⟩ := e
      exact List.mem_cons_self
    · exact List.mem_cons_of_mem _ (find3_mem h)
structure Ks where
  tt : List (String × String × Bool)
  to : List (String × Nat × Bool)
  ot : List (Nat × String × Bool)
  oo : List (Nat × Nat × Bool)
def klOf (k : Ks) : Kl := ⟨fun a b => find3 a b k.tt, fun a b => find3 a b k.to, fun a b => find3 a b k.ot, fun a b => find3 a b k.oo⟩
def tbOf (cls fns : List Str) (tf : List He.Defn) (K : PySem.W.Frag) : Tb := ⟨fun c => (cls[c]?).map (He.ga K), fun i => (fns[i]?).map (He.ga K), tf.map fun p => ((He.cT K p).2, qL p.1), tf.map (He.cT K)⟩
def caB (cls : List Str) (K : PySem.W.Frag) (c : Nat) : Addr := match cls[c]? with
  | some x => He.ga K x
  | none => 0
def excB (K : PySem.W.Frag) (C : Addr) : Bool :=
  He.eqO (PySem.W.findIn K (.ref C) "__getattribute__") (some (some (.builtin "BaseException.__getattribute__"))) && (He.eqO (PySem.W.findIn K (.ref C) "__getattr__") (some none) && (decide (PySem.W.subIn K (.ref C) (.type "BaseException") = some true) && (PySem.W.hasDictIn K C &&
    (He.eqO (PySem.W.findIn K (.ref C) "__class__") (some (some (.builtin "object.__class__"))) && (He.eqO (PySem.W.specialIn K (.builtin "object.__class__") "__get__") (some (some (.builtin "getset_descriptor.__get__"))) && (decide (PySem.W.takesIn K (.builtin "object.__class__") = some true) && decide (PySem.W.mroIn K C (.type "object") = some true)))))))
theorem excB_ok {K : PySem.W.Frag} {C : Addr} (h : excB K C = true) : ExcC K C := by
  unfold excB at h
  simp only [Bool.and_eq_true] at h
  obtain ⟨h1, h2, h3, h4, h5, h6, h7, h8⟩ := h
  exact ⟨He.eqO_ok h1, He.eqO_ok h2, of_decide_eq_true h3, h4, He.eqO_ok h5, He.eqO_ok h6, of_decide_eq_true h7, of_decide_eq_true h8⟩
/-- all that is asked of the classes -/
def ksB (k : Ks) (cls : List Str) (K : PySem.W.Frag) : Bool :=
  cls.all (fun x => excB K (He.ga K x)) && ((k.tt.all fun p => decide (PySem.W.kitOne K (.type p.1) (.type p.2.1) = some p.2.2)) && ((k.to.all fun p => decide (PySem.W.kitOne K (.type p.1) (.ref (caB cls K p.2.1)) = some p.2.2)) &&
    ((k.ot.all fun p => decide (PySem.W.kitOne K (.ref (caB cls K p.1)) (.type p.2.1) = some p.2.2)) && (k.oo.all fun p => decide (PySem.W.kitOne K (.ref (caB cls K p.1)) (.ref (caB cls K p.2.1)) = some p.2.2) && decide (PySem.W.exmOne K (.ref (caB cls K p.1)) (.ref (caB cls K p.2.1)) = some p.2.2)))))
theorem tb_cls {cls fns : List Str} {tf : List He.Defn} {K : PySem.W.Frag} {c : Nat} {C : Addr} (h : (tbOf cls fns tf K).cls c = some C) : ∃ x, cls[c]? = some x ∧ C = He.ga K x ∧ caB cls K c = C := by
  have h : (cls[c]?).map (He.ga K) = some C := h
  cases e : cls[c]? with
  | none => rw [e] at h; cases h
  | some x =>
    rw [e] at h
    cases h
    exact ⟨x, rfl, rfl, by unfold caB; rw [e]⟩
theorem ksB_ok {k : Ks} {cls fns : List Str} {tf : List He.Defn} {K : PySem.W.Frag} (h : ksB k cls K = true) : KlOk (tbOf cls fns tf K) K (klOf k) := by
  unfold ksB at h
  simp only [Bool.and_eq_true, List.all_eq_true] at h
  obtain ⟨h0, h1, h2, h3, h4⟩ := h
  constructor
  · intro t c b tv cv hi ht hc
    cases t with
    | ty a =>
      cases c with
      | ty a' =>
        cases ht; cases hc
        exact of_decide_eq_true (h1 _ (find3_mem (show find3 a a' k.tt = some b from hi)))
      | own c' =>
        cases ht
        obtain ⟨C, q1, rfl⟩ := hc
        obtain ⟨x, _, _, q2⟩ := tb_cls q1
        have := of_decide_eq_true (h2 _ (find3_mem (show find3 a c' k.to = some b from hi)))
        dsimp only at this
        rw [q2] at this
        exact this
    | own t' =>
      obtain ⟨C1, p1, rfl⟩ := ht
      obtain ⟨_, _, _, p2⟩ := tb_cls p1
      cases c with
      | ty a' =>
        cases hc
        have := of_decide_eq_true (h3 _ (find3_mem (show find3 t' a' k.ot = some b from hi)))
        dsimp only at this
        rw [p2] at this
        exact this
      | own c' =>
        obtain ⟨C, q1, rfl⟩ := hc
        obtain ⟨x, _, _, q2⟩ := tb_cls q1
        have := of_decide_eq_true (h4 _ (find3_mem (show find3 t' c' k.oo = some b from hi))).1
        dsimp only at this
        rw [q2, p2] at this
        exact this
  · intro c C hc
    obtain ⟨x, q1, rfl, _⟩ := tb_cls hc
    exact excB_ok (h0 _ (List.mem_of_getElem? q1))
  · intro a b x A B hi ha hb
    obtain ⟨_, _, _, q1⟩ := tb_cls ha
    obtain ⟨_, _, _, q2⟩ := tb_cls hb
    have := of_decide_eq_true (h4 _ (find3_mem (show find3 a b k.oo = some x from hi))).2
    dsimp only at this
    rw [q1, q2] at this
    exact this
/-! ### the Hook over all addresses up to a bound (the kit's own growth of addresses is quadratic) -/
def asY (n : Nat) : List Addr := mainGlobals :: List.range n
def obsY (n : Nat) (fn : List He.DefD) (ts : List He.Tab) (tf : List He.Defn) (ex : PySem.W.Frag → Bool) (g : Addr → Option Obj) : He.AlX := (He.obsT [] fn ts (He.frT g (asY n)), ex (He.frT g (asY n)) && He.tabsB g tf (He.frT g (asY n)))
theorem saysY {n : Nat} {fn : List He.DefD} {ts : List He.Tab} {tf : List He.Defn} {ex : PySem.W.Frag → Bool} {w : World} {h : Heap} (e : obsY n fn ts tf ex h.get? = He.valX fn ts w) : He.SaysX [] fn ts tf ex w h (He.frT h.get? (asY n)) := by
  have e1 := congrArg (fun z : He.AlX => z.1) e
  have e2 := congrArg (fun z : He.AlX => z.2) e
  generalize eK : He.frT h.get? (asY n) = K at *
  have e2 : (ex K && He.tabsB h.get? tf K) = true := by rw [← eK]; exact e2
  rw [Bool.and_eq_true] at e2
  have all : ∀ p ∈ tf, PySem.W.codeHdIn K (He.cT K p).1 (He.cT K p).2 = true ∧ ∃ o, h.get? (He.cT K p).2 = some o ∧ He.emptyTab o = true := fun p hp => by
    have z := List.all_eq_true.1 e2.2 p hp
    rw [Bool.and_eq_true] at z
    refine ⟨z.1, ?_⟩
    have z2 := z.2
    split at z2
    · exact ⟨_, ‹_›, z2⟩
    · cases z2
  refine ⟨by rw [← eK]; exact e1, e2.1, fun p hp => (all p hp).1, fun p hp => ?_, fun p hp => ?_⟩
  · obtain ⟨_, o, z1, z2⟩ := all p hp
    rw [← eK] at z1 ⊢
    exact He.frT_none z1 z2
  · obtain ⟨_, o, z1, z2⟩ := all p hp
    rw [z1, He.emptyTab_eq z2]
def hookY (n : Nat) (fn : List He.DefD) (ts : List He.Tab) (tf : List He.Defn) (ex : PySem.W.Frag → Bool) : PySem.W.Hook where
  α := He.AlX
  obs := fun s => obsY n fn ts tf ex s.heap.get?
  val := fun w => He.valX fn ts w
  says := fun w h => ∃ K : PySem.W.Frag, K.In h ∧ He.SaysX [] fn ts tf ex w h K
  of := fun _ _ e => ⟨_, He.frT_in, saysY e⟩
  keeps := fun _ _ _ ⟨K, hK, c⟩ k => ⟨K, PySem.W.Frag.In.keeps hK k, ⟨c.t, c.more, c.hd, c.out, fun p hp => k _ _ (c.empty p hp)⟩⟩
theorem obsY_eq {n : Nat} {fn : List He.DefD} {ts : List He.Tab} {tf : List He.Defn} {ex : PySem.W.Frag → Bool} {g : Addr → Option Obj} {s : Shared} (h : ∀ a, g a = s.heap.get? a) : obsY n fn ts tf ex g = (hookY n fn ts tf ex).obs s := by
  have e : g = s.heap.get? := funext h
  rw [e] <;> rfl
/-! ### every entry of a list of names -/
def AllD (Pd : Str → GK → Prop) : List (Str × GK) → Prop
  | [] => True
  | p :: r => Pd p.1 p.2 ∧ AllD Pd r
theorem AllD.get {Pd : Str → GK → Prop} {x : Str} {k : GK} : ∀ {l : List (Str × GK)}, AllD Pd l → l.lookup x = some k → Pd x k
  | [], _, h => by cases h
  | p :: r, a, h => by
    obtain ⟨y, k'⟩ := p
    rw [List.lookup_cons] at h
    split at h
    · rename_i e
      cases h
      rw [eq_of_beq e]
      exact a.1
    · exact AllD.get a.2 h
/-! ### the module's names -/
def atomB : Value → D → Bool
  | .int i _, .int j => decide (i = j)
  | .str x _, .str y => decide (x = y)
  | .bool a, .bl b => decide (a = b)
  | .none, .non => true
  | _, _ => false
def atomsB : List Value → List D → Bool
  | [], [] => true
  | u :: us, d :: ds => atomB u d && atomsB us ds
  | _, _ => false
/-- a plain thing, or a tuple of such that stands in the head's fragment -/
def all2 {α β : Type} (f : α → β → Bool) : List α → List β → Bool
  | [], [] => true
  | u :: us, d :: ds => f u d && all2 f us ds
  | _, _ => false
def conB (K : PySem.W.Frag) : Nat → Value → D → Bool
  | 0, _, _ => false
  | n + 1, .ref a, .tup ds => match K.lookup a with
    | some ⟨.type nm, _, .seq its _, _⟩ => decide (nm = "tuple") && (decide (its.size ≤ sizeLine) && all2 (conB K n) its.toList ds)
    | _ => false
  | _ + 1, u, d => atomB u d
theorem atomB_ok {T : Tb} {K : PySem.W.Frag} {u : Value} {d : D} (h : atomB u d = true) : ∃ v, RelV v u ∧ ∀ (hm : List Addr) (A : Addr → Prop) (H : Hp), Rep T K hm A H v d := by
  unfold atomB at h
  split at h
  · have := of_decide_eq_true h
    subst this
    exact ⟨.int _, ⟨_, rfl⟩, fun _ _ _ => .int _⟩
  · have := of_decide_eq_true h
    subst this
    exact ⟨.str _, ⟨_, rfl⟩, fun _ _ _ => .str _⟩
  · have := of_decide_eq_true h
    subst this
    exact ⟨.bl _, rfl, fun _ _ _ => .bl _⟩
  · exact ⟨.non, rfl, fun _ _ _ => .non⟩
  · cases h
theorem all2_ok {T : Tb} {K : PySem.W.Frag} {f : Value → D → Bool} (hf : ∀ u d, f u d = true → ∃ v, RelV v u ∧ ∀ (hm : List Addr) (A : Addr → Prop) (H : Hp), Rep T K hm A H v d) : ∀ {us : List Value} {ds : List D}, all2 f us ds = true → ∃ vs, Vals vs us ∧ ∀ (hm : List Addr) (A : Addr → Prop) (H : Hp), Reps T K hm A H vs ds
  | [], [], _ => ⟨[], .nil, fun _ _ _ => .nil⟩
  | [], _ :: _, h => by cases h
  | _ :: _, [], h => by cases h
  | u :: us, d :: ds, h => by
    have h : (f u d && all2 f us ds) = true := h
    rw [Bool.and_eq_true] at h
    obtain ⟨v, r1, r2⟩ := hf u d h.1
    obtain ⟨vs, q1, q2⟩ := all2_ok hf h.2
    exact ⟨v :: vs, .cons r1 q1, fun hm A H => .cons (r2 hm A H) (q2 hm A H)⟩
theorem conB_ok {T : Tb} {K : PySem.W.Frag} : ∀ (n : Nat) (u : Value) (d : D), conB K n u d = true → ∃ v, RelV v u ∧ ∀ (hm : List Addr) (A : Addr → Prop) (H : Hp), Rep T K hm A H v d
  | 0, _, _, h => by simp [conB] at h
  | n + 1, u, d, h => by
    unfold conB at h
    split at h
    · rename_i z; cases z
    · rename_i k a ds e
      injection e with e
      subst e
      split at h
      · rename_i nm x its m sl hl
        rw [Bool.and_eq_true, Bool.and_eq_true] at h
        have e := of_decide_eq_true h.1
        subst e
        obtain ⟨vs, q1, q2⟩ := all2_ok (T := T) (K := K) (conB_ok n) h.2.2
        exact ⟨.ref a, rfl, fun hm A H => .tup (.inr ⟨_, its, m, hl, rfl, rfl, of_decide_eq_true h.2.1, q1⟩) (q2 hm A H)⟩
      · cases h
    · exact atomB_ok h
/-- a written dict's entries -/
def entB (K : PySem.W.Frag) (e : DictEntry) (p : Str × D) : Bool := match e.key with
  | .str k _ => decide (k = p.1) && conB K 8 e.val p.2
  | _ => false
def dctB (K : PySem.W.Frag) (a : Addr) (kvs : List (Str × D)) : Bool := match K.lookup a with
  | some ⟨_, _, .dict es _, _⟩ => all2 (entB K) es.toList kvs
  | _ => false
theorem dct_find {T : Tb} {K : PySem.W.Frag} (z : Str) : ∀ {l : List DictEntry} {kvs : List (Str × D)}, all2 (entB K) l kvs = true → DctV T K ((l.find? fun e => Value.isStrOf z e.key).map (·.val)) (kvs.lookup z)
  | [], [], _ => rfl
  | [], _ :: _, h => by cases h
  | _ :: _, [], h => by cases h
  | e :: l, (k, d) :: kvs, h => by
    have h : (entB K e (k, d) && all2 (entB K) l kvs) = true := h
    rw [Bool.and_eq_true] at h
    have h1 := h.1
    unfold entB at h1
    split at h1
    · rename_i k' t he
      rw [Bool.and_eq_true] at h1
      have ek := of_decide_eq_true h1.1
      dsimp only at ek
      subst ek
      have e1 : Value.isStrOf z e.key = (k' == z) := by rw [he]; rfl
      rw [List.find?_cons, e1, List.lookup_cons]
      by_cases hz : k' = z
      · subst hz
        rw [beq_self_eq_true]
        obtain ⟨v, r1, r2⟩ := conB_ok (T := T) 8 _ _ h1.2
        exact ⟨_, v, rfl, r1, r2⟩
      · have h2 : (k' == z) = false := by simpa using hz
        have h3 : (z == k') = false := by simpa using fun q => hz q.symm
        rw [h2, h3]
        exact dct_find z h.2
    · cases h1
def gkB (cls fns : List Str) (K : PySem.W.Frag) (x : Str) : GK → Bool
  | .cls c rs => decide (cls[c]? = some x) && (!rs || (PySem.W.excIn K (He.ga K x) He.veBase "ValueError.__new__" && (PySem.W.keepIn K (.ref (He.ga K x)) && (decide (PySem.W.subIn K (.ref (He.ga K x)) (.type "BaseException") = some true) && decide (PySem.W.typeIn K (.ref (He.ga K x)) = some (.type "type"))))))
  | .fn i _ _ _ _ => decide (fns[i]? = some x) && PySem.W.keepIn K (.ref (He.ga K x))
  | .con d => match PySem.W.nsIn K mainGlobals x with
    | some (some u) => conB K 8 u d
    | _ => false
  | .dct kvs => dctB K (He.ga K x) kvs
def isCon : GK → Bool
  | .con _ => true
  | _ => false
def glB (gl : List (Str × GK)) (blt cls fns : List Str) (K : PySem.W.Frag) : Bool :=
  (gl.all fun p => (isCon p.2 || He.eqO (PySem.W.nsIn K mainGlobals p.1) (some (some (.ref (He.ga K p.1))))) && gkB cls fns K p.1 p.2) && blt.all fun x => He.eqO (PySem.W.nsIn K mainGlobals x) (some none)
/-- the head's one question -/
def exB (k : Ks) (gl : List (Str × GK)) (blt cls fns : List Str) (K : PySem.W.Frag) : Bool := ksB k cls K && glB gl blt cls fns K
theorem globF_of {P : Program} {w : World} {K : PySem.W.Frag} {mg : Str → Option Value} {base : Heap} {h : Heap} {k : Ks} {gl : List (Str × GK)} {blt cls fns : List Str} {tf : List He.Defn} (X : K.In h) (G : h.Ns mainGlobals mg) (hd : ∀ x kvs, gl.lookup x = some (.dct kvs) → ∃ es n, L2.KDict K w (He.ga K x) es n) (c : exB k gl blt cls fns K = true) :
    GlobF P w K mg base (tbOf cls fns tf K) (klOf k) gl blt ∧ ∀ x i np dfl ps km, gl.lookup x = some (.fn i np dfl ps km) → mg x = some (.ref (He.ga K x)) ∧ (tbOf cls fns tf K).fn i = some (He.ga K x) := by
  unfold exB glB at c
  simp only [Bool.and_eq_true, List.all_eq_true] at c
  obtain ⟨hk, hg, hb⟩ := c
  have fnq : ∀ x i np dfl ps km, gl.lookup x = some (.fn i np dfl ps km) → (mg x = some (.ref (He.ga K x)) ∧ (tbOf cls fns tf K).fn i = some (He.ga K x)) ∧ PySem.W.keepIn K (.ref (He.ga K x)) = true := fun x i np dfl ps km hl => by
    obtain ⟨q1, q2⟩ := hg _ (lookup_mem hl)
    have q2 : (decide (fns[i]? = some x) && PySem.W.keepIn K (.ref (He.ga K x))) = true := q2
    rw [Bool.and_eq_true] at q2
    refine ⟨⟨PySem.W.mg_of X G (He.eqO_ok (by simpa [isCon] using q1)), ?_⟩, q2.2⟩
    show (fns[i]?).map (He.ga K) = _
    rw [of_decide_eq_true q2.1]; rfl
  refine ⟨⟨ksB_ok hk, fun x hx => PySem.W.mg_none_of X G (He.eqO_ok (hb x hx)), fun x c rs hl => ?_, fun x i np dfl ps km hl => ?_, fun x d hl => ?_, fun x kvs hl => ?_⟩, fun x i np dfl ps km hl => (fnq x i np dfl ps km hl).1⟩
  · obtain ⟨q1, q2⟩ := hg _ (lookup_mem hl)
    have q2 : (decide (cls[c]? = some x) && (!rs || (PySem.W.excIn K (He.ga K x) He.veBase "ValueError.__new__" && (PySem.W.keepIn K (.ref (He.ga K x)) && (decide (PySem.W.subIn K (.ref (He.ga K x)) (.type "BaseException") = some true) && decide (PySem.W.typeIn K (.ref (He.ga K x)) = some (.type "type"))))))) = true := q2
    rw [Bool.and_eq_true] at q2
    refine ⟨He.ga K x, PySem.W.mg_of X G (He.eqO_ok (by simpa [isCon] using q1)), ?_, fun hr => ?_⟩
    · show (cls[c]?).map (He.ga K) = _
      rw [of_decide_eq_true q2.1]; rfl
    · subst hr
      have q3 := q2.2
      rw [Bool.not_true, Bool.false_or] at q3
      simp only [Bool.and_eq_true] at q3
      obtain ⟨e1, e2, e3, e4⟩ := q3
      exact ⟨⟨_, _, _, _, PySem.F.excBase_ValueError, e1⟩, e2, of_decide_eq_true e3, of_decide_eq_true e4⟩
  · obtain ⟨⟨q1, q2⟩, q3⟩ := fnq x i np dfl ps km hl
    exact ⟨_, q1, q2, q3⟩
  · obtain ⟨q1, q2⟩ := hg _ (lookup_mem hl)
    have q2 : (match PySem.W.nsIn K mainGlobals x with
      | some (some u) => conB K 8 u d
      | _ => false) = true := q2
    split at q2
    · rename_i u hu
      obtain ⟨v, r1, r2⟩ := conB_ok (T := tbOf cls fns tf K) 8 u d q2
      exact ⟨u, v, PySem.W.mg_of X G hu, r1, r2⟩
    · cases q2
  · obtain ⟨q1, q2⟩ := hg _ (lookup_mem hl)
    obtain ⟨es, n, kd⟩ := hd x kvs hl
    have q2 : dctB K (He.ga K x) kvs = true := q2
    unfold dctB at q2
    rw [kd.at_] at q2
    refine ⟨_, es, n, PySem.W.mg_of X G (He.eqO_ok (by simpa [isCon] using q1)), kd, fun z => ?_⟩
    have := dct_find (T := tbOf cls fns tf K) z q2
    obtain ⟨l⟩ := es
    unfold findBy
    rw [List.find?_toArray]
    exact this
end Z

set_option Elab.async false
set_option linter.all false
set_option maxRecDepth 100000
set_option maxHeartbeats 4000000
/-! Z23: the end: the law's promise at the heap behind the top. -/
namespace Z
open PySem PySem.Spec PyProof.Rows L2

theorem walk_ofZ {l : PySem.W.OpenLaw} {n k : Nat} {q : Program} {loose : List Str} {XP : (Str → Option Value) → Heap → Prop} {YP : World → Heap → Prop} {d : DefRec} {x : Str}
    (hn : l.most = some n) (hn2 : n ≤ sizeLine) (hdf : d.params.defaults = []) (hr : Room k callerA)
    (F : ∀ (w : World) (mg : Str → Option Value) (fa : Addr) (h : Heap), YP w h → h.Ns mainGlobals mg → mg d.name = some (.ref fa) →
      ∃ (K : PySem.W.Frag) (fd : FuncData) (cs : List (Addr × Addr)) (sp : Sp), K.In h ∧ ((∀ p ∈ cs, h.get? p.2 = some ZG.noTab) ∧ (∀ p ∈ cs, K.lookup p.2 = none) ∧ ∀ p ∈ cs, PySem.W.CodeHd h p.1 p.2) ∧ (∀ (s : Shared) (u : Value), BindsTo s fd ⟨[u], []⟩ [(x, u)]) ∧
        (∀ (H : Hp) (a : Addr) (ns : List Int), ns.length ≤ n → (∀ z ∈ ns, Builtin.Int.intBits z ≤ 1048576) → ZG.OnlyT cs H → (∀ p ∈ cs, H p.2 = some (.tbl #[])) → SqL K H a (ns.map V.int) → sp [.ref a] H (fun v _ => v = .bl true) fun _ _ _ => False) ∧
        ∀ base : Heap, K.In base → base.Ns mainGlobals mg → (∀ p ∈ cs, LamX.TabB base mg p.1 p.2) → ZG.FnG l.prog w K mg base (L2.CX l.prog w) k fa fd [x] sp) :
    PySem.W.WalkO q loose XP YP l.row.toRowW d [] (fun f vs => PySem.call f vs) := by
  refine Att.attach_callB hn hdf fun w s₀ s₁ mg mb fa o pm cd doc a vs ns G Y ho hd hcd hmg hobj hints hlen hbits hg => ?_
  obtain ⟨K, fd, cs, sp, KX, ⟨c1, c2, c3⟩, hb, hsp, hF⟩ := F w mg fa _ Y G.T.g hmg
  exact ZG.law_callG KX G.T.g G.T.b G.T.builtins G.T.nolimit hg c1 c2 c3 G.T.bmain hobj hints (Nat.le_trans hlen hn2) hr hF hb (fun H hO hH hS => hsp H a ns hlen hbits hO hH hS) fun H e s' ⟨_, _, _, _, _, _, _, _, _, _, _, _, z⟩ => z
theorem reps_ints {T : Tb} {K : PySem.W.Frag} {hm : List Addr} {A : Addr → Prop} {H : Hp} : ∀ ns : List Int, Reps T K hm A H (ns.map V.int) (ns.map D.int)
  | [] => .nil
  | i :: ns => .cons (.int i) (reps_ints ns)
theorem sp_start {T : Tb} {K : PySem.W.Frag} {F : List D → G → R (D × G)} {H : Hp} {a : Addr} {ns : List Int} {cs : List (Addr × Addr)} (hO : ZG.OnlyT cs H) (hH : ∀ p ∈ cs, H p.2 = some (.tbl #[])) (hT : ∀ p ∈ T.tabs, p.1 ∈ cs.map Prod.snd) (hS : SqL K H a (ns.map V.int)) (h : ∃ g, F [.frz (ns.map D.int)] [] = .ok (.bl true, g)) : spF T K 1 F [.ref a] H (fun v _ => v = .bl true) (fun _ _ _ => False) := by
  obtain ⟨g, h⟩ := h
  have hT2 : ∀ b, b ∈ cs.map Prod.snd → H b = some (.tbl #[]) := fun b hb => by
    obtain ⟨p, hp, rfl⟩ := List.mem_map.1 hb
    exact hH p hp
  have fz : FzL K H a (ns.map V.int) := by
    rcases hS with (h1 | ⟨o, h1⟩) | h1
    · rcases hO a with h2 | h2 | ⟨o, xs, h2⟩
      · rw [h1] at h2; cases h2
      · rw [hT2 a h2] at h1; cases h1
      · rw [h1] at h2; cases h2
    · exact .inl ⟨o, h1⟩
    · exact .inr h1
  have how : ∀ b t, (if b ∈ cs.map Prod.snd then some (Tag.tab 0) else none) = some t → b ∈ cs.map Prod.snd ∧ t = .tab 0 := fun b t e => by
    split at e
    · cases e; exact ⟨‹_›, rfl⟩
    · cases e
  refine ⟨rfl, fun _ => True, ⟨H, [], fun b => if b ∈ cs.map Prod.snd then some (.tab 0) else none, []⟩, [.frz (ns.map D.int)], rfl, ⟨fun b t z => ⟨_, hT2 b (how b t z).1, rfl⟩, fun _ _ => trivial, rfl, fun k o z => ?_, fun p hp => ⟨LamX.TabS.nil (hT2 _ (hT p hp)), 0, if_pos (hT p hp)⟩⟩, fun b i z => ?_, .cons (.frz fz (reps_ints ns)) .nil, ?_⟩
  · have z : ([] : G)[k]? = some o := z
    cases z
  · cases (how b _ z).2
  · show post T K _ _ [] _ (F [.frz (ns.map D.int)] []) _
    rw [h]
    intro v st' _ _ _ r
    exact r.bl_
end Z

set_option Elab.async false
set_option linter.all false
set_option maxRecDepth 100000
set_option maxHeartbeats 4000000
/-! Z24: helps for the printed head. -/
namespace Z
open PySem PySem.Spec PyProof.Rows L2
section
variable {K : PySem.W.Frag} {x qual : Str} {params : Arguments} {body : List Stmt} {scope : Scope} {dvs : List V} {f : Addr} {fd : FuncData} {ps : List Str}
theorem kbn1 (F : FunD K x qual params body scope dvs [] f fd) (n : Nat) (ks : List Str) (hd : dvs ≠ [])
    (h : ∀ (T : Addr) (kV doc pm : Value) (an : Option Addr) (cdv ct : Value) (us its ws : List Value), us.length = n → its.length = dvs.length → ws.length = ks.length →
      ∃ k, bindArgs (PySem.W.fnOf x qual params body scope (.ref T) kV doc pm an cdv ct) ⟨us, ks.zip ws⟩ = seqItems? (.ref T) >>= k ∧ k (some its.toArray) = pure (ps.zip (us ++ ws))) : KBn K fd ps n ks (fun us ws => us ++ ws) (fun vs zs => vs ++ zs) := by
  obtain ⟨oc, od, dV, kV, doc, pm, an, cdv, ct, osl, rfl, lk, hcd, hD, hK⟩ := F.ex
  rcases hD with ⟨e, _⟩ | ⟨_, T, o, its, m, rfl, lT, oT, rT⟩
  · exact absurd e hd
  · refine ⟨fun s us ws X l1 l2 => ?_, fun r1 r2 => r1.append r2⟩
    obtain ⟨k, e1, e2⟩ := h T kV doc pm an cdv ct us its ws l1 rT.length.symm l2
    refine BindsTo.of_looks fun M => ?_
    rw [e1]
    exact looks_items X lT oT (.of_pure e2)
theorem kbn0 (F : FunD K x qual params body scope [] [] f fd) (n : Nat) (ks : List Str)
    (h : ∀ (kV doc pm : Value) (an : Option Addr) (cdv ct : Value) (us ws : List Value), us.length = n → ws.length = ks.length → bindArgs (PySem.W.fnOf x qual params body scope .none kV doc pm an cdv ct) ⟨us, ks.zip ws⟩ = pure (ps.zip (us ++ ws))) : KBn K fd ps n ks (fun us ws => us ++ ws) (fun vs zs => vs ++ zs) := by
  obtain ⟨oc, od, dV, kV, doc, pm, an, cdv, ct, osl, rfl, lk, hcd, hD, hK⟩ := F.ex
  rcases hD with ⟨_, rfl⟩ | ⟨e, _⟩
  · exact ⟨fun s us ws X l1 l2 => .of_eq (h kV doc pm an cdv ct us ws l1 l2), fun r1 r2 => r1.append r2⟩
  · exact absurd rfl e
theorem dfl0 {T : Tb} (b : Binds K fd ps []) : ∀ j, j ≤ ([] : List D).length → ∃ (vs : List V) (us : List Value), Vals vs us ∧ Binds K fd ps us ∧ vs.length = ([] : List D).length - j ∧ ∀ (hm : List Addr) (A : Addr → Prop) (H : Hp), Reps T K hm A H vs (([] : List D).drop j) := fun j _ =>
  ⟨[], [], .nil, b, by simp, fun _ _ _ => by rw [List.drop_nil]; exact .nil⟩
/-- one default, a value without an object -/
theorem dfl1 {T : Tb} {v : V} {d : D} (c : Const T K v d) (b0 : ∃ ds, Vals ([v].drop 0) ds ∧ Binds K fd ps ds) (b1 : ∃ ds, Vals ([v].drop 1) ds ∧ Binds K fd ps ds) : ∀ j, j ≤ [d].length → ∃ (vs : List V) (us : List Value), Vals vs us ∧ Binds K fd ps us ∧ vs.length = [d].length - j ∧ ∀ (hm : List Addr) (A : Addr → Prop) (H : Hp), Reps T K hm A H vs ([d].drop j)
  | 0, _ => let ⟨us, h1, h2⟩ := b0; ⟨[v], us, h1, h2, rfl, fun hm A H => .cons (c hm A H) .nil⟩
  | 1, _ => let ⟨us, h1, h2⟩ := b1; ⟨[], us, h1, h2, rfl, fun _ _ _ => .nil⟩
  | j + 2, h => by simp at h
end
theorem lamOf {cls fns : List Str} {tf : List He.Defn} {K : PySem.W.Frag} {x : Str} {params : Arguments} {body : List Stmt} {scope : Scope} {dvs : List V} {fd : FuncData} (F : FunD K x x params body scope dvs [] (He.ga K x) fd) (hm : (x, none) ∈ tf) (hu : ∀ p ∈ tf, p = (x, none)) : LamOf (tbOf cls fns tf K) K x (He.ga K x) := by
  obtain ⟨oc, od, dV, kV, doc, pm, an, cdv, ct, osl, rfl, lk, hcd, _, _⟩ := F.ex
  obtain ⟨c, rfl⟩ := He.codeIn_ref hcd
  have e1 : (He.cT K (x, none)).1 = c := He.codeOf_eq (p := (x, none)) lk rfl
  refine ⟨c, (He.cT K (x, none)).2, fun oc' od' fd' osl' e => ?_, ?_, List.mem_map.2 ⟨(x, none), hm, rfl⟩, fun q hq => ?_⟩
  · have lk' : K.lookup (He.ga K x) = _ := lk
    rw [lk'] at e
    cases e
    rfl
  · exact List.mem_map.2 ⟨(x, none), hm, by rw [← e1]⟩
  · obtain ⟨p, hp, e⟩ := List.mem_map.1 hq
    rw [hu p hp] at e
    exact (Prod.mk.inj e).2.symm
def DcOf (K : PySem.W.Frag) (w : World) (x : Str) : GK → Prop
  | .dct _ => ∃ es n, L2.KDict K w (He.ga K x) es n
  | _ => True
def PdOf (K : PySem.W.Frag) (mg : Str → Option Value) (T : Tb) (gl : List (Str × GK)) (blt : List Str) (tb : List FD) (x : Str) : GK → Prop
  | .cls _ _ => True
  | .con _ => True
  | .dct _ => True
  | .fn i np dfl ps km => DefOk K mg T gl blt tb x i np dfl ps km
end Z

set_option Elab.async false
set_option linter.all false
set_option maxRecDepth 100000
universe u
/-! ZW: what holds behind an evaluation, by its tree. -/
namespace Z
open PySem

def OW0 (o : Option D) (Q : D → Prop) : Prop := match o with | some d => Q d | none => False
def BW0 (d : D) (A B : Prop) : Prop := match d with | .bl true => A | .bl false => B | _ => False
def R.W0 {α : Type} (r : R α) (Q : α → Prop) (X : Nat → List (Str × D) → G → Prop) : Prop := match r with | .ok a => Q a | .exc c fs g => X c fs g | .bad => False
def SR.W0 (s : SR) (N : List Sl → G → Prop) (T : D → G → Prop) (B C : List Sl → G → Prop) (X : Nat → List (Str × D) → List Sl → G → Prop) : Prop := match s with
  | .nx ρ g => N ρ g
  | .rt d g => T d g
  | .bk ρ g => B ρ g
  | .ct ρ g => C ρ g
  | .exc c fs ρ g => X c fs ρ g
  | .bad => False
theorem R_W_congr_raw {α : Type} {r r' : R α} {Q : α → Prop} {X : Nat → List (Str × D) → G → Prop} (h : r = r') : r.W0 Q X = r'.W0 Q X := by rw [h]
theorem SR_W_congr_raw {s s' : SR} {N : List Sl → G → Prop} {T : D → G → Prop} {B C : List Sl → G → Prop} {X : Nat → List (Str × D) → List Sl → G → Prop} (h : s = s') : s.W0 N T B C X = s'.W0 N T B C X := by rw [h]
theorem OW_congr_raw {o o' : Option D} {Q : D → Prop} (h : o = o') : OW0 o Q = OW0 o' Q := by rw [h]
theorem BW_congr_raw {d d' : D} {A B : Prop} (h : d = d') : BW0 d A B = BW0 d' A B := by rw [h]
def pf {α : Type} : List α → Prop := fun _ => False
def noX : Nat → List (Str × D) → G → Prop := fun _ _ _ => False

section
variable {α β : Type} {Q : α → Prop} {P : β → Prop} {X : Nat → List (Str × D) → G → Prop}
theorem W_ok_raw (a : α) : (R.ok a).W0 Q X = Q a := rfl
theorem W_exc_raw (c : Nat) (fs : List (Str × D)) (g : G) : (R.exc c fs g : R α).W0 Q X = X c fs g := rfl
theorem W_bad_raw : (R.bad : R α).W0 Q X = False := rfl
theorem W_bind_raw (r : R β) (f : β → R α) : (r.bind f).W0 Q X = r.W0 (fun a => (f a).W0 Q X) X := by cases r <;> rfl
theorem W_noexc_raw (r : R α) : r.noexc.W0 Q X = r.W0 Q noX := by cases r <;> rfl
theorem W_mono_raw {r : R α} {Q Q' : α → Prop} {X X' : Nat → List (Str × D) → G → Prop} (h : r.W0 Q X) (hq : ∀ a, Q a → Q' a) (hx : ∀ c fs g, X c fs g → X' c fs g) : r.W0 Q' X' := by
  cases r with
  | ok a => exact hq _ h
  | exc c fs g => exact hx _ _ _ h
  | bad => exact h
theorem W_eq_raw {r : R α} {a : α} : r.W0 (fun b => b = a) noX ↔ r = .ok a := by
  cases r with
  | ok b => exact ⟨fun h => congrArg R.ok h, fun h => by cases h; rfl⟩
  | exc c fs g => exact ⟨fun h => h.elim, fun h => nomatch h⟩
  | bad => exact ⟨fun h => h.elim, fun h => nomatch h⟩
theorem W_of_raw {r : R α} {a : α} (h : r = .ok a) (q : Q a) : r.W0 Q X := by rw [h]; exact q
theorem W_ex_raw {r : R α} (h : r.W0 Q noX) : ∃ a, r = .ok a ∧ Q a := by
  cases r with
  | ok b => exact ⟨b, rfl, h⟩
  | exc c fs g => exact h.elim
  | bad => exact h.elim
theorem W_exc_eq_raw {r : R α} {c : Nat} {fs : List (Str × D)} {g : G} : r.W0 (fun _ => False) (fun c' fs' g' => c' = c ∧ fs' = fs ∧ g' = g) ↔ r = .exc c fs g := by
  cases r with
  | ok b => exact ⟨fun h => h.elim, fun h => nomatch h⟩
  | exc c fs g => exact ⟨fun h => by obtain ⟨rfl, rfl, rfl⟩ := h; rfl, fun h => by cases h; exact ⟨rfl, rfl, rfl⟩⟩
  | bad => exact ⟨fun h => h.elim, fun h => nomatch h⟩
end

/-! ### conditions -/
section
variable {A B : Prop}
theorem BW_tt_raw : BW0 (.bl true) A B = A := rfl
theorem BW_ff_raw : BW0 (.bl false) A B = B := rfl
theorem BW_bl_raw (b : Bool) : BW0 (.bl b) A B = ((b = true → A) ∧ (b = false → B)) := by cases b <;> simp [BW0]
theorem BW_dec_raw (p : Prop) [Decidable p] : BW0 (.bl (decide p)) A B = ((p → A) ∧ (¬ p → B)) := by
  by_cases h : p <;> simp [h, BW0]
theorem BW_pos_raw {p : Prop} [Decidable p] (h : p) : BW0 (.bl (decide p)) A B = A := by simp [h, BW0]
theorem BW_neg_raw {p : Prop} [Decidable p] (h : ¬ p) : BW0 (.bl (decide p)) A B = B := by simp [h, BW0]
theorem BW_not_raw (b : Bool) : BW0 (.bl !b) A B = BW0 (.bl b) B A := by cases b <;> rfl
theorem BW_and_raw (a b : Bool) : BW0 (.bl (a && b)) A B = BW0 (.bl a) (BW0 (.bl b) A B) B := by cases a <;> rfl
end
theorem OW_some_raw {Q : D → Prop} (d : D) : OW0 (some d) Q = Q d := rfl
theorem OW_none_raw {Q : D → Prop} : OW0 none Q = False := rfl

/-! ### slots -/
section
variable {Q : D → Prop} {rd : List Nat} {ρ : List Sl}
theorem seen_val0_raw (d : D) : OW0 (seen rd (.val d :: ρ) 0) Q = Q d := rfl
theorem seen_own0_raw (ds : List D) : OW0 (seen rd (.own ds :: ρ) 0) Q = (rd.contains 0 = true ∧ Q (.lst ds)) := by
  show OW0 (if rd.contains 0 then some (D.lst ds) else none) Q = _
  cases rd.contains 0 <;> simp [OW0]
theorem seen_val_raw {i : Nat} {d : D} (h : ρ[i]? = some (.val d)) : OW0 (seen rd ρ i) Q = Q d := by unfold seen; rw [h]; rfl
theorem seen_own_raw {i : Nat} {ds : List D} (h : ρ[i]? = some (.own ds)) (hr : rd.contains i = true) : OW0 (seen rd ρ i) Q = Q (.lst ds) := by unfold seen; rw [h]; simp only [hr]; rfl
end

/-! ### expressions -/
section
variable {kl : Kl} {cl : Cal} {rd : List Nat} {ρ : List Sl} {g : G} {Q : D × G → Prop} {Qs : List D × G → Prop} {X : Nat → List (Str × D) → G → Prop}
theorem we_var_raw (i : Nat) : (evE kl cl rd (.var i) ρ g).W0 Q X = OW0 (seen rd ρ i) fun d => Q (d, g) := by
  unfold evE
  cases seen rd ρ i <;> rfl
theorem we_con_raw (d : D) : (evE kl cl rd (.con d) ρ g).W0 Q X = Q (d, g) := by unfold evE; rfl
theorem we_prim_raw (p : P) (es : Es) : (evE kl cl rd (.prim p es) ρ g).W0 Q X = (evEs kl cl rd es ρ g).W0 (fun q => OW0 (p.sem kl q.1) fun d => Q (d, q.2)) X := by
  unfold evE
  rw [W_bind_raw]
  congr 1
  funext q
  cases p.sem kl q.1 <;> rfl
theorem we_and_raw (a b : E) : (evE kl cl rd (.and a b) ρ g).W0 Q X = (evE kl cl rd a ρ g).W0 (fun q => BW0 q.1 ((evE kl cl rd b ρ q.2).W0 Q X) (Q (.bl false, q.2))) X := by
  conv => lhs; unfold evE
  rw [W_bind_raw]
  congr 1
  funext q
  obtain ⟨d, g⟩ := q
  cases d <;> first | rfl | (rename_i b; cases b <;> rfl)
theorem we_or_raw (a b : E) : (evE kl cl rd (.or a b) ρ g).W0 Q X = (evE kl cl rd a ρ g).W0 (fun q => BW0 q.1 (Q (.bl true, q.2)) ((evE kl cl rd b ρ q.2).W0 Q X)) X := by
  conv => lhs; unfold evE
  rw [W_bind_raw]
  congr 1
  funext q
  obtain ⟨d, g⟩ := q
  cases d <;> first | rfl | (rename_i b; cases b <;> rfl)
theorem we_ite_raw (c a b : E) : (evE kl cl rd (.ite c a b) ρ g).W0 Q X = (evE kl cl rd c ρ g).W0 (fun q => BW0 q.1 ((evE kl cl rd a ρ q.2).W0 Q X) ((evE kl cl rd b ρ q.2).W0 Q X)) X := by
  conv => lhs; unfold evE
  rw [W_bind_raw]
  congr 1
  funext q
  obtain ⟨d, g⟩ := q
  cases d <;> first | rfl | (rename_i b; cases b <;> rfl)
theorem we_chain_raw (p q : P) (a b c : E) : (evE kl cl rd (.chain p q a b c) ρ g).W0 Q X = (evE kl cl rd a ρ g).W0 (fun x => (evE kl cl rd b ρ x.2).W0 (fun y => OW0 (p.sem kl [x.1, y.1]) fun d => BW0 d ((evE kl cl rd c ρ y.2).W0 (fun z => OW0 (q.sem kl [y.1, z.1]) fun d => Q (d, z.2)) X) (Q (.bl false, y.2))) X) X := by
  conv => lhs; unfold evE
  rw [W_bind_raw]
  congr 1
  funext x
  rw [W_bind_raw]
  congr 1
  funext y
  cases p.sem kl [x.1, y.1] with
  | none => rfl
  | some d =>
    cases d <;> first | rfl | (rename_i b; cases b <;> first | rfl | skip)
    show ((evE kl cl rd c ρ y.2).bind _).W0 Q X = (evE kl cl rd c ρ y.2).W0 _ X
    rw [W_bind_raw]
    congr 1
    funext z
    cases q.sem kl [y.1, z.1] <;> rfl
theorem we_call_raw (f : Nat) (es : Es) : (evE kl cl rd (.call f es) ρ g).W0 Q X = (evEs kl cl rd es ρ g).W0 (fun q => (cl f q.1 q.2).W0 Q X) X := by
  unfold evE; rw [W_bind_raw]
theorem we_hget_raw (e : E) (key : Str) : (evE kl cl rd (.hget e key) ρ g).W0 Q X = (evE kl cl rd e ρ g).W0 (fun x => match x.1 with
    | .hnd k => match oget x.2 k key with
      | some (.imm d) => Q (d, x.2)
      | _ => False
    | _ => False) X := by
  conv => lhs; unfold evE
  rw [W_bind_raw]
  congr 1
  funext x
  cases x.1 with
  | hnd k =>
    dsimp only
    cases oget x.2 k key with
    | none => rfl
    | some f => cases f <;> rfl
  | _ => rfl
theorem we_nil_raw : (evEs kl cl rd .nil ρ g).W0 Qs X = Qs ([], g) := by unfold evEs; rfl
theorem we_cons_raw (e : E) (es : Es) : (evEs kl cl rd (.cons e es) ρ g).W0 Qs X = (evE kl cl rd e ρ g).W0 (fun x => (evEs kl cl rd es ρ x.2).W0 (fun y => Qs (x.1 :: y.1, y.2)) X) X := by
  conv => lhs; unfold evEs
  rw [W_bind_raw]
  congr 1
  funext x
  rw [W_bind_raw]
  rfl
/-- a comprehension's turn -/
def turn (kl : Kl) (cl : Cal) (rd : List Nat) (ρ : List Sl) (tg : Tg) (cond elt : E) (x : D) (g1 : G) : R (Option D × G) := match tg.bind x (wipeSl ρ tg.slots) with
        | some ρ1 => (evE kl cl rd cond ρ1 g1).bind fun c => match c.1 with
          | .bl true => (evE kl cl rd elt ρ1 c.2).bind fun y => .ok (some y.1, y.2)
          | .bl false => .ok (none, c.2)
          | _ => .bad
        | none => .bad
theorem we_comp_raw (k : Ik) (es : Es) (tg : Tg) (cond elt : E) : (evE kl cl rd (.comp k es tg cond elt) ρ g).W0 Q X = (evEs kl cl rd es ρ g).W0 (fun q => match k.items q.1 with
    | some xs => (evTurns (turn kl cl rd ρ tg cond elt) xs q.2).W0 (fun r => r.1.length ≤ sizeLine ∧ Q (.lst r.1, r.2)) noX
    | none => False) X := by
  conv => lhs; unfold evE
  rw [W_bind_raw]
  congr 1
  funext q
  cases k.items q.1 with
  | none => rfl
  | some xs =>
    dsimp only
    rw [W_bind_raw, W_noexc_raw]
    show (evTurns (turn kl cl rd ρ tg cond elt) xs q.2).W0 _ noX = (evTurns (turn kl cl rd ρ tg cond elt) xs q.2).W0 _ noX
    congr 1
    funext r
    by_cases h : r.1.length ≤ sizeLine
    · rw [if_pos h]; exact propext ⟨fun q => ⟨h, q⟩, fun q => q.2⟩
    · rw [if_neg h]; exact propext ⟨fun q => q.elim, fun q => h q.1⟩
theorem turns_nil_raw {f : D → G → R (Option D × G)} : (evTurns f [] g).W0 Qs X = Qs ([], g) := rfl
theorem turns_cons_raw {f : D → G → R (Option D × G)} (x : D) (xs : List D) : (evTurns f (x :: xs) g).W0 Qs X = (f x g).W0 (fun p => (evTurns f xs p.2).W0 (fun q => Qs (addO p.1 q.1, q.2)) X) X := by
  conv => lhs; unfold evTurns
  rw [W_bind_raw]
  congr 1
  funext p
  rw [W_bind_raw]
  rfl
theorem we_turn_raw {tg : Tg} {cond elt : E} {x : D} {Qo : Option D × G → Prop} : (turn kl cl rd ρ tg cond elt x g).W0 Qo X = match tg.bind x (wipeSl ρ tg.slots) with
    | some ρ1 => (evE kl cl rd cond ρ1 g).W0 (fun c => BW0 c.1 ((evE kl cl rd elt ρ1 c.2).W0 (fun y => Qo (some y.1, y.2)) X) (Qo (none, c.2))) X
    | none => False := by
  unfold turn
  cases tg.bind x (wipeSl ρ tg.slots) with
  | none => rfl
  | some ρ1 =>
    dsimp only
    rw [W_bind_raw]
    congr 1
    funext c
    cases c.1 <;> first | rfl | (rename_i b; cases b <;> first | rfl | (rw [W_bind_raw]; rfl))
/-- each item gives just one -/
theorem turns_map {f : D → G → R (Option D × G)} {F : D → D} : ∀ {xs : List D}, (∀ x ∈ xs, f x g = .ok (some (F x), g)) → evTurns f xs g = .ok (xs.map F, g)
  | [], _ => rfl
  | x :: xs, h => by
    unfold evTurns
    rw [h x (.head _), R.bind_ok, turns_map fun y hy => h y (.tail _ hy)]
    rfl
end

/-! ### statements -/
section
variable {kl : Kl} {cl : Cal} {w : Nat} {ρ : List Sl} {g : G} {N : List Sl → G → Prop} {T : D → G → Prop} {B C : List Sl → G → Prop} {X : Nat → List (Str × D) → List Sl → G → Prop}
theorem S_ofR_raw {α : Type} (f : α → SR) (r : R α) : (SR.ofR ρ f r).W0 N T B C X = r.W0 (fun a => (f a).W0 N T B C X) (fun c fs g => X c fs ρ g) := by cases r <;> rfl
theorem ws_nil_raw : (evSs kl cl w .nil ρ g).W0 N T B C X = N ρ g := by unfold evSs; rfl
theorem ws_cons_raw (s : S) (r : Ss) : (evSs kl cl w (.cons s r) ρ g).W0 N T B C X = (evS kl cl w s ρ g).W0 (fun ρ g => (evSs kl cl w r ρ g).W0 N T B C X) T B C X := by
  conv => lhs; unfold evSs
  cases evS kl cl w s ρ g <;> rfl
theorem ws_set_raw (i : Nat) (rd : List Nat) (e : E) : (evS kl cl w (.set i rd e) ρ g).W0 N T B C X = (evE kl cl rd e ρ g).W0 (fun q => N ((after rd q.1 ρ).set i (.val q.1)) q.2) (fun c fs g => X c fs ρ g) := by
  unfold evS; rw [S_ofR_raw]; rfl
theorem ws_own_raw (i : Nat) (rd : List Nat) (e : E) (hf : isFresh e = true) : (evS kl cl w (.own i rd e) ρ g).W0 N T B C X = (i < ρ.length ∧ (evE kl cl rd e ρ g).W0 (fun q => match q.1 with
      | .lst ds => N ((if D.immAll ds = true then ρ else freeze rd ρ).set i (.own ds)) q.2
      | _ => False) (fun c fs g => X c fs ρ g)) := by
  unfold evS
  by_cases h : i < ρ.length
  · rw [if_pos ⟨hf, h⟩, S_ofR_raw]
    refine Eq.trans ?_ (propext ⟨fun q => ⟨h, q⟩, fun q => q.2⟩)
    congr 1
    funext q
    cases q.1 <;> rfl
  · rw [if_neg fun q => h q.2]
    exact propext ⟨fun q => q.elim, fun q => h q.1⟩
def unpW (ρ : List Sl) (is : List Nat) (d : D) (N : List Sl → Prop) : Prop := match d with
  | .tup ds => match setSl ρ is ds with
    | some ρ1 => N ρ1
    | none => False
  | .lst ds => match setSl ρ is ds with
    | some ρ1 => N ρ1
    | none => False
  | _ => False
theorem ws_unp_raw (is rd : List Nat) (e : E) : (evS kl cl w (.unp is rd e) ρ g).W0 N T B C X = (evE kl cl rd e ρ g).W0 (fun q => unpW (after rd q.1 ρ) is q.1 fun ρ1 => N ρ1 q.2) (fun c fs g => X c fs ρ g) := by
  unfold evS; rw [S_ofR_raw]
  congr 1
  funext q
  cases q.1 with
  | tup ds =>
    unfold unpW
    dsimp only
    cases setSl (after rd (.tup ds) ρ) is ds <;> rfl
  | lst ds =>
    unfold unpW
    dsimp only
    cases setSl (after rd (.lst ds) ρ) is ds <;> rfl
  | _ => rfl
theorem ws_par_raw (is rd : List Nat) (es : Es) : (evS kl cl w (.par is rd es) ρ g).W0 N T B C X = (evEs kl cl rd es ρ g).W0 (fun q => unpW (after rd (.tup q.1) ρ) is (.tup q.1) fun ρ1 => N ρ1 q.2) (fun c fs g => X c fs ρ g) := by
  unfold evS; rw [S_ofR_raw]
  congr 1
  funext q
  unfold unpW
  dsimp only
  cases setSl (after rd (.tup q.1) ρ) is q.1 <;> rfl
theorem ws_expr_raw (rd : List Nat) (e : E) : (evS kl cl w (.expr rd e) ρ g).W0 N T B C X = (evE kl cl rd e ρ g).W0 (fun q => N ρ q.2) (fun c fs g => X c fs ρ g) := by
  unfold evS; rw [S_ofR_raw]; rfl
theorem ws_ret_raw (rd : List Nat) (e : E) : (evS kl cl w (.ret rd e) ρ g).W0 N T B C X = (evE kl cl rd e ρ g).W0 (fun q => T q.1 q.2) (fun c fs g => X c fs ρ g) := by
  unfold evS; rw [S_ofR_raw]; rfl
theorem ws_retN_raw : (evS kl cl w .retN ρ g).W0 N T B C X = T .non g := by unfold evS; rfl
theorem ws_ite_raw (rd : List Nat) (c : E) (a b : Ss) : (evS kl cl w (.ite rd c a b) ρ g).W0 N T B C X = (evE kl cl rd c ρ g).W0 (fun q => BW0 q.1 ((evSs kl cl w a ρ q.2).W0 N T B C X) ((evSs kl cl w b ρ q.2).W0 N T B C X)) (fun c fs g => X c fs ρ g) := by
  conv => lhs; unfold evS
  rw [S_ofR_raw]
  congr 1
  funext q
  obtain ⟨d, g⟩ := q
  cases d <;> first | rfl | (rename_i b; cases b <;> rfl)
theorem ws_whl_raw (rd : List Nat) (c : E) (b : Ss) : (evS kl cl w (.whl rd c b) ρ g).W0 N T B C X = (evWhl (evE kl cl rd c) (evSs kl cl w b) w ρ g).W0 N T B C X := by
  unfold evS; rfl
theorem ws_for_raw (k : Ik) (rd : List Nat) (es : Es) (tg : Tg) (b : Ss) : (evS kl cl w (.for k rd es tg b) ρ g).W0 N T B C X = (evEs kl cl rd es ρ g).W0 (fun q => match k.items q.1 with
    | some xs => (evFor tg (evSs kl cl w b) xs (freeze rd ρ) q.2).W0 N T B C X
    | none => False) (fun c fs g => X c fs ρ g) := by
  conv => lhs; unfold evS
  rw [S_ofR_raw]
  congr 1
  funext q
  cases k.items q.1 <;> rfl
theorem ws_rais_raw (c : Nat) : (evS kl cl w (.rais c) ρ g).W0 N T B C X = X c [] ρ g := by unfold evS; rfl
theorem ws_pass_raw : (evS kl cl w .pass ρ g).W0 N T B C X = N ρ g := by unfold evS; rfl
theorem ws_brk_raw : (evS kl cl w .brk ρ g).W0 N T B C X = B ρ g := by unfold evS; rfl
theorem ws_cnt_raw : (evS kl cl w .cnt ρ g).W0 N T B C X = C ρ g := by unfold evS; rfl
def augW (d : Option D) (N : D → Prop) : Prop := match d with | some d => N d | none => False
theorem ws_aug_raw {i : Nat} (rd : List Nat) (e : E) {d0 : D} (h : ρ[i]? = some (.val d0)) : (evS kl cl w (.aug i rd e) ρ g).W0 N T B C X = (evE kl cl rd e ρ g).W0 (fun q => OW0 (semAug d0 q.1) fun d => N ((after rd d ρ).set i (.val d)) q.2) (fun c fs g => X c fs ρ g) := by
  unfold evS; rw [h]; dsimp only; rw [S_ofR_raw]
  congr 1
  funext q
  cases semAug d0 q.1 <;> rfl
def catchW (kl : Kl) (c : Nat) (v : Option Nat) (i : Nat) (N : List Sl → G → Prop) (X : Nat → List (Str × D) → List Sl → G → Prop) (c' : Nat) (fs : List (Str × D)) (ρ1 : List Sl) (g1 : G) : Prop :=
  match kl.own c' c with
      | some true => (match v with
        | some j => j < ρ1.length ∧ N (((ρ1.set j (.val (.exc c' fs))).set i (.val (.exc c' fs))).set j .un) g1
        | none => N (ρ1.set i (.val .non)) g1)
      | some false => X c' fs ρ1 g1
      | none => False
theorem catchW_yes {kl : Kl} {c c' : Nat} (h : kl.own c' c = some true) {j i : Nat} {N : List Sl → G → Prop} {X : Nat → List (Str × D) → List Sl → G → Prop} {fs : List (Str × D)} {ρ1 : List Sl} {g1 : G} :
    catchW kl c (some j) i N X c' fs ρ1 g1 = (j < ρ1.length ∧ N (((ρ1.set j (.val (.exc c' fs))).set i (.val (.exc c' fs))).set j .un) g1) := by
  unfold catchW; rw [h]
theorem catchW_yes0 {kl : Kl} {c c' : Nat} (h : kl.own c' c = some true) {i : Nat} {N : List Sl → G → Prop} {X : Nat → List (Str × D) → List Sl → G → Prop} {fs : List (Str × D)} {ρ1 : List Sl} {g1 : G} :
    catchW kl c none i N X c' fs ρ1 g1 = N (ρ1.set i (.val .non)) g1 := by
  unfold catchW; rw [h]
theorem ws_try_raw (b : Ss) (c : Nat) (v : Option Nat) (i : Nat) : (evS kl cl w (.try_ b c v i) ρ g).W0 N T B C X = (evSs kl cl w b ρ g).W0 N T B C (catchW kl c v i N X) := by
  conv => lhs; unfold evS
  cases evSs kl cl w b ρ g with
  | exc c' fs ρ1 g1 =>
    show _ = catchW kl c v i N X c' fs ρ1 g1
    dsimp only
    unfold catchW
    cases kl.own c' c with
    | none => rfl
    | some t =>
      cases t with
      | false => rfl
      | true =>
        dsimp only
        cases v with
        | none => rfl
        | some j =>
          dsimp only
          by_cases h : j < ρ1.length
          · rw [if_pos h]; exact propext ⟨fun q => ⟨h, q⟩, fun q => q.2⟩
          · rw [if_neg h]; exact propext ⟨fun q => q.elim, fun q => h q.1⟩
  | _ => rfl
theorem ws_hset_raw (e : E) (key : Str) (v : E) : (evS kl cl w (.hset e key v) ρ g).W0 N T B C X = (evE kl cl [] v ρ g).W0 (fun x => (evE kl cl [] e ρ x.2).W0 (fun y => match y.1 with
      | .hnd k => match oget y.2 k key with
        | some (.imm _) => x.1.imm = true ∧ N ρ (oput y.2 k key (.imm x.1))
        | _ => False
      | _ => False) (fun c fs g => X c fs ρ g)) (fun c fs g => X c fs ρ g) := by
  conv => lhs; unfold evS
  rw [S_ofR_raw]
  congr 1
  funext x
  rw [S_ofR_raw]
  congr 1
  funext y
  cases y.1 with
  | hnd k =>
    dsimp only
    cases oget y.2 k key with
    | none => rfl
    | some f =>
      cases f with
      | own _ => rfl
      | imm _ =>
        dsimp only
        by_cases h : x.1.imm = true
        · rw [if_pos h]; exact propext ⟨fun q => ⟨h, q⟩, fun q => q.2⟩
        · rw [if_neg h]; exact propext ⟨fun q => q.elim, fun q => h q.1⟩
  | _ => rfl
/-- a while by a measure -/
theorem whl_W_raw {c : List Sl → G → R (D × G)} {b : List Sl → G → SR} {I : Nat → List Sl → G → Prop}
    (step : ∀ m ρ g, I m ρ g → (c ρ g).W0 (fun q => BW0 q.1 ((b ρ q.2).W0 (fun ρ g => ∃ m', m' < m ∧ I m' ρ g) T N (fun ρ g => ∃ m', m' < m ∧ I m' ρ g) X) (N ρ q.2)) (fun c fs g => X c fs ρ g)) :
    ∀ w m ρ g, m < w → I m ρ g → (evWhl c b w ρ g).W0 N T B C X := by
  intro w
  induction w with
  | zero => intro m _ _ h; omega
  | succ w ih =>
    intro m ρ g hm hI
    have h := step m ρ g hI
    unfold evWhl
    rw [S_ofR_raw]
    refine W_mono_raw h (fun q hq => ?_) fun _ _ _ hx => hx
    obtain ⟨d, g1⟩ := q
    cases d <;> try exact hq.elim
    rename_i t
    cases t with
    | false => exact hq
    | true =>
      have hq : (b ρ g1).W0 (fun ρ g => ∃ m', m' < m ∧ I m' ρ g) T N (fun ρ g => ∃ m', m' < m ∧ I m' ρ g) X := hq
      dsimp only
      cases hb : b ρ g1 <;> rw [hb] at hq <;> dsimp only
      · obtain ⟨m', h1, h2⟩ := hq
        exact ih m' _ _ (by omega) h2
      · exact hq
      · exact hq
      · obtain ⟨m', h1, h2⟩ := hq
        exact ih m' _ _ (by omega) h2
      · exact hq
      · exact hq
/-- a for by an invariant over what is left -/
theorem for_W_raw {tg : Tg} {b : List Sl → G → SR} {I : List D → List Sl → G → Prop}
    (step : ∀ x xs ρ g, I (x :: xs) ρ g → match tg.bind x ρ with
      | some ρ1 => (b ρ1 g).W0 (I xs) T N (I xs) X
      | none => False)
    (fin : ∀ ρ g, I [] ρ g → N ρ g) : ∀ xs ρ g, I xs ρ g → (evFor tg b xs ρ g).W0 N T B C X
  | [], ρ, g, h => fin ρ g h
  | x :: xs, ρ, g, h => by
    have s := step x xs ρ g h
    unfold evFor
    cases ht : tg.bind x ρ with
    | none => rw [ht] at s; exact s.elim
    | some ρ1 =>
      rw [ht] at s
      dsimp only at s ⊢
      cases hb : b ρ1 g <;> rw [hb] at s <;> dsimp only
      · exact for_W_raw step fin xs _ _ s
      · exact s
      · exact s
      · exact for_W_raw step fin xs _ _ s
      · exact s
      · exact s
theorem for_nil_raw {tg : Tg} {b : List Sl → G → SR} : (evFor tg b [] ρ g).W0 N T B C X = N ρ g := rfl
theorem for_cons_raw {tg : Tg} {b : List Sl → G → SR} (x : D) (xs : List D) : (evFor tg b (x :: xs) ρ g).W0 N T B C X = (match tg.bind x ρ with
      | some ρ1 => (b ρ1 g).W0 (fun ρ g => (evFor tg b xs ρ g).W0 N T B C X) T N (fun ρ g => (evFor tg b xs ρ g).W0 N T B C X) X
      | none => False) := by
  conv => lhs; unfold evFor
  cases tg.bind x ρ with
  | none => rfl
  | some ρ1 => dsimp only; cases b ρ1 g <;> rfl
end
theorem run_W_raw {kl : Kl} {tb : List FD} {w n i : Nat} {fd : FD} {ds : List D} {g : G} {Q : D × G → Prop} {X : Nat → List (Str × D) → G → Prop} (h : tb[i]? = some fd) (hl : ds.length = fd.np) :
    (run kl tb w (n + 1) i ds g).W0 Q X = (evSs kl (run kl tb w n) w fd.body (startSl fd ds) g).W0 (fun _ g => Q (.non, g)) (fun d g => Q (d, g)) (fun _ _ => False) (fun _ _ => False) (fun c fs _ g => X c fs g) := by
  unfold run
  rw [h]
  dsimp only
  rw [if_pos hl]
  cases evSs kl (run kl tb w n) w fd.body (startSl fd ds) g <;> rfl

/-! ### primitives -/
section
variable {kl : Kl} {Q : D → Prop} (i j : Int)
theorem ow_add_raw : OW0 (P.sem kl .add [.int i, .int j]) Q = Q (.int (i + j)) := rfl
theorem ow_sub_raw : OW0 (P.sem kl .sub [.int i, .int j]) Q = Q (.int (i - j)) := rfl
theorem ow_mul_raw : OW0 (P.sem kl .mul [.int i, .int j]) Q = (mulOk i j = true ∧ Q (.int (i * j))) := by
  show OW0 (if mulOk i j = true then _ else _) Q = _
  by_cases h : mulOk i j = true <;> simp [h, OW0]
theorem ow_fdiv_raw : OW0 (P.sem kl .fdiv [.int i, .int j]) Q = (divOk i j = true ∧ Q (.int (i.fdiv j))) := by
  show OW0 (if divOk i j = true then _ else _) Q = _
  by_cases h : divOk i j = true <;> simp [h, OW0]
theorem ow_mod_raw : OW0 (P.sem kl .mod [.int i, .int j]) Q = (0 < j ∧ Q (.int (i % j))) := by
  show OW0 (if 0 < j then _ else _) Q = _
  by_cases h : 0 < j <;> simp [h, OW0]
theorem ow_pow_raw : OW0 (P.sem kl .pow [.int i, .int j]) Q = (powOk i j = true ∧ Q (.int (i ^ j.toNat))) := by
  show OW0 (if powOk i j = true then _ else _) Q = _
  by_cases h : powOk i j = true <;> simp [h, OW0]
theorem ow_shl_raw : OW0 (P.sem kl .shl [.int i, .int j]) Q = (shlOk i j = true ∧ Q (.int (i * 2 ^ j.toNat))) := by
  show OW0 (if shlOk i j = true then _ else _) Q = _
  by_cases h : shlOk i j = true <;> simp [h, OW0]
theorem ow_shr_raw : OW0 (P.sem kl .shr [.int i, .int j]) Q = (0 ≤ j ∧ Q (.int (i / 2 ^ j.toNat))) := by
  show OW0 (if 0 ≤ j then _ else _) Q = _
  by_cases h : 0 ≤ j <;> simp [h, OW0]
theorem ow_band_raw : OW0 (P.sem kl .band [.int i, .int j]) Q = Q (.int (Builtin.bitAnd i j)) := rfl
theorem ow_lt_raw : OW0 (P.sem kl .lt [.int i, .int j]) Q = Q (.bl (decide (i < j))) := rfl
theorem ow_le_raw : OW0 (P.sem kl .le [.int i, .int j]) Q = Q (.bl (decide (i ≤ j))) := rfl
theorem ow_gt_raw : OW0 (P.sem kl .gt [.int i, .int j]) Q = Q (.bl (decide (j < i))) := rfl
theorem ow_ge_raw : OW0 (P.sem kl .ge [.int i, .int j]) Q = Q (.bl (decide (j ≤ i))) := rfl
theorem ow_eqI_raw : OW0 (P.sem kl .eq [.int i, .int j]) Q = Q (.bl (decide (i = j))) := rfl
theorem ow_neI_raw : OW0 (P.sem kl .ne [.int i, .int j]) Q = Q (.bl !(decide (i = j))) := rfl
theorem ow_eq_raw (x y : D) : OW0 (P.sem kl .eq [x, y]) Q = ((x.okEq = true ∧ y.okEq = true) ∧ Q (.bl (x.beq y))) := by
  show OW0 ((if x.okEq = true ∧ y.okEq = true then some (x.beq y) else none).map .bl) Q = _
  by_cases h : x.okEq = true ∧ y.okEq = true
  · rw [if_pos h]; exact propext ⟨fun q => ⟨h, q⟩, fun q => q.2⟩
  · rw [if_neg h]; exact propext ⟨fun q => q.elim, fun q => h q.1⟩
theorem ow_ne_raw (x y : D) : OW0 (P.sem kl .ne [x, y]) Q = ((x.okEq = true ∧ y.okEq = true) ∧ Q (.bl !(x.beq y))) := by
  show OW0 ((if x.okEq = true ∧ y.okEq = true then some (x.beq y) else none).map fun b => .bl !b) Q = _
  by_cases h : x.okEq = true ∧ y.okEq = true
  · rw [if_pos h]; exact propext ⟨fun q => ⟨h, q⟩, fun q => q.2⟩
  · rw [if_neg h]; exact propext ⟨fun q => q.elim, fun q => h q.1⟩
theorem ow_isN_raw (d : D) : OW0 (P.sem kl .isN [d]) Q = Q (.bl (match d with | .non => true | _ => false)) := by cases d <;> rfl
theorem ow_notN_raw (d : D) : OW0 (P.sem kl .notN [d]) Q = Q (.bl (match d with | .non => false | _ => true)) := by cases d <;> rfl
theorem ow_isB_raw (a b : Bool) : OW0 (P.sem kl .isB [.bl a, .bl b]) Q = Q (.bl (decide (a = b) == true)) := rfl
theorem ow_notB_raw (a b : Bool) : OW0 (P.sem kl .notB [.bl a, .bl b]) Q = Q (.bl (decide (a = b) == false)) := rfl
theorem ow_neg_raw : OW0 (P.sem kl .neg [.int i]) Q = Q (.int (-i)) := rfl
theorem ow_not_raw (b : Bool) : OW0 (P.sem kl .not [.bl b]) Q = Q (.bl !b) := rfl
theorem ow_tup_raw (ds : List D) : OW0 (P.sem kl .mkTup ds) Q = (ds.length ≤ sizeLine ∧ Q (.tup ds)) := by
  show OW0 (if ds.length ≤ sizeLine then _ else _) Q = _
  by_cases h : ds.length ≤ sizeLine <;> simp [h, OW0]
theorem ow_lst_raw (ds : List D) : OW0 (P.sem kl .mkLst ds) Q = (ds.length ≤ sizeLine ∧ Q (.lst ds)) := by
  show OW0 (if ds.length ≤ sizeLine then _ else _) Q = _
  by_cases h : ds.length ≤ sizeLine <;> simp [h, OW0]
theorem ow_dct_raw : OW0 (P.sem kl (.mkDct []) []) Q = Q (.dct []) := rfl
theorem ow_tup2_raw (a b : D) : OW0 (P.sem kl .mkTup [a, b]) Q = Q (.tup [a, b]) := rfl
theorem ow_ix_raw (x y : D) : OW0 (P.sem kl .ix [x, y]) Q = OW0 (semIx x y) Q := rfl
theorem ow_abs_raw : OW0 (P.sem kl .abs [.int i]) Q = Q (.int (i.natAbs : Int)) := by
  show Q (.int (if i < 0 then -i else i)) = _
  congr 2
  split <;> omega
theorem ow_lenT_raw (xs : List D) : OW0 (P.sem kl .len [.tup xs]) Q = Q (.int xs.length) := rfl
theorem ow_lenL_raw (xs : List D) : OW0 (P.sem kl .len [.lst xs]) Q = Q (.int xs.length) := rfl
theorem ow_lenF_raw (xs : List D) : OW0 (P.sem kl .len [.frz xs]) Q = Q (.int xs.length) := rfl
theorem ow_min_raw : OW0 (P.sem kl .min2 [.int i, .int j]) Q = Q (.int (min i j)) := by
  show Q (.int (if j < i then j else i)) = _
  congr 2
  split <;> omega
theorem ow_max_raw : OW0 (P.sem kl .max2 [.int i, .int j]) Q = Q (.int (max i j)) := by
  show Q (.int (if j > i then j else i)) = _
  congr 2
  split <;> omega
theorem ow_toInt_raw : OW0 (P.sem kl .toInt [.int i]) Q = Q (.int i) := rfl
theorem ow_toIntB_raw (b : Bool) : OW0 (P.sem kl .toInt [.bl b]) Q = Q (.int (if b then 1 else 0)) := rfl
theorem ow_addL_raw (xs ys : List D) : OW0 (P.sem kl .add [.lst xs, .lst ys]) Q = (xs.length + ys.length ≤ sizeLine ∧ Q (.lst (xs ++ ys))) := by
  show OW0 (if xs.length + ys.length ≤ sizeLine then _ else _) Q = _
  by_cases h : xs.length + ys.length ≤ sizeLine <;> simp [h, OW0]
end

/-! ### sizes of whole numbers -/
def Sm (n : Nat) (x : Int) : Prop := x.natAbs < 2 ^ n
theorem Sm.mono {n m : Nat} {x : Int} (h : n ≤ m) (q : Sm n x) : Sm m x := Nat.lt_of_lt_of_le q (Nat.pow_le_pow_right (by omega) h)
theorem Sm.bits {n : Nat} {x : Int} (h : Sm n x) : Builtin.Int.intBits x ≤ n := by
  unfold Builtin.Int.intBits
  by_cases h0 : x = 0
  · simp [h0]
  · have e : (x == 0) = false := by simpa using h0
    rw [e]
    have h1 : x.natAbs ≠ 0 := by omega
    have := (Nat.log2_lt h1).2 h
    simp only [Bool.false_eq_true, if_false]
    omega
theorem Sm.mul {n m : Nat} {x y : Int} (h : Sm n x) (q : Sm m y) : Sm (n + m) (x * y) := by
  unfold Sm at *
  rw [Int.natAbs_mul, Nat.pow_add]
  exact Nat.mul_lt_mul'' h q
theorem Sm.add {n m : Nat} {x y : Int} (h : Sm n x) (q : Sm m y) : Sm (max n m + 1) (x + y) := by
  have h := h.mono (Nat.le_max_left n m)
  have q := q.mono (Nat.le_max_right n m)
  unfold Sm at *
  rw [Nat.pow_succ]
  omega
theorem Sm.sub {n m : Nat} {x y : Int} (h : Sm n x) (q : Sm m y) : Sm (max n m + 1) (x - y) := by
  have h := h.mono (Nat.le_max_left n m)
  have q := q.mono (Nat.le_max_right n m)
  unfold Sm at *
  rw [Nat.pow_succ]
  omega
theorem Sm.neg {n : Nat} {x : Int} (h : Sm n x) : Sm n (-x) := by
  unfold Sm at *; omega
theorem Sm.abs {n : Nat} {x : Int} (h : Sm n x) : Sm n (x.natAbs : Int) := by
  unfold Sm at *; omega
theorem Sm.two {k : Nat} : Sm (k + 1) (2 ^ k) := by
  unfold Sm
  rw [Int.natAbs_pow]
  show 2 ^ k < 2 ^ (k + 1)
  rw [Nat.pow_succ]
  have : 0 < 2 ^ k := Nat.pow_pos (by omega)
  omega
theorem Sm.fdiv {n : Nat} {x y : Int} (h : Sm n x) : Sm n (x.fdiv y) := by
  unfold Sm at *
  have := Int.natAbs_fdiv_le_natAbs x y
  omega
theorem Sm.le {n : Nat} {x y : Int} (h : Sm n x) (q : y.natAbs ≤ x.natAbs) : Sm n y := by unfold Sm at *; omega
theorem Sm.of {n : Nat} {x : Int} (h : x.natAbs < 2 ^ n) : Sm n x := h
theorem mulOk_of {n m : Nat} {x y : Int} (h : Sm n x) (q : Sm m y) (hl : n + m ≤ 134217728 := by decide) : mulOk x y = true := by
  have := h.bits
  have := q.bits
  unfold mulOk
  rw [Bool.or_eq_true]
  exact .inl (decide_eq_true (by omega))
theorem mulOk_l {x y : Int} (h : -(2 ^ 64) < x ∧ x < 2 ^ 64) : mulOk x y = true := by
  unfold mulOk
  rw [Bool.or_eq_true, Bool.or_eq_true]
  exact .inr (.inl (decide_eq_true h))
theorem mulOk_r {x y : Int} (h : -(2 ^ 64) < y ∧ y < 2 ^ 64) : mulOk x y = true := by
  unfold mulOk
  rw [Bool.or_eq_true, Bool.or_eq_true]
  exact .inr (.inr (decide_eq_true h))
theorem divOk_of {n : Nat} {x y : Int} (h : Sm n y) (h0 : y ≠ 0) (hn : n ≤ 9000 := by decide) : divOk x y = true := by
  unfold divOk
  rw [Bool.and_eq_true]
  refine ⟨decide_eq_true h0, ?_⟩
  unfold Builtin.divisionGoesByPylong
  have h1 : y.natAbs ≠ 0 := by omega
  have := (Nat.log2_lt h1).2 h
  have e : (y == 0) = false := by simpa using h0
  simp only [e, Bool.false_eq_true, if_false]
  have : ¬ (y.natAbs.log2 / 30 + 1 > 300) := by omega
  simp [this]
theorem shlOk_of {n : Nat} {x j : Int} (h : Sm n x) (h0 : 0 ≤ j) (hl : (n : Int) + j ≤ 134217728 := by omega) : shlOk x j = true := by
  have := h.bits
  unfold shlOk
  rw [Bool.and_eq_true]
  exact ⟨decide_eq_true h0, decide_eq_true (by omega)⟩
/-! ### helps of the rules' list -/
section
variable {rd : List Nat} {ρ : List Sl} {kl : Kl} {Q : D → Prop}
theorem after_int (i : Int) : after rd (.int i) ρ = ρ := rfl
theorem after_bl (b : Bool) : after rd (.bl b) ρ = ρ := rfl
theorem after_non : after rd .non ρ = ρ := rfl
theorem after_str (s : Str) : after rd (.str s) ρ = ρ := rfl
theorem after_fr (i j : Int) : after rd (.tup [.int i, .int j]) ρ = ρ := rfl
theorem ow_ix0_raw (x : D) (xs : List D) : OW0 (P.sem kl .ix [.tup (x :: xs), .int 0]) Q = Q x := by
  show OW0 (match place (xs.length + 1) 0 with | some k => (x :: xs)[k]? | none => none) Q = _
  have : place (xs.length + 1) 0 = some 0 := by
    unfold place
    rw [if_pos (by omega), if_pos (by omega)]; rfl
  rw [this]; rfl
theorem ow_ix1_raw (x y : D) (xs : List D) : OW0 (P.sem kl .ix [.tup (x :: y :: xs), .int 1]) Q = Q y := by
  show OW0 (match place (xs.length + 1 + 1) 1 with | some k => (x :: y :: xs)[k]? | none => none) Q = _
  have : place (xs.length + 1 + 1) 1 = some 1 := by
    unfold place
    rw [if_pos (by omega), if_pos (by omega)]; rfl
  rw [this]; rfl
end
/-! ### the law's drawing state -/
section
variable {kl : Kl} {cl : Cal} {rd : List Nat} {ρ : List Sl} {g : G} {Q : D × G → Prop} {X : Nat → List (Str × D) → G → Prop}
theorem we_hgetix_raw (e : E) (key : Str) (j : Nat) : (evE kl cl rd (.hgetix e key j) ρ g).W0 Q X = (evE kl cl rd e ρ g).W0 (fun x => match x.1 with
    | .hnd k => match oget x.2 k key with
      | some f => OW0 (seen rd ρ j) fun i => OW0 (semIx f.asD i) fun z => Q (z, x.2)
      | none => False
    | _ => False) X := by
  conv => lhs; unfold evE
  rw [W_bind_raw]
  congr 1
  funext x
  cases x.1 with
  | hnd k =>
    dsimp only
    cases oget x.2 k key with
    | none => rfl
    | some f =>
      dsimp only
      cases seen rd ρ j with
      | none => rfl
      | some i =>
        dsimp only
        show _ = OW0 (semIx f.asD i) _
        cases semIx f.asD i <;> rfl
  | _ => rfl
theorem we_hnewL_raw (k1 k2 k3 : Str) (e1 e2 : E) (d3 : D) (hn : nodupS [k1, k2, k3] = true) (h3 : d3.imm = true) : (evE kl cl rd (.hnewL k1 k2 k3 e1 e2 d3) ρ g).W0 Q X = (evE kl cl rd e1 ρ g).W0 (fun x => (evE kl cl rd e2 ρ x.2).W0 (fun y => match y.1 with
        | .lst ys => x.1.imm = true ∧ D.immAll ys = true ∧ Q (.hnd y.2.length, y.2 ++ [[(k1, .imm x.1), (k2, .own ys), (k3, .imm d3)]])
        | _ => False) X) X := by
  conv => lhs; unfold evE
  rw [if_pos hn, W_bind_raw]
  congr 1
  funext x
  rw [W_bind_raw]
  congr 1
  funext y
  cases y.1 with
  | lst ys =>
    dsimp only
    by_cases h : x.1.imm = true ∧ D.immAll ys = true
    · rw [if_pos ⟨h.1, h.2, h3⟩]; exact propext ⟨fun q => ⟨h.1, h.2, q⟩, fun q => q.2.2⟩
    · rw [if_neg fun q => h ⟨q.1, q.2.1⟩]; exact propext ⟨fun q => q.elim, fun q => h ⟨q.1, q.2.1⟩⟩
  | _ => rfl
end
section
variable {kl : Kl} {cl : Cal} {w : Nat} {ρ : List Sl} {g : G} {N : List Sl → G → Prop} {T : D → G → Prop} {B C : List Sl → G → Prop} {X : Nat → List (Str × D) → List Sl → G → Prop}
theorem ws_hsetix_raw (e : E) (key : Str) (j : Nat) (v : E) : (evS kl cl w (.hsetix e key j v) ρ g).W0 N T B C X = (evE kl cl [] v ρ g).W0 (fun x => (evE kl cl [] e ρ x.2).W0 (fun y => match y.1 with
      | .hnd k => match oget y.2 k key, seen [] ρ j with
        | some (.own ds), some (.int n) => match place ds.length n with
            | some m => x.1.imm = true ∧ N ρ (oput y.2 k key (.own (ds.set m x.1)))
            | none => False
        | _, _ => False
      | _ => False) (fun c fs g => X c fs ρ g)) (fun c fs g => X c fs ρ g) := by
  conv => lhs; unfold evS
  rw [S_ofR_raw]
  congr 1
  funext x
  rw [S_ofR_raw]
  congr 1
  funext y
  cases y.1 with
  | hnd k =>
    dsimp only
    cases oget y.2 k key with
    | none => rfl
    | some f =>
      cases f with
      | imm _ => rfl
      | own ds =>
        cases seen [] ρ j with
        | none => rfl
        | some d =>
          cases d <;> first | rfl | skip
          rename_i n
          dsimp only
          cases place ds.length n with
          | none => rfl
          | some m =>
            dsimp only
            by_cases h : x.1.imm = true
            · rw [if_pos h]; exact propext ⟨fun q => ⟨h, q⟩, fun q => q.2⟩
            · rw [if_neg h]; exact propext ⟨fun q => q.elim, fun q => h q.1⟩
  | _ => rfl
end
/-- the state as an ambient object -/
def stG (ns : List Int) (ls : List D) (k : Int) : G := [[("cells", .imm (.frz (ns.map .int))), ("left", .own ls), ("at", .imm (.int k))]]
section
variable {ns : List Int} {ls ls' : List D} {k k' : Int}
theorem og_cells : oget (stG ns ls k) 0 "cells" = some (.imm (.frz (ns.map .int))) := rfl
theorem og_left : oget (stG ns ls k) 0 "left" = some (.own ls) := rfl
theorem og_at : oget (stG ns ls k) 0 "at" = some (.imm (.int k)) := rfl
theorem op_at : oput (stG ns ls k) 0 "at" (.imm (.int k')) = stG ns ls k' := rfl
theorem op_left : oput (stG ns ls k) 0 "left" (.own ls') = stG ns ls' k := rfl
end
structure St (ns : List Int) (g : G) : Prop where
  ex : ∃ (k : Int) (ls : List D), g = stG ns ls k ∧ 0 ≤ k ∧ ls.length = ns.length ∧ ∀ d ∈ ls, ∃ i : Int, d = .int i ∧ 0 ≤ i
theorem place_mod {n : Nat} {k : Int} (hk : 0 ≤ k) (hn : 0 < n) : place n (k % (n : Int)) = some (k % (n : Int)).toNat := by
  have := Int.emod_nonneg k (show (n : Int) ≠ 0 by omega)
  have := Int.emod_lt_of_pos k (show (0 : Int) < n by omega)
  unfold place
  rw [if_pos (by omega), if_pos (by omega)]
theorem W_int_raw {r : R (D × G)} {P : Int → G → Prop} (h : r.W0 (fun a => ∃ v g', a = (.int v, g') ∧ P v g') noX) : ∃ v g', r = .ok (.int v, g') ∧ P v g' := by
  obtain ⟨a, e, v, g', h1, h2⟩ := W_ex_raw h
  exact ⟨v, g', h1 ▸ e, h2⟩
theorem okEq_ints (ns : List Int) : (D.frz (ns.map .int)).okEq = true := by
  have h1 : ∀ ns : List Int, D.plainAll (ns.map .int) = true := by
    intro ns
    induction ns with
    | nil => rfl
    | cons i r ih => show (true && D.plainAll (r.map .int)) = true; rw [ih]; rfl
  have h2 : ∀ ns : List Int, D.dpAll (ns.map .int) = 0 := by
    intro ns
    induction ns with
    | nil => rfl
    | cons i r ih => show max 0 (D.dpAll (r.map .int)) = 0; rw [ih]; rfl
  show (D.plainAll (ns.map .int) && decide (D.dpAll (ns.map .int) + 1 ≤ 64)) = true
  rw [h1, h2]; rfl
theorem beq_cells (ns : List Int) : (D.frz (ns.map .int)).beq (.lst []) = decide (ns = []) := by
  cases ns <;> rfl
theorem imm_ints (ns : List Int) : (D.frz (ns.map .int)).imm = true := by
  show D.immAll (ns.map .int) = true
  induction ns with
  | nil => rfl
  | cons i r ih => show (true && D.immAll (r.map .int)) = true; rw [ih]; rfl
theorem immAll_of {ls : List D} (h : ∀ d ∈ ls, ∃ i : Int, d = .int i ∧ 0 ≤ i) : D.immAll ls = true := by
  induction ls with
  | nil => rfl
  | cons d r ih =>
    obtain ⟨i, rfl, _⟩ := h _ (.head _)
    show (true && D.immAll r) = true
    rw [ih fun d hd => h d (.tail _ hd)]; rfl
theorem SR_W_join_raw {s : SR} {N J : List Sl → G → Prop} {T : D → G → Prop} {B C : List Sl → G → Prop} {X : Nat → List (Str × D) → List Sl → G → Prop} (h : s.W0 J T B C X) (q : ∀ ρ g, J ρ g → N ρ g) : s.W0 N T B C X := by
  cases s <;> first | exact q _ _ h | exact h
section
variable {rd : List Nat} {ρ : List Sl} {d : D} {i : Nat}
theorem frz_go : freeze rd ρ = freeze.go rd 0 ρ := rfl
theorem frz_nil : freeze.go rd i [] = [] := rfl
theorem frz_val : freeze.go rd i (.val d :: ρ) = .val d :: freeze.go rd (i + 1) ρ := rfl
theorem frz_un : freeze.go rd i (.un :: ρ) = .un :: freeze.go rd (i + 1) ρ := rfl
theorem after_id (h : freeze rd ρ = ρ) : after rd d ρ = ρ := by
  unfold after; rw [h]; split <;> rfl
theorem after_lst (xs : List D) : after rd (.lst xs) ρ = freeze rd ρ := rfl
/-- no lists of its own -/
def noOwn : List Sl → Bool
  | [] => true
  | .own _ :: _ => false
  | _ :: r => noOwn r
theorem frz_noOwn : ∀ {ρ : List Sl} {i : Nat}, noOwn ρ = true → freeze.go rd i ρ = ρ
  | [], _, _ => rfl
  | .own _ :: _, _, h => nomatch h
  | .val d :: r, i, h => by show Sl.val d :: freeze.go rd (i + 1) r = _; rw [frz_noOwn (ρ := r) h]
  | .un :: r, i, h => by show Sl.un :: freeze.go rd (i + 1) r = _; rw [frz_noOwn (ρ := r) h]
theorem frz_id (h : noOwn ρ = true) : freeze rd ρ = ρ := frz_noOwn h
def afterG (rd : List Nat) (d : D) (i : Nat) (ρ : List Sl) : List Sl := if d.imm = true then ρ else freeze.go rd i ρ
theorem after_G : after rd d ρ = afterG rd d 0 ρ := rfl
theorem afterG_nil : afterG rd d i [] = [] := by unfold afterG; split <;> rfl
theorem afterG_val {e : D} : afterG rd d i (.val e :: ρ) = .val e :: afterG rd d (i + 1) ρ := by unfold afterG; split <;> rfl
theorem afterG_un : afterG rd d i (.un :: ρ) = .un :: afterG rd d (i + 1) ρ := by unfold afterG; split <;> rfl
/-- a slot that holds a value or nothing -/
def sv : Option D → Sl
  | some d => .val d
  | none => .un
theorem frz_sv {o : Option D} : freeze.go rd i (sv o :: ρ) = sv o :: freeze.go rd (i + 1) ρ := by cases o <;> rfl
theorem afterG_sv {o : Option D} : afterG rd d i (sv o :: ρ) = sv o :: afterG rd d (i + 1) ρ := by cases o <;> (unfold afterG; split <;> rfl)
end
section
variable {Q R : D → Prop} {kl : Kl} {xs : List D} {i : Int}
theorem ix_all_raw (h0 : 0 ≤ i) (hl : i < (xs.length : Int)) (hp : ∀ x ∈ xs, R x) (h : ∀ x, R x → Q x) : OW0 (P.sem kl .ix [.lst xs, .int i]) Q := by
  show OW0 (match place xs.length i with | some k => xs[k]? | none => none) Q
  unfold place
  rw [if_pos h0, if_pos hl]
  dsimp only
  have hk : i.toNat < xs.length := by omega
  rw [List.getElem?_eq_getElem hk]
  exact h _ (hp _ (List.getElem_mem hk))
theorem ix_at_raw (h0 : 0 ≤ i) {k : Nat} (hk : i = k) {x : D} (hx : xs[k]? = some x) (h : Q x) : OW0 (P.sem kl .ix [.lst xs, .int i]) Q := by
  subst hk
  show OW0 (match place xs.length (k : Int) with | some k => xs[k]? | none => none) Q
  have hl : k < xs.length := by
    rcases Nat.lt_or_ge k xs.length with h | h
    · exact h
    · rw [List.getElem?_eq_none h] at hx; cases hx
  unfold place
  rw [if_pos h0, if_pos (by omega)]
  dsimp only
  rw [Int.toNat_natCast, hx]
  exact h
end
theorem fdiv_lit (x : Int) (n : Nat) [OfNat Int n] (h : (OfNat.ofNat n : Int) = (n : Int) := by rfl) : x.fdiv (OfNat.ofNat n) = x / OfNat.ofNat n := by
  rw [h]; exact Int.fdiv_eq_ediv_of_nonneg _ (by omega)
/-! ### stops: what stands behind is not looked into by simp -/
section
variable {α : Type}
end
section
variable {kl : Kl} {cl : Cal} {w : Nat} {ρ : List Sl} {g : G} {N : List Sl → G → Prop} {T : D → G → Prop} {B C : List Sl → G → Prop} {X : Nat → List (Str × D) → List Sl → G → Prop}
end
/-! ### own lists -/
def ownW (o : Option Sl) (F : List D → Prop) : Prop := match o with | some (.own ds) => F ds | _ => False
section
variable {kl : Kl} {cl : Cal} {w : Nat} {ρ : List Sl} {g : G} {N : List Sl → G → Prop} {T : D → G → Prop} {B C : List Sl → G → Prop} {X : Nat → List (Str × D) → List Sl → G → Prop}
def lstW (d : D) (F : List D → Prop) : Prop := match d with | .lst ds => F ds | _ => False
theorem ws_own_comp_raw (i : Nat) (rd : List Nat) (k : Ik) (es : Es) (tg : Tg) (c e : E) : (evS kl cl w (.own i rd (.comp k es tg c e)) ρ g).W0 N T B C X = (i < ρ.length ∧ (evE kl cl rd (.comp k es tg c e) ρ g).W0 (fun q => lstW q.1 fun ds => N ((if D.immAll ds = true then ρ else freeze rd ρ).set i (.own ds)) q.2) (fun c fs g => X c fs ρ g)) := by
  rw [ws_own_raw i rd _ rfl]
  congr 1
theorem ws_own_lst_raw (i : Nat) (rd : List Nat) (es : Es) : (evS kl cl w (.own i rd (.prim .mkLst es)) ρ g).W0 N T B C X = (i < ρ.length ∧ (evE kl cl rd (.prim .mkLst es) ρ g).W0 (fun q => lstW q.1 fun ds => N ((if D.immAll ds = true then ρ else freeze rd ρ).set i (.own ds)) q.2) (fun c fs g => X c fs ρ g)) := by
  rw [ws_own_raw i rd _ rfl]
  congr 1
theorem ws_app_raw (i : Nat) (rd : List Nat) (e : E) : (evS kl cl w (.app i rd e) ρ g).W0 N T B C X = ownW ρ[i]? fun _ => (evE kl cl rd e ρ g).W0 (fun q => ownW (after rd q.1 ρ)[i]? fun ds => ds.length < sizeLine ∧ N ((after rd q.1 ρ).set i (.own (ds ++ [q.1]))) q.2) (fun c fs g => X c fs ρ g) := by
  unfold evS ownW
  cases ρ[i]? with
  | none => rfl
  | some s =>
    cases s with
    | un => rfl
    | val _ => rfl
    | own ds0 =>
      dsimp only
      rw [S_ofR_raw]
      congr 1
      funext q
      cases (after rd q.1 ρ)[i]? with
      | none => rfl
      | some s =>
        cases s with
        | un => rfl
        | val _ => rfl
        | own ds =>
          dsimp only
          by_cases h : ds.length < sizeLine
          · rw [if_pos h]; exact propext ⟨fun q => ⟨h, q⟩, fun q => q.2⟩
          · rw [if_neg h]; exact propext ⟨fun q => q.elim, fun q => h q.1⟩
end
section
variable {rd : List Nat} {ρ : List Sl} {i : Nat}
theorem frz_own (ds : List D) : freeze.go rd i (.own ds :: ρ) = (if rd.contains i then .val (.lst ds) else .own ds) :: freeze.go rd (i + 1) ρ := rfl
theorem afterG_int (x : Int) : afterG rd (.int x) i ρ = ρ := rfl
theorem afterG_bl (x : Bool) : afterG rd (.bl x) i ρ = ρ := rfl
theorem afterG_hnd (x : Nat) : afterG rd (.hnd x) i ρ = ρ := rfl
theorem afterG_fr (x y : Int) : afterG rd (.tup [.int x, .int y]) i ρ = ρ := rfl
end
section
variable {kl : Kl} {Q : D → Prop}
theorem ow_slo_raw (xs : List D) (i : Int) : OW0 (P.sem kl .slo [.lst xs, .int i]) Q = Q (.lst (cutD xs (some i) none)) := rfl
theorem ow_sloT_raw (xs : List D) (i : Int) : OW0 (P.sem kl .slo [.tup xs, .int i]) Q = Q (.tup (cutD xs (some i) none)) := rfl
theorem ow_shiL_raw (xs : List D) (i : Int) : OW0 (P.sem kl .shi [.lst xs, .int i]) Q = Q (.lst (cutD xs none (some i))) := rfl
theorem ow_shiT_raw (xs : List D) (i : Int) : OW0 (P.sem kl .shi [.tup xs, .int i]) Q = Q (.tup (cutD xs none (some i))) := rfl
theorem ow_slbL_raw (xs : List D) (i j : Int) : OW0 (P.sem kl .slb [.lst xs, .int i, .int j]) Q = Q (.lst (cutD xs (some i) (some j))) := rfl
theorem ow_slbT_raw (xs : List D) (i j : Int) : OW0 (P.sem kl .slb [.tup xs, .int i, .int j]) Q = Q (.tup (cutD xs (some i) (some j))) := rfl
theorem ow_toLstL_raw (xs : List D) : OW0 (P.sem kl .toLst [.lst xs]) Q = Q (.lst xs) := rfl
theorem ow_toLstT_raw (xs : List D) : OW0 (P.sem kl .toLst [.tup xs]) Q = Q (.lst xs) := rfl
theorem ow_toTupL_raw (xs : List D) : OW0 (P.sem kl .toTup [.lst xs]) Q = Q (.tup xs) := rfl
theorem ow_toTupT_raw (xs : List D) : OW0 (P.sem kl .toTup [.tup xs]) Q = Q (.tup xs) := rfl
theorem ow_revL_raw (xs : List D) : OW0 (P.sem kl .revL [.lst xs]) Q = Q (.lst xs.reverse) := rfl
theorem ow_revLL_raw (xs : List D) : OW0 (P.sem kl .rev [.lst xs]) Q = Q (.lst xs.reverse) := rfl
theorem ow_revT_raw (xs : List D) : OW0 (P.sem kl .rev [.tup xs]) Q = Q (.tup xs.reverse) := rfl
theorem ow_maxL_raw (xs : List D) : OW0 (P.sem kl .maxL [.tup xs]) Q = OW0 (semMax1 (.tup xs)) Q := rfl
theorem ow_sumT_raw (xs : List D) : OW0 (P.sem kl .sum [.tup xs]) Q = OW0 ((isInts xs).map fun ns => D.int ns.sum) Q := rfl
theorem ow_sum_raw (xs : List D) : OW0 (P.sem kl .sum [.lst xs]) Q = OW0 ((isInts xs).map fun ns => D.int ns.sum) Q := rfl
theorem ow_any_raw (xs : List D) : OW0 (P.sem kl .any [.lst xs]) Q = OW0 ((isBls xs).map fun bs => D.bl (bs.any id)) Q := rfl
theorem ow_repr_raw (d : D) : OW0 (P.sem kl .repr_ [d]) Q = ((d.okEq = true ∧ d.py.showable = true ∧ d.py.shown.length ≤ sizeLine) ∧ Q (.str d.py.shown)) := by
  show OW0 (if d.okEq = true ∧ d.py.showable = true ∧ d.py.shown.length ≤ sizeLine then _ else _) Q = _
  by_cases h : d.okEq = true ∧ d.py.showable = true ∧ d.py.shown.length ≤ sizeLine
  · rw [if_pos h]; exact propext ⟨fun q => ⟨h, q⟩, fun q => q.2⟩
  · rw [if_neg h]; exact propext ⟨fun q => q.elim, fun q => h q.1⟩
theorem ow_addLL_raw (xs ys : List D) : OW0 (P.sem kl .addL [.lst xs, .lst ys]) Q = (xs.length + ys.length ≤ sizeLine ∧ Q (.lst (xs ++ ys))) := by
  show OW0 (if xs.length + ys.length ≤ sizeLine then _ else _) Q = _
  by_cases h : xs.length + ys.length ≤ sizeLine <;> simp [h, OW0]
theorem ow_addT_raw (xs ys : List D) : OW0 (P.sem kl .add [.tup xs, .tup ys]) Q = (xs.length + ys.length ≤ sizeLine ∧ Q (.tup (xs ++ ys))) := by
  show OW0 (if xs.length + ys.length ≤ sizeLine then _ else _) Q = _
  by_cases h : xs.length + ys.length ≤ sizeLine <;> simp [h, OW0]
theorem ow_mulL_raw (xs : List D) (k : Int) : OW0 (P.sem kl .mul [.lst xs, .int k]) Q = ((-(2 ^ 63) ≤ k ∧ k < 2 ^ 63 ∧ xs.length * k.toNat ≤ sizeLine) ∧ Q (.lst (List.replicate k.toNat xs).flatten)) := by
  show OW0 (if -(2 ^ 63) ≤ k ∧ k < 2 ^ 63 ∧ xs.length * k.toNat ≤ sizeLine then _ else _) Q = _
  by_cases h : -(2 ^ 63) ≤ k ∧ k < 2 ^ 63 ∧ xs.length * k.toNat ≤ sizeLine
  · rw [if_pos h]; exact propext ⟨fun q => ⟨h, q⟩, fun q => q.2⟩
  · rw [if_neg h]; exact propext ⟨fun q => q.elim, fun q => h q.1⟩
theorem ow_mulT_raw (xs : List D) (k : Int) : OW0 (P.sem kl .mul [.tup xs, .int k]) Q = ((xs ≠ [] ∧ 2 ≤ k ∧ k ≤ 1000 ∧ xs.length ≤ 1000) ∧ Q (.tup (List.replicate k.toNat xs).flatten)) := by
  show OW0 (if xs ≠ [] ∧ 2 ≤ k ∧ k ≤ 1000 ∧ xs.length ≤ 1000 then _ else _) Q = _
  by_cases h : xs ≠ [] ∧ 2 ≤ k ∧ k ≤ 1000 ∧ xs.length ≤ 1000
  · rw [if_pos h]; exact propext ⟨fun q => ⟨h, q⟩, fun q => q.2⟩
  · rw [if_neg h]; exact propext ⟨fun q => q.elim, fun q => h q.1⟩
theorem ow_ix2_raw (x y z : D) (xs : List D) : OW0 (P.sem kl .ix [.tup (x :: y :: z :: xs), .int 2]) Q = Q z := by
  show OW0 (match place (xs.length + 1 + 1 + 1) 2 with | some k => (x :: y :: z :: xs)[k]? | none => none) Q = _
  have : place (xs.length + 1 + 1 + 1) 2 = some 2 := by
    unfold place
    rw [if_pos (by omega), if_pos (by omega)]; rfl
  rw [this]; rfl
theorem ow_tup3_raw (a b c : D) : OW0 (P.sem kl .mkTup [a, b, c]) Q = Q (.tup [a, b, c]) := rfl
theorem ow_in_raw (x : D) (ys : List D) : OW0 (P.sem kl .in_ [x, .lst ys]) Q = ((x.okEq = true ∧ (D.lst ys).okEq = true) ∧ Q (.bl (inOf x ys))) := by
  show OW0 ((if x.okEq = true ∧ (D.lst ys).okEq = true then some (inOf x ys) else none).map .bl) Q = _
  by_cases h : x.okEq = true ∧ (D.lst ys).okEq = true
  · rw [if_pos h]; exact propext ⟨fun q => ⟨h, q⟩, fun q => q.2⟩
  · rw [if_neg h]; exact propext ⟨fun q => q.elim, fun q => h q.1⟩
theorem ow_notIn_raw (x : D) (ys : List D) : OW0 (P.sem kl .notIn [x, .lst ys]) Q = ((x.okEq = true ∧ (D.lst ys).okEq = true) ∧ Q (.bl !(inOf x ys))) := by
  show OW0 ((if x.okEq = true ∧ (D.lst ys).okEq = true then some (inOf x ys) else none).map fun b => .bl !b) Q = _
  by_cases h : x.okEq = true ∧ (D.lst ys).okEq = true
  · rw [if_pos h]; exact propext ⟨fun q => ⟨h, q⟩, fun q => q.2⟩
  · rw [if_neg h]; exact propext ⟨fun q => q.elim, fun q => h q.1⟩
theorem ow_inT_raw (x : D) (ys : List D) : OW0 (P.sem kl .in_ [x, .tup ys]) Q = ((x.flat = true ∧ flatAll ys = true) ∧ Q (.bl (inOf x ys))) := by
  show OW0 ((if x.flat = true ∧ flatAll ys = true then some (inOf x ys) else none).map .bl) Q = _
  by_cases h : x.flat = true ∧ flatAll ys = true
  · rw [if_pos h]; exact propext ⟨fun q => ⟨h, q⟩, fun q => q.2⟩
  · rw [if_neg h]; exact propext ⟨fun q => q.elim, fun q => h q.1⟩
theorem ow_notInT_raw (x : D) (ys : List D) : OW0 (P.sem kl .notIn [x, .tup ys]) Q = ((x.flat = true ∧ flatAll ys = true) ∧ Q (.bl !(inOf x ys))) := by
  show OW0 ((if x.flat = true ∧ flatAll ys = true then some (inOf x ys) else none).map fun b => .bl !b) Q = _
  by_cases h : x.flat = true ∧ flatAll ys = true
  · rw [if_pos h]; exact propext ⟨fun q => ⟨h, q⟩, fun q => q.2⟩
  · rw [if_neg h]; exact propext ⟨fun q => q.elim, fun q => h q.1⟩
theorem ow_inS_raw (c : Nat) (z : Str) : OW0 (P.sem kl .in_ [.str ⟨#[c]⟩, .str z]) Q = Q (.bl (decide (c ∈ z.cps.toList))) := rfl
theorem ow_notInS_raw (c : Nat) (z : Str) : OW0 (P.sem kl .notIn [.str ⟨#[c]⟩, .str z]) Q = Q (.bl !(decide (c ∈ z.cps.toList))) := rfl
theorem sem_tupRg {n : Nat} (h : n ≤ sizeLine) : semTupRg (.int n) = some (.tup ((List.range n).map fun (k : Nat) => D.int (k : Int))) := by
  unfold semTupRg
  dsimp only
  rw [Int.toNat_natCast]
  have h : n ≤ 2 ^ 24 := h
  rw [if_pos ⟨by omega, by omega, h⟩]
theorem sem_tupRg' {n : Nat} (h : ¬ n ≤ sizeLine) : semTupRg (.int n) = none := by
  unfold semTupRg
  dsimp only
  rw [Int.toNat_natCast]
  have h : ¬ n ≤ 2 ^ 24 := h
  rw [if_neg fun z => h z.2.2]
theorem ow_tupRg_raw (n : Nat) : OW0 (P.sem kl .tupRg [.int n]) Q = (n ≤ sizeLine ∧ Q (.tup ((List.range n).map fun (k : Nat) => D.int (k : Int)))) := by
  have e0 : ∀ ds, P.sem kl .tupRg ds = on1 semTupRg ds := fun ds => rfl
  have e1 : ∀ (f : D → Option D) (x : D), on1 f [x] = f x := fun f x => rfl
  rw [e0, e1]
  by_cases h : n ≤ sizeLine
  · rw [sem_tupRg h]; exact propext ⟨fun q => ⟨h, q⟩, fun q => q.2⟩
  · rw [sem_tupRg' h]; exact propext ⟨fun q => q.elim, fun q => h q.1⟩
theorem ow_lstRg_raw (n : Nat) : OW0 (P.sem kl .lstRg [.int n]) Q = (n ≤ sizeLine ∧ Q (.lst ((List.range n).map fun (k : Nat) => D.int (k : Int)))) := by
  have e0 : ∀ ds, P.sem kl .lstRg ds = on1 semLstRg ds := fun ds => rfl
  have e1 : ∀ (f : D → Option D) (x : D), on1 f [x] = f x := fun f x => rfl
  have e2 : ∀ d, semLstRg d = match semTupRg d with | some (.tup xs) => some (.lst xs) | _ => none := fun d => rfl
  rw [e0, e1, e2]
  by_cases h : n ≤ sizeLine
  · rw [sem_tupRg h]; exact propext ⟨fun q => ⟨h, q⟩, fun q => q.2⟩
  · rw [sem_tupRg' h]; exact propext ⟨fun q => q.elim, fun q => h q.1⟩
theorem ow_str_raw (n : Int) : OW0 (P.sem kl .str_ [.int n]) Q = (n.natAbs.log2 < 1920 ∧ Q (.str (Str.ofString (toString n)))) := by
  show OW0 (if n.natAbs.log2 < 1920 then some (.str (Str.ofString (toString n))) else none) Q = _
  by_cases h : n.natAbs.log2 < 1920
  · rw [if_pos h]; exact propext ⟨fun q => ⟨h, q⟩, fun q => q.2⟩
  · rw [if_neg h]; exact propext ⟨fun q => q.elim, fun q => h q.1⟩
theorem ow_all_raw (xs : List D) : OW0 (P.sem kl .all [.lst xs]) Q = OW0 ((isBls xs).map fun bs => D.bl (bs.all id)) Q := rfl
theorem ow_isBt_raw (b : Bool) : OW0 (P.sem kl .isB [.bl b, .bl true]) Q = Q (.bl b) := by cases b <;> rfl
theorem ow_isBf_raw (b : Bool) : OW0 (P.sem kl .isB [.bl b, .bl false]) Q = Q (.bl !b) := by cases b <;> rfl
theorem ow_notBt_raw (b : Bool) : OW0 (P.sem kl .notB [.bl b, .bl true]) Q = Q (.bl !b) := by cases b <;> rfl
theorem ow_notBf_raw (b : Bool) : OW0 (P.sem kl .notB [.bl b, .bl false]) Q = Q (.bl b) := by cases b <;> rfl
end
theorem cut_from (xs : List D) (k : Nat) : cutD xs (some (k : Int)) none = xs.drop k := by
  unfold cutD
  rw [HT.sIx_nat, HT.sIx_none]
  by_cases h : k ≤ xs.length
  · rw [Nat.min_eq_left h, List.take_of_length_le (by rw [List.length_drop]; omega)]
  · rw [Nat.min_eq_right (by omega), Nat.sub_self, List.take_zero, List.drop_of_length_le (by omega)]
theorem cut_to (xs : List D) (k : Nat) : cutD xs none (some (k : Int)) = xs.take k := by
  unfold cutD
  rw [HT.sIx_nat, HT.sIx_none, List.drop_zero, Nat.sub_zero]
  by_cases h : k ≤ xs.length
  · rw [Nat.min_eq_left h]
  · rw [Nat.min_eq_right (by omega), List.take_length, List.take_of_length_le (by omega)]
theorem sIx_m1 (n d : Nat) : HT.sIx n d (some (-1)) = n - 1 := by
  have : HT.sIx n d (some (-1)) = ((-1 : Int) + (n : Int)).toNat := by
    show (if (-1 : Int) < 0 then ((-1 : Int) + (n : Int)).toNat else min (-1 : Int).toNat n) = _
    rw [if_pos (show (-1 : Int) < 0 by decide)]
  rw [this]; omega
theorem cut_mid (xs : List D) (a b : Nat) : cutD xs (some (a : Int)) (some (b : Int)) = (xs.drop a).take (b - a) := by
  unfold cutD
  rw [HT.sIx_nat, HT.sIx_nat]
  rcases Nat.le_total a xs.length with ha | ha
  · rw [Nat.min_eq_left ha]
    rcases Nat.le_total b xs.length with hb | hb
    · rw [Nat.min_eq_left hb]
    · rw [Nat.min_eq_right hb, List.take_of_length_le (by rw [List.length_drop]; exact Nat.le_refl _), List.take_of_length_le (by rw [List.length_drop]; omega)]
  · rw [Nat.min_eq_right ha, List.drop_of_length_le (Nat.le_refl _), List.drop_of_length_le ha, List.take_nil, List.take_nil]
theorem cut_last (xs : List D) : cutD xs none (some (-1)) = xs.dropLast := by
  unfold cutD
  rw [sIx_m1, HT.sIx_none, List.drop_zero, Nat.sub_zero, List.dropLast_eq_take]
theorem cut_end (xs : List D) (h : xs ≠ []) : cutD xs (some (-1)) none = [xs.getLast h] := by
  unfold cutD
  have hl : 0 < xs.length := List.length_pos_iff.2 h
  rw [sIx_m1, HT.sIx_none, List.drop_eq_getElem_cons (show xs.length - 1 < xs.length by omega), List.drop_of_length_le (show xs.length ≤ xs.length - 1 + 1 by omega), List.take_of_length_le (by rw [List.length_singleton]; omega), List.getLast_eq_getElem]
theorem cut1 (x : D) (xs : List D) : cutD (x :: xs) (some 1) none = xs := cut_from (x :: xs) 1
theorem rng_items (m : Nat) (h : m ≤ 1000000000) : Ik.items .rng [.int (m : Int)] = some ((List.range m).map fun (k : Nat) => D.int (k : Int)) := by
  have h1 : (m : Int) < 2 ^ 62 := by omega
  have h2 : -(2 ^ 62 : Int) ≤ (m : Int) := by omega
  simp only [Ik.items]
  rw [if_pos ⟨h1, h2⟩, Int.toNat_natCast]
def valW (o : Option Sl) (F : D → Prop) : Prop := match o with | some (.val d) => F d | _ => False
section
variable {kl : Kl} {cl : Cal} {w : Nat} {ρ : List Sl} {g : G} {N : List Sl → G → Prop} {T : D → G → Prop} {B C : List Sl → G → Prop} {X : Nat → List (Str × D) → List Sl → G → Prop}
theorem ws_augV_raw (i : Nat) (rd : List Nat) (e : E) : (evS kl cl w (.aug i rd e) ρ g).W0 N T B C X = valW ρ[i]? fun d0 => (evE kl cl rd e ρ g).W0 (fun q => OW0 (semAug d0 q.1) fun d => N ((after rd d ρ).set i (.val d)) q.2) (fun c fs g => X c fs ρ g) := by
  cases h : ρ[i]? with
  | none => unfold evS; rw [h]; rfl
  | some s =>
    cases s with
    | un => unfold evS; rw [h]; rfl
    | own _ => unfold evS; rw [h]; rfl
    | val d0 => rw [ws_aug_raw rd e h]; rfl
end
theorem augI_raw (i j : Int) {Q : D → Prop} : OW0 (semAug (.int i) (.int j)) Q = Q (.int (i + j)) := rfl
def fnW (d : D) (F : Nat → Prop) : Prop := match d with | .fn f => F f | _ => False
theorem we_callv_raw {kl : Kl} {cl : Cal} {rd : List Nat} {ρ : List Sl} {g : G} {Q : D × G → Prop} {X : Nat → List (Str × D) → G → Prop} (e : E) (es : Es) : (evE kl cl rd (.callv e es) ρ g).W0 Q X = (evE kl cl rd e ρ g).W0 (fun x => fnW x.1 fun f => (evEs kl cl rd es ρ x.2).W0 (fun q => (cl f q.1 q.2).W0 Q X) X) X := by
  conv => lhs; unfold evE
  rw [W_bind_raw]
  congr 1
  funext x
  cases x.1 with
  | fn f => dsimp only [fnW]; rw [W_bind_raw]
  | _ => rfl
def strW (d : D) (F : Str → Prop) : Prop := match d with | .str s => F s | _ => False
def parW (s : Option D) (F : Nat → Prop) (L : Bool → Prop) : Prop := match s with | some (.fn f) => F f | some (.lam b) => L b | _ => False
section
variable {kl : Kl} {cl : Cal} {rd : List Nat} {ρ : List Sl} {g : G} {Q : D × G → Prop} {X : Nat → List (Str × D) → G → Prop}
theorem we_lam_raw (b : Bool) : (evE kl cl rd (.lam b) ρ g).W0 Q X = Q (.lam b, g) := by
  unfold evE; rfl
theorem we_callp_raw (i : Nat) (fs : List Nat) (es : Es) : (evE kl cl rd (.callp i fs es) ρ g).W0 Q X = parW (seen rd ρ i) (fun f => fs.contains f = true ∧ (evEs kl cl rd es ρ g).W0 (fun q => (cl f q.1 q.2).W0 Q X) X) (fun b => (evEs kl cl rd es ρ g).W0 (fun q => q.1.length = 1 ∧ Q (.bl b, q.2)) X) := by
  conv => lhs; unfold evE
  cases seen rd ρ i with
  | none => rfl
  | some d =>
    cases d with
    | fn f =>
      dsimp only [parW]
      by_cases h : fs.contains f = true
      · rw [if_pos h, W_bind_raw]; exact propext ⟨fun q => ⟨h, q⟩, fun q => q.2⟩
      · rw [if_neg h]; exact propext ⟨fun q => q.elim, fun q => absurd q.1 h⟩
    | lam b =>
      dsimp only [parW]
      rw [W_bind_raw]
      congr 1
      funext q
      by_cases h : q.1.length = 1
      · rw [if_pos h]; exact propext ⟨fun z => ⟨h, z⟩, fun z => z.2⟩
      · rw [if_neg h]; exact propext ⟨fun z => z.elim, fun z => absurd z.1 h⟩
    | _ => rfl
theorem we_cget_raw (kvs : List (Str × D)) (e f : E) : (evE kl cl rd (.cget kvs e f) ρ g).W0 Q X = (evE kl cl rd e ρ g).W0 (fun x => (evE kl cl rd f ρ x.2).W0 (fun y => strW x.1 fun k => Q ((kvs.lookup k).getD y.1, y.2)) X) X := by
  conv => lhs; unfold evE
  rw [W_bind_raw]
  congr 1
  funext x
  rw [W_bind_raw]
  congr 1
  funext y
  cases x.1 <;> rfl
theorem we_cix_raw (kvs : List (Str × D)) (e : E) : (evE kl cl rd (.cix kvs e) ρ g).W0 Q X = (evE kl cl rd e ρ g).W0 (fun x => strW x.1 fun k => OW0 (kvs.lookup k) fun d => Q (d, x.2)) X := by
  conv => lhs; unfold evE
  rw [W_bind_raw]
  congr 1
  funext x
  cases x.1 <;> first | rfl | skip
  rename_i k
  show (match kvs.lookup k with | some d => R.ok (d, x.2) | none => R.bad).W0 Q X = OW0 (kvs.lookup k) fun d => Q (d, x.2)
  cases kvs.lookup k <;> rfl
theorem we_cin_raw (neg : Bool) (kvs : List (Str × D)) (e : E) : (evE kl cl rd (.cin neg kvs e) ρ g).W0 Q X = (evE kl cl rd e ρ g).W0 (fun x => strW x.1 fun k => Q (.bl ((kvs.lookup k).isSome != neg), x.2)) X := by
  conv => lhs; unfold evE
  rw [W_bind_raw]
  congr 1
  funext x
  cases x.1 <;> rfl
end
section
variable {kl : Kl} {Q R : D → Prop} {xs : List D} {i : Int}
theorem tix_at_raw {k : Nat} (h0 : 0 ≤ i) (hk : i = k) {x : D} (hx : xs[k]? = some x) (h : Q x) : OW0 (P.sem kl .ix [.tup xs, .int i]) Q := by
  subst hk
  show OW0 (match place xs.length (k : Int) with | some k => xs[k]? | none => none) Q
  have hl : k < xs.length := by
    rcases Nat.lt_or_ge k xs.length with h | h
    · exact h
    · rw [List.getElem?_eq_none h] at hx; cases hx
  unfold place
  rw [if_pos h0, if_pos (by omega)]
  dsimp only
  rw [Int.toNat_natCast, hx]
  exact h
theorem place_last (h : xs ≠ []) : place xs.length (-1) = some (xs.length - 1) := by
  have hl : 0 < xs.length := List.length_pos_iff.2 h
  unfold place
  rw [if_neg (by decide), if_pos (by omega)]
  congr 1
  omega
theorem tix_last_raw (hn : xs ≠ []) (h : Q (xs.getLast hn)) : OW0 (P.sem kl .ix [.tup xs, .int (-1)]) Q := by
  show OW0 (match place xs.length (-1) with | some k => xs[k]? | none => none) Q
  rw [place_last hn]
  dsimp only
  rw [List.getLast_eq_getElem] at h
  have hl : 0 < xs.length := List.length_pos_iff.2 hn
  rw [List.getElem?_eq_getElem (by omega)]
  exact h
theorem ix_last_raw (hn : xs ≠ []) (h : Q (xs.getLast hn)) : OW0 (P.sem kl .ix [.lst xs, .int (-1)]) Q := by
  show OW0 (match place xs.length (-1) with | some k => xs[k]? | none => none) Q
  rw [place_last hn]
  dsimp only
  rw [List.getLast_eq_getElem] at h
  have hl : 0 < xs.length := List.length_pos_iff.2 hn
  rw [List.getElem?_eq_getElem (by omega)]
  exact h
theorem tix_all_raw (h0 : 0 ≤ i) (hl : i < (xs.length : Int)) (hp : ∀ x ∈ xs, R x) (h : ∀ x, R x → Q x) : OW0 (P.sem kl .ix [.tup xs, .int i]) Q := by
  show OW0 (match place xs.length i with | some k => xs[k]? | none => none) Q
  unfold place
  rw [if_pos h0, if_pos hl]
  dsimp only
  have hk : i.toNat < xs.length := by omega
  rw [List.getElem?_eq_getElem hk]
  exact h _ (hp _ (List.getElem_mem hk))
end
section
variable {kl : Kl} {cl : Cal} {w : Nat} {ρ : List Sl} {g : G} {N : List Sl → G → Prop} {T : D → G → Prop} {B C : List Sl → G → Prop} {X : Nat → List (Str × D) → List Sl → G → Prop}
theorem ws_own_addL_raw (i : Nat) (rd : List Nat) (es : Es) : (evS kl cl w (.own i rd (.prim .addL es)) ρ g).W0 N T B C X = (i < ρ.length ∧ (evE kl cl rd (.prim .addL es) ρ g).W0 (fun q => lstW q.1 fun ds => N ((if D.immAll ds = true then ρ else freeze rd ρ).set i (.own ds)) q.2) (fun c fs g => X c fs ρ g)) := by
  rw [ws_own_raw i rd _ rfl]
  congr 1
theorem ws_own_toLst_raw (i : Nat) (rd : List Nat) (es : Es) : (evS kl cl w (.own i rd (.prim .toLst es)) ρ g).W0 N T B C X = (i < ρ.length ∧ (evE kl cl rd (.prim .toLst es) ρ g).W0 (fun q => lstW q.1 fun ds => N ((if D.immAll ds = true then ρ else freeze rd ρ).set i (.own ds)) q.2) (fun c fs g => X c fs ρ g)) := by
  rw [ws_own_raw i rd _ rfl]
  congr 1
def intW (d : D) (F : Int → Prop) : Prop := match d with | .int n => F n | _ => False
theorem ws_setix_raw (i : Nat) (rd : List Nat) (e1 e2 : E) : (evS kl cl w (.setix i rd e1 e2) ρ g).W0 N T B C X = ownW ρ[i]? fun ds => (evE kl cl rd e2 ρ g).W0 (fun q => (evE kl cl [] e1 ρ q.2).W0 (fun r => intW r.1 fun n => ∃ m, place ds.length n = some m ∧ q.1.imm = true ∧ N (ρ.set i (.own (ds.set m q.1))) r.2) (fun c fs g => X c fs ρ g)) (fun c fs g => X c fs ρ g) := by
  unfold evS ownW
  cases ρ[i]? with
  | none => rfl
  | some s =>
    cases s with
    | un => rfl
    | val _ => rfl
    | own ds =>
      dsimp only
      rw [S_ofR_raw]
      congr 1
      funext q
      rw [S_ofR_raw]
      congr 1
      funext r
      unfold intW
      cases r.1 with
      | int n =>
        dsimp only
        cases place ds.length n with
        | none => exact propext ⟨fun q => q.elim, fun ⟨m, h, _⟩ => by cases h⟩
        | some m =>
          dsimp only
          by_cases hi : q.1.imm = true
          · rw [if_pos hi]; exact propext ⟨fun z => ⟨m, rfl, hi, z⟩, fun ⟨m', h, _, z⟩ => by cases h; exact z⟩
          · rw [if_neg hi]; exact propext ⟨fun z => z.elim, fun ⟨_, _, h, _⟩ => absurd h hi⟩
      | _ => rfl
theorem ws_ownc_raw (i : Nat) (e : E) : (evS kl cl w (.ownc i e) ρ g).W0 N T B C X = (i < ρ.length ∧ (evE kl cl [] e (immSl ρ) g).W0 (fun q => lstW q.1 fun ds => D.immAll ds = true ∧ N (ρ.set i (.own ds)) q.2) (fun c fs g => X c fs ρ g)) := by
  unfold evS
  by_cases h : i < ρ.length
  · rw [if_pos h]
    have : (SR.ofR ρ (fun q => match q.1 with
      | .lst ds => if D.immAll ds = true then .nx (ρ.set i (.own ds)) q.2 else .bad
      | _ => .bad) (evE kl cl [] e (immSl ρ) g)).W0 N T B C X = (evE kl cl [] e (immSl ρ) g).W0 (fun q => lstW q.1 fun ds => D.immAll ds = true ∧ N (ρ.set i (.own ds)) q.2) (fun c fs g => X c fs ρ g) := by
      cases evE kl cl [] e (immSl ρ) g with
      | bad => rfl
      | exc c fs g' => rfl
      | ok p =>
        obtain ⟨d, g'⟩ := p
        cases d with
        | lst ds =>
          show (if D.immAll ds = true then SR.nx (ρ.set i (.own ds)) g' else .bad).W0 N T B C X = (D.immAll ds = true ∧ N (ρ.set i (.own ds)) g')
          by_cases hm : D.immAll ds = true
          · rw [if_pos hm]; exact propext ⟨fun z => ⟨hm, z⟩, fun z => z.2⟩
          · rw [if_neg hm]; exact propext ⟨fun z => z.elim, fun z => absurd z.1 hm⟩
        | _ => rfl
    exact this.trans (propext ⟨fun z => ⟨h, z⟩, fun z => z.2⟩)
  · rw [if_neg h]
    exact propext ⟨fun z => z.elim, fun z => absurd z.1 h⟩
theorem ws_par0_raw (i j : Nat) (rd : List Nat) (e : E) : (evS kl cl w (.par0 i j rd e) ρ g).W0 N T B C X = (i < ρ.length ∧ i ≠ j ∧ (evE kl cl rd e ρ g).W0 (fun q => N (((after rd q.1 ρ).set i (.own [])).set j (.val q.1)) q.2) (fun c fs g => X c fs ρ g)) := by
  unfold evS
  by_cases h : i < ρ.length ∧ i ≠ j
  · rw [if_pos h, S_ofR_raw]
    exact propext ⟨fun z => ⟨h.1, h.2, z⟩, fun z => z.2.2⟩
  · rw [if_neg h]
    exact propext ⟨fun z => z.elim, fun z => h ⟨z.1, z.2.1⟩⟩
theorem ws_clr_raw (i : Nat) : (evS kl cl w (.clr i) ρ g).W0 N T B C X = ownW ρ[i]? fun _ => N (ρ.set i (.own [])) g := by
  unfold evS ownW
  cases ρ[i]? with
  | none => rfl
  | some s =>
    cases s with
    | un => rfl
    | val _ => rfl
    | own ds => rfl
theorem ws_ins_raw (i : Nat) (rd : List Nat) (e1 e2 : E) : (evS kl cl w (.ins i rd (.cons e1 (.cons e2 .nil))) ρ g).W0 N T B C X = ownW ρ[i]? fun ds => (evE kl cl rd e1 ρ g).W0 (fun q => (evE kl cl rd e2 ρ q.2).W0 (fun r => intW q.1 fun n => (r.1.imm = true ∧ ds.length < sizeLine ∧ 0 ≤ n ∧ n < 2 ^ 63) ∧ N (ρ.set i (.own (ds.take n.toNat ++ [r.1] ++ ds.drop n.toNat))) r.2) (fun c fs g => X c fs ρ g)) (fun c fs g => X c fs ρ g) := by
  unfold evS ownW
  cases ρ[i]? with
  | none => rfl
  | some s =>
    cases s with
    | un => rfl
    | val _ => rfl
    | own ds =>
      dsimp only
      rw [S_ofR_raw, we_cons_raw]
      congr 1
      funext q
      rw [we_cons_raw]
      congr 1
      funext r
      rw [we_nil_raw]
      unfold intW
      cases q.1 with
      | int n =>
        dsimp only
        by_cases hi : r.1.imm = true ∧ ds.length < sizeLine ∧ 0 ≤ n ∧ n < 2 ^ 63
        · rw [if_pos hi]; exact propext ⟨fun z => ⟨hi, z⟩, fun z => z.2⟩
        · rw [if_neg hi]; exact propext ⟨fun z => z.elim, fun z => hi z.1⟩
      | _ => rfl
end
end Z

set_option Elab.async false
set_option linter.all false
set_option maxRecDepth 100000
namespace Z
open PySem

/-! the sealed ones -/
structure Wps where
  rw : ∀ {α : Type}, R α → (α → Prop) → (Nat → List (Str × D) → G → Prop) → Prop
  sw : SR → (List Sl → G → Prop) → (D → G → Prop) → (List Sl → G → Prop) → (List Sl → G → Prop) → (Nat → List (Str × D) → List Sl → G → Prop) → Prop
  ow : Option D → (D → Prop) → Prop
  bw : D → Prop → Prop → Prop
def wps0 : Wps := ⟨@R.W0, SR.W0, OW0, BW0⟩
theorem wps_ex : ∃ x : Wps, x = wps0 := ⟨_, rfl⟩
noncomputable def wps : Wps := Classical.choose wps_ex
theorem wps_eq : wps = wps0 := Classical.choose_spec wps_ex
noncomputable def R.W {α : Type} (r : R α) (Q : α → Prop) (X : Nat → List (Str × D) → G → Prop) : Prop := wps.rw r Q X
noncomputable def SR.W (s : SR) (N : List Sl → G → Prop) (T : D → G → Prop) (B C : List Sl → G → Prop) (X : Nat → List (Str × D) → List Sl → G → Prop) : Prop := wps.sw s N T B C X
noncomputable def OW (o : Option D) (Q : D → Prop) : Prop := wps.ow o Q
noncomputable def BW (d : D) (A B : Prop) : Prop := wps.bw d A B
theorem R_W_def {α : Type} (r : R α) (Q : α → Prop) (X : Nat → List (Str × D) → G → Prop) : r.W Q X = r.W0 Q X := by unfold R.W; rw [wps_eq]; rfl
theorem SR_W_def (s : SR) (N : List Sl → G → Prop) (T : D → G → Prop) (B C : List Sl → G → Prop) (X : Nat → List (Str × D) → List Sl → G → Prop) : s.W N T B C X = s.W0 N T B C X := by unfold SR.W; rw [wps_eq]; rfl
theorem OW_def (o : Option D) (Q : D → Prop) : OW o Q = OW0 o Q := by unfold OW; rw [wps_eq]; rfl
theorem BW_def (d : D) (A B : Prop) : BW d A B = BW0 d A B := by unfold BW; rw [wps_eq]; rfl
inductive Tok {α : Sort u} (a : α) : Type where
  | mk
noncomputable def Stop {α : Type} (r : R α) (Q : α → Prop) (X : Nat → List (Str × D) → G → Prop) (_ : Tok Q) (_ : Tok X) : Prop := wps.rw r Q X
noncomputable def OStop (o : Option D) (Q : D → Prop) (_ : Tok Q) : Prop := wps.ow o Q
noncomputable def SStop (s : SR) (N : List Sl → G → Prop) (T : D → G → Prop) (B C : List Sl → G → Prop) (X : Nat → List (Str × D) → List Sl → G → Prop) (_ : Tok N) (_ : Tok T) (_ : Tok B) (_ : Tok C) (_ : Tok X) : Prop := wps.sw s N T B C X
section
variable {α β : Type} {Q : α → Prop} {P : β → Prop} {X : Nat → List (Str × D) → G → Prop}
theorem W_ok (a : α) : (R.ok a).W Q X = Q a := by
  simp only [R_W_def, SR_W_def, OW_def, BW_def] at *
  first | exact W_ok_raw .. | (apply W_ok_raw <;> assumption)
theorem W_exc (c : Nat) (fs : List (Str × D)) (g : G) : (R.exc c fs g : R α).W Q X = X c fs g := by
  simp only [R_W_def, SR_W_def, OW_def, BW_def] at *
  first | exact W_exc_raw .. | (apply W_exc_raw <;> assumption)
theorem W_bad : (R.bad : R α).W Q X = False := by
  simp only [R_W_def, SR_W_def, OW_def, BW_def] at *
  first | exact W_bad_raw .. | (apply W_bad_raw <;> assumption)
theorem W_bind (r : R β) (f : β → R α) : (r.bind f).W Q X = r.W (fun a => (f a).W Q X) X := by
  simp only [R_W_def, SR_W_def, OW_def, BW_def] at *
  first | exact W_bind_raw .. | (apply W_bind_raw <;> assumption)
theorem W_noexc (r : R α) : r.noexc.W Q X = r.W Q noX := by
  simp only [R_W_def, SR_W_def, OW_def, BW_def] at *
  first | exact W_noexc_raw .. | (apply W_noexc_raw <;> assumption)
theorem W_mono {r : R α} {Q Q' : α → Prop} {X X' : Nat → List (Str × D) → G → Prop} (h : r.W Q X) (hq : ∀ a, Q a → Q' a) (hx : ∀ c fs g, X c fs g → X' c fs g) : r.W Q' X' := by
  simp only [R_W_def, SR_W_def, OW_def, BW_def] at *
  first | exact W_mono_raw .. | (apply W_mono_raw <;> assumption)
theorem W_eq {r : R α} {a : α} : r.W (fun b => b = a) noX ↔ r = .ok a := by
  simp only [R_W_def, SR_W_def, OW_def, BW_def] at *
  first | exact W_eq_raw .. | (apply W_eq_raw <;> assumption)
theorem W_of {r : R α} {a : α} (h : r = .ok a) (q : Q a) : r.W Q X := by
  simp only [R_W_def, SR_W_def, OW_def, BW_def] at *
  first | exact W_of_raw .. | (apply W_of_raw <;> assumption)
theorem W_ex {r : R α} (h : r.W Q noX) : ∃ a, r = .ok a ∧ Q a := by
  simp only [R_W_def, SR_W_def, OW_def, BW_def] at *
  first | exact W_ex_raw .. | (apply W_ex_raw <;> assumption)
theorem W_exc_eq {r : R α} {c : Nat} {fs : List (Str × D)} {g : G} : r.W (fun _ => False) (fun c' fs' g' => c' = c ∧ fs' = fs ∧ g' = g) ↔ r = .exc c fs g := by
  simp only [R_W_def, SR_W_def, OW_def, BW_def] at *
  first | exact W_exc_eq_raw .. | (apply W_exc_eq_raw <;> assumption)
end

section
variable {A B : Prop}
theorem BW_tt : BW (.bl true) A B = A := by
  simp only [R_W_def, SR_W_def, OW_def, BW_def] at *
  first | exact BW_tt_raw .. | (apply BW_tt_raw <;> assumption)
theorem BW_ff : BW (.bl false) A B = B := by
  simp only [R_W_def, SR_W_def, OW_def, BW_def] at *
  first | exact BW_ff_raw .. | (apply BW_ff_raw <;> assumption)
theorem BW_bl (b : Bool) : BW (.bl b) A B = ((b = true → A) ∧ (b = false → B)) := by
  simp only [R_W_def, SR_W_def, OW_def, BW_def] at *
  first | exact BW_bl_raw .. | (apply BW_bl_raw <;> assumption)
theorem BW_dec (p : Prop) [Decidable p] : BW (.bl (decide p)) A B = ((p → A) ∧ (¬ p → B)) := by
  simp only [R_W_def, SR_W_def, OW_def, BW_def] at *
  first | exact BW_dec_raw .. | (apply BW_dec_raw <;> assumption)
theorem BW_pos {p : Prop} [Decidable p] (h : p) : BW (.bl (decide p)) A B = A := by
  simp only [R_W_def, SR_W_def, OW_def, BW_def] at *
  first | exact BW_pos_raw .. | (apply BW_pos_raw <;> assumption)
theorem BW_neg {p : Prop} [Decidable p] (h : ¬ p) : BW (.bl (decide p)) A B = B := by
  simp only [R_W_def, SR_W_def, OW_def, BW_def] at *
  first | exact BW_neg_raw .. | (apply BW_neg_raw <;> assumption)
theorem BW_not (b : Bool) : BW (.bl !b) A B = BW (.bl b) B A := by
  simp only [R_W_def, SR_W_def, OW_def, BW_def] at *
  first | exact BW_not_raw .. | (apply BW_not_raw <;> assumption)
theorem BW_and (a b : Bool) : BW (.bl (a && b)) A B = BW (.bl a) (BW (.bl b) A B) B := by
  simp only [R_W_def, SR_W_def, OW_def, BW_def] at *
  first | exact BW_and_raw .. | (apply BW_and_raw <;> assumption)
end
theorem OW_some {Q : D → Prop} (d : D) : OW (some d) Q = Q d := by
  simp only [R_W_def, SR_W_def, OW_def, BW_def] at *
  first | exact OW_some_raw .. | (apply OW_some_raw <;> assumption)
theorem OW_none {Q : D → Prop} : OW none Q = False := by
  simp only [R_W_def, SR_W_def, OW_def, BW_def] at *
  first | exact OW_none_raw .. | (apply OW_none_raw <;> assumption)
section
variable {Q : D → Prop} {rd : List Nat} {ρ : List Sl}
theorem seen_val0 (d : D) : OW (seen rd (.val d :: ρ) 0) Q = Q d := by
  simp only [R_W_def, SR_W_def, OW_def, BW_def] at *
  first | exact seen_val0_raw .. | (apply seen_val0_raw <;> assumption)
theorem seen_own0 (ds : List D) : OW (seen rd (.own ds :: ρ) 0) Q = (rd.contains 0 = true ∧ Q (.lst ds)) := by
  simp only [R_W_def, SR_W_def, OW_def, BW_def] at *
  first | exact seen_own0_raw .. | (apply seen_own0_raw <;> assumption)
theorem seen_val {i : Nat} {d : D} (h : ρ[i]? = some (.val d)) : OW (seen rd ρ i) Q = Q d := by
  simp only [R_W_def, SR_W_def, OW_def, BW_def] at *
  first | exact seen_val_raw .. | (apply seen_val_raw <;> assumption)
theorem seen_own {i : Nat} {ds : List D} (h : ρ[i]? = some (.own ds)) (hr : rd.contains i = true) : OW (seen rd ρ i) Q = Q (.lst ds) := by
  simp only [R_W_def, SR_W_def, OW_def, BW_def] at *
  first | exact seen_own_raw .. | (apply seen_own_raw <;> assumption)
end

section
variable {kl : Kl} {cl : Cal} {rd : List Nat} {ρ : List Sl} {g : G} {Q : D × G → Prop} {Qs : List D × G → Prop} {X : Nat → List (Str × D) → G → Prop}
theorem we_var (i : Nat) : (evE kl cl rd (.var i) ρ g).W Q X = OW (seen rd ρ i) fun d => Q (d, g) := by
  simp only [R_W_def, SR_W_def, OW_def, BW_def] at *
  first | exact we_var_raw .. | (apply we_var_raw <;> assumption)
theorem we_con (d : D) : (evE kl cl rd (.con d) ρ g).W Q X = Q (d, g) := by
  simp only [R_W_def, SR_W_def, OW_def, BW_def] at *
  first | exact we_con_raw .. | (apply we_con_raw <;> assumption)
theorem we_prim (p : P) (es : Es) : (evE kl cl rd (.prim p es) ρ g).W Q X = (evEs kl cl rd es ρ g).W (fun q => OW (p.sem kl q.1) fun d => Q (d, q.2)) X := by
  simp only [R_W_def, SR_W_def, OW_def, BW_def] at *
  first | exact we_prim_raw .. | (apply we_prim_raw <;> assumption)
theorem we_and (a b : E) : (evE kl cl rd (.and a b) ρ g).W Q X = (evE kl cl rd a ρ g).W (fun q => BW q.1 ((evE kl cl rd b ρ q.2).W Q X) (Q (.bl false, q.2))) X := by
  simp only [R_W_def, SR_W_def, OW_def, BW_def] at *
  first | exact we_and_raw .. | (apply we_and_raw <;> assumption)
theorem we_or (a b : E) : (evE kl cl rd (.or a b) ρ g).W Q X = (evE kl cl rd a ρ g).W (fun q => BW q.1 (Q (.bl true, q.2)) ((evE kl cl rd b ρ q.2).W Q X)) X := by
  simp only [R_W_def, SR_W_def, OW_def, BW_def] at *
  first | exact we_or_raw .. | (apply we_or_raw <;> assumption)
theorem we_ite (c a b : E) : (evE kl cl rd (.ite c a b) ρ g).W Q X = (evE kl cl rd c ρ g).W (fun q => BW q.1 ((evE kl cl rd a ρ q.2).W Q X) ((evE kl cl rd b ρ q.2).W Q X)) X := by
  simp only [R_W_def, SR_W_def, OW_def, BW_def] at *
  first | exact we_ite_raw .. | (apply we_ite_raw <;> assumption)
theorem we_chain (p q : P) (a b c : E) : (evE kl cl rd (.chain p q a b c) ρ g).W Q X = (evE kl cl rd a ρ g).W (fun x => (evE kl cl rd b ρ x.2).W (fun y => OW (p.sem kl [x.1, y.1]) fun d => BW d ((evE kl cl rd c ρ y.2).W (fun z => OW (q.sem kl [y.1, z.1]) fun d => Q (d, z.2)) X) (Q (.bl false, y.2))) X) X := by
  simp only [R_W_def, SR_W_def, OW_def, BW_def] at *
  first | exact we_chain_raw .. | (apply we_chain_raw <;> assumption)
theorem we_call (f : Nat) (es : Es) : (evE kl cl rd (.call f es) ρ g).W Q X = (evEs kl cl rd es ρ g).W (fun q => (cl f q.1 q.2).W Q X) X := by
  simp only [R_W_def, SR_W_def, OW_def, BW_def] at *
  first | exact we_call_raw .. | (apply we_call_raw <;> assumption)
theorem we_hget (e : E) (key : Str) : (evE kl cl rd (.hget e key) ρ g).W Q X = (evE kl cl rd e ρ g).W (fun x => match x.1 with
    | .hnd k => match oget x.2 k key with
      | some (.imm d) => Q (d, x.2)
      | _ => False
    | _ => False) X := by
  simp only [R_W_def, SR_W_def, OW_def, BW_def] at *
  first | exact we_hget_raw .. | (apply we_hget_raw <;> assumption)
theorem we_nil : (evEs kl cl rd .nil ρ g).W Qs X = Qs ([], g) := by
  simp only [R_W_def, SR_W_def, OW_def, BW_def] at *
  first | exact we_nil_raw .. | (apply we_nil_raw <;> assumption)
theorem we_cons (e : E) (es : Es) : (evEs kl cl rd (.cons e es) ρ g).W Qs X = (evE kl cl rd e ρ g).W (fun x => (evEs kl cl rd es ρ x.2).W (fun y => Qs (x.1 :: y.1, y.2)) X) X := by
  simp only [R_W_def, SR_W_def, OW_def, BW_def] at *
  first | exact we_cons_raw .. | (apply we_cons_raw <;> assumption)
theorem we_comp (k : Ik) (es : Es) (tg : Tg) (cond elt : E) : (evE kl cl rd (.comp k es tg cond elt) ρ g).W Q X = (evEs kl cl rd es ρ g).W (fun q => match k.items q.1 with
    | some xs => (evTurns (turn kl cl rd ρ tg cond elt) xs q.2).W (fun r => r.1.length ≤ sizeLine ∧ Q (.lst r.1, r.2)) noX
    | none => False) X := by
  simp only [R_W_def, SR_W_def, OW_def, BW_def] at *
  first | exact we_comp_raw .. | (apply we_comp_raw <;> assumption)
theorem turns_nil {f : D → G → R (Option D × G)} : (evTurns f [] g).W Qs X = Qs ([], g) := by
  simp only [R_W_def, SR_W_def, OW_def, BW_def] at *
  first | exact turns_nil_raw .. | (apply turns_nil_raw <;> assumption)
theorem turns_cons {f : D → G → R (Option D × G)} (x : D) (xs : List D) : (evTurns f (x :: xs) g).W Qs X = (f x g).W (fun p => (evTurns f xs p.2).W (fun q => Qs (addO p.1 q.1, q.2)) X) X := by
  simp only [R_W_def, SR_W_def, OW_def, BW_def] at *
  first | exact turns_cons_raw .. | (apply turns_cons_raw <;> assumption)
theorem we_turn {tg : Tg} {cond elt : E} {x : D} {Qo : Option D × G → Prop} : (turn kl cl rd ρ tg cond elt x g).W Qo X = match tg.bind x (wipeSl ρ tg.slots) with
    | some ρ1 => (evE kl cl rd cond ρ1 g).W (fun c => BW c.1 ((evE kl cl rd elt ρ1 c.2).W (fun y => Qo (some y.1, y.2)) X) (Qo (none, c.2))) X
    | none => False := by
  simp only [R_W_def, SR_W_def, OW_def, BW_def] at *
  first | exact we_turn_raw .. | (apply we_turn_raw <;> assumption)
end

section
variable {kl : Kl} {cl : Cal} {w : Nat} {ρ : List Sl} {g : G} {N : List Sl → G → Prop} {T : D → G → Prop} {B C : List Sl → G → Prop} {X : Nat → List (Str × D) → List Sl → G → Prop}
theorem S_ofR {α : Type} (f : α → SR) (r : R α) : (SR.ofR ρ f r).W N T B C X = r.W (fun a => (f a).W N T B C X) (fun c fs g => X c fs ρ g) := by
  simp only [R_W_def, SR_W_def, OW_def, BW_def] at *
  first | exact S_ofR_raw .. | (apply S_ofR_raw <;> assumption)
theorem ws_nil : (evSs kl cl w .nil ρ g).W N T B C X = N ρ g := by
  simp only [R_W_def, SR_W_def, OW_def, BW_def] at *
  first | exact ws_nil_raw .. | (apply ws_nil_raw <;> assumption)
theorem ws_cons (s : S) (r : Ss) : (evSs kl cl w (.cons s r) ρ g).W N T B C X = (evS kl cl w s ρ g).W (fun ρ g => (evSs kl cl w r ρ g).W N T B C X) T B C X := by
  simp only [R_W_def, SR_W_def, OW_def, BW_def] at *
  first | exact ws_cons_raw .. | (apply ws_cons_raw <;> assumption)
theorem ws_set (i : Nat) (rd : List Nat) (e : E) : (evS kl cl w (.set i rd e) ρ g).W N T B C X = (evE kl cl rd e ρ g).W (fun q => N ((after rd q.1 ρ).set i (.val q.1)) q.2) (fun c fs g => X c fs ρ g) := by
  simp only [R_W_def, SR_W_def, OW_def, BW_def] at *
  first | exact ws_set_raw .. | (apply ws_set_raw <;> assumption)
theorem ws_own (i : Nat) (rd : List Nat) (e : E) (hf : isFresh e = true) : (evS kl cl w (.own i rd e) ρ g).W N T B C X = (i < ρ.length ∧ (evE kl cl rd e ρ g).W (fun q => match q.1 with
      | .lst ds => N ((if D.immAll ds = true then ρ else freeze rd ρ).set i (.own ds)) q.2
      | _ => False) (fun c fs g => X c fs ρ g)) := by
  simp only [R_W_def, SR_W_def, OW_def, BW_def] at *
  first | exact ws_own_raw .. | (apply ws_own_raw <;> assumption)
theorem ws_unp (is rd : List Nat) (e : E) : (evS kl cl w (.unp is rd e) ρ g).W N T B C X = (evE kl cl rd e ρ g).W (fun q => unpW (after rd q.1 ρ) is q.1 fun ρ1 => N ρ1 q.2) (fun c fs g => X c fs ρ g) := by
  simp only [R_W_def, SR_W_def, OW_def, BW_def] at *
  first | exact ws_unp_raw .. | (apply ws_unp_raw <;> assumption)
theorem ws_par (is rd : List Nat) (es : Es) : (evS kl cl w (.par is rd es) ρ g).W N T B C X = (evEs kl cl rd es ρ g).W (fun q => unpW (after rd (.tup q.1) ρ) is (.tup q.1) fun ρ1 => N ρ1 q.2) (fun c fs g => X c fs ρ g) := by
  simp only [R_W_def, SR_W_def, OW_def, BW_def] at *
  first | exact ws_par_raw .. | (apply ws_par_raw <;> assumption)
theorem ws_expr (rd : List Nat) (e : E) : (evS kl cl w (.expr rd e) ρ g).W N T B C X = (evE kl cl rd e ρ g).W (fun q => N ρ q.2) (fun c fs g => X c fs ρ g) := by
  simp only [R_W_def, SR_W_def, OW_def, BW_def] at *
  first | exact ws_expr_raw .. | (apply ws_expr_raw <;> assumption)
theorem ws_ret (rd : List Nat) (e : E) : (evS kl cl w (.ret rd e) ρ g).W N T B C X = (evE kl cl rd e ρ g).W (fun q => T q.1 q.2) (fun c fs g => X c fs ρ g) := by
  simp only [R_W_def, SR_W_def, OW_def, BW_def] at *
  first | exact ws_ret_raw .. | (apply ws_ret_raw <;> assumption)
theorem ws_retN : (evS kl cl w .retN ρ g).W N T B C X = T .non g := by
  simp only [R_W_def, SR_W_def, OW_def, BW_def] at *
  first | exact ws_retN_raw .. | (apply ws_retN_raw <;> assumption)
theorem ws_ite (rd : List Nat) (c : E) (a b : Ss) : (evS kl cl w (.ite rd c a b) ρ g).W N T B C X = (evE kl cl rd c ρ g).W (fun q => BW q.1 ((evSs kl cl w a ρ q.2).W N T B C X) ((evSs kl cl w b ρ q.2).W N T B C X)) (fun c fs g => X c fs ρ g) := by
  simp only [R_W_def, SR_W_def, OW_def, BW_def] at *
  first | exact ws_ite_raw .. | (apply ws_ite_raw <;> assumption)
theorem ws_whl (rd : List Nat) (c : E) (b : Ss) : (evS kl cl w (.whl rd c b) ρ g).W N T B C X = (evWhl (evE kl cl rd c) (evSs kl cl w b) w ρ g).W N T B C X := by
  simp only [R_W_def, SR_W_def, OW_def, BW_def] at *
  first | exact ws_whl_raw .. | (apply ws_whl_raw <;> assumption)
theorem ws_for (k : Ik) (rd : List Nat) (es : Es) (tg : Tg) (b : Ss) : (evS kl cl w (.for k rd es tg b) ρ g).W N T B C X = (evEs kl cl rd es ρ g).W (fun q => match k.items q.1 with
    | some xs => (evFor tg (evSs kl cl w b) xs (freeze rd ρ) q.2).W N T B C X
    | none => False) (fun c fs g => X c fs ρ g) := by
  simp only [R_W_def, SR_W_def, OW_def, BW_def] at *
  first | exact ws_for_raw .. | (apply ws_for_raw <;> assumption)
theorem ws_rais (c : Nat) : (evS kl cl w (.rais c) ρ g).W N T B C X = X c [] ρ g := by
  simp only [R_W_def, SR_W_def, OW_def, BW_def] at *
  first | exact ws_rais_raw .. | (apply ws_rais_raw <;> assumption)
theorem ws_pass : (evS kl cl w .pass ρ g).W N T B C X = N ρ g := by
  simp only [R_W_def, SR_W_def, OW_def, BW_def] at *
  first | exact ws_pass_raw .. | (apply ws_pass_raw <;> assumption)
theorem ws_brk : (evS kl cl w .brk ρ g).W N T B C X = B ρ g := by
  simp only [R_W_def, SR_W_def, OW_def, BW_def] at *
  first | exact ws_brk_raw .. | (apply ws_brk_raw <;> assumption)
theorem ws_cnt : (evS kl cl w .cnt ρ g).W N T B C X = C ρ g := by
  simp only [R_W_def, SR_W_def, OW_def, BW_def] at *
  first | exact ws_cnt_raw .. | (apply ws_cnt_raw <;> assumption)
theorem ws_aug {i : Nat} (rd : List Nat) (e : E) {d0 : D} (h : ρ[i]? = some (.val d0)) : (evS kl cl w (.aug i rd e) ρ g).W N T B C X = (evE kl cl rd e ρ g).W (fun q => OW (semAug d0 q.1) fun d => N ((after rd d ρ).set i (.val d)) q.2) (fun c fs g => X c fs ρ g) := by
  simp only [R_W_def, SR_W_def, OW_def, BW_def] at *
  first | exact ws_aug_raw .. | (apply ws_aug_raw <;> assumption)
theorem ws_try (b : Ss) (c : Nat) (v : Option Nat) (i : Nat) : (evS kl cl w (.try_ b c v i) ρ g).W N T B C X = (evSs kl cl w b ρ g).W N T B C (catchW kl c v i N X) := by
  simp only [R_W_def, SR_W_def, OW_def, BW_def] at *
  first | exact ws_try_raw .. | (apply ws_try_raw <;> assumption)
theorem ws_hset (e : E) (key : Str) (v : E) : (evS kl cl w (.hset e key v) ρ g).W N T B C X = (evE kl cl [] v ρ g).W (fun x => (evE kl cl [] e ρ x.2).W (fun y => match y.1 with
      | .hnd k => match oget y.2 k key with
        | some (.imm _) => x.1.imm = true ∧ N ρ (oput y.2 k key (.imm x.1))
        | _ => False
      | _ => False) (fun c fs g => X c fs ρ g)) (fun c fs g => X c fs ρ g) := by
  simp only [R_W_def, SR_W_def, OW_def, BW_def] at *
  first | exact ws_hset_raw .. | (apply ws_hset_raw <;> assumption)
theorem whl_W {c : List Sl → G → R (D × G)} {b : List Sl → G → SR} {I : Nat → List Sl → G → Prop}
    (step : ∀ m ρ g, I m ρ g → (c ρ g).W (fun q => BW q.1 ((b ρ q.2).W (fun ρ g => ∃ m', m' < m ∧ I m' ρ g) T N (fun ρ g => ∃ m', m' < m ∧ I m' ρ g) X) (N ρ q.2)) (fun c fs g => X c fs ρ g)) :
    ∀ w m ρ g, m < w → I m ρ g → (evWhl c b w ρ g).W N T B C X := by
  simp only [R_W_def, SR_W_def, OW_def, BW_def] at *
  first | exact whl_W_raw .. | (apply whl_W_raw <;> assumption)
theorem for_W {tg : Tg} {b : List Sl → G → SR} {I : List D → List Sl → G → Prop}
    (step : ∀ x xs ρ g, I (x :: xs) ρ g → match tg.bind x ρ with
      | some ρ1 => (b ρ1 g).W (I xs) T N (I xs) X
      | none => False)
    (fin : ∀ ρ g, I [] ρ g → N ρ g) : ∀ xs ρ g, I xs ρ g → (evFor tg b xs ρ g).W N T B C X := by
  simp only [R_W_def, SR_W_def, OW_def, BW_def] at *
  first | exact for_W_raw .. | (apply for_W_raw <;> assumption)
theorem for_nil {tg : Tg} {b : List Sl → G → SR} : (evFor tg b [] ρ g).W N T B C X = N ρ g := by
  simp only [R_W_def, SR_W_def, OW_def, BW_def] at *
  first | exact for_nil_raw .. | (apply for_nil_raw <;> assumption)
theorem for_cons {tg : Tg} {b : List Sl → G → SR} (x : D) (xs : List D) : (evFor tg b (x :: xs) ρ g).W N T B C X = (match tg.bind x ρ with
      | some ρ1 => (b ρ1 g).W (fun ρ g => (evFor tg b xs ρ g).W N T B C X) T N (fun ρ g => (evFor tg b xs ρ g).W N T B C X) X
      | none => False) := by
  simp only [R_W_def, SR_W_def, OW_def, BW_def] at *
  first | exact for_cons_raw .. | (apply for_cons_raw <;> assumption)
end
theorem run_W {kl : Kl} {tb : List FD} {w n i : Nat} {fd : FD} {ds : List D} {g : G} {Q : D × G → Prop} {X : Nat → List (Str × D) → G → Prop} (h : tb[i]? = some fd) (hl : ds.length = fd.np) :
    (run kl tb w (n + 1) i ds g).W Q X = (evSs kl (run kl tb w n) w fd.body (startSl fd ds) g).W (fun _ g => Q (.non, g)) (fun d g => Q (d, g)) (fun _ _ => False) (fun _ _ => False) (fun c fs _ g => X c fs g) := by
  simp only [R_W_def, SR_W_def, OW_def, BW_def] at *
  first | exact run_W_raw .. | (apply run_W_raw <;> assumption)
section
variable {kl : Kl} {Q : D → Prop} (i j : Int)
theorem ow_add : OW (P.sem kl .add [.int i, .int j]) Q = Q (.int (i + j)) := by
  simp only [R_W_def, SR_W_def, OW_def, BW_def] at *
  first | exact ow_add_raw .. | (apply ow_add_raw <;> assumption)
theorem ow_sub : OW (P.sem kl .sub [.int i, .int j]) Q = Q (.int (i - j)) := by
  simp only [R_W_def, SR_W_def, OW_def, BW_def] at *
  first | exact ow_sub_raw .. | (apply ow_sub_raw <;> assumption)
theorem ow_mul : OW (P.sem kl .mul [.int i, .int j]) Q = (mulOk i j = true ∧ Q (.int (i * j))) := by
  simp only [R_W_def, SR_W_def, OW_def, BW_def] at *
  first | exact ow_mul_raw .. | (apply ow_mul_raw <;> assumption)
theorem ow_fdiv : OW (P.sem kl .fdiv [.int i, .int j]) Q = (divOk i j = true ∧ Q (.int (i.fdiv j))) := by
  simp only [R_W_def, SR_W_def, OW_def, BW_def] at *
  first | exact ow_fdiv_raw .. | (apply ow_fdiv_raw <;> assumption)
theorem ow_mod : OW (P.sem kl .mod [.int i, .int j]) Q = (0 < j ∧ Q (.int (i % j))) := by
  simp only [R_W_def, SR_W_def, OW_def, BW_def] at *
  first | exact ow_mod_raw .. | (apply ow_mod_raw <;> assumption)
theorem ow_pow : OW (P.sem kl .pow [.int i, .int j]) Q = (powOk i j = true ∧ Q (.int (i ^ j.toNat))) := by
  simp only [R_W_def, SR_W_def, OW_def, BW_def] at *
  first | exact ow_pow_raw .. | (apply ow_pow_raw <;> assumption)
theorem ow_shl : OW (P.sem kl .shl [.int i, .int j]) Q = (shlOk i j = true ∧ Q (.int (i * 2 ^ j.toNat))) := by
  simp only [R_W_def, SR_W_def, OW_def, BW_def] at *
  first | exact ow_shl_raw .. | (apply ow_shl_raw <;> assumption)
theorem ow_shr : OW (P.sem kl .shr [.int i, .int j]) Q = (0 ≤ j ∧ Q (.int (i / 2 ^ j.toNat))) := by
  simp only [R_W_def, SR_W_def, OW_def, BW_def] at *
  first | exact ow_shr_raw .. | (apply ow_shr_raw <;> assumption)
theorem ow_band : OW (P.sem kl .band [.int i, .int j]) Q = Q (.int (Builtin.bitAnd i j)) := by
  simp only [R_W_def, SR_W_def, OW_def, BW_def] at *
  first | exact ow_band_raw .. | (apply ow_band_raw <;> assumption)
theorem ow_lt : OW (P.sem kl .lt [.int i, .int j]) Q = Q (.bl (decide (i < j))) := by
  simp only [R_W_def, SR_W_def, OW_def, BW_def] at *
  first | exact ow_lt_raw .. | (apply ow_lt_raw <;> assumption)
theorem ow_le : OW (P.sem kl .le [.int i, .int j]) Q = Q (.bl (decide (i ≤ j))) := by
  simp only [R_W_def, SR_W_def, OW_def, BW_def] at *
  first | exact ow_le_raw .. | (apply ow_le_raw <;> assumption)
theorem ow_gt : OW (P.sem kl .gt [.int i, .int j]) Q = Q (.bl (decide (j < i))) := by
  simp only [R_W_def, SR_W_def, OW_def, BW_def] at *
  first | exact ow_gt_raw .. | (apply ow_gt_raw <;> assumption)
theorem ow_ge : OW (P.sem kl .ge [.int i, .int j]) Q = Q (.bl (decide (j ≤ i))) := by
  simp only [R_W_def, SR_W_def, OW_def, BW_def] at *
  first | exact ow_ge_raw .. | (apply ow_ge_raw <;> assumption)
theorem ow_eqI : OW (P.sem kl .eq [.int i, .int j]) Q = Q (.bl (decide (i = j))) := by
  simp only [R_W_def, SR_W_def, OW_def, BW_def] at *
  first | exact ow_eqI_raw .. | (apply ow_eqI_raw <;> assumption)
theorem ow_neI : OW (P.sem kl .ne [.int i, .int j]) Q = Q (.bl !(decide (i = j))) := by
  simp only [R_W_def, SR_W_def, OW_def, BW_def] at *
  first | exact ow_neI_raw .. | (apply ow_neI_raw <;> assumption)
theorem ow_eq (x y : D) : OW (P.sem kl .eq [x, y]) Q = ((x.okEq = true ∧ y.okEq = true) ∧ Q (.bl (x.beq y))) := by
  simp only [R_W_def, SR_W_def, OW_def, BW_def] at *
  first | exact ow_eq_raw .. | (apply ow_eq_raw <;> assumption)
theorem ow_ne (x y : D) : OW (P.sem kl .ne [x, y]) Q = ((x.okEq = true ∧ y.okEq = true) ∧ Q (.bl !(x.beq y))) := by
  simp only [R_W_def, SR_W_def, OW_def, BW_def] at *
  first | exact ow_ne_raw .. | (apply ow_ne_raw <;> assumption)
theorem ow_isN (d : D) : OW (P.sem kl .isN [d]) Q = Q (.bl (match d with | .non => true | _ => false)) := by
  simp only [R_W_def, SR_W_def, OW_def, BW_def] at *
  first | exact ow_isN_raw .. | (apply ow_isN_raw <;> assumption)
theorem ow_notN (d : D) : OW (P.sem kl .notN [d]) Q = Q (.bl (match d with | .non => false | _ => true)) := by
  simp only [R_W_def, SR_W_def, OW_def, BW_def] at *
  first | exact ow_notN_raw .. | (apply ow_notN_raw <;> assumption)
theorem ow_isB (a b : Bool) : OW (P.sem kl .isB [.bl a, .bl b]) Q = Q (.bl (decide (a = b) == true)) := by
  simp only [R_W_def, SR_W_def, OW_def, BW_def] at *
  first | exact ow_isB_raw .. | (apply ow_isB_raw <;> assumption)
theorem ow_notB (a b : Bool) : OW (P.sem kl .notB [.bl a, .bl b]) Q = Q (.bl (decide (a = b) == false)) := by
  simp only [R_W_def, SR_W_def, OW_def, BW_def] at *
  first | exact ow_notB_raw .. | (apply ow_notB_raw <;> assumption)
theorem ow_neg : OW (P.sem kl .neg [.int i]) Q = Q (.int (-i)) := by
  simp only [R_W_def, SR_W_def, OW_def, BW_def] at *
  first | exact ow_neg_raw .. | (apply ow_neg_raw <;> assumption)
theorem ow_not (b : Bool) : OW (P.sem kl .not [.bl b]) Q = Q (.bl !b) := by
  simp only [R_W_def, SR_W_def, OW_def, BW_def] at *
  first | exact ow_not_raw .. | (apply ow_not_raw <;> assumption)
theorem ow_tup (ds : List D) : OW (P.sem kl .mkTup ds) Q = (ds.length ≤ sizeLine ∧ Q (.tup ds)) := by
  simp only [R_W_def, SR_W_def, OW_def, BW_def] at *
  first | exact ow_tup_raw .. | (apply ow_tup_raw <;> assumption)
theorem ow_lst (ds : List D) : OW (P.sem kl .mkLst ds) Q = (ds.length ≤ sizeLine ∧ Q (.lst ds)) := by
  simp only [R_W_def, SR_W_def, OW_def, BW_def] at *
  first | exact ow_lst_raw .. | (apply ow_lst_raw <;> assumption)
theorem ow_dct : OW (P.sem kl (.mkDct []) []) Q = Q (.dct []) := by
  simp only [R_W_def, SR_W_def, OW_def, BW_def] at *
  first | exact ow_dct_raw .. | (apply ow_dct_raw <;> assumption)
theorem ow_tup2 (a b : D) : OW (P.sem kl .mkTup [a, b]) Q = Q (.tup [a, b]) := by
  simp only [R_W_def, SR_W_def, OW_def, BW_def] at *
  first | exact ow_tup2_raw .. | (apply ow_tup2_raw <;> assumption)
theorem ow_ix (x y : D) : OW (P.sem kl .ix [x, y]) Q = OW (semIx x y) Q := by
  simp only [R_W_def, SR_W_def, OW_def, BW_def] at *
  first | exact ow_ix_raw .. | (apply ow_ix_raw <;> assumption)
theorem ow_abs : OW (P.sem kl .abs [.int i]) Q = Q (.int (i.natAbs : Int)) := by
  simp only [R_W_def, SR_W_def, OW_def, BW_def] at *
  first | exact ow_abs_raw .. | (apply ow_abs_raw <;> assumption)
theorem ow_lenT (xs : List D) : OW (P.sem kl .len [.tup xs]) Q = Q (.int xs.length) := by
  simp only [R_W_def, SR_W_def, OW_def, BW_def] at *
  first | exact ow_lenT_raw .. | (apply ow_lenT_raw <;> assumption)
theorem ow_lenL (xs : List D) : OW (P.sem kl .len [.lst xs]) Q = Q (.int xs.length) := by
  simp only [R_W_def, SR_W_def, OW_def, BW_def] at *
  first | exact ow_lenL_raw .. | (apply ow_lenL_raw <;> assumption)
theorem ow_lenF (xs : List D) : OW (P.sem kl .len [.frz xs]) Q = Q (.int xs.length) := by
  simp only [R_W_def, SR_W_def, OW_def, BW_def] at *
  first | exact ow_lenF_raw .. | (apply ow_lenF_raw <;> assumption)
theorem ow_min : OW (P.sem kl .min2 [.int i, .int j]) Q = Q (.int (min i j)) := by
  simp only [R_W_def, SR_W_def, OW_def, BW_def] at *
  first | exact ow_min_raw .. | (apply ow_min_raw <;> assumption)
theorem ow_max : OW (P.sem kl .max2 [.int i, .int j]) Q = Q (.int (max i j)) := by
  simp only [R_W_def, SR_W_def, OW_def, BW_def] at *
  first | exact ow_max_raw .. | (apply ow_max_raw <;> assumption)
theorem ow_toInt : OW (P.sem kl .toInt [.int i]) Q = Q (.int i) := by
  simp only [R_W_def, SR_W_def, OW_def, BW_def] at *
  first | exact ow_toInt_raw .. | (apply ow_toInt_raw <;> assumption)
theorem ow_toIntB (b : Bool) : OW (P.sem kl .toInt [.bl b]) Q = Q (.int (if b then 1 else 0)) := by
  simp only [R_W_def, SR_W_def, OW_def, BW_def] at *
  first | exact ow_toIntB_raw .. | (apply ow_toIntB_raw <;> assumption)
theorem ow_addL (xs ys : List D) : OW (P.sem kl .add [.lst xs, .lst ys]) Q = (xs.length + ys.length ≤ sizeLine ∧ Q (.lst (xs ++ ys))) := by
  simp only [R_W_def, SR_W_def, OW_def, BW_def] at *
  first | exact ow_addL_raw .. | (apply ow_addL_raw <;> assumption)
end

section
variable {rd : List Nat} {ρ : List Sl} {kl : Kl} {Q : D → Prop}
theorem ow_ix0 (x : D) (xs : List D) : OW (P.sem kl .ix [.tup (x :: xs), .int 0]) Q = Q x := by
  simp only [R_W_def, SR_W_def, OW_def, BW_def] at *
  first | exact ow_ix0_raw .. | (apply ow_ix0_raw <;> assumption)
theorem ow_ix1 (x y : D) (xs : List D) : OW (P.sem kl .ix [.tup (x :: y :: xs), .int 1]) Q = Q y := by
  simp only [R_W_def, SR_W_def, OW_def, BW_def] at *
  first | exact ow_ix1_raw .. | (apply ow_ix1_raw <;> assumption)
end
section
variable {kl : Kl} {cl : Cal} {rd : List Nat} {ρ : List Sl} {g : G} {Q : D × G → Prop} {X : Nat → List (Str × D) → G → Prop}
theorem we_hgetix (e : E) (key : Str) (j : Nat) : (evE kl cl rd (.hgetix e key j) ρ g).W Q X = (evE kl cl rd e ρ g).W (fun x => match x.1 with
    | .hnd k => match oget x.2 k key with
      | some f => OW (seen rd ρ j) fun i => OW (semIx f.asD i) fun z => Q (z, x.2)
      | none => False
    | _ => False) X := by
  simp only [R_W_def, SR_W_def, OW_def, BW_def] at *
  first | exact we_hgetix_raw .. | (apply we_hgetix_raw <;> assumption)
theorem we_hnewL (k1 k2 k3 : Str) (e1 e2 : E) (d3 : D) (hn : nodupS [k1, k2, k3] = true) (h3 : d3.imm = true) : (evE kl cl rd (.hnewL k1 k2 k3 e1 e2 d3) ρ g).W Q X = (evE kl cl rd e1 ρ g).W (fun x => (evE kl cl rd e2 ρ x.2).W (fun y => match y.1 with
        | .lst ys => x.1.imm = true ∧ D.immAll ys = true ∧ Q (.hnd y.2.length, y.2 ++ [[(k1, .imm x.1), (k2, .own ys), (k3, .imm d3)]])
        | _ => False) X) X := by
  simp only [R_W_def, SR_W_def, OW_def, BW_def] at *
  first | exact we_hnewL_raw .. | (apply we_hnewL_raw <;> assumption)
end
section
variable {kl : Kl} {cl : Cal} {w : Nat} {ρ : List Sl} {g : G} {N : List Sl → G → Prop} {T : D → G → Prop} {B C : List Sl → G → Prop} {X : Nat → List (Str × D) → List Sl → G → Prop}
theorem ws_hsetix (e : E) (key : Str) (j : Nat) (v : E) : (evS kl cl w (.hsetix e key j v) ρ g).W N T B C X = (evE kl cl [] v ρ g).W (fun x => (evE kl cl [] e ρ x.2).W (fun y => match y.1 with
      | .hnd k => match oget y.2 k key, seen [] ρ j with
        | some (.own ds), some (.int n) => match place ds.length n with
            | some m => x.1.imm = true ∧ N ρ (oput y.2 k key (.own (ds.set m x.1)))
            | none => False
        | _, _ => False
      | _ => False) (fun c fs g => X c fs ρ g)) (fun c fs g => X c fs ρ g) := by
  simp only [R_W_def, SR_W_def, OW_def, BW_def] at *
  first | exact ws_hsetix_raw .. | (apply ws_hsetix_raw <;> assumption)
end
section
variable {ns : List Int} {ls ls' : List D} {k k' : Int}
end
theorem W_int {r : R (D × G)} {P : Int → G → Prop} (h : r.W (fun a => ∃ v g', a = (.int v, g') ∧ P v g') noX) : ∃ v g', r = .ok (.int v, g') ∧ P v g' := by
  simp only [R_W_def, SR_W_def, OW_def, BW_def] at *
  first | exact W_int_raw .. | (apply W_int_raw <;> assumption)
theorem SR.W_join {s : SR} {N J : List Sl → G → Prop} {T : D → G → Prop} {B C : List Sl → G → Prop} {X : Nat → List (Str × D) → List Sl → G → Prop} (h : s.W J T B C X) (q : ∀ ρ g, J ρ g → N ρ g) : s.W N T B C X := by
  simp only [R_W_def, SR_W_def, OW_def, BW_def] at *
  first | exact SR_W_join_raw .. | (apply SR_W_join_raw <;> assumption)
section
variable {rd : List Nat} {ρ : List Sl} {d : D} {i : Nat}
end
section
variable {Q R : D → Prop} {kl : Kl} {xs : List D} {i : Int}
theorem ix_all (h0 : 0 ≤ i) (hl : i < (xs.length : Int)) (hp : ∀ x ∈ xs, R x) (h : ∀ x, R x → Q x) : OW (P.sem kl .ix [.lst xs, .int i]) Q := by
  simp only [R_W_def, SR_W_def, OW_def, BW_def] at *
  first | exact ix_all_raw .. | (apply ix_all_raw <;> assumption)
theorem ix_at (h0 : 0 ≤ i) {k : Nat} (hk : i = k) {x : D} (hx : xs[k]? = some x) (h : Q x) : OW (P.sem kl .ix [.lst xs, .int i]) Q := by
  simp only [R_W_def, SR_W_def, OW_def, BW_def] at *
  first | exact ix_at_raw .. | (apply ix_at_raw <;> assumption)
end
section
variable {α : Type}
variable {Q : α → Prop} {X : Nat → List (Str × D) → G → Prop} {t : Tok Q} {u : Tok X}
theorem Stop_ok (a : α) : Stop (.ok a) Q X t u = Q a := W_ok a
theorem Stop_exc (c : Nat) (fs : List (Str × D)) (g : G) : Stop (.exc c fs g) Q X t u = X c fs g := W_exc c fs g
theorem Stop_of {r : R α} {a : α} (h : r = .ok a) (q : Q a) : Stop r Q X t u := by rw [h, Stop_ok]; exact q
theorem Stop_ofx {r : R α} {c : Nat} {fs : List (Str × D)} {g : G} (h : r = .exc c fs g) (q : X c fs g) : Stop r Q X t u := by rw [h, Stop_exc]; exact q
end
theorem W_run {kl : Kl} {tb : List FD} {w n i : Nat} {ds : List D} {g : G} {Q : D × G → Prop} {X : Nat → List (Str × D) → G → Prop} : (run kl tb w n i ds g).W Q X = Stop (run kl tb w n i ds g) Q X .mk .mk := rfl
theorem ow_ixL {kl : Kl} {xs : List D} {i : Int} {Q : D → Prop} : OW (P.sem kl .ix [.lst xs, .int i]) Q = OStop (P.sem kl .ix [.lst xs, .int i]) Q .mk := rfl
section
variable {kl : Kl} {cl : Cal} {w : Nat} {ρ : List Sl} {g : G} {N : List Sl → G → Prop} {T : D → G → Prop} {B C : List Sl → G → Prop} {X : Nat → List (Str × D) → List Sl → G → Prop}
theorem W_whl {c : List Sl → G → R (D × G)} {b : List Sl → G → SR} : (evWhl c b w ρ g).W N T B C X = SStop (evWhl c b w ρ g) N T B C X .mk .mk .mk .mk .mk := rfl
theorem W_for {tg : Tg} {b : List Sl → G → SR} {xs : List D} : (evFor tg b xs ρ g).W N T B C X = SStop (evFor tg b xs ρ g) N T B C X .mk .mk .mk .mk .mk := rfl
theorem W_iteS {rd : List Nat} {c : E} {a b : Ss} : (evS kl cl w (.ite rd c a b) ρ g).W N T B C X = SStop (evS kl cl w (.ite rd c a b) ρ g) N T B C X .mk .mk .mk .mk .mk := rfl
theorem W_ownS {i : Nat} {rd : List Nat} {e : E} : (evS kl cl w (.own i rd e) ρ g).W N T B C X = SStop (evS kl cl w (.own i rd e) ρ g) N T B C X .mk .mk .mk .mk .mk := rfl
theorem W_appS {i : Nat} {rd : List Nat} {e : E} : (evS kl cl w (.app i rd e) ρ g).W N T B C X = SStop (evS kl cl w (.app i rd e) ρ g) N T B C X .mk .mk .mk .mk .mk := rfl
theorem W_whlS {rd : List Nat} {c : E} {b : Ss} : (evS kl cl w (.whl rd c b) ρ g).W N T B C X = SStop (evWhl (evE kl cl rd c) (evSs kl cl w b) w ρ g) N T B C X .mk .mk .mk .mk .mk := by
  unfold evS; rfl
end
theorem W_turns {f : D → G → R (Option D × G)} {xs : List D} {g : G} {Q : List D × G → Prop} {X : Nat → List (Str × D) → G → Prop} : (evTurns f xs g).W Q X = Stop (evTurns f xs g) Q X .mk .mk := rfl
section
variable {kl : Kl} {cl : Cal} {w : Nat} {ρ : List Sl} {g : G} {N : List Sl → G → Prop} {T : D → G → Prop} {B C : List Sl → G → Prop} {X : Nat → List (Str × D) → List Sl → G → Prop}
theorem ws_own_comp (i : Nat) (rd : List Nat) (k : Ik) (es : Es) (tg : Tg) (c e : E) : (evS kl cl w (.own i rd (.comp k es tg c e)) ρ g).W N T B C X = (i < ρ.length ∧ (evE kl cl rd (.comp k es tg c e) ρ g).W (fun q => lstW q.1 fun ds => N ((if D.immAll ds = true then ρ else freeze rd ρ).set i (.own ds)) q.2) (fun c fs g => X c fs ρ g)) := by
  simp only [R_W_def, SR_W_def, OW_def, BW_def] at *
  first | exact ws_own_comp_raw .. | (apply ws_own_comp_raw <;> assumption)
theorem ws_own_lst (i : Nat) (rd : List Nat) (es : Es) : (evS kl cl w (.own i rd (.prim .mkLst es)) ρ g).W N T B C X = (i < ρ.length ∧ (evE kl cl rd (.prim .mkLst es) ρ g).W (fun q => lstW q.1 fun ds => N ((if D.immAll ds = true then ρ else freeze rd ρ).set i (.own ds)) q.2) (fun c fs g => X c fs ρ g)) := by
  simp only [R_W_def, SR_W_def, OW_def, BW_def] at *
  first | exact ws_own_lst_raw .. | (apply ws_own_lst_raw <;> assumption)
theorem ws_app (i : Nat) (rd : List Nat) (e : E) : (evS kl cl w (.app i rd e) ρ g).W N T B C X = ownW ρ[i]? fun _ => (evE kl cl rd e ρ g).W (fun q => ownW (after rd q.1 ρ)[i]? fun ds => ds.length < sizeLine ∧ N ((after rd q.1 ρ).set i (.own (ds ++ [q.1]))) q.2) (fun c fs g => X c fs ρ g) := by
  simp only [R_W_def, SR_W_def, OW_def, BW_def] at *
  first | exact ws_app_raw .. | (apply ws_app_raw <;> assumption)
end
section
variable {rd : List Nat} {ρ : List Sl} {i : Nat}
end
section
variable {kl : Kl} {Q : D → Prop}
theorem ow_slo (xs : List D) (i : Int) : OW (P.sem kl .slo [.lst xs, .int i]) Q = Q (.lst (cutD xs (some i) none)) := by
  simp only [R_W_def, SR_W_def, OW_def, BW_def] at *
  first | exact ow_slo_raw .. | (apply ow_slo_raw <;> assumption)
theorem ow_sloT (xs : List D) (i : Int) : OW (P.sem kl .slo [.tup xs, .int i]) Q = Q (.tup (cutD xs (some i) none)) := by
  simp only [R_W_def, SR_W_def, OW_def, BW_def] at *
  first | exact ow_sloT_raw .. | (apply ow_sloT_raw <;> assumption)
theorem ow_shiL (xs : List D) (i : Int) : OW (P.sem kl .shi [.lst xs, .int i]) Q = Q (.lst (cutD xs none (some i))) := by
  simp only [R_W_def, SR_W_def, OW_def, BW_def] at *
  first | exact ow_shiL_raw .. | (apply ow_shiL_raw <;> assumption)
theorem ow_shiT (xs : List D) (i : Int) : OW (P.sem kl .shi [.tup xs, .int i]) Q = Q (.tup (cutD xs none (some i))) := by
  simp only [R_W_def, SR_W_def, OW_def, BW_def] at *
  first | exact ow_shiT_raw .. | (apply ow_shiT_raw <;> assumption)
theorem ow_slbL (xs : List D) (i j : Int) : OW (P.sem kl .slb [.lst xs, .int i, .int j]) Q = Q (.lst (cutD xs (some i) (some j))) := by
  simp only [R_W_def, SR_W_def, OW_def, BW_def] at *
  first | exact ow_slbL_raw .. | (apply ow_slbL_raw <;> assumption)
theorem ow_slbT (xs : List D) (i j : Int) : OW (P.sem kl .slb [.tup xs, .int i, .int j]) Q = Q (.tup (cutD xs (some i) (some j))) := by
  simp only [R_W_def, SR_W_def, OW_def, BW_def] at *
  first | exact ow_slbT_raw .. | (apply ow_slbT_raw <;> assumption)
theorem ow_toLstL (xs : List D) : OW (P.sem kl .toLst [.lst xs]) Q = Q (.lst xs) := by
  simp only [R_W_def, SR_W_def, OW_def, BW_def] at *
  first | exact ow_toLstL_raw .. | (apply ow_toLstL_raw <;> assumption)
theorem ow_toLstT (xs : List D) : OW (P.sem kl .toLst [.tup xs]) Q = Q (.lst xs) := by
  simp only [R_W_def, SR_W_def, OW_def, BW_def] at *
  first | exact ow_toLstT_raw .. | (apply ow_toLstT_raw <;> assumption)
theorem ow_toTupL (xs : List D) : OW (P.sem kl .toTup [.lst xs]) Q = Q (.tup xs) := by
  simp only [R_W_def, SR_W_def, OW_def, BW_def] at *
  first | exact ow_toTupL_raw .. | (apply ow_toTupL_raw <;> assumption)
theorem ow_toTupT (xs : List D) : OW (P.sem kl .toTup [.tup xs]) Q = Q (.tup xs) := by
  simp only [R_W_def, SR_W_def, OW_def, BW_def] at *
  first | exact ow_toTupT_raw .. | (apply ow_toTupT_raw <;> assumption)
theorem ow_revL (xs : List D) : OW (P.sem kl .revL [.lst xs]) Q = Q (.lst xs.reverse) := by
  simp only [R_W_def, SR_W_def, OW_def, BW_def] at *
  first | exact ow_revL_raw .. | (apply ow_revL_raw <;> assumption)
theorem ow_revLL (xs : List D) : OW (P.sem kl .rev [.lst xs]) Q = Q (.lst xs.reverse) := by
  simp only [R_W_def, SR_W_def, OW_def, BW_def] at *
  first | exact ow_revLL_raw .. | (apply ow_revLL_raw <;> assumption)
theorem ow_revT (xs : List D) : OW (P.sem kl .rev [.tup xs]) Q = Q (.tup xs.reverse) := by
  simp only [R_W_def, SR_W_def, OW_def, BW_def] at *
  first | exact ow_revT_raw .. | (apply ow_revT_raw <;> assumption)
theorem ow_maxL (xs : List D) : OW (P.sem kl .maxL [.tup xs]) Q = OW (semMax1 (.tup xs)) Q := by
  simp only [R_W_def, SR_W_def, OW_def, BW_def] at *
  first | exact ow_maxL_raw .. | (apply ow_maxL_raw <;> assumption)
theorem ow_sumT (xs : List D) : OW (P.sem kl .sum [.tup xs]) Q = OW ((isInts xs).map fun ns => D.int ns.sum) Q := by
  simp only [R_W_def, SR_W_def, OW_def, BW_def] at *
  first | exact ow_sumT_raw .. | (apply ow_sumT_raw <;> assumption)
theorem ow_sum (xs : List D) : OW (P.sem kl .sum [.lst xs]) Q = OW ((isInts xs).map fun ns => D.int ns.sum) Q := by
  simp only [R_W_def, SR_W_def, OW_def, BW_def] at *
  first | exact ow_sum_raw .. | (apply ow_sum_raw <;> assumption)
theorem ow_any (xs : List D) : OW (P.sem kl .any [.lst xs]) Q = OW ((isBls xs).map fun bs => D.bl (bs.any id)) Q := by
  simp only [R_W_def, SR_W_def, OW_def, BW_def] at *
  first | exact ow_any_raw .. | (apply ow_any_raw <;> assumption)
theorem ow_repr (d : D) : OW (P.sem kl .repr_ [d]) Q = ((d.okEq = true ∧ d.py.showable = true ∧ d.py.shown.length ≤ sizeLine) ∧ Q (.str d.py.shown)) := by
  simp only [R_W_def, SR_W_def, OW_def, BW_def] at *
  first | exact ow_repr_raw .. | (apply ow_repr_raw <;> assumption)
theorem ow_addLL (xs ys : List D) : OW (P.sem kl .addL [.lst xs, .lst ys]) Q = (xs.length + ys.length ≤ sizeLine ∧ Q (.lst (xs ++ ys))) := by
  simp only [R_W_def, SR_W_def, OW_def, BW_def] at *
  first | exact ow_addLL_raw .. | (apply ow_addLL_raw <;> assumption)
theorem ow_addT (xs ys : List D) : OW (P.sem kl .add [.tup xs, .tup ys]) Q = (xs.length + ys.length ≤ sizeLine ∧ Q (.tup (xs ++ ys))) := by
  simp only [R_W_def, SR_W_def, OW_def, BW_def] at *
  first | exact ow_addT_raw .. | (apply ow_addT_raw <;> assumption)
theorem ow_mulL (xs : List D) (k : Int) : OW (P.sem kl .mul [.lst xs, .int k]) Q = ((-(2 ^ 63) ≤ k ∧ k < 2 ^ 63 ∧ xs.length * k.toNat ≤ sizeLine) ∧ Q (.lst (List.replicate k.toNat xs).flatten)) := by
  simp only [R_W_def, SR_W_def, OW_def, BW_def] at *
  first | exact ow_mulL_raw .. | (apply ow_mulL_raw <;> assumption)
theorem ow_mulT (xs : List D) (k : Int) : OW (P.sem kl .mul [.tup xs, .int k]) Q = ((xs ≠ [] ∧ 2 ≤ k ∧ k ≤ 1000 ∧ xs.length ≤ 1000) ∧ Q (.tup (List.replicate k.toNat xs).flatten)) := by
  simp only [R_W_def, SR_W_def, OW_def, BW_def] at *
  first | exact ow_mulT_raw .. | (apply ow_mulT_raw <;> assumption)
theorem ow_ix2 (x y z : D) (xs : List D) : OW (P.sem kl .ix [.tup (x :: y :: z :: xs), .int 2]) Q = Q z := by
  simp only [R_W_def, SR_W_def, OW_def, BW_def] at *
  first | exact ow_ix2_raw .. | (apply ow_ix2_raw <;> assumption)
theorem ow_ixT {xs : List D} {i : Int} : OW (P.sem kl .ix [.tup xs, .int i]) Q = OStop (P.sem kl .ix [.tup xs, .int i]) Q .mk := rfl
theorem ow_tup3 (a b c : D) : OW (P.sem kl .mkTup [a, b, c]) Q = Q (.tup [a, b, c]) := by
  simp only [R_W_def, SR_W_def, OW_def, BW_def] at *
  first | exact ow_tup3_raw .. | (apply ow_tup3_raw <;> assumption)
theorem ow_in (x : D) (ys : List D) : OW (P.sem kl .in_ [x, .lst ys]) Q = ((x.okEq = true ∧ (D.lst ys).okEq = true) ∧ Q (.bl (inOf x ys))) := by
  simp only [R_W_def, SR_W_def, OW_def, BW_def] at *
  first | exact ow_in_raw .. | (apply ow_in_raw <;> assumption)
theorem ow_notIn (x : D) (ys : List D) : OW (P.sem kl .notIn [x, .lst ys]) Q = ((x.okEq = true ∧ (D.lst ys).okEq = true) ∧ Q (.bl !(inOf x ys))) := by
  simp only [R_W_def, SR_W_def, OW_def, BW_def] at *
  first | exact ow_notIn_raw .. | (apply ow_notIn_raw <;> assumption)
theorem ow_inT (x : D) (ys : List D) : OW (P.sem kl .in_ [x, .tup ys]) Q = ((x.flat = true ∧ flatAll ys = true) ∧ Q (.bl (inOf x ys))) := by
  simp only [R_W_def, SR_W_def, OW_def, BW_def] at *
  first | exact ow_inT_raw .. | (apply ow_inT_raw <;> assumption)
theorem ow_notInT (x : D) (ys : List D) : OW (P.sem kl .notIn [x, .tup ys]) Q = ((x.flat = true ∧ flatAll ys = true) ∧ Q (.bl !(inOf x ys))) := by
  simp only [R_W_def, SR_W_def, OW_def, BW_def] at *
  first | exact ow_notInT_raw .. | (apply ow_notInT_raw <;> assumption)
theorem ow_inS (c : Nat) (z : Str) : OW (P.sem kl .in_ [.str ⟨#[c]⟩, .str z]) Q = Q (.bl (decide (c ∈ z.cps.toList))) := by
  simp only [R_W_def, SR_W_def, OW_def, BW_def] at *
  first | exact ow_inS_raw .. | (apply ow_inS_raw <;> assumption)
theorem ow_notInS (c : Nat) (z : Str) : OW (P.sem kl .notIn [.str ⟨#[c]⟩, .str z]) Q = Q (.bl !(decide (c ∈ z.cps.toList))) := by
  simp only [R_W_def, SR_W_def, OW_def, BW_def] at *
  first | exact ow_notInS_raw .. | (apply ow_notInS_raw <;> assumption)
theorem ow_tupRg (n : Nat) : OW (P.sem kl .tupRg [.int n]) Q = (n ≤ sizeLine ∧ Q (.tup ((List.range n).map fun (k : Nat) => D.int (k : Int)))) := by
  simp only [R_W_def, SR_W_def, OW_def, BW_def] at *
  first | exact ow_tupRg_raw .. | (apply ow_tupRg_raw <;> assumption)
theorem ow_lstRg (n : Nat) : OW (P.sem kl .lstRg [.int n]) Q = (n ≤ sizeLine ∧ Q (.lst ((List.range n).map fun (k : Nat) => D.int (k : Int)))) := by
  simp only [R_W_def, SR_W_def, OW_def, BW_def] at *
  first | exact ow_lstRg_raw .. | (apply ow_lstRg_raw <;> assumption)
theorem ow_str (n : Int) : OW (P.sem kl .str_ [.int n]) Q = (n.natAbs.log2 < 1920 ∧ Q (.str (Str.ofString (toString n)))) := by
  simp only [R_W_def, SR_W_def, OW_def, BW_def] at *
  first | exact ow_str_raw .. | (apply ow_str_raw <;> assumption)
theorem ow_all (xs : List D) : OW (P.sem kl .all [.lst xs]) Q = OW ((isBls xs).map fun bs => D.bl (bs.all id)) Q := by
  simp only [R_W_def, SR_W_def, OW_def, BW_def] at *
  first | exact ow_all_raw .. | (apply ow_all_raw <;> assumption)
theorem ow_isBt (b : Bool) : OW (P.sem kl .isB [.bl b, .bl true]) Q = Q (.bl b) := by
  simp only [R_W_def, SR_W_def, OW_def, BW_def] at *
  first | exact ow_isBt_raw .. | (apply ow_isBt_raw <;> assumption)
theorem ow_isBf (b : Bool) : OW (P.sem kl .isB [.bl b, .bl false]) Q = Q (.bl !b) := by
  simp only [R_W_def, SR_W_def, OW_def, BW_def] at *
  first | exact ow_isBf_raw .. | (apply ow_isBf_raw <;> assumption)
theorem ow_notBt (b : Bool) : OW (P.sem kl .notB [.bl b, .bl true]) Q = Q (.bl !b) := by
  simp only [R_W_def, SR_W_def, OW_def, BW_def] at *
  first | exact ow_notBt_raw .. | (apply ow_notBt_raw <;> assumption)
theorem ow_notBf (b : Bool) : OW (P.sem kl .notB [.bl b, .bl false]) Q = Q (.bl b) := by
  simp only [R_W_def, SR_W_def, OW_def, BW_def] at *
  first | exact ow_notBf_raw .. | (apply ow_notBf_raw <;> assumption)
end
section
variable {kl : Kl} {cl : Cal} {w : Nat} {ρ : List Sl} {g : G} {N : List Sl → G → Prop} {T : D → G → Prop} {B C : List Sl → G → Prop} {X : Nat → List (Str × D) → List Sl → G → Prop}
theorem ws_augV (i : Nat) (rd : List Nat) (e : E) : (evS kl cl w (.aug i rd e) ρ g).W N T B C X = valW ρ[i]? fun d0 => (evE kl cl rd e ρ g).W (fun q => OW (semAug d0 q.1) fun d => N ((after rd d ρ).set i (.val d)) q.2) (fun c fs g => X c fs ρ g) := by
  simp only [R_W_def, SR_W_def, OW_def, BW_def] at *
  first | exact ws_augV_raw .. | (apply ws_augV_raw <;> assumption)
end
theorem augI (i j : Int) {Q : D → Prop} : OW (semAug (.int i) (.int j)) Q = Q (.int (i + j)) := by
  simp only [R_W_def, SR_W_def, OW_def, BW_def] at *
  first | exact augI_raw .. | (apply augI_raw <;> assumption)
theorem we_callv {kl : Kl} {cl : Cal} {rd : List Nat} {ρ : List Sl} {g : G} {Q : D × G → Prop} {X : Nat → List (Str × D) → G → Prop} (e : E) (es : Es) : (evE kl cl rd (.callv e es) ρ g).W Q X = (evE kl cl rd e ρ g).W (fun x => fnW x.1 fun f => (evEs kl cl rd es ρ x.2).W (fun q => (cl f q.1 q.2).W Q X) X) X := by
  simp only [R_W_def, SR_W_def, OW_def, BW_def] at *
  first | exact we_callv_raw .. | (apply we_callv_raw <;> assumption)
section
variable {kl : Kl} {cl : Cal} {rd : List Nat} {ρ : List Sl} {g : G} {Q : D × G → Prop} {X : Nat → List (Str × D) → G → Prop}
theorem we_lam (b : Bool) : (evE kl cl rd (.lam b) ρ g).W Q X = Q (.lam b, g) := by
  simp only [R_W_def, SR_W_def, OW_def, BW_def] at *
  first | exact we_lam_raw .. | (apply we_lam_raw <;> assumption)
theorem we_callp (i : Nat) (fs : List Nat) (es : Es) : (evE kl cl rd (.callp i fs es) ρ g).W Q X = parW (seen rd ρ i) (fun f => fs.contains f = true ∧ (evEs kl cl rd es ρ g).W (fun q => (cl f q.1 q.2).W Q X) X) (fun b => (evEs kl cl rd es ρ g).W (fun q => q.1.length = 1 ∧ Q (.bl b, q.2)) X) := by
  simp only [R_W_def, SR_W_def, OW_def, BW_def] at *
  first | exact we_callp_raw .. | (apply we_callp_raw <;> assumption)
theorem we_cget (kvs : List (Str × D)) (e f : E) : (evE kl cl rd (.cget kvs e f) ρ g).W Q X = (evE kl cl rd e ρ g).W (fun x => (evE kl cl rd f ρ x.2).W (fun y => strW x.1 fun k => Q ((kvs.lookup k).getD y.1, y.2)) X) X := by
  simp only [R_W_def, SR_W_def, OW_def, BW_def] at *
  first | exact we_cget_raw .. | (apply we_cget_raw <;> assumption)
theorem we_cix (kvs : List (Str × D)) (e : E) : (evE kl cl rd (.cix kvs e) ρ g).W Q X = (evE kl cl rd e ρ g).W (fun x => strW x.1 fun k => OW (kvs.lookup k) fun d => Q (d, x.2)) X := by
  simp only [R_W_def, SR_W_def, OW_def, BW_def] at *
  first | exact we_cix_raw .. | (apply we_cix_raw <;> assumption)
theorem we_cin (neg : Bool) (kvs : List (Str × D)) (e : E) : (evE kl cl rd (.cin neg kvs e) ρ g).W Q X = (evE kl cl rd e ρ g).W (fun x => strW x.1 fun k => Q (.bl ((kvs.lookup k).isSome != neg), x.2)) X := by
  simp only [R_W_def, SR_W_def, OW_def, BW_def] at *
  first | exact we_cin_raw .. | (apply we_cin_raw <;> assumption)
end
section
variable {kl : Kl} {Q R : D → Prop} {xs : List D} {i : Int}
theorem tix_at {k : Nat} (h0 : 0 ≤ i) (hk : i = k) {x : D} (hx : xs[k]? = some x) (h : Q x) : OW (P.sem kl .ix [.tup xs, .int i]) Q := by
  simp only [R_W_def, SR_W_def, OW_def, BW_def] at *
  first | exact tix_at_raw .. | (apply tix_at_raw <;> assumption)
theorem tix_last (hn : xs ≠ []) (h : Q (xs.getLast hn)) : OW (P.sem kl .ix [.tup xs, .int (-1)]) Q := by
  simp only [R_W_def, SR_W_def, OW_def, BW_def] at *
  first | exact tix_last_raw .. | (apply tix_last_raw <;> assumption)
theorem ix_last (hn : xs ≠ []) (h : Q (xs.getLast hn)) : OW (P.sem kl .ix [.lst xs, .int (-1)]) Q := by
  simp only [R_W_def, SR_W_def, OW_def, BW_def] at *
  first | exact ix_last_raw .. | (apply ix_last_raw <;> assumption)
theorem tix_all (h0 : 0 ≤ i) (hl : i < (xs.length : Int)) (hp : ∀ x ∈ xs, R x) (h : ∀ x, R x → Q x) : OW (P.sem kl .ix [.tup xs, .int i]) Q := by
  simp only [R_W_def, SR_W_def, OW_def, BW_def] at *
  first | exact tix_all_raw .. | (apply tix_all_raw <;> assumption)
end
section
variable {kl : Kl} {cl : Cal} {w : Nat} {ρ : List Sl} {g : G} {N : List Sl → G → Prop} {T : D → G → Prop} {B C : List Sl → G → Prop} {X : Nat → List (Str × D) → List Sl → G → Prop}
theorem ws_own_addL (i : Nat) (rd : List Nat) (es : Es) : (evS kl cl w (.own i rd (.prim .addL es)) ρ g).W N T B C X = (i < ρ.length ∧ (evE kl cl rd (.prim .addL es) ρ g).W (fun q => lstW q.1 fun ds => N ((if D.immAll ds = true then ρ else freeze rd ρ).set i (.own ds)) q.2) (fun c fs g => X c fs ρ g)) := by
  simp only [R_W_def, SR_W_def, OW_def, BW_def] at *
  first | exact ws_own_addL_raw .. | (apply ws_own_addL_raw <;> assumption)
theorem ws_own_toLst (i : Nat) (rd : List Nat) (es : Es) : (evS kl cl w (.own i rd (.prim .toLst es)) ρ g).W N T B C X = (i < ρ.length ∧ (evE kl cl rd (.prim .toLst es) ρ g).W (fun q => lstW q.1 fun ds => N ((if D.immAll ds = true then ρ else freeze rd ρ).set i (.own ds)) q.2) (fun c fs g => X c fs ρ g)) := by
  simp only [R_W_def, SR_W_def, OW_def, BW_def] at *
  first | exact ws_own_toLst_raw .. | (apply ws_own_toLst_raw <;> assumption)
theorem ws_setix (i : Nat) (rd : List Nat) (e1 e2 : E) : (evS kl cl w (.setix i rd e1 e2) ρ g).W N T B C X = ownW ρ[i]? fun ds => (evE kl cl rd e2 ρ g).W (fun q => (evE kl cl [] e1 ρ q.2).W (fun r => intW r.1 fun n => ∃ m, place ds.length n = some m ∧ q.1.imm = true ∧ N (ρ.set i (.own (ds.set m q.1))) r.2) (fun c fs g => X c fs ρ g)) (fun c fs g => X c fs ρ g) := by
  simp only [R_W_def, SR_W_def, OW_def, BW_def] at *
  first | exact ws_setix_raw .. | (apply ws_setix_raw <;> assumption)
theorem ws_ownc (i : Nat) (e : E) : (evS kl cl w (.ownc i e) ρ g).W N T B C X = (i < ρ.length ∧ (evE kl cl [] e (immSl ρ) g).W (fun q => lstW q.1 fun ds => D.immAll ds = true ∧ N (ρ.set i (.own ds)) q.2) (fun c fs g => X c fs ρ g)) := by
  simp only [R_W_def, SR_W_def, OW_def, BW_def] at *
  first | exact ws_ownc_raw .. | (apply ws_ownc_raw <;> assumption)
theorem ws_par0 (i j : Nat) (rd : List Nat) (e : E) : (evS kl cl w (.par0 i j rd e) ρ g).W N T B C X = (i < ρ.length ∧ i ≠ j ∧ (evE kl cl rd e ρ g).W (fun q => N (((after rd q.1 ρ).set i (.own [])).set j (.val q.1)) q.2) (fun c fs g => X c fs ρ g)) := by
  simp only [R_W_def, SR_W_def, OW_def, BW_def] at *
  first | exact ws_par0_raw .. | (apply ws_par0_raw <;> assumption)
theorem ws_clr (i : Nat) : (evS kl cl w (.clr i) ρ g).W N T B C X = ownW ρ[i]? fun _ => N (ρ.set i (.own [])) g := by
  simp only [R_W_def, SR_W_def, OW_def, BW_def] at *
  first | exact ws_clr_raw .. | (apply ws_clr_raw <;> assumption)
theorem ws_ins (i : Nat) (rd : List Nat) (e1 e2 : E) : (evS kl cl w (.ins i rd (.cons e1 (.cons e2 .nil))) ρ g).W N T B C X = ownW ρ[i]? fun ds => (evE kl cl rd e1 ρ g).W (fun q => (evE kl cl rd e2 ρ q.2).W (fun r => intW q.1 fun n => (r.1.imm = true ∧ ds.length < sizeLine ∧ 0 ≤ n ∧ n < 2 ^ 63) ∧ N (ρ.set i (.own (ds.take n.toNat ++ [r.1] ++ ds.drop n.toNat))) r.2) (fun c fs g => X c fs ρ g)) (fun c fs g => X c fs ρ g) := by
  simp only [R_W_def, SR_W_def, OW_def, BW_def] at *
  first | exact ws_ins_raw .. | (apply ws_ins_raw <;> assumption)
end

end Z

set_option Elab.async false
set_option linter.all false
set_option maxRecDepth 100000
/-! ZM: plain numbers: the common divisor by low bits, fractions as rational numbers. -/
namespace Z
open PySem
theorem and_double (a b : Nat) (x y : Nat) (hx : x < 2) (hy : y < 2) (hz : x = 0 ∨ y = 0) : (2 * a + x) &&& (2 * b + y) = 2 * (a &&& b) := by
  have h1 : ((2 * a + x) &&& (2 * b + y)) / 2 = a &&& b := by
    rw [Nat.and_div_two]
    congr 1 <;> omega
  have h2 : ((2 * a + x) &&& (2 * b + y)) % 2 = 0 := by
    have h := @Nat.and_mod_two_pow (2 * a + x) (2 * b + y) 1
    rw [show (2 : Nat) ^ 1 = 2 from rfl] at h
    rw [h]
    rcases hz with rfl | rfl
    · rw [show (2 * a + 0) % 2 = 0 by omega]; exact Nat.zero_and _
    · rw [show (2 * b + 0) % 2 = 0 by omega]; exact Nat.and_zero _
  omega
theorem low_bit : ∀ n : Nat, 0 < n → ∃ v, n &&& (n - 1) = n - 2 ^ v ∧ 2 ^ v ∣ n ∧ (n / 2 ^ v) % 2 = 1 := by
  intro n
  induction n using Nat.strongRecOn with
  | _ n ih =>
    intro h
    rcases Nat.mod_two_eq_zero_or_one n with e | e
    · obtain ⟨v, h1, h2, h3⟩ := ih (n / 2) (by omega) (by omega)
      refine ⟨v + 1, ?_, ?_, ?_⟩
      · have := and_double (n / 2) (n / 2 - 1) 0 1 (by omega) (by omega) (.inl rfl)
        rw [show 2 * (n / 2) + 0 = n by omega, show 2 * (n / 2 - 1) + 1 = n - 1 by omega, h1] at this
        rw [this, Nat.pow_succ]; omega
      · obtain ⟨c, hc⟩ := h2
        have e2 : n = 2 * (n / 2) := by omega
        exact ⟨c, by rw [Nat.pow_succ, Nat.mul_comm _ 2, Nat.mul_assoc, ← hc]; exact e2⟩
      · rw [Nat.pow_succ, Nat.mul_comm, ← Nat.div_div_eq_div_mul]; exact h3
    · refine ⟨0, ?_, by simp, by simpa using e⟩
      have := and_double (n / 2) (n / 2) 1 0 (by omega) (by omega) (.inr rfl)
      rw [show 2 * (n / 2) + 1 = n by omega, show 2 * (n / 2) + 0 = n - 1 by omega, Nat.and_self] at this
      rw [this]; simp; omega
/-- the greatest power of two in n, cut at 2 ^ k, is the common divisor -/
theorem min_low {n b : Nat} (hn : 0 < n) (hb : 0 < b) (h : b &&& (b - 1) = 0) : min b (n - (n &&& (n - 1))) = Nat.gcd n b := by
  obtain ⟨k, k1, k2, k3⟩ := low_bit b hb
  have k4 : b = 2 ^ k := by
    have := Nat.le_of_dvd hb k2
    omega
  obtain ⟨v, v1, v2, v3⟩ := low_bit n hn
  have v4 : n - (n &&& (n - 1)) = 2 ^ v := by
    have := Nat.le_of_dvd hn v2
    omega
  rw [v4, k4]
  by_cases hk : k ≤ v
  · rw [Nat.min_eq_left (Nat.pow_le_pow_right (by omega) hk), Nat.gcd_eq_right (Nat.dvd_trans (Nat.pow_dvd_pow 2 hk) v2)]
  · have hk : v < k := by omega
    rw [Nat.min_eq_right (Nat.pow_le_pow_right (by omega) (by omega))]
    obtain ⟨m, hm⟩ := v2
    have hp : 0 < 2 ^ v := Nat.pow_pos (by omega)
    have hmo : m % 2 = 1 := by rw [hm, Nat.mul_div_cancel_left _ hp] at v3; exact v3
    have e : 2 ^ k = 2 ^ v * 2 ^ (k - v) := by rw [← Nat.pow_add]; congr 1; omega
    rw [hm, e, Nat.gcd_mul_left]
    have : Nat.gcd m (2 ^ (k - v)) = 1 := by
      apply Nat.Coprime.pow_right
      show Nat.gcd m 2 = 1
      rw [Nat.gcd_comm, Nat.gcd_rec, hmo]; rfl
    rw [this, Nat.mul_one]
/-- the common divisor, as a whole number -/
def gcI (t b : Int) : Int := (Int.gcd t b : Int)
theorem gcI_pos {t b : Int} (h : b ≠ 0) : 0 < gcI t b := by
  unfold gcI
  have := Int.gcd_pos_of_ne_zero_right t h
  omega
theorem gcI_zero (b : Int) (h : 0 < b) : gcI 0 b = b := by
  unfold gcI
  rw [Int.gcd_zero_left]; omega
theorem gcI_abs (t b : Int) : gcI (t.natAbs : Int) b = gcI t b := by
  unfold gcI Int.gcd; rfl
theorem gcI_abs2 (t b : Int) : gcI (t.natAbs : Int) (b.natAbs : Int) = gcI t b := by
  unfold gcI Int.gcd; rfl
theorem gcI_absr (t b : Int) : gcI t (b.natAbs : Int) = gcI t b := by
  unfold gcI Int.gcd; rfl
theorem gcI_neg (t b : Int) : gcI (-t) b = gcI t b := by unfold gcI; rw [Int.neg_gcd]
theorem gcI_neg2 (t b : Int) : gcI t (-b) = gcI t b := by unfold gcI; rw [Int.gcd_neg]
/-- a step of Euclid -/
theorem gcI_step {a b : Int} (h : 0 < b) (ha : 0 ≤ a) : gcI b (a % b) = gcI a b := by
  unfold gcI Int.gcd
  have e : (a % b).natAbs = a.natAbs % b.natAbs := by
    rw [Int.natAbs_emod a (by omega), if_pos (.inl ha)]
  rw [e, Nat.gcd_comm b.natAbs, ← Nat.gcd_rec, Nat.gcd_comm]
theorem gcI_end (a : Int) (ha : 0 ≤ a) : gcI a 0 = a := by
  unfold gcI; rw [Int.gcd_zero_right]; omega
/-- by the low bits -/
theorem gcI_low {t b : Int} (ht : t ≠ 0) (hb : 0 < b) (h : Builtin.bitAnd b (b - 1) = 0) : min b (Builtin.bitAnd (t.natAbs : Int) (0 - (t.natAbs : Int))) = gcI t b := by
  rw [PyProof.Rows.bitAnd_pp (by omega) (by omega)] at h
  rw [PyProof.Rows.bitAnd_pn (by omega) (by omega)]
  have e1 : (b - 1).toNat = b.toNat - 1 := by omega
  rw [e1] at h
  have e2 : (Builtin.bitNot (0 - (t.natAbs : Int))).toNat = t.natAbs - 1 := by unfold Builtin.bitNot; omega
  rw [e2]
  have := min_low (n := t.natAbs) (b := b.toNat) (by omega) (by omega) (by omega)
  have e3 : (t.natAbs : Int).toNat = t.natAbs := by omega
  rw [e3]
  unfold gcI Int.gcd
  have e4 : b.natAbs = b.toNat := by omega
  rw [e4, ← this]
  have : t.natAbs &&& (t.natAbs - 1) ≤ t.natAbs := Nat.and_le_left
  omega

/-! ### fractions -/
abbrev qOf (t b : Int) : Rat := Rat.divInt t b
def frD (q : Rat) : D := .tup [.int q.num, .int (q.den : Int)]
theorem den_pos (q : Rat) : (0 : Int) < (q.den : Int) := by have := q.den_pos; omega
theorem q_num {t b : Int} (h : 0 < b) : t.fdiv (gcI t b) = (qOf t b).num := by
  unfold qOf gcI
  rw [Rat.num_divInt, Int.sign_eq_one_of_pos h, Int.one_mul, Int.gcd_comm, Int.fdiv_eq_ediv_of_nonneg _ (by omega)]
theorem q_den {t b : Int} (h : 0 < b) : b.fdiv (gcI t b) = ((qOf t b).den : Int) := by
  unfold qOf gcI
  rw [Rat.den_divInt, if_neg (by omega), Int.gcd_comm, Int.fdiv_eq_ediv_of_nonneg _ (by omega), Int.natCast_ediv]
  congr 1
  omega
theorem q_neg (t b : Int) : qOf (-t) (-b) = qOf t b := by
  exact Rat.neg_divInt_neg t b
theorem q_num' {t b : Int} (h : b < 0) : (0 - t).fdiv (gcI t b) = (qOf t b).num := by
  have := q_num (t := -t) (b := -b) (by omega)
  rw [gcI_neg, gcI_neg2, q_neg] at this
  rw [Int.zero_sub]; exact this
theorem q_den' {t b : Int} (h : b < 0) : (0 - b).fdiv (gcI t b) = ((qOf t b).den : Int) := by
  have := q_den (t := -t) (b := -b) (by omega)
  rw [gcI_neg, gcI_neg2, q_neg] at this
  rw [Int.zero_sub]; exact this
theorem gcI_dvd (t b : Int) : gcI t b ∣ t := by unfold gcI; exact Int.gcd_dvd_left ..
theorem gcI_dvd2 (t b : Int) : gcI t b ∣ b := by unfold gcI; exact Int.gcd_dvd_right ..
theorem fdiv_swap {t g : Int} (h : g ∣ t) (hg : g ≠ 0) : t.fdiv (0 - g) = (0 - t).fdiv g := by
  obtain ⟨c, rfl⟩ := h
  have e1 : g * c = (0 - g) * (-c) := by rw [Int.mul_neg, ← Int.neg_mul]; congr 1; omega
  have e2 : 0 - g * c = g * (-c) := by rw [Int.mul_neg]; omega
  rw [e2, Int.mul_fdiv_cancel_left _ hg, e1, Int.mul_fdiv_cancel_left _ (by omega)]
theorem q_num'' {t b : Int} (h : b < 0) : t.fdiv (0 - gcI t b) = (qOf t b).num := by
  rw [← q_num' h, fdiv_swap (gcI_dvd t b)]
  have := gcI_pos (t := t) (b := b) (by omega)
  omega
theorem q_den'' {t b : Int} (h : b < 0) : b.fdiv (0 - gcI t b) = ((qOf t b).den : Int) := by
  rw [← q_den' h, fdiv_swap (gcI_dvd2 t b)]
  have := gcI_pos (t := t) (b := b) (by omega)
  omega
theorem frac_red (q : Rat) : gcI q.num (q.den : Int) = 1 := by
  unfold gcI Int.gcd
  have := q.reduced
  unfold Nat.Coprime at this
  rw [Int.natAbs_natCast]
  exact congrArg Int.ofNat this
theorem q_self (q : Rat) : qOf q.num q.den = q := Rat.num_divInt_den q
theorem fr_inj {p q : Rat} (h : p.num = q.num) (h2 : (p.den : Int) = q.den) : p = q := by
  apply Rat.ext h; omega
/-- one that is in least terms -/
theorem q_least {t b : Int} (hb : 0 < b) (h : gcI t b = 1) : (qOf t b).num = t ∧ ((qOf t b).den : Int) = b := by
  rw [← q_num hb, ← q_den hb, h, Int.fdiv_one, Int.fdiv_one]; exact ⟨rfl, rfl⟩
theorem q_add {a b c d : Int} (hb : b ≠ 0) (hd : d ≠ 0) : qOf (a * d + c * b) (b * d) = qOf a b + qOf c d := (Rat.divInt_add_divInt a c hb hd).symm
theorem q_sub {a b c d : Int} (hb : b ≠ 0) (hd : d ≠ 0) : qOf (a * d - c * b) (b * d) = qOf a b - qOf c d := (Rat.divInt_sub_divInt a c hb hd).symm
theorem q_mul {a b c d : Int} : qOf (a * c) (b * d) = qOf a b * qOf c d := (Rat.divInt_mul_divInt a c).symm
theorem q_div {a b c d : Int} : qOf (a * d) (b * c) = qOf a b / qOf c d := by
  rw [Rat.div_def, Rat.inv_divInt, Rat.divInt_mul_divInt]
theorem q_add' (p q : Rat) : qOf (p.num * q.den + q.num * p.den) (p.den * q.den) = p + q := by
  rw [q_add (by have := den_pos p; omega) (by have := den_pos q; omega), q_self, q_self]
theorem q_sub' (p q : Rat) : qOf (p.num * q.den - q.num * p.den) (p.den * q.den) = p - q := by
  rw [q_sub (by have := den_pos p; omega) (by have := den_pos q; omega), q_self, q_self]
theorem q_mul' (p q : Rat) : qOf (p.num * q.num) (p.den * q.den) = p * q := by rw [q_mul, q_self, q_self]
theorem q_div' (p q : Rat) : qOf (p.num * q.den) (p.den * q.num) = p / q := by rw [q_div, q_self, q_self]
theorem q_lt' (p q : Rat) : p.num * q.den < q.num * p.den ↔ p < q := (Rat.lt_iff p q).symm
theorem q_parts {t b : Int} (h : 0 < b) : t = (qOf t b).num * gcI t b ∧ b = (qOf t b).den * gcI t b := by
  have hg := gcI_pos (t := t) (b := b) (by omega)
  rw [← q_num h, ← q_den h]
  constructor
  · rw [Int.fdiv_mul_cancel (gcI_dvd t b)]
  · rw [Int.fdiv_mul_cancel (gcI_dvd2 t b)]
theorem q_floor {t b : Int} (h : 0 < b) : (qOf t b).floor = t / b := by
  have hg := gcI_pos (t := t) (b := b) (by omega)
  obtain ⟨h1, h2⟩ := q_parts (t := t) h
  rw [Rat.floor_def]
  generalize (qOf t b).num = x at *
  generalize ((qOf t b).den : Int) = y at *
  generalize gcI t b = z at *
  subst h1 h2
  rw [Int.mul_ediv_mul_of_pos_left _ _ hg]
theorem q_two (m : Nat) (p : Rat) : p * 2 ^ m = qOf (p.num * 2 ^ m) p.den := by
  have : (2 : Rat) ^ m = qOf (2 ^ m) 1 := by
    rw [qOf, Rat.divInt_eq_div, Rat.intCast_pow]
    have : (1 : Rat)⁻¹ = 1 := by decide +kernel
    simp [Rat.div_def, this]
  rw [this]
  conv => lhs; lhs; rw [← q_self p]
  rw [← q_mul, Int.mul_one]
theorem fdiv_floor (p : Rat) (m : Nat) : (p.num * 2 ^ m).fdiv p.den = (p * 2 ^ m).floor := by
  rw [q_two, q_floor (den_pos p), Int.fdiv_eq_ediv_of_nonneg _ (by omega)]
theorem fdiv_ceil (p : Rat) (m : Nat) : 0 - (0 - (p.num * 2 ^ m)).fdiv p.den = (p * 2 ^ m).ceil := by
  have := fdiv_floor (-p) m
  rw [Rat.neg_num, Rat.neg_den, Int.neg_mul] at this
  rw [Rat.ceil_eq_neg_floor_neg, ← Rat.neg_mul, ← this, Int.zero_sub, Int.zero_sub]
theorem okEq_frD (q : Rat) : (frD q).okEq = true := rfl
theorem beq_frD (p q : Rat) : (frD p).beq (frD q) = decide (p = q) := by
  show (p.num == q.num && ((p.den : Int) == (q.den : Int) && true)) = _
  rw [Bool.and_true]
  by_cases h : p = q
  · subst h; simp
  · rw [decide_eq_false h]
    rw [Bool.and_eq_false_iff]
    by_cases h1 : p.num = q.num
    · right
      have : ¬ ((p.den : Int) = q.den) := fun h2 => h (fr_inj h1 h2)
      simpa using this
    · left; simpa using h1
theorem frD_one (t : Int) : frD (qOf t 1) = .tup [.int t, .int 1] := by
  obtain ⟨h1, h2⟩ := q_least (t := t) (b := 1) (by decide) (by unfold gcI; rw [Int.gcd_one_right]; rfl)
  unfold frD
  rw [h1, h2]
theorem ceil_up (q : Rat) (m : Nat) : (q * 2 ^ m).ceil = (q * 2 ^ m).floor + if (q * 2 ^ m).floor * q.den = q.num * 2 ^ m then 0 else 1 := by
  rw [← fdiv_ceil, ← fdiv_floor]
  have hd := den_pos q
  generalize (q.den : Int) = d at *
  generalize q.num * 2 ^ m = N
  rw [Int.fdiv_eq_ediv_of_nonneg _ (by omega), Int.fdiv_eq_ediv_of_nonneg _ (by omega), Int.zero_sub, Int.zero_sub, Int.neg_ediv, Int.sign_eq_one_of_pos hd]
  by_cases h : d ∣ N
  · rw [if_pos h, if_pos (Int.ediv_mul_cancel h)]; omega
  · rw [if_neg h, if_neg fun e => h ⟨N / d, by rw [Int.mul_comm]; exact e.symm⟩]; omega
end Z

set_option Elab.async false
set_option linter.all false
set_option maxRecDepth 100000
/-! ZQ: multiples of 1 / 2 ^ m next to a fraction. -/
namespace Z
open PySem
theorem two_pos (m : Nat) : (0 : Rat) < 2 ^ m := Rat.pow_pos (by decide)
theorem qOf_two (z : Int) (m : Nat) : qOf z (2 ^ m) = (z : Rat) / 2 ^ m := by
  rw [qOf, Rat.divInt_eq_div, Rat.intCast_pow]; rfl
theorem qOf_two_mul (z : Int) (m : Nat) : qOf z (2 ^ m) * 2 ^ m = (z : Rat) := by
  rw [qOf_two, Rat.div_mul_cancel]
  have := two_pos m
  exact fun h => by rw [h] at this; exact absurd this (by decide)
/-- the next multiples down and up -/
def fl (p : Rat) (m : Nat) : Rat := qOf (p * 2 ^ m).floor (2 ^ m)
def cl (p : Rat) (m : Nat) : Rat := qOf (p * 2 ^ m).ceil (2 ^ m)
theorem fl_mul (p : Rat) (m : Nat) : fl p m * 2 ^ m = ((p * 2 ^ m).floor : Rat) := qOf_two_mul _ _
theorem cl_mul (p : Rat) (m : Nat) : cl p m * 2 ^ m = ((p * 2 ^ m).ceil : Rat) := qOf_two_mul _ _
theorem mul2_le {a b : Rat} (m : Nat) : a * 2 ^ m ≤ b * 2 ^ m ↔ a ≤ b := ⟨fun h => Rat.le_of_mul_le_mul_right h (two_pos m), fun h => Rat.mul_le_mul_of_nonneg_right h (Rat.le_of_lt (two_pos m))⟩
theorem mul2_inj {a b : Rat} (m : Nat) (h : a * 2 ^ m = b * 2 ^ m) : a = b :=
  Rat.le_antisymm ((mul2_le m).1 (by rw [h]; exact Rat.le_refl)) ((mul2_le m).1 (by rw [h]; exact Rat.le_refl))
theorem fl_le (p : Rat) (m : Nat) : fl p m ≤ p := by
  rw [← mul2_le m, fl_mul]; exact Rat.floor_le _
theorem le_cl (p : Rat) (m : Nat) : p ≤ cl p m := by
  rw [← mul2_le m, cl_mul]; exact Rat.le_ceil
/-- a is a multiple of 1 / 2 ^ m -/
def Mul2 (a : Rat) (m : Nat) : Prop := ∃ z : Int, a * 2 ^ m = (z : Rat)
theorem fl_mul2 (p : Rat) (m : Nat) : Mul2 (fl p m) m := ⟨_, fl_mul p m⟩
theorem cl_mul2 (p : Rat) (m : Nat) : Mul2 (cl p m) m := ⟨_, cl_mul p m⟩
theorem Mul2.mono {a : Rat} {m k : Nat} (h : Mul2 a m) (hk : m ≤ k) : Mul2 a k := by
  obtain ⟨z, hz⟩ := h
  refine ⟨z * 2 ^ (k - m), ?_⟩
  have e : (2 : Rat) ^ k = 2 ^ m * 2 ^ (k - m) := by
    have : k = m + (k - m) := by omega
    conv => lhs; rw [this]
    induction k - m with
    | zero => rw [Nat.add_zero, Rat.pow_zero, Rat.mul_one]
    | succ n ih => rw [← Nat.add_assoc, Rat.pow_succ, ih, Rat.pow_succ, Rat.mul_assoc]
  rw [e, ← Rat.mul_assoc, hz, Rat.intCast_mul, Rat.intCast_pow]; rfl
theorem le_fl {a p : Rat} {m : Nat} (h : Mul2 a m) (hp : a ≤ p) : a ≤ fl p m := by
  obtain ⟨z, hz⟩ := h
  rw [← mul2_le m, fl_mul, hz, Rat.intCast_le_intCast, Rat.le_floor_iff, ← hz, mul2_le]; exact hp
theorem cl_le {a p : Rat} {m : Nat} (h : Mul2 a m) (hp : p ≤ a) : cl p m ≤ a := by
  obtain ⟨z, hz⟩ := h
  rw [← mul2_le m, cl_mul, hz, Rat.intCast_le_intCast, Rat.ceil_le_iff, ← hz, mul2_le]; exact hp
theorem fl_self {a : Rat} {m : Nat} (h : Mul2 a m) : fl a m = a := Rat.le_antisymm (fl_le a m) (le_fl h Rat.le_refl)
theorem cl_self {a : Rat} {m : Nat} (h : Mul2 a m) : cl a m = a := Rat.le_antisymm (cl_le h Rat.le_refl) (le_cl a m)
theorem fl_fl (p : Rat) {m k : Nat} (h : m ≤ k) : fl (fl p m) k = fl p m := fl_self ((fl_mul2 p m).mono h)
theorem cl_cl (p : Rat) {m k : Nat} (h : m ≤ k) : cl (cl p m) k = cl p m := cl_self ((cl_mul2 p m).mono h)
theorem fl_mono (p : Rat) {m k : Nat} (h : m ≤ k) : fl p m ≤ fl p k := le_fl ((fl_mul2 p m).mono h) (fl_le p m)
theorem cl_mono (p : Rat) {m k : Nat} (h : m ≤ k) : cl p k ≤ cl p m := cl_le ((cl_mul2 p m).mono h) (le_cl p m)
theorem fl_mono' {p q : Rat} (m : Nat) (h : p ≤ q) : fl p m ≤ fl q m := le_fl (fl_mul2 p m) (Rat.le_trans (fl_le p m) h)
theorem cl_mono' {p q : Rat} (m : Nat) (h : p ≤ q) : cl p m ≤ cl q m := cl_le (cl_mul2 q m) (Rat.le_trans h (le_cl q m))
theorem fl_le_cl {p q : Rat} (m k : Nat) (h : p ≤ q) : fl p m ≤ cl q k := Rat.le_trans (fl_le p m) (Rat.le_trans h (le_cl q k))
end Z

set_option Elab.async false
set_option linter.all false
set_option maxRecDepth 100000
/-! ZR: powers of rational numbers, fractions by whole numbers. -/
namespace Z
open PySem
theorem pow_mono {a b : Rat} (h0 : 0 ≤ a) (h : a ≤ b) : ∀ n : Nat, a ^ n ≤ b ^ n
  | 0 => by rw [Rat.pow_zero, Rat.pow_zero]; exact Rat.le_refl
  | n + 1 => by
    rw [Rat.pow_succ, Rat.pow_succ]
    exact Rat.le_trans (Rat.mul_le_mul_of_nonneg_right (pow_mono h0 h n) h0) (Rat.mul_le_mul_of_nonneg_left h (Rat.pow_nonneg (Rat.le_trans h0 h)))
theorem neg_pow_even (a : Rat) : ∀ k : Nat, (-a) ^ (2 * k) = a ^ (2 * k)
  | 0 => by rw [Nat.mul_zero, Rat.pow_zero, Rat.pow_zero]
  | k + 1 => by
    rw [Nat.mul_succ, Rat.pow_succ, Rat.pow_succ, Rat.pow_succ, Rat.pow_succ, neg_pow_even a k]
    grind
theorem neg_pow_odd (a : Rat) (k : Nat) : (-a) ^ (2 * k + 1) = -(a ^ (2 * k + 1)) := by
  rw [Rat.pow_succ, Rat.pow_succ, neg_pow_even]
  grind
theorem even_nonneg (a : Rat) (k : Nat) : 0 ≤ a ^ (2 * k) := by
  rcases (Rat.le_total (a := 0) (b := a)) with h | h
  · exact Rat.pow_nonneg h
  · rw [← neg_pow_even]; exact Rat.pow_nonneg (by grind)
/-- odd powers rise -/
theorem pow_odd {a b : Rat} (h : a ≤ b) (k : Nat) : a ^ (2 * k + 1) ≤ b ^ (2 * k + 1) := by
  rcases (Rat.le_total (a := 0) (b := a)) with h0 | h0
  · exact pow_mono h0 h _
  · have h1 : a ^ (2 * k + 1) ≤ 0 := by
      have := neg_pow_odd a k
      have : 0 ≤ (-a) ^ (2 * k + 1) := Rat.pow_nonneg (by grind)
      grind
    rcases (Rat.le_total (a := 0) (b := b)) with h2 | h2
    · exact Rat.le_trans h1 (Rat.pow_nonneg h2)
    · have h3 := pow_mono (a := -b) (b := -a) (by grind) (by grind) (2 * k + 1)
      rw [neg_pow_odd, neg_pow_odd] at h3
      grind
/-- even powers fall below nought -/
theorem pow_even_neg {a b : Rat} (h : a ≤ b) (hb : b ≤ 0) (k : Nat) : b ^ (2 * k) ≤ a ^ (2 * k) := by
  have := pow_mono (a := -b) (b := -a) (by grind) (by grind) (2 * k)
  rw [neg_pow_even, neg_pow_even] at this
  exact this
/-- what holds the ends' powers holds all powers between -/
theorem pow_between {p q h lo hi : Rat} (h1 : p ≤ h) (h2 : h ≤ q) (m : Nat) (a1 : lo ≤ p ^ m ∧ p ^ m ≤ hi) (a2 : lo ≤ q ^ m ∧ q ^ m ≤ hi) (a3 : 0 < m → m % 2 = 0 → p ≤ 0 → 0 ≤ q → lo ≤ 0) : lo ≤ h ^ m ∧ h ^ m ≤ hi := by
  rcases Nat.mod_two_eq_zero_or_one m with e | e
  · obtain ⟨k, rfl⟩ : ∃ k, m = 2 * k := ⟨m / 2, by omega⟩
    by_cases hk : k = 0
    · subst hk; rw [Nat.mul_zero, Rat.pow_zero] at *; exact a1
    rcases (Rat.le_total (a := 0) (b := p)) with hp | hp
    · exact ⟨Rat.le_trans a1.1 (pow_mono hp h1 _), Rat.le_trans (pow_mono (Rat.le_trans hp h1) h2 _) a2.2⟩
    rcases (Rat.le_total (a := q) (b := 0)) with hq | hq
    · exact ⟨Rat.le_trans a2.1 (pow_even_neg h2 hq k), Rat.le_trans (pow_even_neg h1 (Rat.le_trans h2 hq) k) a1.2⟩
    refine ⟨Rat.le_trans (a3 (by omega) (by omega) hp hq) (even_nonneg h k), ?_⟩
    rcases (Rat.le_total (a := 0) (b := h)) with hh | hh
    · exact Rat.le_trans (pow_mono hh h2 _) a2.2
    · exact Rat.le_trans (pow_even_neg h1 hh k) a1.2
  · obtain ⟨k, rfl⟩ : ∃ k, m = 2 * k + 1 := ⟨m / 2, by omega⟩
    exact ⟨Rat.le_trans a1.1 (pow_odd h1 k), Rat.le_trans (pow_odd h2 k) a2.2⟩
theorem le_qOf {x : Rat} {t b : Int} (hb : 0 < b) : x ≤ qOf t b ↔ x.num * b ≤ t * x.den := by
  obtain ⟨h1, h2⟩ := q_parts (t := t) hb
  have hg := gcI_pos (t := t) (b := b) (by omega)
  rw [Rat.le_iff]
  generalize (qOf t b).num = N at *
  generalize ((qOf t b).den : Int) = M at *
  generalize gcI t b = z at *
  subst h1 h2
  have e1 : x.num * (M * z) = x.num * M * z := by grind
  have e2 : N * z * x.den = N * x.den * z := by grind
  rw [e1, e2]
  exact ⟨fun h => Int.mul_le_mul_of_nonneg_right h (by omega), fun h => Int.le_of_mul_le_mul_right h hg⟩
theorem qOf_le {x : Rat} {t b : Int} (hb : 0 < b) : qOf t b ≤ x ↔ t * x.den ≤ x.num * b := by
  obtain ⟨h1, h2⟩ := q_parts (t := t) hb
  have hg := gcI_pos (t := t) (b := b) (by omega)
  rw [Rat.le_iff]
  generalize (qOf t b).num = N at *
  generalize ((qOf t b).den : Int) = M at *
  generalize gcI t b = z at *
  subst h1 h2
  have e1 : x.num * (M * z) = x.num * M * z := by grind
  have e2 : N * z * x.den = N * x.den * z := by grind
  rw [e1, e2]
  exact ⟨fun h => Int.mul_le_mul_of_nonneg_right h (by omega), fun h => Int.le_of_mul_le_mul_right h hg⟩
/-- a number held, by eighths -/
theorem held_between {p q : Rat} (h : p ≤ q) {s : Int} (h0 : 0 ≤ s) (h8 : s ≤ 8) : p ≤ qOf (p.num * q.den * (8 - s) + q.num * p.den * s) (8 * p.den * q.den) ∧ qOf (p.num * q.den * (8 - s) + q.num * p.den * s) (8 * p.den * q.den) ≤ q := by
  have d1 := den_pos p
  have d2 := den_pos q
  have hb : (0 : Int) < 8 * p.den * q.den := Int.mul_pos (Int.mul_pos (by decide) d1) d2
  rw [le_qOf hb, qOf_le hb]
  have hl := (Rat.le_iff p q).1 h
  generalize (p.den : Int) = d at *
  generalize (q.den : Int) = e at *
  generalize p.num = a at *
  generalize q.num = b at *
  have m1 := Int.mul_le_mul_of_nonneg_right hl h0
  have m2 := Int.mul_le_mul_of_nonneg_right hl (show 0 ≤ 8 - s by omega)
  constructor
  · have e1 : a * (8 * d * e) = (a * e * (8 - s) + a * e * s) * d := by grind
    rw [e1]
    exact Int.mul_le_mul_of_nonneg_right (by omega) (by omega)
  · have e1 : b * (8 * d * e) = (b * d * (8 - s) + b * d * s) * e := by grind
    rw [e1]
    exact Int.mul_le_mul_of_nonneg_right (by omega) (by omega)
theorem abs_between_ {p q h lo hi a b c : Rat} (ha : a = if p < 0 then -p else p) (hbq : b = if q < 0 then -q else q) (hc : c = if h < 0 then -h else h) (h1 : p ≤ h) (h2 : h ≤ q) (a1 : lo ≤ a ∧ a ≤ hi) (a2 : lo ≤ b ∧ b ≤ hi) (a3 : p ≤ 0 → 0 ≤ q → lo ≤ 0) : lo ≤ c ∧ c ≤ hi := by
  subst ha hbq hc
  split at a1 <;> split at a2 <;> split <;> constructor <;> grind
end Z

set_option Elab.async false
set_option linter.all false
set_option maxRecDepth 100000
/-! ZN: roots by Newton's steps, by whole numbers. -/
namespace Z
theorem pow_le_pow {a b : Nat} (h : a ≤ b) (n : Nat) : a ^ n ≤ b ^ n := Nat.pow_le_pow_left h n
theorem le_of_pow {a b n : Nat} (hn : 0 < n) (h : a ^ n ≤ b ^ n) : a ≤ b := by
  rcases Nat.lt_or_ge b a with hl | hl
  · have := Nat.pow_lt_pow_left hl (show n ≠ 0 by omega)
    omega
  · exact hl
theorem root_ex (W n : Nat) (hn : 0 < n) : ∃ R : Nat, R ^ n ≤ W ∧ W < (R + 1) ^ n := by
  have key : ∀ b : Nat, W < (b + 1) ^ n → ∃ R : Nat, R ^ n ≤ W ∧ W < (R + 1) ^ n := by
    intro b
    induction b with
    | zero => intro h; exact ⟨0, by rw [Nat.zero_pow hn]; exact Nat.zero_le _, h⟩
    | succ b ih =>
      intro h
      by_cases hb : (b + 1) ^ n ≤ W
      · exact ⟨b + 1, hb, h⟩
      · exact ih (by omega)
  refine key W ?_
  have : (W + 1) ^ 1 ≤ (W + 1) ^ n := Nat.pow_le_pow_right (by omega) hn
  rw [Nat.pow_one] at this
  omega
theorem diff_pos (x R : Int) (hx : 0 ≤ x) (hR : 0 ≤ R) (n : Nat) : 0 ≤ (x - R) * (x ^ n - R ^ n) := by
  have mono : ∀ a b : Int, 0 ≤ a → a ≤ b → a ^ n ≤ b ^ n := by
    intro a b h0 h
    induction n with
    | zero => rw [Int.pow_zero, Int.pow_zero]; omega
    | succ n ih =>
      rw [Int.pow_succ, Int.pow_succ]
      exact Int.mul_le_mul ih h h0 (Int.pow_nonneg (by omega))
  rcases Int.le_total R x with h | h
  · exact Int.mul_nonneg (by omega) (by have := mono R x hR h; omega)
  · have h2 := mono x R hx h
    have e : (x - R) * (x ^ n - R ^ n) = (R - x) * (R ^ n - x ^ n) := by grind
    rw [e]
    exact Int.mul_nonneg (by omega) (by omega)
/-- the mean -/
theorem mean (x R : Int) (hx : 0 ≤ x) (hR : 0 ≤ R) : ∀ k : Nat, ((k : Int) + 1) * R * x ^ k ≤ (k : Int) * x ^ (k + 1) + R ^ (k + 1)
  | 0 => by simp [Int.pow_succ]
  | k + 1 => by
    have ih := mean x R hx hR k
    have m1 := Int.mul_nonneg hx (show 0 ≤ (k : Int) * x ^ (k + 1) + R ^ (k + 1) - ((k : Int) + 1) * R * x ^ k by omega)
    have m2 := diff_pos x R hx hR (k + 1)
    have e1 : x ^ (k + 1) = x ^ k * x := Int.pow_succ ..
    have e2 : x ^ (k + 1 + 1) = x ^ k * x * x := by rw [Int.pow_succ, e1]
    have e3 : R ^ (k + 1 + 1) = R ^ (k + 1) * R := Int.pow_succ ..
    rw [e1] at m1 m2
    rw [e2, e3, e1]
    generalize x ^ k = c at *
    generalize R ^ (k + 1) = b at *
    have e4 : ((k + 1 : Nat) : Int) = (k : Int) + 1 := by omega
    rw [e4]
    generalize (k : Int) = t at *
    grind
/-- Newton's step from x -/
def nstep (n W x : Nat) : Nat := ((n - 1) * x + W / x ^ (n - 1)) / n
theorem nstep_ge {n W x R : Nat} (hn : 2 ≤ n) (hx : 0 < x) (h : R ^ n ≤ W) : R ≤ nstep n W x := by
  unfold nstep
  rw [Nat.le_div_iff_mul_le (by omega)]
  have hp : 0 < x ^ (n - 1) := Nat.pow_pos hx
  rcases Nat.lt_or_ge (R * n) ((n - 1) * x) with hl | hl
  · have := Nat.zero_le (W / x ^ (n - 1)); omega
  have : R * n - (n - 1) * x ≤ W / x ^ (n - 1) := by
    rw [Nat.le_div_iff_mul_le hp]
    have m := mean (x : Int) (R : Int) (by omega) (by omega) (n - 1)
    obtain ⟨k, rfl⟩ : ∃ k, n = k + 1 := ⟨n - 1, by omega⟩
    simp only [Nat.add_sub_cancel] at *
    have m' : (k + 1) * R * x ^ k ≤ k * x ^ (k + 1) + R ^ (k + 1) := by
      have e : (((k + 1) * R * x ^ k : Nat) : Int) ≤ ((k * x ^ (k + 1) + R ^ (k + 1) : Nat) : Int) := by
        simp only [Int.natCast_mul, Int.natCast_add, Int.natCast_pow, Int.natCast_one]
        exact m
      exact Int.ofNat_le.1 e
    rw [Nat.sub_mul]
    have e1 : k * x * x ^ k = k * x ^ (k + 1) := by rw [Nat.pow_succ, Nat.mul_assoc, Nat.mul_comm x]
    have e2 : R * (k + 1) * x ^ k = (k + 1) * R * x ^ k := by rw [Nat.mul_comm R]
    rw [e1, e2]
    omega
  omega
theorem nstep_lt {n W x : Nat} (hn : 2 ≤ n) (hx : 0 < x) (h : W < x ^ n) : nstep n W x < x := by
  unfold nstep
  rw [Nat.div_lt_iff_lt_mul (by omega)]
  have hp : 0 < x ^ (n - 1) := Nat.pow_pos hx
  have : W / x ^ (n - 1) < x := by
    rw [Nat.div_lt_iff_lt_mul hp]
    have e : x * x ^ (n - 1) = x ^ n := by
      rw [Nat.mul_comm, ← Nat.pow_succ]; congr 1; omega
    rw [e]; exact h
  have e : x * n = (n - 1) * x + x := by
    obtain ⟨k, rfl⟩ : ∃ k, n = k + 1 := ⟨n - 1, by omega⟩
    rw [Nat.add_sub_cancel, Nat.mul_comm, Nat.add_mul, Nat.one_mul]
  omega
/-- where a step no longer falls, that is the root -/
theorem nstep_end {n W x R : Nat} (hn : 2 ≤ n) (hx : 0 < x) (h1 : R ^ n ≤ W) (h2 : W < (R + 1) ^ n) (hR : R ≤ x) (h : ¬ nstep n W x < x) : x = R := by
  rcases Nat.lt_or_ge R x with hl | hl
  · exact absurd (nstep_lt hn hx (Nat.lt_of_lt_of_le h2 (Nat.pow_le_pow_left (by omega) n))) h
  · omega
theorem nstep_int (n W x : Nat) : (((n - 1 : Nat) : Int) * (x : Int) + (W : Int).fdiv ((x : Int) ^ (n - 1))).fdiv (n : Int) = ((nstep n W x : Nat) : Int) := by
  unfold nstep
  rw [Int.fdiv_eq_ediv_of_nonneg _ (by omega), Int.fdiv_eq_ediv_of_nonneg _ (Int.pow_nonneg (by omega)), Int.natCast_ediv, Int.natCast_add, Int.natCast_mul, Int.natCast_ediv, Int.natCast_pow]
end Z

set_option Elab.async false
set_option linter.all false
set_option maxRecDepth 100000
/-! ZT: what two bounds come to. -/
namespace Z
theorem lin_lo {a b x c lo : Rat} (h1 : a ≤ x) (h2 : x ≤ b) (ha : lo ≤ a * c) (hb : lo ≤ b * c) : lo ≤ x * c := by
  rcases (Rat.le_total (a := 0) (b := c)) with hc | hc
  · exact Rat.le_trans ha (Rat.mul_le_mul_of_nonneg_right h1 hc)
  · have := Rat.mul_le_mul_of_nonneg_right h2 (show 0 ≤ -c by grind)
    have e1 : x * -c = -(x * c) := by grind
    have e2 : b * -c = -(b * c) := by grind
    grind
theorem lin_hi {a b x c hi : Rat} (h1 : a ≤ x) (h2 : x ≤ b) (ha : a * c ≤ hi) (hb : b * c ≤ hi) : x * c ≤ hi := by
  have := lin_lo (c := c) (lo := -hi) (a := -b) (b := -a) (x := -x) (by grind) (by grind) (by grind) (by grind)
  grind
/-- products -/
theorem mul_between {p q r s x y lo hi : Rat} (hx1 : p ≤ x) (hx2 : x ≤ q) (hy1 : r ≤ y) (hy2 : y ≤ s) (h1 : lo ≤ p * r ∧ p * r ≤ hi) (h2 : lo ≤ p * s ∧ p * s ≤ hi) (h3 : lo ≤ q * r ∧ q * r ≤ hi) (h4 : lo ≤ q * s ∧ q * s ≤ hi) : lo ≤ x * y ∧ x * y ≤ hi := by
  have c : ∀ a b : Rat, a * b = b * a := Rat.mul_comm
  constructor
  · refine lin_lo hx1 hx2 ?_ ?_
    · rw [c]; exact lin_lo hy1 hy2 (by rw [c]; exact h1.1) (by rw [c]; exact h2.1)
    · rw [c]; exact lin_lo hy1 hy2 (by rw [c]; exact h3.1) (by rw [c]; exact h4.1)
  · refine lin_hi hx1 hx2 ?_ ?_
    · rw [c]; exact lin_hi hy1 hy2 (by rw [c]; exact h1.2) (by rw [c]; exact h2.2)
    · rw [c]; exact lin_hi hy1 hy2 (by rw [c]; exact h3.2) (by rw [c]; exact h4.2)
theorem ne_of_pos {a : Rat} (h : 0 < a) : a ≠ 0 := fun e => by rw [e] at h; exact absurd h (by decide)
theorem inv_anti {a b : Rat} (h0 : 0 < a) (h : a ≤ b) : b⁻¹ ≤ a⁻¹ := by
  have hb : 0 < b := by grind
  have ia := Rat.inv_pos.2 h0
  have ib := Rat.inv_pos.2 hb
  have ea := Rat.mul_inv_cancel a (ne_of_pos h0)
  have eb := Rat.mul_inv_cancel b (ne_of_pos hb)
  have h1 := Rat.mul_le_mul_of_nonneg_right h (Rat.le_of_lt (Rat.mul_pos ia ib))
  have e1 : a * (a⁻¹ * b⁻¹) = b⁻¹ := by rw [← Rat.mul_assoc, ea, Rat.one_mul]
  have e2 : b * (a⁻¹ * b⁻¹) = a⁻¹ := by rw [Rat.mul_comm a⁻¹, ← Rat.mul_assoc, eb, Rat.one_mul]
  rw [e1, e2] at h1
  exact h1
theorem inv_neg_ {a : Rat} (h : a ≠ 0) : (-a)⁻¹ = -(a⁻¹) := by
  apply Rat.inv_eq_of_mul_eq_one
  have := Rat.mul_inv_cancel a h
  grind
theorem inv_between {r s y : Rat} (h1 : r ≤ y) (h2 : y ≤ s) (h : 0 < r ∨ s < 0) : s⁻¹ ≤ y⁻¹ ∧ y⁻¹ ≤ r⁻¹ := by
  rcases h with h | h
  · exact ⟨inv_anti (by grind) h2, inv_anti h h1⟩
  · have n1 : y ≠ 0 := by grind
    have n2 : s ≠ 0 := by grind
    have n3 : r ≠ 0 := by grind
    have a1 := inv_anti (a := -s) (b := -y) (by grind) (by grind)
    have a2 := inv_anti (a := -y) (b := -r) (by grind) (by grind)
    rw [inv_neg_ n1, inv_neg_ n2] at a1
    rw [inv_neg_ n1, inv_neg_ n3] at a2
    grind
/-- quotients -/
theorem div_between {p q r s x y lo hi : Rat} (hx1 : p ≤ x) (hx2 : x ≤ q) (hy1 : r ≤ y) (hy2 : y ≤ s) (h0 : 0 < r ∨ s < 0) (h1 : lo ≤ p / r ∧ p / r ≤ hi) (h2 : lo ≤ p / s ∧ p / s ≤ hi) (h3 : lo ≤ q / r ∧ q / r ≤ hi) (h4 : lo ≤ q / s ∧ q / s ≤ hi) : lo ≤ x / y ∧ x / y ≤ hi := by
  obtain ⟨i1, i2⟩ := inv_between hy1 hy2 h0
  rw [Rat.div_def] at *
  exact mul_between hx1 hx2 i1 i2 h2 h1 h4 h3
def qmin (a b : Rat) : Rat := if b < a then b else a
def qmax (a b : Rat) : Rat := if a < b then b else a
theorem qmin_of {a b m : Rat} (h : m = a ∨ m = b) (h1 : m ≤ a) (h2 : m ≤ b) : m = qmin a b := by
  unfold qmin; split <;> grind
theorem qmax_of {a b m : Rat} (h : m = a ∨ m = b) (h1 : a ≤ m) (h2 : b ≤ m) : m = qmax a b := by
  unfold qmax; split <;> grind
theorem qmin_between {p q r s x y : Rat} (hx1 : p ≤ x) (hx2 : x ≤ q) (hy1 : r ≤ y) (hy2 : y ≤ s) : qmin p r ≤ qmin x y ∧ qmin x y ≤ qmin q s := by
  unfold qmin; split <;> split <;> split <;> grind
theorem qmax_between {p q r s x y : Rat} (hx1 : p ≤ x) (hx2 : x ≤ q) (hy1 : r ≤ y) (hy2 : y ≤ s) : qmax p r ≤ qmax x y ∧ qmax x y ≤ qmax q s := by
  unfold qmax; split <;> split <;> split <;> grind
end Z

set_option Elab.async false
set_option linter.all false
set_option maxRecDepth 100000
/-! the rules in bundles -/
namespace Z
open PySem
def Ep0 := And.intro @we_var (And.intro @we_con (And.intro @we_prim (And.intro @we_and (And.intro @we_or (And.intro @we_ite (And.intro @we_chain (And.intro @we_call (And.intro @we_callv (And.intro @we_lam (And.intro @we_callp (@we_cget)))))))))))
def Ep1 := And.intro @we_cix (And.intro @we_cin (And.intro @we_hget (And.intro @we_nil (And.intro @we_cons (And.intro @ws_nil (And.intro @ws_cons (And.intro @ws_set (And.intro @ws_unp (And.intro @ws_par (And.intro @ws_expr (@ws_ret)))))))))))
def Ep2 := And.intro @ws_retN (And.intro @ws_rais (And.intro @ws_pass (And.intro @ws_brk (And.intro @ws_cnt (And.intro @ws_try (And.intro @ws_hset (And.intro @ws_setix (And.intro @ws_ins (And.intro @ws_clr (And.intro @ws_ownc (@ws_augV)))))))))))
def Ep3 := And.intro @W_run (And.intro @W_ok (And.intro @W_exc (And.intro @W_whlS (And.intro @W_for (And.intro @ow_ixL (And.intro @BW_tt (And.intro @BW_ff (And.intro @BW_dec (And.intro @BW_not (And.intro @OW_some (@ow_add)))))))))))
def Ep4 := And.intro @ow_sub (And.intro @ow_mul (And.intro @ow_fdiv (And.intro @ow_mod (And.intro @ow_pow (And.intro @ow_shl (And.intro @ow_shr (And.intro @ow_band (And.intro @ow_lt (And.intro @ow_le (And.intro @ow_gt (@ow_ge)))))))))))
def Ep5 := And.intro @ow_eqI (And.intro @ow_neI (And.intro @ow_isN (And.intro @ow_notN (And.intro @ow_isBt (And.intro @ow_isBf (And.intro @ow_notBt (And.intro @ow_notBf (And.intro @ow_neg (And.intro @ow_not (And.intro @ow_tup2 (@ow_abs)))))))))))
def Ep6 := And.intro @ow_lenT (And.intro @ow_lenL (And.intro @ow_lenF (And.intro @ow_min (And.intro @ow_max (And.intro @ow_toInt (And.intro @ow_toIntB (And.intro @ow_addL (And.intro @ow_addLL (And.intro @ow_addT (And.intro @ow_mulL (@ow_mulT)))))))))))
def Ep7 := And.intro @ow_slo (And.intro @ow_sloT (And.intro @ow_shiL (And.intro @ow_shiT (And.intro @ow_slbL (And.intro @ow_slbT (And.intro @ow_toLstL (And.intro @ow_toLstT (And.intro @ow_toTupL (And.intro @ow_toTupT (And.intro @ow_revL (@ow_revLL)))))))))))
def Ep8 := And.intro @ow_revT (And.intro @ow_repr (And.intro @ow_tup3 (And.intro @ow_ix2 (And.intro @ow_tupRg (And.intro @ow_lst (And.intro @ow_ix0 (@ow_ix1)))))))
def Eq0 := And.intro @ws_par0 (And.intro @augI (And.intro @frz_own (And.intro @Stop_ok (And.intro @Stop_exc (And.intro @frz_go (And.intro @frz_nil (And.intro @frz_val (And.intro @frz_un (And.intro @frz_sv (And.intro @after_G (@afterG_nil)))))))))))
def Eq1 := And.intro @afterG_val (And.intro @afterG_un (And.intro @afterG_sv (And.intro @afterG_int (And.intro @afterG_bl (And.intro @afterG_hnd (And.intro @afterG_fr (And.intro @after_lst (And.intro @after_int (And.intro @after_bl (And.intro @after_non (@after_str)))))))))))
def Eq2 := @after_fr
end Z

set_option Elab.async false
set_option linter.all false
set_option maxRecDepth 100000
set_option maxHeartbeats 0
namespace Z.Law
open PySem PySem.Spec PyProof.Rows L2
def top (i : Nat) : Stmt := PySem.Challenge.pw_nearhall_k61_gaps_of_terms.main.body.getD i (.Pass ⟨0, 0, 0, 0⟩)
def cls : List Str := ([] : List (Str))
def fns : List Str := (["parts_of", "bits", "bits_of_two", "bits_of_root", "bits_in", "gap", "_law_mixed", "_law_row", "_law_next", "_law_fraction", "_law_number", "_law_term", "_law_bits", "_law_bits_in", "_law_gap", "_law_further", "_law_with", "law"] : List (Str))
def blt : List Str := ["isinstance", "abs", "len", "min", "max", "int", "bool", "tuple", "range", "zip"]
def gl : List (Str × GK) := ([("parts_of", .fn 0 1 [] ["term"] []), ("bits", .fn 1 1 [] ["number"] []), ("bits_of_two", .fn 2 3 [] ["word", "one", "other"] []), ("bits_of_root", .fn 3 2 [] ["n", "one"] []), ("bits_in", .fn 4 1 [] ["term"] []), ("gap", .fn 5 1 [] ["term"] []), ("_law_mixed", .fn 6 2 [] ["_law_cell", "_law_k"] []), ("_law_row", .fn 7 2 [] ["_law_script", "_law_k"] []), ("_law_next", .fn 8 2 [] ["_law_row_here", "_law_many"] []), ("_law_fraction", .fn 9 2 [] ["_law_top", "_law_bottom"] []), ("_law_number", .fn 10 1 [] ["_law_row_here"] []), ("_law_term", .fn 11 2 [] ["_law_row_here", "_law_deep"] []), ("_law_bits", .fn 12 1 [] ["_law_number_here"] []), ("_law_bits_in", .fn 13 1 [] ["_law_term_here"] []), ("_law_gap", .fn 14 1 [] ["_law_term_here"] []), ("_law_further", .fn 15 1 [] ["_law_row_here"] []), ("_law_with", .fn 16 3 [] ["_law_row_here", "_law_term_here", "_law_more"] []), ("law", .fn 17 1 [] ["_law_script"] []), ("__name__", .con (.str "law_nearhall_k61_gaps_of_terms")), ("WITHOUT", .con (.tup [(.str "name"), (.str "value"), (.str "turned"), (.str "area"), (.str "endless")]))] : List (Str × GK)) ++
  ([("FORMS", .dct ([("plus", (.str "tt")), ("less", (.str "tt")), ("times", (.str "tt")), ("over", (.str "tt")), ("least", (.str "tt")), ("most", (.str "tt")), ("far", (.str "t")), ("power", (.str "tn")), ("root", (.str "nt")), ("value", (.str "ft")), ("turned", (.str "ft")), ("area", (.str "ftt")), ("endless", (.str "rrt"))] : List (Str × D)))] : List (Str × GK))
def ks : Ks := ⟨([("NoneType", "bool", false), ("NoneType", "int", false), ("NoneType", "tuple", false), ("bool", "bool", true), ("bool", "int", true), ("bool", "tuple", false), ("int", "bool", false), ("int", "int", true), ("int", "tuple", false), ("str", "bool", false), ("str", "int", false), ("str", "tuple", false), ("tuple", "bool", false), ("tuple", "int", false), ("tuple", "tuple", true), ("list", "bool", false), ("list", "int", false), ("list", "tuple", false), ("dict", "bool", false), ("dict", "int", false)] : List (String × String × Bool)) ++
  ([("dict", "tuple", false)] : List (String × String × Bool)),
 ([] : List (String × Nat × Bool)),
 ([] : List (Nat × String × Bool)),
 ([] : List (Nat × Nat × Bool))⟩
/-- parts_of -/
def N0 : List Str := (["term", "kind", "part"] : List (Str))
def t0 : FD := ⟨1, 3, (.cons (.ite [0] (.cin true ([("plus", (.str "tt")), ("less", (.str "tt")), ("times", (.str "tt")), ("over", (.str "tt")), ("least", (.str "tt")), ("most", (.str "tt")), ("far", (.str "t")), ("power", (.str "tn")), ("root", (.str "nt")), ("value", (.str "ft")), ("turned", (.str "ft")), ("area", (.str "ftt")), ("endless", (.str "rrt"))] : List (Str × D)) (.prim .ix (.cons (.var 0) (.cons (.con (.int 0)) .nil)))) (.cons (.ret [] (.prim .mkLst .nil)) .nil) .nil) (.cons (.ret [0, 0, 1, 2] (.comp .zip (.cons (.cix ([("plus", (.str "tt")), ("less", (.str "tt")), ("times", (.str "tt")), ("over", (.str "tt")), ("least", (.str "tt")), ("most", (.str "tt")), ("far", (.str "t")), ("power", (.str "tn")), ("root", (.str "nt")), ("value", (.str "ft")), ("turned", (.str "ft")), ("area", (.str "ftt")), ("endless", (.str "rrt"))] : List (Str × D)) (.prim .ix (.cons (.var 0) (.cons (.con (.int 0)) .nil)))) (.cons (.prim .slo (.cons (.var 0) (.cons (.con (.int 1)) .nil))) .nil)) (.tp [1, 2]) (.prim .eq (.cons (.var 1) (.cons (.con (.str "t")) .nil))) (.var 2))) .nil))⟩
/-- bits -/
def N1 : List Str := (["number", "found"] : List (Str))
def t1 : FD := ⟨1, 2, (.cons (.set 1 [] (.con (.int 0))) (.cons (.whl [1, 0] (.prim .lt (.cons (.prim .shl (.cons (.con (.int 1)) (.cons (.var 1) .nil))) (.cons (.var 0) .nil))) (.cons (.aug 1 [] (.con (.int 1))) .nil)) (.cons (.ret [1] (.var 1)) .nil)))⟩
/-- bits_of_two -/
def N2 : List Str := (["word", "one", "other", "high", "low", "many", "top", "bottom", "more", "found"] : List (Str))
def t2 : FD := ⟨3, 10, (.cons (.unp [3, 4, 5] [1] (.var 1)) (.cons (.unp [6, 7, 8] [2] (.var 2)) (.cons (.ite [0] (.prim .eq (.cons (.var 0) (.cons (.con (.str "times")) .nil))) (.cons (.ret [3, 6, 4, 7, 5, 8] (.prim .mkTup (.cons (.prim .add (.cons (.var 3) (.cons (.var 6) .nil))) (.cons (.prim .add (.cons (.var 4) (.cons (.var 7) .nil))) (.cons (.prim .mul (.cons (.var 5) (.cons (.var 8) .nil))) .nil))))) .nil) .nil) (.cons (.ite [0] (.prim .eq (.cons (.var 0) (.cons (.con (.str "over")) .nil))) (.cons (.ret [3, 7, 4, 6, 5, 8] (.prim .mkTup (.cons (.prim .add (.cons (.var 3) (.cons (.var 7) .nil))) (.cons (.prim .add (.cons (.var 4) (.cons (.var 6) .nil))) (.cons (.prim .mul (.cons (.var 5) (.cons (.var 8) .nil))) .nil))))) .nil) .nil) (.cons (.set 9 [3, 7, 6, 4] (.prim .add (.cons (.prim .max2 (.cons (.prim .add (.cons (.var 3) (.cons (.var 7) .nil))) (.cons (.prim .add (.cons (.var 6) (.cons (.var 4) .nil))) .nil))) (.cons (.con (.int 1)) .nil)))) (.cons (.ret [9, 4, 7, 5, 8, 0] (.prim .mkTup (.cons (.var 9) (.cons (.prim .add (.cons (.var 4) (.cons (.var 7) .nil))) (.cons (.prim .mul (.cons (.prim .mul (.cons (.var 5) (.cons (.var 8) .nil))) (.cons (.ite (.prim .in_ (.cons (.var 0) (.cons (.prim .mkTup (.cons (.con (.str "least")) (.cons (.con (.str "most")) .nil))) .nil))) (.con (.int 2)) (.con (.int 1))) .nil))) .nil))))) .nil))))))⟩
/-- bits_of_root -/
def N3 : List Str := (["n", "one", "high", "low", "many"] : List (Str))
def t3 : FD := ⟨2, 5, (.cons (.unp [2, 3, 4] [1] (.var 1)) (.cons (.ite [2, 3] (.prim .ge (.cons (.var 2) (.cons (.var 3) .nil))) (.cons (.ret [2, 0, 3, 0, 0, 3, 4, 0] (.prim .mkTup (.cons (.prim .fdiv (.cons (.prim .sub (.cons (.prim .add (.cons (.prim .add (.cons (.var 2) (.cons (.prim .mul (.cons (.prim .sub (.cons (.var 0) (.cons (.con (.int 1)) .nil))) (.cons (.var 3) .nil))) .nil))) (.cons (.var 0) .nil))) (.cons (.con (.int 1)) .nil))) (.cons (.var 0) .nil))) (.cons (.var 3) (.cons (.prim .mul (.cons (.var 4) (.cons (.var 0) .nil))) .nil))))) .nil) .nil) (.cons (.ret [2, 0, 2, 3, 0, 0, 4, 0] (.prim .mkTup (.cons (.var 2) (.cons (.prim .fdiv (.cons (.prim .sub (.cons (.prim .add (.cons (.prim .add (.cons (.prim .mul (.cons (.prim .sub (.cons (.var 0) (.cons (.con (.int 1)) .nil))) (.cons (.var 2) .nil))) (.cons (.var 3) .nil))) (.cons (.var 0) .nil))) (.cons (.con (.int 1)) .nil))) (.cons (.var 0) .nil))) (.cons (.prim .mul (.cons (.var 4) (.cons (.var 0) .nil))) .nil))))) .nil)))⟩
/-- bits_in -/
def N4 : List Str := (["term", "word", "told", "part"] : List (Str))
def t4 : FD := ⟨1, 4, (.cons (.set 1 [0] (.prim .ix (.cons (.var 0) (.cons (.con (.int 0)) .nil)))) (.cons (.ite [1] (.prim .in_ (.cons (.var 1) (.cons (.con (.tup [(.str "name"), (.str "value"), (.str "turned"), (.str "area"), (.str "endless")])) .nil))) (.cons (.ret [] (.con .non)) .nil) .nil) (.cons (.ite [1] (.prim .eq (.cons (.var 1) (.cons (.con (.str "number")) .nil))) (.cons (.ret [0, 0] (.prim .mkTup (.cons (.call 1 (.cons (.prim .max2 (.cons (.con (.int 1)) (.cons (.prim .abs (.cons (.prim .ix (.cons (.prim .ix (.cons (.var 0) (.cons (.con (.int 1)) .nil))) (.cons (.con (.int 0)) .nil))) .nil)) .nil))) .nil)) (.cons (.call 1 (.cons (.prim .ix (.cons (.prim .ix (.cons (.var 0) (.cons (.con (.int 1)) .nil))) (.cons (.con (.int 1)) .nil))) .nil)) (.cons (.con (.int 1)) .nil))))) .nil) .nil) (.cons (.set 2 [0, 3] (.comp .seq (.cons (.call 0 (.cons (.var 0) .nil)) .nil) (.nm 3) (.con (.bl true)) (.call 4 (.cons (.var 3) .nil)))) (.cons (.ite [2] (.prim .in_ (.cons (.con .non) (.cons (.var 2) .nil))) (.cons (.ret [] (.con .non)) .nil) .nil) (.cons (.ite [1] (.prim .eq (.cons (.var 1) (.cons (.con (.str "far")) .nil))) (.cons (.ret [2] (.prim .ix (.cons (.var 2) (.cons (.con (.int 0)) .nil)))) .nil) .nil) (.cons (.ite [1] (.prim .eq (.cons (.var 1) (.cons (.con (.str "power")) .nil))) (.cons (.ret [0, 2, 0, 2, 2] (.prim .mkTup (.cons (.prim .mul (.cons (.prim .ix (.cons (.var 0) (.cons (.con (.int 2)) .nil))) (.cons (.prim .ix (.cons (.prim .ix (.cons (.var 2) (.cons (.con (.int 0)) .nil))) (.cons (.con (.int 0)) .nil))) .nil))) (.cons (.prim .mul (.cons (.prim .ix (.cons (.var 0) (.cons (.con (.int 2)) .nil))) (.cons (.prim .ix (.cons (.prim .ix (.cons (.var 2) (.cons (.con (.int 0)) .nil))) (.cons (.con (.int 1)) .nil))) .nil))) (.cons (.prim .ix (.cons (.prim .ix (.cons (.var 2) (.cons (.con (.int 0)) .nil))) (.cons (.con (.int 2)) .nil))) .nil))))) .nil) .nil) (.cons (.ite [1] (.prim .eq (.cons (.var 1) (.cons (.con (.str "root")) .nil))) (.cons (.ret [0, 2] (.call 3 (.cons (.prim .ix (.cons (.var 0) (.cons (.con (.int 1)) .nil))) (.cons (.prim .ix (.cons (.var 2) (.cons (.con (.int 0)) .nil))) .nil)))) .nil) .nil) (.cons (.ret [1, 2, 2] (.call 2 (.cons (.var 1) (.cons (.prim .ix (.cons (.var 2) (.cons (.con (.int 0)) .nil))) (.cons (.prim .ix (.cons (.var 2) (.cons (.con (.int 1)) .nil))) .nil))))) .nil)))))))))⟩
/-- gap -/
def N5 : List Str := (["term", "found", "high", "low", "many"] : List (Str))
def t5 : FD := ⟨1, 5, (.cons (.set 1 [0] (.call 4 (.cons (.var 0) .nil))) (.cons (.ite [1] (.prim .isN (.cons (.var 1) .nil)) (.cons (.ret [] (.con .non)) .nil) .nil) (.cons (.unp [2, 3, 4] [1] (.var 1)) (.cons (.ret [3, 4, 2] (.prim .add (.cons (.prim .add (.cons (.var 3) (.cons (.prim .mul (.cons (.prim .sub (.cons (.var 4) (.cons (.con (.int 1)) .nil))) (.cons (.var 2) .nil))) .nil))) (.cons (.con (.int 1)) .nil)))) .nil))))⟩
/-- law mixed -/
def N6 : List Str := (["_law_cell", "_law_k", "_law_number_here"] : List (Str))
def t6 : FD := ⟨2, 3, (.cons (.set 2 [0] (.prim .mod (.cons (.prim .mul (.cons (.prim .add (.cons (.prim .mod (.cons (.var 0) (.cons (.con (.int 1000003)) .nil))) (.cons (.con (.int 7)) .nil))) (.cons (.con (.int 48271)) .nil))) (.cons (.con (.int 2147483647)) .nil)))) (.cons (.ret [2, 1, 1, 0] (.prim .mod (.cons (.prim .add (.cons (.prim .mul (.cons (.var 2) (.cons (.prim .add (.cons (.prim .mul (.cons (.prim .mul (.cons (.con (.int 31)) (.cons (.var 1) .nil))) (.cons (.var 1) .nil))) (.cons (.con (.int 16807)) .nil))) .nil))) (.cons (.prim .mul (.cons (.prim .fdiv (.cons (.var 0) (.cons (.con (.int 1000003)) .nil))) (.cons (.con (.int 69621)) .nil))) .nil))) (.cons (.con (.int 2147483629)) .nil)))) .nil))⟩
/-- law row -/
def N7 : List Str := (["_law_script", "_law_k", "_law_cell"] : List (Str))
def t7 : FD := ⟨2, 3, (.cons (.set 2 [1, 0, 0, 1] (.ite (.prim .lt (.cons (.var 1) (.cons (.prim .len (.cons (.var 0) .nil)) .nil))) (.prim .ix (.cons (.var 0) (.cons (.var 1) .nil))) (.con (.int 0)))) (.cons (.ret [2, 2, 2, 1] (.hnew ["left", "cell", "k", "at"] (.cons (.ite (.prim .ge (.cons (.var 2) (.cons (.prim .pow (.cons (.con (.int 10)) (.cons (.con (.int 18)) .nil))) .nil))) (.var 2) (.con (.int 0))) (.cons (.var 2) (.cons (.prim .mod (.cons (.var 1) (.cons (.con (.int 60)) .nil))) (.cons (.con (.int 0)) .nil)))))) .nil))⟩
/-- law next -/
def N8 : List Str := (["_law_row_here", "_law_many", "_law_found"] : List (Str))
def t8 : FD := ⟨2, 3, (.cons (.hset (.var 0) "at" (.prim .add (.cons (.hget (.var 0) "at") (.cons (.con (.int 1)) .nil)))) (.cons (.ite [0] (.prim .gt (.cons (.hget (.var 0) "left") (.cons (.con (.int 0)) .nil))) (.cons (.set 2 [0, 1] (.prim .mod (.cons (.hget (.var 0) "left") (.cons (.var 1) .nil)))) (.cons (.hset (.var 0) "left" (.prim .fdiv (.cons (.hget (.var 0) "left") (.cons (.var 1) .nil)))) (.cons (.ret [2] (.var 2)) .nil))) .nil) (.cons (.ret [0, 0, 0, 1] (.prim .mod (.cons (.prim .fdiv (.cons (.call 6 (.cons (.call 6 (.cons (.hget (.var 0) "cell") (.cons (.prim .add (.cons (.hget (.var 0) "k") (.cons (.prim .mul (.cons (.con (.int 61)) (.cons (.hget (.var 0) "at") .nil))) .nil))) .nil))) (.cons (.con (.int 50)) .nil))) (.cons (.con (.int 7)) .nil))) (.cons (.var 1) .nil)))) .nil)))⟩
/-- law fraction -/
def N9 : List Str := (["_law_top", "_law_bottom", "_law_one", "_law_rest"] : List (Str))
def t9 : FD := ⟨2, 4, (.cons (.par [2, 3] [0, 1] (.cons (.prim .abs (.cons (.var 0) .nil)) (.cons (.var 1) .nil))) (.cons (.ite [2, 3, 3, 3] (.and (.prim .gt (.cons (.var 2) (.cons (.con (.int 0)) .nil))) (.and (.prim .gt (.cons (.var 3) (.cons (.con (.int 0)) .nil))) (.prim .eq (.cons (.prim .band (.cons (.var 3) (.cons (.prim .sub (.cons (.var 3) (.cons (.con (.int 1)) .nil))) .nil))) (.cons (.con (.int 0)) .nil))))) (.cons (.par [2, 3] [3, 2, 2] (.cons (.prim .min2 (.cons (.var 3) (.cons (.prim .band (.cons (.var 2) (.cons (.prim .sub (.cons (.con (.int 0)) (.cons (.var 2) .nil))) .nil))) .nil))) (.cons (.con (.int 0)) .nil))) .nil) .nil) (.cons (.whl [3] (.prim .gt (.cons (.var 3) (.cons (.con (.int 0)) .nil))) (.cons (.par [2, 3] [3, 2, 3] (.cons (.var 3) (.cons (.prim .mod (.cons (.var 2) (.cons (.var 3) .nil))) .nil))) .nil)) (.cons (.ret [0, 2, 1, 2] (.prim .mkTup (.cons (.prim .fdiv (.cons (.var 0) (.cons (.var 2) .nil))) (.cons (.prim .fdiv (.cons (.var 1) (.cons (.var 2) .nil))) .nil)))) .nil))))⟩
/-- law number -/
def N10 : List Str := (["_law_row_here", "_law_top"] : List (Str))
def t10 : FD := ⟨1, 2, (.cons (.set 1 [0, 0, 0, 0] (.prim .mul (.cons (.prim .ix (.cons (.prim .mkLst (.cons (.call 8 (.cons (.var 0) (.cons (.con (.int 20)) .nil))) (.cons (.call 8 (.cons (.var 0) (.cons (.con (.int 1000)) .nil))) .nil))) (.cons (.call 8 (.cons (.var 0) (.cons (.con (.int 2)) .nil))) .nil))) (.cons (.prim .ix (.cons (.prim .mkLst (.cons (.con (.int 1)) (.cons (.con (.int 1)) (.cons (.prim .neg (.cons (.con (.int 1)) .nil)) .nil)))) (.cons (.call 8 (.cons (.var 0) (.cons (.con (.int 3)) .nil))) .nil))) .nil)))) (.cons (.ret [1, 0, 0] (.prim .mkTup (.cons (.con (.str "number")) (.cons (.call 9 (.cons (.var 1) (.cons (.prim .ix (.cons (.prim .mkLst (.cons (.con (.int 1)) (.cons (.con (.int 1)) (.cons (.prim .add (.cons (.con (.int 1)) (.cons (.call 8 (.cons (.var 0) (.cons (.con (.int 12)) .nil))) .nil))) .nil)))) (.cons (.call 8 (.cons (.var 0) (.cons (.con (.int 3)) .nil))) .nil))) .nil))) .nil)))) .nil))⟩
/-- law term -/
def N11 : List Str := (["_law_row_here", "_law_deep", "_law_way", "_law_one"] : List (Str))
def t11 : FD := ⟨2, 4, (.cons (.set 2 [0] (.call 8 (.cons (.var 0) (.cons (.con (.int 11)) .nil)))) (.cons (.ite [1, 2] (.or (.prim .lt (.cons (.var 1) (.cons (.con (.int 2)) .nil))) (.prim .lt (.cons (.var 2) (.cons (.con (.int 2)) .nil)))) (.cons (.ret [0] (.call 10 (.cons (.var 0) .nil))) .nil) .nil) (.cons (.ite [2] (.prim .lt (.cons (.var 2) (.cons (.con (.int 7)) .nil))) (.cons (.set 3 [0, 1] (.call 11 (.cons (.var 0) (.cons (.prim .sub (.cons (.var 1) (.cons (.con (.int 1)) .nil))) .nil)))) (.cons (.ret [2, 3, 0, 1] (.prim .mkTup (.cons (.prim .ix (.cons (.prim .mkLst (.cons (.con (.str "plus")) (.cons (.con (.str "less")) (.cons (.con (.str "times")) (.cons (.con (.str "least")) (.cons (.con (.str "most")) .nil)))))) (.cons (.prim .sub (.cons (.var 2) (.cons (.con (.int 2)) .nil))) .nil))) (.cons (.var 3) (.cons (.call 11 (.cons (.var 0) (.cons (.prim .sub (.cons (.var 1) (.cons (.con (.int 1)) .nil))) .nil))) .nil))))) .nil)) .nil) (.cons (.ite [2] (.prim .eq (.cons (.var 2) (.cons (.con (.int 7)) .nil))) (.cons (.ret [0, 1, 0] (.prim .mkTup (.cons (.con (.str "over")) (.cons (.call 11 (.cons (.var 0) (.cons (.prim .sub (.cons (.var 1) (.cons (.con (.int 1)) .nil))) .nil))) (.cons (.prim .mkTup (.cons (.con (.str "number")) (.cons (.prim .mkTup (.cons (.prim .add (.cons (.con (.int 1)) (.cons (.call 8 (.cons (.var 0) (.cons (.con (.int 30)) .nil))) .nil))) (.cons (.con (.int 1)) .nil))) .nil))) .nil))))) .nil) .nil) (.cons (.ite [2] (.prim .eq (.cons (.var 2) (.cons (.con (.int 8)) .nil))) (.cons (.ret [0, 1] (.prim .mkTup (.cons (.con (.str "far")) (.cons (.call 11 (.cons (.var 0) (.cons (.prim .sub (.cons (.var 1) (.cons (.con (.int 1)) .nil))) .nil))) .nil)))) .nil) .nil) (.cons (.ite [2] (.prim .eq (.cons (.var 2) (.cons (.con (.int 9)) .nil))) (.cons (.ret [0, 1, 0] (.prim .mkTup (.cons (.con (.str "power")) (.cons (.call 11 (.cons (.var 0) (.cons (.prim .sub (.cons (.var 1) (.cons (.con (.int 1)) .nil))) .nil))) (.cons (.call 8 (.cons (.var 0) (.cons (.con (.int 4)) .nil))) .nil))))) .nil) .nil) (.cons (.ret [0, 0, 1] (.prim .mkTup (.cons (.con (.str "root")) (.cons (.prim .add (.cons (.con (.int 2)) (.cons (.call 8 (.cons (.var 0) (.cons (.con (.int 3)) .nil))) .nil))) (.cons (.call 11 (.cons (.var 0) (.cons (.prim .sub (.cons (.var 1) (.cons (.con (.int 1)) .nil))) .nil))) .nil))))) .nil)))))))⟩
/-- law bits -/
def N12 : List Str := (["_law_number_here", "_law_found"] : List (Str))
def t12 : FD := ⟨1, 2, (.cons (.set 1 [] (.con (.int 0))) (.cons (.whl [1, 0] (.prim .lt (.cons (.prim .shl (.cons (.con (.int 1)) (.cons (.var 1) .nil))) (.cons (.var 0) .nil))) (.cons (.set 1 [1] (.prim .add (.cons (.var 1) (.cons (.con (.int 1)) .nil)))) .nil)) (.cons (.ret [1] (.var 1)) .nil)))⟩
/-- law bits_in -/
def N13 : List Str := (["_law_term_here", "_law_high", "_law_low", "_law_many", "_law_n", "_law_top", "_law_bottom", "_law_more"] : List (Str))
def t13 : FD := ⟨1, 8, (.cons (.ite [0] (.prim .eq (.cons (.prim .ix (.cons (.var 0) (.cons (.con (.int 0)) .nil))) (.cons (.con (.str "number")) .nil))) (.cons (.ret [0, 0] (.prim .mkTup (.cons (.call 12 (.cons (.prim .max2 (.cons (.con (.int 1)) (.cons (.prim .abs (.cons (.prim .ix (.cons (.prim .ix (.cons (.var 0) (.cons (.con (.int 1)) .nil))) (.cons (.con (.int 0)) .nil))) .nil)) .nil))) .nil)) (.cons (.call 12 (.cons (.prim .ix (.cons (.prim .ix (.cons (.var 0) (.cons (.con (.int 1)) .nil))) (.cons (.con (.int 1)) .nil))) .nil)) (.cons (.con (.int 1)) .nil))))) .nil) .nil) (.cons (.ite [0] (.prim .eq (.cons (.prim .ix (.cons (.var 0) (.cons (.con (.int 0)) .nil))) (.cons (.con (.str "root")) .nil))) (.cons (.unp [1, 2, 3] [0] (.call 13 (.cons (.prim .ix (.cons (.var 0) (.cons (.con (.int 2)) .nil))) .nil))) (.cons (.set 4 [0] (.prim .ix (.cons (.var 0) (.cons (.con (.int 1)) .nil)))) (.cons (.ite [1, 2] (.prim .lt (.cons (.var 1) (.cons (.var 2) .nil))) (.cons (.ret [1, 4, 1, 2, 4, 3, 4] (.prim .mkTup (.cons (.var 1) (.cons (.prim .sub (.cons (.con (.int 0)) (.cons (.prim .fdiv (.cons (.prim .sub (.cons (.prim .sub (.cons (.con (.int 0)) (.cons (.prim .mul (.cons (.prim .sub (.cons (.var 4) (.cons (.con (.int 1)) .nil))) (.cons (.var 1) .nil))) .nil))) (.cons (.var 2) .nil))) (.cons (.var 4) .nil))) .nil))) (.cons (.prim .mul (.cons (.var 3) (.cons (.var 4) .nil))) .nil))))) .nil) .nil) (.cons (.ret [1, 4, 2, 4, 2, 3, 4] (.prim .mkTup (.cons (.prim .sub (.cons (.con (.int 0)) (.cons (.prim .fdiv (.cons (.prim .sub (.cons (.prim .sub (.cons (.con (.int 0)) (.cons (.var 1) .nil))) (.cons (.prim .mul (.cons (.prim .sub (.cons (.var 4) (.cons (.con (.int 1)) .nil))) (.cons (.var 2) .nil))) .nil))) (.cons (.var 4) .nil))) .nil))) (.cons (.var 2) (.cons (.prim .mul (.cons (.var 3) (.cons (.var 4) .nil))) .nil))))) .nil)))) .nil) (.cons (.unp [1, 2, 3] [0] (.call 13 (.cons (.prim .ix (.cons (.var 0) (.cons (.con (.int 1)) .nil))) .nil))) (.cons (.ite [0] (.prim .eq (.cons (.prim .ix (.cons (.var 0) (.cons (.con (.int 0)) .nil))) (.cons (.con (.str "far")) .nil))) (.cons (.ret [1, 2, 3] (.prim .mkTup (.cons (.var 1) (.cons (.var 2) (.cons (.var 3) .nil))))) .nil) .nil) (.cons (.ite [0] (.prim .eq (.cons (.prim .ix (.cons (.var 0) (.cons (.con (.int 0)) .nil))) (.cons (.con (.str "power")) .nil))) (.cons (.ret [1, 0, 2, 0, 3] (.prim .mkTup (.cons (.prim .mul (.cons (.var 1) (.cons (.prim .ix (.cons (.var 0) (.cons (.con (.int 2)) .nil))) .nil))) (.cons (.prim .mul (.cons (.var 2) (.cons (.prim .ix (.cons (.var 0) (.cons (.con (.int 2)) .nil))) .nil))) (.cons (.var 3) .nil))))) .nil) .nil) (.cons (.unp [5, 6, 7] [0] (.call 13 (.cons (.prim .ix (.cons (.var 0) (.cons (.con (.int 2)) .nil))) .nil))) (.cons (.ite [0] (.prim .eq (.cons (.prim .ix (.cons (.var 0) (.cons (.con (.int 0)) .nil))) (.cons (.con (.str "times")) .nil))) (.cons (.ret [1, 5, 2, 6, 3, 7] (.prim .mkTup (.cons (.prim .add (.cons (.var 1) (.cons (.var 5) .nil))) (.cons (.prim .add (.cons (.var 2) (.cons (.var 6) .nil))) (.cons (.prim .mul (.cons (.var 3) (.cons (.var 7) .nil))) .nil))))) .nil) .nil) (.cons (.ite [0] (.prim .eq (.cons (.prim .ix (.cons (.var 0) (.cons (.con (.int 0)) .nil))) (.cons (.con (.str "over")) .nil))) (.cons (.ret [1, 6, 2, 5, 3, 7] (.prim .mkTup (.cons (.prim .add (.cons (.var 1) (.cons (.var 6) .nil))) (.cons (.prim .add (.cons (.var 2) (.cons (.var 5) .nil))) (.cons (.prim .mul (.cons (.var 3) (.cons (.var 7) .nil))) .nil))))) .nil) .nil) (.cons (.ret [1, 6, 5, 2, 2, 6, 3, 7, 0] (.prim .mkTup (.cons (.prim .add (.cons (.con (.int 1)) (.cons (.prim .max2 (.cons (.prim .add (.cons (.var 1) (.cons (.var 6) .nil))) (.cons (.prim .add (.cons (.var 5) (.cons (.var 2) .nil))) .nil))) .nil))) (.cons (.prim .add (.cons (.var 2) (.cons (.var 6) .nil))) (.cons (.prim .mul (.cons (.prim .mul (.cons (.var 3) (.cons (.var 7) .nil))) (.cons (.prim .add (.cons (.con (.int 1)) (.cons (.prim .toInt (.cons (.prim .in_ (.cons (.prim .ix (.cons (.var 0) (.cons (.con (.int 0)) .nil))) (.cons (.prim .mkTup (.cons (.con (.str "least")) (.cons (.con (.str "most")) .nil))) .nil))) .nil)) .nil))) .nil))) .nil))))) .nil)))))))))⟩
/-- law gap -/
def N14 : List Str := (["_law_term_here", "_law_high", "_law_low", "_law_many"] : List (Str))
def t14 : FD := ⟨1, 4, (.cons (.unp [1, 2, 3] [0] (.call 13 (.cons (.var 0) .nil))) (.cons (.ret [2, 3, 1] (.prim .add (.cons (.prim .add (.cons (.var 2) (.cons (.prim .mul (.cons (.prim .sub (.cons (.var 3) (.cons (.con (.int 1)) .nil))) (.cons (.var 1) .nil))) .nil))) (.cons (.con (.int 1)) .nil)))) .nil))⟩
/-- law further -/
def N15 : List Str := (["_law_row_here", "_law_line", "_law_one", "_law_some"] : List (Str))
def t15 : FD := ⟨1, 4, (.cons (.set 1 [0] (.prim .mkTup (.cons (.prim .mkTup (.cons (.prim .mkTup (.cons (.con (.int 0)) (.cons (.con (.int 1)) .nil))) (.cons (.prim .mkTup (.cons (.prim .add (.cons (.con (.int 1)) (.cons (.call 8 (.cons (.var 0) (.cons (.con (.int 9)) .nil))) .nil))) (.cons (.con (.int 1)) .nil))) (.cons (.prim .mkTup (.cons (.prim .mkTup (.cons (.con (.int 0)) (.cons (.con (.int 1)) .nil))) (.cons (.prim .mkTup (.cons (.con (.int 1)) (.cons (.con (.int 1)) .nil))) .nil))) .nil)))) .nil))) (.cons (.set 2 [0] (.call 10 (.cons (.var 0) .nil))) (.cons (.set 3 [1, 2, 1, 2, 1, 2, 0] (.prim .mkLst (.cons (.prim .mkTup (.cons (.con (.str "value")) (.cons (.var 1) (.cons (.var 2) .nil)))) (.cons (.prim .mkTup (.cons (.con (.str "turned")) (.cons (.var 1) (.cons (.var 2) .nil)))) (.cons (.prim .mkTup (.cons (.con (.str "area")) (.cons (.var 1) (.cons (.var 2) (.cons (.call 10 (.cons (.var 0) .nil)) .nil))))) (.cons (.prim .mkTup (.cons (.con (.str "name")) (.cons (.con (.str "x")) .nil))) .nil)))))) (.cons (.ret [3, 2, 0] (.prim .ix (.cons (.prim .add (.cons (.var 3) (.cons (.prim .mkLst (.cons (.prim .mkTup (.cons (.con (.str "endless")) (.cons (.prim .mkTup (.cons (.con (.int 1)) .nil)) (.cons (.prim .mkTup (.cons (.con (.int 1)) (.cons (.con (.int 1)) .nil))) (.cons (.var 2) .nil))))) .nil)) .nil))) (.cons (.call 8 (.cons (.var 0) (.cons (.con (.int 5)) .nil))) .nil)))) .nil))))⟩
/-- law with -/
def N16 : List Str := (["_law_row_here", "_law_term_here", "_law_more", "_law_places", "_law_k", "_law_at"] : List (Str))
def t16 : FD := ⟨3, 6, (.cons (.ite [1] (.prim .eq (.cons (.prim .ix (.cons (.var 1) (.cons (.con (.int 0)) .nil))) (.cons (.con (.str "number")) .nil))) (.cons (.ret [2] (.var 2)) .nil) .nil) (.cons (.set 3 [1, 1, 4, 4] (.comp .rng (.cons (.con (.int 1)) (.cons (.prim .len (.cons (.var 1) .nil)) .nil)) (.nm 4) (.prim .isinst (.cons (.prim .ix (.cons (.var 1) (.cons (.var 4) .nil))) (.cons (.con (.ty "tuple")) .nil))) (.var 4))) (.cons (.set 5 [3, 0, 3] (.prim .ix (.cons (.var 3) (.cons (.call 8 (.cons (.var 0) (.cons (.prim .len (.cons (.var 3) .nil)) .nil))) .nil)))) (.cons (.ret [1, 5, 0, 1, 5, 2, 1, 5] (.prim .add (.cons (.prim .add (.cons (.prim .shi (.cons (.var 1) (.cons (.var 5) .nil))) (.cons (.prim .mkTup (.cons (.call 16 (.cons (.var 0) (.cons (.prim .ix (.cons (.var 1) (.cons (.var 5) .nil))) (.cons (.var 2) .nil)))) .nil)) .nil))) (.cons (.prim .slo (.cons (.var 1) (.cons (.prim .add (.cons (.var 5) (.cons (.con (.int 1)) .nil))) .nil))) .nil)))) .nil))))⟩
/-- law -/
def N17 : List Str := (["_law_script", "_law_k", "_law_row_here", "_law_term_here", "_law_found"] : List (Str))
def t17 : FD := ⟨1, 5, (.cons (.for .rng [0] (.cons (.prim .add (.cons (.prim .min2 (.cons (.con (.int 63)) (.cons (.prim .len (.cons (.var 0) .nil)) .nil))) (.cons (.con (.int 3)) .nil))) .nil) (.nm 1) (.cons (.set 2 [0, 1] (.call 7 (.cons (.var 0) (.cons (.var 1) .nil)))) (.cons (.set 3 [2, 2] (.call 11 (.cons (.var 2) (.cons (.prim .add (.cons (.con (.int 2)) (.cons (.call 8 (.cons (.var 2) (.cons (.con (.int 5)) .nil))) .nil))) .nil)))) (.cons (.set 4 [3] (.call 5 (.cons (.var 3) .nil))) (.cons (.ite [4, 3, 4, 4] (.or (.prim .ne (.cons (.var 4) (.cons (.call 14 (.cons (.var 3) .nil)) .nil))) (.or (.prim .not (.cons (.prim .isinst (.cons (.var 4) (.cons (.con (.ty "int")) .nil))) .nil)) (.prim .isinst (.cons (.var 4) (.cons (.con (.ty "bool")) .nil))))) (.cons (.ret [] (.con (.bl false))) .nil) .nil) (.cons (.ite [2, 3, 2] (.prim .notN (.cons (.call 5 (.cons (.call 16 (.cons (.var 2) (.cons (.var 3) (.cons (.call 15 (.cons (.var 2) .nil)) .nil)))) .nil)) .nil)) (.cons (.ret [] (.con (.bl false))) .nil) .nil) .nil)))))) (.cons (.ret [] (.con (.bl true))) .nil))⟩
def tb : List FD := ([t0, t1, t2, t3, t4, t5, t6, t7, t8, t9, t10, t11, t12, t13, t14, t15, t16, t17] : List (FD))
abbrev KL : Kl := klOf ks
theorem U_parts_of {w n : Nat} {d0 : D} {g : G} {Q : D × G → Prop} {X : Nat → List (Str × D) → G → Prop} : (run KL tb w (n + 1) 0 [d0] g).W Q X = (evSs KL (run KL tb w n) w t0.body [.val d0, .un, .un] g).W (fun _ g => Q (.non, g)) (fun d g => Q (d, g)) (fun _ _ => False) (fun _ _ => False) (fun c fs _ g => X c fs g) := run_W (fd := t0) rfl rfl
theorem U_bits {w n : Nat} {d0 : D} {g : G} {Q : D × G → Prop} {X : Nat → List (Str × D) → G → Prop} : (run KL tb w (n + 1) 1 [d0] g).W Q X = (evSs KL (run KL tb w n) w t1.body [.val d0, .un] g).W (fun _ g => Q (.non, g)) (fun d g => Q (d, g)) (fun _ _ => False) (fun _ _ => False) (fun c fs _ g => X c fs g) := run_W (fd := t1) rfl rfl
theorem U_bits_of_two {w n : Nat} {d0 d1 d2 : D} {g : G} {Q : D × G → Prop} {X : Nat → List (Str × D) → G → Prop} : (run KL tb w (n + 1) 2 [d0, d1, d2] g).W Q X = (evSs KL (run KL tb w n) w t2.body [.val d0, .val d1, .val d2, .un, .un, .un, .un, .un, .un, .un] g).W (fun _ g => Q (.non, g)) (fun d g => Q (d, g)) (fun _ _ => False) (fun _ _ => False) (fun c fs _ g => X c fs g) := run_W (fd := t2) rfl rfl
theorem U_bits_of_root {w n : Nat} {d0 d1 : D} {g : G} {Q : D × G → Prop} {X : Nat → List (Str × D) → G → Prop} : (run KL tb w (n + 1) 3 [d0, d1] g).W Q X = (evSs KL (run KL tb w n) w t3.body [.val d0, .val d1, .un, .un, .un] g).W (fun _ g => Q (.non, g)) (fun d g => Q (d, g)) (fun _ _ => False) (fun _ _ => False) (fun c fs _ g => X c fs g) := run_W (fd := t3) rfl rfl
theorem U_bits_in {w n : Nat} {d0 : D} {g : G} {Q : D × G → Prop} {X : Nat → List (Str × D) → G → Prop} : (run KL tb w (n + 1) 4 [d0] g).W Q X = (evSs KL (run KL tb w n) w t4.body [.val d0, .un, .un, .un] g).W (fun _ g => Q (.non, g)) (fun d g => Q (d, g)) (fun _ _ => False) (fun _ _ => False) (fun c fs _ g => X c fs g) := run_W (fd := t4) rfl rfl
theorem U_gap {w n : Nat} {d0 : D} {g : G} {Q : D × G → Prop} {X : Nat → List (Str × D) → G → Prop} : (run KL tb w (n + 1) 5 [d0] g).W Q X = (evSs KL (run KL tb w n) w t5.body [.val d0, .un, .un, .un, .un] g).W (fun _ g => Q (.non, g)) (fun d g => Q (d, g)) (fun _ _ => False) (fun _ _ => False) (fun c fs _ g => X c fs g) := run_W (fd := t5) rfl rfl
theorem U_law_mixed {w n : Nat} {d0 d1 : D} {g : G} {Q : D × G → Prop} {X : Nat → List (Str × D) → G → Prop} : (run KL tb w (n + 1) 6 [d0, d1] g).W Q X = (evSs KL (run KL tb w n) w t6.body [.val d0, .val d1, .un] g).W (fun _ g => Q (.non, g)) (fun d g => Q (d, g)) (fun _ _ => False) (fun _ _ => False) (fun c fs _ g => X c fs g) := run_W (fd := t6) rfl rfl
theorem U_law_row {w n : Nat} {d0 d1 : D} {g : G} {Q : D × G → Prop} {X : Nat → List (Str × D) → G → Prop} : (run KL tb w (n + 1) 7 [d0, d1] g).W Q X = (evSs KL (run KL tb w n) w t7.body [.val d0, .val d1, .un] g).W (fun _ g => Q (.non, g)) (fun d g => Q (d, g)) (fun _ _ => False) (fun _ _ => False) (fun c fs _ g => X c fs g) := run_W (fd := t7) rfl rfl
theorem U_law_next {w n : Nat} {d0 d1 : D} {g : G} {Q : D × G → Prop} {X : Nat → List (Str × D) → G → Prop} : (run KL tb w (n + 1) 8 [d0, d1] g).W Q X = (evSs KL (run KL tb w n) w t8.body [.val d0, .val d1, .un] g).W (fun _ g => Q (.non, g)) (fun d g => Q (d, g)) (fun _ _ => False) (fun _ _ => False) (fun c fs _ g => X c fs g) := run_W (fd := t8) rfl rfl
theorem U_law_fraction {w n : Nat} {d0 d1 : D} {g : G} {Q : D × G → Prop} {X : Nat → List (Str × D) → G → Prop} : (run KL tb w (n + 1) 9 [d0, d1] g).W Q X = (evSs KL (run KL tb w n) w t9.body [.val d0, .val d1, .un, .un] g).W (fun _ g => Q (.non, g)) (fun d g => Q (d, g)) (fun _ _ => False) (fun _ _ => False) (fun c fs _ g => X c fs g) := run_W (fd := t9) rfl rfl
theorem U_law_number {w n : Nat} {d0 : D} {g : G} {Q : D × G → Prop} {X : Nat → List (Str × D) → G → Prop} : (run KL tb w (n + 1) 10 [d0] g).W Q X = (evSs KL (run KL tb w n) w t10.body [.val d0, .un] g).W (fun _ g => Q (.non, g)) (fun d g => Q (d, g)) (fun _ _ => False) (fun _ _ => False) (fun c fs _ g => X c fs g) := run_W (fd := t10) rfl rfl
theorem U_law_term {w n : Nat} {d0 d1 : D} {g : G} {Q : D × G → Prop} {X : Nat → List (Str × D) → G → Prop} : (run KL tb w (n + 1) 11 [d0, d1] g).W Q X = (evSs KL (run KL tb w n) w t11.body [.val d0, .val d1, .un, .un] g).W (fun _ g => Q (.non, g)) (fun d g => Q (d, g)) (fun _ _ => False) (fun _ _ => False) (fun c fs _ g => X c fs g) := run_W (fd := t11) rfl rfl
theorem U_law_bits {w n : Nat} {d0 : D} {g : G} {Q : D × G → Prop} {X : Nat → List (Str × D) → G → Prop} : (run KL tb w (n + 1) 12 [d0] g).W Q X = (evSs KL (run KL tb w n) w t12.body [.val d0, .un] g).W (fun _ g => Q (.non, g)) (fun d g => Q (d, g)) (fun _ _ => False) (fun _ _ => False) (fun c fs _ g => X c fs g) := run_W (fd := t12) rfl rfl
theorem U_law_bits_in {w n : Nat} {d0 : D} {g : G} {Q : D × G → Prop} {X : Nat → List (Str × D) → G → Prop} : (run KL tb w (n + 1) 13 [d0] g).W Q X = (evSs KL (run KL tb w n) w t13.body [.val d0, .un, .un, .un, .un, .un, .un, .un] g).W (fun _ g => Q (.non, g)) (fun d g => Q (d, g)) (fun _ _ => False) (fun _ _ => False) (fun c fs _ g => X c fs g) := run_W (fd := t13) rfl rfl
theorem U_law_gap {w n : Nat} {d0 : D} {g : G} {Q : D × G → Prop} {X : Nat → List (Str × D) → G → Prop} : (run KL tb w (n + 1) 14 [d0] g).W Q X = (evSs KL (run KL tb w n) w t14.body [.val d0, .un, .un, .un] g).W (fun _ g => Q (.non, g)) (fun d g => Q (d, g)) (fun _ _ => False) (fun _ _ => False) (fun c fs _ g => X c fs g) := run_W (fd := t14) rfl rfl
theorem U_law_further {w n : Nat} {d0 : D} {g : G} {Q : D × G → Prop} {X : Nat → List (Str × D) → G → Prop} : (run KL tb w (n + 1) 15 [d0] g).W Q X = (evSs KL (run KL tb w n) w t15.body [.val d0, .un, .un, .un] g).W (fun _ g => Q (.non, g)) (fun d g => Q (d, g)) (fun _ _ => False) (fun _ _ => False) (fun c fs _ g => X c fs g) := run_W (fd := t15) rfl rfl
theorem U_law_with {w n : Nat} {d0 d1 d2 : D} {g : G} {Q : D × G → Prop} {X : Nat → List (Str × D) → G → Prop} : (run KL tb w (n + 1) 16 [d0, d1, d2] g).W Q X = (evSs KL (run KL tb w n) w t16.body [.val d0, .val d1, .val d2, .un, .un, .un] g).W (fun _ g => Q (.non, g)) (fun d g => Q (d, g)) (fun _ _ => False) (fun _ _ => False) (fun c fs _ g => X c fs g) := run_W (fd := t16) rfl rfl
theorem U_law {w n : Nat} {d0 : D} {g : G} {Q : D × G → Prop} {X : Nat → List (Str × D) → G → Prop} : (run KL tb w (n + 1) 17 [d0] g).W Q X = (evSs KL (run KL tb w n) w t17.body [.val d0, .un, .un, .un, .un] g).W (fun _ g => Q (.non, g)) (fun d g => Q (d, g)) (fun _ _ => False) (fun _ _ => False) (fun c fs _ g => X c fs g) := run_W (fd := t17) rfl rfl
end Z.Law

set_option Elab.async false
set_option linter.all false
set_option maxRecDepth 100000
set_option maxHeartbeats 0
namespace Z.Law
open PySem PySem.Spec PyProof.Rows L2
theorem tr0 : trSs 200 200 ⟨N0, (defScope (top 2)).names, (defScope (top 2)).names, [], gl, blt⟩ (defBody (top 2)) = some t0.body := by kernel_rfl
theorem tr1 : trSs 200 200 ⟨N1, (defScope (top 5)).names, (defScope (top 5)).names, [], gl, blt⟩ (defBody (top 5)) = some t1.body := by kernel_rfl
theorem tr2 : trSs 200 200 ⟨N2, (defScope (top 6)).names, (defScope (top 6)).names, [], gl, blt⟩ (defBody (top 6)) = some t2.body := by kernel_rfl
theorem tr3 : trSs 200 200 ⟨N3, (defScope (top 7)).names, (defScope (top 7)).names, [], gl, blt⟩ (defBody (top 7)) = some t3.body := by kernel_rfl
theorem tr4 : trSs 200 200 ⟨N4, (defScope (top 8)).names, (defScope (top 8)).names, [], gl, blt⟩ (defBody (top 8)) = some t4.body := by kernel_rfl
theorem tr5 : trSs 200 200 ⟨N5, (defScope (top 9)).names, (defScope (top 9)).names, [], gl, blt⟩ (defBody (top 9)) = some t5.body := by kernel_rfl
theorem tr6 : trSs 200 200 ⟨N6, (defScope (top 11)).names, (defScope (top 11)).names, [], gl, blt⟩ (defBody (top 11)) = some t6.body := by kernel_rfl
theorem tr7 : trSs 200 200 ⟨N7, (defScope (top 12)).names, (defScope (top 12)).names, [], gl, blt⟩ (defBody (top 12)) = some t7.body := by kernel_rfl
theorem tr8 : trSs 200 200 ⟨N8, (defScope (top 13)).names, (defScope (top 13)).names, [], gl, blt⟩ (defBody (top 13)) = some t8.body := by kernel_rfl
theorem tr9 : trSs 200 200 ⟨N9, (defScope (top 14)).names, (defScope (top 14)).names, [], gl, blt⟩ (defBody (top 14)) = some t9.body := by kernel_rfl
theorem tr10 : trSs 200 200 ⟨N10, (defScope (top 15)).names, (defScope (top 15)).names, [], gl, blt⟩ (defBody (top 15)) = some t10.body := by kernel_rfl
theorem tr11 : trSs 200 200 ⟨N11, (defScope (top 16)).names, (defScope (top 16)).names, [], gl, blt⟩ (defBody (top 16)) = some t11.body := by kernel_rfl
theorem tr12 : trSs 200 200 ⟨N12, (defScope (top 17)).names, (defScope (top 17)).names, [], gl, blt⟩ (defBody (top 17)) = some t12.body := by kernel_rfl
theorem tr13 : trSs 200 200 ⟨N13, (defScope (top 18)).names, (defScope (top 18)).names, [], gl, blt⟩ (defBody (top 18)) = some t13.body := by kernel_rfl
theorem tr14 : trSs 200 200 ⟨N14, (defScope (top 19)).names, (defScope (top 19)).names, [], gl, blt⟩ (defBody (top 19)) = some t14.body := by kernel_rfl
theorem tr15 : trSs 200 200 ⟨N15, (defScope (top 20)).names, (defScope (top 20)).names, [], gl, blt⟩ (defBody (top 20)) = some t15.body := by kernel_rfl
theorem tr16 : trSs 200 200 ⟨N16, (defScope (top 21)).names, (defScope (top 21)).names, [], gl, blt⟩ (defBody (top 21)) = some t16.body := by kernel_rfl
theorem tr17 : trSs 200 200 ⟨N17, (defScope (top 22)).names, (defScope (top 22)).names, [], gl, blt⟩ (defBody (top 22)) = some t17.body := by kernel_rfl
def tf : List He.Defn := []
def d0 : He.DefD := ⟨("parts_of", none), "parts_of", "parts_of", defArgs (top 2), defBody (top 2), defScope (top 2), [], []⟩
theorem fs0 : FnScope N0 ["term"] (defScope (top 2)) := ⟨rfl, rfl, rfl, by decide +kernel, rfl, by decide +kernel, by decide +kernel⟩
theorem ok0 {K : PySem.W.Frag} {mg : Str → Option Value} {fd : FuncData} (F : FunD K "parts_of" "parts_of" (defArgs (top 2)) (defBody (top 2)) (defScope (top 2)) [] [] (He.ga K "parts_of") fd) (m : mg "parts_of" = some (.ref (He.ga K "parts_of")) ∧ (tbOf cls fns tf K).fn 0 = some (He.ga K "parts_of")) : DefOk K mg (tbOf cls fns tf K) gl blt tb "parts_of" 0 1 [] ["term"] [] :=
  ⟨_, fd, _, _, _, _, N0, [], t0, 200, 200, m.1, m.2, F, fs0, rfl, rfl, rfl, rfl, tr0, dfl0 (F.bindsN fun _ _ _ _ _ _ us hl => match us, hl with | [_], _ => rfl), (fun m z => nomatch z), fun z => absurd z (by decide)⟩
def d1 : He.DefD := ⟨("bits", none), "bits", "bits", defArgs (top 5), defBody (top 5), defScope (top 5), [], []⟩
theorem fs1 : FnScope N1 ["number"] (defScope (top 5)) := ⟨rfl, rfl, rfl, by decide +kernel, rfl, by decide +kernel, by decide +kernel⟩
theorem ok1 {K : PySem.W.Frag} {mg : Str → Option Value} {fd : FuncData} (F : FunD K "bits" "bits" (defArgs (top 5)) (defBody (top 5)) (defScope (top 5)) [] [] (He.ga K "bits") fd) (m : mg "bits" = some (.ref (He.ga K "bits")) ∧ (tbOf cls fns tf K).fn 1 = some (He.ga K "bits")) : DefOk K mg (tbOf cls fns tf K) gl blt tb "bits" 1 1 [] ["number"] [] :=
  ⟨_, fd, _, _, _, _, N1, [], t1, 200, 200, m.1, m.2, F, fs1, rfl, rfl, rfl, rfl, tr1, dfl0 (F.bindsN fun _ _ _ _ _ _ us hl => match us, hl with | [_], _ => rfl), (fun m z => nomatch z), fun z => absurd z (by decide)⟩
def d2 : He.DefD := ⟨("bits_of_two", none), "bits_of_two", "bits_of_two", defArgs (top 6), defBody (top 6), defScope (top 6), [], []⟩
theorem fs2 : FnScope N2 ["word", "one", "other"] (defScope (top 6)) := ⟨rfl, rfl, rfl, by decide +kernel, rfl, by decide +kernel, by decide +kernel⟩
theorem ok2 {K : PySem.W.Frag} {mg : Str → Option Value} {fd : FuncData} (F : FunD K "bits_of_two" "bits_of_two" (defArgs (top 6)) (defBody (top 6)) (defScope (top 6)) [] [] (He.ga K "bits_of_two") fd) (m : mg "bits_of_two" = some (.ref (He.ga K "bits_of_two")) ∧ (tbOf cls fns tf K).fn 2 = some (He.ga K "bits_of_two")) : DefOk K mg (tbOf cls fns tf K) gl blt tb "bits_of_two" 2 3 [] ["word", "one", "other"] [] :=
  ⟨_, fd, _, _, _, _, N2, [], t2, 200, 200, m.1, m.2, F, fs2, rfl, rfl, rfl, rfl, tr2, dfl0 (F.bindsN fun _ _ _ _ _ _ us hl => match us, hl with | [_, _, _], _ => rfl), (fun m z => nomatch z), fun z => absurd z (by decide)⟩
def d3 : He.DefD := ⟨("bits_of_root", none), "bits_of_root", "bits_of_root", defArgs (top 7), defBody (top 7), defScope (top 7), [], []⟩
theorem fs3 : FnScope N3 ["n", "one"] (defScope (top 7)) := ⟨rfl, rfl, rfl, by decide +kernel, rfl, by decide +kernel, by decide +kernel⟩
theorem ok3 {K : PySem.W.Frag} {mg : Str → Option Value} {fd : FuncData} (F : FunD K "bits_of_root" "bits_of_root" (defArgs (top 7)) (defBody (top 7)) (defScope (top 7)) [] [] (He.ga K "bits_of_root") fd) (m : mg "bits_of_root" = some (.ref (He.ga K "bits_of_root")) ∧ (tbOf cls fns tf K).fn 3 = some (He.ga K "bits_of_root")) : DefOk K mg (tbOf cls fns tf K) gl blt tb "bits_of_root" 3 2 [] ["n", "one"] [] :=
  ⟨_, fd, _, _, _, _, N3, [], t3, 200, 200, m.1, m.2, F, fs3, rfl, rfl, rfl, rfl, tr3, dfl0 (F.bindsN fun _ _ _ _ _ _ us hl => match us, hl with | [_, _], _ => rfl), (fun m z => nomatch z), fun z => absurd z (by decide)⟩
def d4 : He.DefD := ⟨("bits_in", none), "bits_in", "bits_in", defArgs (top 8), defBody (top 8), defScope (top 8), [], []⟩
theorem fs4 : FnScope N4 ["term"] (defScope (top 8)) := ⟨rfl, rfl, rfl, by decide +kernel, rfl, by decide +kernel, by decide +kernel⟩
theorem ok4 {K : PySem.W.Frag} {mg : Str → Option Value} {fd : FuncData} (F : FunD K "bits_in" "bits_in" (defArgs (top 8)) (defBody (top 8)) (defScope (top 8)) [] [] (He.ga K "bits_in") fd) (m : mg "bits_in" = some (.ref (He.ga K "bits_in")) ∧ (tbOf cls fns tf K).fn 4 = some (He.ga K "bits_in")) : DefOk K mg (tbOf cls fns tf K) gl blt tb "bits_in" 4 1 [] ["term"] [] :=
  ⟨_, fd, _, _, _, _, N4, [], t4, 200, 200, m.1, m.2, F, fs4, rfl, rfl, rfl, rfl, tr4, dfl0 (F.bindsN fun _ _ _ _ _ _ us hl => match us, hl with | [_], _ => rfl), (fun m z => nomatch z), fun z => absurd z (by decide)⟩
def d5 : He.DefD := ⟨("gap", none), "gap", "gap", defArgs (top 9), defBody (top 9), defScope (top 9), [], []⟩
theorem fs5 : FnScope N5 ["term"] (defScope (top 9)) := ⟨rfl, rfl, rfl, by decide +kernel, rfl, by decide +kernel, by decide +kernel⟩
theorem ok5 {K : PySem.W.Frag} {mg : Str → Option Value} {fd : FuncData} (F : FunD K "gap" "gap" (defArgs (top 9)) (defBody (top 9)) (defScope (top 9)) [] [] (He.ga K "gap") fd) (m : mg "gap" = some (.ref (He.ga K "gap")) ∧ (tbOf cls fns tf K).fn 5 = some (He.ga K "gap")) : DefOk K mg (tbOf cls fns tf K) gl blt tb "gap" 5 1 [] ["term"] [] :=
  ⟨_, fd, _, _, _, _, N5, [], t5, 200, 200, m.1, m.2, F, fs5, rfl, rfl, rfl, rfl, tr5, dfl0 (F.bindsN fun _ _ _ _ _ _ us hl => match us, hl with | [_], _ => rfl), (fun m z => nomatch z), fun z => absurd z (by decide)⟩
def d6 : He.DefD := ⟨("_law_mixed", none), "_law_mixed", "_law_mixed", defArgs (top 11), defBody (top 11), defScope (top 11), [], []⟩
theorem fs6 : FnScope N6 ["_law_cell", "_law_k"] (defScope (top 11)) := ⟨rfl, rfl, rfl, by decide +kernel, rfl, by decide +kernel, by decide +kernel⟩
theorem ok6 {K : PySem.W.Frag} {mg : Str → Option Value} {fd : FuncData} (F : FunD K "_law_mixed" "_law_mixed" (defArgs (top 11)) (defBody (top 11)) (defScope (top 11)) [] [] (He.ga K "_law_mixed") fd) (m : mg "_law_mixed" = some (.ref (He.ga K "_law_mixed")) ∧ (tbOf cls fns tf K).fn 6 = some (He.ga K "_law_mixed")) : DefOk K mg (tbOf cls fns tf K) gl blt tb "_law_mixed" 6 2 [] ["_law_cell", "_law_k"] [] :=
  ⟨_, fd, _, _, _, _, N6, [], t6, 200, 200, m.1, m.2, F, fs6, rfl, rfl, rfl, rfl, tr6, dfl0 (F.bindsN fun _ _ _ _ _ _ us hl => match us, hl with | [_, _], _ => rfl), (fun m z => nomatch z), fun z => absurd z (by decide)⟩
def d7 : He.DefD := ⟨("_law_row", none), "_law_row", "_law_row", defArgs (top 12), defBody (top 12), defScope (top 12), [], []⟩
theorem fs7 : FnScope N7 ["_law_script", "_law_k"] (defScope (top 12)) := ⟨rfl, rfl, rfl, by decide +kernel, rfl, by decide +kernel, by decide +kernel⟩
theorem ok7 {K : PySem.W.Frag} {mg : Str → Option Value} {fd : FuncData} (F : FunD K "_law_row" "_law_row" (defArgs (top 12)) (defBody (top 12)) (defScope (top 12)) [] [] (He.ga K "_law_row") fd) (m : mg "_law_row" = some (.ref (He.ga K "_law_row")) ∧ (tbOf cls fns tf K).fn 7 = some (He.ga K "_law_row")) : DefOk K mg (tbOf cls fns tf K) gl blt tb "_law_row" 7 2 [] ["_law_script", "_law_k"] [] :=
  ⟨_, fd, _, _, _, _, N7, [], t7, 200, 200, m.1, m.2, F, fs7, rfl, rfl, rfl, rfl, tr7, dfl0 (F.bindsN fun _ _ _ _ _ _ us hl => match us, hl with | [_, _], _ => rfl), (fun m z => nomatch z), fun z => absurd z (by decide)⟩
def d8 : He.DefD := ⟨("_law_next", none), "_law_next", "_law_next", defArgs (top 13), defBody (top 13), defScope (top 13), [], []⟩
theorem fs8 : FnScope N8 ["_law_row_here", "_law_many"] (defScope (top 13)) := ⟨rfl, rfl, rfl, by decide +kernel, rfl, by decide +kernel, by decide +kernel⟩
theorem ok8 {K : PySem.W.Frag} {mg : Str → Option Value} {fd : FuncData} (F : FunD K "_law_next" "_law_next" (defArgs (top 13)) (defBody (top 13)) (defScope (top 13)) [] [] (He.ga K "_law_next") fd) (m : mg "_law_next" = some (.ref (He.ga K "_law_next")) ∧ (tbOf cls fns tf K).fn 8 = some (He.ga K "_law_next")) : DefOk K mg (tbOf cls fns tf K) gl blt tb "_law_next" 8 2 [] ["_law_row_here", "_law_many"] [] :=
  ⟨_, fd, _, _, _, _, N8, [], t8, 200, 200, m.1, m.2, F, fs8, rfl, rfl, rfl, rfl, tr8, dfl0 (F.bindsN fun _ _ _ _ _ _ us hl => match us, hl with | [_, _], _ => rfl), (fun m z => nomatch z), fun z => absurd z (by decide)⟩
def d9 : He.DefD := ⟨("_law_fraction", none), "_law_fraction", "_law_fraction", defArgs (top 14), defBody (top 14), defScope (top 14), [], []⟩
theorem fs9 : FnScope N9 ["_law_top", "_law_bottom"] (defScope (top 14)) := ⟨rfl, rfl, rfl, by decide +kernel, rfl, by decide +kernel, by decide +kernel⟩
theorem ok9 {K : PySem.W.Frag} {mg : Str → Option Value} {fd : FuncData} (F : FunD K "_law_fraction" "_law_fraction" (defArgs (top 14)) (defBody (top 14)) (defScope (top 14)) [] [] (He.ga K "_law_fraction") fd) (m : mg "_law_fraction" = some (.ref (He.ga K "_law_fraction")) ∧ (tbOf cls fns tf K).fn 9 = some (He.ga K "_law_fraction")) : DefOk K mg (tbOf cls fns tf K) gl blt tb "_law_fraction" 9 2 [] ["_law_top", "_law_bottom"] [] :=
  ⟨_, fd, _, _, _, _, N9, [], t9, 200, 200, m.1, m.2, F, fs9, rfl, rfl, rfl, rfl, tr9, dfl0 (F.bindsN fun _ _ _ _ _ _ us hl => match us, hl with | [_, _], _ => rfl), (fun m z => nomatch z), fun z => absurd z (by decide)⟩
def d10 : He.DefD := ⟨("_law_number", none), "_law_number", "_law_number", defArgs (top 15), defBody (top 15), defScope (top 15), [], []⟩
theorem fs10 : FnScope N10 ["_law_row_here"] (defScope (top 15)) := ⟨rfl, rfl, rfl, by decide +kernel, rfl, by decide +kernel, by decide +kernel⟩
theorem ok10 {K : PySem.W.Frag} {mg : Str → Option Value} {fd : FuncData} (F : FunD K "_law_number" "_law_number" (defArgs (top 15)) (defBody (top 15)) (defScope (top 15)) [] [] (He.ga K "_law_number") fd) (m : mg "_law_number" = some (.ref (He.ga K "_law_number")) ∧ (tbOf cls fns tf K).fn 10 = some (He.ga K "_law_number")) : DefOk K mg (tbOf cls fns tf K) gl blt tb "_law_number" 10 1 [] ["_law_row_here"] [] :=
  ⟨_, fd, _, _, _, _, N10, [], t10, 200, 200, m.1, m.2, F, fs10, rfl, rfl, rfl, rfl, tr10, dfl0 (F.bindsN fun _ _ _ _ _ _ us hl => match us, hl with | [_], _ => rfl), (fun m z => nomatch z), fun z => absurd z (by decide)⟩
def d11 : He.DefD := ⟨("_law_term", none), "_law_term", "_law_term", defArgs (top 16), defBody (top 16), defScope (top 16), [], []⟩
theorem fs11 : FnScope N11 ["_law_row_here", "_law_deep"] (defScope (top 16)) := ⟨rfl, rfl, rfl, by decide +kernel, rfl, by decide +kernel, by decide +kernel⟩
theorem ok11 {K : PySem.W.Frag} {mg : Str → Option Value} {fd : FuncData} (F : FunD K "_law_term" "_law_term" (defArgs (top 16)) (defBody (top 16)) (defScope (top 16)) [] [] (He.ga K "_law_term") fd) (m : mg "_law_term" = some (.ref (He.ga K "_law_term")) ∧ (tbOf cls fns tf K).fn 11 = some (He.ga K "_law_term")) : DefOk K mg (tbOf cls fns tf K) gl blt tb "_law_term" 11 2 [] ["_law_row_here", "_law_deep"] [] :=
  ⟨_, fd, _, _, _, _, N11, [], t11, 200, 200, m.1, m.2, F, fs11, rfl, rfl, rfl, rfl, tr11, dfl0 (F.bindsN fun _ _ _ _ _ _ us hl => match us, hl with | [_, _], _ => rfl), (fun m z => nomatch z), fun z => absurd z (by decide)⟩
def d12 : He.DefD := ⟨("_law_bits", none), "_law_bits", "_law_bits", defArgs (top 17), defBody (top 17), defScope (top 17), [], []⟩
theorem fs12 : FnScope N12 ["_law_number_here"] (defScope (top 17)) := ⟨rfl, rfl, rfl, by decide +kernel, rfl, by decide +kernel, by decide +kernel⟩
theorem ok12 {K : PySem.W.Frag} {mg : Str → Option Value} {fd : FuncData} (F : FunD K "_law_bits" "_law_bits" (defArgs (top 17)) (defBody (top 17)) (defScope (top 17)) [] [] (He.ga K "_law_bits") fd) (m : mg "_law_bits" = some (.ref (He.ga K "_law_bits")) ∧ (tbOf cls fns tf K).fn 12 = some (He.ga K "_law_bits")) : DefOk K mg (tbOf cls fns tf K) gl blt tb "_law_bits" 12 1 [] ["_law_number_here"] [] :=
  ⟨_, fd, _, _, _, _, N12, [], t12, 200, 200, m.1, m.2, F, fs12, rfl, rfl, rfl, rfl, tr12, dfl0 (F.bindsN fun _ _ _ _ _ _ us hl => match us, hl with | [_], _ => rfl), (fun m z => nomatch z), fun z => absurd z (by decide)⟩
def d13 : He.DefD := ⟨("_law_bits_in", none), "_law_bits_in", "_law_bits_in", defArgs (top 18), defBody (top 18), defScope (top 18), [], []⟩
theorem fs13 : FnScope N13 ["_law_term_here"] (defScope (top 18)) := ⟨rfl, rfl, rfl, by decide +kernel, rfl, by decide +kernel, by decide +kernel⟩
theorem ok13 {K : PySem.W.Frag} {mg : Str → Option Value} {fd : FuncData} (F : FunD K "_law_bits_in" "_law_bits_in" (defArgs (top 18)) (defBody (top 18)) (defScope (top 18)) [] [] (He.ga K "_law_bits_in") fd) (m : mg "_law_bits_in" = some (.ref (He.ga K "_law_bits_in")) ∧ (tbOf cls fns tf K).fn 13 = some (He.ga K "_law_bits_in")) : DefOk K mg (tbOf cls fns tf K) gl blt tb "_law_bits_in" 13 1 [] ["_law_term_here"] [] :=
  ⟨_, fd, _, _, _, _, N13, [], t13, 200, 200, m.1, m.2, F, fs13, rfl, rfl, rfl, rfl, tr13, dfl0 (F.bindsN fun _ _ _ _ _ _ us hl => match us, hl with | [_], _ => rfl), (fun m z => nomatch z), fun z => absurd z (by decide)⟩
def d14 : He.DefD := ⟨("_law_gap", none), "_law_gap", "_law_gap", defArgs (top 19), defBody (top 19), defScope (top 19), [], []⟩
theorem fs14 : FnScope N14 ["_law_term_here"] (defScope (top 19)) := ⟨rfl, rfl, rfl, by decide +kernel, rfl, by decide +kernel, by decide +kernel⟩
theorem ok14 {K : PySem.W.Frag} {mg : Str → Option Value} {fd : FuncData} (F : FunD K "_law_gap" "_law_gap" (defArgs (top 19)) (defBody (top 19)) (defScope (top 19)) [] [] (He.ga K "_law_gap") fd) (m : mg "_law_gap" = some (.ref (He.ga K "_law_gap")) ∧ (tbOf cls fns tf K).fn 14 = some (He.ga K "_law_gap")) : DefOk K mg (tbOf cls fns tf K) gl blt tb "_law_gap" 14 1 [] ["_law_term_here"] [] :=
  ⟨_, fd, _, _, _, _, N14, [], t14, 200, 200, m.1, m.2, F, fs14, rfl, rfl, rfl, rfl, tr14, dfl0 (F.bindsN fun _ _ _ _ _ _ us hl => match us, hl with | [_], _ => rfl), (fun m z => nomatch z), fun z => absurd z (by decide)⟩
def d15 : He.DefD := ⟨("_law_further", none), "_law_further", "_law_further", defArgs (top 20), defBody (top 20), defScope (top 20), [], []⟩
theorem fs15 : FnScope N15 ["_law_row_here"] (defScope (top 20)) := ⟨rfl, rfl, rfl, by decide +kernel, rfl, by decide +kernel, by decide +kernel⟩
theorem ok15 {K : PySem.W.Frag} {mg : Str → Option Value} {fd : FuncData} (F : FunD K "_law_further" "_law_further" (defArgs (top 20)) (defBody (top 20)) (defScope (top 20)) [] [] (He.ga K "_law_further") fd) (m : mg "_law_further" = some (.ref (He.ga K "_law_further")) ∧ (tbOf cls fns tf K).fn 15 = some (He.ga K "_law_further")) : DefOk K mg (tbOf cls fns tf K) gl blt tb "_law_further" 15 1 [] ["_law_row_here"] [] :=
  ⟨_, fd, _, _, _, _, N15, [], t15, 200, 200, m.1, m.2, F, fs15, rfl, rfl, rfl, rfl, tr15, dfl0 (F.bindsN fun _ _ _ _ _ _ us hl => match us, hl with | [_], _ => rfl), (fun m z => nomatch z), fun z => absurd z (by decide)⟩
def d16 : He.DefD := ⟨("_law_with", none), "_law_with", "_law_with", defArgs (top 21), defBody (top 21), defScope (top 21), [], []⟩
theorem fs16 : FnScope N16 ["_law_row_here", "_law_term_here", "_law_more"] (defScope (top 21)) := ⟨rfl, rfl, rfl, by decide +kernel, rfl, by decide +kernel, by decide +kernel⟩
theorem ok16 {K : PySem.W.Frag} {mg : Str → Option Value} {fd : FuncData} (F : FunD K "_law_with" "_law_with" (defArgs (top 21)) (defBody (top 21)) (defScope (top 21)) [] [] (He.ga K "_law_with") fd) (m : mg "_law_with" = some (.ref (He.ga K "_law_with")) ∧ (tbOf cls fns tf K).fn 16 = some (He.ga K "_law_with")) : DefOk K mg (tbOf cls fns tf K) gl blt tb "_law_with" 16 3 [] ["_law_row_here", "_law_term_here", "_law_more"] [] :=
  ⟨_, fd, _, _, _, _, N16, [], t16, 200, 200, m.1, m.2, F, fs16, rfl, rfl, rfl, rfl, tr16, dfl0 (F.bindsN fun _ _ _ _ _ _ us hl => match us, hl with | [_, _, _], _ => rfl), (fun m z => nomatch z), fun z => absurd z (by decide)⟩
def d17 : He.DefD := ⟨("law", none), "law", "law", defArgs (top 22), defBody (top 22), defScope (top 22), [], []⟩
theorem fs17 : FnScope N17 ["_law_script"] (defScope (top 22)) := ⟨rfl, rfl, rfl, by decide +kernel, rfl, by decide +kernel, by decide +kernel⟩
theorem ok17 {K : PySem.W.Frag} {mg : Str → Option Value} {fd : FuncData} (F : FunD K "law" "law" (defArgs (top 22)) (defBody (top 22)) (defScope (top 22)) [] [] (He.ga K "law") fd) (m : mg "law" = some (.ref (He.ga K "law")) ∧ (tbOf cls fns tf K).fn 17 = some (He.ga K "law")) : DefOk K mg (tbOf cls fns tf K) gl blt tb "law" 17 1 [] ["_law_script"] [] :=
  ⟨_, fd, _, _, _, _, N17, [], t17, 200, 200, m.1, m.2, F, fs17, rfl, rfl, rfl, rfl, tr17, dfl0 (F.bindsN fun _ _ _ _ _ _ us hl => match us, hl with | [_], _ => rfl), (fun m z => nomatch z), fun z => absurd z (by decide)⟩
def dds : List He.DefD := ([d0, d1, d2, d3, d4, d5, d6, d7, d8, d9, d10, d11, d12, d13, d14, d15, d16, d17] : List (He.DefD))
def loose : List Str := (["FORMS", "parts_of", "WITHOUT", "bits", "bits_of_two", "bits_of_root", "bits_in", "gap", "_law_mixed", "_law_row", "_law_next", "_law_fraction", "_law_number", "_law_term", "_law_bits", "_law_bits_in", "_law_gap", "_law_further", "_law_with"] : List (Str))
def ex : PySem.W.Frag → Bool := exB ks gl blt cls fns
abbrev R : PySem.W.OpenRow := PySem.W.OpenLaw.row PySem.Challenge.rw_nearhall_k61_gaps_of_terms
def dts : List He.Tab := [(fun K => He.ga K "FORMS", ["plus", "less", "times", "over", "least", "most", "far", "power", "root", "value", "turned", "area", "endless"])]
abbrev hk : PySem.W.Hook := hookY 2000 dds dts tf ex
def ob (s : PySem.W.SharedT) : He.AlX := obsY 2000 dds dts tf ex (HandSHeadRun.getT s)
theorem ob_eq (s : PySem.W.SharedT) : ob s = hk.obs s.abs := obsY_eq (HandSHeadRun.getT_eq s)
theorem run_topF (w : World) : HandSHeadRun.RunEq R (PySem.W.view R.prog [22]) hk ob 20000 loose (w.withFollow "special-get-raises" false) := by
  intro os
  kernel_rfl
theorem run_topT (w : World) : HandSHeadRun.RunEq R (PySem.W.view R.prog [22]) hk ob 20000 loose (w.withFollow "special-get-raises" true) := by
  intro os
  kernel_rfl
theorem run_top (w : World) : HandSHeadRun.RunEq R (PySem.W.view R.prog [22]) hk ob 20000 loose w := PySem.W.byRow2 "special-get-raises" (P := fun w => HandSHeadRun.RunEq R (PySem.W.view R.prog [22]) hk ob 20000 loose w) run_topF run_topT w
theorem lk0 : List.lookup ("parts_of" : Str) gl = some (GK.fn 0 1 [] ["term"] []) := by kernel_rfl
theorem lk1 : List.lookup ("bits" : Str) gl = some (GK.fn 1 1 [] ["number"] []) := by kernel_rfl
theorem lk2 : List.lookup ("bits_of_two" : Str) gl = some (GK.fn 2 3 [] ["word", "one", "other"] []) := by kernel_rfl
theorem lk3 : List.lookup ("bits_of_root" : Str) gl = some (GK.fn 3 2 [] ["n", "one"] []) := by kernel_rfl
theorem lk4 : List.lookup ("bits_in" : Str) gl = some (GK.fn 4 1 [] ["term"] []) := by kernel_rfl
theorem lk5 : List.lookup ("gap" : Str) gl = some (GK.fn 5 1 [] ["term"] []) := by kernel_rfl
theorem lk6 : List.lookup ("_law_mixed" : Str) gl = some (GK.fn 6 2 [] ["_law_cell", "_law_k"] []) := by kernel_rfl
theorem lk7 : List.lookup ("_law_row" : Str) gl = some (GK.fn 7 2 [] ["_law_script", "_law_k"] []) := by kernel_rfl
theorem lk8 : List.lookup ("_law_next" : Str) gl = some (GK.fn 8 2 [] ["_law_row_here", "_law_many"] []) := by kernel_rfl
theorem lk9 : List.lookup ("_law_fraction" : Str) gl = some (GK.fn 9 2 [] ["_law_top", "_law_bottom"] []) := by kernel_rfl
theorem lk10 : List.lookup ("_law_number" : Str) gl = some (GK.fn 10 1 [] ["_law_row_here"] []) := by kernel_rfl
theorem lk11 : List.lookup ("_law_term" : Str) gl = some (GK.fn 11 2 [] ["_law_row_here", "_law_deep"] []) := by kernel_rfl
theorem lk12 : List.lookup ("_law_bits" : Str) gl = some (GK.fn 12 1 [] ["_law_number_here"] []) := by kernel_rfl
theorem lk13 : List.lookup ("_law_bits_in" : Str) gl = some (GK.fn 13 1 [] ["_law_term_here"] []) := by kernel_rfl
theorem lk14 : List.lookup ("_law_gap" : Str) gl = some (GK.fn 14 1 [] ["_law_term_here"] []) := by kernel_rfl
theorem lk15 : List.lookup ("_law_further" : Str) gl = some (GK.fn 15 1 [] ["_law_row_here"] []) := by kernel_rfl
theorem lk16 : List.lookup ("_law_with" : Str) gl = some (GK.fn 16 3 [] ["_law_row_here", "_law_term_here", "_law_more"] []) := by kernel_rfl
theorem lk17 : List.lookup ("law" : Str) gl = some (GK.fn 17 1 [] ["_law_script"] []) := by kernel_rfl
theorem all_ok {K : PySem.W.Frag} {mg : Str → Option Value} (c : He.SaysD [] dds K) (m : ∀ x i np dfl ps km, gl.lookup x = some (.fn i np dfl ps km) → mg x = some (.ref (He.ga K x)) ∧ (tbOf cls fns tf K).fn i = some (He.ga K x)) : AllD (PdOf K mg (tbOf cls fns tf K) gl blt tb) gl := by
  obtain ⟨f0, F0⟩ := c.def_ 0 (d := d0) rfl
  obtain ⟨f1, F1⟩ := c.def_ 1 (d := d1) rfl
  obtain ⟨f2, F2⟩ := c.def_ 2 (d := d2) rfl
  obtain ⟨f3, F3⟩ := c.def_ 3 (d := d3) rfl
  obtain ⟨f4, F4⟩ := c.def_ 4 (d := d4) rfl
  obtain ⟨f5, F5⟩ := c.def_ 5 (d := d5) rfl
  obtain ⟨f6, F6⟩ := c.def_ 6 (d := d6) rfl
  obtain ⟨f7, F7⟩ := c.def_ 7 (d := d7) rfl
  obtain ⟨f8, F8⟩ := c.def_ 8 (d := d8) rfl
  obtain ⟨f9, F9⟩ := c.def_ 9 (d := d9) rfl
  obtain ⟨f10, F10⟩ := c.def_ 10 (d := d10) rfl
  obtain ⟨f11, F11⟩ := c.def_ 11 (d := d11) rfl
  obtain ⟨f12, F12⟩ := c.def_ 12 (d := d12) rfl
  obtain ⟨f13, F13⟩ := c.def_ 13 (d := d13) rfl
  obtain ⟨f14, F14⟩ := c.def_ 14 (d := d14) rfl
  obtain ⟨f15, F15⟩ := c.def_ 15 (d := d15) rfl
  obtain ⟨f16, F16⟩ := c.def_ 16 (d := d16) rfl
  obtain ⟨f17, F17⟩ := c.def_ 17 (d := d17) rfl
  exact And.intro (ok0 F0 (m _ _ _ _ _ _ lk0)) (And.intro (ok1 F1 (m _ _ _ _ _ _ lk1)) (And.intro (ok2 F2 (m _ _ _ _ _ _ lk2)) (And.intro (ok3 F3 (m _ _ _ _ _ _ lk3)) (And.intro (ok4 F4 (m _ _ _ _ _ _ lk4)) (And.intro (ok5 F5 (m _ _ _ _ _ _ lk5)) (And.intro (ok6 F6 (m _ _ _ _ _ _ lk6)) (And.intro (ok7 F7 (m _ _ _ _ _ _ lk7)) (And.intro (ok8 F8 (m _ _ _ _ _ _ lk8)) (And.intro (ok9 F9 (m _ _ _ _ _ _ lk9)) (And.intro (ok10 F10 (m _ _ _ _ _ _ lk10)) (And.intro (ok11 F11 (m _ _ _ _ _ _ lk11)) (And.intro (ok12 F12 (m _ _ _ _ _ _ lk12)) (And.intro (ok13 F13 (m _ _ _ _ _ _ lk13)) (And.intro (ok14 F14 (m _ _ _ _ _ _ lk14)) (And.intro (ok15 F15 (m _ _ _ _ _ _ lk15)) (And.intro (ok16 F16 (m _ _ _ _ _ _ lk16)) (And.intro (ok17 F17 (m _ _ _ _ _ _ lk17)) (And.intro True.intro (And.intro True.intro (And.intro True.intro (True.intro)))))))))))))))))))))
theorem dct_ok {K : PySem.W.Frag} {w : World} {h : Heap} (c : He.SaysX [] dds dts tf ex w h K) : AllD (DcOf K w) gl := by
  exact And.intro True.intro (And.intro True.intro (And.intro True.intro (And.intro True.intro (And.intro True.intro (And.intro True.intro (And.intro True.intro (And.intro True.intro (And.intro True.intro (And.intro True.intro (And.intro True.intro (And.intro True.intro (And.intro True.intro (And.intro True.intro (And.intro True.intro (And.intro True.intro (And.intro True.intro (And.intro True.intro (And.intro True.intro (And.intro True.intro (And.intro (c.t.tab 0 (t := (fun K => He.ga K "FORMS", ["plus", "less", "times", "over", "least", "most", "far", "power", "root", "value", "turned", "area", "endless"]))) (True.intro)))))))))))))))))))))
end Z.Law

set_option Elab.async false
set_option linter.all false
set_option maxRecDepth 100000
set_option maxHeartbeats 4000000
namespace Z.Law
open PySem
/-! fractions -/
section
variable {w n : Nat} {g : G}
def wB : Nat := 2 ^ 9000
theorem wB_lt {b : Int} (h : Sm 9000 b) : b.natAbs < wB := h
def isW : D → Bool
  | .int _ => true
  | _ => false
def tagged (d : D) : Bool := match d.tag with
  | some (.ty _) => true
  | _ => false
theorem isI_int (d : D) (h : tagged d = true) : P.sem KL .isinst [d, .ty "int"] = some (.bl (match d with | .int _ => true | .bl _ => true | _ => false)) := by
  cases d <;> first | rfl | (simp [tagged, D.tag] at h) | skip
  rename_i c fs
  cases fs <;> simp [tagged, D.tag] at h
theorem isI_bool (d : D) (h : tagged d = true) : P.sem KL .isinst [d, .ty "bool"] = some (.bl (match d with | .bl _ => true | _ => false)) := by
  cases d <;> first | rfl | (simp [tagged, D.tag] at h) | skip
  rename_i c fs
  cases fs <;> simp [tagged, D.tag] at h
theorem isI_tup (d : D) (h : tagged d = true) : P.sem KL .isinst [d, .ty "tuple"] = some (.bl (match d with | .tup _ => true | _ => false)) := by
  cases d <;> first | rfl | (simp [tagged, D.tag] at h) | skip
  rename_i c fs
  cases fs <;> simp [tagged, D.tag] at h
/-- a fraction as a thing: whole numbers in least terms -/
def isFr : D → Bool
  | .tup [.int a, .int b] => decide (0 < b) && decide (gcI a b = 1)
  | _ => false
def Sq (n : Nat) (q : Rat) : Prop := Sm n q.num ∧ Sm n (q.den : Int)
theorem isFr_frD (q : Rat) : isFr (frD q) = true := by
  show (decide (0 < (q.den : Int)) && decide (gcI q.num q.den = 1)) = true
  rw [decide_eq_true (den_pos q), decide_eq_true (frac_red q)]; rfl
theorem den_ne (q : Rat) : (q.den : Int) ≠ 0 := by have := den_pos q; omega
section
variable {p q : Rat} {i j : Nat} (hw : wB ≤ w) (hp : Sq i p) (hq : Sq j q) (hij : i + j ≤ 9000)
include hw hp hq hij
end
section
variable {q : Rat} {j m : Nat} (hw : wB ≤ w) (hq : Sq j q) (hm : j + m ≤ 8900)
include hw hq hm
end
end
theorem Sq.mono {n m : Nat} {q : Rat} (h : n ≤ m) (k : Sq n q) : Sq m q := ⟨k.1.mono h, k.2.mono h⟩
theorem Sq_q {n m : Nat} {t b : Int} (ht : Sm n t) (hb : Sm n b) (h0 : 0 < b) (h : n ≤ m) : Sq m (qOf t b) := by
  obtain ⟨h9, h10⟩ := q_parts (t := t) h0
  have g0 := gcI_pos (t := t) (b := b) (by omega)
  have d0 := den_pos (qOf t b)
  refine ⟨(ht.le ?_).mono h, (hb.le ?_).mono h⟩
  · conv => rhs; rw [h9]
    rw [Int.natAbs_mul]
    exact Nat.le_mul_of_pos_right _ (by omega)
  · conv => rhs; rw [h10]
    rw [Int.natAbs_mul]
    exact Nat.le_mul_of_pos_right _ (by omega)
theorem Sq_add {n : Nat} {p q : Rat} (hp : Sq n p) (hq : Sq n q) : Sq (n + n + 1) (p + q) := by
  rw [← q_add']
  exact Sq_q (n := n + n + 1) (Sm.mono (by omega) (Sm.add (hp.1.mul hq.2) (hq.1.mul hp.2))) (Sm.mono (by omega) (hp.2.mul hq.2)) (Int.mul_pos (den_pos p) (den_pos q)) (Nat.le_refl _)
theorem Sq_sub {n : Nat} {p q : Rat} (hp : Sq n p) (hq : Sq n q) : Sq (n + n + 1) (p - q) := by
  rw [← q_sub']
  exact Sq_q (n := n + n + 1) (Sm.mono (by omega) (Sm.sub (hp.1.mul hq.2) (hq.1.mul hp.2))) (Sm.mono (by omega) (hp.2.mul hq.2)) (Int.mul_pos (den_pos p) (den_pos q)) (Nat.le_refl _)
theorem Sq_mul {n : Nat} {p q : Rat} (hp : Sq n p) (hq : Sq n q) : Sq (n + n + 1) (p * q) := by
  rw [← q_mul']
  exact Sq_q (n := n + n + 1) (Sm.mono (by omega) (hp.1.mul hq.1)) (Sm.mono (by omega) (hp.2.mul hq.2)) (Int.mul_pos (den_pos p) (den_pos q)) (Nat.le_refl _)
theorem Sq_div {n : Nat} {p q : Rat} (hp : Sq n p) (hq : Sq n q) (h0 : q.num ≠ 0) : Sq (n + n + 1) (p / q) := by
  rw [← q_div']
  rcases Int.lt_or_gt_of_ne h0 with h | h
  · rw [← q_neg]
    exact Sq_q (n := n + n + 1) (Sm.mono (by omega) (hp.1.mul hq.2).neg) (Sm.mono (by omega) (hp.2.mul hq.1).neg) (by have := Int.mul_pos (den_pos p) (show 0 < -q.num by omega); rw [Int.mul_neg] at this; exact this) (Nat.le_refl _)
  · exact Sq_q (n := n + n + 1) (Sm.mono (by omega) (hp.1.mul hq.2)) (Sm.mono (by omega) (hp.2.mul hq.1)) (Int.mul_pos (den_pos p) h) (Nat.le_refl _)

end Z.Law

set_option Elab.async false
set_option linter.all false
set_option maxRecDepth 100000
set_option maxHeartbeats 4000000
namespace Z.Law
open PySem
/-! k61: draws by a row of its own, fractions -/
theorem we_hnew {kl : Kl} {cl : Cal} {rd : List Nat} {ρ : List Sl} {g : G} {Q : D × G → Prop} {X : Nat → List (Str × D) → G → Prop} (ks : List Str) (es : Es) (hn : nodupS ks = true) (h15 : ks.length ≤ 15) : (evE kl cl rd (.hnew ks es) ρ g).W Q X = (evEs kl cl rd es ρ g).W (fun q => ∃ o, mkFlds ks q.1 = some o ∧ Q (.hnd q.2.length, q.2 ++ [o])) X := by
  have e : evE kl cl rd (.hnew ks es) ρ g = (evEs kl cl rd es ρ g).bind fun q => if nodupS ks = true ∧ ks.length ≤ 15 then match mkFlds ks q.1 with
      | some o => Z.R.ok (D.hnd q.2.length, q.2 ++ [o])
      | none => .bad
    else .bad := by
    conv => lhs; unfold evE
    all_goals rfl
  rw [e, W_bind]
  congr 1
  funext q
  rw [if_pos ⟨hn, h15⟩]
  cases mkFlds ks q.1 with
  | none => rw [W_bad]; exact propext ⟨fun z => z.elim, fun ⟨_, z, _⟩ => by cases z⟩
  | some o => rw [W_ok]; exact propext ⟨fun z => ⟨o, rfl, z⟩, fun ⟨_, z, h⟩ => by cases z; exact h⟩
theorem qOf_dvd {N : Nat} (t : Int) (hN : 0 < N) : (qOf t N).den ∣ N := by
  unfold qOf
  rw [Rat.den_divInt, if_neg (by omega), Int.natAbs_natCast]
  exact Nat.div_dvd_of_dvd (Nat.gcd_dvd_left ..)
theorem qOf_mul {t b : Int} (hb : b ≠ 0) : qOf t b * (b : Rat) = (t : Rat) := by
  unfold qOf
  have : (b : Rat) ≠ 0 := by exact_mod_cast hb
  rw [Rat.divInt_eq_div, Rat.div_mul_cancel this]
theorem qOf_dvd' {t b : Int} {k : Nat} (hb : 0 < b) (hk : b ≤ k) : (qOf t b).den ≤ k := by
  have := Nat.le_of_dvd (by omega) (qOf_dvd t (N := b.toNat) (by omega))
  rw [show ((b.toNat : Nat) : Int) = b by omega] at this
  omega
def rwO (l z k a : Int) : Obj1 := [("left", .imm (.int l)), ("cell", .imm (.int z)), ("k", .imm (.int k)), ("at", .imm (.int a))]
def Dr (j c : Nat) (g : G) : Prop := ∃ (l z k a : Int), g[j]? = some (rwO l z k a) ∧ 0 ≤ l ∧ 0 ≤ k ∧ k < 60 ∧ 0 ≤ a ∧ a ≤ c
theorem Dr.mono {j c c' : Nat} {g : G} (h : Dr j c g) (hc : c ≤ c') : Dr j c' g := by
  obtain ⟨l, z, k, a, h1, h2, h3, h4, h5, h6⟩ := h
  exact ⟨l, z, k, a, h1, h2, h3, h4, h5, by omega⟩
section
variable {w n : Nat} {g : G} {ns : List Int} {j c : Nat}
theorem S_qmixed (cell k : Int) (h0 : 0 ≤ k) (h1 : k ≤ 100000000) : ∃ v, run KL tb w (n + 1) 6 [.int cell, .int k] g = .ok (.int v, g) ∧ 0 ≤ v ∧ v < 2147483629 := by
  have : (run KL tb w (n + 1) 6 [.int cell, .int k] g).W (fun a => ∃ v, a = (.int v, g) ∧ 0 ≤ v ∧ v < 2147483629) noX := by
    rw [U_law_mixed]
    simp only [t6, ↓Ep0, ↓Ep1, ↓Ep2, ↓Ep3, ↓Ep4, ↓Ep5, ↓Ep6, ↓Ep7, ↓Ep8, Eq0, Eq1, Eq2, fnW, parW, strW, ↓ws_ite, ↓ws_own_comp, ↓ws_own_lst, ↓ws_own_addL, ↓ws_own_toLst, intW, ↓ws_app, valW, ite_self, lstW, ownW, List.contains_cons, List.contains_nil, Nat.reduceBEq, Bool.true_or, Bool.or_true, Bool.false_or, if_true, if_false, Bool.false_eq_true, ↓seen, List.getElem?_cons_succ, List.getElem?_cons_zero, Int.reduceToNat, Int.reducePow, List.cons_append, List.nil_append, D.imm, List.set_cons_zero, List.set_cons_succ, unpW, setSl, and_true, true_and, Classical.not_not, Int.reduceEq, false_implies, not_false_eq_true, not_true_eq_false, imp_false, forall_const, true_implies]
    have l1 : 0 ≤ (cell % 1000003 + 7) * 48271 % 2147483647 := Int.emod_nonneg _ (by decide)
    have l2 : (cell % 1000003 + 7) * 48271 % 2147483647 < 2147483647 := Int.emod_lt_of_pos _ (by decide)
    have d1 : divOk cell 1000003 = true := divOk_of (n := 64) (Sm.of (by decide)) (by decide)
    exact ⟨by decide, mulOk_r (by decide), by decide, mulOk_l (by decide), mulOk_r (by omega), mulOk_l (by omega), d1, mulOk_r (by decide), by decide, _, rfl, Int.emod_nonneg _ (by decide), Int.emod_lt_of_pos _ (by decide)⟩
  obtain ⟨a, e, v, h1, h2⟩ := W_ex this
  exact ⟨v, h1 ▸ e, h2⟩
theorem fix_at {xs : List D} {k : Nat} {x : D} {Q : D → Prop} (hx : xs[k]? = some x) (h : Q x) : OW (P.sem KL .ix [.frz xs, .int k]) Q := by
  have e : P.sem KL .ix [.frz xs, .int (k : Int)] = P.sem KL .ix [.lst xs, .int (k : Int)] := rfl
  rw [e]
  exact ix_at (by omega) rfl hx h
theorem S_qrow (hns : ns.length ≤ 63) (k : Nat) (hk : k ≤ 100000) : ∃ g', run KL tb w (n + 1) 7 [.frz (ns.map .int), .int k] g = .ok (.hnd g.length, g') ∧ Dr g.length 0 g' := by
  have : (run KL tb w (n + 1) 7 [.frz (ns.map .int), .int k] g).W (fun a => ∃ g', a = (.hnd g.length, g') ∧ Dr g.length 0 g') noX := by
    have p1 : powOk 10 18 = true := by decide
    have fin : ∀ z l : Int, 0 ≤ l → ∃ o, mkFlds ["left", "cell", "k", "at"] [.int l, .int z, .int ((k : Int) % 60), .int 0] = some o ∧ ∃ g', (D.hnd g.length, g ++ [o]) = (.hnd g.length, g') ∧ Dr g.length 0 g' := fun z l hl =>
      ⟨_, rfl, _, rfl, l, z, (k : Int) % 60, 0, by rw [List.getElem?_append_right (Nat.le_refl _), Nat.sub_self]; rfl, hl, Int.emod_nonneg _ (by decide), Int.emod_lt_of_pos _ (by decide), by decide, by decide⟩
    have fin2 : ∀ z : Int, ∃ l : Int, 0 ≤ l ∧ (if 10 ^ 18 ≤ z then z else 0) = l := fun z => by
      refine ⟨_, ?_, rfl⟩
      split <;> omega
    rw [U_law_row]
    simp only [t7, ↓Ep0, ↓Ep1, ↓Ep2, ↓Ep3, ↓Ep4, ↓Ep5, ↓Ep6, ↓Ep7, ↓Ep8, Eq0, Eq1, Eq2, fnW, parW, strW, ↓ws_ite, ↓ws_own_comp, ↓ws_own_lst, ↓ws_own_addL, ↓ws_own_toLst, intW, ↓ws_app, valW, ite_self, lstW, ownW, List.contains_cons, List.contains_nil, Nat.reduceBEq, Bool.true_or, Bool.or_true, Bool.false_or, if_true, if_false, Bool.false_eq_true, ↓seen, List.getElem?_cons_succ, List.getElem?_cons_zero, Int.reduceToNat, Int.reducePow, List.cons_append, List.nil_append, D.imm, List.set_cons_zero, List.set_cons_succ, unpW, setSl, and_true, true_and, Classical.not_not, Int.reduceEq, false_implies, not_false_eq_true, not_true_eq_false, imp_false, forall_const, true_implies, List.length_map]
    refine ⟨fun h => ?_, fun _ => ?_⟩
    · have hk : k < ns.length := by omega
      have hx : (ns.map D.int)[k]? = some (.int ns[k]) := by rw [List.getElem?_map, List.getElem?_eq_getElem hk]; rfl
      refine fix_at hx ?_
      rw [we_hnew _ _ rfl (by decide)]
      simp only [↓Ep0, ↓Ep1, ↓Ep2, ↓Ep3, ↓Ep4, ↓Ep5, ↓Ep6, ↓Ep7, ↓Ep8, Eq0, Eq1, Eq2, fnW, parW, strW, ↓ws_ite, ↓ws_own_comp, ↓ws_own_lst, ↓ws_own_addL, ↓ws_own_toLst, intW, ↓ws_app, valW, ite_self, lstW, ownW, List.contains_cons, List.contains_nil, Nat.reduceBEq, Bool.true_or, Bool.or_true, Bool.false_or, if_true, if_false, Bool.false_eq_true, ↓seen, List.getElem?_cons_succ, List.getElem?_cons_zero, Int.reduceToNat, Int.reducePow, List.cons_append, List.nil_append, D.imm, List.set_cons_zero, List.set_cons_succ, unpW, setSl, and_true, true_and, Classical.not_not, Int.reduceEq, false_implies, not_false_eq_true, not_true_eq_false, imp_false, forall_const, true_implies]
      exact ⟨p1, fun h => ⟨by decide, fin _ _ (by omega)⟩, fun _ => ⟨by decide, fin _ _ (by decide)⟩⟩
    · rw [we_hnew _ _ rfl (by decide)]
      simp only [↓Ep0, ↓Ep1, ↓Ep2, ↓Ep3, ↓Ep4, ↓Ep5, ↓Ep6, ↓Ep7, ↓Ep8, Eq0, Eq1, Eq2, fnW, parW, strW, ↓ws_ite, ↓ws_own_comp, ↓ws_own_lst, ↓ws_own_addL, ↓ws_own_toLst, intW, ↓ws_app, valW, ite_self, lstW, ownW, List.contains_cons, List.contains_nil, Nat.reduceBEq, Bool.true_or, Bool.or_true, Bool.false_or, if_true, if_false, Bool.false_eq_true, ↓seen, List.getElem?_cons_succ, List.getElem?_cons_zero, Int.reduceToNat, Int.reducePow, List.cons_append, List.nil_append, D.imm, List.set_cons_zero, List.set_cons_succ, unpW, setSl, and_true, true_and, Classical.not_not, Int.reduceEq, false_implies, not_false_eq_true, not_true_eq_false, imp_false, forall_const, true_implies]
      exact ⟨p1, fun h => ⟨by decide, fin _ _ (by decide)⟩, fun _ => ⟨by decide, fin _ _ (by decide)⟩⟩
  obtain ⟨a, e, g', h1, h2⟩ := W_ex this
  exact ⟨g', h1 ▸ e, h2⟩
theorem og_dr {l z k a : Int} (h : g[j]? = some (rwO l z k a)) (key : Str) : oget g j key = (rwO l z k a).lookup key := by unfold oget; rw [h]
theorem op_dr {l z k a : Int} (h : g[j]? = some (rwO l z k a)) (key : Str) (x : Fld) : oput g j key x = g.set j (putK1 key x (rwO l z k a)) := by unfold oput; rw [h]
theorem S_qnext (h : Dr j c g) (hc : c ≤ 1000000) {m : Int} (hm : 1 ≤ m) (hm2 : Sm 100 m) : ∃ v g', run KL tb w (n + 2) 8 [.hnd j, .int m] g = .ok (.int v, g') ∧ Dr j (c + 1) g' ∧ 0 ≤ v ∧ v < m := by
  refine W_int ?_
  obtain ⟨l, z, k, a, hg, h1, h2, h3, h4, h5⟩ := h
  have l1 : ∀ a, (rwO l z k a).lookup ("left" : Str) = some (.imm (.int l)) := fun _ => rfl
  have l2 : ∀ a, (rwO l z k a).lookup ("cell" : Str) = some (.imm (.int z)) := fun _ => rfl
  have l3 : ∀ a, (rwO l z k a).lookup ("k" : Str) = some (.imm (.int k)) := fun _ => rfl
  have l4 : ∀ a, (rwO l z k a).lookup ("at" : Str) = some (.imm (.int a)) := fun _ => rfl
  have q1 : ∀ d a, putK1 "left" (.imm (.int d)) (rwO l z k a) = rwO d z k a := fun d a => rfl
  have q3 : ∀ d a, putK1 "at" (.imm (.int d)) (rwO l z k a) = rwO l z k d := fun d a => rfl
  have hlt := (List.getElem?_eq_some_iff.1 hg).1
  have hg2 : (g.set j (rwO l z k (a + 1)))[j]? = some (rwO l z k (a + 1)) := by rw [List.getElem?_set_self hlt]
  obtain ⟨u1, e1, u10, u11⟩ := S_qmixed (w := w) (n := n) (g := g.set j (rwO l z k (a + 1))) z (k + 61 * (a + 1)) (by omega) (by omega)
  obtain ⟨u2, e2, u20, u21⟩ := S_qmixed (w := w) (n := n) (g := g.set j (rwO l z k (a + 1))) u1 50 (by omega) (by omega)
  have set_ok : ∀ l' : Int, 0 ≤ l' → Dr j (c + 1) (g.set j (rwO l' z k (a + 1))) := fun l' hl' => ⟨l', z, k, a + 1, by rw [List.getElem?_set_self hlt], hl', h2, h3, by omega, by omega⟩
  rw [U_law_next]
  simp only [t8, ↓Ep0, ↓Ep1, ↓Ep2, ↓Ep3, ↓Ep4, ↓Ep5, ↓Ep6, ↓Ep7, ↓Ep8, Eq0, Eq1, Eq2, fnW, parW, strW, ↓ws_ite, ↓ws_own_comp, ↓ws_own_lst, ↓ws_own_addL, ↓ws_own_toLst, intW, ↓ws_app, valW, ite_self, lstW, ownW, List.contains_cons, List.contains_nil, Nat.reduceBEq, Bool.true_or, Bool.or_true, Bool.false_or, if_true, if_false, Bool.false_eq_true, ↓seen, List.getElem?_cons_succ, List.getElem?_cons_zero, Int.reduceToNat, Int.reducePow, List.cons_append, List.nil_append, D.imm, List.set_cons_zero, List.set_cons_succ, unpW, setSl, and_true, true_and, Classical.not_not, Int.reduceEq, false_implies, not_false_eq_true, not_true_eq_false, imp_false, forall_const, true_implies, og_dr hg, op_dr hg, l1, l2, l3, l4, q1, q3, og_dr hg2, op_dr hg2, D.imm, e1, e2]
  refine ⟨fun hl => ⟨by omega, divOk_of hm2 (by omega), _, _, rfl, ?_, Int.emod_nonneg _ (by omega), Int.emod_lt_of_pos _ (by omega)⟩, fun _ => ⟨mulOk_l (by decide), divOk_of (n := 64) (Sm.of (by decide)) (by decide), by omega, _, _, rfl, set_ok l h1, Int.emod_nonneg _ (by omega), Int.emod_lt_of_pos _ (by omega)⟩⟩
  rw [List.set_set]
  refine set_ok _ ?_
  rw [Int.fdiv_eq_ediv_of_nonneg _ (by omega)]
  exact Int.ediv_nonneg h1 (by omega)
end
section
variable {w n : Nat} {g : G} (hw : wB ≤ w)
include hw
theorem S_least (t b : Int) (hb : 0 < b) (hs : Sm 9000 b) : run KL tb w (n + 1) 9 [.int t, .int b] g = .ok (frD (qOf t b), g) := by
  rw [← W_eq, U_law_fraction]
  simp only [t9, ↓Ep0, ↓Ep1, ↓Ep2, ↓Ep3, ↓Ep4, ↓Ep5, ↓Ep6, ↓Ep7, ↓Ep8, Eq0, Eq1, Eq2, fnW, parW, strW, ↓W_iteS, ↓ws_own_comp, ↓ws_own_lst, ↓ws_own_addL, ↓ws_own_toLst, intW, ↓ws_app, valW, ite_self, lstW, ownW, List.contains_cons, List.contains_nil, Nat.reduceBEq, Bool.true_or, Bool.or_true, Bool.false_or, if_true, if_false, Bool.false_eq_true, ↓seen, List.getElem?_cons_succ, List.getElem?_cons_zero, Int.reduceToNat, Int.reducePow, List.cons_append, List.nil_append, D.imm, List.set_cons_zero, List.set_cons_succ, unpW, setSl, and_true, true_and, Classical.not_not, Int.reduceEq, false_implies, not_false_eq_true, not_true_eq_false, imp_false, forall_const, true_implies]
  have g0 := gcI_pos (t := t) (b := b) (by omega)
  have g1 : gcI t b ≤ b.natAbs := Int.le_of_dvd (by omega) (Int.dvd_natAbs.2 (gcI_dvd2 t b))
  have hg : Sm 9000 (gcI t b) := hs.le (by omega)
  have hw := Nat.lt_of_lt_of_le (wB_lt hs) hw
  refine SR.W_join (J := fun ρ g' => ∃ x y : Int, ρ = [.val (.int t), .val (.int b), .val (.int x), .val (.int y)] ∧ g = g' ∧ 0 ≤ x ∧ 0 ≤ y ∧ y.toNat < w ∧ gcI x y = gcI t b) ?_ ?_
  · simp only [↓Ep0, ↓Ep1, ↓Ep2, ↓Ep3, ↓Ep4, ↓Ep5, ↓Ep6, ↓Ep7, ↓Ep8, Eq0, Eq1, Eq2, fnW, parW, strW, ↓ws_ite, ↓ws_own_comp, ↓ws_own_lst, ↓ws_own_addL, ↓ws_own_toLst, intW, ↓ws_app, valW, ite_self, lstW, ownW, List.contains_cons, List.contains_nil, Nat.reduceBEq, Bool.true_or, Bool.or_true, Bool.false_or, if_true, if_false, Bool.false_eq_true, ↓seen, List.getElem?_cons_succ, List.getElem?_cons_zero, Int.reduceToNat, Int.reducePow, List.cons_append, List.nil_append, D.imm, List.set_cons_zero, List.set_cons_succ, unpW, setSl, and_true, true_and, Classical.not_not, Int.reduceEq, false_implies, not_false_eq_true, not_true_eq_false, imp_false, forall_const, true_implies]
    have e0 : gcI (t.natAbs : Int) b = gcI t b := by
      have := gcI_abs2 t b
      rwa [show ((b.natAbs : Nat) : Int) = b by omega] at this
    refine ⟨fun h1 => ⟨fun h2 => ⟨fun h3 => ?_, fun h3 => ?_⟩, fun h => by omega⟩, fun h1 => ?_⟩
    · have hb' : ((b.natAbs : Nat) : Int) = b := by omega
      refine ⟨_, _, rfl, ?_, by omega, by omega, ?_⟩
      · have := gcI_low (t := t) (b := b) (by omega) (by omega) h3
        rw [this]; omega
      · have := gcI_low (t := t) (b := b) (by omega) (by omega) h3
        rw [this, gcI_end _ (by omega)]
    · exact ⟨_, _, rfl, by omega, by omega, by omega, e0⟩
    · exact ⟨_, _, rfl, by omega, by omega, by omega, e0⟩
  · rintro ρ g' ⟨x, y, rfl, rfl, hx, hy, hyw, he⟩
    simp only [↓Ep0, ↓Ep1, ↓Ep2, ↓Ep3, ↓Ep4, ↓Ep5, ↓Ep6, ↓Ep7, ↓Ep8, Eq0, Eq1, Eq2, fnW, parW, strW, ↓ws_ite, ↓ws_own_comp, ↓ws_own_lst, ↓ws_own_addL, ↓ws_own_toLst, intW, ↓ws_app, valW, ite_self, lstW, ownW, List.contains_cons, List.contains_nil, Nat.reduceBEq, Bool.true_or, Bool.or_true, Bool.false_or, if_true, if_false, Bool.false_eq_true, ↓seen, List.getElem?_cons_succ, List.getElem?_cons_zero, Int.reduceToNat, Int.reducePow, List.cons_append, List.nil_append, D.imm, List.set_cons_zero, List.set_cons_succ, unpW, setSl, and_true, true_and, Classical.not_not, Int.reduceEq, false_implies, not_false_eq_true, not_true_eq_false, imp_false, forall_const, true_implies]
    refine whl_W (I := fun m ρ g' => ∃ x y : Int, ρ = [.val (.int t), .val (.int b), .val (.int x), .val (.int y)] ∧ g = g' ∧ 0 ≤ x ∧ 0 ≤ y ∧ y.toNat = m ∧ gcI x y = gcI t b) ?_ w y.toNat _ _ hyw ⟨x, y, rfl, rfl, hx, hy, rfl, he⟩
    rintro m ρ g' ⟨x, y, rfl, rfl, hx, hy, hm, he⟩
    simp only [↓Ep0, ↓Ep1, ↓Ep2, ↓Ep3, ↓Ep4, ↓Ep5, ↓Ep6, ↓Ep7, ↓Ep8, Eq0, Eq1, Eq2, fnW, parW, strW, ↓ws_ite, ↓ws_own_comp, ↓ws_own_lst, ↓ws_own_addL, ↓ws_own_toLst, intW, ↓ws_app, valW, ite_self, lstW, ownW, List.contains_cons, List.contains_nil, Nat.reduceBEq, Bool.true_or, Bool.or_true, Bool.false_or, if_true, if_false, Bool.false_eq_true, ↓seen, List.getElem?_cons_succ, List.getElem?_cons_zero, Int.reduceToNat, Int.reducePow, List.cons_append, List.nil_append, D.imm, List.set_cons_zero, List.set_cons_succ, unpW, setSl, and_true, true_and, Classical.not_not, Int.reduceEq, false_implies, not_false_eq_true, not_true_eq_false, imp_false, forall_const, true_implies]
    refine ⟨fun h => ⟨h, (x % y).toNat, ?_, y, x % y, rfl, hy, Int.emod_nonneg _ (by omega), rfl, ?_⟩, fun h => ?_⟩
    · have := Int.emod_lt_of_pos x h
      have := Int.emod_nonneg x (show y ≠ 0 by omega)
      omega
    · rw [gcI_step h hx, he]
    · have : y = 0 := by omega
      subst this
      rw [gcI_end x hx] at he
      subst he
      rw [q_num hb, q_den hb]
      exact ⟨divOk_of hg (by omega), divOk_of hg (by omega), rfl⟩
end

end Z.Law

set_option Elab.async false
set_option linter.all false
set_option maxRecDepth 100000
set_option maxHeartbeats 4000000
namespace Z.Law
open PySem
/-! k61: terms, the bits of their tops and bottoms -/
inductive Wd where | plus | less | times | over | least | most
def Wd.s : Wd → Str
  | .plus => "plus"
  | .less => "less"
  | .times => "times"
  | .over => "over"
  | .least => "least"
  | .most => "most"
inductive Tm where
  | num (q : Rat)
  | fur (wd : Str) (ds : List D)
  | two (wd : Wd) (a b : Tm)
  | far (a : Tm)
  | pow (a : Tm) (n : Nat)
  | root (n : Nat) (a : Tm)
def tmD : Tm → D
  | .num q => .tup [.str "number", frD q]
  | .fur wd ds => .tup (.str wd :: ds)
  | .two wd a b => .tup [.str wd.s, tmD a, tmD b]
  | .far a => .tup [.str "far", tmD a]
  | .pow a n => .tup [.str "power", tmD a, .int n]
  | .root n a => .tup [.str "root", .int n, tmD a]
def hgt : Tm → Nat
  | .num _ => 1
  | .fur _ _ => 1
  | .two _ a b => max (hgt a) (hgt b) + 1
  | .far a => hgt a + 1
  | .pow a _ => hgt a + 1
  | .root _ a => hgt a + 1
def TmOk : Tm → Prop
  | .num q => Sq 12 q
  | .fur wd _ => wd = "name" ∨ wd = "value" ∨ wd = "turned" ∨ wd = "area" ∨ wd = "endless"
  | .two _ a b => TmOk a ∧ TmOk b
  | .far a => TmOk a
  | .pow a n => TmOk a ∧ n ≤ 3
  | .root n a => TmOk a ∧ 2 ≤ n ∧ n ≤ 4
/-- the least power of two that isn't below -/
def bitsN (n : Nat) : Nat := if n ≤ 1 then 0 else Nat.log2 (n - 1) + 1
theorem bitsN_lt {n k : Nat} (hn : 1 ≤ n) : k < bitsN n ↔ 2 ^ k < n := by
  unfold bitsN
  split
  · have := Nat.one_le_two_pow (n := k)
    omega
  · have h := Nat.le_log2 (n := n - 1) (k := k) (by omega)
    omega
theorem bitsN_le {n e : Nat} (hn : 1 ≤ n) (h : n ≤ 2 ^ e) : bitsN n ≤ e := by
  by_cases c : e < bitsN n
  · have := (bitsN_lt hn).1 c; omega
  · omega
abbrev BV := Int × Int × Int
def bD (x : BV) : D := .tup [.int x.1, .int x.2.1, .int x.2.2]
def bO : Option BV → D
  | none => .non
  | some x => bD x
def numB (q : Rat) : BV := ((bitsN (max 1 q.num.natAbs) : Nat), (bitsN q.den : Nat), 1)
def rootB (n : Int) (x : BV) : BV := if x.2.1 ≤ x.1 then ((x.1 + (n - 1) * x.2.1 + n - 1).fdiv n, x.2.1, x.2.2 * n) else (x.1, ((n - 1) * x.1 + x.2.1 + n - 1).fdiv n, x.2.2 * n)
def twoB : Wd → BV → BV → BV
  | .times, x, y => (x.1 + y.1, x.2.1 + y.2.1, x.2.2 * y.2.2)
  | .over, x, y => (x.1 + y.2.1, x.2.1 + y.1, x.2.2 * y.2.2)
  | .least, x, y => (max (x.1 + y.2.1) (y.1 + x.2.1) + 1, x.2.1 + y.2.1, x.2.2 * y.2.2 * 2)
  | .most, x, y => (max (x.1 + y.2.1) (y.1 + x.2.1) + 1, x.2.1 + y.2.1, x.2.2 * y.2.2 * 2)
  | .plus, x, y => (max (x.1 + y.2.1) (y.1 + x.2.1) + 1, x.2.1 + y.2.1, x.2.2 * y.2.2 * 1)
  | .less, x, y => (max (x.1 + y.2.1) (y.1 + x.2.1) + 1, x.2.1 + y.2.1, x.2.2 * y.2.2 * 1)
def bitV : Tm → Option BV
  | .num q => some (numB q)
  | .fur _ _ => none
  | .two wd a b => match bitV a, bitV b with
    | some x, some y => some (twoB wd x y)
    | _, _ => none
  | .far a => bitV a
  | .pow a n => (bitV a).map fun x => ((n : Int) * x.1, (n : Int) * x.2.1, x.2.2)
  | .root n a => (bitV a).map (rootB n)
/-! sizes -/
def Bh : Nat → Int
  | 0 => 12
  | h + 1 => 4 * Bh h
def Eh : Nat → Nat
  | 0 => 1
  | h + 1 => 2 * Eh h + 2
theorem Bh_pos : ∀ h, 12 ≤ Bh h
  | 0 => Int.le_refl _
  | h + 1 => by have := Bh_pos h; show 12 ≤ 4 * Bh h; omega
theorem Eh_pos : ∀ h, 1 ≤ Eh h
  | 0 => Nat.le_refl _
  | h + 1 => by show 1 ≤ 2 * Eh h + 2; omega
theorem Bh_mono {a b : Nat} (h : a ≤ b) : Bh a ≤ Bh b := by
  induction h with
  | refl => exact Int.le_refl _
  | step h ih => have := Bh_pos ‹_›; show _ ≤ 4 * Bh _; omega
theorem Eh_mono {a b : Nat} (h : a ≤ b) : Eh a ≤ Eh b := by
  induction h with
  | refl => exact Nat.le_refl _
  | step h ih => show _ ≤ 2 * Eh _ + 2; omega
structure BOk (h : Nat) (x : BV) : Prop where
  h0 : 0 ≤ x.1
  h1 : x.1 ≤ Bh h
  l0 : 0 ≤ x.2.1
  l1 : x.2.1 ≤ Bh h
  m : Sm (Eh h) x.2.2
theorem BOk.mono {a b : Nat} {x : BV} (k : BOk a x) (h : a ≤ b) : BOk b x := ⟨k.h0, Int.le_trans k.h1 (Bh_mono h), k.l0, Int.le_trans k.l1 (Bh_mono h), k.m.mono (Eh_mono h)⟩
theorem BOk.numB {q : Rat} (h : Sq 12 q) : BOk 1 (numB q) := by
  have hq : q.num.natAbs < 2 ^ 12 := h.1
  have hd : (q.den : Int).natAbs < 2 ^ 12 := h.2
  have dp := q.den_pos
  have a := bitsN_le (n := max 1 q.num.natAbs) (e := 12) (by omega) (by omega)
  have b := bitsN_le (n := q.den) (e := 12) (by omega) (by omega)
  have e : Bh 1 = 48 := rfl
  unfold Law.numB
  exact ⟨by show (0 : Int) ≤ ((bitsN _ : Nat) : Int); omega, by show ((bitsN _ : Nat) : Int) ≤ Bh 1; omega, by show (0 : Int) ≤ ((bitsN _ : Nat) : Int); omega, by show ((bitsN _ : Nat) : Int) ≤ Bh 1; omega, show Sm (Eh 1) 1 from Sm.mono (n := 2) (by decide) (Sm.of (by decide))⟩
theorem BOk.twoB {h : Nat} {x y : BV} (wd : Wd) (kx : BOk h x) (ky : BOk h y) : BOk (h + 1) (twoB wd x y) := by
  have b := Bh_pos h
  have e : Bh (h + 1) = 4 * Bh h := rfl
  have eE : Eh (h + 1) = 2 * Eh h + 2 := rfl
  obtain ⟨x1, x2, x3, x4, x5⟩ := kx
  obtain ⟨y1, y2, y3, y4, y5⟩ := ky
  have m1 := x5.mul y5
  have m2 := m1.mul (show Sm 2 2 from Sm.of (by decide))
  have m3 := m1.mul (show Sm 2 1 from Sm.of (by decide))
  cases wd <;> refine ⟨?_, ?_, ?_, ?_, ?_⟩ <;> unfold Law.twoB <;> dsimp only <;> first | omega | exact m1.mono (by omega) | exact m2.mono (by omega) | exact m3.mono (by omega)
theorem BOk.rootB {h n : Nat} {x : BV} (n2 : 2 ≤ n) (n4 : n ≤ 4) (kx : BOk h x) : BOk (h + 1) (rootB n x) := by
  have b := Bh_pos h
  have e : Bh (h + 1) = 4 * Bh h := rfl
  have eE : Eh (h + 1) = 2 * Eh h + 2 := rfl
  have := Eh_pos h
  obtain ⟨x1, x2, x3, x4, x5⟩ := kx
  have m1 := x5.mul (show Sm 3 (n : Int) by unfold Sm; omega)
  unfold Law.rootB
  rcases (show n = 2 ∨ n = 3 ∨ n = 4 by omega) with rfl | rfl | rfl
  all_goals
    rw [Int.fdiv_eq_ediv_of_nonneg _ (by decide), Int.fdiv_eq_ediv_of_nonneg _ (by decide)]
    split
    · exact ⟨by dsimp only; omega, by dsimp only; omega, by dsimp only; omega, by dsimp only; omega, m1.mono (by omega)⟩
    · exact ⟨by dsimp only; omega, by dsimp only; omega, by dsimp only; omega, by dsimp only; omega, m1.mono (by omega)⟩
theorem bit_ok : ∀ (t : Tm), TmOk t → ∀ x, bitV t = some x → BOk (hgt t) x
  | .num q, h, x, e => by
    injection e with e
    subst e
    exact BOk.numB h
  | .fur _ _, h, x, e => by cases e
  | .two wd a b, h, x, e => by
    have e' : (match bitV a, bitV b with | some x, some y => some (twoB wd x y) | _, _ => none) = some x := e
    cases ha : bitV a with
    | none => rw [ha] at e'; cases e'
    | some u =>
      cases hb : bitV b with
      | none => rw [ha, hb] at e'; cases e'
      | some v =>
        rw [ha, hb] at e'
        injection e' with e'
        subst e'
        exact BOk.twoB wd ((bit_ok a h.1 u ha).mono (Nat.le_max_left ..)) ((bit_ok b h.2 v hb).mono (Nat.le_max_right ..))
  | .far a, h, x, e => (bit_ok a h x e).mono (Nat.le_succ _)
  | .pow a n, h, x, e => by
    have e' : (bitV a).map (fun x => ((n : Int) * x.1, (n : Int) * x.2.1, x.2.2)) = some x := e
    cases ha : bitV a with
    | none => rw [ha] at e'; cases e'
    | some u =>
      rw [ha] at e'
      injection e' with e'
      subst e'
      obtain ⟨x1, x2, x3, x4, x5⟩ := bit_ok a h.1 u ha
      have eB : Bh (hgt (Tm.pow a n)) = 4 * Bh (hgt a) := rfl
      have hn := h.2
      have m5 : Sm (Eh (hgt (Tm.pow a n))) u.2.2 := x5.mono (by show Eh (hgt a) ≤ 2 * Eh (hgt a) + 2; omega)
      rcases (show n = 0 ∨ n = 1 ∨ n = 2 ∨ n = 3 by omega) with rfl | rfl | rfl | rfl
      all_goals exact ⟨by dsimp only; omega, by dsimp only; omega, by dsimp only; omega, by dsimp only; omega, m5⟩
  | .root n a, h, x, e => by
    have e' : (bitV a).map (rootB n) = some x := e
    cases ha : bitV a with
    | none => rw [ha] at e'; cases e'
    | some u =>
      rw [ha] at e'
      injection e' with e'
      subst e'
      exact BOk.rootB h.2.1 h.2.2 (bit_ok a h.1 u ha)
theorem BOk.b20 {x : BV} (h : BOk 8 x) : (0 ≤ x.1 ∧ x.1 ≤ 786432) ∧ (0 ≤ x.2.1 ∧ x.2.1 ≤ 786432) ∧ Sm 800 x.2.2 := by
  have e : Bh 8 = 786432 := rfl
  exact ⟨⟨h.h0, by have := h.h1; omega⟩, ⟨h.l0, by have := h.l1; omega⟩, h.m.mono (by decide)⟩
/-! words -/
theorem wK_plus : (D.str ("plus" : Str)).okEq = true := by decide +kernel
theorem wK_less : (D.str ("less" : Str)).okEq = true := by decide +kernel
theorem wK_times : (D.str ("times" : Str)).okEq = true := by decide +kernel
theorem wK_over : (D.str ("over" : Str)).okEq = true := by decide +kernel
theorem wK_least : (D.str ("least" : Str)).okEq = true := by decide +kernel
theorem wK_most : (D.str ("most" : Str)).okEq = true := by decide +kernel
theorem wK_far : (D.str ("far" : Str)).okEq = true := by decide +kernel
theorem wK_power : (D.str ("power" : Str)).okEq = true := by decide +kernel
theorem wK_root : (D.str ("root" : Str)).okEq = true := by decide +kernel
theorem wK_number : (D.str ("number" : Str)).okEq = true := by decide +kernel
theorem wK_name : (D.str ("name" : Str)).okEq = true := by decide +kernel
theorem wK_value : (D.str ("value" : Str)).okEq = true := by decide +kernel
theorem wK_turned : (D.str ("turned" : Str)).okEq = true := by decide +kernel
theorem wK_area : (D.str ("area" : Str)).okEq = true := by decide +kernel
theorem wK_endless : (D.str ("endless" : Str)).okEq = true := by decide +kernel
theorem we_plus_number : (("plus" : Str) == ("number" : Str)) = false := by decide +kernel
theorem we_plus_far : (("plus" : Str) == ("far" : Str)) = false := by decide +kernel
theorem we_plus_power : (("plus" : Str) == ("power" : Str)) = false := by decide +kernel
theorem we_plus_root : (("plus" : Str) == ("root" : Str)) = false := by decide +kernel
theorem we_plus_times : (("plus" : Str) == ("times" : Str)) = false := by decide +kernel
theorem we_plus_over : (("plus" : Str) == ("over" : Str)) = false := by decide +kernel
theorem we_less_number : (("less" : Str) == ("number" : Str)) = false := by decide +kernel
theorem we_less_far : (("less" : Str) == ("far" : Str)) = false := by decide +kernel
theorem we_less_power : (("less" : Str) == ("power" : Str)) = false := by decide +kernel
theorem we_less_root : (("less" : Str) == ("root" : Str)) = false := by decide +kernel
theorem we_less_times : (("less" : Str) == ("times" : Str)) = false := by decide +kernel
theorem we_less_over : (("less" : Str) == ("over" : Str)) = false := by decide +kernel
theorem we_times_number : (("times" : Str) == ("number" : Str)) = false := by decide +kernel
theorem we_times_far : (("times" : Str) == ("far" : Str)) = false := by decide +kernel
theorem we_times_power : (("times" : Str) == ("power" : Str)) = false := by decide +kernel
theorem we_times_root : (("times" : Str) == ("root" : Str)) = false := by decide +kernel
theorem we_times_times : (("times" : Str) == ("times" : Str)) = true := by decide +kernel
theorem we_times_over : (("times" : Str) == ("over" : Str)) = false := by decide +kernel
theorem we_over_number : (("over" : Str) == ("number" : Str)) = false := by decide +kernel
theorem we_over_far : (("over" : Str) == ("far" : Str)) = false := by decide +kernel
theorem we_over_power : (("over" : Str) == ("power" : Str)) = false := by decide +kernel
theorem we_over_root : (("over" : Str) == ("root" : Str)) = false := by decide +kernel
theorem we_over_times : (("over" : Str) == ("times" : Str)) = false := by decide +kernel
theorem we_over_over : (("over" : Str) == ("over" : Str)) = true := by decide +kernel
theorem we_least_number : (("least" : Str) == ("number" : Str)) = false := by decide +kernel
theorem we_least_far : (("least" : Str) == ("far" : Str)) = false := by decide +kernel
theorem we_least_power : (("least" : Str) == ("power" : Str)) = false := by decide +kernel
theorem we_least_root : (("least" : Str) == ("root" : Str)) = false := by decide +kernel
theorem we_least_times : (("least" : Str) == ("times" : Str)) = false := by decide +kernel
theorem we_least_over : (("least" : Str) == ("over" : Str)) = false := by decide +kernel
theorem we_most_number : (("most" : Str) == ("number" : Str)) = false := by decide +kernel
theorem we_most_far : (("most" : Str) == ("far" : Str)) = false := by decide +kernel
theorem we_most_power : (("most" : Str) == ("power" : Str)) = false := by decide +kernel
theorem we_most_root : (("most" : Str) == ("root" : Str)) = false := by decide +kernel
theorem we_most_times : (("most" : Str) == ("times" : Str)) = false := by decide +kernel
theorem we_most_over : (("most" : Str) == ("over" : Str)) = false := by decide +kernel
theorem we_far_number : (("far" : Str) == ("number" : Str)) = false := by decide +kernel
theorem we_far_far : (("far" : Str) == ("far" : Str)) = true := by decide +kernel
theorem we_far_power : (("far" : Str) == ("power" : Str)) = false := by decide +kernel
theorem we_far_root : (("far" : Str) == ("root" : Str)) = false := by decide +kernel
theorem we_far_times : (("far" : Str) == ("times" : Str)) = false := by decide +kernel
theorem we_far_over : (("far" : Str) == ("over" : Str)) = false := by decide +kernel
theorem we_power_number : (("power" : Str) == ("number" : Str)) = false := by decide +kernel
theorem we_power_far : (("power" : Str) == ("far" : Str)) = false := by decide +kernel
theorem we_power_power : (("power" : Str) == ("power" : Str)) = true := by decide +kernel
theorem we_power_root : (("power" : Str) == ("root" : Str)) = false := by decide +kernel
theorem we_power_times : (("power" : Str) == ("times" : Str)) = false := by decide +kernel
theorem we_power_over : (("power" : Str) == ("over" : Str)) = false := by decide +kernel
theorem we_root_number : (("root" : Str) == ("number" : Str)) = false := by decide +kernel
theorem we_root_far : (("root" : Str) == ("far" : Str)) = false := by decide +kernel
theorem we_root_power : (("root" : Str) == ("power" : Str)) = false := by decide +kernel
theorem we_root_root : (("root" : Str) == ("root" : Str)) = true := by decide +kernel
theorem we_root_times : (("root" : Str) == ("times" : Str)) = false := by decide +kernel
theorem we_root_over : (("root" : Str) == ("over" : Str)) = false := by decide +kernel
theorem we_number_number : (("number" : Str) == ("number" : Str)) = true := by decide +kernel
theorem we_number_far : (("number" : Str) == ("far" : Str)) = false := by decide +kernel
theorem we_number_power : (("number" : Str) == ("power" : Str)) = false := by decide +kernel
theorem we_number_root : (("number" : Str) == ("root" : Str)) = false := by decide +kernel
theorem we_number_times : (("number" : Str) == ("times" : Str)) = false := by decide +kernel
theorem we_number_over : (("number" : Str) == ("over" : Str)) = false := by decide +kernel
theorem wf_plus : inOf (.str ("plus" : Str)) [D.str ("name" : Str), .str ("value" : Str), .str ("turned" : Str), .str ("area" : Str), .str ("endless" : Str)] = false := by decide +kernel
theorem wf_less : inOf (.str ("less" : Str)) [D.str ("name" : Str), .str ("value" : Str), .str ("turned" : Str), .str ("area" : Str), .str ("endless" : Str)] = false := by decide +kernel
theorem wf_times : inOf (.str ("times" : Str)) [D.str ("name" : Str), .str ("value" : Str), .str ("turned" : Str), .str ("area" : Str), .str ("endless" : Str)] = false := by decide +kernel
theorem wf_over : inOf (.str ("over" : Str)) [D.str ("name" : Str), .str ("value" : Str), .str ("turned" : Str), .str ("area" : Str), .str ("endless" : Str)] = false := by decide +kernel
theorem wf_least : inOf (.str ("least" : Str)) [D.str ("name" : Str), .str ("value" : Str), .str ("turned" : Str), .str ("area" : Str), .str ("endless" : Str)] = false := by decide +kernel
theorem wf_most : inOf (.str ("most" : Str)) [D.str ("name" : Str), .str ("value" : Str), .str ("turned" : Str), .str ("area" : Str), .str ("endless" : Str)] = false := by decide +kernel
theorem wf_far : inOf (.str ("far" : Str)) [D.str ("name" : Str), .str ("value" : Str), .str ("turned" : Str), .str ("area" : Str), .str ("endless" : Str)] = false := by decide +kernel
theorem wf_power : inOf (.str ("power" : Str)) [D.str ("name" : Str), .str ("value" : Str), .str ("turned" : Str), .str ("area" : Str), .str ("endless" : Str)] = false := by decide +kernel
theorem wf_root : inOf (.str ("root" : Str)) [D.str ("name" : Str), .str ("value" : Str), .str ("turned" : Str), .str ("area" : Str), .str ("endless" : Str)] = false := by decide +kernel
theorem wf_number : inOf (.str ("number" : Str)) [D.str ("name" : Str), .str ("value" : Str), .str ("turned" : Str), .str ("area" : Str), .str ("endless" : Str)] = false := by decide +kernel
theorem wf_name : inOf (.str ("name" : Str)) [D.str ("name" : Str), .str ("value" : Str), .str ("turned" : Str), .str ("area" : Str), .str ("endless" : Str)] = true := by decide +kernel
theorem wf_value : inOf (.str ("value" : Str)) [D.str ("name" : Str), .str ("value" : Str), .str ("turned" : Str), .str ("area" : Str), .str ("endless" : Str)] = true := by decide +kernel
theorem wf_turned : inOf (.str ("turned" : Str)) [D.str ("name" : Str), .str ("value" : Str), .str ("turned" : Str), .str ("area" : Str), .str ("endless" : Str)] = true := by decide +kernel
theorem wf_area : inOf (.str ("area" : Str)) [D.str ("name" : Str), .str ("value" : Str), .str ("turned" : Str), .str ("area" : Str), .str ("endless" : Str)] = true := by decide +kernel
theorem wf_endless : inOf (.str ("endless" : Str)) [D.str ("name" : Str), .str ("value" : Str), .str ("turned" : Str), .str ("area" : Str), .str ("endless" : Str)] = true := by decide +kernel
theorem wl_plus : inOf (.str ("plus" : Str)) [D.str ("least" : Str), .str ("most" : Str)] = false := by decide +kernel
theorem wl_less : inOf (.str ("less" : Str)) [D.str ("least" : Str), .str ("most" : Str)] = false := by decide +kernel
theorem wl_times : inOf (.str ("times" : Str)) [D.str ("least" : Str), .str ("most" : Str)] = false := by decide +kernel
theorem wl_over : inOf (.str ("over" : Str)) [D.str ("least" : Str), .str ("most" : Str)] = false := by decide +kernel
theorem wl_least : inOf (.str ("least" : Str)) [D.str ("least" : Str), .str ("most" : Str)] = true := by decide +kernel
theorem wl_most : inOf (.str ("most" : Str)) [D.str ("least" : Str), .str ("most" : Str)] = true := by decide +kernel
theorem ow_eqW {Q : D → Prop} (a b : Str) : OW (P.sem KL .eq [.str a, .str b]) Q = (((D.str a).okEq = true ∧ (D.str b).okEq = true) ∧ Q (.bl (a == b))) := ow_eq _ _
theorem wflA : flatAll [D.str ("name" : Str), .str ("value" : Str), .str ("turned" : Str), .str ("area" : Str), .str ("endless" : Str)] = true := rfl
theorem wflB : flatAll [D.str ("least" : Str), .str ("most" : Str)] = true := rfl
theorem wfls (s : Str) : (D.str s).flat = true := rfl
section
variable {w n : Nat} {g : G} (hw : wB ≤ w)
include hw
theorem S_bits (m : Nat) (h1 : 1 ≤ m) (h2 : m < 2 ^ 12) : run KL tb w (n + 1) 1 [.int m] g = .ok (.int (bitsN m : Nat), g) := by
  have hb := bitsN_le h1 (Nat.le_of_lt h2)
  have hww : bitsN m < w := Nat.lt_of_lt_of_le (wB_lt (b := ((bitsN m : Nat) : Int)) (Sm.mono (n := 5) (by decide) (by unfold Sm; omega))) hw
  rw [← W_eq, U_bits]
  simp only [t1, ↓Ep0, ↓Ep1, ↓Ep2, ↓Ep3, ↓Ep4, ↓Ep5, ↓Ep6, ↓Ep7, ↓Ep8, Eq0, Eq1, Eq2, fnW, parW, strW, ↓ws_ite, ↓ws_own_comp, ↓ws_own_lst, ↓ws_own_addL, ↓ws_own_toLst, intW, ↓ws_app, valW, ite_self, lstW, ownW, List.contains_cons, List.contains_nil, Nat.reduceBEq, Bool.true_or, Bool.or_true, Bool.false_or, if_true, if_false, Bool.false_eq_true, ↓seen, List.getElem?_cons_succ, List.getElem?_cons_zero, Int.reduceToNat, Int.reducePow, List.cons_append, List.nil_append, D.imm, List.set_cons_zero, List.set_cons_succ, unpW, setSl, and_true, true_and, Classical.not_not, Int.reduceEq, false_implies, not_false_eq_true, not_true_eq_false, imp_false, forall_const, true_implies]
  refine whl_W (I := fun r ρ g' => ∃ k : Nat, ρ = [.val (.int m), .val (.int k)] ∧ g = g' ∧ k + r = bitsN m) ?_ w (bitsN m) _ _ hww ⟨0, rfl, rfl, by omega⟩
  rintro r ρ g' ⟨k, rfl, rfl, hk⟩
  have ok1 : shlOk 1 (k : Int) = true := shlOk_of (Sm.of (n := 1) (by decide)) (by omega)
  have hlt := bitsN_lt (n := m) (k := k) h1
  have tn : ((k : Nat) : Int).toNat = k := by omega
  have pw : (1 : Int) * 2 ^ k = ((2 ^ k : Nat) : Int) := by rw [Int.one_mul, Int.natCast_pow]; rfl
  simp only [↓Ep0, ↓Ep1, ↓Ep2, ↓Ep3, ↓Ep4, ↓Ep5, ↓Ep6, ↓Ep7, ↓Ep8, Eq0, Eq1, Eq2, fnW, parW, strW, ↓ws_ite, ↓ws_own_comp, ↓ws_own_lst, ↓ws_own_addL, ↓ws_own_toLst, intW, ↓ws_app, valW, ite_self, lstW, ownW, List.contains_cons, List.contains_nil, Nat.reduceBEq, Bool.true_or, Bool.or_true, Bool.false_or, if_true, if_false, Bool.false_eq_true, ↓seen, List.getElem?_cons_succ, List.getElem?_cons_zero, Int.reduceToNat, Int.reducePow, List.cons_append, List.nil_append, D.imm, List.set_cons_zero, List.set_cons_succ, unpW, setSl, and_true, true_and, Classical.not_not, Int.reduceEq, false_implies, not_false_eq_true, not_true_eq_false, imp_false, forall_const, true_implies, ok1, tn, pw]
  refine ⟨fun h => ?_, fun h => ?_⟩
  · have := hlt.2 (by omega)
    exact ⟨r - 1, by omega, k + 1, rfl, by omega⟩
  · have : ¬ k < bitsN m := fun z => h (by have := hlt.1 z; omega)
    have e : k = bitsN m := by omega
    rw [e]
theorem S_lbits (m : Nat) (h1 : 1 ≤ m) (h2 : m < 2 ^ 12) : run KL tb w (n + 1) 12 [.int m] g = .ok (.int (bitsN m : Nat), g) := by
  have hb := bitsN_le h1 (Nat.le_of_lt h2)
  have hww : bitsN m < w := Nat.lt_of_lt_of_le (wB_lt (b := ((bitsN m : Nat) : Int)) (Sm.mono (n := 5) (by decide) (by unfold Sm; omega))) hw
  rw [← W_eq, U_law_bits]
  simp only [t12, ↓Ep0, ↓Ep1, ↓Ep2, ↓Ep3, ↓Ep4, ↓Ep5, ↓Ep6, ↓Ep7, ↓Ep8, Eq0, Eq1, Eq2, fnW, parW, strW, ↓ws_ite, ↓ws_own_comp, ↓ws_own_lst, ↓ws_own_addL, ↓ws_own_toLst, intW, ↓ws_app, valW, ite_self, lstW, ownW, List.contains_cons, List.contains_nil, Nat.reduceBEq, Bool.true_or, Bool.or_true, Bool.false_or, if_true, if_false, Bool.false_eq_true, ↓seen, List.getElem?_cons_succ, List.getElem?_cons_zero, Int.reduceToNat, Int.reducePow, List.cons_append, List.nil_append, D.imm, List.set_cons_zero, List.set_cons_succ, unpW, setSl, and_true, true_and, Classical.not_not, Int.reduceEq, false_implies, not_false_eq_true, not_true_eq_false, imp_false, forall_const, true_implies]
  refine whl_W (I := fun r ρ g' => ∃ k : Nat, ρ = [.val (.int m), .val (.int k)] ∧ g = g' ∧ k + r = bitsN m) ?_ w (bitsN m) _ _ hww ⟨0, rfl, rfl, by omega⟩
  rintro r ρ g' ⟨k, rfl, rfl, hk⟩
  have ok1 : shlOk 1 (k : Int) = true := shlOk_of (Sm.of (n := 1) (by decide)) (by omega)
  have hlt := bitsN_lt (n := m) (k := k) h1
  have tn : ((k : Nat) : Int).toNat = k := by omega
  have pw : (1 : Int) * 2 ^ k = ((2 ^ k : Nat) : Int) := by rw [Int.one_mul, Int.natCast_pow]; rfl
  simp only [↓Ep0, ↓Ep1, ↓Ep2, ↓Ep3, ↓Ep4, ↓Ep5, ↓Ep6, ↓Ep7, ↓Ep8, Eq0, Eq1, Eq2, fnW, parW, strW, ↓ws_ite, ↓ws_own_comp, ↓ws_own_lst, ↓ws_own_addL, ↓ws_own_toLst, intW, ↓ws_app, valW, ite_self, lstW, ownW, List.contains_cons, List.contains_nil, Nat.reduceBEq, Bool.true_or, Bool.or_true, Bool.false_or, if_true, if_false, Bool.false_eq_true, ↓seen, List.getElem?_cons_succ, List.getElem?_cons_zero, Int.reduceToNat, Int.reducePow, List.cons_append, List.nil_append, D.imm, List.set_cons_zero, List.set_cons_succ, unpW, setSl, and_true, true_and, Classical.not_not, Int.reduceEq, false_implies, not_false_eq_true, not_true_eq_false, imp_false, forall_const, true_implies, ok1, tn, pw]
  refine ⟨fun h => ?_, fun h => ?_⟩
  · have := hlt.2 (by omega)
    exact ⟨r - 1, by omega, k + 1, rfl, by omega⟩
  · have : ¬ k < bitsN m := fun z => h (by have := hlt.1 z; omega)
    have e : k = bitsN m := by omega
    rw [e]
omit hw in
theorem S_bits_of_two (wd : Wd) {x y : BV} (kx : BOk 8 x) (ky : BOk 8 y) : run KL tb w (n + 1) 2 [.str wd.s, bD x, bD y] g = .ok (bD (twoB wd x y), g) := by
  obtain ⟨a, b, c⟩ := x
  obtain ⟨d, e, f⟩ := y
  have mm : mulOk c f = true := mulOk_of kx.b20.2.2 ky.b20.2.2 (by decide)
  rw [← W_eq, U_bits_of_two]
  cases wd
  all_goals
    simp only [t2, ↓Ep0, ↓Ep1, ↓Ep2, ↓Ep3, ↓Ep4, ↓Ep5, ↓Ep6, ↓Ep7, ↓Ep8, Eq0, Eq1, Eq2, fnW, parW, strW, ↓ws_ite, ↓ws_own_comp, ↓ws_own_lst, ↓ws_own_addL, ↓ws_own_toLst, intW, ↓ws_app, valW, ite_self, lstW, ownW, List.contains_cons, List.contains_nil, Nat.reduceBEq, Bool.true_or, Bool.or_true, Bool.false_or, if_true, if_false, Bool.false_eq_true, ↓seen, List.getElem?_cons_succ, List.getElem?_cons_zero, Int.reduceToNat, Int.reducePow, List.cons_append, List.nil_append, D.imm, List.set_cons_zero, List.set_cons_succ, unpW, setSl, and_true, true_and, Classical.not_not, Int.reduceEq, false_implies, not_false_eq_true, not_true_eq_false, imp_false, forall_const, true_implies, Wd.s, bD, twoB, ow_eqW, wK_plus, wK_less, wK_times, wK_over, wK_least, wK_most, we_plus_times, we_plus_over, we_less_times, we_less_over, we_times_times, we_times_over, we_over_times, we_over_over, we_least_times, we_least_over, we_most_times, we_most_over, wl_plus, wl_less, wl_times, wl_over, wl_least, wl_most, ow_inT, wflB, wfls, and_self, ow_tup, List.length_cons, List.length_nil, Nat.reduceAdd, PySem.sizeLine, Nat.reducePow, Nat.reduceLeDiff, true_and, mm]
    try exact mulOk_r (by decide)
omit hw in
theorem S_bits_of_root (k : Nat) (k2 : 2 ≤ k) (k4 : k ≤ 4) {x : BV} (kx : BOk 8 x) : run KL tb w (n + 1) 3 [.int k, bD x] g = .ok (bD (rootB k x), g) := by
  obtain ⟨a, b, c⟩ := x
  obtain ⟨⟨a0, a1⟩, ⟨b0, b1⟩, c1⟩ := kx.b20
  dsimp only at a0 a1 b0 b1 c1
  have m1 : mulOk ((k : Int) - 1) b = true := mulOk_l (by omega)
  have m2 : mulOk ((k : Int) - 1) a = true := mulOk_l (by omega)
  have m3 : mulOk c (k : Int) = true := mulOk_r (by omega)
  have dv : ∀ z : Int, divOk z (k : Int) = true := fun z => divOk_of (n := 4) (by unfold Sm; omega) (by omega)
  rw [← W_eq, U_bits_of_root]
  unfold rootB
  simp only [t3, ↓Ep0, ↓Ep1, ↓Ep2, ↓Ep3, ↓Ep4, ↓Ep5, ↓Ep6, ↓Ep7, ↓Ep8, Eq0, Eq1, Eq2, fnW, parW, strW, ↓ws_ite, ↓ws_own_comp, ↓ws_own_lst, ↓ws_own_addL, ↓ws_own_toLst, intW, ↓ws_app, valW, ite_self, lstW, ownW, List.contains_cons, List.contains_nil, Nat.reduceBEq, Bool.true_or, Bool.or_true, Bool.false_or, if_true, if_false, Bool.false_eq_true, ↓seen, List.getElem?_cons_succ, List.getElem?_cons_zero, Int.reduceToNat, Int.reducePow, List.cons_append, List.nil_append, D.imm, List.set_cons_zero, List.set_cons_succ, unpW, setSl, and_true, true_and, Classical.not_not, Int.reduceEq, false_implies, not_false_eq_true, not_true_eq_false, imp_false, forall_const, true_implies, bD, ow_tup, List.length_cons, List.length_nil, Nat.reduceAdd, PySem.sizeLine, Nat.reducePow, Nat.reduceLeDiff, true_and, m1, m2, m3, dv]
  refine ⟨fun h => ?_, fun h => ?_⟩
  · rw [if_pos h]
  · rw [if_neg h]
end

end Z.Law

set_option Elab.async false
set_option linter.all false
set_option maxRecDepth 100000
set_option maxHeartbeats 4000000
namespace Z.Law
open PySem
theorem fm_plus : List.lookup ("plus" : Str) ([("plus", (.str "tt")), ("less", (.str "tt")), ("times", (.str "tt")), ("over", (.str "tt")), ("least", (.str "tt")), ("most", (.str "tt")), ("far", (.str "t")), ("power", (.str "tn")), ("root", (.str "nt")), ("value", (.str "ft")), ("turned", (.str "ft")), ("area", (.str "ftt")), ("endless", (.str "rrt"))] : List (Str × D)) = some (.str "tt") := rfl
theorem fm_less : List.lookup ("less" : Str) ([("plus", (.str "tt")), ("less", (.str "tt")), ("times", (.str "tt")), ("over", (.str "tt")), ("least", (.str "tt")), ("most", (.str "tt")), ("far", (.str "t")), ("power", (.str "tn")), ("root", (.str "nt")), ("value", (.str "ft")), ("turned", (.str "ft")), ("area", (.str "ftt")), ("endless", (.str "rrt"))] : List (Str × D)) = some (.str "tt") := rfl
theorem fm_times : List.lookup ("times" : Str) ([("plus", (.str "tt")), ("less", (.str "tt")), ("times", (.str "tt")), ("over", (.str "tt")), ("least", (.str "tt")), ("most", (.str "tt")), ("far", (.str "t")), ("power", (.str "tn")), ("root", (.str "nt")), ("value", (.str "ft")), ("turned", (.str "ft")), ("area", (.str "ftt")), ("endless", (.str "rrt"))] : List (Str × D)) = some (.str "tt") := rfl
theorem fm_over : List.lookup ("over" : Str) ([("plus", (.str "tt")), ("less", (.str "tt")), ("times", (.str "tt")), ("over", (.str "tt")), ("least", (.str "tt")), ("most", (.str "tt")), ("far", (.str "t")), ("power", (.str "tn")), ("root", (.str "nt")), ("value", (.str "ft")), ("turned", (.str "ft")), ("area", (.str "ftt")), ("endless", (.str "rrt"))] : List (Str × D)) = some (.str "tt") := rfl
theorem fm_least : List.lookup ("least" : Str) ([("plus", (.str "tt")), ("less", (.str "tt")), ("times", (.str "tt")), ("over", (.str "tt")), ("least", (.str "tt")), ("most", (.str "tt")), ("far", (.str "t")), ("power", (.str "tn")), ("root", (.str "nt")), ("value", (.str "ft")), ("turned", (.str "ft")), ("area", (.str "ftt")), ("endless", (.str "rrt"))] : List (Str × D)) = some (.str "tt") := rfl
theorem fm_most : List.lookup ("most" : Str) ([("plus", (.str "tt")), ("less", (.str "tt")), ("times", (.str "tt")), ("over", (.str "tt")), ("least", (.str "tt")), ("most", (.str "tt")), ("far", (.str "t")), ("power", (.str "tn")), ("root", (.str "nt")), ("value", (.str "ft")), ("turned", (.str "ft")), ("area", (.str "ftt")), ("endless", (.str "rrt"))] : List (Str × D)) = some (.str "tt") := rfl
theorem fm_far : List.lookup ("far" : Str) ([("plus", (.str "tt")), ("less", (.str "tt")), ("times", (.str "tt")), ("over", (.str "tt")), ("least", (.str "tt")), ("most", (.str "tt")), ("far", (.str "t")), ("power", (.str "tn")), ("root", (.str "nt")), ("value", (.str "ft")), ("turned", (.str "ft")), ("area", (.str "ftt")), ("endless", (.str "rrt"))] : List (Str × D)) = some (.str "t") := rfl
theorem fm_power : List.lookup ("power" : Str) ([("plus", (.str "tt")), ("less", (.str "tt")), ("times", (.str "tt")), ("over", (.str "tt")), ("least", (.str "tt")), ("most", (.str "tt")), ("far", (.str "t")), ("power", (.str "tn")), ("root", (.str "nt")), ("value", (.str "ft")), ("turned", (.str "ft")), ("area", (.str "ftt")), ("endless", (.str "rrt"))] : List (Str × D)) = some (.str "tn") := rfl
theorem fm_root : List.lookup ("root" : Str) ([("plus", (.str "tt")), ("less", (.str "tt")), ("times", (.str "tt")), ("over", (.str "tt")), ("least", (.str "tt")), ("most", (.str "tt")), ("far", (.str "t")), ("power", (.str "tn")), ("root", (.str "nt")), ("value", (.str "ft")), ("turned", (.str "ft")), ("area", (.str "ftt")), ("endless", (.str "rrt"))] : List (Str × D)) = some (.str "nt") := rfl
/-! k61: what is told of a term -/
def kids : Tm → List D
  | .num _ => []
  | .fur _ _ => []
  | .two _ a b => [tmD a, tmD b]
  | .far a => [tmD a]
  | .pow a _ => [tmD a]
  | .root _ a => [tmD a]
theorem iSeq (l : List D) : Ik.items .seq [.lst l] = some l := rfl
theorem nOk : D.non.okEq = true := rfl
theorem cu3 (x y z : D) : cutD [x, y, z] (some 1) none = [y, z] := rfl
theorem cu2 (x y : D) : cutD [x, y] (some 1) none = [y] := rfl
theorem zi_tt (x y : D) : Ik.items .zip [.str "tt", .tup [x, y]] = some [.tup [.str "t", x], .tup [.str "t", y]] := rfl
theorem zi_t (x : D) : Ik.items .zip [.str "t", .tup [x]] = some [.tup [.str "t", x]] := rfl
theorem zi_tn (x y : D) : Ik.items .zip [.str "tn", .tup [x, y]] = some [.tup [.str "t", x], .tup [.str "n", y]] := rfl
theorem zi_nt (x y : D) : Ik.items .zip [.str "nt", .tup [x, y]] = some [.tup [.str "n", x], .tup [.str "t", y]] := rfl
theorem wK_t : (D.str ("t" : Str)).okEq = true := by decide +kernel
theorem wK_n : (D.str ("n" : Str)).okEq = true := by decide +kernel
theorem we_t_t : (("t" : Str) == ("t" : Str)) = true := by decide +kernel
theorem we_n_t : (("n" : Str) == ("t" : Str)) = false := by decide +kernel
theorem bO_plain (x : Option BV) : (bO x).plain = true ∧ (bO x).dp ≤ 1 := by
  cases x with
  | none => exact ⟨rfl, Nat.zero_le _⟩
  | some x => exact ⟨rfl, Nat.le_refl _⟩
theorem bOn : bO none = .non := rfl
theorem bOs (x : BV) : bO (some x) = bD x := rfl
theorem okL1 (x : Option BV) : (D.lst [bO x]).okEq = true := by cases x <;> rfl
theorem okL2 (x y : Option BV) : (D.lst [bO x, bO y]).okEq = true := by cases x <;> cases y <;> rfl
theorem inN1 (x : BV) : inOf .non [bD x] = false := rfl
theorem inN2 (x y : BV) : inOf .non [bD x, bD y] = false := rfl
section
variable {w n : Nat} {g : G} (hw : wB ≤ w)
include hw
omit hw in
theorem S_parts_of (t : Tm) (h : (∃ wd a b, t = .two wd a b) ∨ (∃ a, t = .far a) ∨ (∃ a k, t = .pow a k) ∨ ∃ k a, t = .root k a) : run KL tb w (n + 1) 0 [tmD t] g = .ok (.lst (kids t), g) := by
  rw [← W_eq, U_parts_of]
  rcases h with ⟨wd, a, b, rfl⟩ | ⟨a, rfl⟩ | ⟨a, k, rfl⟩ | ⟨k, a, rfl⟩
  · cases wd
    all_goals
      simp only [t0, ↓Ep0, ↓Ep1, ↓Ep2, ↓Ep3, ↓Ep4, ↓Ep5, ↓Ep6, ↓Ep7, ↓Ep8, Eq0, Eq1, Eq2, fnW, parW, strW, ↓ws_ite, ↓ws_own_comp, ↓ws_own_lst, ↓ws_own_addL, ↓ws_own_toLst, intW, ↓ws_app, valW, ite_self, lstW, ownW, List.contains_cons, List.contains_nil, Nat.reduceBEq, Bool.true_or, Bool.or_true, Bool.false_or, if_true, if_false, Bool.false_eq_true, ↓seen, List.getElem?_cons_succ, List.getElem?_cons_zero, Int.reduceToNat, Int.reducePow, List.cons_append, List.nil_append, D.imm, List.set_cons_zero, List.set_cons_succ, unpW, setSl, and_true, true_and, Classical.not_not, Int.reduceEq, false_implies, not_false_eq_true, not_true_eq_false, imp_false, forall_const, true_implies, tmD, Wd.s, kids, fm_plus, fm_less, fm_times, fm_over, fm_least, fm_most, fm_far, fm_power, fm_root, cu2, cu3, Option.isSome_some, bne_self_eq_false, ↓we_comp, zi_tt, zi_t, zi_tn, zi_nt, ↓turns_cons, ↓turns_nil, ↓we_turn, Tg.bind, Tg.slots, wipeSl, addO, ow_eqW, wK_t, wK_n, we_t_t, we_n_t, and_self, List.length_cons, List.length_nil, Nat.reduceAdd, PySem.sizeLine, Nat.reducePow, Nat.reduceLeDiff, true_and]

  · simp only [t0, ↓Ep0, ↓Ep1, ↓Ep2, ↓Ep3, ↓Ep4, ↓Ep5, ↓Ep6, ↓Ep7, ↓Ep8, Eq0, Eq1, Eq2, fnW, parW, strW, ↓ws_ite, ↓ws_own_comp, ↓ws_own_lst, ↓ws_own_addL, ↓ws_own_toLst, intW, ↓ws_app, valW, ite_self, lstW, ownW, List.contains_cons, List.contains_nil, Nat.reduceBEq, Bool.true_or, Bool.or_true, Bool.false_or, if_true, if_false, Bool.false_eq_true, ↓seen, List.getElem?_cons_succ, List.getElem?_cons_zero, Int.reduceToNat, Int.reducePow, List.cons_append, List.nil_append, D.imm, List.set_cons_zero, List.set_cons_succ, unpW, setSl, and_true, true_and, Classical.not_not, Int.reduceEq, false_implies, not_false_eq_true, not_true_eq_false, imp_false, forall_const, true_implies, tmD, kids, fm_plus, fm_less, fm_times, fm_over, fm_least, fm_most, fm_far, fm_power, fm_root, cu2, cu3, Option.isSome_some, bne_self_eq_false, ↓we_comp, zi_tt, zi_t, zi_tn, zi_nt, ↓turns_cons, ↓turns_nil, ↓we_turn, Tg.bind, Tg.slots, wipeSl, addO, ow_eqW, wK_t, wK_n, we_t_t, we_n_t, and_self, List.length_cons, List.length_nil, Nat.reduceAdd, PySem.sizeLine, Nat.reducePow, Nat.reduceLeDiff, true_and]
  · simp only [t0, ↓Ep0, ↓Ep1, ↓Ep2, ↓Ep3, ↓Ep4, ↓Ep5, ↓Ep6, ↓Ep7, ↓Ep8, Eq0, Eq1, Eq2, fnW, parW, strW, ↓ws_ite, ↓ws_own_comp, ↓ws_own_lst, ↓ws_own_addL, ↓ws_own_toLst, intW, ↓ws_app, valW, ite_self, lstW, ownW, List.contains_cons, List.contains_nil, Nat.reduceBEq, Bool.true_or, Bool.or_true, Bool.false_or, if_true, if_false, Bool.false_eq_true, ↓seen, List.getElem?_cons_succ, List.getElem?_cons_zero, Int.reduceToNat, Int.reducePow, List.cons_append, List.nil_append, D.imm, List.set_cons_zero, List.set_cons_succ, unpW, setSl, and_true, true_and, Classical.not_not, Int.reduceEq, false_implies, not_false_eq_true, not_true_eq_false, imp_false, forall_const, true_implies, tmD, kids, fm_plus, fm_less, fm_times, fm_over, fm_least, fm_most, fm_far, fm_power, fm_root, cu2, cu3, Option.isSome_some, bne_self_eq_false, ↓we_comp, zi_tt, zi_t, zi_tn, zi_nt, ↓turns_cons, ↓turns_nil, ↓we_turn, Tg.bind, Tg.slots, wipeSl, addO, ow_eqW, wK_t, wK_n, we_t_t, we_n_t, and_self, List.length_cons, List.length_nil, Nat.reduceAdd, PySem.sizeLine, Nat.reducePow, Nat.reduceLeDiff, true_and]
  · simp only [t0, ↓Ep0, ↓Ep1, ↓Ep2, ↓Ep3, ↓Ep4, ↓Ep5, ↓Ep6, ↓Ep7, ↓Ep8, Eq0, Eq1, Eq2, fnW, parW, strW, ↓ws_ite, ↓ws_own_comp, ↓ws_own_lst, ↓ws_own_addL, ↓ws_own_toLst, intW, ↓ws_app, valW, ite_self, lstW, ownW, List.contains_cons, List.contains_nil, Nat.reduceBEq, Bool.true_or, Bool.or_true, Bool.false_or, if_true, if_false, Bool.false_eq_true, ↓seen, List.getElem?_cons_succ, List.getElem?_cons_zero, Int.reduceToNat, Int.reducePow, List.cons_append, List.nil_append, D.imm, List.set_cons_zero, List.set_cons_succ, unpW, setSl, and_true, true_and, Classical.not_not, Int.reduceEq, false_implies, not_false_eq_true, not_true_eq_false, imp_false, forall_const, true_implies, tmD, kids, fm_plus, fm_less, fm_times, fm_over, fm_least, fm_most, fm_far, fm_power, fm_root, cu2, cu3, Option.isSome_some, bne_self_eq_false, ↓we_comp, zi_tt, zi_t, zi_tn, zi_nt, ↓turns_cons, ↓turns_nil, ↓we_turn, Tg.bind, Tg.slots, wipeSl, addO, ow_eqW, wK_t, wK_n, we_t_t, we_n_t, and_self, List.length_cons, List.length_nil, Nat.reduceAdd, PySem.sizeLine, Nat.reducePow, Nat.reduceLeDiff, true_and]
theorem bi_num (q : Rat) (L : Nat) (h : TmOk (.num q)) (h8 : hgt (.num q) ≤ 8) (hL : hgt (.num q) + 3 ≤ L) : run KL tb w L 4 [tmD (.num q)] g = .ok (bO (bitV (.num q)), g) := by
  obtain ⟨l, rfl⟩ : ∃ l, L = l + 2 := ⟨L - 2, by have : hgt (.num q) = 1 := rfl; omega⟩
  have hq : q.num.natAbs < 2 ^ 12 := h.1
  have hd : (q.den : Int).natAbs < 2 ^ 12 := h.2
  have dp := q.den_pos
  have e1 := S_bits (n := l) (g := g) hw (max 1 q.num.natAbs) (by omega) (by omega)
  have e2 := S_bits (n := l) (g := g) hw q.den (by omega) (by omega)
  have mx : max 1 (q.num.natAbs : Int) = ((max 1 q.num.natAbs : Nat) : Int) := by omega
  have x0 : ∀ (q : Rat) Q, OW (P.sem KL .ix [frD q, .int 0]) Q = Q (.int q.num) := fun q Q => ow_ix0 _ _
  have x1 : ∀ (q : Rat) Q, OW (P.sem KL .ix [frD q, .int 1]) Q = Q (.int q.den) := fun q Q => ow_ix1 _ _ _
  have i1 : ∀ (x y : D) (Q : D → Prop), OW (P.sem KL .ix [.tup [x, y], .int 1]) Q = Q y := fun x y Q => by
    have e : P.sem KL .ix [.tup [x, y], .int 1] = some y := rfl
    rw [e, OW_some]
  rw [← W_eq, U_bits_in]
  simp only [t4, ↓Ep0, ↓Ep1, ↓Ep2, ↓Ep3, ↓Ep4, ↓Ep5, ↓Ep6, ↓Ep7, ↓Ep8, Eq0, Eq1, Eq2, fnW, parW, strW, ↓ws_ite, ↓ws_own_comp, ↓ws_own_lst, ↓ws_own_addL, ↓ws_own_toLst, intW, ↓ws_app, valW, ite_self, lstW, ownW, List.contains_cons, List.contains_nil, Nat.reduceBEq, Bool.true_or, Bool.or_true, Bool.false_or, if_true, if_false, Bool.false_eq_true, ↓seen, List.getElem?_cons_succ, List.getElem?_cons_zero, Int.reduceToNat, Int.reducePow, List.cons_append, List.nil_append, D.imm, List.set_cons_zero, List.set_cons_succ, unpW, setSl, and_true, true_and, Classical.not_not, Int.reduceEq, false_implies, not_false_eq_true, not_true_eq_false, imp_false, forall_const, true_implies, tmD, bitV, bO, bD, numB, ow_inT, ow_eqW, wK_plus, wK_less, wK_times, wK_over, wK_least, wK_most, wK_far, wK_power, wK_root, wK_number, wK_name, wK_value, wK_turned, wK_area, wK_endless, we_plus_number, we_plus_far, we_plus_power, we_plus_root, we_plus_times, we_plus_over, we_less_number, we_less_far, we_less_power, we_less_root, we_less_times, we_less_over, we_times_number, we_times_far, we_times_power, we_times_root, we_times_times, we_times_over, we_over_number, we_over_far, we_over_power, we_over_root, we_over_times, we_over_over, we_least_number, we_least_far, we_least_power, we_least_root, we_least_times, we_least_over, we_most_number, we_most_far, we_most_power, we_most_root, we_most_times, we_most_over, we_far_number, we_far_far, we_far_power, we_far_root, we_far_times, we_far_over, we_power_number, we_power_far, we_power_power, we_power_root, we_power_times, we_power_over, we_root_number, we_root_far, we_root_power, we_root_root, we_root_times, we_root_over, we_number_number, we_number_far, we_number_power, we_number_root, we_number_times, we_number_over, wf_plus, wf_less, wf_times, wf_over, wf_least, wf_most, wf_far, wf_power, wf_root, wf_number, wf_name, wf_value, wf_turned, wf_area, wf_endless, iSeq, nOk, wflA, wfls, and_self, ow_tup, ↓we_comp, ↓turns_cons, ↓turns_nil, ↓we_turn, Tg.bind, Tg.slots, wipeSl, addO, List.length_cons, List.length_nil, Nat.reduceAdd, PySem.sizeLine, Nat.reducePow, Nat.reduceLeDiff, true_and, ↓i1, ↓x0, ↓x1, mx, e1, e2]
omit hw in
theorem bi_fur (wd : Str) (ds : List D) (L : Nat) (h : TmOk (.fur wd ds)) (h8 : hgt (.fur wd ds) ≤ 8) (hL : hgt (.fur wd ds) + 3 ≤ L) : run KL tb w L 4 [tmD (.fur wd ds)] g = .ok (bO (bitV (.fur wd ds)), g) := by
  obtain ⟨l, rfl⟩ : ∃ l, L = l + 1 := ⟨L - 1, by have : hgt (.fur wd ds) = 1 := rfl; omega⟩
  have i0 : ∀ (x : D) (xs : List D) (Q : D → Prop), OW (P.sem KL .ix [.tup (x :: xs), .int 0]) Q = Q x := fun x xs Q => by
    have e : P.sem KL .ix [.tup (x :: xs), .int 0] = some x := by
      have p : place (x :: xs).length 0 = some 0 := by
        unfold place
        rw [if_pos (Int.le_refl 0), if_pos (by simp only [List.length_cons]; omega)]; rfl
      show (match place (x :: xs).length 0 with | some k => (x :: xs)[k]? | none => none) = _
      rw [p]; rfl
    rw [e, OW_some]
  rw [← W_eq, U_bits_in]
  rcases h with rfl | rfl | rfl | rfl | rfl
  all_goals
    simp only [t4, ↓Ep0, ↓Ep1, ↓Ep2, ↓Ep3, ↓Ep4, ↓Ep5, ↓Ep6, ↓Ep7, ↓Ep8, Eq0, Eq1, Eq2, fnW, parW, strW, ↓ws_ite, ↓ws_own_comp, ↓ws_own_lst, ↓ws_own_addL, ↓ws_own_toLst, intW, ↓ws_app, valW, ite_self, lstW, ownW, List.contains_cons, List.contains_nil, Nat.reduceBEq, Bool.true_or, Bool.or_true, Bool.false_or, if_true, if_false, Bool.false_eq_true, ↓seen, List.getElem?_cons_succ, List.getElem?_cons_zero, Int.reduceToNat, Int.reducePow, List.cons_append, List.nil_append, D.imm, List.set_cons_zero, List.set_cons_succ, unpW, setSl, and_true, true_and, Classical.not_not, Int.reduceEq, false_implies, not_false_eq_true, not_true_eq_false, imp_false, forall_const, true_implies, tmD, bitV, bO, ↓i0, ow_inT, wK_plus, wK_less, wK_times, wK_over, wK_least, wK_most, wK_far, wK_power, wK_root, wK_number, wK_name, wK_value, wK_turned, wK_area, wK_endless, we_plus_number, we_plus_far, we_plus_power, we_plus_root, we_plus_times, we_plus_over, we_less_number, we_less_far, we_less_power, we_less_root, we_less_times, we_less_over, we_times_number, we_times_far, we_times_power, we_times_root, we_times_times, we_times_over, we_over_number, we_over_far, we_over_power, we_over_root, we_over_times, we_over_over, we_least_number, we_least_far, we_least_power, we_least_root, we_least_times, we_least_over, we_most_number, we_most_far, we_most_power, we_most_root, we_most_times, we_most_over, we_far_number, we_far_far, we_far_power, we_far_root, we_far_times, we_far_over, we_power_number, we_power_far, we_power_power, we_power_root, we_power_times, we_power_over, we_root_number, we_root_far, we_root_power, we_root_root, we_root_times, we_root_over, we_number_number, we_number_far, we_number_power, we_number_root, we_number_times, we_number_over, wf_plus, wf_less, wf_times, wf_over, wf_least, wf_most, wf_far, wf_power, wf_root, wf_number, wf_name, wf_value, wf_turned, wf_area, wf_endless, iSeq, nOk, wflA, wfls, and_self, ow_tup, ↓we_comp, ↓turns_cons, ↓turns_nil, ↓we_turn, Tg.bind, Tg.slots, wipeSl, addO, List.length_cons, List.length_nil, Nat.reduceAdd, PySem.sizeLine, Nat.reducePow, Nat.reduceLeDiff, true_and]
    done
omit hw in
theorem bi_two (wd : Wd) (a b : Tm) (L : Nat) (iha : ∀ L, TmOk a → hgt a ≤ 8 → hgt a + 3 ≤ L → run KL tb w L 4 [tmD a] g = .ok (bO (bitV a), g)) (ihb : ∀ L, TmOk b → hgt b ≤ 8 → hgt b + 3 ≤ L → run KL tb w L 4 [tmD b] g = .ok (bO (bitV b), g)) (h : TmOk (.two wd a b)) (h8 : hgt (.two wd a b) ≤ 8) (hL : hgt (.two wd a b) + 3 ≤ L) : run KL tb w L 4 [tmD (.two wd a b)] g = .ok (bO (bitV (.two wd a b)), g) := by
  have hh : hgt (.two wd a b) = max (hgt a) (hgt b) + 1 := rfl
  obtain ⟨l, rfl⟩ : ∃ l, L = l + 2 := ⟨L - 2, by omega⟩
  have ea := iha (l + 1) h.1 (by omega) (by omega)
  have eb := ihb (l + 1) h.2 (by omega) (by omega)
  have ep := S_parts_of (w := w) (n := l) (g := g) (.two wd a b) (.inl ⟨_, _, _, rfl⟩)
  have va := bit_ok a h.1
  have vb := bit_ok b h.2
  have e2 : ∀ x y, bitV a = some x → bitV b = some y → run KL tb w (l + 1) 2 [.str wd.s, bD x, bD y] g = .ok (bD (twoB wd x y), g) := fun x y hx hy =>
    S_bits_of_two (w := w) (n := l) (g := g) wd ((va x hx).mono (by omega)) ((vb y hy).mono (by omega))
  have hv : bitV (.two wd a b) = match bitV a, bitV b with
    | some x, some y => some (twoB wd x y)
    | _, _ => none := rfl
  rw [hv]
  rw [← W_eq, U_bits_in]
  generalize bitV a = u at *
  generalize bitV b = v at *
  have ep' : run KL tb w (l + 1) 0 [.tup [.str wd.s, tmD a, tmD b]] g = .ok (.lst [tmD a, tmD b], g) := ep
  have j0 : ∀ (x y : D) (Q : D → Prop), OW (P.sem KL .ix [.lst [x, y], .int 0]) Q = Q x := fun x y Q => by
    have e : P.sem KL .ix [.lst [x, y], .int 0] = some x := rfl
    rw [e, OW_some]
  have j1 : ∀ (x y : D) (Q : D → Prop), OW (P.sem KL .ix [.lst [x, y], .int 1]) Q = Q y := fun x y Q => by
    have e : P.sem KL .ix [.lst [x, y], .int 1] = some y := rfl
    rw [e, OW_some]
  have wo : (D.str wd.s).okEq = true := by cases wd <;> decide +kernel
  have w1 : (wd.s == ("number" : Str)) = false := by cases wd <;> decide +kernel
  have w2 : (wd.s == ("far" : Str)) = false := by cases wd <;> decide +kernel
  have w3 : (wd.s == ("power" : Str)) = false := by cases wd <;> decide +kernel
  have w4 : (wd.s == ("root" : Str)) = false := by cases wd <;> decide +kernel
  have w5 : inOf (.str wd.s) [D.str ("name" : Str), .str ("value" : Str), .str ("turned" : Str), .str ("area" : Str), .str ("endless" : Str)] = false := by cases wd <;> decide +kernel
  rcases u with _ | x
  · have k1 := okL2 none v
    have k2 : inOf .non [bO none, bO v] = true := rfl
    simp only [t4, ↓Ep0, ↓Ep1, ↓Ep2, ↓Ep3, ↓Ep4, ↓Ep5, ↓Ep6, ↓Ep7, ↓Ep8, Eq0, Eq1, Eq2, fnW, parW, strW, ↓ws_ite, ↓ws_own_comp, ↓ws_own_lst, ↓ws_own_addL, ↓ws_own_toLst, intW, ↓ws_app, valW, ite_self, lstW, ownW, List.contains_cons, List.contains_nil, Nat.reduceBEq, Bool.true_or, Bool.or_true, Bool.false_or, if_true, if_false, Bool.false_eq_true, ↓seen, List.getElem?_cons_succ, List.getElem?_cons_zero, Int.reduceToNat, Int.reducePow, List.cons_append, List.nil_append, D.imm, List.set_cons_zero, List.set_cons_succ, unpW, setSl, and_true, true_and, Classical.not_not, Int.reduceEq, false_implies, not_false_eq_true, not_true_eq_false, imp_false, forall_const, true_implies, tmD, ow_inT, ow_in, ow_eqW, wK_number, wK_far, wK_power, wK_root, iSeq, nOk, wflA, wfls, and_self, ow_tup, ↓we_comp, ↓turns_cons, ↓turns_nil, ↓we_turn, Tg.bind, Tg.slots, wipeSl, addO, List.length_cons, List.length_nil, Nat.reduceAdd, PySem.sizeLine, Nat.reducePow, Nat.reduceLeDiff, true_and, wo, w1, w2, w3, w4, w5, ep', ea, eb, k1, k2]
    simp only [bOn, bOs]
  · rcases v with _ | y
    · have k1 := okL2 (some x) none
      have k2 : inOf .non [bO (some x), bO none] = true := rfl
      simp only [t4, ↓Ep0, ↓Ep1, ↓Ep2, ↓Ep3, ↓Ep4, ↓Ep5, ↓Ep6, ↓Ep7, ↓Ep8, Eq0, Eq1, Eq2, fnW, parW, strW, ↓ws_ite, ↓ws_own_comp, ↓ws_own_lst, ↓ws_own_addL, ↓ws_own_toLst, intW, ↓ws_app, valW, ite_self, lstW, ownW, List.contains_cons, List.contains_nil, Nat.reduceBEq, Bool.true_or, Bool.or_true, Bool.false_or, if_true, if_false, Bool.false_eq_true, ↓seen, List.getElem?_cons_succ, List.getElem?_cons_zero, Int.reduceToNat, Int.reducePow, List.cons_append, List.nil_append, D.imm, List.set_cons_zero, List.set_cons_succ, unpW, setSl, and_true, true_and, Classical.not_not, Int.reduceEq, false_implies, not_false_eq_true, not_true_eq_false, imp_false, forall_const, true_implies, tmD, ow_inT, ow_in, ow_eqW, wK_number, wK_far, wK_power, wK_root, iSeq, nOk, wflA, wfls, and_self, ow_tup, ↓we_comp, ↓turns_cons, ↓turns_nil, ↓we_turn, Tg.bind, Tg.slots, wipeSl, addO, List.length_cons, List.length_nil, Nat.reduceAdd, PySem.sizeLine, Nat.reducePow, Nat.reduceLeDiff, true_and, wo, w1, w2, w3, w4, w5, ep', ea, eb, k1, k2]
      simp only [bOn, bOs]
    · have e3 := e2 x y rfl rfl
      have k1 := okL2 (some x) (some y)
      have k2 : inOf .non [bO (some x), bO (some y)] = false := rfl
      have e3' : run KL tb w (l + 1) 2 [.str wd.s, bO (some x), bO (some y)] g = .ok (bD (twoB wd x y), g) := e3
      simp only [t4, ↓Ep0, ↓Ep1, ↓Ep2, ↓Ep3, ↓Ep4, ↓Ep5, ↓Ep6, ↓Ep7, ↓Ep8, Eq0, Eq1, Eq2, fnW, parW, strW, ↓ws_ite, ↓ws_own_comp, ↓ws_own_lst, ↓ws_own_addL, ↓ws_own_toLst, intW, ↓ws_app, valW, ite_self, lstW, ownW, List.contains_cons, List.contains_nil, Nat.reduceBEq, Bool.true_or, Bool.or_true, Bool.false_or, if_true, if_false, Bool.false_eq_true, ↓seen, List.getElem?_cons_succ, List.getElem?_cons_zero, Int.reduceToNat, Int.reducePow, List.cons_append, List.nil_append, D.imm, List.set_cons_zero, List.set_cons_succ, unpW, setSl, and_true, true_and, Classical.not_not, Int.reduceEq, false_implies, not_false_eq_true, not_true_eq_false, imp_false, forall_const, true_implies, tmD, ow_inT, ow_in, ow_eqW, wK_number, wK_far, wK_power, wK_root, iSeq, nOk, wflA, wfls, and_self, ow_tup, ↓we_comp, ↓turns_cons, ↓turns_nil, ↓we_turn, Tg.bind, Tg.slots, wipeSl, addO, List.length_cons, List.length_nil, Nat.reduceAdd, PySem.sizeLine, Nat.reducePow, Nat.reduceLeDiff, true_and, wo, w1, w2, w3, w4, w5, ep', ea, eb, k1, k2, ↓j0, ↓j1, e3']
      try simp only [bOn, bOs]
omit hw in
theorem bi_far (a : Tm) (L : Nat) (iha : ∀ L, TmOk a → hgt a ≤ 8 → hgt a + 3 ≤ L → run KL tb w L 4 [tmD a] g = .ok (bO (bitV a), g)) (h : TmOk (.far a)) (h8 : hgt (.far a) ≤ 8) (hL : hgt (.far a) + 3 ≤ L) : run KL tb w L 4 [tmD (.far a)] g = .ok (bO (bitV (.far a)), g) := by
  have hh : hgt (.far a) = hgt a + 1 := rfl
  obtain ⟨l, rfl⟩ : ∃ l, L = l + 2 := ⟨L - 2, by omega⟩
  have ea := iha (l + 1) h (by omega) (by omega)
  have ep : run KL tb w (l + 1) 0 [.tup [.str "far", tmD a]] g = .ok (.lst [tmD a], g) := S_parts_of (w := w) (n := l) (g := g) (.far a) (.inr (.inl ⟨_, rfl⟩))
  have hv : bitV (.far a) = bitV a := rfl
  rw [hv]
  rw [← W_eq, U_bits_in]
  generalize bitV a = u at *
  have j0 : ∀ (x : D) (Q : D → Prop), OW (P.sem KL .ix [.lst [x], .int 0]) Q = Q x := fun x Q => by
    have e : P.sem KL .ix [.lst [x], .int 0] = some x := rfl
    rw [e, OW_some]
  rcases u with _ | x
  · have k1 := okL1 none
    have k2 : inOf .non [bO none] = true := rfl
    simp only [t4, ↓Ep0, ↓Ep1, ↓Ep2, ↓Ep3, ↓Ep4, ↓Ep5, ↓Ep6, ↓Ep7, ↓Ep8, Eq0, Eq1, Eq2, fnW, parW, strW, ↓ws_ite, ↓ws_own_comp, ↓ws_own_lst, ↓ws_own_addL, ↓ws_own_toLst, intW, ↓ws_app, valW, ite_self, lstW, ownW, List.contains_cons, List.contains_nil, Nat.reduceBEq, Bool.true_or, Bool.or_true, Bool.false_or, if_true, if_false, Bool.false_eq_true, ↓seen, List.getElem?_cons_succ, List.getElem?_cons_zero, Int.reduceToNat, Int.reducePow, List.cons_append, List.nil_append, D.imm, List.set_cons_zero, List.set_cons_succ, unpW, setSl, and_true, true_and, Classical.not_not, Int.reduceEq, false_implies, not_false_eq_true, not_true_eq_false, imp_false, forall_const, true_implies, tmD, ow_inT, ow_in, ow_eqW, wK_plus, wK_less, wK_times, wK_over, wK_least, wK_most, wK_far, wK_power, wK_root, wK_number, wK_name, wK_value, wK_turned, wK_area, wK_endless, we_plus_number, we_plus_far, we_plus_power, we_plus_root, we_plus_times, we_plus_over, we_less_number, we_less_far, we_less_power, we_less_root, we_less_times, we_less_over, we_times_number, we_times_far, we_times_power, we_times_root, we_times_times, we_times_over, we_over_number, we_over_far, we_over_power, we_over_root, we_over_times, we_over_over, we_least_number, we_least_far, we_least_power, we_least_root, we_least_times, we_least_over, we_most_number, we_most_far, we_most_power, we_most_root, we_most_times, we_most_over, we_far_number, we_far_far, we_far_power, we_far_root, we_far_times, we_far_over, we_power_number, we_power_far, we_power_power, we_power_root, we_power_times, we_power_over, we_root_number, we_root_far, we_root_power, we_root_root, we_root_times, we_root_over, we_number_number, we_number_far, we_number_power, we_number_root, we_number_times, we_number_over, wf_plus, wf_less, wf_times, wf_over, wf_least, wf_most, wf_far, wf_power, wf_root, wf_number, wf_name, wf_value, wf_turned, wf_area, wf_endless, iSeq, nOk, wflA, wfls, and_self, ow_tup, ↓we_comp, ↓turns_cons, ↓turns_nil, ↓we_turn, Tg.bind, Tg.slots, wipeSl, addO, List.length_cons, List.length_nil, Nat.reduceAdd, PySem.sizeLine, Nat.reducePow, Nat.reduceLeDiff, true_and, ep, ea, k1, k2]
    simp only [bOn, bOs]
  · have k1 := okL1 (some x)
    have k2 : inOf .non [bO (some x)] = false := rfl
    simp only [t4, ↓Ep0, ↓Ep1, ↓Ep2, ↓Ep3, ↓Ep4, ↓Ep5, ↓Ep6, ↓Ep7, ↓Ep8, Eq0, Eq1, Eq2, fnW, parW, strW, ↓ws_ite, ↓ws_own_comp, ↓ws_own_lst, ↓ws_own_addL, ↓ws_own_toLst, intW, ↓ws_app, valW, ite_self, lstW, ownW, List.contains_cons, List.contains_nil, Nat.reduceBEq, Bool.true_or, Bool.or_true, Bool.false_or, if_true, if_false, Bool.false_eq_true, ↓seen, List.getElem?_cons_succ, List.getElem?_cons_zero, Int.reduceToNat, Int.reducePow, List.cons_append, List.nil_append, D.imm, List.set_cons_zero, List.set_cons_succ, unpW, setSl, and_true, true_and, Classical.not_not, Int.reduceEq, false_implies, not_false_eq_true, not_true_eq_false, imp_false, forall_const, true_implies, tmD, ow_inT, ow_in, ow_eqW, wK_plus, wK_less, wK_times, wK_over, wK_least, wK_most, wK_far, wK_power, wK_root, wK_number, wK_name, wK_value, wK_turned, wK_area, wK_endless, we_plus_number, we_plus_far, we_plus_power, we_plus_root, we_plus_times, we_plus_over, we_less_number, we_less_far, we_less_power, we_less_root, we_less_times, we_less_over, we_times_number, we_times_far, we_times_power, we_times_root, we_times_times, we_times_over, we_over_number, we_over_far, we_over_power, we_over_root, we_over_times, we_over_over, we_least_number, we_least_far, we_least_power, we_least_root, we_least_times, we_least_over, we_most_number, we_most_far, we_most_power, we_most_root, we_most_times, we_most_over, we_far_number, we_far_far, we_far_power, we_far_root, we_far_times, we_far_over, we_power_number, we_power_far, we_power_power, we_power_root, we_power_times, we_power_over, we_root_number, we_root_far, we_root_power, we_root_root, we_root_times, we_root_over, we_number_number, we_number_far, we_number_power, we_number_root, we_number_times, we_number_over, wf_plus, wf_less, wf_times, wf_over, wf_least, wf_most, wf_far, wf_power, wf_root, wf_number, wf_name, wf_value, wf_turned, wf_area, wf_endless, iSeq, nOk, wflA, wfls, and_self, ow_tup, ↓we_comp, ↓turns_cons, ↓turns_nil, ↓we_turn, Tg.bind, Tg.slots, wipeSl, addO, List.length_cons, List.length_nil, Nat.reduceAdd, PySem.sizeLine, Nat.reducePow, Nat.reduceLeDiff, true_and, ep, ea, k1, k2, ↓j0]
    try simp only [bOn, bOs]
omit hw in
theorem bi_pow (a : Tm) (k : Nat) (L : Nat) (iha : ∀ L, TmOk a → hgt a ≤ 8 → hgt a + 3 ≤ L → run KL tb w L 4 [tmD a] g = .ok (bO (bitV a), g)) (h : TmOk (.pow a k)) (h8 : hgt (.pow a k) ≤ 8) (hL : hgt (.pow a k) + 3 ≤ L) : run KL tb w L 4 [tmD (.pow a k)] g = .ok (bO (bitV (.pow a k)), g) := by
  have hh : hgt (.pow a k) = hgt a + 1 := rfl
  obtain ⟨l, rfl⟩ : ∃ l, L = l + 2 := ⟨L - 2, by omega⟩
  have ea := iha (l + 1) h.1 (by omega) (by omega)
  have ep : run KL tb w (l + 1) 0 [.tup [.str "power", tmD a, .int k]] g = .ok (.lst [tmD a], g) := S_parts_of (w := w) (n := l) (g := g) (.pow a k) (.inr (.inr (.inl ⟨_, _, rfl⟩)))
  have hv : bitV (.pow a k) = (bitV a).map fun x => ((k : Int) * x.1, (k : Int) * x.2.1, x.2.2) := rfl
  have va := bit_ok a h.1
  have hk := h.2
  rw [hv]
  rw [← W_eq, U_bits_in]
  generalize bitV a = u at *
  have j0 : ∀ (x : D) (Q : D → Prop), OW (P.sem KL .ix [.lst [x], .int 0]) Q = Q x := fun x Q => by
    have e : P.sem KL .ix [.lst [x], .int 0] = some x := rfl
    rw [e, OW_some]
  have j2 : ∀ (x y z : D) (Q : D → Prop), OW (P.sem KL .ix [.tup [x, y, z], .int 2]) Q = Q z := fun x y z Q => by
    have e : P.sem KL .ix [.tup [x, y, z], .int 2] = some z := rfl
    rw [e, OW_some]
  rcases u with _ | x
  · have k1 := okL1 none
    have k2 : inOf .non [bO none] = true := rfl
    simp only [t4, ↓Ep0, ↓Ep1, ↓Ep2, ↓Ep3, ↓Ep4, ↓Ep5, ↓Ep6, ↓Ep7, ↓Ep8, Eq0, Eq1, Eq2, fnW, parW, strW, ↓ws_ite, ↓ws_own_comp, ↓ws_own_lst, ↓ws_own_addL, ↓ws_own_toLst, intW, ↓ws_app, valW, ite_self, lstW, ownW, List.contains_cons, List.contains_nil, Nat.reduceBEq, Bool.true_or, Bool.or_true, Bool.false_or, if_true, if_false, Bool.false_eq_true, ↓seen, List.getElem?_cons_succ, List.getElem?_cons_zero, Int.reduceToNat, Int.reducePow, List.cons_append, List.nil_append, D.imm, List.set_cons_zero, List.set_cons_succ, unpW, setSl, and_true, true_and, Classical.not_not, Int.reduceEq, false_implies, not_false_eq_true, not_true_eq_false, imp_false, forall_const, true_implies, tmD, ow_inT, ow_in, ow_eqW, wK_plus, wK_less, wK_times, wK_over, wK_least, wK_most, wK_far, wK_power, wK_root, wK_number, wK_name, wK_value, wK_turned, wK_area, wK_endless, we_plus_number, we_plus_far, we_plus_power, we_plus_root, we_plus_times, we_plus_over, we_less_number, we_less_far, we_less_power, we_less_root, we_less_times, we_less_over, we_times_number, we_times_far, we_times_power, we_times_root, we_times_times, we_times_over, we_over_number, we_over_far, we_over_power, we_over_root, we_over_times, we_over_over, we_least_number, we_least_far, we_least_power, we_least_root, we_least_times, we_least_over, we_most_number, we_most_far, we_most_power, we_most_root, we_most_times, we_most_over, we_far_number, we_far_far, we_far_power, we_far_root, we_far_times, we_far_over, we_power_number, we_power_far, we_power_power, we_power_root, we_power_times, we_power_over, we_root_number, we_root_far, we_root_power, we_root_root, we_root_times, we_root_over, we_number_number, we_number_far, we_number_power, we_number_root, we_number_times, we_number_over, wf_plus, wf_less, wf_times, wf_over, wf_least, wf_most, wf_far, wf_power, wf_root, wf_number, wf_name, wf_value, wf_turned, wf_area, wf_endless, iSeq, nOk, wflA, wfls, and_self, ow_tup, ↓we_comp, ↓turns_cons, ↓turns_nil, ↓we_turn, Tg.bind, Tg.slots, wipeSl, addO, List.length_cons, List.length_nil, Nat.reduceAdd, PySem.sizeLine, Nat.reducePow, Nat.reduceLeDiff, true_and, ep, ea, k1, k2]
    simp only [Option.map_none, bOn, bOs]
  · have k1 := okL1 (some x)
    have k2 : inOf .non [bO (some x)] = false := rfl
    have b0 : ∀ Q : D → Prop, OW (P.sem KL .ix [bO (some x), .int 0]) Q = Q (.int x.1) := fun Q => by
      have e : P.sem KL .ix [bO (some x), .int 0] = some (.int x.1) := rfl
      rw [e, OW_some]
    have b1 : ∀ Q : D → Prop, OW (P.sem KL .ix [bO (some x), .int 1]) Q = Q (.int x.2.1) := fun Q => by
      have e : P.sem KL .ix [bO (some x), .int 1] = some (.int x.2.1) := rfl
      rw [e, OW_some]
    have b2 : ∀ Q : D → Prop, OW (P.sem KL .ix [bO (some x), .int 2]) Q = Q (.int x.2.2) := fun Q => by
      have e : P.sem KL .ix [bO (some x), .int 2] = some (.int x.2.2) := rfl
      rw [e, OW_some]
    have m1 : ∀ z, mulOk (k : Int) z = true := fun z => mulOk_l (by omega)
    simp only [t4, ↓Ep0, ↓Ep1, ↓Ep2, ↓Ep3, ↓Ep4, ↓Ep5, ↓Ep6, ↓Ep7, ↓Ep8, Eq0, Eq1, Eq2, fnW, parW, strW, ↓ws_ite, ↓ws_own_comp, ↓ws_own_lst, ↓ws_own_addL, ↓ws_own_toLst, intW, ↓ws_app, valW, ite_self, lstW, ownW, List.contains_cons, List.contains_nil, Nat.reduceBEq, Bool.true_or, Bool.or_true, Bool.false_or, if_true, if_false, Bool.false_eq_true, ↓seen, List.getElem?_cons_succ, List.getElem?_cons_zero, Int.reduceToNat, Int.reducePow, List.cons_append, List.nil_append, D.imm, List.set_cons_zero, List.set_cons_succ, unpW, setSl, and_true, true_and, Classical.not_not, Int.reduceEq, false_implies, not_false_eq_true, not_true_eq_false, imp_false, forall_const, true_implies, tmD, ow_inT, ow_in, ow_eqW, wK_plus, wK_less, wK_times, wK_over, wK_least, wK_most, wK_far, wK_power, wK_root, wK_number, wK_name, wK_value, wK_turned, wK_area, wK_endless, we_plus_number, we_plus_far, we_plus_power, we_plus_root, we_plus_times, we_plus_over, we_less_number, we_less_far, we_less_power, we_less_root, we_less_times, we_less_over, we_times_number, we_times_far, we_times_power, we_times_root, we_times_times, we_times_over, we_over_number, we_over_far, we_over_power, we_over_root, we_over_times, we_over_over, we_least_number, we_least_far, we_least_power, we_least_root, we_least_times, we_least_over, we_most_number, we_most_far, we_most_power, we_most_root, we_most_times, we_most_over, we_far_number, we_far_far, we_far_power, we_far_root, we_far_times, we_far_over, we_power_number, we_power_far, we_power_power, we_power_root, we_power_times, we_power_over, we_root_number, we_root_far, we_root_power, we_root_root, we_root_times, we_root_over, we_number_number, we_number_far, we_number_power, we_number_root, we_number_times, we_number_over, wf_plus, wf_less, wf_times, wf_over, wf_least, wf_most, wf_far, wf_power, wf_root, wf_number, wf_name, wf_value, wf_turned, wf_area, wf_endless, iSeq, nOk, wflA, wfls, and_self, ow_tup, ↓we_comp, ↓turns_cons, ↓turns_nil, ↓we_turn, Tg.bind, Tg.slots, wipeSl, addO, List.length_cons, List.length_nil, Nat.reduceAdd, PySem.sizeLine, Nat.reducePow, Nat.reduceLeDiff, true_and, ep, ea, k1, k2, ↓j0, ↓j2, ↓b0, ↓b1, ↓b2, m1]
    simp only [Option.map_some, bOs, bD]
omit hw in
theorem bi_root (k : Nat) (a : Tm) (L : Nat) (iha : ∀ L, TmOk a → hgt a ≤ 8 → hgt a + 3 ≤ L → run KL tb w L 4 [tmD a] g = .ok (bO (bitV a), g)) (h : TmOk (.root k a)) (h8 : hgt (.root k a) ≤ 8) (hL : hgt (.root k a) + 3 ≤ L) : run KL tb w L 4 [tmD (.root k a)] g = .ok (bO (bitV (.root k a)), g) := by
  have hh : hgt (.root k a) = hgt a + 1 := rfl
  obtain ⟨l, rfl⟩ : ∃ l, L = l + 2 := ⟨L - 2, by omega⟩
  have ea := iha (l + 1) h.1 (by omega) (by omega)
  have ep : run KL tb w (l + 1) 0 [.tup [.str "root", .int k, tmD a]] g = .ok (.lst [tmD a], g) := S_parts_of (w := w) (n := l) (g := g) (.root k a) (.inr (.inr (.inr ⟨_, _, rfl⟩)))
  have hv : bitV (.root k a) = (bitV a).map (rootB k) := rfl
  have va := bit_ok a h.1
  rw [hv]
  rw [← W_eq, U_bits_in]
  generalize bitV a = u at *
  have j0 : ∀ (x : D) (Q : D → Prop), OW (P.sem KL .ix [.lst [x], .int 0]) Q = Q x := fun x Q => by
    have e : P.sem KL .ix [.lst [x], .int 0] = some x := rfl
    rw [e, OW_some]
  rcases u with _ | x
  · have k1 := okL1 none
    have k2 : inOf .non [bO none] = true := rfl
    simp only [t4, ↓Ep0, ↓Ep1, ↓Ep2, ↓Ep3, ↓Ep4, ↓Ep5, ↓Ep6, ↓Ep7, ↓Ep8, Eq0, Eq1, Eq2, fnW, parW, strW, ↓ws_ite, ↓ws_own_comp, ↓ws_own_lst, ↓ws_own_addL, ↓ws_own_toLst, intW, ↓ws_app, valW, ite_self, lstW, ownW, List.contains_cons, List.contains_nil, Nat.reduceBEq, Bool.true_or, Bool.or_true, Bool.false_or, if_true, if_false, Bool.false_eq_true, ↓seen, List.getElem?_cons_succ, List.getElem?_cons_zero, Int.reduceToNat, Int.reducePow, List.cons_append, List.nil_append, D.imm, List.set_cons_zero, List.set_cons_succ, unpW, setSl, and_true, true_and, Classical.not_not, Int.reduceEq, false_implies, not_false_eq_true, not_true_eq_false, imp_false, forall_const, true_implies, tmD, ow_inT, ow_in, ow_eqW, wK_plus, wK_less, wK_times, wK_over, wK_least, wK_most, wK_far, wK_power, wK_root, wK_number, wK_name, wK_value, wK_turned, wK_area, wK_endless, we_plus_number, we_plus_far, we_plus_power, we_plus_root, we_plus_times, we_plus_over, we_less_number, we_less_far, we_less_power, we_less_root, we_less_times, we_less_over, we_times_number, we_times_far, we_times_power, we_times_root, we_times_times, we_times_over, we_over_number, we_over_far, we_over_power, we_over_root, we_over_times, we_over_over, we_least_number, we_least_far, we_least_power, we_least_root, we_least_times, we_least_over, we_most_number, we_most_far, we_most_power, we_most_root, we_most_times, we_most_over, we_far_number, we_far_far, we_far_power, we_far_root, we_far_times, we_far_over, we_power_number, we_power_far, we_power_power, we_power_root, we_power_times, we_power_over, we_root_number, we_root_far, we_root_power, we_root_root, we_root_times, we_root_over, we_number_number, we_number_far, we_number_power, we_number_root, we_number_times, we_number_over, wf_plus, wf_less, wf_times, wf_over, wf_least, wf_most, wf_far, wf_power, wf_root, wf_number, wf_name, wf_value, wf_turned, wf_area, wf_endless, iSeq, nOk, wflA, wfls, and_self, ow_tup, ↓we_comp, ↓turns_cons, ↓turns_nil, ↓we_turn, Tg.bind, Tg.slots, wipeSl, addO, List.length_cons, List.length_nil, Nat.reduceAdd, PySem.sizeLine, Nat.reducePow, Nat.reduceLeDiff, true_and, ep, ea, k1, k2]
    simp only [Option.map_none, bOn, bOs]
  · have k1 := okL1 (some x)
    have k2 : inOf .non [bO (some x)] = false := rfl
    have e3 : run KL tb w (l + 1) 3 [.int k, bO (some x)] g = .ok (bD (rootB k x), g) := S_bits_of_root (w := w) (n := l) (g := g) k h.2.1 h.2.2 ((va x rfl).mono (by omega))
    simp only [t4, ↓Ep0, ↓Ep1, ↓Ep2, ↓Ep3, ↓Ep4, ↓Ep5, ↓Ep6, ↓Ep7, ↓Ep8, Eq0, Eq1, Eq2, fnW, parW, strW, ↓ws_ite, ↓ws_own_comp, ↓ws_own_lst, ↓ws_own_addL, ↓ws_own_toLst, intW, ↓ws_app, valW, ite_self, lstW, ownW, List.contains_cons, List.contains_nil, Nat.reduceBEq, Bool.true_or, Bool.or_true, Bool.false_or, if_true, if_false, Bool.false_eq_true, ↓seen, List.getElem?_cons_succ, List.getElem?_cons_zero, Int.reduceToNat, Int.reducePow, List.cons_append, List.nil_append, D.imm, List.set_cons_zero, List.set_cons_succ, unpW, setSl, and_true, true_and, Classical.not_not, Int.reduceEq, false_implies, not_false_eq_true, not_true_eq_false, imp_false, forall_const, true_implies, tmD, ow_inT, ow_in, ow_eqW, wK_plus, wK_less, wK_times, wK_over, wK_least, wK_most, wK_far, wK_power, wK_root, wK_number, wK_name, wK_value, wK_turned, wK_area, wK_endless, we_plus_number, we_plus_far, we_plus_power, we_plus_root, we_plus_times, we_plus_over, we_less_number, we_less_far, we_less_power, we_less_root, we_less_times, we_less_over, we_times_number, we_times_far, we_times_power, we_times_root, we_times_times, we_times_over, we_over_number, we_over_far, we_over_power, we_over_root, we_over_times, we_over_over, we_least_number, we_least_far, we_least_power, we_least_root, we_least_times, we_least_over, we_most_number, we_most_far, we_most_power, we_most_root, we_most_times, we_most_over, we_far_number, we_far_far, we_far_power, we_far_root, we_far_times, we_far_over, we_power_number, we_power_far, we_power_power, we_power_root, we_power_times, we_power_over, we_root_number, we_root_far, we_root_power, we_root_root, we_root_times, we_root_over, we_number_number, we_number_far, we_number_power, we_number_root, we_number_times, we_number_over, wf_plus, wf_less, wf_times, wf_over, wf_least, wf_most, wf_far, wf_power, wf_root, wf_number, wf_name, wf_value, wf_turned, wf_area, wf_endless, iSeq, nOk, wflA, wfls, and_self, ow_tup, ↓we_comp, ↓turns_cons, ↓turns_nil, ↓we_turn, Tg.bind, Tg.slots, wipeSl, addO, List.length_cons, List.length_nil, Nat.reduceAdd, PySem.sizeLine, Nat.reducePow, Nat.reduceLeDiff, true_and, ep, ea, k1, k2, ↓j0, e3]
    simp only [Option.map_some, bOs]
theorem S_bits_in (t : Tm) : ∀ L : Nat, TmOk t → hgt t ≤ 8 → hgt t + 3 ≤ L → run KL tb w L 4 [tmD t] g = .ok (bO (bitV t), g) := by
  induction t with
  | num q => exact fun L h h8 hL => bi_num hw q L h h8 hL
  | fur wd ds => exact fun L h h8 hL => bi_fur wd ds L h h8 hL
  | two wd a b iha ihb => exact fun L h h8 hL => bi_two wd a b L iha ihb h h8 hL
  | far a iha => exact fun L h h8 hL => bi_far a L iha h h8 hL
  | pow a k iha => exact fun L h h8 hL => bi_pow a k L iha h h8 hL
  | root k a iha => exact fun L h h8 hL => bi_root k a L iha h h8 hL
theorem S_gap (t : Tm) (L : Nat) (h : TmOk t) (h8 : hgt t ≤ 8) (hL : hgt t + 4 ≤ L) : run KL tb w L 5 [tmD t] g = .ok ((match bitV t with | none => .non | some x => .int (x.2.1 + (x.2.2 - 1) * x.1 + 1)), g) := by
  obtain ⟨l, rfl⟩ : ∃ l, L = l + 1 := ⟨L - 1, by omega⟩
  have e := S_bits_in (g := g) hw t l h h8 (by omega)
  have va := bit_ok t h
  rw [← W_eq, U_gap]
  generalize bitV t = u at *
  cases u with
  | none => 
    have e : run KL tb w l 4 [tmD t] g = .ok (.non, g) := e
    simp only [t5, ↓Ep0, ↓Ep1, ↓Ep2, ↓Ep3, ↓Ep4, ↓Ep5, ↓Ep6, ↓Ep7, ↓Ep8, Eq0, Eq1, Eq2, fnW, parW, strW, ↓ws_ite, ↓ws_own_comp, ↓ws_own_lst, ↓ws_own_addL, ↓ws_own_toLst, intW, ↓ws_app, valW, ite_self, lstW, ownW, List.contains_cons, List.contains_nil, Nat.reduceBEq, Bool.true_or, Bool.or_true, Bool.false_or, if_true, if_false, Bool.false_eq_true, ↓seen, List.getElem?_cons_succ, List.getElem?_cons_zero, Int.reduceToNat, Int.reducePow, List.cons_append, List.nil_append, D.imm, List.set_cons_zero, List.set_cons_succ, unpW, setSl, and_true, true_and, Classical.not_not, Int.reduceEq, false_implies, not_false_eq_true, not_true_eq_false, imp_false, forall_const, true_implies, e]
  | some x =>
    obtain ⟨⟨a0, a1⟩, ⟨b0, b1⟩, c1⟩ := ((va x rfl).mono h8).b20
    have e : run KL tb w l 4 [tmD t] g = .ok (.tup [.int x.1, .int x.2.1, .int x.2.2], g) := e
    have m1 : mulOk (x.2.2 - 1) x.1 = true := mulOk_r (by omega)
    simp only [t5, ↓Ep0, ↓Ep1, ↓Ep2, ↓Ep3, ↓Ep4, ↓Ep5, ↓Ep6, ↓Ep7, ↓Ep8, Eq0, Eq1, Eq2, fnW, parW, strW, ↓ws_ite, ↓ws_own_comp, ↓ws_own_lst, ↓ws_own_addL, ↓ws_own_toLst, intW, ↓ws_app, valW, ite_self, lstW, ownW, List.contains_cons, List.contains_nil, Nat.reduceBEq, Bool.true_or, Bool.or_true, Bool.false_or, if_true, if_false, Bool.false_eq_true, ↓seen, List.getElem?_cons_succ, List.getElem?_cons_zero, Int.reduceToNat, Int.reducePow, List.cons_append, List.nil_append, D.imm, List.set_cons_zero, List.set_cons_succ, unpW, setSl, and_true, true_and, Classical.not_not, Int.reduceEq, false_implies, not_false_eq_true, not_true_eq_false, imp_false, forall_const, true_implies, e, m1]
end

end Z.Law

set_option Elab.async false
set_option linter.all false
set_option maxRecDepth 100000
set_option maxHeartbeats 4000000
namespace Z.Law
open PySem
/-! k61: the law's bits of a term -/
theorem wk6 (wd : Wd) : (D.str wd.s).okEq = true ∧ (wd.s == ("number" : Str)) = false ∧ (wd.s == ("root" : Str)) = false ∧ (wd.s == ("far" : Str)) = false ∧ (wd.s == ("power" : Str)) = false := by
  cases wd <;> refine ⟨?_, ?_, ?_, ?_, ?_⟩ <;> decide +kernel
theorem BVe {a b c d e f : Int} (h1 : a = d) (h2 : b = e) (h3 : c = f) (g : G) : (D.tup [.int a, .int b, .int c], g) = (D.tup [.int d, .int e, .int f], g) := by rw [h1, h2, h3]
section
variable {w n : Nat} {g : G} (hw : wB ≤ w)
include hw
theorem lb_num (q : Rat) (L : Nat) (h : TmOk (.num q)) (hL : hgt (.num q) + 3 ≤ L) : run KL tb w L 13 [tmD (.num q)] g = .ok (bD (numB q), g) := by
  obtain ⟨l, rfl⟩ : ∃ l, L = l + 2 := ⟨L - 2, by have : hgt (.num q) = 1 := rfl; omega⟩
  have hq : q.num.natAbs < 2 ^ 12 := h.1
  have hd : (q.den : Int).natAbs < 2 ^ 12 := h.2
  have dp := q.den_pos
  have e1 := S_lbits (n := l) (g := g) hw (max 1 q.num.natAbs) (by omega) (by omega)
  have e2 := S_lbits (n := l) (g := g) hw q.den (by omega) (by omega)
  have mx : max 1 (q.num.natAbs : Int) = ((max 1 q.num.natAbs : Nat) : Int) := by omega
  have x0 : ∀ (q : Rat) Q, OW (P.sem KL .ix [frD q, .int 0]) Q = Q (.int q.num) := fun q Q => ow_ix0 _ _
  have x1 : ∀ (q : Rat) Q, OW (P.sem KL .ix [frD q, .int 1]) Q = Q (.int q.den) := fun q Q => ow_ix1 _ _ _
  have i1 : ∀ (x y : D) (Q : D → Prop), OW (P.sem KL .ix [.tup [x, y], .int 1]) Q = Q y := fun x y Q => by
    have e : P.sem KL .ix [.tup [x, y], .int 1] = some y := rfl
    rw [e, OW_some]
  rw [← W_eq, U_law_bits_in]
  simp only [t13, ↓Ep0, ↓Ep1, ↓Ep2, ↓Ep3, ↓Ep4, ↓Ep5, ↓Ep6, ↓Ep7, ↓Ep8, Eq0, Eq1, Eq2, fnW, parW, strW, ↓ws_ite, ↓ws_own_comp, ↓ws_own_lst, ↓ws_own_addL, ↓ws_own_toLst, intW, ↓ws_app, valW, ite_self, lstW, ownW, List.contains_cons, List.contains_nil, Nat.reduceBEq, Bool.true_or, Bool.or_true, Bool.false_or, if_true, if_false, Bool.false_eq_true, ↓seen, List.getElem?_cons_succ, List.getElem?_cons_zero, Int.reduceToNat, Int.reducePow, List.cons_append, List.nil_append, D.imm, List.set_cons_zero, List.set_cons_succ, unpW, setSl, and_true, true_and, Classical.not_not, Int.reduceEq, false_implies, not_false_eq_true, not_true_eq_false, imp_false, forall_const, true_implies, tmD, ow_inT, ow_eqW, wK_number, wK_far, wK_power, wK_root, wK_times, wK_over, wflB, wfls, and_self, ow_tup, List.length_cons, List.length_nil, Nat.reduceAdd, PySem.sizeLine, Nat.reducePow, Nat.reduceLeDiff, true_and, we_number_number, bD, numB, ↓i1, ↓x0, ↓x1, mx, e1, e2]
omit hw in
theorem lb_two (wd : Wd) (a b : Tm) (L : Nat) {x y : BV} (kx : BOk 8 x) (ky : BOk 8 y) (ea : run KL tb w L 13 [tmD a] g = .ok (bD x, g)) (eb : run KL tb w L 13 [tmD b] g = .ok (bD y, g)) : run KL tb w (L + 1) 13 [tmD (.two wd a b)] g = .ok (bD (twoB wd x y), g) := by
  obtain ⟨w0, w1, w2, w3, w4⟩ := wk6 wd
  obtain ⟨a1, b1, c1⟩ := x
  obtain ⟨d1, e1, f1⟩ := y
  have mm : mulOk c1 f1 = true := mulOk_of kx.b20.2.2 ky.b20.2.2 (by decide)
  have i1 : ∀ (x y z : D) (Q : D → Prop), OW (P.sem KL .ix [.tup [x, y, z], .int 1]) Q = Q y := fun x y z Q => by
    have e : P.sem KL .ix [.tup [x, y, z], .int 1] = some y := rfl
    rw [e, OW_some]
  have i2 : ∀ (x y z : D) (Q : D → Prop), OW (P.sem KL .ix [.tup [x, y, z], .int 2]) Q = Q z := fun x y z Q => by
    have e : P.sem KL .ix [.tup [x, y, z], .int 2] = some z := rfl
    rw [e, OW_some]
  have ea : run KL tb w L 13 [tmD a] g = .ok (.tup [.int a1, .int b1, .int c1], g) := ea
  have eb : run KL tb w L 13 [tmD b] g = .ok (.tup [.int d1, .int e1, .int f1], g) := eb
  rw [← W_eq, U_law_bits_in]
  simp only [t13, ↓Ep0, ↓Ep1, ↓Ep2, ↓Ep3, ↓Ep4, ↓Ep5, ↓Ep6, ↓Ep7, ↓Ep8, Eq0, Eq1, Eq2, fnW, parW, strW, ↓ws_ite, ↓ws_own_comp, ↓ws_own_lst, ↓ws_own_addL, ↓ws_own_toLst, intW, ↓ws_app, valW, ite_self, lstW, ownW, List.contains_cons, List.contains_nil, Nat.reduceBEq, Bool.true_or, Bool.or_true, Bool.false_or, if_true, if_false, Bool.false_eq_true, ↓seen, List.getElem?_cons_succ, List.getElem?_cons_zero, Int.reduceToNat, Int.reducePow, List.cons_append, List.nil_append, D.imm, List.set_cons_zero, List.set_cons_succ, unpW, setSl, and_true, true_and, Classical.not_not, Int.reduceEq, false_implies, not_false_eq_true, not_true_eq_false, imp_false, forall_const, true_implies, tmD, ow_inT, ow_eqW, wK_number, wK_far, wK_power, wK_root, wK_times, wK_over, wflB, wfls, and_self, ow_tup, List.length_cons, List.length_nil, Nat.reduceAdd, PySem.sizeLine, Nat.reducePow, Nat.reduceLeDiff, true_and, w0, w1, w2, w3, w4, ↓i1, ↓i2, ea, eb]
  cases wd
  all_goals
    simp only [↓Ep0, ↓Ep1, ↓Ep2, ↓Ep3, ↓Ep4, ↓Ep5, ↓Ep6, ↓Ep7, ↓Ep8, Eq0, Eq1, Eq2, fnW, parW, strW, ↓ws_ite, ↓ws_own_comp, ↓ws_own_lst, ↓ws_own_addL, ↓ws_own_toLst, intW, ↓ws_app, valW, ite_self, lstW, ownW, List.contains_cons, List.contains_nil, Nat.reduceBEq, Bool.true_or, Bool.or_true, Bool.false_or, if_true, if_false, Bool.false_eq_true, ↓seen, List.getElem?_cons_succ, List.getElem?_cons_zero, Int.reduceToNat, Int.reducePow, List.cons_append, List.nil_append, D.imm, List.set_cons_zero, List.set_cons_succ, unpW, setSl, and_true, true_and, Classical.not_not, Int.reduceEq, false_implies, not_false_eq_true, not_true_eq_false, imp_false, forall_const, true_implies, Wd.s, bD, twoB, ow_eqW, we_plus_times, we_plus_over, we_less_times, we_less_over, we_times_times, we_times_over, we_over_times, we_over_over, we_least_times, we_least_over, we_most_times, we_most_over, wl_plus, wl_less, wl_times, wl_over, wl_least, wl_most, ow_inT, wflB, wfls, and_self, ow_tup, List.length_cons, List.length_nil, Nat.reduceAdd, PySem.sizeLine, Nat.reducePow, Nat.reduceLeDiff, true_and, mm]
    try exact ⟨mulOk_r (by decide), BVe (by omega) rfl (by simp only [Int.reduceAdd]) g⟩
omit hw in
theorem lb_far (a : Tm) (L : Nat) {x : BV} (ea : run KL tb w L 13 [tmD a] g = .ok (bD x, g)) : run KL tb w (L + 1) 13 [tmD (.far a)] g = .ok (bD x, g) := by
  obtain ⟨a1, b1, c1⟩ := x
  have i1 : ∀ (x y : D) (Q : D → Prop), OW (P.sem KL .ix [.tup [x, y], .int 1]) Q = Q y := fun x y Q => by
    have e : P.sem KL .ix [.tup [x, y], .int 1] = some y := rfl
    rw [e, OW_some]
  have ea : run KL tb w L 13 [tmD a] g = .ok (.tup [.int a1, .int b1, .int c1], g) := ea
  rw [← W_eq, U_law_bits_in]
  simp only [t13, ↓Ep0, ↓Ep1, ↓Ep2, ↓Ep3, ↓Ep4, ↓Ep5, ↓Ep6, ↓Ep7, ↓Ep8, Eq0, Eq1, Eq2, fnW, parW, strW, ↓ws_ite, ↓ws_own_comp, ↓ws_own_lst, ↓ws_own_addL, ↓ws_own_toLst, intW, ↓ws_app, valW, ite_self, lstW, ownW, List.contains_cons, List.contains_nil, Nat.reduceBEq, Bool.true_or, Bool.or_true, Bool.false_or, if_true, if_false, Bool.false_eq_true, ↓seen, List.getElem?_cons_succ, List.getElem?_cons_zero, Int.reduceToNat, Int.reducePow, List.cons_append, List.nil_append, D.imm, List.set_cons_zero, List.set_cons_succ, unpW, setSl, and_true, true_and, Classical.not_not, Int.reduceEq, false_implies, not_false_eq_true, not_true_eq_false, imp_false, forall_const, true_implies, tmD, ow_inT, ow_eqW, wK_number, wK_far, wK_power, wK_root, wK_times, wK_over, wflB, wfls, and_self, ow_tup, List.length_cons, List.length_nil, Nat.reduceAdd, PySem.sizeLine, Nat.reducePow, Nat.reduceLeDiff, true_and, we_far_number, we_far_root, we_far_far, ↓i1, ea, bD]
omit hw in
theorem lb_pow (a : Tm) (k : Nat) (hk : k ≤ 3) (L : Nat) {x : BV} (ea : run KL tb w L 13 [tmD a] g = .ok (bD x, g)) : run KL tb w (L + 1) 13 [tmD (.pow a k)] g = .ok (bD ((k : Int) * x.1, (k : Int) * x.2.1, x.2.2), g) := by
  obtain ⟨a1, b1, c1⟩ := x
  have i1 : ∀ (x y z : D) (Q : D → Prop), OW (P.sem KL .ix [.tup [x, y, z], .int 1]) Q = Q y := fun x y z Q => by
    have e : P.sem KL .ix [.tup [x, y, z], .int 1] = some y := rfl
    rw [e, OW_some]
  have i2 : ∀ (x y z : D) (Q : D → Prop), OW (P.sem KL .ix [.tup [x, y, z], .int 2]) Q = Q z := fun x y z Q => by
    have e : P.sem KL .ix [.tup [x, y, z], .int 2] = some z := rfl
    rw [e, OW_some]
  have m1 : ∀ z, mulOk z (k : Int) = true := fun z => mulOk_r (by omega)
  have ea : run KL tb w L 13 [tmD a] g = .ok (.tup [.int a1, .int b1, .int c1], g) := ea
  rw [← W_eq, U_law_bits_in]
  simp only [t13, ↓Ep0, ↓Ep1, ↓Ep2, ↓Ep3, ↓Ep4, ↓Ep5, ↓Ep6, ↓Ep7, ↓Ep8, Eq0, Eq1, Eq2, fnW, parW, strW, ↓ws_ite, ↓ws_own_comp, ↓ws_own_lst, ↓ws_own_addL, ↓ws_own_toLst, intW, ↓ws_app, valW, ite_self, lstW, ownW, List.contains_cons, List.contains_nil, Nat.reduceBEq, Bool.true_or, Bool.or_true, Bool.false_or, if_true, if_false, Bool.false_eq_true, ↓seen, List.getElem?_cons_succ, List.getElem?_cons_zero, Int.reduceToNat, Int.reducePow, List.cons_append, List.nil_append, D.imm, List.set_cons_zero, List.set_cons_succ, unpW, setSl, and_true, true_and, Classical.not_not, Int.reduceEq, false_implies, not_false_eq_true, not_true_eq_false, imp_false, forall_const, true_implies, tmD, ow_inT, ow_eqW, wK_number, wK_far, wK_power, wK_root, wK_times, wK_over, wflB, wfls, and_self, ow_tup, List.length_cons, List.length_nil, Nat.reduceAdd, PySem.sizeLine, Nat.reducePow, Nat.reduceLeDiff, true_and, we_power_number, we_power_root, we_power_far, we_power_power, ↓i1, ↓i2, ea, bD, m1]
  exact BVe (Int.mul_comm ..) (Int.mul_comm ..) rfl g
omit hw in
theorem lb_root (k : Nat) (a : Tm) (k2 : 2 ≤ k) (k4 : k ≤ 4) (L : Nat) {x : BV} (kx : BOk 8 x) (ea : run KL tb w L 13 [tmD a] g = .ok (bD x, g)) : run KL tb w (L + 1) 13 [tmD (.root k a)] g = .ok (bD (rootB k x), g) := by
  obtain ⟨a1, b1, c1⟩ := x
  obtain ⟨⟨a0, a2⟩, ⟨b0, b2⟩, c2⟩ := kx.b20
  dsimp only at a0 a2 b0 b2 c2
  have i1 : ∀ (x y z : D) (Q : D → Prop), OW (P.sem KL .ix [.tup [x, y, z], .int 1]) Q = Q y := fun x y z Q => by
    have e : P.sem KL .ix [.tup [x, y, z], .int 1] = some y := rfl
    rw [e, OW_some]
  have i2 : ∀ (x y z : D) (Q : D → Prop), OW (P.sem KL .ix [.tup [x, y, z], .int 2]) Q = Q z := fun x y z Q => by
    have e : P.sem KL .ix [.tup [x, y, z], .int 2] = some z := rfl
    rw [e, OW_some]
  have m1 : mulOk ((k : Int) - 1) a1 = true := mulOk_l (by omega)
  have m2 : mulOk ((k : Int) - 1) b1 = true := mulOk_l (by omega)
  have m3 : ∀ z, mulOk z (k : Int) = true := fun z => mulOk_r (by omega)
  have dv : ∀ z : Int, divOk z (k : Int) = true := fun z => divOk_of (n := 4) (by unfold Sm; omega) (by omega)
  have ea : run KL tb w L 13 [tmD a] g = .ok (.tup [.int a1, .int b1, .int c1], g) := ea
  rw [← W_eq, U_law_bits_in]
  unfold rootB
  simp only [t13, ↓Ep0, ↓Ep1, ↓Ep2, ↓Ep3, ↓Ep4, ↓Ep5, ↓Ep6, ↓Ep7, ↓Ep8, Eq0, Eq1, Eq2, fnW, parW, strW, ↓ws_ite, ↓ws_own_comp, ↓ws_own_lst, ↓ws_own_addL, ↓ws_own_toLst, intW, ↓ws_app, valW, ite_self, lstW, ownW, List.contains_cons, List.contains_nil, Nat.reduceBEq, Bool.true_or, Bool.or_true, Bool.false_or, if_true, if_false, Bool.false_eq_true, ↓seen, List.getElem?_cons_succ, List.getElem?_cons_zero, Int.reduceToNat, Int.reducePow, List.cons_append, List.nil_append, D.imm, List.set_cons_zero, List.set_cons_succ, unpW, setSl, and_true, true_and, Classical.not_not, Int.reduceEq, false_implies, not_false_eq_true, not_true_eq_false, imp_false, forall_const, true_implies, tmD, ow_inT, ow_eqW, wK_number, wK_far, wK_power, wK_root, wK_times, wK_over, wflB, wfls, and_self, ow_tup, List.length_cons, List.length_nil, Nat.reduceAdd, PySem.sizeLine, Nat.reducePow, Nat.reduceLeDiff, true_and, we_root_number, we_root_root, ↓i1, ↓i2, ea, bD, m1, m2, m3, dv]
  refine ⟨fun h => ?_, fun h => ?_⟩
  · rw [if_neg (by omega)]
    refine BVe rfl ?_ rfl g
    rcases (show k = 2 ∨ k = 3 ∨ k = 4 by omega) with rfl | rfl | rfl
    all_goals
      rw [Int.fdiv_eq_ediv_of_nonneg _ (by decide), Int.fdiv_eq_ediv_of_nonneg _ (by decide)]
      dsimp only
      omega
  · rw [if_pos (by omega)]
    refine BVe ?_ rfl rfl g
    rcases (show k = 2 ∨ k = 3 ∨ k = 4 by omega) with rfl | rfl | rfl
    all_goals
      rw [Int.fdiv_eq_ediv_of_nonneg _ (by decide), Int.fdiv_eq_ediv_of_nonneg _ (by decide)]
      dsimp only
      omega
theorem S_lbits_in (t : Tm) : ∀ (L : Nat) (x : BV), bitV t = some x → TmOk t → hgt t ≤ 8 → hgt t + 3 ≤ L → run KL tb w L 13 [tmD t] g = .ok (bD x, g) := by
  induction t with
  | num q =>
    intro L x e h h8 hL
    injection e with e
    subst e
    exact lb_num hw q L h hL
  | fur wd ds => intro L x e; cases e
  | two wd a b iha ihb =>
    intro L x e h h8 hL
    have hh : hgt (.two wd a b) = max (hgt a) (hgt b) + 1 := rfl
    obtain ⟨l, rfl⟩ : ∃ l, L = l + 1 := ⟨L - 1, by omega⟩
    have e' : (match bitV a, bitV b with | some x, some y => some (twoB wd x y) | _, _ => none) = some x := e
    cases ha : bitV a with
    | none => rw [ha] at e'; cases e'
    | some u =>
      cases hb : bitV b with
      | none => rw [ha, hb] at e'; cases e'
      | some v =>
        rw [ha, hb] at e'
        injection e' with e'
        subst e'
        exact lb_two wd a b l ((bit_ok a h.1 u ha).mono (by omega)) ((bit_ok b h.2 v hb).mono (by omega)) (iha l u ha h.1 (by omega) (by omega)) (ihb l v hb h.2 (by omega) (by omega))
  | far a iha =>
    intro L x e h h8 hL
    have hh : hgt (.far a) = hgt a + 1 := rfl
    obtain ⟨l, rfl⟩ : ∃ l, L = l + 1 := ⟨L - 1, by omega⟩
    exact lb_far a l (iha l x e h (by omega) (by omega))
  | pow a k iha =>
    intro L x e h h8 hL
    have hh : hgt (.pow a k) = hgt a + 1 := rfl
    obtain ⟨l, rfl⟩ : ∃ l, L = l + 1 := ⟨L - 1, by omega⟩
    have e' : (bitV a).map (fun x => ((k : Int) * x.1, (k : Int) * x.2.1, x.2.2)) = some x := e
    cases ha : bitV a with
    | none => rw [ha] at e'; cases e'
    | some u =>
      rw [ha] at e'
      injection e' with e'
      subst e'
      exact lb_pow a k h.2 l (iha l u ha h.1 (by omega) (by omega))
  | root k a iha =>
    intro L x e h h8 hL
    have hh : hgt (.root k a) = hgt a + 1 := rfl
    obtain ⟨l, rfl⟩ : ∃ l, L = l + 1 := ⟨L - 1, by omega⟩
    have e' : (bitV a).map (rootB k) = some x := e
    cases ha : bitV a with
    | none => rw [ha] at e'; cases e'
    | some u =>
      rw [ha] at e'
      injection e' with e'
      subst e'
      exact lb_root k a h.2.1 h.2.2 l ((bit_ok a h.1 u ha).mono (by omega)) (iha l u ha h.1 (by omega) (by omega))
theorem S_lgap (t : Tm) (L : Nat) {x : BV} (e : bitV t = some x) (h : TmOk t) (h8 : hgt t ≤ 8) (hL : hgt t + 4 ≤ L) : run KL tb w L 14 [tmD t] g = .ok (.int (x.2.1 + (x.2.2 - 1) * x.1 + 1), g) := by
  obtain ⟨l, rfl⟩ : ∃ l, L = l + 1 := ⟨L - 1, by omega⟩
  have e1 := S_lbits_in (g := g) hw t l x e h h8 (by omega)
  obtain ⟨⟨a0, a1⟩, ⟨b0, b1⟩, c1⟩ := ((bit_ok t h x e).mono h8).b20
  have e1 : run KL tb w l 13 [tmD t] g = .ok (.tup [.int x.1, .int x.2.1, .int x.2.2], g) := e1
  have m1 : mulOk (x.2.2 - 1) x.1 = true := mulOk_r (by omega)
  rw [← W_eq, U_law_gap]
  simp only [t14, ↓Ep0, ↓Ep1, ↓Ep2, ↓Ep3, ↓Ep4, ↓Ep5, ↓Ep6, ↓Ep7, ↓Ep8, Eq0, Eq1, Eq2, fnW, parW, strW, ↓ws_ite, ↓ws_own_comp, ↓ws_own_lst, ↓ws_own_addL, ↓ws_own_toLst, intW, ↓ws_app, valW, ite_self, lstW, ownW, List.contains_cons, List.contains_nil, Nat.reduceBEq, Bool.true_or, Bool.or_true, Bool.false_or, if_true, if_false, Bool.false_eq_true, ↓seen, List.getElem?_cons_succ, List.getElem?_cons_zero, Int.reduceToNat, Int.reducePow, List.cons_append, List.nil_append, D.imm, List.set_cons_zero, List.set_cons_succ, unpW, setSl, and_true, true_and, Classical.not_not, Int.reduceEq, false_implies, not_false_eq_true, not_true_eq_false, imp_false, forall_const, true_implies, e1, m1]
end

end Z.Law

set_option Elab.async false
set_option linter.all false
set_option maxRecDepth 100000
set_option maxHeartbeats 4000000
namespace Z.Law
open PySem
/-! k61: terms drawn -/
section
variable {w : Nat} (hw : wB ≤ w)
include hw
theorem S_qnumber {n j c : Nat} {g : G} (h : Dr j c g) (hc : c ≤ 900000) : ∃ (q : Rat) (g' : G), run KL tb w (n + 3) 10 [.hnd j] g = .ok (tmD (.num q), g') ∧ Dr j (c + 6) g' ∧ Sq 12 q := by
  have : (run KL tb w (n + 3) 10 [.hnd j] g).W (fun a => ∃ (q : Rat) (g' : G), a = (tmD (.num q), g') ∧ Dr j (c + 6) g' ∧ Sq 12 q) noX := by
    obtain ⟨v1, g1, e1, h1, b1, b1'⟩ := S_qnext (w := w) (n := n) h (by omega) (m := 20) (by decide) (Sm.of (by decide))
    obtain ⟨v2, g2, e2, h2, b2, b2'⟩ := S_qnext (w := w) (n := n) h1 (by omega) (m := 1000) (by decide) (Sm.of (by decide))
    obtain ⟨v3, g3, e3, h3, b3, b3'⟩ := S_qnext (w := w) (n := n) h2 (by omega) (m := 2) (by decide) (Sm.of (by decide))
    obtain ⟨v4, g4, e4, h4, b4, b4'⟩ := S_qnext (w := w) (n := n) h3 (by omega) (m := 3) (by decide) (Sm.of (by decide))
    obtain ⟨v5, g5, e5, h5, b5, b5'⟩ := S_qnext (w := w) (n := n) h4 (by omega) (m := 12) (by decide) (Sm.of (by decide))
    obtain ⟨v6, g6, e6, h6, b6, b6'⟩ := S_qnext (w := w) (n := n) h5 (by omega) (m := 3) (by decide) (Sm.of (by decide))
    rw [U_law_number]
    simp only [t10, ↓Ep0, ↓Ep1, ↓Ep2, ↓Ep3, ↓Ep4, ↓Ep5, ↓Ep6, ↓Ep7, ↓Ep8, Eq0, Eq1, Eq2, fnW, parW, strW, ↓ws_ite, ↓ws_own_comp, ↓ws_own_lst, ↓ws_own_addL, ↓ws_own_toLst, intW, ↓ws_app, valW, ite_self, lstW, ownW, List.contains_cons, List.contains_nil, Nat.reduceBEq, Bool.true_or, Bool.or_true, Bool.false_or, if_true, if_false, Bool.false_eq_true, ↓seen, List.getElem?_cons_succ, List.getElem?_cons_zero, Int.reduceToNat, Int.reducePow, List.cons_append, List.nil_append, D.imm, List.set_cons_zero, List.set_cons_succ, unpW, setSl, and_true, true_and, Classical.not_not, Int.reduceEq, false_implies, not_false_eq_true, not_true_eq_false, imp_false, forall_const, true_implies, e1, e2, e3]
    refine ⟨of_decide_eq_true rfl, ?_⟩
    refine ix_all (R := fun d => ∃ t : Int, d = .int t ∧ 0 ≤ t ∧ t < 1000) b3 b3' (fun d hd => ?_) fun d hd => ?_
    · simp only [List.mem_cons, List.not_mem_nil, or_false] at hd
      rcases hd with rfl | rfl
      · exact ⟨v1, rfl, b1, by omega⟩
      · exact ⟨v2, rfl, b2, b2'⟩
    obtain ⟨t, rfl, t0, t1⟩ := hd
    simp only [↓Ep0, ↓Ep1, ↓Ep2, ↓Ep3, ↓Ep4, ↓Ep5, ↓Ep6, ↓Ep7, ↓Ep8, Eq0, Eq1, Eq2, fnW, parW, strW, ↓ws_ite, ↓ws_own_comp, ↓ws_own_lst, ↓ws_own_addL, ↓ws_own_toLst, intW, ↓ws_app, valW, ite_self, lstW, ownW, List.contains_cons, List.contains_nil, Nat.reduceBEq, Bool.true_or, Bool.or_true, Bool.false_or, if_true, if_false, Bool.false_eq_true, ↓seen, List.getElem?_cons_succ, List.getElem?_cons_zero, Int.reduceToNat, Int.reducePow, List.cons_append, List.nil_append, D.imm, List.set_cons_zero, List.set_cons_succ, unpW, setSl, and_true, true_and, Classical.not_not, Int.reduceEq, false_implies, not_false_eq_true, not_true_eq_false, imp_false, forall_const, true_implies, e4]
    refine ⟨of_decide_eq_true rfl, ?_⟩
    refine ix_all (R := fun d => d = .int 1 ∨ d = .int (-1)) b4 b4' (fun d hd => ?_) fun d hd => ?_
    · simp only [List.mem_cons, List.not_mem_nil, or_false] at hd
      rcases hd with rfl | rfl | rfl
      · exact .inl rfl
      · exact .inl rfl
      · exact .inr rfl
    obtain ⟨u, rfl, u1⟩ : ∃ u : Int, d = .int u ∧ (u = 1 ∨ u = -1) := by
      rcases hd with rfl | rfl
      · exact ⟨1, rfl, .inl rfl⟩
      · exact ⟨-1, rfl, .inr rfl⟩
    have mk : mulOk t u = true := mulOk_l (by omega)
    simp only [↓Ep0, ↓Ep1, ↓Ep2, ↓Ep3, ↓Ep4, ↓Ep5, ↓Ep6, ↓Ep7, ↓Ep8, Eq0, Eq1, Eq2, fnW, parW, strW, ↓ws_ite, ↓ws_own_comp, ↓ws_own_lst, ↓ws_own_addL, ↓ws_own_toLst, intW, ↓ws_app, valW, ite_self, lstW, ownW, List.contains_cons, List.contains_nil, Nat.reduceBEq, Bool.true_or, Bool.or_true, Bool.false_or, if_true, if_false, Bool.false_eq_true, ↓seen, List.getElem?_cons_succ, List.getElem?_cons_zero, Int.reduceToNat, Int.reducePow, List.cons_append, List.nil_append, D.imm, List.set_cons_zero, List.set_cons_succ, unpW, setSl, and_true, true_and, Classical.not_not, Int.reduceEq, false_implies, not_false_eq_true, not_true_eq_false, imp_false, forall_const, true_implies, mk, e5, e6]
    refine ⟨of_decide_eq_true rfl, ?_⟩
    refine ix_all (R := fun d => ∃ s : Int, d = .int s ∧ 1 ≤ s ∧ s ≤ 12) b6 b6' (fun d hd => ?_) fun d hd => ?_
    · simp only [List.mem_cons, List.not_mem_nil, or_false] at hd
      rcases hd with rfl | rfl | rfl
      · exact ⟨1, rfl, by decide, by decide⟩
      · exact ⟨1, rfl, by decide, by decide⟩
      · exact ⟨1 + v5, rfl, by omega, by omega⟩
    obtain ⟨s, rfl, s1, s2⟩ := hd
    have tu : (t * u).natAbs < 1000 := by rcases u1 with rfl | rfl <;> omega
    have eL := S_least (n := n + 1) (g := g6) hw (t * u) s (by omega) (Sm.mono (n := 10) (by decide) (by unfold Sm; omega))
    simp only [↓Ep0, ↓Ep1, ↓Ep2, ↓Ep3, ↓Ep4, ↓Ep5, ↓Ep6, ↓Ep7, ↓Ep8, Eq0, Eq1, Eq2, fnW, parW, strW, ↓ws_ite, ↓ws_own_comp, ↓ws_own_lst, ↓ws_own_addL, ↓ws_own_toLst, intW, ↓ws_app, valW, ite_self, lstW, ownW, List.contains_cons, List.contains_nil, Nat.reduceBEq, Bool.true_or, Bool.or_true, Bool.false_or, if_true, if_false, Bool.false_eq_true, ↓seen, List.getElem?_cons_succ, List.getElem?_cons_zero, Int.reduceToNat, Int.reducePow, List.cons_append, List.nil_append, D.imm, List.set_cons_zero, List.set_cons_succ, unpW, setSl, and_true, true_and, Classical.not_not, Int.reduceEq, false_implies, not_false_eq_true, not_true_eq_false, imp_false, forall_const, true_implies, eL]
    exact ⟨_, g6, rfl, h6, Sq_q (n := 12) (m := 12) (by unfold Sm; omega) (by unfold Sm; omega) (by omega) (Nat.le_refl _)⟩
  obtain ⟨a, e, q, g', h1, h2⟩ := W_ex this
  exact ⟨q, g', h1 ▸ e, h2⟩
end

end Z.Law

set_option Elab.async false
set_option linter.all false
set_option maxRecDepth 100000
set_option maxHeartbeats 4000000
namespace Z.Law
open PySem
/-! k61: terms drawn, spoilt -/
def Cn : Nat → Nat
  | 0 => 8
  | d + 1 => 2 * Cn d + 8
theorem Cn_pos : ∀ d, 8 ≤ Cn d
  | 0 => Nat.le_refl _
  | d + 1 => by show 8 ≤ 2 * Cn d + 8; omega
/-- a term without further ones -/
def Wh (t : Tm) : Prop := ∃ x, bitV t = some x
theorem Wh.two {wd : Wd} {a b : Tm} (h : Wh a) (k : Wh b) : Wh (.two wd a b) := by
  obtain ⟨x, hx⟩ := h
  obtain ⟨y, hy⟩ := k
  exact ⟨twoB wd x y, by show (match bitV a, bitV b with | some x, some y => some (twoB wd x y) | _, _ => none) = _; rw [hx, hy]⟩
theorem Wh.far {a : Tm} (h : Wh a) : Wh (.far a) := h
theorem Wh.pow {a : Tm} {k : Nat} (h : Wh a) : Wh (.pow a k) := by
  obtain ⟨x, hx⟩ := h
  exact ⟨_, by show (bitV a).map _ = _; rw [hx]; rfl⟩
theorem Wh.root {a : Tm} {k : Nat} (h : Wh a) : Wh (.root k a) := by
  obtain ⟨x, hx⟩ := h
  exact ⟨_, by show (bitV a).map _ = _; rw [hx]; rfl⟩
theorem Wh.num (q : Rat) : Wh (.num q) := ⟨_, rfl⟩
section
variable {w : Nat} (hw : wB ≤ w)
include hw
theorem S_qterm (d : Nat) : ∀ (L : Nat), d + 4 ≤ L → ∀ {j c : Nat} {g : G}, Dr j c g → c + Cn d ≤ 900000 → ∃ (t : Tm) (g' : G), run KL tb w L 11 [.hnd j, .int d] g = .ok (tmD t, g') ∧ Dr j (c + Cn d) g' ∧ TmOk t ∧ hgt t ≤ max 1 d ∧ Wh t := by
  induction d with
  | zero =>
    intro L hL j c g h hc
    obtain ⟨l, rfl⟩ : ∃ l, L = l + 4 := ⟨L - 4, by omega⟩
    have hc : c + 8 ≤ 900000 := hc
    obtain ⟨v, g1, e1, h1, b1, b1'⟩ := S_qnext (w := w) (n := l + 1) h (by omega) (m := 11) (by decide) (Sm.of (by decide))
    obtain ⟨q, g2, e2, h2, sq⟩ := S_qnumber (n := l) hw h1 (by omega)
    have : (run KL tb w (l + 4) 11 [.hnd j, .int (0 : Nat)] g).W (fun a => a = (tmD (.num q), g2)) noX := by
      rw [U_law_term]
      simp only [t11, ↓Ep0, ↓Ep1, ↓Ep2, ↓Ep3, ↓Ep4, ↓Ep5, ↓Ep6, ↓Ep7, ↓Ep8, Eq0, Eq1, Eq2, fnW, parW, strW, ↓ws_ite, ↓ws_own_comp, ↓ws_own_lst, ↓ws_own_addL, ↓ws_own_toLst, intW, ↓ws_app, valW, ite_self, lstW, ownW, List.contains_cons, List.contains_nil, Nat.reduceBEq, Bool.true_or, Bool.or_true, Bool.false_or, if_true, if_false, Bool.false_eq_true, ↓seen, List.getElem?_cons_succ, List.getElem?_cons_zero, Int.reduceToNat, Int.reducePow, List.cons_append, List.nil_append, D.imm, List.set_cons_zero, List.set_cons_succ, unpW, setSl, and_true, true_and, Classical.not_not, Int.reduceEq, false_implies, not_false_eq_true, not_true_eq_false, imp_false, forall_const, true_implies, e1, e2]
      refine ⟨fun _ => trivial, fun z => absurd (by decide) z⟩
    obtain ⟨a, e, rfl⟩ := W_ex this
    exact ⟨.num q, g2, e, h2.mono (by show _ ≤ c + 8; omega), sq, by show 1 ≤ _; omega, Wh.num q⟩
  | succ d ih =>
    intro L hL j c g h hc
    obtain ⟨l, rfl⟩ : ∃ l, L = l + 5 := ⟨L - 5, by omega⟩
    have hC : Cn (d + 1) = 2 * Cn d + 8 := rfl
    have hp := Cn_pos d
    have : (run KL tb w (l + 5) 11 [.hnd j, .int ((d + 1 : Nat) : Int)] g).W (fun a => ∃ (t : Tm) (g' : G), a = (tmD t, g') ∧ Dr j (c + Cn (d + 1)) g' ∧ TmOk t ∧ hgt t ≤ max 1 (d + 1) ∧ Wh t) noX := by
      obtain ⟨v, g1, e1, h1, b1, b1'⟩ := S_qnext (w := w) (n := l + 2) h (by omega) (m := 11) (by decide) (Sm.of (by decide))
      obtain ⟨q, g2, e2, h2, sq⟩ := S_qnumber (n := l + 1) hw h1 (by omega)
      obtain ⟨ta, ga, ea, ha, ka, la, wa⟩ := ih (l + 4) (by omega) h1 (by omega)
      obtain ⟨tc, gc, ec, hc', kc, lc, wc⟩ := ih (l + 4) (by omega) ha (by omega)
      obtain ⟨v30, g30, e30, h30, b30, b30'⟩ := S_qnext (w := w) (n := l + 2) ha (by omega) (m := 30) (by decide) (Sm.of (by decide))
      obtain ⟨v4, g4, e4, h4, b4, b4'⟩ := S_qnext (w := w) (n := l + 2) ha (by omega) (m := 4) (by decide) (Sm.of (by decide))
      obtain ⟨v3, g3, e3, h3, b3, b3'⟩ := S_qnext (w := w) (n := l + 2) h1 (by omega) (m := 3) (by decide) (Sm.of (by decide))
      obtain ⟨tr, gr, er, hr, kr, lr, wr⟩ := ih (l + 4) (by omega) h3 (by omega)
      have ed : ((d + 1 : Nat) : Int) - 1 = (d : Int) := by omega
      have nm : ∃ (t : Tm) (g' : G), (tmD (.num q), g2) = (tmD t, g') ∧ Dr j (c + Cn (d + 1)) g' ∧ TmOk t ∧ hgt t ≤ max 1 (d + 1) ∧ Wh t := ⟨.num q, g2, rfl, h2.mono (by omega), sq, by show 1 ≤ _; omega, Wh.num q⟩
      rw [U_law_term]
      simp only [t11, ↓Ep0, ↓Ep1, ↓Ep2, ↓Ep3, ↓Ep4, ↓Ep5, ↓Ep6, ↓Ep7, ↓Ep8, Eq0, Eq1, Eq2, fnW, parW, strW, ↓ws_ite, ↓ws_own_comp, ↓ws_own_lst, ↓ws_own_addL, ↓ws_own_toLst, intW, ↓ws_app, valW, ite_self, lstW, ownW, List.contains_cons, List.contains_nil, Nat.reduceBEq, Bool.true_or, Bool.or_true, Bool.false_or, if_true, if_false, Bool.false_eq_true, ↓seen, List.getElem?_cons_succ, List.getElem?_cons_zero, Int.reduceToNat, Int.reducePow, List.cons_append, List.nil_append, D.imm, List.set_cons_zero, List.set_cons_succ, unpW, setSl, and_true, true_and, Classical.not_not, Int.reduceEq, false_implies, not_false_eq_true, not_true_eq_false, imp_false, forall_const, true_implies, e1, e2, ed, ea]
      refine ⟨fun _ => nm, fun hd2 => ⟨fun _ => nm, fun hv2 => ⟨fun hv7 => ?_, fun hv7 => ?_⟩⟩⟩
      · refine ⟨of_decide_eq_true rfl, ?_⟩
        refine ix_all (R := fun d => ∃ wd : Wd, d = .str wd.s) (by omega) (by show v - 2 < 5; omega) (fun d hd => ?_) fun d hd => ?_
        · simp only [List.mem_cons, List.not_mem_nil, or_false] at hd
          rcases hd with rfl | rfl | rfl | rfl | rfl
          · exact ⟨.plus, rfl⟩
          · exact ⟨.less, rfl⟩
          · exact ⟨.times, rfl⟩
          · exact ⟨.least, rfl⟩
          · exact ⟨.most, rfl⟩
        obtain ⟨wd, rfl⟩ := hd
        simp only [↓Ep0, ↓Ep1, ↓Ep2, ↓Ep3, ↓Ep4, ↓Ep5, ↓Ep6, ↓Ep7, ↓Ep8, Eq0, Eq1, Eq2, fnW, parW, strW, ↓ws_ite, ↓ws_own_comp, ↓ws_own_lst, ↓ws_own_addL, ↓ws_own_toLst, intW, ↓ws_app, valW, ite_self, lstW, ownW, List.contains_cons, List.contains_nil, Nat.reduceBEq, Bool.true_or, Bool.or_true, Bool.false_or, if_true, if_false, Bool.false_eq_true, ↓seen, List.getElem?_cons_succ, List.getElem?_cons_zero, Int.reduceToNat, Int.reducePow, List.cons_append, List.nil_append, D.imm, List.set_cons_zero, List.set_cons_succ, unpW, setSl, and_true, true_and, Classical.not_not, Int.reduceEq, false_implies, not_false_eq_true, not_true_eq_false, imp_false, forall_const, true_implies, ec, ow_tup, List.length_cons, List.length_nil, Nat.reduceAdd, PySem.sizeLine, Nat.reducePow, Nat.reduceLeDiff, true_and]
        exact ⟨.two wd ta tc, gc, rfl, hc'.mono (by omega), ⟨ka, kc⟩, by show max (hgt ta) (hgt tc) + 1 ≤ _; omega, wa.two wc⟩
      · refine ⟨fun h7 => ?_, fun h7 => ?_⟩
        · simp only [↓Ep0, ↓Ep1, ↓Ep2, ↓Ep3, ↓Ep4, ↓Ep5, ↓Ep6, ↓Ep7, ↓Ep8, Eq0, Eq1, Eq2, fnW, parW, strW, ↓ws_ite, ↓ws_own_comp, ↓ws_own_lst, ↓ws_own_addL, ↓ws_own_toLst, intW, ↓ws_app, valW, ite_self, lstW, ownW, List.contains_cons, List.contains_nil, Nat.reduceBEq, Bool.true_or, Bool.or_true, Bool.false_or, if_true, if_false, Bool.false_eq_true, ↓seen, List.getElem?_cons_succ, List.getElem?_cons_zero, Int.reduceToNat, Int.reducePow, List.cons_append, List.nil_append, D.imm, List.set_cons_zero, List.set_cons_succ, unpW, setSl, and_true, true_and, Classical.not_not, Int.reduceEq, false_implies, not_false_eq_true, not_true_eq_false, imp_false, forall_const, true_implies, e30, ow_tup, List.length_cons, List.length_nil, Nat.reduceAdd, PySem.sizeLine, Nat.reducePow, Nat.reduceLeDiff, true_and]
          exact ⟨.two .over ta (.num ((1 + v30 : Int) : Rat)), g30, rfl, h30.mono (by omega), ⟨ka, show Sm 12 (1 + v30) by unfold Sm; omega, show Sm 12 1 from Sm.of (by decide)⟩, by show max (hgt ta) 1 + 1 ≤ _; omega, wa.two (Wh.num _)⟩
        · refine ⟨fun h8 => ?_, fun h8 => ⟨fun h9 => ?_, fun h9 => ?_⟩⟩
          · exact ⟨.far ta, ga, rfl, ha.mono (by omega), ka, by show hgt ta + 1 ≤ _; omega, wa.far⟩
          · simp only [↓Ep0, ↓Ep1, ↓Ep2, ↓Ep3, ↓Ep4, ↓Ep5, ↓Ep6, ↓Ep7, ↓Ep8, Eq0, Eq1, Eq2, fnW, parW, strW, ↓ws_ite, ↓ws_own_comp, ↓ws_own_lst, ↓ws_own_addL, ↓ws_own_toLst, intW, ↓ws_app, valW, ite_self, lstW, ownW, List.contains_cons, List.contains_nil, Nat.reduceBEq, Bool.true_or, Bool.or_true, Bool.false_or, if_true, if_false, Bool.false_eq_true, ↓seen, List.getElem?_cons_succ, List.getElem?_cons_zero, Int.reduceToNat, Int.reducePow, List.cons_append, List.nil_append, D.imm, List.set_cons_zero, List.set_cons_succ, unpW, setSl, and_true, true_and, Classical.not_not, Int.reduceEq, false_implies, not_false_eq_true, not_true_eq_false, imp_false, forall_const, true_implies, e4, ow_tup, List.length_cons, List.length_nil, Nat.reduceAdd, PySem.sizeLine, Nat.reducePow, Nat.reduceLeDiff, true_and]
            obtain ⟨k4, rfl⟩ : ∃ k4 : Nat, v4 = (k4 : Int) := ⟨v4.toNat, by omega⟩
            exact ⟨.pow ta k4, g4, rfl, h4.mono (by omega), ⟨ka, by omega⟩, by show hgt ta + 1 ≤ _; omega, wa.pow⟩
          · simp only [↓Ep0, ↓Ep1, ↓Ep2, ↓Ep3, ↓Ep4, ↓Ep5, ↓Ep6, ↓Ep7, ↓Ep8, Eq0, Eq1, Eq2, fnW, parW, strW, ↓ws_ite, ↓ws_own_comp, ↓ws_own_lst, ↓ws_own_addL, ↓ws_own_toLst, intW, ↓ws_app, valW, ite_self, lstW, ownW, List.contains_cons, List.contains_nil, Nat.reduceBEq, Bool.true_or, Bool.or_true, Bool.false_or, if_true, if_false, Bool.false_eq_true, ↓seen, List.getElem?_cons_succ, List.getElem?_cons_zero, Int.reduceToNat, Int.reducePow, List.cons_append, List.nil_append, D.imm, List.set_cons_zero, List.set_cons_succ, unpW, setSl, and_true, true_and, Classical.not_not, Int.reduceEq, false_implies, not_false_eq_true, not_true_eq_false, imp_false, forall_const, true_implies, e3, ed, er, ow_tup, List.length_cons, List.length_nil, Nat.reduceAdd, PySem.sizeLine, Nat.reducePow, Nat.reduceLeDiff, true_and]
            obtain ⟨k3, hk3⟩ : ∃ k3 : Nat, 2 + v3 = (k3 : Int) := ⟨(2 + v3).toNat, by omega⟩
            rw [hk3]
            exact ⟨.root k3 tr, gr, rfl, hr.mono (by omega), ⟨kr, by omega, by omega⟩, by show hgt tr + 1 ≤ _; omega, wr.root⟩
    obtain ⟨a, e, t, g', h1, h2⟩ := W_ex this
    exact ⟨t, g', h1 ▸ e, h2⟩
theorem S_qfurther {n j c : Nat} {g : G} (h : Dr j c g) (hc : c ≤ 800000) : ∃ (t : Tm) (g' : G), run KL tb w (n + 4) 15 [.hnd j] g = .ok (tmD t, g') ∧ Dr j (c + 14) g' ∧ TmOk t ∧ hgt t = 1 ∧ bitV t = none := by
  have : (run KL tb w (n + 4) 15 [.hnd j] g).W (fun a => ∃ (t : Tm) (g' : G), a = (tmD t, g') ∧ Dr j (c + 14) g' ∧ TmOk t ∧ hgt t = 1 ∧ bitV t = none) noX := by
    obtain ⟨v, g1, e1, h1, b1, b1'⟩ := S_qnext (w := w) (n := n + 1) h (by omega) (m := 9) (by decide) (Sm.of (by decide))
    obtain ⟨q, g2, e2, h2, sq⟩ := S_qnumber (n := n) hw h1 (by omega)
    obtain ⟨q3, g3, e3, h3, sq3⟩ := S_qnumber (n := n) hw h2 (by omega)
    obtain ⟨v4, g4, e4, h4, b4, b4'⟩ := S_qnext (w := w) (n := n + 1) h3 (by omega) (m := 5) (by decide) (Sm.of (by decide))
    have im : ∀ q : Rat, (tmD (.num q)).imm = true := fun q => rfl
    have ag : ∀ (rd : List Nat) (q : Rat) (i : Nat) (ρ : List Sl), afterG rd (tmD (.num q)) i ρ = ρ := fun rd q i ρ => rfl
    rw [U_law_further]
    simp only [t15, ↓Ep0, ↓Ep1, ↓Ep2, ↓Ep3, ↓Ep4, ↓Ep5, ↓Ep6, ↓Ep7, ↓Ep8, Eq0, Eq1, Eq2, fnW, parW, strW, ↓ws_ite, ↓ws_own_comp, ↓ws_own_lst, ↓ws_own_addL, ↓ws_own_toLst, intW, ↓ws_app, valW, ite_self, lstW, ownW, List.contains_cons, List.contains_nil, Nat.reduceBEq, Bool.true_or, Bool.or_true, Bool.false_or, if_true, if_false, Bool.false_eq_true, ↓seen, List.getElem?_cons_succ, List.getElem?_cons_zero, Int.reduceToNat, Int.reducePow, List.cons_append, List.nil_append, D.imm, List.set_cons_zero, List.set_cons_succ, unpW, setSl, and_true, true_and, Classical.not_not, Int.reduceEq, false_implies, not_false_eq_true, not_true_eq_false, imp_false, forall_const, true_implies, e1, e2, e3, e4, ow_tup, List.length_cons, List.length_nil, Nat.reduceAdd, PySem.sizeLine, Nat.reducePow, Nat.reduceLeDiff, true_and, ag]
    refine ix_all (R := fun d => ∃ t : Tm, d = tmD t ∧ TmOk t ∧ hgt t = 1 ∧ bitV t = none) b4 b4' (fun d hd => ?_) fun d hd => ?_
    · simp only [List.mem_cons, List.not_mem_nil, or_false] at hd
      rcases hd with rfl | rfl | rfl | rfl | rfl
      · exact ⟨.fur "value" _, rfl, .inr (.inl rfl), rfl, rfl⟩
      · exact ⟨.fur "turned" _, rfl, .inr (.inr (.inl rfl)), rfl, rfl⟩
      · exact ⟨.fur "area" _, rfl, .inr (.inr (.inr (.inl rfl))), rfl, rfl⟩
      · exact ⟨.fur "name" _, rfl, .inl rfl, rfl, rfl⟩
      · exact ⟨.fur "endless" _, rfl, .inr (.inr (.inr (.inr rfl))), rfl, rfl⟩
    obtain ⟨t, rfl, k1, k2, k3⟩ := hd
    exact ⟨t, g4, rfl, h4.mono (by omega), k1, k2, k3⟩
  obtain ⟨a, e, t, g', h1, h2⟩ := W_ex this
  exact ⟨t, g', h1 ▸ e, h2⟩
omit hw in
theorem isT (t : Tm) : P.sem KL .isinst [tmD t, .ty "tuple"] = some (.bl true) := by cases t <;> rfl
omit hw in
theorem isTn (k : Nat) : P.sem KL .isinst [.int k, .ty "tuple"] = some (.bl false) := rfl
omit hw in
theorem isTw (s : Str) : P.sem KL .isinst [.str s, .ty "tuple"] = some (.bl false) := rfl
omit hw in
/-- a further one for a drawn number -/
theorem S_qwith (m : Tm) (hm : TmOk m) (m1 : hgt m = 1) (mn : bitV m = none) (t : Tm) : ∀ (L : Nat), hgt t + 3 ≤ L → ∀ {j c : Nat} {g : G}, Dr j c g → c + hgt t ≤ 900000 → TmOk t → Wh t → ∃ (t' : Tm) (g' : G), run KL tb w L 16 [.hnd j, tmD t, tmD m] g = .ok (tmD t', g') ∧ Dr j (c + hgt t) g' ∧ TmOk t' ∧ hgt t' ≤ hgt t ∧ bitV t' = none := by
  have r2 : Ik.items .rng [.int 1, .int ((2 : Nat) : Int)] = some [.int 1] := rfl
  have r3 : Ik.items .rng [.int 1, .int ((3 : Nat) : Int)] = some [.int 1, .int 2] := rfl
  have c1 : ∀ x y : D, cutD [x, y] none (some 1) = [x] := fun x y => rfl
  have c2 : ∀ x y : D, cutD [x, y] (some (1 + 1)) none = [] := fun x y => rfl
  have c3 : ∀ x y z : D, cutD [x, y, z] none (some 1) = [x] := fun x y z => rfl
  have c4 : ∀ x y z : D, cutD [x, y, z] (some (1 + 1)) none = [z] := fun x y z => rfl
  have c5 : ∀ x y z : D, cutD [x, y, z] none (some 2) = [x, y] := fun x y z => rfl
  have c6 : ∀ x y z : D, cutD [x, y, z] (some (2 + 1)) none = [] := fun x y z => rfl
  have t1 : ∀ (d : D) (Q : D → Prop), OW (P.sem KL .mkTup [d]) Q = Q (.tup [d]) := fun d Q => by
    have e : P.sem KL .mkTup [d] = some (.tup [d]) := rfl
    rw [e, OW_some]
  have i1 : ∀ (x y z : D) (Q : D → Prop), OW (P.sem KL .ix [.tup [x, y, z], .int 1]) Q = Q y := fun x y z Q => by
    have e : P.sem KL .ix [.tup [x, y, z], .int 1] = some y := rfl
    rw [e, OW_some]
  have i2 : ∀ (x y z : D) (Q : D → Prop), OW (P.sem KL .ix [.tup [x, y, z], .int 2]) Q = Q z := fun x y z Q => by
    have e : P.sem KL .ix [.tup [x, y, z], .int 2] = some z := rfl
    rw [e, OW_some]
  have j0 : ∀ (x y : D) (Q : D → Prop), OW (P.sem KL .ix [.tup [x, y], .int 0]) Q = Q x := fun x y Q => ow_ix0 _ _
  have j1 : ∀ (x y : D) (Q : D → Prop), OW (P.sem KL .ix [.tup [x, y], .int 1]) Q = Q y := fun x y Q => ow_ix1 _ _ _
  have k0 : ∀ (x y z : D) (Q : D → Prop), OW (P.sem KL .ix [.tup [x, y, z], .int 0]) Q = Q x := fun x y z Q => by
    have e : P.sem KL .ix [.tup [x, y, z], .int 0] = some x := rfl
    rw [e, OW_some]
  induction t with
  | num q =>
    intro L hL j c g h hc ok hwh
    obtain ⟨l, rfl⟩ : ∃ l, L = l + 1 := ⟨L - 1, by have : hgt (.num q) = 1 := rfl; omega⟩
    refine ⟨m, g, ?_, h.mono (by omega), hm, by rw [m1]; exact Nat.le_refl _, mn⟩
    rw [← W_eq, U_law_with]
    simp only [t16, ↓Ep0, ↓Ep1, ↓Ep2, ↓Ep3, ↓Ep4, ↓Ep5, ↓Ep6, ↓Ep7, ↓Ep8, Eq0, Eq1, Eq2, fnW, parW, strW, ↓ws_ite, ↓ws_own_comp, ↓ws_own_lst, ↓ws_own_addL, ↓ws_own_toLst, intW, ↓ws_app, valW, ite_self, lstW, ownW, List.contains_cons, List.contains_nil, Nat.reduceBEq, Bool.true_or, Bool.or_true, Bool.false_or, if_true, if_false, Bool.false_eq_true, ↓seen, List.getElem?_cons_succ, List.getElem?_cons_zero, Int.reduceToNat, Int.reducePow, List.cons_append, List.nil_append, D.imm, List.set_cons_zero, List.set_cons_succ, unpW, setSl, and_true, true_and, Classical.not_not, Int.reduceEq, false_implies, not_false_eq_true, not_true_eq_false, imp_false, forall_const, true_implies, tmD, ow_eqW, ↓j0, wK_number, we_number_number, and_self]
  | fur wd ds =>
    intro L hL j c g h hc ok hwh
    obtain ⟨x, hx⟩ := hwh
    cases hx
  | far a iha =>
    intro L hL j c g h hc ok hwh
    have hh : hgt (.far a) = hgt a + 1 := rfl
    obtain ⟨l, rfl⟩ : ∃ l, L = l + 3 := ⟨L - 3, by omega⟩
    have : (run KL tb w (l + 3) 16 [.hnd j, tmD (.far a), tmD m] g).W (fun r => ∃ (t' : Tm) (g' : G), r = (tmD t', g') ∧ Dr j (c + hgt (.far a)) g' ∧ TmOk t' ∧ hgt t' ≤ hgt (.far a) ∧ bitV t' = none) noX := by
      obtain ⟨v, g1, e1, h1, b1, b1'⟩ := S_qnext (w := w) (n := l) h (by omega) (m := ((1 : Nat) : Int)) (by decide) (Sm.of (by decide))
      have wa : Wh a := by
        obtain ⟨x, hx⟩ := hwh
        cases ha : bitV a with
        | some u => exact ⟨u, ha⟩
        | none =>
          have : bitV (.far a) = none := by show bitV a = _; rw [ha]
          rw [this] at hx; cases hx
      obtain ⟨ta, g2, e2, h2, k2, l2, n2⟩ := iha (l + 2) (by omega) h1 (by omega) ok wa
      rw [U_law_with]
      simp only [t16, ↓Ep0, ↓Ep1, ↓Ep2, ↓Ep3, ↓Ep4, ↓Ep5, ↓Ep6, ↓Ep7, ↓Ep8, Eq0, Eq1, Eq2, fnW, parW, strW, ↓ws_ite, ↓ws_own_comp, ↓ws_own_lst, ↓ws_own_addL, ↓ws_own_toLst, intW, ↓ws_app, valW, ite_self, lstW, ownW, List.contains_cons, List.contains_nil, Nat.reduceBEq, Bool.true_or, Bool.or_true, Bool.false_or, if_true, if_false, Bool.false_eq_true, ↓seen, List.getElem?_cons_succ, List.getElem?_cons_zero, Int.reduceToNat, Int.reducePow, List.cons_append, List.nil_append, D.imm, List.set_cons_zero, List.set_cons_succ, unpW, setSl, and_true, true_and, Classical.not_not, Int.reduceEq, false_implies, not_false_eq_true, not_true_eq_false, imp_false, forall_const, true_implies, tmD, ow_eqW, ↓j0, ↓j1, ↓k0, ↓i1, ↓i2, wK_number, wK_far, we_far_number, and_self, List.length_cons, List.length_nil, Nat.reduceAdd, PySem.sizeLine, Nat.reducePow, Nat.reduceLeDiff, true_and, r2, ↓we_comp, ↓turns_cons, ↓turns_nil, ↓we_turn, Tg.bind, Tg.slots, wipeSl, addO, isT, isTn, e1]
      refine ix_all (R := fun d => d = .int 1) b1 b1' (fun d hd => by simpa only [List.mem_cons, List.not_mem_nil, or_false] using hd) fun d hd => ?_
      subst hd
      simp only [↓Ep0, ↓Ep1, ↓Ep2, ↓Ep3, ↓Ep4, ↓Ep5, ↓Ep6, ↓Ep7, ↓Ep8, Eq0, Eq1, Eq2, fnW, parW, strW, ↓ws_ite, ↓ws_own_comp, ↓ws_own_lst, ↓ws_own_addL, ↓ws_own_toLst, intW, ↓ws_app, valW, ite_self, lstW, ownW, List.contains_cons, List.contains_nil, Nat.reduceBEq, Bool.true_or, Bool.or_true, Bool.false_or, if_true, if_false, Bool.false_eq_true, ↓seen, List.getElem?_cons_succ, List.getElem?_cons_zero, Int.reduceToNat, Int.reducePow, List.cons_append, List.nil_append, D.imm, List.set_cons_zero, List.set_cons_succ, unpW, setSl, and_true, true_and, Classical.not_not, Int.reduceEq, false_implies, not_false_eq_true, not_true_eq_false, imp_false, forall_const, true_implies, ow_eqW, ↓j0, ↓j1, ↓k0, ↓i1, ↓i2, ↓t1, c1, c2, c3, c4, c5, c6, e2, List.length_cons, List.length_nil, Nat.reduceAdd, PySem.sizeLine, Nat.reducePow, Nat.reduceLeDiff, true_and]
      exact ⟨.far ta, g2, rfl, h2.mono (by omega), k2, by show hgt ta + 1 ≤ hgt a + 1; omega, n2⟩
    obtain ⟨r, e, t', g', h1, h2⟩ := W_ex this
    exact ⟨t', g', h1 ▸ e, h2⟩
  | pow a k iha =>
    intro L hL j c g h hc ok hwh
    have hh : hgt (.pow a k) = hgt a + 1 := rfl
    obtain ⟨l, rfl⟩ : ∃ l, L = l + 3 := ⟨L - 3, by omega⟩
    have : (run KL tb w (l + 3) 16 [.hnd j, tmD (.pow a k), tmD m] g).W (fun r => ∃ (t' : Tm) (g' : G), r = (tmD t', g') ∧ Dr j (c + hgt (.pow a k)) g' ∧ TmOk t' ∧ hgt t' ≤ hgt (.pow a k) ∧ bitV t' = none) noX := by
      obtain ⟨v, g1, e1, h1, b1, b1'⟩ := S_qnext (w := w) (n := l) h (by omega) (m := ((1 : Nat) : Int)) (by decide) (Sm.of (by decide))
      have wa : Wh a := by
        obtain ⟨x, hx⟩ := hwh
        cases ha : bitV a with
        | some u => exact ⟨u, ha⟩
        | none =>
          have : bitV (.pow a k) = none := by show (bitV a).map _ = _; rw [ha]; rfl
          rw [this] at hx; cases hx
      obtain ⟨ta, g2, e2, h2, k2, l2, n2⟩ := iha (l + 2) (by omega) h1 (by omega) ok.1 wa
      rw [U_law_with]
      simp only [t16, ↓Ep0, ↓Ep1, ↓Ep2, ↓Ep3, ↓Ep4, ↓Ep5, ↓Ep6, ↓Ep7, ↓Ep8, Eq0, Eq1, Eq2, fnW, parW, strW, ↓ws_ite, ↓ws_own_comp, ↓ws_own_lst, ↓ws_own_addL, ↓ws_own_toLst, intW, ↓ws_app, valW, ite_self, lstW, ownW, List.contains_cons, List.contains_nil, Nat.reduceBEq, Bool.true_or, Bool.or_true, Bool.false_or, if_true, if_false, Bool.false_eq_true, ↓seen, List.getElem?_cons_succ, List.getElem?_cons_zero, Int.reduceToNat, Int.reducePow, List.cons_append, List.nil_append, D.imm, List.set_cons_zero, List.set_cons_succ, unpW, setSl, and_true, true_and, Classical.not_not, Int.reduceEq, false_implies, not_false_eq_true, not_true_eq_false, imp_false, forall_const, true_implies, tmD, ow_eqW, ↓j0, ↓j1, ↓k0, ↓i1, ↓i2, wK_number, wK_power, we_power_number, and_self, List.length_cons, List.length_nil, Nat.reduceAdd, PySem.sizeLine, Nat.reducePow, Nat.reduceLeDiff, true_and, r3, ↓we_comp, ↓turns_cons, ↓turns_nil, ↓we_turn, Tg.bind, Tg.slots, wipeSl, addO, isT, isTn, e1]
      refine ix_all (R := fun d => d = .int 1) b1 b1' (fun d hd => by simpa only [List.mem_cons, List.not_mem_nil, or_false] using hd) fun d hd => ?_
      subst hd
      simp only [↓Ep0, ↓Ep1, ↓Ep2, ↓Ep3, ↓Ep4, ↓Ep5, ↓Ep6, ↓Ep7, ↓Ep8, Eq0, Eq1, Eq2, fnW, parW, strW, ↓ws_ite, ↓ws_own_comp, ↓ws_own_lst, ↓ws_own_addL, ↓ws_own_toLst, intW, ↓ws_app, valW, ite_self, lstW, ownW, List.contains_cons, List.contains_nil, Nat.reduceBEq, Bool.true_or, Bool.or_true, Bool.false_or, if_true, if_false, Bool.false_eq_true, ↓seen, List.getElem?_cons_succ, List.getElem?_cons_zero, Int.reduceToNat, Int.reducePow, List.cons_append, List.nil_append, D.imm, List.set_cons_zero, List.set_cons_succ, unpW, setSl, and_true, true_and, Classical.not_not, Int.reduceEq, false_implies, not_false_eq_true, not_true_eq_false, imp_false, forall_const, true_implies, ow_eqW, ↓j0, ↓j1, ↓k0, ↓i1, ↓i2, ↓t1, c1, c2, c3, c4, c5, c6, e2, List.length_cons, List.length_nil, Nat.reduceAdd, PySem.sizeLine, Nat.reducePow, Nat.reduceLeDiff, true_and]
      exact ⟨.pow ta k, g2, rfl, h2.mono (by omega), ⟨k2, ok.2⟩, by show hgt ta + 1 ≤ hgt a + 1; omega, by show (bitV ta).map _ = none; rw [n2]; rfl⟩
    obtain ⟨r, e, t', g', h1, h2⟩ := W_ex this
    exact ⟨t', g', h1 ▸ e, h2⟩
  | root k a iha =>
    intro L hL j c g h hc ok hwh
    have hh : hgt (.root k a) = hgt a + 1 := rfl
    obtain ⟨l, rfl⟩ : ∃ l, L = l + 3 := ⟨L - 3, by omega⟩
    have : (run KL tb w (l + 3) 16 [.hnd j, tmD (.root k a), tmD m] g).W (fun r => ∃ (t' : Tm) (g' : G), r = (tmD t', g') ∧ Dr j (c + hgt (.root k a)) g' ∧ TmOk t' ∧ hgt t' ≤ hgt (.root k a) ∧ bitV t' = none) noX := by
      obtain ⟨v, g1, e1, h1, b1, b1'⟩ := S_qnext (w := w) (n := l) h (by omega) (m := ((1 : Nat) : Int)) (by decide) (Sm.of (by decide))
      have wa : Wh a := by
        obtain ⟨x, hx⟩ := hwh
        cases ha : bitV a with
        | some u => exact ⟨u, ha⟩
        | none =>
          have : bitV (.root k a) = none := by show (bitV a).map _ = _; rw [ha]; rfl
          rw [this] at hx; cases hx
      obtain ⟨ta, g2, e2, h2, k2, l2, n2⟩ := iha (l + 2) (by omega) h1 (by omega) ok.1 wa
      rw [U_law_with]
      simp only [t16, ↓Ep0, ↓Ep1, ↓Ep2, ↓Ep3, ↓Ep4, ↓Ep5, ↓Ep6, ↓Ep7, ↓Ep8, Eq0, Eq1, Eq2, fnW, parW, strW, ↓ws_ite, ↓ws_own_comp, ↓ws_own_lst, ↓ws_own_addL, ↓ws_own_toLst, intW, ↓ws_app, valW, ite_self, lstW, ownW, List.contains_cons, List.contains_nil, Nat.reduceBEq, Bool.true_or, Bool.or_true, Bool.false_or, if_true, if_false, Bool.false_eq_true, ↓seen, List.getElem?_cons_succ, List.getElem?_cons_zero, Int.reduceToNat, Int.reducePow, List.cons_append, List.nil_append, D.imm, List.set_cons_zero, List.set_cons_succ, unpW, setSl, and_true, true_and, Classical.not_not, Int.reduceEq, false_implies, not_false_eq_true, not_true_eq_false, imp_false, forall_const, true_implies, tmD, ow_eqW, ↓j0, ↓j1, ↓k0, ↓i1, ↓i2, wK_number, wK_root, we_root_number, and_self, List.length_cons, List.length_nil, Nat.reduceAdd, PySem.sizeLine, Nat.reducePow, Nat.reduceLeDiff, true_and, r3, ↓we_comp, ↓turns_cons, ↓turns_nil, ↓we_turn, Tg.bind, Tg.slots, wipeSl, addO, isT, isTn, e1]
      refine ix_all (R := fun d => d = .int 2) b1 b1' (fun d hd => by simpa only [List.mem_cons, List.not_mem_nil, or_false] using hd) fun d hd => ?_
      subst hd
      simp only [↓Ep0, ↓Ep1, ↓Ep2, ↓Ep3, ↓Ep4, ↓Ep5, ↓Ep6, ↓Ep7, ↓Ep8, Eq0, Eq1, Eq2, fnW, parW, strW, ↓ws_ite, ↓ws_own_comp, ↓ws_own_lst, ↓ws_own_addL, ↓ws_own_toLst, intW, ↓ws_app, valW, ite_self, lstW, ownW, List.contains_cons, List.contains_nil, Nat.reduceBEq, Bool.true_or, Bool.or_true, Bool.false_or, if_true, if_false, Bool.false_eq_true, ↓seen, List.getElem?_cons_succ, List.getElem?_cons_zero, Int.reduceToNat, Int.reducePow, List.cons_append, List.nil_append, D.imm, List.set_cons_zero, List.set_cons_succ, unpW, setSl, and_true, true_and, Classical.not_not, Int.reduceEq, false_implies, not_false_eq_true, not_true_eq_false, imp_false, forall_const, true_implies, ow_eqW, ↓j0, ↓j1, ↓k0, ↓i1, ↓i2, ↓t1, c1, c2, c3, c4, c5, c6, e2, List.length_cons, List.length_nil, Nat.reduceAdd, PySem.sizeLine, Nat.reducePow, Nat.reduceLeDiff, true_and]
      exact ⟨.root k ta, g2, rfl, h2.mono (by omega), ⟨k2, ok.2⟩, by show hgt ta + 1 ≤ hgt a + 1; omega, by show (bitV ta).map _ = none; rw [n2]; rfl⟩
    obtain ⟨r, e, t', g', h1, h2⟩ := W_ex this
    exact ⟨t', g', h1 ▸ e, h2⟩
  | two wd a b iha ihb =>
    intro L hL j c g h hc ok hwh
    have hh : hgt (.two wd a b) = max (hgt a) (hgt b) + 1 := rfl
    obtain ⟨l, rfl⟩ : ∃ l, L = l + 3 := ⟨L - 3, by omega⟩
    have : (run KL tb w (l + 3) 16 [.hnd j, tmD (.two wd a b), tmD m] g).W (fun r => ∃ (t' : Tm) (g' : G), r = (tmD t', g') ∧ Dr j (c + hgt (.two wd a b)) g' ∧ TmOk t' ∧ hgt t' ≤ hgt (.two wd a b) ∧ bitV t' = none) noX := by
      obtain ⟨v, g1, e1, h1, b1, b1'⟩ := S_qnext (w := w) (n := l) h (by omega) (m := ((2 : Nat) : Int)) (by decide) (Sm.of (by decide))
      have wab : Wh a ∧ Wh b := by
        obtain ⟨x, hx⟩ := hwh
        have hx : (match bitV a, bitV b with | some x, some y => some (twoB wd x y) | _, _ => none) = some x := hx
        cases ha : bitV a with
        | none => rw [ha] at hx; cases hx
        | some u =>
          cases hb : bitV b with
          | none => rw [ha, hb] at hx; cases hx
          | some v => exact ⟨⟨u, ha⟩, ⟨v, hb⟩⟩
      obtain ⟨w0, w1, _, _, _⟩ := wk6 wd
      obtain ⟨ta, g2, e2, h2, k2, l2, n2⟩ := iha (l + 2) (by omega) h1 (by omega) ok.1 wab.1
      obtain ⟨tb', g3, e3, h3, k3, l3, n3⟩ := ihb (l + 2) (by omega) h1 (by omega) ok.2 wab.2
      rw [U_law_with]
      simp only [t16, ↓Ep0, ↓Ep1, ↓Ep2, ↓Ep3, ↓Ep4, ↓Ep5, ↓Ep6, ↓Ep7, ↓Ep8, Eq0, Eq1, Eq2, fnW, parW, strW, ↓ws_ite, ↓ws_own_comp, ↓ws_own_lst, ↓ws_own_addL, ↓ws_own_toLst, intW, ↓ws_app, valW, ite_self, lstW, ownW, List.contains_cons, List.contains_nil, Nat.reduceBEq, Bool.true_or, Bool.or_true, Bool.false_or, if_true, if_false, Bool.false_eq_true, ↓seen, List.getElem?_cons_succ, List.getElem?_cons_zero, Int.reduceToNat, Int.reducePow, List.cons_append, List.nil_append, D.imm, List.set_cons_zero, List.set_cons_succ, unpW, setSl, and_true, true_and, Classical.not_not, Int.reduceEq, false_implies, not_false_eq_true, not_true_eq_false, imp_false, forall_const, true_implies, tmD, ow_eqW, ↓j0, ↓j1, ↓k0, ↓i1, ↓i2, w0, w1, wK_number, and_self, List.length_cons, List.length_nil, Nat.reduceAdd, PySem.sizeLine, Nat.reducePow, Nat.reduceLeDiff, true_and, r3, ↓we_comp, ↓turns_cons, ↓turns_nil, ↓we_turn, Tg.bind, Tg.slots, wipeSl, addO, isT, isTn, e1]
      refine ix_all (R := fun d => d = .int 1 ∨ d = .int 2) b1 b1' (fun d hd => by simpa only [List.mem_cons, List.not_mem_nil, or_false] using hd) fun d hd => ?_
      rcases hd with rfl | rfl
      · simp only [↓Ep0, ↓Ep1, ↓Ep2, ↓Ep3, ↓Ep4, ↓Ep5, ↓Ep6, ↓Ep7, ↓Ep8, Eq0, Eq1, Eq2, fnW, parW, strW, ↓ws_ite, ↓ws_own_comp, ↓ws_own_lst, ↓ws_own_addL, ↓ws_own_toLst, intW, ↓ws_app, valW, ite_self, lstW, ownW, List.contains_cons, List.contains_nil, Nat.reduceBEq, Bool.true_or, Bool.or_true, Bool.false_or, if_true, if_false, Bool.false_eq_true, ↓seen, List.getElem?_cons_succ, List.getElem?_cons_zero, Int.reduceToNat, Int.reducePow, List.cons_append, List.nil_append, D.imm, List.set_cons_zero, List.set_cons_succ, unpW, setSl, and_true, true_and, Classical.not_not, Int.reduceEq, false_implies, not_false_eq_true, not_true_eq_false, imp_false, forall_const, true_implies, ow_eqW, ↓j0, ↓j1, ↓k0, ↓i1, ↓i2, ↓t1, c1, c2, c3, c4, c5, c6, e2, List.length_cons, List.length_nil, Nat.reduceAdd, PySem.sizeLine, Nat.reducePow, Nat.reduceLeDiff, true_and]
        exact ⟨.two wd ta b, g2, rfl, h2.mono (by omega), ⟨k2, ok.2⟩, by show max (hgt ta) (hgt b) + 1 ≤ max (hgt a) (hgt b) + 1; omega, by show (match bitV ta, bitV b with | some x, some y => some (twoB wd x y) | _, _ => none) = none; rw [n2]⟩
      · simp only [↓Ep0, ↓Ep1, ↓Ep2, ↓Ep3, ↓Ep4, ↓Ep5, ↓Ep6, ↓Ep7, ↓Ep8, Eq0, Eq1, Eq2, fnW, parW, strW, ↓ws_ite, ↓ws_own_comp, ↓ws_own_lst, ↓ws_own_addL, ↓ws_own_toLst, intW, ↓ws_app, valW, ite_self, lstW, ownW, List.contains_cons, List.contains_nil, Nat.reduceBEq, Bool.true_or, Bool.or_true, Bool.false_or, if_true, if_false, Bool.false_eq_true, ↓seen, List.getElem?_cons_succ, List.getElem?_cons_zero, Int.reduceToNat, Int.reducePow, List.cons_append, List.nil_append, D.imm, List.set_cons_zero, List.set_cons_succ, unpW, setSl, and_true, true_and, Classical.not_not, Int.reduceEq, false_implies, not_false_eq_true, not_true_eq_false, imp_false, forall_const, true_implies, ow_eqW, ↓j0, ↓j1, ↓k0, ↓i1, ↓i2, ↓t1, c1, c2, c3, c4, c5, c6, e3, List.length_cons, List.length_nil, Nat.reduceAdd, PySem.sizeLine, Nat.reducePow, Nat.reduceLeDiff, true_and]
        exact ⟨.two wd a tb', g3, rfl, h3.mono (by omega), ⟨ok.1, k3⟩, by show max (hgt a) (hgt tb') + 1 ≤ max (hgt a) (hgt b) + 1; omega, by show (match bitV a, bitV tb' with | some x, some y => some (twoB wd x y) | _, _ => none) = none; rw [n3]; cases bitV a <;> rfl⟩
    obtain ⟨r, e, t', g', h1, h2⟩ := W_ex this
    exact ⟨t', g', h1 ▸ e, h2⟩
end

end Z.Law

set_option Elab.async false
set_option linter.all false
set_option maxRecDepth 100000
set_option maxHeartbeats 4000000
namespace Z.Law
open PySem
/-! k61: the law -/
section
variable {w n : Nat} {ns : List Int} (hw : wB ≤ w)
include hw
theorem S_law (hl : ns.length ≤ 63) : ∃ g', run KL tb w (n + 13) 17 [.frz (ns.map .int)] [] = .ok (.bl true, g') := by
  have : (run KL tb w (n + 13) 17 [.frz (ns.map .int)] []).W (fun a => ∃ g', a = (.bl true, g')) noX := by
    have hI : Ik.items .rng [.int (min 63 ((ns.map D.int).length : Int) + 3)] = some ((List.range (min 63 ns.length + 3)).map fun (k : Nat) => D.int (k : Int)) := by
      rw [List.length_map, show min 63 (ns.length : Int) + 3 = ((min 63 ns.length + 3 : Nat) : Int) by omega]
      exact rng_items _ (by omega)
    have is1 : ∀ z : Int, P.sem KL .isinst [.int z, .ty "int"] = some (.bl true) := fun z => rfl
    have is2 : ∀ z : Int, P.sem KL .isinst [.int z, .ty "bool"] = some (.bl false) := fun z => rfl
    rw [U_law]
    simp only [t17, ↓Ep0, ↓Ep1, ↓Ep2, ↓Ep3, ↓Ep4, ↓Ep5, ↓Ep6, ↓Ep7, ↓Ep8, Eq0, Eq1, Eq2, fnW, parW, strW, ↓ws_ite, ↓ws_own_comp, ↓ws_own_lst, ↓ws_own_addL, ↓ws_own_toLst, intW, ↓ws_app, valW, ite_self, lstW, ownW, List.contains_cons, List.contains_nil, Nat.reduceBEq, Bool.true_or, Bool.or_true, Bool.false_or, if_true, if_false, Bool.false_eq_true, ↓seen, List.getElem?_cons_succ, List.getElem?_cons_zero, Int.reduceToNat, Int.reducePow, List.cons_append, List.nil_append, D.imm, List.set_cons_zero, List.set_cons_succ, unpW, setSl, and_true, true_and, Classical.not_not, Int.reduceEq, false_implies, not_false_eq_true, not_true_eq_false, imp_false, forall_const, true_implies, List.length_cons, List.length_nil, Nat.reduceAdd, PySem.sizeLine, Nat.reducePow, Nat.reduceLeDiff, true_and, ↓ws_for, hI]
    refine for_W (I := fun xs ρ g => ∃ (s1 s2 s3 s4 : Option D), ρ = [.val (.frz (ns.map .int)), sv s1, sv s2, sv s3, sv s4] ∧ ∀ x ∈ xs, ∃ k : Nat, k ≤ 1000 ∧ x = .int k) ?_ ?_ _ _ _ ⟨none, none, none, none, rfl, fun x hx => ?_⟩
    · rintro x xs ρ g ⟨s1, s2, s3, s4, rfl, hk⟩
      obtain ⟨k, hk1, rfl⟩ := hk x (.head _)
      obtain ⟨g1, e1, h1⟩ := S_qrow (w := w) (n := n + 11) (g := g) hl k (by omega)
      generalize g.length = j at e1 h1
      obtain ⟨v, g2, e2, h2, b2, b2'⟩ := S_qnext (w := w) (n := n + 10) h1 (by omega) (m := 5) (by decide) (Sm.of (by decide))
      obtain ⟨d, hd, hd6⟩ : ∃ d : Nat, 2 + v = (d : Int) ∧ d ≤ 6 := ⟨(2 + v).toNat, by omega, by omega⟩
      have hC : ∀ d, d ≤ 6 → Cn d ≤ 2000 := by decide
      have hC := hC d hd6
      obtain ⟨t, g3, e3, h3, ok, ht, wh⟩ := S_qterm hw d (n + 12) (by omega) h2 (by omega)
      obtain ⟨u, hu⟩ := id wh
      have e4 := S_gap (g := g3) hw t (n + 12) ok (by omega) (by omega)
      rw [hu] at e4
      have e5 := S_lgap (g := g3) hw t (n + 12) hu ok (by omega) (by omega)
      obtain ⟨m, g6, e6, h6, okm, hm1, mn⟩ := S_qfurther (n := n + 8) hw h3 (by omega)
      obtain ⟨t', g7, e7, h7, ok', ht', tn⟩ := S_qwith (w := w) m okm hm1 mn t (n + 12) (by omega) h6 (by omega) ok wh
      have e8 := S_gap (g := g7) hw t' (n + 12) ok' (by omega) (by omega)
      rw [tn] at e8
      dsimp only at e4 e8
      generalize u.2.1 + (u.2.2 - 1) * u.1 + 1 = z at e4 e5
      simp only [Tg.bind, ↓Ep0, ↓Ep1, ↓Ep2, ↓Ep3, ↓Ep4, ↓Ep5, ↓Ep6, ↓Ep7, ↓Ep8, Eq0, Eq1, Eq2, fnW, parW, strW, ↓ws_ite, ↓ws_own_comp, ↓ws_own_lst, ↓ws_own_addL, ↓ws_own_toLst, intW, ↓ws_app, valW, ite_self, lstW, ownW, List.contains_cons, List.contains_nil, Nat.reduceBEq, Bool.true_or, Bool.or_true, Bool.false_or, if_true, if_false, Bool.false_eq_true, ↓seen, List.getElem?_cons_succ, List.getElem?_cons_zero, Int.reduceToNat, Int.reducePow, List.cons_append, List.nil_append, D.imm, List.set_cons_zero, List.set_cons_succ, unpW, setSl, and_true, true_and, Classical.not_not, Int.reduceEq, false_implies, not_false_eq_true, not_true_eq_false, imp_false, forall_const, true_implies, e1, e2, hd, e3, e4, e5, is1, is2, e6, e7, e8, Bool.not_true]
      exact ⟨some _, some _, some _, some _, rfl, fun x hx => hk x (.tail _ hx)⟩
    · rintro ρ g ⟨s1, s2, s3, s4, rfl, hk⟩
      simp only [↓Ep0, ↓Ep1, ↓Ep2, ↓Ep3, ↓Ep4, ↓Ep5, ↓Ep6, ↓Ep7, ↓Ep8, Eq0, Eq1, Eq2, fnW, parW, strW, ↓ws_ite, ↓ws_own_comp, ↓ws_own_lst, ↓ws_own_addL, ↓ws_own_toLst, intW, ↓ws_app, valW, ite_self, lstW, ownW, List.contains_cons, List.contains_nil, Nat.reduceBEq, Bool.true_or, Bool.or_true, Bool.false_or, if_true, if_false, Bool.false_eq_true, ↓seen, List.getElem?_cons_succ, List.getElem?_cons_zero, Int.reduceToNat, Int.reducePow, List.cons_append, List.nil_append, D.imm, List.set_cons_zero, List.set_cons_succ, unpW, setSl, and_true, true_and, Classical.not_not, Int.reduceEq, false_implies, not_false_eq_true, not_true_eq_false, imp_false, forall_const, true_implies]
      exact ⟨_, rfl⟩
    · obtain ⟨k, hk, rfl⟩ := List.mem_map.1 hx
      have := List.mem_range.1 hk
      exact ⟨k, by omega, rfl⟩
  obtain ⟨a, e, g', h1⟩ := W_ex this
  exact ⟨g', h1 ▸ e⟩
end

end Z.Law

set_option Elab.async false
set_option linter.all false
set_option maxRecDepth 100000
set_option maxHeartbeats 0
namespace Z.Law
open PySem PySem.Spec PyProof.Rows L2
def LawRun (k wf : Nat) : Prop := ∀ ns : List Int, ns.length ≤ 63 → (∀ z ∈ ns, Builtin.Int.intBits z ≤ 1048576) → ∃ g, run (klOf ks) tb wf k 17 [.frz (ns.map D.int)] [] = .ok (.bl true, g)
theorem facts {k wf : Nat} (lr : LawRun k wf) {P : Program} {w : World} {K : PySem.W.Frag} {h h' : Heap} {mg : Str → Option Value} {f : Addr} (X : K.In h) (G : h.Ns mainGlobals mg) (hfa : mg ("law" : Str) = some (.ref f)) (c : He.SaysX [] dds dts tf ex w h' K) :
    ∃ (fd : FuncData) (sp : Sp), (∀ (s : Shared) (v : Value), BindsTo s fd ⟨[v], []⟩ [("_law_script", v)]) ∧
      (∀ (H : Hp) (a : Addr) (ns : List Int), ns.length ≤ 63 → (∀ z ∈ ns, Builtin.Int.intBits z ≤ 1048576) → ZG.OnlyT (tf.map (He.cT K)) H → (∀ p ∈ tf.map (He.cT K), H p.2 = some (.tbl #[])) → SqL K H a (ns.map V.int) → sp [.ref a] H (fun v _ => v = .bl true) fun _ _ _ => False) ∧
      ∀ base : Heap, K.In base → base.Ns mainGlobals mg → (∀ p ∈ tf.map (He.cT K), LamX.TabB base mg p.1 p.2) → ZG.FnG P w K mg base (L2.CX P w) k f fd ["_law_script"] sp := by
  have dc := dct_ok c
  have gf := fun base => globF_of (P := P) (w := w) (base := base) (tf := tf) X G (fun x kvs hl => AllD.get dc hl) c.more
  have D := all_ok (mg := mg) c.t.d (gf h).2
  obtain ⟨f24, F24⟩ := c.t.d.def_ 17 (d := d17) rfl
  have e := hfa.symm.trans ((gf h).2 _ _ _ _ _ _ lk17).1
  cases e
  have fin := fun base (TB : ∀ p ∈ tf.map (He.cT K), LamX.TabB base mg p.1 p.2) => (fns_ok (wf := wf) (gf base).1 TB (fun x i np dfl ps km hl => AllD.get D hl) k).fn _ _ _ _ _ _ lk17
  have b := FunD.bindsA (ps := ["_law_script"]) F24 fun _ _ _ _ _ _ us hl => match us, hl with | [_], _ => rfl
  have tabs : ∀ p ∈ (tbOf cls fns tf K).tabs, p.1 ∈ (tf.map (He.cT K)).map Prod.snd := fun p hp => by
    obtain ⟨q, hq, rfl⟩ := List.mem_map.1 hp
    exact List.mem_map.2 ⟨He.cT K q, List.mem_map.2 ⟨q, hq, rfl⟩, rfl⟩
  refine ⟨f24, spF (tbOf cls fns tf K) K 1 (run (klOf ks) tb wf k 17), fun s v => b s [v] rfl, fun H a ns hl hb hO hH hS => sp_start hO hH tabs hS (lr ns hl hb), fun base X' G' TB => ?_⟩
  obtain ⟨f2, fd2, m2, _, ⟨oc2, od2, osl2, l2⟩, q, _⟩ := fin base TB
  rw [hfa] at m2
  cases m2
  have e2 : fd2 = f24 := by
    obtain ⟨oc, od, _, _, _, _, _, _, _, osl, _, l3, _⟩ := F24.ex
    have l3 : K.lookup (He.ga K "law") = _ := l3
    rw [l2] at l3
    cases l3; rfl
  rw [← e2]; exact q
end Z.Law
open PySem PySem.W PySem.Calls PyProof.Rows
theorem holds_of {wf : Nat} (lr : Z.Law.LawRun 40 wf) : PySem.Challenge.rw_nearhall_k61_gaps_of_terms.Holds := by
  w_on; o_law
  refine HandSHeadRun.head_any (r := OpenLaw.row PySem.Challenge.rw_nearhall_k61_gaps_of_terms) (q := view (OpenLaw.row PySem.Challenge.rw_nearhall_k61_gaps_of_terms).prog [22]) (H := Z.Law.hk) (ob := Z.Law.ob) (M := 20000) (loose := Z.Law.loose) (d := HandSHeadRun.topDef (OpenLaw.row PySem.Challenge.rw_nearhall_k61_gaps_of_terms).prog 22) (kwd := []) Z.Law.ob_eq
    (by kernel_rfl) (fun s => by kernel_rfl) Z.Law.run_top (by kernel_rfl) (by kernel_rfl) (by kernel_rfl) (by rfl) (by first | assumption | decide +kernel) (by decide +kernel) ⟨rfl, rfl, rfl, rfl, rfl, by decide +kernel⟩ ?hw ?hc
  case hw => w_witness2
  case hc =>
    refine Z.walk_ofZ (l := PySem.Challenge.rw_nearhall_k61_gaps_of_terms) (n := 63) (k := 40) (x := "_law_script") rfl (by decide) (by kernel_rfl) ⟨rfl, by decide, by decide⟩ ?F
    intro w mg fa h Y G hmg0
    obtain ⟨K, KX, c⟩ := Y
    have hmg : mg ("law" : PySem.Str) = some (.ref fa) := by
      have e : (HandSHeadRun.topDef (OpenLaw.row PySem.Challenge.rw_nearhall_k61_gaps_of_terms).prog 22).name = ("law" : PySem.Str) := by kernel_rfl
      rw [← e]
      exact hmg0
    obtain ⟨fd, sp, hb, hsp, hF⟩ := Z.Law.facts lr (P := (PySem.Challenge.rw_nearhall_k61_gaps_of_terms).prog) (w := w) KX G hmg c
    refine ⟨K, fd, Z.Law.tf.map (He.cT K), sp, KX, ⟨fun p hp => ?_, fun p hp => ?_, fun p hp => ?_⟩, hb, hsp, hF⟩ <;> obtain ⟨q, hq, rfl⟩ := List.mem_map.1 hp
    · exact c.empty q hq
    · exact c.out q hq
    · exact PySem.W.codeHd_of_K KX (c.hd q hq)
theorem PySem.Challenge.cw_nearhall_k61_gaps_of_terms_holds : PySem.Challenge.rw_nearhall_k61_gaps_of_terms.Holds := by
  exact holds_of (wf := Z.Law.wB) fun ns hl _ => Z.Law.S_law (n := 27) (Nat.le_refl _) hl



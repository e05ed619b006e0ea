import PyProof.Rows.All
import Wide.All
import OpenK.AllK
import Wide.FinOn
import HandS.Conv
import HandS.Deep
import HandS.Defaults
import HandS.Dict
import HandS.EndTab
import HandS.Evl
import HandS.ForExc
import HandS.ForMost
import HandS.Head2
import HandS.HeadHook2
import HandS.HeadHook4
import HandS.IsInst
import HandS.More
import HandS.Nested
import HandS.RaiseMore
import HandS.SetBool
import HandS.Small
import HandS.SortInts
import HandS.SortRule
import HandS.Strs
import HandS.Style
import HandS.TupAny
import HandS.TupMul
import KE.DataMinMax
import KE.GoesMore
import KE.KDictPairs
import KE.KRevSl
import KE.SortData
import PyProof.EnumMake
import PyProof.NeData
import PyProof.P3In
import PyProof.ReprRoads
import PyProof.SumAny
import PySem.Challenge.RW_waryrig_k83_whole_a_row_of_faults_told_o
set_option Elab.async false
set_option linter.all false
set_option maxRecDepth 100000
set_option maxHeartbeats 1000000
/-! tuples that are laid with their whole object known -/
namespace PV
open PySem PySem.Spec PyProof.Rows L2
/-- a tuple of ours stands there -/
def TF (H : Hp) (p : Addr) (xs : List V) : Prop := ∃ o : Obj, o.dict = none ∧ H p = some (.frz o (.tup xs))
theorem TF.sq {K : PySem.W.Frag} {H : Hp} {p : Addr} {xs : List V} (h : TF H p xs) : SqT K H p xs := by
  obtain ⟨o, _, e⟩ := h
  exact .inl (.inr ⟨o, e⟩)
/-- a new one is laid -/
def NewT (H : Hp) (Q : VK) (xs : List V) : Prop := ∀ p o, H p = none → o.dict = none → Q (.ref p) (upd H p (.frz o (.tup xs)))
section
variable {X : Cx} {pins : List (Addr × Obj)} {σ : L2.St} {H : Hp} {s : Shared} {Q : VK}
theorem ep_tup {h' : Heap} {t' : Nat} {xs : List V} {its : List Value} (I : Inv X pins σ H s) (kp : ∀ b u, s.heap.get? b = some u → h'.get? b = some u) (z : xs.length ≤ sizeLine) (r : Vals xs its) (q : NewT H Q xs) :
    EP X pins σ Q (.ref h'.objs.size) { s with heap := h'.push { cls := .type "tuple", data := .seq its.toArray }, toks := t' } := by
  have I1 : Inv X pins σ H { s with heap := h', toks := t' } := I.kept (t' := t') kp
  refine ⟨.ref h'.objs.size, upd H h'.objs.size (.frz { cls := .type "tuple", data := .seq its.toArray } (.tup xs)), I1.laid (t' := t') (fun b u e => Heap.get?_push_of_some _ e) (Nat.le_refl _) ?_, rfl, q _ _ (I1.hok.fresh (Nat.le_refl _)) rfl⟩
  exact ⟨Heap.get?_push_size _ rfl, z, its, r, ⟨_, Heap.get?_push_size _ rfl, rfl, _, rfl⟩⟩
end
def tTupF (t : TA) : TE := fun σ H Q => t σ H fun xs H1 => xs.length ≤ sizeLine ∧ NewT H1 Q xs
theorem pe_tupF {X : Cx} {es : List Expr} {t : TA} {pos : Pos} {x1} (h : PA X es t) : PE X (.Tuple es x1 pos) (tTupF t) := by
  refine ⟨fun pins s σ H Q I hq => ?_⟩
  refine wpAny_Tuple_spliced (thn (h.run pos pins s σ H _ I hq) fun us s1 ⟨xs, H1, I1, r, z, q⟩ => ⟨by rw [← r.length]; exact z, ?_⟩)
  exact ep_tup (t' := s1.toks) I1 (fun _ _ e => e) z r q
def rCatF (K : PySem.W.Frag) : R2 := fun x y H Q => ∃ a b xs ys, x = .ref a ∧ y = .ref b ∧ SqT K H a xs ∧ SqT K H b ys ∧ xs.length + ys.length ≤ sizeLine ∧
  (xs = [] → Q (.ref b) H) ∧ (xs ≠ [] → ys = [] → Q (.ref a) H) ∧ (xs ≠ [] → ys ≠ [] → NewT H Q (xs ++ ys))
section
variable {X : Cx}
theorem op_catF : OpR X (binaryOp .Add) (rCatF X.K) := by
  intro pins s σ H x y v u Q I rx ry h
  obtain ⟨a, b, xs, ys, rfl, rfl, ha, hb, hz, q0, q1, q2⟩ := h
  cases rx
  cases ry
  obtain ⟨its, r1, p1, _⟩ := I.tuple ha
  obtain ⟨its2, r2, p2, _⟩ := I.tuple hb
  by_cases hx : xs = []
  · subst hx
    cases r1
    exact cat_tup0 p1 p2 ⟨.ref b, H, I, rfl, q0 rfl⟩
  · refine HT.cat_tup p1 p2 (fun z => hx (r1.nil_iff.mp z)) (fun z => ⟨.ref a, H, I, rfl, q1 hx (r2.nil_iff.mp z)⟩) (fun z => ?_) (by rw [← r1.length, ← r2.length]; exact hz)
    exact ep_tup (t' := s.toks) I (fun _ _ e => e) (by rw [List.length_append]; exact hz) (r1.append r2) (q2 hx fun w => z (r2.nil_iff.mpr w))
def rSlF (K : PySem.W.Frag) : V → Option Int → Option Int → Hp → VK → Prop := fun x lo hi H Q => ∃ a xs, x = .ref a ∧ SqT K H a xs ∧
  (HT.sIx xs.length 0 lo = 0 ∧ HT.sIx xs.length xs.length hi = xs.length → Q (.ref a) H) ∧ (¬ (HT.sIx xs.length 0 lo = 0 ∧ HT.sIx xs.length xs.length hi = xs.length) → NewT H Q (cutV xs lo hi))
theorem sl_tupF : SlR X (rSlF X.K) := by
  intro pins s σ H x v vl vu lo hi sl Q I rx hs pl pu h
  obtain ⟨a, xs, rfl, hx, q1, q2⟩ := h
  cases rx
  obtain ⟨its, r, ht, hz⟩ := I.tuple hx
  have hlen : its.toArray.size = xs.length := by rw [List.size_toArray]; exact r.length.symm
  refine ⟨"tuple", _, PyProof.Rows.slot_tuple_getitem.lookup, ht.typeIs, ?_⟩
  by_cases hw : HT.sIx xs.length 0 lo = 0 ∧ HT.sIx xs.length xs.length hi = xs.length
  · exact getItem_tuple_whole ht hs pl pu (by rw [hlen]; exact hw) ⟨.ref a, H, I, rfl, q1 hw⟩
  · refine HT.getItem_tuple_cut ht hs pl pu (by rw [hlen]; exact hw) ?_ (by rw [hlen]; exact hz)
    rw [hlen]
    exact ep_tup (t' := s.toks) I (fun _ _ e => e) (Nat.le_trans (cutV_length xs lo hi) hz) ((r.drop (HT.sIx xs.length 0 lo)).take (HT.sIx xs.length xs.length hi - HT.sIx xs.length 0 lo)) (q2 hw)
theorem call_tupleF : CallR X (.type "tuple") (fun xs H Q => ∃ p ys, xs = [.ref p] ∧ ((SqL X.K H p ys ∧ NewT H Q ys) ∨ (SqT X.K H p ys ∧ Q (.ref p) H))) := by
  intro pins s σ H xs us Q I r h
  obtain ⟨p, ys, rfl, h⟩ := h
  obtain ⟨u, rfl, rx⟩ := vals1 r
  cases rx
  rcases h with ⟨hq, q⟩ | ⟨hq, q⟩
  · obtain ⟨its, r', pl, hz⟩ := I.list hq
    have hlen := r'.length
    refine call_tuple_list pl.isList (fun h' kp => ?_) (by simp only [List.size_toArray] <;> omega)
    exact ep_tup (t' := s.toks) I kp hz r' q
  · obtain ⟨its, r', pl, hz⟩ := I.tuple hq
    exact call_tuple_same pl ⟨.ref p, H, I, rfl, q⟩
end
end PV

set_option maxRecDepth 100000
set_option maxHeartbeats 1000000
/-! tuple * int, tuple(range), t[::-1] -/
namespace PV
open PySem PySem.Spec PyProof.Rows L2
section
variable {prog : Program} {w : World} {A : Around} {E : Value → Shared → Prop} {s : Shared}
theorem back_adjust (n : Nat) : Builtin.Slice.sliceAdjust none none (-1) (n : Int) = ((n : Int) - 1, -1) := by
  unfold Builtin.Slice.sliceAdjust
  rfl
theorem back_places (n : Nat) : Builtin.Slice.slicePlaces ((n : Int) - 1) (-1) (-1) = n := by
  unfold Builtin.Slice.slicePlaces
  have h : ¬ ((-1 : Int) > 0) := by omega
  simp only [h, if_false]
  split
  · have e : -(-1 : Int) = 1 := by omega
    rw [e, Int.ediv_one]; omega
  · omega
theorem fm_congr {α β : Type} {f g : α → Option β} : ∀ (l : List α), (∀ x ∈ l, f x = g x) → l.filterMap f = l.filterMap g
  | [], _ => rfl
  | x :: l, h => by
    rw [List.filterMap_cons, List.filterMap_cons, h x (by simp), fm_congr l fun y hy => h y (by simp [hy])]
theorem back_pick (xs : Array Value) : ((List.range xs.size).filterMap fun (m : Nat) => xs[(((xs.size : Int) - 1) + (m : Int) * (-1)).toNat]?).toArray = xs.toList.reverse.toArray := by
  have h : ((List.range xs.size).filterMap fun (m : Nat) => xs[(((xs.size : Int) - 1) + (m : Int) * (-1)).toNat]?) = ((List.range xs.size).map fun k => xs.size - 1 - k).filterMap (xs[·]?) := by
    rw [List.filterMap_map]
    refine fm_congr _ fun m hm => ?_
    have hm' := List.mem_range.mp hm
    have e : (((xs.size : Int) - 1) + (m : Int) * (-1)).toNat = xs.size - 1 - m := by omega
    rw [e]
    rfl
  rw [h, PySem.W.krv_range, List.filterMap_reverse, PySem.W.krv_all]
theorem sliceApplied_back {sl : Addr} {n : Nat} {tk : Tok} {Q : Int × Int × Nat → Shared → Prop} (hs : s.heap.IsSliceOf sl .none .none (.int (-1) tk))
    (h : Q ((n : Int) - 1, -1, n) s) : wpAny (model prog w) A (Builtin.Slice.sliceApplied (.ref sl) (pure (n : Int))) Q E s := by
  obtain ⟨os, hos, hcs, hds⟩ := id hs
  unfold Builtin.Slice.sliceApplied Builtin.Slice.sliceFields
  refine wpAny_bind (wpAny_bind (wpAny_field hos hds (x := .none) rfl (wpAny_bind (wpAny_field hos hds (x := .none) rfl (wpAny_bind (wpAny_field hos hds (x := .int (-1) tk) rfl (wpAny_pure ?_)))))))
  refine wpAny_bind (slicePart_int ?_)
  show wpAny _ _ (if ((-1 : Int) == 0) = true then _ else _) _ _ s
  rw [if_neg (by decide)]
  refine wpAny_bind (slicePart_none (wpAny_bind (slicePart_none (wpAny_bind (wpAny_pure ?_)))))
  show wpAny _ _ (match Builtin.Slice.sliceAdjust none none (-1) (n : Int) with | (lo, hi) => pure (lo, (-1 : Int), Builtin.Slice.slicePlaces lo hi (-1))) _ _ s
  rw [back_adjust n]
  show wpAny _ _ (pure ((n : Int) - 1, (-1 : Int), Builtin.Slice.slicePlaces ((n : Int) - 1) (-1) (-1))) _ _ s
  rw [back_places]
  exact wpAny_pure h
theorem getItem_tuple_back {t sl : Addr} {items : Array Value} {tk : Tok} {Q : Value → Shared → Prop} (ht : IsTup s.heap t items) (hs : s.heap.IsSliceOf sl .none .none (.int (-1) tk))
    (h : Q (.ref s.heap.objs.size) { s with heap := s.heap.push { cls := .type "tuple", data := .seq items.toList.reverse.toArray } })
    (hsz : items.size ≤ sizeLine) : wpAny (model prog w) A (getItem (.ref t) (.ref sl)) Q E s := by
  obtain ⟨os, hos, hcs, hds⟩ := id hs
  have hTs : s.TypeIs (.ref sl) "slice" := ⟨os, hos, hcs⟩
  have hz : sizeOk (.seq items.toList.reverse.toArray) := by
    show items.toList.reverse.toArray.size ≤ sizeLine
    rw [List.size_toArray, List.length_reverse, Array.length_toList]
    exact hsz
  unfold getItem
  try with_reducible refine wpAny_holding ?_
  first | refine wpAny_bind (wpAny_pure ?_) | skip
  refine wpAny_bind (wpAny_sequenceKey ht.typeIs (by decide) ?_)
  refine wpAny_bind (wpAny_callSpecial?_slot (name := Str.ofString "__getitem__") ht.typeIs PyProof.Rows.slot_tuple_getitem
    (wpAny_call_entry PyProof.Rows.slot_tuple_getitem ht.typeIs entry_tuple_getitem ?_ (args_tuple_getitem _ _)))
  show wpAny _ _ (Builtin.Tuple.tupleItemsOf (.ref t) >>= _) _ _ s
  refine wpAny_bind (tupleItemsOf_ ht ?_)
  refine wpAny_bind (wpAny_typeOf hTs ?_)
  rw [if_pos (by decide)]
  refine wpAny_bind (sliceApplied_back hs ?_)
  have hno : ¬ ((((items.size : Int) - 1 == 0) && ((-1 : Int) == 1) && (items.size == items.size)) = true) := by
    rw [show ((-1 : Int) == 1) = false from by decide, Bool.and_false, Bool.false_and]
    exact Bool.false_ne_true
  show wpAny _ _ (if (((items.size : Int) - 1 == 0) && ((-1 : Int) == 1) && (items.size == items.size)) = true then _ else _) _ _ s
  rw [if_neg hno, back_pick]
  first
    | exact wpAny_bind (m := Builtin.Tuple.tupleExact _) (wpAny_newObj_type (wpAny_pure ⟨_, rfl, wpAny_pure h⟩) hz)
    | exact wpAny_bind (m := Builtin.Tuple.tupleExact _) (wpAny_newObj_type (wpAny_bind (wpAny_pure (wpAny_pure ⟨_, rfl, wpAny_pure h⟩))) hz)
    | exact wpAny_bind (wpAny_bind (m := Builtin.Tuple.tupleExact _) (wpAny_newObj_type (wpAny_pure (wpAny_pure ⟨_, rfl, wpAny_pure h⟩)) hz))
    | exact wpAny_bind (wpAny_bind (m := Builtin.Tuple.tupleExact _) (wpAny_newObj_type (wpAny_pure ⟨_, rfl, wpAny_pure h⟩) hz))
end
/-- e[::-1], a list or a tuple -/
def tRevA (K : PySem.W.Frag) (te : TE) : TE := fun σ H Q => te σ H fun x H1 => ∃ a xs, x = .ref a ∧ ((SqL K H1 a xs ∧ ∀ p, H1 p = none → Q (.ref p) (upd H1 p (.lst xs.reverse))) ∨ (SqT K H1 a xs ∧ NewT H1 Q xs.reverse))
section
variable {X : Cx}
theorem pe_revA {e : Expr} {te : TE} {k : Nat} {p1 p2 p3 pos : Pos} (he : PE X e te) : PE X (.Subscript e (.Slice none none (some (.UnaryOp .USub (.Constant (.int 1) k p1) p2)) p3) pos) (tRevA X.K te) := by
  refine ⟨fun pins s σ H Q I h => ?_⟩
  refine Subscript_ (thn (he.run pins s σ H _ I h) fun v s1 ⟨x, H1, I1, r1, q1⟩ => ?_)
  obtain ⟨a, xs, ex, q1⟩ := q1
  subst ex
  cases r1
  have hst : PO X (some (.UnaryOp .USub (.Constant (.int 1) k p1) p2)) (tPart (tUn (rU fun i => .int (-i)) (tC (.int 1)))) := po_some (pe_un un_neg pe_int)
  refine wpAny_Slice (thn (po_none.run pins s1 σ H1 (fun o H2 => o = none ∧ H2 = H1) I1 ⟨rfl, rfl⟩) fun vl s2 ⟨l, H2, I2, pl, el, e2⟩ => ?_)
  subst el e2
  refine thn (po_none.run pins s2 σ H2 (fun o H3 => o = none ∧ H3 = H2) I2 ⟨rfl, rfl⟩) fun vu s3 ⟨u, H3, I3, pu, eu, e3⟩ => ?_
  subst eu e3
  refine thn (hst.run pins s3 σ H3 (fun o H4 => o = some (-1) ∧ H4 = H3) I3 ⟨1, rfl, -1, rfl, rfl, rfl⟩) fun vs s4 ⟨o, H4, I4, ps, eo, e4⟩ => ?_
  subst eo e4
  have I5 : Inv X pins σ H4 { s4 with heap := s4.heap.push { cls := .type "slice", data := .fields #[vl, vu, vs] } } := I4.kept (t' := s4.toks) fun b ob q => Heap.get?_push_of_some _ q
  show wpAny (model X.prog X.w) X.A (subscriptTail e (.Slice none none (some (.UnaryOp .USub (.Constant (.int 1) k p1) p2)) p3) (.ref a) (.ref s4.heap.objs.size)) (EP X pins σ Q) X.xe { s4 with heap := s4.heap.push { cls := .type "slice", data := .fields #[vl, vu, vs] } }
  rcases q1 with ⟨hx, q⟩ | ⟨hx, q⟩
  · obtain ⟨its, r, ht, hz⟩ := I5.list hx
    have hlen := r.length
    refine tail_any (ops := [.ref a, .ref s4.heap.objs.size]) ht.isList.typeIs (PySem.slot_list_getitem.lookup) ?_ (by with_unfolding_all rfl)
    refine wpAny_getItem_list_slice ht.isList (Heap.IsSliceOf.new _ vl vu vs) pl pu ps (by decide) ?_ (by rw [List.size_toArray]; omega)
    rw [PySem.W.krv_pick]
    refine ⟨.ref _, _, I5.laid (t' := s4.toks) (o := .lst xs.reverse) (fun b ob q => Heap.get?_push_of_some _ q) (Nat.le_refl _) ?_, rfl, q _ (I5.hok.fresh (Nat.le_refl _))⟩
    exact ⟨by rw [List.length_reverse]; exact hz, _, 0, r.reverse, Heap.get?_push_size _ rfl⟩
  · obtain ⟨its, r, ht, hz⟩ := I5.tuple hx
    have hlen := r.length
    cases pl
    cases pu
    cases ps
    refine tail_any (ops := [.ref a, .ref s4.heap.objs.size]) ht.typeIs (PyProof.Rows.slot_tuple_getitem.lookup) ?_ (by with_unfolding_all rfl)
    refine getItem_tuple_back ht (Heap.IsSliceOf.new _ _ _ _) ?_ (by rw [List.size_toArray]; omega)
    exact ep_tup (t' := s4.toks) I5 (fun _ _ e => e) (by rw [List.length_reverse]; exact hz) r.reverse q
def tTupRF (te : L2.St → Hp → (Int → Int → Hp → Prop) → Prop) : TE := fun σ H Q => te σ H fun a b H1 => RgOk a b ∧ NewT H1 Q (rgV a b)
theorem pe_tupRF {e : Expr} {te : L2.St → Hp → (Int → Int → Hp → Prop) → Prop} {p pos : Pos} (hc : X.calm = true) (hg : Gl X "tuple") (hm : X.mg "tuple" = none) (he : PRg X e te) (na : starEach [e] X.env = (false, eval e X.env) :: starEach [] X.env := by rfl) : PE X (.Call (.Name "tuple" p) [e] [] pos) (tTupRF te) := by
  refine ⟨fun pins s σ H Q I h => ?_⟩
  refine Call_ (ld_blt I hg hm boot_tuple (PyProof.Rows.callWith_type1 (args_cons (thn (he pins s σ H _ I h) fun x s1 ⟨r, a, b, t, u, v, H1, ex, hr, I1, ok, q⟩ => args_nil ?_) na) na))
  subst ex
  obtain ⟨b1, b2, b3, b4, b5⟩ := ok
  refine call_tuple_range (n := (b - a).toNat) (I1.ok.hd hc) hr (small_one b1 b2 b3 b4) (rangeSize_nat a b) b5 fun h' tk acc hk hi => ?_
  have e0 : acc = acc.toList.toArray := by simp
  rw [e0]
  exact ep_tup (t' := tk) I1 hk (by rw [rgV_length, sizeLine_eq]; omega) (vals_rg hi) q
def rRepF (K : PySem.W.Frag) : R2 := fun x y H Q => ∃ l k xs, x = .ref l ∧ y = .int k ∧ SqT K H l xs ∧ xs ≠ [] ∧ 2 ≤ k ∧ k ≤ 1000 ∧ xs.length ≤ 1000 ∧ NewT H Q (List.replicate k.toNat xs).flatten
theorem vals_rep {xs : List V} {its : List Value} (r : Vals xs its) : ∀ n : Nat, Vals (List.replicate n xs).flatten (List.replicate n its).flatten
  | 0 => .nil
  | n + 1 => by
    rw [List.replicate_succ, List.replicate_succ, List.flatten_cons, List.flatten_cons]
    exact r.append (vals_rep r n)
theorem op_repF : OpR X (binaryOp .Mult) (rRepF X.K) := by
  intro pins s σ H x y v u Q I rx ry h
  obtain ⟨l, k, xs, rfl, rfl, hT, hne, h1, h2, hz, q⟩ := h
  cases rx
  obtain ⟨t, rfl⟩ := ry
  obtain ⟨its, r, ⟨⟨cls, dd, data, sl⟩, ho, hc, n, hd⟩, hs⟩ := I.tuple hT
  simp only at hc hd
  subst hc hd
  have hle : its.length = xs.length := r.length.symm
  have hn : its ≠ [] := fun e => hne (r.nil_iff.mp e)
  have hi : its.toArray.isEmpty = false := by
    cases its with
    | nil => exact absurd rfl hn
    | cons a b => rfl
  have hsz0 : its.toArray.size = xs.length := by rw [List.size_toArray, hle]
  have a1 : ((xs.length : Nat) : Int) * k ≤ 1000 * k := Int.mul_le_mul_of_nonneg_right (by omega) (by omega)
  have flen : (List.replicate k.toNat its).flatten.length ≤ sizeLine := by
    rw [PyProof.Rows.lm_len_rep_flat, hle, sizeLine_eq]
    have a2 : k.toNat * xs.length ≤ 1000 * 1000 := Nat.mul_le_mul (by omega) hz
    omega
  have flen2 : (List.replicate k.toNat xs).flatten.length ≤ sizeLine := by
    rw [PyProof.Rows.lm_len_rep_flat, sizeLine_eq]
    have a2 : k.toNat * xs.length ≤ 1000 * 1000 := Nat.mul_le_mul (by omega) hz
    omega
  have c0 : (decide (k < -(2 ^ 63)) || decide (k ≥ 2 ^ 63)) = false := by
    rw [decide_eq_false (by omega), decide_eq_false (by omega), Bool.or_false]
  have c1 : (its.toArray.isEmpty || k == 1) = false := by
    rw [hi, Bool.false_or]
    exact beq_eq_false_iff_ne.mpr (by omega)
  have c2 : (decide (k ≤ 0) || its.toArray.isEmpty) = false := by
    rw [hi, Bool.or_false, decide_eq_false (by omega)]
  have c3 : ¬ ((its.toArray.size : Nat) : Int) * k > (2 ^ 63 - 1) / 8 := by rw [hsz0]; omega
  have c4 : Builtin.Tuple.tupleTooMany (((its.toArray.size : Nat) : Int) * k) = false := by
    unfold Builtin.Tuple.tupleTooMany
    rw [sizeLine_eq, hsz0, decide_eq_false (by omega)]
  refine wpAny_binaryOp_repeat_ref (T := "tuple") (U := "int") (by decide) ⟨_, ho, rfl⟩ (fun s' => typeIs_int s' k t) noFill_tuple_mul F.fills_int_mul F.slot_int_rmul repeat_tuple F.slot_int_index.lookup
    (call_meets F.slot_int_rmul (typeIs_int s k t) F.entry_int_rmul (F.args_int_rmul_2 _ _) (int_rmul_tuple k t l its.toArray n dd sl)
      ⟨ho, rfl, ⟨_, ho, rfl⟩, call_meets F.slot_tuple_mul ⟨_, ho, rfl⟩ F.entry_tuple_mul (F.args_tuple_mul_2 _ _) (tuple_mulW l its.toArray n dd sl k t c0 c1 c2 c3 c4 (by rw [size_rep, List.size_toArray]; exact flen)) ⟨ho, ?_⟩⟩)
  rw [size_rep]
  exact ep_tup (t' := s.toks) I (fun _ _ e => e) flen2 (vals_rep r k.toNat) q
end
end PV

set_option maxRecDepth 100000
set_option maxHeartbeats 1000000
/-! plain data, a store of cells, and how they stand in the abstract heap -/
namespace PV
open PySem PySem.Spec PyProof.Rows L2

/-- a value of the plain machine: data, or a cell of the store -/
inductive Val where
  | d (x : PyData)
  | loc (k : Nat)
  | scr (xs : List PyData)
  | dic (kvs : List (Int × Int))
  | fn (f : Addr)
/-- what changes: a list, a dict of numbers, an instance -/
inductive Cell where
  | lst (xs : List PyData)
  | dct (kvs : List (Int × Int))
  | ins (c : Str) (fs : List (Str × Val))
  | dead
/-- a result: a value, or a list or dict just made that nobody else knows -/
inductive Res where
  | v (x : Val)
  | nl (xs : List PyData)
  | nd (kvs : List (Int × Int))
abbrev Sto := List Cell
abbrev Env := List (Option Val)
abbrev Den := Env → Sto → Option (Res × Sto)
abbrev DenV := Env → Sto → Option (Val × Sto)

abbrev Sub (G H : Hp) : Prop := Evl.Ex G H

mutual
/-- data, all of whose objects are tracked -/
inductive DQ (H : Hp) : V → PyData → Prop
  | non : DQ H .non .none
  | bl (b : Bool) : DQ H (.bl b) (.bool b)
  | int (i : Int) : DQ H (.int i) (.int i)
  | str (x : Str) : DQ H (.str x) (.str x)
  | lst {a : Addr} {xs : List V} {ds : List PyData} : H a = some (.lst xs) → DQAll H xs ds → DQ H (.ref a) (.list ds)
  | tup {a : Addr} {xs : List V} {ds : List PyData} : TF H a xs → DQAll H xs ds → DQ H (.ref a) (.tuple ds)
inductive DQAll (H : Hp) : List V → List PyData → Prop
  | nil : DQAll H [] []
  | cons {v : V} {vs : List V} {d : PyData} {ds : List PyData} : DQ H v d → DQAll H vs ds → DQAll H (v :: vs) (d :: ds)
end
section
variable {K : PySem.W.Frag} {G G' H H' : Hp}
mutual
theorem dp_mono (e : Sub G G') : ∀ (d : PyData) (v : V), DQ G v d → DQ G' v d
  | .none, _, h => by cases h; exact .non
  | .bool b, _, h => by cases h; exact .bl b
  | .int i, _, h => by cases h; exact .int i
  | .str x, _, h => by cases h; exact .str x
  | .list ds, _, h => by
    cases h with
    | lst hs ha => exact .lst (e _ _ hs) (dpa_mono e ds _ ha)
  | .tuple ds, _, h => by
    cases h with
    | tup hs ha =>
      obtain ⟨o, h1, h2⟩ := hs
      exact .tup ⟨o, h1, e _ _ h2⟩ (dpa_mono e ds _ ha)
  | .dict _, _, h => by cases h
theorem dpa_mono (e : Sub G G') : ∀ (ds : List PyData) (vs : List V), DQAll G vs ds → DQAll G' vs ds
  | [], _, h => by cases h; exact .nil
  | d :: ds, _, h => by
    cases h with
    | cons h1 h2 => exact .cons (dp_mono e d _ h1) (dpa_mono e ds _ h2)
end
mutual
/-- as the layer's own data -/
theorem dq_dp : ∀ (d : PyData) (v : V), DQ G v d → Dp K G v d
  | .none, _, h => by cases h; exact .non
  | .bool b, _, h => by cases h; exact .bl b
  | .int i, _, h => by cases h; exact .int i
  | .str x, _, h => by cases h; exact .str x
  | .list ds, _, h => by
    cases h with
    | lst hs ha => exact .lst (.inl (.inl hs)) (dqa_dpa ds _ ha)
  | .tuple ds, _, h => by
    cases h with
    | tup hs ha => exact .tup hs.sq (dqa_dpa ds _ ha)
  | .dict _, _, h => by cases h
theorem dqa_dpa : ∀ (ds : List PyData) (vs : List V), DQAll G vs ds → DpAll K G vs ds
  | [], _, h => by cases h; exact .nil
  | d :: ds, _, h => by
    cases h with
    | cons h1 h2 => exact .cons (dq_dp d _ h1) (dqa_dpa ds _ h2)
end
theorem dpa_len : ∀ {vs : List V} {ds : List PyData}, DQAll G vs ds → vs.length = ds.length
  | [], [], _ => rfl
  | _ :: _, _ :: _, h => by
    cases h with
    | cons _ h2 => simp [dpa_len h2]
theorem dpa_get : ∀ {vs : List V} {ds : List PyData} {i : Nat} {d : PyData}, DQAll G vs ds → ds[i]? = some d → ∃ v, vs[i]? = some v ∧ DQ G v d
  | [], [], i, d, _, e => by simp at e
  | v :: _, _ :: _, 0, d, h, e => by
    cases h with
    | cons h1 _ => simp at e; subst e; exact ⟨v, rfl, h1⟩
  | _ :: _, _ :: _, i + 1, d, h, e => by
    cases h with
    | cons _ h2 =>
      obtain ⟨w, a, b⟩ := dpa_get (i := i) h2 (by simpa using e)
      exact ⟨w, by simpa using a, b⟩
theorem dpa_getv : ∀ {vs : List V} {ds : List PyData} {i : Nat} {v : V}, DQAll G vs ds → vs[i]? = some v → ∃ d, ds[i]? = some d ∧ DQ G v d
  | [], [], i, v, _, e => by simp at e
  | _ :: _, d :: _, 0, v, h, e => by
    cases h with
    | cons h1 _ => simp at e; subst e; exact ⟨d, rfl, h1⟩
  | _ :: _, _ :: _, i + 1, v, h, e => by
    cases h with
    | cons _ h2 =>
      obtain ⟨w, a, b⟩ := dpa_getv (i := i) h2 (by simpa using e)
      exact ⟨w, by simpa using a, b⟩
theorem dpa_app : ∀ {vs ws : List V} {ds es : List PyData}, DQAll G vs ds → DQAll G ws es → DQAll G (vs ++ ws) (ds ++ es)
  | [], _, [], _, _, h => h
  | _ :: _, _, _ :: _, _, h, h' => by
    cases h with
    | cons h1 h2 => exact .cons h1 (dpa_app h2 h')
theorem dpa_take : ∀ {vs : List V} {ds : List PyData} (n : Nat), DQAll G vs ds → DQAll G (vs.take n) (ds.take n)
  | _, _, 0, _ => by simp; exact .nil
  | [], [], _ + 1, _ => by simp; exact .nil
  | _ :: _, _ :: _, n + 1, h => by
    cases h with
    | cons h1 h2 => exact .cons h1 (dpa_take n h2)
theorem dpa_drop : ∀ {vs : List V} {ds : List PyData} (n : Nat), DQAll G vs ds → DQAll G (vs.drop n) (ds.drop n)
  | _, _, 0, h => by simpa using h
  | [], [], _ + 1, h => by simpa using h
  | _ :: _, _ :: _, n + 1, h => by
    cases h with
    | cons h1 h2 => simpa using dpa_drop n h2
theorem dpa_one {v : V} {d : PyData} (h : DQ G v d) : DQAll G [v] [d] := .cons h .nil
theorem dpa_rev {vs : List V} {ds : List PyData} (h : DQAll G vs ds) : DQAll G vs.reverse ds.reverse := by
  induction vs generalizing ds with
  | nil => cases h; exact .nil
  | cons v vs ih =>
    cases h with
    | cons h1 h2 =>
      rw [List.reverse_cons, List.reverse_cons]
      exact dpa_app (ih h2) (dpa_one h1)
theorem dpa_ints : ∀ (ns : List Int), DQAll G (ns.map V.int) (ns.map PyData.int)
  | [] => .nil
  | n :: ns => .cons (.int n) (dpa_ints ns)
/-- data that are all numbers -/
def intsOf : List PyData → Option (List Int)
  | [] => some []
  | .int i :: r => (intsOf r).map (i :: ·)
  | _ :: _ => none
theorem intsOf_eq : ∀ {ds : List PyData} {ns : List Int}, intsOf ds = some ns → ds = ns.map PyData.int
  | [], ns, h => by simp [intsOf] at h; subst h; rfl
  | .int i :: r, ns, h => by
    simp only [intsOf, Option.map_eq_some_iff] at h
    obtain ⟨m, h1, rfl⟩ := h
    rw [intsOf_eq h1]; rfl
  | .none :: _, _, h => by simp [intsOf] at h
  | .bool _ :: _, _, h => by simp [intsOf] at h
  | .str _ :: _, _, h => by simp [intsOf] at h
  | .list _ :: _, _, h => by simp [intsOf] at h
  | .tuple _ :: _, _, h => by simp [intsOf] at h
  | .dict _ :: _, _, h => by simp [intsOf] at h
theorem intsOf_map : ∀ (ns : List Int), intsOf (ns.map PyData.int) = some ns
  | [] => rfl
  | n :: ns => by simp [intsOf, intsOf_map ns]
theorem dpa_of_ints : ∀ {ns : List Int} {vs : List V}, DQAll G vs (ns.map PyData.int) → vs = ns.map V.int
  | [], _, h => by cases h; rfl
  | n :: ns, _, h => by
    cases h with
    | cons h1 h2 =>
      cases h1
      rw [dpa_of_ints h2]; rfl
end

/-- a dict of numbers as the layer has it -/
def enc (kvs : List (Int × Int)) : List (Key × V) := kvs.map fun p => (Sum.inl p.1, V.int p.2)

section
variable (K : PySem.W.Frag) (ca : Str → Addr) (TI : Hp → Prop)
def VR (G : Hp) (L : List Addr) (v : V) : Val → Prop
  | .d x => DQ G v x
  | .loc k => ∃ a, L[k]? = some a ∧ v = .ref a
  | .scr xs => ∃ a vs, v = .ref a ∧ SqL K G a vs ∧ DQAll G vs xs
  | .dic kvs => ∃ a o, v = .ref a ∧ G a = some (.frz o (.dK (enc kvs)))
  | .fn f => v = .ref f
def FR (G : Hp) (L : List Addr) : List (Str × V) → List (Str × Val) → Prop := Paired fun p q => p.1 = q.1 ∧ VR K G L p.2 q.2
def CellAt (G H : Hp) (L : List Addr) (a : Addr) : Cell → Prop
  | .lst xs => ∃ vs, H a = some (.lst vs) ∧ DQAll G vs xs
  | .dct kvs => H a = some (.dK (enc kvs))
  | .ins c fs => ∃ dx fv, H a = some (.ins (ca c) dx fv) ∧ FR K G L fv fs
  | .dead => True
/-- an object held fast by its very form -/
def isF : HO → Bool
  | .frz _ (.ext _) => true
  | .tbl _ => true
  | _ => false
/-- the store M stands in H at the addresses L; G is the part of H that never changes any more -/
structure ST (G H : Hp) (L : List Addr) (M : Sto) : Prop where
  ex : Sub G H
  fr : ∀ (i : Nat) a c, L[i]? = some a → M[i]? = some c → c ≠ Cell.dead → G a = none
  nd : L.Nodup
  len : L.length = M.length
  here : ∀ a ∈ L, H a ≠ none
  at_ : ∀ (i : Nat) a c, L[i]? = some a → M[i]? = some c → CellAt K ca G H L a c
  ti : TI H
  kt : ∀ a o, H a = some o → isF o = true → a ∉ L ∧ G a = none
/-- what may have happened between two moments -/
structure Step (G H : Hp) (L : List Addr) (G' H' : Hp) (L' : List Addr) : Prop where
  g : Sub G G'
  l : L <+: L'
  h : ∀ p o, H p = some o → p ∉ L → (∀ ps, o ≠ .tbl ps) → H' p = some o
  n : ∀ p, p ∈ L' → p ∈ L ∨ H p = none
  gn : ∀ p, G p = none → G' p ≠ none → p ∈ L ∨ H p = none
  s : ∀ p, H p ≠ none → H' p ≠ none
/-- a result, made behind the moment at which H stood -/
def RR (H0 G H : Hp) (L : List Addr) (v : V) : Res → Prop
  | .v x => VR K G L v x
  | .nl xs => ∃ p vs, v = .ref p ∧ H p = some (.lst vs) ∧ G p = none ∧ p ∉ L ∧ H0 p = none ∧ DQAll G vs xs
  | .nd kvs => ∃ p, v = .ref p ∧ H p = some (.dK (enc kvs)) ∧ G p = none ∧ p ∉ L ∧ H0 p = none
def ER (G : Hp) (L : List Addr) (σ : L2.St) (ρ : Env) : Prop := σ.length = ρ.length ∧ ∀ (i : Nat) (x : Val), ρ[i]? = some (some x) → ∃ v, σ[i]? = some (some v) ∧ VR K G L v x
end

def settle (r : Res) (M : Sto) : Val × Sto := match r with
  | .v x => (x, M)
  | .nl xs => (.d (.list xs), M)
  | .nd kvs => (.loc M.length, M ++ [.dct kvs])

section
variable {K : PySem.W.Frag} {ca : Str → Addr} {TI : Hp → Prop} {G G' G'' H H' H'' H0 H1 : Hp} {L L' L'' : List Addr} {M M' : Sto} {v : V} {x : Val} {r : Res} {σ : L2.St} {ρ : Env}
theorem pre_get {α : Type} {l l' : List α} {i : Nat} {a : α} (p : l <+: l') (h : l[i]? = some a) : l'[i]? = some a := by
  obtain ⟨t, rfl⟩ := p
  have hi : i < l.length := (List.getElem?_eq_some_iff.mp h).1
  rw [List.getElem?_append_left hi]; exact h
theorem VR.mono (g : Sub G G') (l : L <+: L') (h : VR K G L v x) : VR K G' L' v x := by
  cases x with
  | d x => exact dp_mono g x v h
  | loc k =>
    obtain ⟨a, h1, h2⟩ := h
    exact ⟨a, pre_get l h1, h2⟩
  | scr xs =>
    obtain ⟨a, vs, h1, h2, h3⟩ := h
    exact ⟨a, vs, h1, Evl.ex_l g h2, dpa_mono g xs vs h3⟩
  | dic kvs =>
    obtain ⟨a, o, h1, h2⟩ := h
    exact ⟨a, o, h1, g _ _ h2⟩
  | fn f => exact h
theorem FR.mono (g : Sub G G') (l : L <+: L') : ∀ {fv : List (Str × V)} {fs : List (Str × Val)}, FR K G L fv fs → FR K G' L' fv fs
  | _, _, .nil => .nil
  | _, _, .cons h t => .cons ⟨h.1, h.2.mono g l⟩ (FR.mono g l t)
theorem ER.mono (g : Sub G G') (l : L <+: L') (h : ER K G L σ ρ) : ER K G' L' σ ρ := ⟨h.1, fun i x e => by
  obtain ⟨v, h1, h2⟩ := h.2 i x e
  exact ⟨v, h1, h2.mono g l⟩⟩
theorem Step.refl : Step G H L G H L := ⟨Evl.Ex.refl G, List.prefix_refl L, fun _ _ e _ _ => e, fun _ h => .inl h, fun _ a b => absurd a b, fun _ h => h⟩
theorem Step.trans (a : Step G H L G' H' L') (b : Step G' H' L' G'' H'' L'') : Step G H L G'' H'' L'' where
  g := a.g.trans b.g
  l := a.l.trans b.l
  h := fun p o e n t => b.h p o (a.h p o e n t) (fun z => (a.n p z).elim n fun q => by rw [e] at q; cases q) t
  n := fun p hp => (b.n p hp).elim (a.n p) fun q => .inr (Classical.byContradiction fun z => a.s p z q)
  gn := fun p h1 h2 => by
    by_cases h : G' p = none
    · exact (b.gn p h h2).elim (a.n p) fun q => .inr (Classical.byContradiction fun z => a.s p z q)
    · exact a.gn p h1 h
  s := fun p h => b.s p (a.s p h)
theorem Step.back (a : Step G H L G' H' L') {p : Addr} (h : H' p = none) : H p = none := Classical.byContradiction fun z => a.s p z h
theorem RR.back (a : Step G H L G' H' L') (h : RR K H' G'' H'' L'' v r) : RR K H G'' H'' L'' v r := by
  cases r with
  | v x => exact h
  | nl xs =>
    obtain ⟨p, vs, h1, h2, h3, h4, h5, h6⟩ := h
    exact ⟨p, vs, h1, h2, h3, h4, a.back h5, h6⟩
  | nd kvs =>
    obtain ⟨p, h1, h2, h3, h4, h5⟩ := h
    exact ⟨p, h1, h2, h3, h4, a.back h5⟩
/-- a cell's description holds on where its own object and the frozen part stand -/
theorem CellAt.keep {a : Addr} {c : Cell} (h : CellAt K ca G H L a c) (g : Sub G G') (l : L <+: L') (e : H' a = H a) : CellAt K ca G' H' L' a c := by
  cases c with
  | lst xs =>
    obtain ⟨vs, h1, h2⟩ := h
    exact ⟨vs, by rw [e]; exact h1, dpa_mono g xs vs h2⟩
  | dct kvs => show H' a = _; rw [e]; exact h
  | ins c fs =>
    obtain ⟨dx, fv, h1, h2⟩ := h
    exact ⟨dx, fv, by rw [e]; exact h1, h2.mono g l⟩
  | dead => trivial
theorem app_get {α : Type} {l : List α} {b a : α} {i : Nat} (h : (l ++ [b])[i]? = some a) : l[i]? = some a ∨ (i = l.length ∧ a = b) := by
  by_cases hi : i < l.length
  · rw [List.getElem?_append_left hi] at h; exact .inl h
  · rw [List.getElem?_append_right (by omega)] at h
    have : i - l.length = 0 := by
      have := (List.getElem?_eq_some_iff.mp h).1
      simp at this; omega
    rw [this] at h
    simp at h
    exact .inr ⟨by omega, h.symm⟩
theorem last_get {α : Type} (l : List α) (b : α) : (l ++ [b])[l.length]? = some b := by simp
/-- a new object becomes a cell -/
theorem ST.push {p : Addr} {c : Cell} (s : ST K ca TI G H L M) (hp : H p ≠ none) (hG : G p = none) (hL : p ∉ L) (hc : CellAt K ca G H (L ++ [p]) p c) (hk : ∀ o, H p = some o → isF o = false) : ST K ca TI G H (L ++ [p]) (M ++ [c]) where
  ex := s.ex
  fr := fun i a c' h1 h2 h3 => by
    rcases app_get h1 with h1 | ⟨h1, rfl⟩
    · have hi : i < L.length := (List.getElem?_eq_some_iff.mp h1).1
      rw [List.getElem?_append_left (by rw [← s.len]; exact hi)] at h2
      exact s.fr i a c' h1 h2 h3
    · exact hG
  nd := List.nodup_append.mpr ⟨s.nd, by simp, fun a ha b hb => by
    simp at hb
    subst hb
    exact fun e => hL (e ▸ ha)⟩
  len := by simp [s.len]
  here := fun a ha => by
    rcases List.mem_append.mp ha with ha | ha
    · exact s.here a ha
    · simp at ha; subst ha; exact hp
  at_ := fun i a c' h1 h2 => by
    rcases app_get h1 with h1 | ⟨h3, rfl⟩
    · have hi : i < L.length := (List.getElem?_eq_some_iff.mp h1).1
      rw [List.getElem?_append_left (by rw [← s.len]; exact hi)] at h2
      exact (s.at_ i a c' h1 h2).keep (Evl.Ex.refl G) (List.prefix_append _ _) rfl
    · subst h3
      rw [s.len, last_get] at h2
      cases h2
      exact hc
  ti := s.ti
  kt := fun a o e f => by
    obtain ⟨k1, k2⟩ := s.kt a o e f
    refine ⟨fun z => ?_, k2⟩
    rcases List.mem_append.mp z with z | z
    · exact k1 z
    · simp at z
      subst z
      rw [hk o e] at f
      cases f
/-- more is frozen -/
theorem ST.freeze {p : Addr} {o : HO} (s : ST K ca TI G H L M) (hG : G p = none) (hH : H p = some o) (hL : ∀ (i : Nat) c, L[i]? = some p → M[i]? = some c → c = Cell.dead) (hk : isF o = false := by rfl) : ST K ca TI (upd G p o) H L M where
  ex := fun a u e => by
    by_cases h : a = p
    · subst h; rw [upd_same] at e; cases e; exact hH
    · rw [upd_ne h] at e; exact s.ex a u e
  fr := fun i a c h1 h2 h3 => by
    by_cases h : a = p
    · subst h; exact absurd (hL i c h1 h2) h3
    · rw [upd_ne h]; exact s.fr i a c h1 h2 h3
  nd := s.nd
  len := s.len
  here := s.here
  at_ := fun i a c h1 h2 => (s.at_ i a c h1 h2).keep (Evl.Ex.new hG) (List.prefix_refl L) rfl
  ti := s.ti
  kt := fun a w e f => by
    obtain ⟨k1, k2⟩ := s.kt a w e f
    refine ⟨k1, ?_⟩
    rw [upd_ne (fun z => by
      subst z
      rw [hH] at e
      cases e
      rw [hk] at f
      cases f)]
    exact k2
theorem settle_ok (st : Step G H L G' H' L') (s : ST K ca TI G' H' L' M') (r' : RR K H G' H' L' v r) :
    ∃ G2 L2, Step G H L G2 H' L2 ∧ ST K ca TI G2 H' L2 (settle r M').2 ∧ VR K G2 L2 v (settle r M').1 := by
  cases r with
  | v x => exact ⟨G', L', st, s, r'⟩
  | nl xs =>
    obtain ⟨p, vs, rfl, h2, h3, h4, h5, h6⟩ := r'
    refine ⟨upd G' p (.lst vs), L', ⟨st.g.trans (Evl.Ex.new h3), st.l, st.h, st.n, fun q a b => ?_, st.s⟩, s.freeze h3 h2 (fun i c e _ => absurd (List.mem_of_getElem? e) h4), ?_⟩
    · by_cases hq : q = p
      · subst hq; exact .inr h5
      · rw [upd_ne hq] at b; exact st.gn q a b
    · exact .lst upd_same (dpa_mono (Evl.Ex.new h3) xs vs h6)
  | nd kvs =>
    obtain ⟨p, rfl, h2, h3, h4, h5⟩ := r'
    refine ⟨G', L' ++ [p], ⟨st.g, st.l.trans (List.prefix_append _ _), st.h, fun q hq => ?_, st.gn, st.s⟩, s.push (by rw [h2]; simp) h3 h4 h2 (fun o e => by rw [h2] at e; cases e; rfl), ⟨p, ?_, rfl⟩⟩
    · rcases List.mem_append.mp hq with hq | hq
      · exact st.n q hq
      · simp at hq; subst hq; exact .inr h5
    · rw [← s.len]; exact last_get _ _
end
end PV

set_option maxRecDepth 100000
set_option maxHeartbeats 1000000
/-! readings of plain evaluations -/
namespace PV
open PySem PySem.Spec PyProof.Rows L2

/-- what must stay where the code objects' tables are tracked -/
def isK : HO → Bool
  | .tbl _ => true
  | .ext _ => true
  | .frz _ (.ext _) => true
  | _ => false
/-- a code object's table, a code object -/
def isKt (a : Addr) (o : HO) : Prop := (∃ ps, o = .tbl ps) ∨ (∃ q, o = LamX.CodeO a q) ∨ ∃ ob φ, o = .frz ob (.ext φ)
theorem isKt_of {a : Addr} {o : HO} (h : isKt a o) : isK o = true := by
  rcases h with ⟨ps, rfl⟩ | ⟨q, rfl⟩ | ⟨ob, φ, rfl⟩ <;> rfl
structure TOk (TI : Hp → Prop) : Prop where
  keep : ∀ H H' : Hp, (∀ a o, H a = some o → isKt a o → H' a = some o) → TI H → TI H'
theorem TOk.sub {TI : Hp → Prop} (t : TOk TI) {H H' : Hp} (e : Sub H H') (h : TI H) : TI H' := t.keep H H' (fun a o q _ => e a o q) h
theorem TOk.off {TI : Hp → Prop} (t : TOk TI) {H : Hp} {p : Addr} {o : HO} (hp : ∀ u, H p = some u → ¬ isKt p u) (h : TI H) : TI (upd H p o) := t.keep H _ (fun a w q k => by
  rw [upd_ne (fun z => by subst z; exact hp w q k)]
  exact q) h
theorem TOk.at_ {TI : Hp → Prop} (t : TOk TI) {H : Hp} {p : Addr} {u o : HO} (hp : H p = some u) (hu : isK u = false) (h : TI H) : TI (upd H p o) := t.off (fun w q k => by
  rw [hp] at q
  cases q
  rw [isKt_of k] at hu
  cases hu) h

def val (f : Den) : DenV := fun ρ M => (f ρ M).bind fun p => some (settle p.1 p.2)
theorem bo {α β : Type} {o : Option α} {k : α → Option β} {b : β} (h : o.bind k = some b) : ∃ a, o = some a ∧ k a = some b := Option.bind_eq_some_iff.mp h
theorem val_eq {f : Den} {ρ : Env} {M : Sto} {x : Val} {M' : Sto} (h : val f ρ M = some (x, M')) : ∃ r M1, f ρ M = some (r, M1) ∧ settle r M1 = (x, M') := by
  obtain ⟨⟨r, M1⟩, h1, h2⟩ := bo h
  exact ⟨r, M1, h1, Option.some.inj h2⟩

section
variable (K : PySem.W.Frag) (ca : Str → Addr) (TI : Hp → Prop)
def tE (f : Den) : TE := fun σ H Q => ∃ G L ρ M r M', ST K ca TI G H L M ∧ ER K G L σ ρ ∧ f ρ M = some (r, M') ∧
  ∀ G' H' L' v, Step G H L G' H' L' → ST K ca TI G' H' L' M' → RR K H G' H' L' v r → Q v H'
def tV (f : DenV) : TE := fun σ H Q => ∃ G L ρ M x M', ST K ca TI G H L M ∧ ER K G L σ ρ ∧ f ρ M = some (x, M') ∧
  ∀ G' H' L' v, Step G H L G' H' L' → ST K ca TI G' H' L' M' → VR K G' L' v x → Q v H'
/-- a test -/
def tB (f : Den) : TT := fun σ H Q => ∃ G L ρ M b M', ST K ca TI G H L M ∧ ER K G L σ ρ ∧ f ρ M = some (.v (.d (.bool b)), M') ∧
  ∀ G' H' L', Step G H L G' H' L' → ST K ca TI G' H' L' M' → Q b H'
/-- arguments -/
abbrev DenA := Env → Sto → Option (List Val × Sto)
def VRs (G : Hp) (L : List Addr) : List V → List Val → Prop := Paired fun v x => VR K G L v x
def tArgs (f : DenA) : TA := fun σ H Q => ∃ G L ρ M xs M', ST K ca TI G H L M ∧ ER K G L σ ρ ∧ f ρ M = some (xs, M') ∧
  ∀ G' H' L' vs, Step G H L G' H' L' → ST K ca TI G' H' L' M' → VRs K G' L' vs xs → Q vs H'
end
def dA0 : DenA := fun _ M => some ([], M)
def dA1 (f : Den) (g : DenA) : DenA := fun ρ M => (val f ρ M).bind fun p => (g ρ p.2).bind fun q => some (p.1 :: q.1, q.2)

theorem pe_imp {X : Cx} {e : Expr} {t t' : TE} (h : PE X e t) (k : ∀ σ H Q, t' σ H Q → t σ H Q) : PE X e t' := ⟨fun pins s σ H Q I q => h.run pins s σ H Q I (k σ H Q q)⟩
theorem pt_imp {X : Cx} {e : Expr} {t t' : TT} (h : PT X e t) (k : ∀ σ H Q, t' σ H Q → t σ H Q) : PT X e t' := ⟨fun pins s σ H Q I q => h.run pins s σ H Q I (k σ H Q q)⟩
theorem pw_imp {X : Cx} {e : Expr} {t t' : TT} (h : PW X e t) (k : ∀ σ H Q, t' σ H Q → t σ H Q) : PW X e t' := ⟨fun w pins s σ H Q I q => h.run w pins s σ H Q I (k σ H Q q)⟩
theorem pa_imp {X : Cx} {es : List Expr} {t t' : TA} (h : PA X es t) (k : ∀ σ H Q, t' σ H Q → t σ H Q) : PA X es t' := ⟨fun pos pins s σ H Q I q => h.run pos pins s σ H Q I (k σ H Q q)⟩
theorem ps_imp {X : Cx} {st : Stmt} {t t' : TS} (h : PS X st t) (k : ∀ D σ H, t' D σ H → t D σ H) : PS X st t' := ⟨fun pins s σ H D I q => h.run pins s σ H D I (k D σ H q)⟩
theorem pss_imp {X : Cx} {st : List Stmt} {t t' : TS} (h : PSs X st t) (k : ∀ D σ H, t' D σ H → t D σ H) : PSs X st t' := ⟨fun pins s σ H D I q => h.run pins s σ H D I (k D σ H q)⟩
theorem pi_imp {X : Cx} {tg e : Expr} {t t' : TI} (h : PI X tg e t) (k : ∀ σ H R, t' σ H R → t σ H R) : PI X tg e t' := ⟨fun pins s σ H R I q => h.run pins s σ H R I (k σ H R q)⟩
theorem pe_never {X : Cx} {e : Expr} : PE X e (fun _ _ _ => False) := ⟨fun _ _ _ _ _ _ h => h.elim⟩

section
variable {X : Cx} {K : PySem.W.Frag} {ca : Str → Addr} {TI : Hp → Prop} {e : Expr} {es : List Expr} {f g : Den} {fa : DenA} {σ : L2.St} {H : Hp}
theorem tE_of_tV {Q : VK} (h : tV K ca TI (val f) σ H Q) : tE K ca TI f σ H Q := by
  obtain ⟨G, L, ρ, M, x, M', s, er, hf, q⟩ := h
  obtain ⟨r, M1, h1, h2⟩ := val_eq hf
  refine ⟨G, L, ρ, M, r, M1, s, er, h1, fun G' H' L' v st s' rr => ?_⟩
  obtain ⟨G2, L2, st2, s2, v2⟩ := settle_ok st s' rr
  rw [h2] at s2 v2
  exact q G2 H' L2 v st2 s2 v2
theorem pe_v (h : PE X e (tE K ca TI f)) : PE X e (tV K ca TI (val f)) := pe_imp h fun _ _ _ q => tE_of_tV q
theorem vrs_mono {G G' : Hp} {L L' : List Addr} (g : Sub G G') (l : L <+: L') : ∀ {vs : List V} {xs : List Val}, VRs K G L vs xs → VRs K G' L' vs xs
  | _, _, .nil => .nil
  | _, _, .cons h t => .cons (h.mono g l) (vrs_mono g l t)
theorem pa0 : PA X [] (tArgs K ca TI dA0) := pa_imp pa_nil fun σ H Q h => by
  obtain ⟨G, L, ρ, M, xs, M', s, er, hf, q⟩ := h
  cases hf
  exact q G H L [] Step.refl s .nil
theorem pa1 (h1 : PE X e (tE K ca TI f)) (h2 : PA X es (tArgs K ca TI fa)) (hs : starEach (e :: es) X.env = (false, eval e X.env) :: starEach es X.env) : PA X (e :: es) (tArgs K ca TI (dA1 f fa)) :=
  pa_imp (pa_cons (pe_v h1) h2 hs) fun σ H Q h => by
    obtain ⟨G, L, ρ, M, xs, M', s, er, hf, q⟩ := h
    obtain ⟨⟨x, M1⟩, e1, hf⟩ := bo hf
    obtain ⟨⟨ys, M2⟩, e2, hf⟩ := bo hf
    cases hf
    refine ⟨G, L, ρ, M, x, M1, s, er, e1, fun G1 H1 L1 v st1 s1 v1 => ?_⟩
    refine ⟨G1, L1, ρ, M1, ys, _, s1, er.mono st1.g st1.l, e2, fun G2 H2 L2 vs st2 s2 v2 => ?_⟩
    exact q G2 H2 L2 (v :: vs) (st1.trans st2) s2 (.cons (v1.mono st2.g st2.l) v2)
end

/-- a value looked at as data -/
def rd (x : Val) (M : Sto) : Option PyData := match x with
  | .d d => some d
  | .loc k => match M[k]? with
    | some (.lst xs) => some (.list xs)
    | _ => none
  | .scr _ => none
  | .dic _ => none
  | .fn _ => none
/-- .. the script too -/
def rdw (x : Val) (M : Sto) : Option PyData := match x with
  | .scr xs => some (.list xs)
  | x => rd x M
def rds (R : Val → Sto → Option PyData) : List Val → Sto → Option (List PyData)
  | [], _ => some []
  | x :: xs, M => (R x M).bind fun d => (rds R xs M).bind fun ds => some (d :: ds)

/-- data as they are looked at: the top may be a cell -/
def DR (G H : Hp) (v : V) (d : PyData) : Prop := DQ H v d ∧ match d with
  | .list ds => ∃ a vs, v = .ref a ∧ H a = some (.lst vs) ∧ DQAll G vs ds
  | d => DQ G v d
/-- the list may be the script -/
def DW (K : PySem.W.Frag) (G H : Hp) (v : V) (d : PyData) : Prop := DR G H v d ∨ ∃ a vs ds, v = .ref a ∧ d = .list ds ∧ SqL K H a vs ∧ DQAll G vs ds
def DRs (D : V → PyData → Prop) : List V → List PyData → Prop := Paired D
theorem dr_tup {G H : Hp} {v : V} {ds : List PyData} (e : Sub G H) (h : DR G H v (.tuple ds)) : ∃ a vs, v = .ref a ∧ TF H a vs ∧ DQAll G vs ds := by
  have h2 : DQ G v (.tuple ds) := h.2
  cases h2 with
  | tup hs ha =>
    obtain ⟨o, h1, h3⟩ := hs
    exact ⟨_, _, rfl, ⟨o, h1, e _ _ h3⟩, ha⟩
section
variable {K : PySem.W.Frag} {ca : Str → Addr} {TI : Hp → Prop} {G H H' : Hp} {L : List Addr} {M : Sto} {v : V} {x : Val} {d : PyData}
theorem dr_dp (e : Sub G H) (h : DQ G v d) : DR G H v d := by
  refine ⟨dp_mono e d v h, ?_⟩
  cases h with
  | lst hs ha => exact ⟨_, _, rfl, e _ _ hs, ha⟩
  | tup hs ha => exact .tup hs ha
  | non => exact .non
  | bl b => exact .bl b
  | int i => exact .int i
  | str z => exact .str z
theorem dr_of (s : ST K ca TI G H L M) (h : VR K G L v x) (e : rd x M = some d) : DR G H v d := by
  cases x with
  | d y =>
    cases e
    exact dr_dp s.ex h
  | loc k =>
    obtain ⟨a, ha, rfl⟩ := h
    unfold rd at e
    cases em : M[k]? with
    | none => simp [em] at e
    | some c =>
      simp only [em] at e
      cases c with
      | lst xs =>
        cases e
        obtain ⟨vs, h1, h2⟩ := s.at_ k a _ ha em
        exact ⟨.lst h1 (dpa_mono s.ex xs vs h2), a, vs, rfl, h1, h2⟩
      | dct _ => cases e
      | ins _ _ => cases e
      | dead => cases e
  | scr _ => cases e
  | dic _ => cases e
  | fn _ => cases e
theorem dw_of (s : ST K ca TI G H L M) (h : VR K G L v x) (e : rdw x M = some d) : DW K G H v d := by
  cases x with
  | d y => exact .inl (dr_of s h e)
  | loc k => exact .inl (dr_of s h e)
  | scr xs =>
    cases e
    obtain ⟨a, vs, rfl, h2, h3⟩ := h
    exact .inr ⟨a, vs, xs, rfl, rfl, Evl.ex_l s.ex h2, h3⟩
  | dic _ => cases e
  | fn _ => cases e
theorem drs_of {R : Val → Sto → Option PyData} {D : V → PyData → Prop} (hR : ∀ v x d, VR K G L v x → R x M = some d → D v d) :
    ∀ {vs : List V} {xs : List Val} {ds : List PyData}, VRs K G L vs xs → rds R xs M = some ds → DRs D vs ds
  | [], [], ds, _, e => by cases e; exact .nil
  | v :: vs, x :: xs, ds, h, e => by
    cases h with
    | cons h1 h2 =>
      obtain ⟨d, e1, e⟩ := bo e
      obtain ⟨r, e2, e⟩ := bo e
      cases e
      exact .cons (hR v x d h1 e1) (drs_of hR h2 e2)
end

/-! ### what an operation on values brings -/
def Out (TI : Hp → Prop) (G H H' : Hp) (v : V) (r : Res) : Prop := ∃ G', Sub G G' ∧ Sub G' H' ∧ Sub H H' ∧ (∀ p, G p = none → G' p ≠ none → H p = none) ∧ TI H' ∧ (∀ p o, G p = none → G' p = some o → isF o = false) ∧ match r with
  | .v (.d d) => DQ G' v d
  | .v _ => False
  | .nl xs => ∃ p vs, v = .ref p ∧ H p = none ∧ H' p = some (.lst vs) ∧ G' p = none ∧ DQAll G' vs xs
  | .nd kvs => ∃ p, v = .ref p ∧ H p = none ∧ H' p = some (.dK (enc kvs)) ∧ G' p = none
section
variable {K : PySem.W.Frag} {ca : Str → Addr} {TI : Hp → Prop} {G H H' : Hp} {L : List Addr} {M : Sto} {v : V} {r : Res} {d : PyData}
theorem out_v (e : Sub G H) (t : TI H) (h : DQ G v d) : Out TI G H H v (.v (.d d)) := ⟨G, Evl.Ex.refl G, e, Evl.Ex.refl H, fun _ a b => absurd a b, t, fun q o a b => (by rw [a] at b; cases b), h⟩
theorem sub_upd {p : Addr} {o : HO} (e : Sub G H) (h : H p = none) : Sub (upd G p o) (upd H p o) := fun a u q => by
  by_cases ha : a = p
  · subst ha; rw [upd_same] at q ⊢; exact q
  · rw [upd_ne ha] at q ⊢; exact e a u q
theorem out_tup (T : TOk TI) (e : Sub G H) (t : TI H) {p : Addr} {o : Obj} {vs : List V} {ds : List PyData} (hp : H p = none) (ho : o.dict = none) (h : DQAll G vs ds) : Out TI G H (upd H p (.frz o (.tup vs))) (.ref p) (.v (.d (.tuple ds))) := by
  have gp : G p = none := Evl.fresh_back e hp
  exact ⟨upd G p (.frz o (.tup vs)), Evl.Ex.new gp, sub_upd e hp, Evl.Ex.new hp, fun q a b => by
    by_cases hq : q = p
    · subst hq; exact hp
    · rw [upd_ne hq] at b; exact absurd a b, T.sub (Evl.Ex.new hp) t, fun q w a b => (by
    by_cases hq : q = p
    · subst hq; rw [upd_same] at b; cases b; rfl
    · rw [upd_ne hq, a] at b; cases b), .tup ⟨o, ho, upd_same⟩ (dpa_mono (Evl.Ex.new gp) ds vs h)⟩
theorem new_tup (T : TOk TI) (e : Sub G H) (t : TI H) {vs : List V} {ds : List PyData} {Q : VK} (h : DQAll G vs ds) (q : ∀ v H', Out TI G H H' v (.v (.d (.tuple ds))) → Q v H') : NewT H Q vs := fun p o hp ho => q _ _ (out_tup T e t hp ho h)
theorem out_lst (T : TOk TI) (e : Sub G H) (t : TI H) {p : Addr} {vs : List V} {ds : List PyData} (hp : H p = none) (h : DQAll G vs ds) : Out TI G H (upd H p (.lst vs)) (.ref p) (.nl ds) := by
  have gp : G p = none := Evl.fresh_back e hp
  exact ⟨G, Evl.Ex.refl G, e.trans (Evl.Ex.new hp), Evl.Ex.new hp, fun q a b => absurd a b, T.sub (Evl.Ex.new hp) t, fun q o a b => (by rw [a] at b; cases b), p, vs, rfl, hp, upd_same, gp, h⟩
theorem out_step (s : ST K ca TI G H L M) (o : Out TI G H H' v r) : ∃ G', Step G H L G' H' L ∧ ST K ca TI G' H' L M ∧ RR K H G' H' L v r := by
  obtain ⟨G', h1, h2, h3, h4, h5, h7, h6⟩ := o
  have st : Step G H L G' H' L := ⟨h1, List.prefix_refl L, fun p o e _ _ => h3 p o e, fun p hp => .inl hp, fun p a b => .inr (h4 p a b), fun p hp => by
    cases e : H p with
    | none => exact absurd e hp
    | some u => rw [h3 p u e]; simp⟩
  refine ⟨G', st, ⟨h2, fun i a c e1 e2 e3 => ?_, s.nd, s.len, fun a ha => st.s a (s.here a ha), fun i a c e1 e2 => ?_, h5, fun a w e f => ?_⟩, ?_⟩
  rotate_left 2
  · cases ea : H a with
    | none =>
      refine ⟨fun z => s.here a z ea, ?_⟩
      cases eg : G' a with
      | none => rfl
      | some w2 =>
        have e2 := h2 a w2 eg
        rw [e] at e2
        cases e2
        rw [h7 a w (Evl.fresh_back s.ex ea) eg] at f
        cases f
    | some w1 =>
      have e2 := h3 a w1 ea
      rw [e] at e2
      cases e2
      obtain ⟨k1, k2⟩ := s.kt a w ea f
      refine ⟨k1, Classical.byContradiction fun z => ?_⟩
      rw [h4 a k2 z] at ea
      cases ea
  rotate_left
  · have ga := s.fr i a c e1 e2 e3
    have ha := s.here a (List.mem_of_getElem? e1)
    exact Classical.byContradiction fun z => ha (h4 a ga z)
  · refine (s.at_ i a c e1 e2).keep h1 (List.prefix_refl L) ?_
    have ha := s.here a (List.mem_of_getElem? e1)
    cases e : H a with
    | none => exact absurd e ha
    | some u => exact h3 a u e
  · have nl : ∀ p, H p = none → p ∉ L := fun p hp hL => s.here p hL hp
    cases r with
    | v x => cases x with
      | d x => exact h6
      | loc k => exact h6.elim
      | scr _ => exact h6.elim
      | dic _ => exact h6.elim
      | fn _ => exact h6.elim
    | nl xs =>
      obtain ⟨p, vs, e1, e2, e3, e4, e5⟩ := h6
      exact ⟨p, vs, e1, e3, e4, nl p e2, e2, e5⟩
    | nd kvs =>
      obtain ⟨p, e1, e2, e3, e4⟩ := h6
      exact ⟨p, e1, e3, e4, nl p e2, e2⟩
end

/-! ### operators -/
abbrev Lk : Type := Bool
/-- the look: false the strict one, true the script too -/
def lk (b : Bool) : Val → Sto → Option PyData := if b then rdw else rd
def DL (b : Bool) (K : PySem.W.Frag) (G H : Hp) (v : V) (d : PyData) : Prop := if b then DW K G H v d else DR G H v d
theorem dl_of {K : PySem.W.Frag} {ca : Str → Addr} {TI : Hp → Prop} {G H : Hp} {L : List Addr} {M : Sto} {v : V} {x : Val} {d : PyData} {b : Bool} (s : ST K ca TI G H L M) (h : VR K G L v x) (e : lk b x M = some d) : DL b K G H v d := by
  cases b with
  | true => exact dw_of s h e
  | false => exact dr_of s h e
def rB (b : Bool) (K : PySem.W.Frag) (TI : Hp → Prop) (F : PyData → PyData → Option Res) : R2 := fun x y H Q => ∃ G a c r, Sub G H ∧ TI H ∧ DL b K G H x a ∧ DR G H y c ∧ F a c = some r ∧ ∀ v H', Out TI G H H' v r → Q v H'
def rU1 (TI : Hp → Prop) (F : PyData → Option Res) : V → Hp → VK → Prop := fun x H Q => ∃ G a r, Sub G H ∧ TI H ∧ DR G H x a ∧ F a = some r ∧ ∀ v H', Out TI G H H' v r → Q v H'
def rC (b : Bool) (K : PySem.W.Frag) (TI : Hp → Prop) (F : List PyData → Option Res) : List V → Hp → VK → Prop := fun xs H Q => ∃ G ds r, Sub G H ∧ TI H ∧ DRs (DL b K G H) xs ds ∧ F ds = some r ∧ ∀ v H', Out TI G H H' v r → Q v H'
def dBin (l : Bool) (F : PyData → PyData → Option Res) (f g : Den) : Den := fun ρ M => (val f ρ M).bind fun p => (val g ρ p.2).bind fun q => (lk l p.1 q.2).bind fun a => (rd q.1 q.2).bind fun b => (F a b).bind fun r => some (r, q.2)
def dUn (F : PyData → Option Res) (f : Den) : Den := fun ρ M => (val f ρ M).bind fun p => (rd p.1 p.2).bind fun a => (F a).bind fun r => some (r, p.2)
def dCB (l : Bool) (F : List PyData → Option Res) (fa : DenA) : Den := fun ρ M => (fa ρ M).bind fun p => (rds (lk l) p.1 p.2).bind fun ds => (F ds).bind fun r => some (r, p.2)
section
variable {X : Cx} {K : PySem.W.Frag} {ca : Str → Addr} {TI : Hp → Prop} {e a b : Expr} {es : List Expr} {f g : Den} {fa : DenA} {σ : L2.St} {H : Hp} {l : Bool}
theorem tBin_of {F : PyData → PyData → Option Res} {Q : VK} (h : tE K ca TI (dBin l F f g) σ H Q) : tOp (rB l K TI F) (tV K ca TI (val f)) (tV K ca TI (val g)) σ H Q := by
  obtain ⟨G, L, ρ, M, r, M', s, er, hf, q⟩ := h
  obtain ⟨⟨x, M1⟩, e1, hf⟩ := bo hf
  obtain ⟨⟨y, M2⟩, e2, hf⟩ := bo hf
  obtain ⟨a, e3, hf⟩ := bo hf
  obtain ⟨b, e4, hf⟩ := bo hf
  obtain ⟨r', e5, hf⟩ := bo hf
  cases hf
  refine ⟨G, L, ρ, M, x, M1, s, er, e1, fun G1 H1 L1 v st1 s1 v1 => ?_⟩
  refine ⟨G1, L1, ρ, M1, y, _, s1, er.mono st1.g st1.l, e2, fun G2 H2 L2 u st2 s2 v2 => ?_⟩
  refine ⟨G2, a, b, r, s2.ex, s2.ti, dl_of s2 (v1.mono st2.g st2.l) e3, dr_of s2 v2 e4, e5, fun w H3 o => ?_⟩
  obtain ⟨G3, st3, s3, rr⟩ := out_step (K := K) s2 o
  exact q G3 H3 L2 w ((st1.trans st2).trans st3) s3 (rr.back (st1.trans st2))
theorem tUn_of {F : PyData → Option Res} {Q : VK} (h : tE K ca TI (dUn F f) σ H Q) : tUn (rU1 TI F) (tV K ca TI (val f)) σ H Q := by
  obtain ⟨G, L, ρ, M, r, M', s, er, hf, q⟩ := h
  obtain ⟨⟨x, M1⟩, e1, hf⟩ := bo hf
  obtain ⟨a, e3, hf⟩ := bo hf
  obtain ⟨r', e5, hf⟩ := bo hf
  cases hf
  refine ⟨G, L, ρ, M, x, _, s, er, e1, fun G1 H1 L1 v st1 s1 v1 => ?_⟩
  refine ⟨G1, a, r, s1.ex, s1.ti, dr_of s1 v1 e3, e5, fun w H3 o => ?_⟩
  obtain ⟨G3, st3, s3, rr⟩ := out_step (K := K) s1 o
  exact q G3 H3 L1 w (st1.trans st3) s3 (rr.back st1)
theorem tCB_of {F : List PyData → Option Res} {Q : VK} (h : tE K ca TI (dCB l F fa) σ H Q) : tCB (rC l K TI F) (tArgs K ca TI fa) σ H Q := by
  obtain ⟨G, L, ρ, M, r, M', s, er, hf, q⟩ := h
  obtain ⟨⟨xs, M1⟩, e1, hf⟩ := bo hf
  obtain ⟨ds, e3, hf⟩ := bo hf
  obtain ⟨r', e5, hf⟩ := bo hf
  cases hf
  refine ⟨G, L, ρ, M, xs, _, s, er, e1, fun G1 H1 L1 vs st1 s1 v1 => ?_⟩
  refine ⟨G1, ds, r, s1.ex, s1.ti, drs_of (fun v x d h1 h2 => dl_of s1 h1 h2) v1 e3, e5, fun w H3 o => ?_⟩
  obtain ⟨G3, st3, s3, rr⟩ := out_step (K := K) s1 o
  exact q G3 H3 L1 w (st1.trans st3) s3 (rr.back st1)
theorem pe_bin {op : Operator} {pos : Pos} {F : PyData → PyData → Option Res} (ho : OpR X (binaryOp op) (rB l K TI F)) (ha : PE X a (tE K ca TI f)) (hb : PE X b (tE K ca TI g)) : PE X (.BinOp a op b pos) (tE K ca TI (dBin l F f g)) :=
  pe_imp (pe_op ho (pe_v ha) (pe_v hb)) fun _ _ _ h => tBin_of h
theorem pe_cmp1 {op : CmpOp} {pos : Pos} {F : PyData → PyData → Option Res} (ho : OpR X (compareOp op) (rB l K TI F)) (ha : PE X a (tE K ca TI f)) (hb : PE X b (tE K ca TI g)) (hm : behindInMarks op b = false) : PE X (.Compare a [op] [b] pos) (tE K ca TI (dBin l F f g)) :=
  pe_imp (pe_cmpR ho (pe_v ha) (pe_v hb) hm) fun _ _ _ h => tBin_of h
theorem pe_unary {op : UnaryOp} {pos : Pos} {F : PyData → Option Res} (ho : UnR X (unaryOp op) (rU1 TI F)) (ha : PE X a (tE K ca TI f)) : PE X (.UnaryOp op a pos) (tE K ca TI (dUn F f)) :=
  pe_imp (pe_un ho (pe_v ha)) fun _ _ _ h => tUn_of h
end
end PV

set_option maxRecDepth 100000
set_option maxHeartbeats 1000000
/-! operators on plain data -/
namespace PV
open PySem PySem.Spec PyProof.Rows L2

abbrev big : Nat := 100000
theorem big_le {n : Nat} (h : n ≤ big) : n ≤ sizeLine := Nat.le_trans h (by decide)
def dv (d : PyData) : Option Res := some (.v (.d d))
def rint (i : Int) : Option Res := dv (.int i)
def rbl (b : Bool) : Option Res := dv (.bool b)

def fAdd : PyData → PyData → Option Res
  | .int i, .int j => rint (i + j)
  | .tuple xs, .tuple ys => if xs.length + ys.length ≤ big then dv (.tuple (xs ++ ys)) else none
  | .list xs, .list ys => if xs.length + ys.length ≤ big then some (.nl (xs ++ ys)) else none
  | _, _ => none
def fSub : PyData → PyData → Option Res
  | .int i, .int j => rint (i - j)
  | _, _ => none
def mulOk (i : Int) : Bool := decide (-(2 ^ 64) < i ∧ i < 2 ^ 64)
def fMul : PyData → PyData → Option Res
  | .int i, .int j => if mulOk i || mulOk j then rint (i * j) else none
  | .tuple xs, .int k => if decide (xs ≠ []) && decide (2 ≤ k) && decide (k ≤ 1000) && decide (xs.length ≤ 1000) then dv (.tuple (List.replicate k.toNat xs).flatten) else none
  | .list xs, .int k => if decide (-1000 ≤ k) && decide (k ≤ 1000) && decide (xs.length ≤ 100) then some (.nl (List.replicate k.toNat xs).flatten) else none
  | _, _ => none
def fFdiv : PyData → PyData → Option Res
  | .int i, .int j => if decide (0 < j) && decide (j < 1073741824) then rint (i / j) else none
  | _, _ => none
def fMod : PyData → PyData → Option Res
  | .int i, .int j => if decide (0 < j) then rint (i % j) else none
  | _, _ => none
def fPow : PyData → PyData → Option Res
  | .int i, .int j => if decide (0 ≤ j) && decide (j ≤ 1000000) && decide (i.natAbs < 2 ^ 64) then rint (i ^ j.toNat) else none
  | _, _ => none
def fNeg : PyData → Option Res
  | .int i => rint (-i)
  | _ => none
def fLt : PyData → PyData → Option Res
  | .int i, .int j => rbl (decide (i < j))
  | .tuple xs, .tuple ys => (intsOf xs).bind fun ns => (intsOf ys).bind fun ms => rbl (HT.lexLt ns ms)
  | _, _ => none
def fLe : PyData → PyData → Option Res
  | .int i, .int j => rbl (decide (i ≤ j))
  | _, _ => none
def fGt : PyData → PyData → Option Res
  | .int i, .int j => rbl (decide (j < i))
  | _, _ => none
def fGe : PyData → PyData → Option Res
  | .int i, .int j => rbl (decide (j ≤ i))
  | _, _ => none
/-- what == of data asks -/
def eqOk (a b : PyData) : Bool := a.canLay0 && b.canLay0 && decide (min a.depth b.depth ≤ 150)
def fEq : PyData → PyData → Option Res
  | .str x, .str y => rbl (decide (x = y))
  | a, b => if eqOk a b then rbl (PyData.eqv a b) else none
def fNe : PyData → PyData → Option Res
  | .str x, .str y => rbl (!decide (x = y))
  | a, b => if eqOk a b then rbl (!PyData.eqv a b) else none
def inOk (d : PyData) (xs : List PyData) : Bool := PyData.canLayAll0 xs && d.canLay0 && decide (min (PyData.depthAll xs) d.depth ≤ 150)
def fIn (neg : Bool) : PyData → PyData → Option Res
  | d, .list xs => if inOk d xs then rbl (if neg then !xs.any (fun y => PyData.eqv y d) else xs.any fun y => PyData.eqv y d) else none
  | d, .tuple xs => if inOk d xs then rbl (if neg then !xs.any (fun y => PyData.eqv y d) else xs.any fun y => PyData.eqv y d) else none
  | _, _ => none
def isNone : PyData → Bool
  | .none => true
  | _ => false
/-- is None, is True, is False -/
def fIs (neg : Bool) : PyData → PyData → Option Res
  | d, .none => rbl (if neg then !isNone d else isNone d)
  | .bool a, .bool b => rbl (if neg then !decide (a = b) else decide (a = b))
  | _, _ => none

theorem dpa_rep {G : Hp} {vs : List V} {ds : List PyData} (h : DQAll G vs ds) : ∀ n : Nat, DQAll G (List.replicate n vs).flatten (List.replicate n ds).flatten
  | 0 => .nil
  | n + 1 => by
    rw [List.replicate_succ, List.replicate_succ, List.flatten_cons, List.flatten_cons]
    exact dpa_app h (dpa_rep h n)
section
variable {X : Cx} {TI : Hp → Prop} {G H : Hp} {v : V} {d : PyData} {i : Int} {b : Bool} {x : Str}
theorem dr_int (h : DR G H v (.int i)) : v = .int i := by cases h.1; rfl
theorem dr_bool (h : DR G H v (.bool b)) : v = .bl b := by cases h.1; rfl
theorem dr_str (h : DR G H v (.str x)) : v = .str x := by cases h.1; rfl
theorem dr_none (h : DR G H v .none) : v = .non := by cases h.1; rfl
theorem q_int {Q : VK} {r : Res} (sb : Sub G H) (ti : TI H) (hf : rint i = some r) (q : ∀ v H', Out TI G H H' v r → Q v H') : Q (.int i) H := by
  cases hf
  exact q _ _ (out_v sb ti (.int i))
theorem q_bl {Q : VK} {r : Res} (sb : Sub G H) (ti : TI H) (hf : rbl b = some r) (q : ∀ v H', Out TI G H H' v r → Q v H') : Q (.bl b) H := by
  cases hf
  exact q _ _ (out_v sb ti (.bl b))
/-- operators on two numbers -/
theorem oInt2 {f : Value → Value → Sem Value} {C : Int → Int → Prop} {g : Int → Int → V} {F : PyData → PyData → Option Res} (ho : OpR X f (rI C g))
    (hF : ∀ a c r, F a c = some r → ∃ i j, a = .int i ∧ c = .int j ∧ C i j ∧ ∀ (G H : Hp) (Q : VK), Sub G H → TI H → (∀ v H', Out TI G H H' v r → Q v H') → Q (g i j) H) : OpR X f (rB false X.K TI F) := by
  intro pins s σ H x y v u Q I rx ry h
  obtain ⟨G, a, c, r, sb, ti, ha, hc, hf, q⟩ := h
  obtain ⟨i, j, rfl, rfl, hC, k⟩ := hF a c r hf
  have e1 := dr_int (show DR G H x (.int i) from ha)
  have e2 := dr_int hc
  subst e1 e2
  exact ho pins s σ H _ _ v u Q I rx ry ⟨i, j, rfl, rfl, hC, k G H Q sb ti q⟩
theorem opI_of {f : Value → Value → Sem Value} {g : Int → Int → V} (ho : OpR X f (rI0 g)) : OpR X f (rI (fun _ _ => True) g) := by
  intro pins s σ H x y v u Q I rx ry h
  obtain ⟨i, j, e1, e2, _, q⟩ := h
  exact ho pins s σ H x y v u Q I rx ry ⟨i, j, e1, e2, q⟩
theorem oSub : OpR X (binaryOp .Sub) (rB false X.K TI fSub) := oInt2 (opI_of op_sub) fun a c r h => by
  unfold fSub at h
  split at h
  · exact ⟨_, _, rfl, rfl, trivial, fun G H Q sb ti q => q_int sb ti h q⟩
  · cases h
theorem oFdiv : OpR X (binaryOp .FloorDiv) (rB false X.K TI fFdiv) := oInt2 op_fdiv fun a c r h => by
  unfold fFdiv at h
  split at h
  · split at h
    · rename_i hc
      simp only [Bool.and_eq_true, decide_eq_true_eq] at hc
      exact ⟨_, _, rfl, rfl, hc, fun G H Q sb ti q => q_int sb ti h q⟩
    · cases h
  · cases h
theorem oMod : OpR X (binaryOp .Mod) (rB false X.K TI fMod) := oInt2 op_mod fun a c r h => by
  unfold fMod at h
  split at h
  · split at h
    · rename_i hc
      exact ⟨_, _, rfl, rfl, of_decide_eq_true hc, fun G H Q sb ti q => q_int sb ti h q⟩
    · cases h
  · cases h
theorem oPow : OpR X (binaryOp .Pow) (rB false X.K TI fPow) := oInt2 op_pow fun a c r h => by
  unfold fPow at h
  split at h
  · split at h
    · rename_i hc
      simp only [Bool.and_eq_true, decide_eq_true_eq] at hc
      exact ⟨_, _, rfl, rfl, ⟨hc.1.1, hc.1.2, hc.2⟩, fun G H Q sb ti q => q_int sb ti h q⟩
    · cases h
  · cases h
theorem oLe : OpR X (compareOp .LtE) (rB false X.K TI fLe) := oInt2 (opI_of op_le) fun a c r h => by
  unfold fLe at h
  split at h
  · exact ⟨_, _, rfl, rfl, trivial, fun G H Q sb ti q => q_bl sb ti h q⟩
  · cases h
theorem oGt : OpR X (compareOp .Gt) (rB false X.K TI fGt) := oInt2 (opI_of op_gt) fun a c r h => by
  unfold fGt at h
  split at h
  · exact ⟨_, _, rfl, rfl, trivial, fun G H Q sb ti q => q_bl sb ti h q⟩
  · cases h
theorem oGe : OpR X (compareOp .GtE) (rB false X.K TI fGe) := oInt2 (opI_of op_ge) fun a c r h => by
  unfold fGe at h
  split at h
  · exact ⟨_, _, rfl, rfl, trivial, fun G H Q sb ti q => q_bl sb ti h q⟩
  · cases h
theorem oNeg : UnR X (unaryOp .USub) (rU1 TI fNeg) := by
  intro pins s σ H x v Q I rx h
  obtain ⟨G, a, r, sb, ti, ha, hf, q⟩ := h
  unfold fNeg at hf
  split at hf
  · rename_i i
    have e1 := dr_int ha
    subst e1
    exact un_neg pins s σ H _ v Q I rx ⟨i, rfl, q_int sb ti hf q⟩
  · cases hf
theorem oAdd (T : TOk TI) : OpR X (binaryOp .Add) (rB false X.K TI fAdd) := by
  intro pins s σ H x y v u Q I rx ry h
  obtain ⟨G, a, c, r, sb, ti, ha, hc, hf, q⟩ := h
  replace ha : DR G H x a := ha
  unfold fAdd at hf
  split at hf
  · rename_i i j
    have e1 := dr_int ha
    have e2 := dr_int hc
    subst e1 e2
    exact op_add pins s σ H _ _ v u Q I rx ry ⟨i, j, rfl, rfl, q_int sb ti hf q⟩
  · rename_i xs ys
    split at hf
    · rename_i hz
      cases hf
      obtain ⟨a, vs, rfl, h1, h2⟩ := dr_tup sb ha
      obtain ⟨b, ws, rfl, h3, h4⟩ := dr_tup sb hc
      refine op_catF pins s σ H _ _ v u Q I rx ry ⟨a, b, vs, ws, rfl, rfl, h1.sq, h3.sq, big_le (by rw [dpa_len h2, dpa_len h4]; exact hz), fun e => ?_, fun _ e => ?_, fun _ _ => new_tup T sb ti (dpa_app h2 h4) q⟩
      · subst e
        cases h2
        exact q _ _ (out_v sb ti hc.2)
      · subst e
        cases h4
        rw [List.append_nil] at q
        exact q _ _ (out_v sb ti ha.2)
    · cases hf
  · rename_i xs ys
    split at hf
    · rename_i hz
      cases hf
      obtain ⟨a, vs, rfl, h1, h2⟩ := ha.2
      obtain ⟨b, ws, rfl, h3, h4⟩ := hc.2
      exact op_cat pins s σ H _ _ v u Q I rx ry ⟨a, b, vs, ws, rfl, rfl, h1, h3, big_le (by rw [dpa_len h2, dpa_len h4]; exact hz), fun p hp => q _ _ (out_lst T sb ti hp (dpa_app h2 h4))⟩
    · cases hf
  · cases hf
theorem dl_dp {K : PySem.W.Frag} {l : Bool} (sb : Sub G H) (h : DL l K G H v d) : Dp K H v d := by
  cases l with
  | false => exact dq_dp d v h.1
  | true =>
    rcases h with h | ⟨a, vs, ds, rfl, rfl, h1, h2⟩
    · exact dq_dp d v h.1
    · exact .lst h1 (dqa_dpa ds vs (dpa_mono sb ds vs h2))
theorem oMul (T : TOk TI) : OpR X (binaryOp .Mult) (rB false X.K TI fMul) := by
  intro pins s σ H x y v u Q I rx ry h
  obtain ⟨G, a, c, r, sb, ti, ha, hc, hf, q⟩ := h
  replace ha : DR G H x a := ha
  unfold fMul at hf
  split at hf
  · rename_i i j
    have e1 := dr_int ha
    have e2 := dr_int hc
    subst e1 e2
    split at hf
    · rename_i hm
      rw [Bool.or_eq_true] at hm
      exact op_mul pins s σ H _ _ v u Q I rx ry ⟨i, j, rfl, rfl, hm.elim (fun z => .inl (of_decide_eq_true z)) (fun z => .inr (of_decide_eq_true z)), q_int sb ti hf q⟩
    · cases hf
  · rename_i xs k
    have e2 := dr_int hc
    subst e2
    split at hf
    · rename_i hm
      simp only [Bool.and_eq_true, decide_eq_true_eq] at hm
      cases hf
      obtain ⟨a, vs, rfl, h1, h2⟩ := dr_tup sb ha
      have hl := dpa_len h2
      refine op_repF pins s σ H _ _ v u Q I rx ry ⟨a, k, vs, rfl, rfl, h1.sq, fun e => ?_, hm.1.1.2, hm.1.2, by rw [hl]; exact hm.2, new_tup T sb ti (dpa_rep h2 k.toNat) q⟩
      subst e
      cases h2
      exact hm.1.1.1 rfl
    · cases hf
  · rename_i xs k
    have e2 := dr_int hc
    subst e2
    split at hf
    · rename_i hm
      simp only [Bool.and_eq_true, decide_eq_true_eq] at hm
      cases hf
      obtain ⟨a, vs, rfl, h1, h2⟩ := ha.2
      have hl := dpa_len h2
      refine op_rep pins s σ H _ _ v u Q I rx ry ⟨a, k, vs, rfl, rfl, h1, by omega, by omega, ?_, fun p hp => q _ _ (out_lst T sb ti hp (dpa_rep h2 k.toNat))⟩
      have h3 : vs.length * k.toNat ≤ 100 * 1000 := Nat.mul_le_mul (by omega) (by omega)
      exact big_le h3
    · cases hf
  · cases hf
theorem oLt (hu : X.A.units + 200 < cLine) : OpR X (compareOp .Lt) (rB false X.K TI fLt) := by
  intro pins s σ H x y v u Q I rx ry h
  obtain ⟨G, a, c, r, sb, ti, ha, hc, hf, q⟩ := h
  replace ha : DR G H x a := ha
  unfold fLt at hf
  split at hf
  · rename_i i j
    have e1 := dr_int ha
    have e2 := dr_int hc
    subst e1 e2
    exact op_lt pins s σ H _ _ v u Q I rx ry ⟨i, j, rfl, rfl, q_bl sb ti hf q⟩
  · rename_i xs ys
    obtain ⟨ns, e1, hf⟩ := bo hf
    obtain ⟨ms, e2, hf⟩ := bo hf
    obtain ⟨a, vs, rfl, h1, h2⟩ := dr_tup sb ha
    obtain ⟨b, ws, rfl, h3, h4⟩ := dr_tup sb hc
    rw [intsOf_eq e1] at h2
    rw [intsOf_eq e2] at h4
    rw [dpa_of_ints h2] at h1
    rw [dpa_of_ints h4] at h3
    exact op_ltT (by omega) pins s σ H _ _ v u Q I rx ry ⟨a, b, ns, ms, rfl, rfl, h1.sq, h3.sq, q_bl sb ti hf q⟩
  · cases hf
theorem eqOk_of {a b : PyData} (h : eqOk a b = true) : a.canLay0 = true ∧ b.canLay0 = true ∧ min a.depth b.depth ≤ 150 := by
  unfold eqOk at h
  simp only [Bool.and_eq_true, decide_eq_true_eq] at h
  exact ⟨h.1.1, h.1.2, h.2⟩
theorem dl_str {l : Bool} {K : PySem.W.Frag} (h : DL l K G H v (.str x)) : v = .str x := by
  cases l with
  | false => exact dr_str h
  | true =>
    rcases h with h | ⟨_, _, _, _, e, _⟩
    · exact dr_str h
    · cases e
theorem oEq {l : Bool} (hu : X.A.units + 200 < cLine) : OpR X (compareOp .Eq) (rB l X.K TI fEq) := by
  intro pins s σ H x y v u Q I rx ry h
  obtain ⟨G, a, c, r, sb, ti, ha, hc, hf, q⟩ := h
  unfold fEq at hf
  split at hf
  · have e1 := dl_str ha
    have e2 := dr_str hc
    subst e1 e2
    exact op_eq pins s σ H _ _ v u Q I rx ry ⟨rfl, by rw [dec_str]; exact q_bl sb ti hf q⟩
  split at hf
  · rename_i hk
    obtain ⟨k1, k2, k3⟩ := eqOk_of hk
    obtain ⟨as, r1⟩ := Dp.reads I a x v (dl_dp sb ha) rx
    obtain ⟨bs, r2⟩ := Dp.reads I c y u (dq_dp c y hc.1) ry
    exact SeqAt.compareEq_reads r1 r2 k1 k2 (by omega) ⟨.bl _, H, I, rfl, q_bl sb ti hf q⟩
  · cases hf
theorem oNe {l : Bool} (hu : X.A.units + 200 < cLine) : OpR X (compareOp .NotEq) (rB l X.K TI fNe) := by
  intro pins s σ H x y v u Q I rx ry h
  obtain ⟨G, a, c, r, sb, ti, ha, hc, hf, q⟩ := h
  unfold fNe at hf
  split at hf
  · have e1 := dl_str ha
    have e2 := dr_str hc
    subst e1 e2
    exact op_ne pins s σ H _ _ v u Q I rx ry ⟨rfl, by rw [dec_str]; exact q_bl sb ti hf q⟩
  split at hf
  · rename_i hk
    obtain ⟨k1, k2, k3⟩ := eqOk_of hk
    obtain ⟨as, r1⟩ := Dp.reads I a x v (dl_dp sb ha) rx
    obtain ⟨bs, r2⟩ := Dp.reads I c y u (dq_dp c y hc.1) ry
    exact SeqAt.compareNe_reads r1 r2 k1 k2 (by omega) ⟨.bl _, H, I, rfl, q_bl sb ti hf q⟩
  · cases hf
theorem inOk_of {d : PyData} {xs : List PyData} (h : inOk d xs = true) : PyData.canLayAll0 xs = true ∧ d.canLay0 = true ∧ min (PyData.depthAll xs) d.depth ≤ 150 := by
  unfold inOk at h
  simp only [Bool.and_eq_true, decide_eq_true_eq] at h
  exact ⟨h.1.1, h.1.2, h.2⟩
theorem oIn (hu : X.A.units + 200 < cLine) : OpR X (compareOp .In) (rB false X.K TI (fIn false)) := by
  intro pins s σ H x y v u Q I rx ry h
  obtain ⟨G, a, c, r, sb, ti, ha, hc, hf, q⟩ := h
  obtain ⟨as, r1⟩ := Dp.reads I a x v (dl_dp sb ha) rx
  obtain ⟨bs, r2⟩ := Dp.reads I c y u (dq_dp c y hc.1) ry
  unfold fIn at hf
  split at hf
  · split at hf
    · rename_i hk
      obtain ⟨k1, k2, k3⟩ := inOk_of hk
      exact SeqAt.in_list_reads r2 r1 k1 k2 (by omega) ⟨.bl _, H, I, rfl, q_bl sb ti hf q⟩
    · cases hf
  · split at hf
    · rename_i hk
      obtain ⟨k1, k2, k3⟩ := inOk_of hk
      exact SeqAt.in_tuple_reads r2 r1 k1 k2 (by omega) ⟨.bl _, H, I, rfl, q_bl sb ti hf q⟩
    · cases hf
  · cases hf
theorem oNotIn (hu : X.A.units + 200 < cLine) : OpR X (compareOp .NotIn) (rB false X.K TI (fIn true)) := by
  intro pins s σ H x y v u Q I rx ry h
  obtain ⟨G, a, c, r, sb, ti, ha, hc, hf, q⟩ := h
  obtain ⟨as, r1⟩ := Dp.reads I a x v (dl_dp sb ha) rx
  obtain ⟨bs, r2⟩ := Dp.reads I c y u (dq_dp c y hc.1) ry
  unfold fIn at hf
  split at hf
  · split at hf
    · rename_i hk
      obtain ⟨k1, k2, k3⟩ := inOk_of hk
      exact SeqAt.notIn_list_reads r2 r1 k1 k2 (by omega) ⟨.bl _, H, I, rfl, q_bl sb ti hf q⟩
    · cases hf
  · split at hf
    · rename_i hk
      obtain ⟨k1, k2, k3⟩ := inOk_of hk
      exact SeqAt.notIn_tuple_reads r2 r1 k1 k2 (by omega) ⟨.bl _, H, I, rfl, q_bl sb ti hf q⟩
    · cases hf
  · cases hf
theorem isNone_v {G H : Hp} {v : V} {d : PyData} (h : DQ H v d) : decide (v = .non) = isNone d := by
  cases h <;> simp [isNone]
theorem oIs : OpR X (compareOp .Is) (rB false X.K TI (fIs false)) := by
  intro pins s σ H x y v u Q I rx ry h
  obtain ⟨G, a, c, r, sb, ti, ha, hc, hf, q⟩ := h
  replace ha : DR G H x a := ha
  unfold fIs at hf
  split at hf
  · have e2 := dr_none hc
    subst e2
    refine op_isN pins s σ H _ _ v u Q I rx ry ⟨rfl, ?_⟩
    rw [isNone_v (G := G) ha.1]
    exact q_bl sb ti hf q
  · have e1 := dr_bool ha
    have e2 := dr_bool hc
    subst e1 e2
    exact op_isBl pins s σ H _ _ v u Q I rx ry ⟨_, _, rfl, rfl, q_bl sb ti hf q⟩
  · cases hf
theorem oIsNot : OpR X (compareOp .IsNot) (rB false X.K TI (fIs true)) := by
  intro pins s σ H x y v u Q I rx ry h
  obtain ⟨G, a, c, r, sb, ti, ha, hc, hf, q⟩ := h
  replace ha : DR G H x a := ha
  unfold fIs at hf
  split at hf
  · have e2 := dr_none hc
    subst e2
    refine op_notN pins s σ H _ _ v u Q I rx ry ⟨rfl, ?_⟩
    rw [isNone_v (G := G) ha.1]
    exact q_bl sb ti hf q
  · have e1 := dr_bool ha
    have e2 := dr_bool hc
    subst e1 e2
    exact op_notBl pins s σ H _ _ v u Q I rx ry ⟨_, _, rfl, rfl, q_bl sb ti hf q⟩
  · cases hf
end
end PV

set_option maxRecDepth 100000
set_option maxHeartbeats 1000000
/-! names, constants, displays, tests, subscripts, slices -/
namespace PV
open PySem PySem.Spec PyProof.Rows L2

def dC (d : PyData) : Den := fun _ M => some (.v (.d d), M)
def dVar (i : Nat) : Den := fun ρ M => (ρ[i]?).bind fun o => o.bind fun x => some (.v x, M)
def dNo : Den := fun _ _ => none
def allD : List Val → Option (List PyData)
  | [] => some []
  | .d x :: r => (allD r).bind fun ds => some (x :: ds)
  | _ :: _ => none
def dTup (fa : DenA) : Den := fun ρ M => (fa ρ M).bind fun p => (allD p.1).bind fun ds => if ds.length ≤ big then some (.v (.d (.tuple ds)), p.2) else none
def dLst (fa : DenA) : Den := fun ρ M => (fa ρ M).bind fun p => (allD p.1).bind fun ds => if ds.length ≤ big then some (.nl ds, p.2) else none
def asB : Res → Option Bool
  | .v (.d (.bool b)) => some b
  | _ => none
def dAnd (f g : Den) : Den := fun ρ M => (f ρ M).bind fun p => (asB p.1).bind fun b => if b then g ρ p.2 else some (.v (.d (.bool false)), p.2)
def dOr (f g : Den) : Den := fun ρ M => (f ρ M).bind fun p => (asB p.1).bind fun b => if b then some (.v (.d (.bool true)), p.2) else g ρ p.2
def dNot (f : Den) : Den := fun ρ M => (f ρ M).bind fun p => (asB p.1).bind fun b => some (.v (.d (.bool (!b))), p.2)
def dIf (c f g : Den) : Den := fun ρ M => (c ρ M).bind fun p => (asB p.1).bind fun b => if b then f ρ p.2 else g ρ p.2
def dChain (F1 F2 : PyData → PyData → Option Res) (f g h : Den) : Den := fun ρ M => (val f ρ M).bind fun p => (val g ρ p.2).bind fun q => (rd p.1 q.2).bind fun a => (rd q.1 q.2).bind fun b =>
  (F1 a b).bind fun r => (asB r).bind fun k => if k then (val h ρ q.2).bind fun t => (rd q.1 t.2).bind fun b' => (rd t.1 t.2).bind fun c => (F2 b' c).bind fun r' => some (r', t.2) else some (.v (.d (.bool false)), q.2)
def fIdx : PyData → PyData → Option Res
  | .list ds, .int i => (atI ds i).bind dv
  | .tuple ds, .int i => (atI ds i).bind dv
  | _, _ => none
def dctOf (x : Val) (M : Sto) : Option (List (Int × Int)) := match x with
  | .loc k => (match M[k]? with
    | some (.dct kvs) => some kvs
    | _ => none)
  | .dic kvs => some kvs
  | _ => none
def look (kvs : List (Int × Int)) (i : Int) : Option Int := (kvs.find? fun p => decide (p.1 = i)).map (·.2)
def asI : PyData → Option Int
  | .int i => some i
  | _ => none
def dIdx (f g : Den) : Den := fun ρ M => (val f ρ M).bind fun p => (val g ρ p.2).bind fun q => match dctOf p.1 q.2 with
  | some kvs => (rd q.1 q.2).bind fun d => (asI d).bind fun i => (look kvs i).bind fun z => some (.v (.d (.int z)), q.2)
  | none => (rdw p.1 q.2).bind fun a => (rd q.1 q.2).bind fun b => (fIdx a b).bind fun r => some (r, q.2)
def dInD (neg : Bool) (F : PyData → PyData → Option Res) (f g : Den) : Den := fun ρ M => (val f ρ M).bind fun p => (val g ρ p.2).bind fun q => match dctOf q.1 q.2 with
  | some kvs => (rd p.1 q.2).bind fun d => (asI d).bind fun i => some (.v (.d (.bool (if neg then !(look kvs i).isSome else (look kvs i).isSome))), q.2)
  | none => (rd p.1 q.2).bind fun a => (rd q.1 q.2).bind fun b => (F a b).bind fun r => some (r, q.2)
/-- slices -/
def cutD (ds : List PyData) (lo hi : Option Int) : List PyData := (ds.drop (HT.sIx ds.length 0 lo)).take (HT.sIx ds.length ds.length hi - HT.sIx ds.length 0 lo)
def dPart (o : Option Den) : Env → Sto → Option (Option Int × Sto) := match o with
  | none => fun _ M => some (none, M)
  | some f => fun ρ M => (val f ρ M).bind fun p => (rd p.1 p.2).bind fun d => (asI d).bind fun i => some (some i, p.2)
def dSlice (f : Den) (lo hi : Option Den) : Den := fun ρ M => (val f ρ M).bind fun p => (dPart lo ρ p.2).bind fun a => (dPart hi ρ a.2).bind fun b => (rd p.1 b.2).bind fun d => match d with
  | .list ds => some (.nl (cutD ds a.1 b.1), b.2)
  | .tuple ds => some (.v (.d (.tuple (cutD ds a.1 b.1))), b.2)
  | _ => none

theorem pe_or {X : Cx} {e : Expr} {t t' : TE} (h : PE X e t) (h' : PE X e t') : PE X e (fun σ H Q => t σ H Q ∨ t' σ H Q) := ⟨fun pins s σ H Q I q => q.elim (h.run pins s σ H Q I) (h'.run pins s σ H Q I)⟩

section
variable {X : Cx} {K : PySem.W.Frag} {ca : Str → Addr} {TI : Hp → Prop} {e a b c : Expr} {es : List Expr} {f g h : Den} {fa : DenA} {pos : Pos}
theorem pe_cst {d : PyData} {v : V} (he : PE X e (tC v)) (hd : ∀ G, DQ G v d) : PE X e (tE K ca TI (dC d)) := pe_imp he fun σ H Q q => by
  obtain ⟨G, L, ρ, M, r, M', s, er, hf, q⟩ := q
  cases hf
  exact q G H L v Step.refl s (hd G)
theorem pe_dvar {i : Nat} (he : PE X e (tVar i)) : PE X e (tE K ca TI (dVar i)) := pe_imp he fun σ H Q q => by
  obtain ⟨G, L, ρ, M, r, M', s, er, hf, q⟩ := q
  obtain ⟨o, e1, hf⟩ := bo hf
  obtain ⟨x, e2, hf⟩ := bo hf
  cases hf
  subst e2
  obtain ⟨v, h1, h2⟩ := er.2 i x e1
  exact ⟨v, h1, q G H L v Step.refl s h2⟩
theorem pe_no : PE X e (tE K ca TI dNo) := pe_imp pe_never fun σ H Q q => by
  obtain ⟨G, L, ρ, M, r, M', s, er, hf, q⟩ := q
  cases hf
theorem allD_of {G : Hp} {L : List Addr} : ∀ {vs : List V} {xs : List Val} {ds : List PyData}, VRs K G L vs xs → allD xs = some ds → DQAll G vs ds
  | [], [], _, _, e => by cases e; exact .nil
  | _ :: _, .d x :: r, ds, h, e => by
    cases h with
    | cons h1 h2 =>
      obtain ⟨es, e1, e2⟩ := bo e
      cases e2
      exact .cons h1 (allD_of h2 e1)
  | _ :: _, .loc _ :: _, _, _, e => by cases e
  | _ :: _, .scr _ :: _, _, _, e => by cases e
theorem pe_dtup (T : TOk TI) {k : Nat} (ha : PA X es (tArgs K ca TI fa)) : PE X (.Tuple es k pos) (tE K ca TI (dTup fa)) := pe_imp (pe_tupF ha) fun σ H Q q => by
  obtain ⟨G, L, ρ, M, r, M', s, er, hf, q⟩ := q
  obtain ⟨⟨xs, M1⟩, e1, hf⟩ := bo hf
  obtain ⟨ds, e2, hf⟩ := bo hf
  split at hf
  · rename_i hz
    cases hf
    refine ⟨G, L, ρ, M, xs, _, s, er, e1, fun G1 H1 L1 vs st1 s1 v1 => ?_⟩
    have hd := allD_of v1 e2
    refine ⟨big_le (by rw [dpa_len hd]; exact hz), fun p o hp ho => ?_⟩
    obtain ⟨G3, st3, s3, rr⟩ := out_step (K := K) s1 (out_tup T s1.ex s1.ti hp ho hd)
    exact q G3 _ L1 _ (st1.trans st3) s3 (rr.back st1)
  · cases hf
theorem pe_dlst (T : TOk TI) (ha : PA X es (tArgs K ca TI fa)) : PE X (.List es pos) (tE K ca TI (dLst fa)) := pe_imp (L2.pe_lst ha) fun σ H Q q => by
  obtain ⟨G, L, ρ, M, r, M', s, er, hf, q⟩ := q
  obtain ⟨⟨xs, M1⟩, e1, hf⟩ := bo hf
  obtain ⟨ds, e2, hf⟩ := bo hf
  split at hf
  · rename_i hz
    cases hf
    refine ⟨G, L, ρ, M, xs, _, s, er, e1, fun G1 H1 L1 vs st1 s1 v1 => ?_⟩
    have hd := allD_of v1 e2
    refine ⟨big_le (by rw [dpa_len hd]; exact hz), fun p hp => ?_⟩
    obtain ⟨G3, st3, s3, rr⟩ := out_step (K := K) s1 (out_lst T s1.ex s1.ti hp hd)
    exact q G3 _ L1 _ (st1.trans st3) s3 (rr.back st1)
  · cases hf
theorem asB_eq {r : Res} {b : Bool} (h : asB r = some b) : r = .v (.d (.bool b)) := by
  unfold asB at h
  split at h
  · cases h; rfl
  · cases h
theorem asB_at {f : Den} {ρ : Env} {M : Sto} {p : Res × Sto} {b : Bool} (e : f ρ M = some p) (h : asB p.1 = some b) : f ρ M = some (.v (.d (.bool b)), p.2) := by
  obtain ⟨r, M1⟩ := p
  rw [e, show r = .v (.d (.bool b)) from asB_eq h]
/-- a truth value, as a result -/
theorem rr_bool {H0 G H : Hp} {L : List Addr} {v : V} {b : Bool} (h : RR K H0 G H L v (.v (.d (.bool b)))) : v = .bl b := by
  have h2 : DQ G v (.bool b) := h
  cases h2
  rfl
theorem pe_dand {rest : List Expr} (ha : PE X a (tE K ca TI f)) (hb : PE X (.BoolOp .And (b :: rest) pos) (tE K ca TI g)) : PE X (.BoolOp .And (a :: b :: rest) pos) (tE K ca TI (dAnd f g)) := pe_imp (pe_and ha hb) fun σ H Q q => by
  obtain ⟨G, L, ρ, M, r, M', s, er, hf, q⟩ := q
  obtain ⟨⟨r1, M1⟩, e1, hf⟩ := bo hf
  obtain ⟨k, e2, hf⟩ := bo hf
  have e1 := asB_at e1 e2
  refine ⟨G, L, ρ, M, _, M1, s, er, e1, fun G1 H1 L1 v st1 s1 v1 => ⟨k, rr_bool v1, ?_⟩⟩
  cases k with
  | true => exact ⟨G1, L1, ρ, M1, r, M', s1, er.mono st1.g st1.l, hf, fun G2 H2 L2 v2 st2 s2 rr => q G2 H2 L2 v2 (st1.trans st2) s2 (rr.back st1)⟩
  | false =>
    cases hf
    exact q G1 H1 L1 _ st1 s1 (.bl false)
theorem pe_dor {rest : List Expr} (ha : PE X a (tE K ca TI f)) (hb : PE X (.BoolOp .Or (b :: rest) pos) (tE K ca TI g)) : PE X (.BoolOp .Or (a :: b :: rest) pos) (tE K ca TI (dOr f g)) := pe_imp (L2.pe_or ha hb) fun σ H Q q => by
  obtain ⟨G, L, ρ, M, r, M', s, er, hf, q⟩ := q
  obtain ⟨⟨r1, M1⟩, e1, hf⟩ := bo hf
  obtain ⟨k, e2, hf⟩ := bo hf
  have e1 := asB_at e1 e2
  refine ⟨G, L, ρ, M, _, M1, s, er, e1, fun G1 H1 L1 v st1 s1 v1 => ⟨k, rr_bool v1, ?_⟩⟩
  cases k with
  | false => exact ⟨G1, L1, ρ, M1, r, M', s1, er.mono st1.g st1.l, hf, fun G2 H2 L2 v2 st2 s2 rr => q G2 H2 L2 v2 (st1.trans st2) s2 (rr.back st1)⟩
  | true =>
    cases hf
    exact q G1 H1 L1 _ st1 s1 (.bl true)
theorem pe_dnot (ha : PE X a (tE K ca TI f)) : PE X (.UnaryOp .Not a pos) (tE K ca TI (dNot f)) := pe_imp (pe_not ha) fun σ H Q q => by
  obtain ⟨G, L, ρ, M, r, M', s, er, hf, q⟩ := q
  obtain ⟨⟨r1, M1⟩, e1, hf⟩ := bo hf
  obtain ⟨k, e2, hf⟩ := bo hf
  have e1 := asB_at e1 e2
  cases hf
  exact ⟨G, L, ρ, M, _, _, s, er, e1, fun G1 H1 L1 v st1 s1 v1 => ⟨k, rr_bool v1, q G1 H1 L1 _ st1 s1 (.bl _)⟩⟩

/-! tests -/
def tT (K : PySem.W.Frag) (ca : Str → Addr) (TI : Hp → Prop) (f : Den) : TT := fun σ H Q => ∃ G L ρ M b M', ST K ca TI G H L M ∧ ER K G L σ ρ ∧ f ρ M = some (.v (.d (.bool b)), M') ∧
  ∀ G' H' L', Step G H L G' H' L' → ST K ca TI G' H' L' M' → Q b H'
theorem pt_of (h : PE X e (tE K ca TI f)) (he : ∀ whole, isTrue e X.env whole = (do let v ← whole; standAt e.pos; holding [v] (truthy v))) : PT X e (tT K ca TI f) := pt_imp (pt_val h he) fun σ H Q q => by
  obtain ⟨G, L, ρ, M, b, M', s, er, hf, q⟩ := q
  exact ⟨G, L, ρ, M, _, M', s, er, hf, fun G1 H1 L1 v st1 s1 v1 => ⟨b, rr_bool v1, q G1 H1 L1 st1 s1⟩⟩
theorem pt_dcmp {op : CmpOp} (h : PE X (.Compare a [op] [b] pos) (tE K ca TI f)) (hp : ∀ {t : TE}, PE X (.Compare a [op] [b] pos) t → PT X (.Compare a [op] [b] pos) (tTest t)) : PT X (.Compare a [op] [b] pos) (tT K ca TI f) := pt_imp (hp h) fun σ H Q q => by
  obtain ⟨G, L, ρ, M, b, M', s, er, hf, q⟩ := q
  exact ⟨G, L, ρ, M, _, M', s, er, hf, fun G1 H1 L1 v st1 s1 v1 => ⟨b, rr_bool v1, q G1 H1 L1 st1 s1⟩⟩
theorem pw_dand {rest : List Expr} (ha : PT X a (tT K ca TI f)) (hb : PW X (.BoolOp .And (b :: rest) pos) (tT K ca TI g)) : PW X (.BoolOp .And (a :: b :: rest) pos) (tT K ca TI (dAnd f g)) := pw_imp (pw_and ha hb) fun σ H Q q => by
  obtain ⟨G, L, ρ, M, b, M', s, er, hf, q⟩ := q
  obtain ⟨⟨r1, M1⟩, e1, hf⟩ := bo hf
  obtain ⟨k, e2, hf⟩ := bo hf
  have e1 := asB_at e1 e2
  refine ⟨G, L, ρ, M, k, M1, s, er, e1, fun G1 H1 L1 st1 s1 => ?_⟩
  cases k with
  | true => exact ⟨G1, L1, ρ, M1, b, M', s1, er.mono st1.g st1.l, hf, fun G2 H2 L2 st2 s2 => q G2 H2 L2 (st1.trans st2) s2⟩
  | false =>
    cases hf
    exact q G1 H1 L1 st1 s1
theorem pw_dor {rest : List Expr} (ha : PT X a (tT K ca TI f)) (hb : PW X (.BoolOp .Or (b :: rest) pos) (tT K ca TI g)) : PW X (.BoolOp .Or (a :: b :: rest) pos) (tT K ca TI (dOr f g)) := pw_imp (pw_or ha hb) fun σ H Q q => by
  obtain ⟨G, L, ρ, M, b, M', s, er, hf, q⟩ := q
  obtain ⟨⟨r1, M1⟩, e1, hf⟩ := bo hf
  obtain ⟨k, e2, hf⟩ := bo hf
  have e1 := asB_at e1 e2
  refine ⟨G, L, ρ, M, k, M1, s, er, e1, fun G1 H1 L1 st1 s1 => ?_⟩
  cases k with
  | false => exact ⟨G1, L1, ρ, M1, b, M', s1, er.mono st1.g st1.l, hf, fun G2 H2 L2 st2 s2 => q G2 H2 L2 (st1.trans st2) s2⟩
  | true =>
    cases hf
    exact q G1 H1 L1 st1 s1
theorem pt_dnot (ha : PT X a (tT K ca TI f)) : PT X (.UnaryOp .Not a pos) (tT K ca TI (dNot f)) := pt_imp (pt_not ha) fun σ H Q q => by
  obtain ⟨G, L, ρ, M, b, M', s, er, hf, q⟩ := q
  obtain ⟨⟨r1, M1⟩, e1, hf⟩ := bo hf
  obtain ⟨k, e2, hf⟩ := bo hf
  have e1 := asB_at e1 e2
  cases hf
  exact ⟨G, L, ρ, M, k, _, s, er, e1, fun G1 H1 L1 st1 s1 => q G1 H1 L1 st1 s1⟩
theorem pe_dif (hc : PT X c (tT K ca TI h)) (ha : PE X a (tE K ca TI f)) (hb : PE X b (tE K ca TI g)) : PE X (.IfExp c a b pos) (tE K ca TI (dIf h f g)) := pe_imp (pe_ifExp hc ha hb) fun σ H Q q => by
  obtain ⟨G, L, ρ, M, r, M', s, er, hf, q⟩ := q
  obtain ⟨⟨r1, M1⟩, e1, hf⟩ := bo hf
  obtain ⟨k, e2, hf⟩ := bo hf
  have e1 := asB_at e1 e2
  refine ⟨G, L, ρ, M, k, M1, s, er, e1, fun G1 H1 L1 st1 s1 => ?_⟩
  cases k with
  | true => exact ⟨G1, L1, ρ, M1, r, M', s1, er.mono st1.g st1.l, hf, fun G2 H2 L2 v2 st2 s2 rr => q G2 H2 L2 v2 (st1.trans st2) s2 (rr.back st1)⟩
  | false => exact ⟨G1, L1, ρ, M1, r, M', s1, er.mono st1.g st1.l, hf, fun G2 H2 L2 v2 st2 s2 rr => q G2 H2 L2 v2 (st1.trans st2) s2 (rr.back st1)⟩
theorem tChain_of {F1 F2 : PyData → PyData → Option Res} {σ : L2.St} {H : Hp} {Q : VK} (q : tE K ca TI (dChain F1 F2 f g h) σ H Q) :
    L2.tChain (rB false K TI F1) (rB false K TI F2) (tV K ca TI (val f)) (tV K ca TI (val g)) (tV K ca TI (val h)) σ H Q := by
  obtain ⟨G, L, ρ, M, r, M', s, er, hf, q⟩ := q
  obtain ⟨⟨x, M1⟩, e1, hf⟩ := bo hf
  obtain ⟨⟨y, M2⟩, e2, hf⟩ := bo hf
  obtain ⟨a, e3, hf⟩ := bo hf
  obtain ⟨b, e4, hf⟩ := bo hf
  obtain ⟨r1, e5, hf⟩ := bo hf
  obtain ⟨k, e6, hf⟩ := bo hf
  rw [asB_eq e6] at e5
  refine ⟨G, L, ρ, M, x, M1, s, er, e1, fun G1 H1 L1 v st1 s1 v1 => ?_⟩
  refine ⟨G1, L1, ρ, M1, y, M2, s1, er.mono st1.g st1.l, e2, fun G2 H2 L2 u st2 s2 v2 => ?_⟩
  have st12 := st1.trans st2
  refine ⟨G2, a, b, _, s2.ex, s2.ti, dr_of s2 (v1.mono st2.g st2.l) e3, dr_of s2 v2 e4, e5, fun w H3 o => ?_⟩
  obtain ⟨G3, st3, s3, rr⟩ := out_step (K := K) s2 o
  refine ⟨k, rr_bool rr, ?_⟩
  have st13 := st12.trans st3
  cases k with
  | false =>
    cases hf
    rw [if_neg Bool.false_ne_true]
    exact q G3 H3 L2 _ st13 s3 (.bl false)
  | true =>
    rw [if_pos rfl] at hf
    obtain ⟨⟨z, M3⟩, e7, hf⟩ := bo hf
    obtain ⟨b', e8, hf⟩ := bo hf
    obtain ⟨c, e9, hf⟩ := bo hf
    obtain ⟨r', e10, hf⟩ := bo hf
    cases hf
    rw [if_pos rfl]
    refine ⟨G3, L2, ρ, M2, z, _, s3, er.mono st13.g st13.l, e7, fun G4 H4 L4 v4 st4 s4 vz => ?_⟩
    have v2' := (v2.mono st3.g st3.l).mono st4.g st4.l
    refine ⟨G4, b', c, r, s4.ex, s4.ti, dr_of s4 v2' e8, dr_of s4 vz e9, e10, fun w' H5 o' => ?_⟩
    obtain ⟨G5, st5, s5, rr5⟩ := out_step (K := K) s4 o'
    have st14 := st13.trans st4
    exact q G5 H5 L4 w' (st14.trans st5) s5 (rr5.back st14)
end
end PV

set_option maxRecDepth 100000
set_option maxHeartbeats 1000000
/-! subscripts, slices, in of dicts -/
namespace PV
open PySem PySem.Spec PyProof.Rows L2
theorem look_enc (kvs : List (Int × Int)) (i : Int) : valV (enc kvs) (Sum.inl i : Key) = (look kvs i).map V.int := by
  unfold valV look enc
  rw [List.find?_map]
  have e : ((fun kv : Key × V => decide (kv.1 = (Sum.inl i : Key))) ∘ fun p : Int × Int => ((Sum.inl p.1 : Key), V.int p.2)) = fun p => decide (p.1 = i) := by
    funext p
    show decide ((Sum.inl p.1 : Key) = Sum.inl i) = decide (p.1 = i)
    by_cases h : p.1 = i
    · simp [h]
    · have : ¬ (Sum.inl p.1 : Key) = Sum.inl i := fun z => h (Sum.inl.inj z)
      simp [h, this]
  rw [e]
  cases List.find? (fun p => decide (p.1 = i)) kvs <;> rfl
theorem dct_rd {K : PySem.W.Frag} {ca : Str → Addr} {TI : Hp → Prop} {G H : Hp} {L : List Addr} {M : Sto} {v : V} {x : Val} {kvs : List (Int × Int)} (s : ST K ca TI G H L M) (h : VR K G L v x) (e : dctOf x M = some kvs) : ∃ a, v = .ref a ∧ Rd H a (.dK (enc kvs)) := by
  unfold dctOf at e
  split at e
  · rename_i k
    obtain ⟨a, ha, rfl⟩ := h
    split at e
    · rename_i em
      cases e
      exact ⟨a, rfl, .inl (s.at_ k a _ ha em)⟩
    · cases e
  · cases e
    obtain ⟨a, o, rfl, q⟩ := h
    exact ⟨a, rfl, .inr ⟨o, s.ex _ _ q⟩⟩
  · cases e
theorem atI_some {α : Type} {xs : List α} {i : Int} {x : α} (h : atI xs i = some x) : ∃ j, ixN xs.length i = some j ∧ xs[j]? = some x := Option.bind_eq_some_iff.mp h
theorem atI_dq {G : Hp} {vs : List V} {ds : List PyData} {i : Int} {d : PyData} (h : DQAll G vs ds) (e : atI ds i = some d) : ∃ v, atI vs i = some v ∧ DQ G v d := by
  obtain ⟨j, e1, e2⟩ := atI_some e
  obtain ⟨v, e3, e4⟩ := dpa_get h e2
  refine ⟨v, ?_, e4⟩
  unfold atI
  rw [dpa_len h, e1]
  exact e3
section
variable {X : Cx} {ca : Str → Addr} {TI : Hp → Prop} {e a b : Expr} {f g : Den} {pos : Pos}
theorem asI_eq {d : PyData} {i : Int} (h : asI d = some i) : d = .int i := by
  unfold asI at h
  split at h
  · cases h; rfl
  · cases h
theorem ixAny : IxR X (rB true X.K TI fIdx) := by
  intro value slice pins s σ H x y v u Q I rx ry h hs
  obtain ⟨G, a, c, r, sb, ti, ha, hc, hf, q⟩ := h
  unfold fIdx at hf
  split at hf
  · rename_i ds i
    obtain ⟨d, e1, hf⟩ := bo hf
    cases hf
    have e2 := dr_int hc
    subst e2
    have hb : ∃ p vs, x = V.ref p ∧ SqL X.K H p vs ∧ DQAll G vs ds := by
      rcases (show DW X.K G H x (.list ds) from ha) with h | ⟨p, vs, es, rfl, he, h1, h2⟩
      · obtain ⟨p, vs, rfl, h1, h2⟩ := h.2
        exact ⟨p, vs, rfl, SqL.of h1, h2⟩
      · cases he
        exact ⟨p, vs, rfl, h1, h2⟩
    obtain ⟨p, vs, rfl, h1, h2⟩ := hb
    obtain ⟨w, e3, e4⟩ := atI_dq h2 e1
    exact ix_list value slice pins s σ H _ _ v u Q I rx ry ⟨p, vs, i, w, rfl, rfl, h1, e3, q _ _ (out_v sb ti e4)⟩ hs
  · rename_i ds i
    obtain ⟨d, e1, hf⟩ := bo hf
    cases hf
    have e2 := dr_int hc
    subst e2
    have ha' : DR G H x (.tuple ds) := by
      rcases (show DW X.K G H x (.tuple ds) from ha) with h | ⟨p, vs, es, rfl, he, h1, h2⟩
      · exact h
      · cases he
    obtain ⟨p, vs, rfl, h1, h2⟩ := dr_tup sb ha'
    obtain ⟨w, e3, e4⟩ := atI_dq h2 e1
    exact ix_tup value slice pins s σ H _ _ v u Q I rx ry ⟨p, vs, i, w, rfl, rfl, h1.sq, e3, q _ _ (out_v sb ti e4)⟩ hs
  · cases hf
theorem pe_didx (hu : X.A.units + 200 < cLine) (ha : PE X a (tE X.K ca TI f)) (hb : PE X b (tE X.K ca TI g)) (hs : PlainIx b) : PE X (.Subscript a b pos) (tE X.K ca TI (dIdx f g)) :=
  pe_imp (pe_or (pe_dget (by omega) (pe_v ha) (pe_v hb) hs) (pe_ix (ixAny (TI := TI)) (pe_v ha) (pe_v hb) hs)) fun σ H Q q => by
    obtain ⟨G, L, ρ, M, r, M', s, er, hf, q⟩ := q
    obtain ⟨⟨x, M1⟩, e1, hf⟩ := bo hf
    obtain ⟨⟨y, M2⟩, e2, hf⟩ := bo hf
    split at hf
    · rename_i kvs hk
      obtain ⟨d, e3, hf⟩ := bo hf
      obtain ⟨i, e4, hf⟩ := bo hf
      obtain ⟨z, e5, hf⟩ := bo hf
      cases hf
      rw [asI_eq e4] at e3
      refine .inl ⟨G, L, ρ, M, x, M1, s, er, e1, fun G1 H1 L1 v st1 s1 v1 => ?_⟩
      refine ⟨G1, L1, ρ, M1, y, _, s1, er.mono st1.g st1.l, e2, fun G2 H2 L2 u st2 s2 v2 => ?_⟩
      obtain ⟨p, rfl, hp⟩ := dct_rd s2 (v1.mono st2.g st2.l) hk
      have eu := dr_int (dr_of s2 v2 e3)
      subst eu
      refine ⟨p, .int z, rfl, .inl ⟨enc kvs, Sum.inl i, hp, rfl, ?_⟩, q G2 H2 L2 _ (st1.trans st2) s2 (.int z)⟩
      rw [look_enc, e5]
      rfl
    · rename_i hk
      obtain ⟨a, e3, hf⟩ := bo hf
      obtain ⟨b, e4, hf⟩ := bo hf
      obtain ⟨r', e5, hf⟩ := bo hf
      cases hf
      refine .inr (tBin_of (l := true) (f := f) (g := g) (F := fIdx) ⟨G, L, ρ, M, r, _, s, er, ?_, q⟩)
      show (val f ρ M).bind _ = _
      rw [e1]
      show (val g ρ M1).bind _ = _
      rw [e2]
      show (rdw x M2).bind _ = _
      rw [e3]
      show (rd y M2).bind _ = _
      rw [e4]
      show (fIdx a b).bind _ = _
      rw [e5]
      rfl
theorem pe_din {neg : Bool} {op : CmpOp} {F : PyData → PyData → Option Res} {t : TE} (ho : OpR X (compareOp op) (rB false X.K TI F)) (hm : behindInMarks op b = false) (ha : PE X a (tE X.K ca TI f)) (hb : PE X b (tE X.K ca TI g))
    (hd : PE X (.Compare a [op] [b] pos) t) (ht : ∀ σ H Q, (tV X.K ca TI (val f) σ H fun y H1 => tV X.K ca TI (val g) σ H1 fun x H2 => ∃ p o, x = .ref p ∧ DGet H2 p y o ∧ Q (.bl (if neg then !o.isSome else o.isSome)) H2) → t σ H Q) :
    PE X (.Compare a [op] [b] pos) (tE X.K ca TI (dInD neg F f g)) :=
  pe_imp (pe_or hd (pe_cmpR ho (pe_v ha) (pe_v hb) hm)) fun σ H Q q => by
    obtain ⟨G, L, ρ, M, r, M', s, er, hf, q⟩ := q
    obtain ⟨⟨x, M1⟩, e1, hf⟩ := bo hf
    obtain ⟨⟨y, M2⟩, e2, hf⟩ := bo hf
    split at hf
    · rename_i kvs hk
      obtain ⟨d, e3, hf⟩ := bo hf
      obtain ⟨i, e4, hf⟩ := bo hf
      cases hf
      rw [asI_eq e4] at e3
      refine .inl (ht σ H Q ⟨G, L, ρ, M, x, M1, s, er, e1, fun G1 H1 L1 v st1 s1 v1 => ?_⟩)
      refine ⟨G1, L1, ρ, M1, y, _, s1, er.mono st1.g st1.l, e2, fun G2 H2 L2 u st2 s2 v2 => ?_⟩
      obtain ⟨p, rfl, hp⟩ := dct_rd s2 v2 hk
      have eu := dr_int (dr_of s2 (v1.mono st2.g st2.l) e3)
      subst eu
      refine ⟨p, _, rfl, .inl ⟨enc kvs, Sum.inl i, hp, rfl, rfl⟩, ?_⟩
      rw [look_enc, Option.isSome_map]
      exact q G2 H2 L2 _ (st1.trans st2) s2 (.bl _)
    · rename_i hk
      obtain ⟨a, e3, hf⟩ := bo hf
      obtain ⟨b, e4, hf⟩ := bo hf
      obtain ⟨r', e5, hf⟩ := bo hf
      cases hf
      refine .inr (tBin_of (l := false) (f := f) (g := g) (F := F) ⟨G, L, ρ, M, r, _, s, er, ?_, q⟩)
      show (val f ρ M).bind _ = _
      rw [e1]
      show (val g ρ M1).bind _ = _
      rw [e2]
      show (rd x M2).bind _ = _
      rw [e3]
      show (rd y M2).bind _ = _
      rw [e4]
      show (F a b).bind _ = _
      rw [e5]
      rfl
theorem pe_din1 (hu : X.A.units + 200 < cLine) (ha : PE X a (tE X.K ca TI f)) (hb : PE X b (tE X.K ca TI g)) (hm : behindInMarks .In b = false) : PE X (.Compare a [.In] [b] pos) (tE X.K ca TI (dInD false (fIn false) f g)) :=
  pe_din (neg := false) (oIn hu) hm ha hb (pe_cmp (pc_din (by omega) (pe_v ha) (pe_v hb)) hm) fun σ H Q q => q
theorem pe_dnotin1 (hu : X.A.units + 200 < cLine) (ha : PE X a (tE X.K ca TI f)) (hb : PE X b (tE X.K ca TI g)) (hm : behindInMarks .NotIn b = false) : PE X (.Compare a [.NotIn] [b] pos) (tE X.K ca TI (dInD true (fIn true) f g)) :=
  pe_din (neg := true) (oNotIn hu) hm ha hb (pe_cmp (pc_dnotin (by omega) (pe_v ha) (pe_v hb)) hm) fun σ H Q q => q

/-! slices -/
def tPt (K : PySem.W.Frag) (ca : Str → Addr) (TI : Hp → Prop) (o : Option Den) : TO := fun σ H Q => ∃ G L ρ M i M', ST K ca TI G H L M ∧ ER K G L σ ρ ∧ dPart o ρ M = some (i, M') ∧ ∀ G' H' L', Step G H L G' H' L' → ST K ca TI G' H' L' M' → Q i H'
theorem po_imp {x : Option Expr} {t t' : TO} (h : PO X x t) (k : ∀ σ H Q, t' σ H Q → t σ H Q) : PO X x t' := ⟨fun pins s σ H Q I q => h.run pins s σ H Q I (k σ H Q q)⟩
theorem po0 : PO X none (tPt X.K ca TI none) := po_imp po_none fun σ H Q q => by
  obtain ⟨G, L, ρ, M, i, M', s, er, hf, q⟩ := q
  cases hf
  exact q G H L Step.refl s
theorem po1 (he : PE X e (tE X.K ca TI f)) : PO X (some e) (tPt X.K ca TI (some f)) := po_imp (po_some (pe_v he)) fun σ H Q q => by
  obtain ⟨G, L, ρ, M, i, M', s, er, hf, q⟩ := q
  obtain ⟨⟨x, M1⟩, e1, hf⟩ := bo hf
  obtain ⟨d, e2, hf⟩ := bo hf
  obtain ⟨j, e3, hf⟩ := bo hf
  cases hf
  rw [asI_eq e3] at e2
  refine ⟨G, L, ρ, M, x, _, s, er, e1, fun G1 H1 L1 v st1 s1 v1 => ⟨j, dr_int (dr_of s1 v1 e2), q G1 H1 L1 st1 s1⟩⟩
def rSl (TI : Hp → Prop) : V → Option Int → Option Int → Hp → VK → Prop := fun x lo hi H Q => ∃ G d, Sub G H ∧ TI H ∧ DR G H x d ∧ match d with
  | .list ds => ∀ v H', Out TI G H H' v (.nl (cutD ds lo hi)) → Q v H'
  | .tuple ds => ∀ v H', Out TI G H H' v (.v (.d (.tuple (cutD ds lo hi)))) → Q v H'
  | _ => False
theorem cutD_dq {G : Hp} {vs : List V} {ds : List PyData} {lo hi : Option Int} (h : DQAll G vs ds) : DQAll G (cutV vs lo hi) (cutD ds lo hi) := by
  unfold cutV cutD
  rw [dpa_len h]
  exact dpa_take _ (dpa_drop _ h)
theorem slAny (T : TOk TI) : SlR X (rSl TI) := by
  intro pins s σ H x v vl vu lo hi sl Q I rx hs pl pu h
  obtain ⟨G, d, sb, ti, ha, h⟩ := h
  cases d with
  | list ds =>
    obtain ⟨p, vs, rfl, h1, h2⟩ := ha.2
    exact sl_list pins s σ H _ v vl vu lo hi sl Q I rx hs pl pu ⟨p, vs, rfl, SqL.of h1, fun q hq => h _ _ (out_lst T sb ti hq (cutD_dq h2))⟩
  | tuple ds =>
    obtain ⟨p, vs, rfl, h1, h2⟩ := dr_tup sb ha
    refine sl_tupF pins s σ H _ v vl vu lo hi sl Q I rx hs pl pu ⟨p, vs, rfl, h1.sq, fun hw => ?_, fun _ => new_tup T sb ti (cutD_dq h2) h⟩
    have e : cutD ds lo hi = ds := by
      rw [dpa_len h2] at hw
      unfold cutD
      rw [hw.1, hw.2]
      simp
    have h' : ∀ v H', Out TI G H H' v (.v (.d (.tuple (cutD ds lo hi)))) → Q v H' := h
    rw [e] at h'
    exact h' _ _ (out_v sb ti ha.2)
  | none => exact h.elim
  | bool _ => exact h.elim
  | int _ => exact h.elim
  | str _ => exact h.elim
  | dict _ => exact h.elim
theorem pe_dslice (T : TOk TI) {lo hi : Option Expr} {ol oh : Option Den} {p2 : Pos} (ha : PE X a (tE X.K ca TI f)) (hl : PO X lo (tPt X.K ca TI ol)) (hh : PO X hi (tPt X.K ca TI oh)) : PE X (.Subscript a (.Slice lo hi none p2) pos) (tE X.K ca TI (dSlice f ol oh)) :=
  pe_imp (pe_slice (slAny T) (pe_v ha) hl hh) fun σ H Q q => by
    obtain ⟨G, L, ρ, M, r, M', s, er, hf, q⟩ := q
    obtain ⟨⟨x, M1⟩, e1, hf⟩ := bo hf
    obtain ⟨⟨i, M2⟩, e2, hf⟩ := bo hf
    obtain ⟨⟨j, M3⟩, e3, hf⟩ := bo hf
    obtain ⟨d, e4, hf⟩ := bo hf
    refine ⟨G, L, ρ, M, x, M1, s, er, e1, fun G1 H1 L1 v st1 s1 v1 => ?_⟩
    refine ⟨G1, L1, ρ, M1, i, M2, s1, er.mono st1.g st1.l, e2, fun G2 H2 L2 st2 s2 => ?_⟩
    have st12 := st1.trans st2
    refine ⟨G2, L2, ρ, M2, j, M3, s2, er.mono st12.g st12.l, e3, fun G3 H3 L3 st3 s3 => ?_⟩
    have st13 := st12.trans st3
    refine ⟨G3, d, s3.ex, s3.ti, dr_of s3 ((v1.mono st2.g st2.l).mono st3.g st3.l) e4, ?_⟩
    cases d with
    | list ds =>
      cases hf
      intro w H4 o
      obtain ⟨G4, st4, s4, rr⟩ := out_step (K := X.K) s3 o
      exact q G4 H4 L3 w (st13.trans st4) s4 (rr.back st13)
    | tuple ds =>
      cases hf
      intro w H4 o
      obtain ⟨G4, st4, s4, rr⟩ := out_step (K := X.K) s3 o
      exact q G4 H4 L3 w (st13.trans st4) s4 (rr.back st13)
    | none => cases hf
    | bool _ => cases hf
    | int _ => cases hf
    | str _ => cases hf
    | dict _ => cases hf
end
end PV

set_option maxRecDepth 100000
set_option maxHeartbeats 1000000
/-! built-in functions on plain data -/
namespace PV
open PySem PySem.Spec PyProof.Rows L2

def fLen : List PyData → Option Res
  | [.list ds] => rint ds.length
  | [.tuple ds] => rint ds.length
  | _ => none
def fTuple : List PyData → Option Res
  | [.list ds] => dv (.tuple ds)
  | [.tuple ds] => dv (.tuple ds)
  | _ => none
def fList : List PyData → Option Res
  | [.list ds] => some (.nl ds)
  | [.tuple ds] => some (.nl ds)
  | _ => none
def boolsOf : List PyData → Option (List Bool)
  | [] => some []
  | .bool b :: r => (boolsOf r).map (b :: ·)
  | _ :: _ => none
def fAll : List PyData → Option Res
  | [.list ds] => (boolsOf ds).bind fun bs => rbl (bs.all id)
  | _ => none
def fMax : List PyData → Option Res
  | [.int i, .int j] => rint (if j > i then j else i)
  | [.list ds] => (intsOf ds).bind fun ns => match ns with
    | [] => none
    | n :: r => rint (r.foldl max n)
  | _ => none
def isPair : PyData → Bool
  | .tuple [.int _, .int _] => true
  | _ => false
def fMin : List PyData → Option Res
  | [.int i, .int j] => rint (if j < i then j else i)
  | [.list [d]] => if isPair d then dv d else none
  | _ => none
def fInt : List PyData → Option Res
  | [.int i] => rint i
  | [.bool b] => rint (if b then 1 else 0)
  | _ => none
def fSum : List PyData → Option Res
  | [.tuple ds] => (intsOf ds).bind fun ns => rint ns.sum
  | _ => none
/-- how long a text of repr can be -/
def shOk (d : PyData) : Bool := d.showable && !d.hasDict && decide (d.depth ≤ 100) && decide (d.shown.length ≤ 16777216)
def fRepr : List PyData → Option Res
  | [.int i] => if decide (i.natAbs.log2 < 1920) then dv (.str (toString i)) else none
  | [.tuple ds] => if shOk (.tuple ds) then dv (.str (PyData.shown (.tuple ds))) else none
  | [.list ds] => if shOk (.list ds) then dv (.str (PyData.shown (.list ds))) else none
  | _ => none
theorem boolsOf_eq : ∀ {ds : List PyData} {bs : List Bool}, boolsOf ds = some bs → ds = bs.map PyData.bool
  | [], bs, h => by simp [boolsOf] at h; subst h; rfl
  | .bool i :: r, bs, h => by
    simp only [boolsOf, Option.map_eq_some_iff] at h
    obtain ⟨m, h1, rfl⟩ := h
    rw [boolsOf_eq h1]; rfl
  | .none :: _, _, h => by simp [boolsOf] at h
  | .int _ :: _, _, h => by simp [boolsOf] at h
  | .str _ :: _, _, h => by simp [boolsOf] at h
  | .list _ :: _, _, h => by simp [boolsOf] at h
  | .tuple _ :: _, _, h => by simp [boolsOf] at h
  | .dict _ :: _, _, h => by simp [boolsOf] at h
theorem dqa_bools {G : Hp} : ∀ {bs : List Bool} {vs : List V}, DQAll G vs (bs.map PyData.bool) → vs = bs.map V.bl
  | [], _, h => by cases h; rfl
  | b :: bs, _, h => by
    cases h with
    | cons h1 h2 =>
      cases h1
      rw [dqa_bools h2]; rfl
theorem fmax_ge : ∀ (r : List Int) (n : Int), n ≤ r.foldl max n ∧ (∀ y ∈ r, y ≤ r.foldl max n) ∧ (r.foldl max n = n ∨ r.foldl max n ∈ r)
  | [], n => ⟨Int.le_refl _, ⟨fun y h => by simp at h, Or.inl rfl⟩⟩
  | m :: r, n => by
    obtain ⟨h1, h2, h3⟩ := fmax_ge r (max n m)
    refine ⟨Int.le_trans (by omega) h1, fun y hy => ?_, ?_⟩
    · rcases List.mem_cons.mp hy with rfl | hy
      · exact Int.le_trans (show y ≤ max n y by omega) h1
      · exact h2 y hy
    · rcases h3 with h3 | h3
      · show r.foldl max (max n m) = n ∨ _
        by_cases h : n ≤ m
        · right; show r.foldl max (max n m) ∈ _; rw [h3, show max n m = m by omega]; exact List.mem_cons_self
        · left; omega
      · exact .inr (List.mem_cons_of_mem _ h3)
section
variable {X : Cx} {TI : Hp → Prop} {G H : Hp} {v : V} {d : PyData} {l : Bool}
/-- what a look at a sequence gives -/
theorem dl_list {ds : List PyData} (h : DL l X.K G H v (.list ds)) : ∃ p vs, v = V.ref p ∧ SqL X.K H p vs ∧ DQAll G vs ds := by
  cases l with
  | false =>
    obtain ⟨p, vs, rfl, h1, h2⟩ := h.2
    exact ⟨p, vs, rfl, SqL.of h1, h2⟩
  | true =>
    rcases h with h | ⟨p, vs, es, rfl, he, h1, h2⟩
    · obtain ⟨p, vs, rfl, h1, h2⟩ := h.2
      exact ⟨p, vs, rfl, SqL.of h1, h2⟩
    · cases he
      exact ⟨p, vs, rfl, h1, h2⟩
theorem dl_dr (h : DL l X.K G H v d) (hd : ∀ ds, d ≠ .list ds) : DR G H v d := by
  cases l with
  | false => exact h
  | true =>
    rcases h with h | ⟨p, vs, es, rfl, he, h1, h2⟩
    · exact h
    · exact absurd he (hd es)
theorem dl_tup {ds : List PyData} (sb : Sub G H) (h : DL l X.K G H v (.tuple ds)) : ∃ p vs, v = V.ref p ∧ TF H p vs ∧ DQAll G vs ds ∧ DQ G v (.tuple ds) := by
  have h' := dl_dr h (fun _ e => nomatch e)
  obtain ⟨p, vs, rfl, h1, h2⟩ := dr_tup sb h'
  exact ⟨p, vs, rfl, h1, h2, h'.2⟩
theorem drs1 {D : V → PyData → Prop} {xs : List V} {d : PyData} (h : DRs D xs [d]) : ∃ x, xs = [x] ∧ D x d := by
  cases h with
  | cons h t => cases t; exact ⟨_, rfl, h⟩
theorem drs2 {D : V → PyData → Prop} {xs : List V} {d e : PyData} (h : DRs D xs [d, e]) : ∃ x y, xs = [x, y] ∧ D x d ∧ D y e := by
  cases h with
  | cons h t => cases t with
    | cons h2 t => cases t; exact ⟨_, _, rfl, h, h2⟩
theorem bLen : CallR X (.builtin "len") (rC l X.K TI fLen) := by
  intro pins s σ H xs us Q I r h
  obtain ⟨G, ds, r0, sb, ti, hd, hf, q⟩ := h
  unfold fLen at hf
  split at hf
  · rename_i ds
    obtain ⟨x, rfl, hx⟩ := drs1 hd
    obtain ⟨p, vs, rfl, h1, h2⟩ := dl_list hx
    have q' := q_int sb ti hf q
    rw [← dpa_len h2] at q'
    exact call_len_seq pins s σ H _ us Q I r ⟨p, vs, rfl, .inl h1, q'⟩
  · rename_i ds
    obtain ⟨x, rfl, hx⟩ := drs1 hd
    obtain ⟨p, vs, rfl, h1, h2, _⟩ := dl_tup sb hx
    have q' := q_int sb ti hf q
    rw [← dpa_len h2] at q'
    exact call_len_seq pins s σ H _ us Q I r ⟨p, vs, rfl, .inr h1.sq, q'⟩
  · cases hf
theorem bTuple (T : TOk TI) : CallR X (.type "tuple") (rC l X.K TI fTuple) := by
  intro pins s σ H xs us Q I r h
  obtain ⟨G, ds, r0, sb, ti, hd, hf, q⟩ := h
  unfold fTuple at hf
  split at hf
  · rename_i ds
    cases hf
    obtain ⟨x, rfl, hx⟩ := drs1 hd
    obtain ⟨p, vs, rfl, h1, h2⟩ := dl_list hx
    exact call_tupleF pins s σ H _ us Q I r ⟨p, vs, rfl, .inl ⟨h1, new_tup T sb ti h2 q⟩⟩
  · rename_i ds
    cases hf
    obtain ⟨x, rfl, hx⟩ := drs1 hd
    obtain ⟨p, vs, rfl, h1, h2, h3⟩ := dl_tup sb hx
    exact call_tupleF pins s σ H _ us Q I r ⟨p, vs, rfl, .inr ⟨h1.sq, q _ _ (out_v sb ti h3)⟩⟩
  · cases hf
theorem bList (T : TOk TI) : CallR X (.type "list") (rC l X.K TI fList) := by
  intro pins s σ H xs us Q I r h
  obtain ⟨G, ds, r0, sb, ti, hd, hf, q⟩ := h
  unfold fList at hf
  split at hf
  · rename_i ds
    cases hf
    obtain ⟨x, rfl, hx⟩ := drs1 hd
    obtain ⟨p, vs, rfl, h1, h2⟩ := dl_list hx
    exact call_list_of pins s σ H _ us Q I r ⟨p, vs, rfl, .inl h1, fun a ha => q _ _ (out_lst T sb ti ha h2)⟩
  · rename_i ds
    cases hf
    obtain ⟨x, rfl, hx⟩ := drs1 hd
    obtain ⟨p, vs, rfl, h1, h2, h3⟩ := dl_tup sb hx
    exact call_list_of pins s σ H _ us Q I r ⟨p, vs, rfl, .inr h1.sq, fun a ha => q _ _ (out_lst T sb ti ha h2)⟩
  · cases hf
theorem bAll (hc : X.calm = true) : CallR X (.builtin "all") (rC l X.K TI fAll) := by
  intro pins s σ H xs us Q I r h
  obtain ⟨G, ds, r0, sb, ti, hd, hf, q⟩ := h
  unfold fAll at hf
  split at hf
  · rename_i ds
    obtain ⟨bs, e1, hf⟩ := bo hf
    obtain ⟨x, rfl, hx⟩ := drs1 hd
    obtain ⟨p, vs, rfl, h1, h2⟩ := dl_list hx
    rw [boolsOf_eq e1] at h2
    rw [dqa_bools h2] at h1
    exact cr_all hc pins s σ H _ us Q I r ⟨p, bs, rfl, h1, q_bl sb ti hf q⟩
  · cases hf
theorem bMax (hc : X.calm = true) : CallR X (.builtin "max") (rC l X.K TI fMax) := by
  intro pins s σ H xs us Q I r h
  obtain ⟨G, ds, r0, sb, ti, hd, hf, q⟩ := h
  unfold fMax at hf
  split at hf
  · rename_i i j
    obtain ⟨x, y, rfl, hx, hy⟩ := drs2 hd
    have e1 := dr_int (dl_dr hx fun _ e => nomatch e)
    have e2 := dr_int (dl_dr hy fun _ e => nomatch e)
    subst e1 e2
    exact call_max2 hc pins s σ H _ us Q I r ⟨i, j, rfl, q_int sb ti hf q⟩
  · rename_i ds
    obtain ⟨ns, e1, hf⟩ := bo hf
    obtain ⟨x, rfl, hx⟩ := drs1 hd
    obtain ⟨p, vs, rfl, h1, h2⟩ := dl_list hx
    rw [intsOf_eq e1] at h2
    rw [dpa_of_ints h2] at h1
    cases ns with
    | nil => cases hf
    | cons n rs =>
      refine cr_max hc pins s σ H _ us Q I r ⟨p, n :: rs, rfl, h1, by simp, fun m hm hge => ?_⟩
      obtain ⟨k1, k2, k3⟩ := fmax_ge rs n
      have e : m = rs.foldl max n := by
        refine Int.le_antisymm ?_ (hge _ ?_)
        · rcases List.mem_cons.mp hm with rfl | hm
          · exact k1
          · exact k2 m hm
        · rcases k3 with k3 | k3
          · rw [k3]; exact List.mem_cons_self
          · exact List.mem_cons_of_mem _ k3
      rw [e]
      exact q_int sb ti hf q
  · cases hf
theorem isPair_eq {d : PyData} (h : isPair d = true) : ∃ i j, d = .tuple [.int i, .int j] := by
  unfold isPair at h
  split at h
  · exact ⟨_, _, rfl⟩
  · cases h
theorem bMin (hc : X.calm = true) (hu : X.A.units + 200 < cLine) : CallR X (.builtin "min") (rC l X.K TI fMin) := by
  intro pins s σ H xs us Q I r h
  obtain ⟨G, ds, r0, sb, ti, hd, hf, q⟩ := h
  unfold fMin at hf
  split at hf
  · rename_i i j
    obtain ⟨x, y, rfl, hx, hy⟩ := drs2 hd
    have e1 := dr_int (dl_dr hx fun _ e => nomatch e)
    have e2 := dr_int (dl_dr hy fun _ e => nomatch e)
    subst e1 e2
    exact call_min2 hc pins s σ H _ us Q I r ⟨i, j, rfl, q_int sb ti hf q⟩
  · rename_i d
    split at hf
    · rename_i hp
      obtain ⟨i, j, rfl⟩ := isPair_eq hp
      cases hf
      obtain ⟨x, rfl, hx⟩ := drs1 hd
      obtain ⟨p, vs, rfl, h1, h2⟩ := dl_list hx
      cases h2 with
      | cons k1 k2 =>
        cases k2
        rename_i v0
        obtain ⟨its, rv, pl, hz⟩ := I.list h1
        have hp' := Vals.ref1 r
        subst hp'
        obtain ⟨u0, rfl, ru⟩ := vals1 rv
        obtain ⟨as, rd⟩ := Dp.reads I _ v0 u0 (dq_dp (K := X.K) _ _ (dp_mono sb _ _ k1)) ru
        refine PySem.W.min_list_data (x := .tuple [.int i, .int j]) (xs := []) (vs := [u0].toArray) (as := as ++ []) (I.ok.hd hc) pl.isList (.cons rd .nil) ?_ ?_ fun n v h' tk bs hv _ hk => ?_
        · refine ⟨fun a ha b hb => ?_, fun a ha => ?_⟩
          · rw [List.mem_singleton.mp ha, List.mem_singleton.mp hb]
            rfl
          · rw [List.mem_singleton.mp ha]
            exact fun e => nomatch e
        · show X.A.units + 1 + PyData.depthAll [.tuple [.int i, .int j]] < cLine
          simp only [PyData.depthAll, PyData.depth]
          omega
        · have hv' : v = u0 := by
            cases n with
            | zero => simpa using hv.symm
            | succ n => simp at hv
          subst hv'
          exact ⟨v0, H, I.kept hk, ru, q _ _ (out_v sb ti k1)⟩
    · cases hf
  · cases hf
end
end PV

set_option maxRecDepth 100000
set_option maxHeartbeats 1000000
/-! int, repr, sum, sorted, isinstance -/
namespace PV
open PySem PySem.Spec PyProof.Rows L2
/-- numbers in order -/
def insI (n : Int) : List Int → List Int
  | [] => [n]
  | m :: r => if n ≤ m then n :: m :: r else m :: insI n r
def isort : List Int → List Int
  | [] => []
  | n :: r => insI n (isort r)
theorem insI_perm (n : Int) : ∀ l : List Int, (insI n l).Perm (n :: l)
  | [] => List.Perm.refl _
  | m :: r => by
    unfold insI
    split
    · exact List.Perm.refl _
    · exact ((insI_perm n r).cons m).trans (List.Perm.swap n m r)
theorem isort_perm : ∀ l : List Int, (isort l).Perm l
  | [] => List.Perm.refl _
  | n :: r => (insI_perm n _).trans ((isort_perm r).cons n)
theorem insI_srt (n : Int) : ∀ l : List Int, l.Pairwise (· ≤ ·) → (insI n l).Pairwise (· ≤ ·)
  | [], _ => by simp [insI]
  | m :: r, h => by
    obtain ⟨h1, h2⟩ := List.pairwise_cons.mp h
    unfold insI
    split
    · rename_i hn
      exact List.pairwise_cons.mpr ⟨fun y hy => by
        rcases List.mem_cons.mp hy with rfl | hy
        · exact hn
        · exact Int.le_trans hn (h1 y hy), h⟩
    · rename_i hn
      refine List.pairwise_cons.mpr ⟨fun y hy => ?_, insI_srt n r h2⟩
      rcases List.mem_cons.mp ((insI_perm n r).mem_iff.mp hy) with rfl | hy
      · omega
      · exact h1 y hy
theorem isort_srt : ∀ l : List Int, (isort l).Pairwise (· ≤ ·)
  | [] => List.Pairwise.nil
  | n :: r => insI_srt n _ (isort_srt r)
theorem srt_uniq : ∀ {l m : List Int}, l.Perm m → l.Pairwise (· ≤ ·) → m.Pairwise (· ≤ ·) → l = m
  | [], m, p, _, _ => (List.Perm.nil_eq p)
  | a :: l, [], p, _, _ => absurd p.length_eq (by simp)
  | a :: l, b :: m, p, h, k => by
    obtain ⟨h1, h2⟩ := List.pairwise_cons.mp h
    obtain ⟨k1, k2⟩ := List.pairwise_cons.mp k
    have e : a = b := by
      refine Int.le_antisymm ?_ ?_
      · rcases List.mem_cons.mp (p.mem_iff.mpr (List.mem_cons_self (a := b) (l := m))) with e | e
        · omega
        · exact h1 b e
      · rcases List.mem_cons.mp (p.mem_iff.mp (List.mem_cons_self (a := a) (l := l))) with e | e
        · omega
        · exact k1 a e
    subst e
    rw [srt_uniq p.cons_inv h2 k2]
def allPairs : List PyData → Bool
  | [] => true
  | d :: r => isPair d && allPairs r
theorem vals_each {G : Hp} : ∀ {vs : List V} {its : List Value} {ds : List PyData}, Vals vs its → DQAll G vs ds → PySem.W.EachIs (fun u d => ∃ x : V, RelV x u ∧ DQ G x d) its ds
  | [], [], _, _, h => by cases h; exact .nil
  | _ :: _, _ :: _, _, r, h => by
    cases r with
    | cons r1 r2 =>
      cases h with
      | cons h1 h2 => exact .cons ⟨_, r1, h1⟩ (vals_each r2 h2)
theorem each_vals {G : Hp} : ∀ {its : List Value} {ds : List PyData}, PySem.W.EachIs (fun u d => ∃ x : V, RelV x u ∧ DQ G x d) its ds → ∃ vs : List V, Vals vs its ∧ DQAll G vs ds
  | [], _, h => by cases h; exact ⟨[], .nil, .nil⟩
  | _ :: _, _, h => by
    cases h with
    | cons h1 h2 =>
      obtain ⟨x, a, b⟩ := h1
      obtain ⟨vs, c, d⟩ := each_vals h2
      exact ⟨x :: vs, .cons a c, .cons b d⟩
def fSorted : List PyData → Option Res
  | [.list ds] => (match intsOf ds with
    | some ns => some (.nl ((isort ns).map PyData.int))
    | none => if allPairs ds && decide (ds.length ≤ big) then some (.nl (ds.mergeSort (PySem.W.dataLe false id))) else none)
  | _ => none
theorem allPairs_mem : ∀ {ds : List PyData}, allPairs ds = true → ∀ d ∈ ds, isPair d = true
  | [], _, d, hd => by simp at hd
  | e :: r, h, d, hd => by
    unfold allPairs at h
    rw [Bool.and_eq_true] at h
    rcases List.mem_cons.mp hd with rfl | hd
    · exact h.1
    · exact allPairs_mem h.2 d hd
section
variable {X : Cx} {TI : Hp → Prop} {G H : Hp} {v : V} {d : PyData} {l : Bool}
theorem bInt : CallR X (.type "int") (rC l X.K TI fInt) := by
  intro pins s σ H xs us Q I r h
  obtain ⟨G, ds, r0, sb, ti, hd, hf, q⟩ := h
  unfold fInt at hf
  split at hf
  · rename_i i
    obtain ⟨x, rfl, hx⟩ := drs1 hd
    have e1 := dr_int (dl_dr hx fun _ e => nomatch e)
    subst e1
    exact call_int1 pins s σ H _ us Q I r (.inl ⟨i, rfl, q_int sb ti hf q⟩)
  · rename_i b
    obtain ⟨x, rfl, hx⟩ := drs1 hd
    have e1 := dr_bool (dl_dr hx fun _ e => nomatch e)
    subst e1
    exact call_int1 pins s σ H _ us Q I r (.inr ⟨b, rfl, q_int sb ti hf q⟩)
  · cases hf
theorem q_str {x : Str} {Q : VK} {r : Res} (sb : Sub G H) (ti : TI H) (hf : dv (.str x) = some r) (q : ∀ v H', Out TI G H H' v r → Q v H') : Q (.str x) H := by
  cases hf
  exact q _ _ (out_v sb ti (.str x))
theorem repr_at {pins : List (Addr × Obj)} {σ : L2.St} {s : Shared} {Q : VK} {a : Addr} {r : Res} (I : Inv X pins σ H s) (hg : X.A.guards = some []) (hu : X.A.units + 200 < cLine) (hx : Dp X.K H (.ref a) d) (hs : shOk d = true)
    (sb : Sub G H) (ti : TI H) (hf : dv (.str d.shown) = some r) (q : ∀ v H', Out TI G H H' v r → Q v H') : wpAny (model X.prog X.w) X.A (call (.builtin "repr") [.ref a]) (EP X pins σ Q) X.xe s := by
  unfold shOk at hs
  simp only [Bool.and_eq_true, decide_eq_true_eq, Bool.not_eq_true'] at hs
  obtain ⟨⟨⟨s1, s2⟩, s3⟩, s4⟩ := hs
  obtain ⟨as, r1⟩ := Dp.reads I d _ (.ref a) hx rfl
  refine repr_of_reads' r1 s1 (fun z => by rw [s2] at z; cases z) hg (by omega) (fun _ _ e => e) (fun h' u tk hk => ?_) (by rw [sizeLine_eq]; exact s4)
  exact ⟨.str d.shown, H, I.kept hk, ⟨u, rfl⟩, q_str sb ti hf q⟩
theorem bRepr (hg : X.A.guards = some []) (hu : X.A.units + 200 < cLine) : CallR X (.builtin "repr") (rC l X.K TI fRepr) := by
  intro pins s σ H xs us Q I r h
  obtain ⟨G, ds, r0, sb, ti, hd, hf, q⟩ := h
  unfold fRepr at hf
  split at hf
  · rename_i i
    obtain ⟨x, rfl, hx⟩ := drs1 hd
    have e1 := dr_int (dl_dr hx fun _ e => nomatch e)
    subst e1
    split at hf
    · rename_i hz
      exact SkE.call_repr_int pins s σ H _ us Q I r ⟨i, rfl, of_decide_eq_true hz, q_str sb ti hf q⟩
    · cases hf
  · rename_i ds
    obtain ⟨x, rfl, hx⟩ := drs1 hd
    obtain ⟨p, vs, rfl, h1, h2, h3⟩ := dl_tup sb hx
    have e := Vals.ref1 r
    subst e
    split at hf
    · rename_i hz
      exact repr_at I hg hu (dq_dp _ _ (dp_mono sb _ _ h3)) hz sb ti hf q
    · cases hf
  · rename_i ds
    obtain ⟨x, rfl, hx⟩ := drs1 hd
    obtain ⟨p, vs, rfl, h1, h2⟩ := dl_list hx
    have e := Vals.ref1 r
    subst e
    split at hf
    · rename_i hz
      exact repr_at I hg hu (.lst h1 (dqa_dpa _ _ (dpa_mono sb _ _ h2))) hz sb ti hf q
    · cases hf
  · cases hf
theorem preSum_ext {f g : Nat → Int} : ∀ n : Nat, (∀ j, j < n → f j = g j) → preSum f n = preSum g n
  | 0, _ => rfl
  | n + 1, h => by
    show preSum f n + f n = preSum g n + g n
    rw [preSum_ext n fun j hj => h j (by omega), h n (by omega)]
theorem preSum_shift (f : Nat → Int) : ∀ n : Nat, preSum f (n + 1) = f 0 + preSum (fun j => f (j + 1)) n
  | 0 => by show 0 + f 0 = f 0 + 0; omega
  | n + 1 => by
    show preSum f (n + 1) + f (n + 1) = f 0 + (preSum (fun j => f (j + 1)) n + f (n + 1))
    rw [preSum_shift f n]; omega
theorem preSum_list : ∀ ns : List Int, preSum (fun j => ns.getD j 0) ns.length = ns.sum
  | [] => rfl
  | n :: r => by
    rw [List.length_cons, preSum_shift, List.sum_cons, ← preSum_list r]
    rfl
theorem bSum (hc : X.calm = true) : CallR X (.builtin "sum") (rC l X.K TI fSum) := by
  intro pins s σ H xs us Q I r h
  obtain ⟨G, ds, r0, sb, ti, hd, hf, q⟩ := h
  unfold fSum at hf
  split at hf
  · rename_i ds
    obtain ⟨ns, e1, hf⟩ := bo hf
    obtain ⟨x, rfl, hx⟩ := drs1 hd
    obtain ⟨p, vs, rfl, h1, h2, h3⟩ := dl_tup sb hx
    rw [intsOf_eq e1] at h2
    have ev := dpa_of_ints h2
    subst ev
    have e := Vals.ref1 r
    subst e
    obtain ⟨its, rv, pt, hz⟩ := I.tuple h1.sq
    have hi := rv.ints
    have hsz : its.length = ns.length := by rw [← rv.length, List.length_map]
    have hv : ∀ (j : Nat) (u : Value), its.toArray[j]? = some u → ∃ t, u = Value.int (ns.getD j 0) t := fun j u hj => by
      rw [List.getElem?_toArray] at hj
      have hlt : j < ns.length := by rw [← hsz]; exact (List.getElem?_eq_some_iff.mp hj).1
      obtain ⟨u', hu', t, ru⟩ := Vals.get rv (show (ns.map V.int)[j]? = some (V.int ns[j]) by simp [hlt])
      rw [hj] at hu'
      cases hu'
      exact ⟨t, by rw [ru]; simp [hlt]⟩
    refine call_sum_walkAnyS (PySem.W.iter_tupleW (A := X.A.in1) (I.ok.hd hc) (show s.heap.IsTuple p its.toArray from pt) fun s₂ e W st hfp hw hk => ?_)
    refine ⟨_, _, _, _, _, _, _, fun j => ns.getD j 0, rfl, W, st, hfp, hv, fun s' t' m => ?_⟩
    obtain ⟨h', tk, rfl, hk'⟩ := PySem.W.moved_old e rfl m
    have es : preSum (fun j => ns.getD j 0) its.toArray.size = ns.sum := by
      rw [List.size_toArray, hsz]
      exact preSum_list ns
    rw [es]
    exact ⟨.int ns.sum, H, I.kept hk', ⟨t', rfl⟩, q_int sb ti hf q⟩
  · cases hf
theorem bSorted (hu : X.A.units + 200 < cLine) (T : TOk TI) : CallR X (.builtin "sorted") (rC l X.K TI fSorted) := by
  intro pins s σ H xs us Q I r h
  obtain ⟨G, ds, r0, sb, ti, hd, hf, q⟩ := h
  unfold fSorted at hf
  split at hf
  · rename_i ds
    obtain ⟨x, rfl, hx⟩ := drs1 hd
    obtain ⟨p, vs, rfl, h1, h2⟩ := dl_list hx
    split at hf
    · rename_i ns hn
      cases hf
      rw [intsOf_eq hn] at h2
      have ev := dpa_of_ints h2
      subst ev
      refine cr_sortedI pins s σ H _ us Q I r ⟨p, ns, rfl, h1, fun ns' a hp hs ha => ?_⟩
      have e : ns' = isort ns := srt_uniq (hp.trans (isort_perm ns).symm) hs (isort_srt ns)
      subst e
      exact q _ _ (out_lst T sb ti ha (dpa_ints _))
    · split at hf
      · rename_i hn hb
        cases hf
        rw [Bool.and_eq_true, decide_eq_true_eq] at hb
        have hall := allPairs_mem hb.1
        have e := Vals.ref1 r
        subst e
        obtain ⟨its, rv, pl, hz⟩ := I.list h1
        have hr := vals_each rv h2
        have hre : PySem.W.EachIs (fun u d => ∃ as, Reads s.heap u (id d) as) its ds := hr.mono fun u d ⟨x, a, b⟩ => Dp.reads I d x u (dq_dp (K := X.K) d x (dp_mono sb d x b)) a
        refine PySem.W.sorted_data (enc := id) (vs := its) (bs := ds) pl.isList hr hre ?_ ?_ (big_le hb.2) ?_ fun out ho eo => ?_
        · intro d hd d' hd'
          rw [List.map_id] at hd hd'
          obtain ⟨i, j, rfl⟩ := isPair_eq (hall d hd)
          obtain ⟨i', j', rfl⟩ := isPair_eq (hall d' hd')
          rfl
        · refine .inl fun d hd => ?_
          rw [List.map_id] at hd
          obtain ⟨i, j, rfl⟩ := isPair_eq (hall d hd)
          exact ⟨_, _, rfl⟩
        · intro d hd
          obtain ⟨i, j, rfl⟩ := isPair_eq (hall d hd)
          show X.A.units + 2 + PyData.depth (.tuple [.int i, .int j]) < cLine
          simp only [PyData.depth, PyData.depthAll]
          omega
        · obtain ⟨ws, rw', dw⟩ := each_vals eo
          obtain ⟨ep, he'⟩ := PyProof.Rows.sortedAll_at s.heap its out.toArray
          refine ⟨.ref _, upd H (s.heap.objs.size + 1) (.lst ws), I.laid (t' := s.toks) (fun _ _ => PyProof.Rows.sortedAll_old) (Nat.le_succ _) ⟨?_, out, ep, rw', he'⟩, rfl, q _ _ (out_lst T sb ti (I.hok.fresh (Nat.le_succ _)) dw)⟩
          rw [rw'.length, ho, ← dpa_len h2]
          exact hz
      · cases hf
  · cases hf
end
end PV

set_option maxRecDepth 100000
set_option maxHeartbeats 1000000
/-! cells written; methods of lists and tuples; isinstance; calls of built-ins -/
namespace PV
open PySem PySem.Spec PyProof.Rows L2
section
variable {K : PySem.W.Frag} {ca : Str → Addr} {TI : Hp → Prop} {G H : Hp} {L : List Addr} {M : Sto}
theorem set_get {α : Type} {l : List α} {k i : Nat} {a b : α} (h : (l.set k a)[i]? = some b) : (i = k ∧ b = a) ∨ (i ≠ k ∧ l[i]? = some b) := by
  by_cases e : i = k
  · subst e
    have hl : i < l.length := by
      have := (List.getElem?_eq_some_iff.mp h).1
      rwa [List.length_set] at this
    rw [List.getElem?_set_self hl] at h
    exact .inl ⟨rfl, (Option.some.inj h).symm⟩
  · rw [List.getElem?_set_ne (fun z => e z.symm)] at h
    exact .inr ⟨e, h⟩
theorem nodup_at {l : List Addr} (h : l.Nodup) {i j : Nat} {a : Addr} (hi : l[i]? = some a) (hj : l[j]? = some a) : i = j := by
  obtain ⟨h1, e1⟩ := List.getElem?_eq_some_iff.mp hi
  obtain ⟨h2, e2⟩ := List.getElem?_eq_some_iff.mp hj
  exact (List.getElem_inj h).mp (e1.trans e2.symm)
/-- the object of a living cell is changed -/
theorem ST.write (T : TOk TI) (s : ST K ca TI G H L M) {k : Nat} {a : Addr} {c c' : Cell} {u o : HO} (hk : L[k]? = some a) (hc : M[k]? = some c) (hd : c ≠ Cell.dead) (hu : H a = some u) (hi : isK u = false) (h' : CellAt K ca G (upd H a o) L a c') (ho : isF o = false := by rfl) :
    ST K ca TI G (upd H a o) L (M.set k c') ∧ Step G H L G (upd H a o) L := by
  have ga := s.fr k a c hk hc hd
  have hmem : a ∈ L := List.mem_of_getElem? hk
  refine ⟨⟨fun p w e => ?_, fun i p d h1 h2 h3 => ?_, s.nd, by rw [List.length_set]; exact s.len, fun p hp => ?_, fun i p d h1 h2 => ?_, T.at_ hu hi s.ti, fun p w e f => s.kt p w (by
    rw [upd_ne (fun z => by
      subst z
      rw [upd_same] at e
      cases e
      rw [ho] at f
      cases f)] at e
    exact e) f⟩, Evl.Ex.refl G, List.prefix_refl L, fun p w e n t => ?_, fun p hp => .inl hp, fun p a b => absurd a b, fun p hp => ?_⟩
  · by_cases h : p = a
    · subst h; rw [ga] at e; cases e
    · rw [upd_ne h]; exact s.ex p w e
  · rcases set_get h2 with ⟨rfl, rfl⟩ | ⟨_, h2⟩
    · rw [hk] at h1; cases h1; exact ga
    · exact s.fr i p d h1 h2 h3
  · by_cases h : p = a
    · subst h; rw [upd_same]; simp
    · rw [upd_ne h]; exact s.here p hp
  · rcases set_get h2 with ⟨rfl, rfl⟩ | ⟨hne, h2⟩
    · rw [hk] at h1; cases h1; exact h'
    · refine (s.at_ i p d h1 h2).keep (Evl.Ex.refl G) (List.prefix_refl L) (upd_ne fun z => ?_)
      subst z
      exact hne (nodup_at s.nd h1 hk)
  · rw [upd_ne (fun z => n (by rw [z]; exact hmem))]; exact e
  · by_cases h : p = a
    · subst h; rw [upd_same]; simp
    · rw [upd_ne h]; exact hp
/-- a cell is given up -/
theorem ST.kill (s : ST K ca TI G H L M) (k : Nat) : ST K ca TI G H L (M.set k .dead) where
  ex := s.ex
  fr := fun i p d h1 h2 h3 => by
    rcases set_get h2 with ⟨rfl, rfl⟩ | ⟨_, h2⟩
    · exact absurd rfl h3
    · exact s.fr i p d h1 h2 h3
  nd := s.nd
  len := by rw [List.length_set]; exact s.len
  here := s.here
  at_ := fun i p d h1 h2 => by
    rcases set_get h2 with ⟨rfl, rfl⟩ | ⟨_, h2⟩
    · trivial
    · exact s.at_ i p d h1 h2
  ti := s.ti
  kt := s.kt
/-- a list cell becomes data -/
theorem ST.still {k : Nat} {a : Addr} {vs : List V} {xs : List PyData} (s : ST K ca TI G H L M) (hk : L[k]? = some a) (hc : M[k]? = some (.lst xs)) (hv : H a = some (.lst vs)) (hd : DQAll G vs xs) :
    ∃ G', Step G H L G' H L ∧ ST K ca TI G' H L (M.set k .dead) ∧ G' a = some (.lst vs) ∧ DQAll G' vs xs := by
  have ga := s.fr k a _ hk hc (fun e => nomatch e)
  have hmem : a ∈ L := List.mem_of_getElem? hk
  refine ⟨upd G a (.lst vs), ⟨Evl.Ex.new ga, List.prefix_refl L, fun p o e _ _ => e, fun p hp => .inl hp, fun p h1 h2 => ?_, fun p hp => hp⟩, (s.kill k).freeze ga hv fun i c e1 e2 => ?_, upd_same, dpa_mono (Evl.Ex.new ga) xs vs hd⟩
  · by_cases h : p = a
    · subst h; exact .inl hmem
    · rw [upd_ne h] at h2; exact absurd h1 h2
  · rcases set_get e2 with ⟨rfl, rfl⟩ | ⟨hne, _⟩
    · rfl
    · exact absurd (nodup_at s.nd e1 hk) hne
end

/-! ### methods -/
def tyW (K : PySem.W.Frag) (T : String) (x : V) (H : Hp) : Prop := tyV K T x H ∨ (T = "tuple" ∧ ∃ p xs, x = .ref p ∧ TF H p xs)
theorem tyW_is {X : Cx} {pins : List (Addr × Obj)} {σ : L2.St} {H : Hp} {s : Shared} {T : String} {x : V} {v : Value} (I : Inv X pins σ H s) (r : RelV x v) (ty : tyW X.K T x H) :
    s.TypeIs v T ∧ ∀ a, v = .ref a → ∃ ob, s.heap.get? a = some ob ∧ ob.dict = none := by
  rcases ty with ty | ⟨rfl, p, xs, rfl, o, ho, e⟩
  · exact tyV_is I r ty
  · cases r
    obtain ⟨h1, _, _, _, ob, h2, h3, _⟩ := (show ObjOk X.prog X.w H s.heap p (.frz o (.tup xs)) from I.hok p _ e)
    rw [h1] at h2
    cases h2
    refine ⟨⟨o, h1, h3⟩, fun a ea => ?_⟩
    cases ea
    exact ⟨o, h1, ho⟩
def ns : Expr → Bool
  | .Starred _ _ => false
  | _ => true
theorem star1 {e : Expr} {es : List Expr} {env : PySem.Env} (h : ns e = true) : starEach (e :: es) env = (false, eval e env) :: starEach es env := by
  cases e <;> first | rfl | cases h
def nsAll : List Expr → Bool
  | [] => true
  | e :: es => ns e && nsAll es
theorem star_back {pos : Pos} {env : PySem.Env} : ∀ {es : List Expr}, nsAll es = true → (backTo pos (starEach es env)).any (·.1) = false
  | [], _ => rfl
  | e :: es, h => by
    unfold nsAll at h
    rw [Bool.and_eq_true] at h
    rw [star1 h.1]
    show (false || (backTo pos (starEach es env)).any (·.1)) = false
    rw [star_back h.2]
    rfl
section
variable {X : Cx} {o e : Expr} {es : List Expr} {to : TE} {t : TA} {name : Str} {apos cpos : Pos} {T id : String} {r : V → List V → Hp → VK → Prop}
theorem few1 {pos : Pos} (h : ns e = true) : ((backTo pos (starEach [e] X.env)).all (fun x => !x.1) && (backToKw pos (keywordEach [] X.env)).all (fun x => x.1.isSome)
      && decide ([e].length + ([] : List Keyword).length + (if ([] : List Keyword).isEmpty then 0 else 1) < 30)) = true := by
  rw [star1 h]
  rfl
def tBW (K : PySem.W.Frag) (T : String) (r : V → List V → Hp → VK → Prop) (to : TE) (t : TA) : TE := fun σ H Q => to σ H fun x H1 => tyW K T x H1 ∧ t σ H1 fun xs H2 => r x xs H2 Q
theorem pe_bw (pa : PlainAttrs T) (slot : Slot T name id) (hty : typeOf (.builtin id) = pure (.type "method_descriptor")) (hm : MtR X id r) (ho : PE X o to) (ha : PA X [e] t)
    (hbase : attributeBase o name X.env (eval o X.env) = eval o X.env) (hline : (apos.endLine == cpos.line) = true) (hn : ns e = true) :
    PE X (.Call (.Attribute o name apos) [e] [] cpos) (tBW X.K T r to t) := by
  refine ⟨fun pins s σ H Q I h => wpAny_Call_method_late hbase (few1 hn) hline rfl (thn (ho.run pins s σ H _ I h) fun v s1 ⟨x, H1, I1, r1, ty, q1⟩ => ?_)⟩
  obtain ⟨h1, h2⟩ := tyW_is I1 r1 ty
  refine ⟨T, id, pa, slot, hty, h1, h2, ?_⟩
  have hA := ha.run cpos pins s1 σ H1 _ I1 q1
  rw [star1 hn] at hA ⊢
  exact Calls.callWith_builtin rfl (Calls.evalArgs_plain (thn hA fun us s2 ⟨vs, H2, I2, r2, q2⟩ => hm pins s2 σ H2 x vs v us Q I2 r1 r2 q2))
end
abbrev Mth := Val → List Val → Sto → Option (Res × Sto)
def dMeth (chk : Val → Sto → Bool) (m : Mth) (fo : Den) (fa : DenA) : Den := fun ρ M => (val fo ρ M).bind fun p => if chk p.1 p.2 then (fa ρ p.2).bind fun q => m p.1 q.1 q.2 else none
structure MR (K : PySem.W.Frag) (ca : Str → Addr) (TI : Hp → Prop) (T : String) (r : V → List V → Hp → VK → Prop) (chk : Val → Sto → Bool) (m : Mth) : Prop where
  ty : ∀ (G H : Hp) (L : List Addr) (M : Sto) (v : V) (x : Val), ST K ca TI G H L M → VR K G L v x → chk x M = true → tyW K T v H
  go : ∀ (G H : Hp) (L : List Addr) (M : Sto) (v : V) (x : Val) (vs : List V) (xs : List Val) (z : Res) (M' : Sto) (Q : VK), ST K ca TI G H L M → VR K G L v x → VRs K G L vs xs → m x xs M = some (z, M') →
    (∀ G' H' L' w, Step G H L G' H' L' → ST K ca TI G' H' L' M' → RR K H G' H' L' w z → Q w H') → r v vs H Q
section
variable {X : Cx} {ca : Str → Addr} {TI : Hp → Prop} {o e : Expr} {name : Str} {apos cpos : Pos} {T id : String} {r : V → List V → Hp → VK → Prop} {chk : Val → Sto → Bool} {m : Mth} {fo : Den} {fa : DenA}
theorem pe_dmeth (R : MR X.K ca TI T r chk m) (pa : PlainAttrs T) (slot : Slot T name id) (hty : typeOf (.builtin id) = pure (.type "method_descriptor")) (hm : MtR X id r) (ho : PE X o (tE X.K ca TI fo)) (ha : PA X [e] (tArgs X.K ca TI fa))
    (hbase : attributeBase o name X.env (eval o X.env) = eval o X.env) (hline : (apos.endLine == cpos.line) = true) (hn : ns e = true) :
    PE X (.Call (.Attribute o name apos) [e] [] cpos) (tE X.K ca TI (dMeth chk m fo fa)) := pe_imp (pe_bw pa slot hty hm (pe_v ho) ha hbase hline hn) fun σ H Q q => by
  obtain ⟨G, L, ρ, M, z, M', s, er, hf, q⟩ := q
  obtain ⟨⟨x, M1⟩, e1, hf⟩ := bo hf
  split at hf
  · rename_i hk
    obtain ⟨⟨xs, M2⟩, e2, hf⟩ := bo hf
    refine ⟨G, L, ρ, M, x, M1, s, er, e1, fun G1 H1 L1 v st1 s1 v1 => ⟨R.ty _ _ _ _ _ _ s1 v1 hk, ?_⟩⟩
    refine ⟨G1, L1, ρ, M1, xs, M2, s1, er.mono st1.g st1.l, e2, fun G2 H2 L2 vs st2 s2 v2 => ?_⟩
    refine R.go _ _ _ _ _ _ _ _ _ _ _ s2 (v1.mono st2.g st2.l) v2 hf fun G3 H3 L3 w st3 s3 rr => ?_
    have st12 := st1.trans st2
    exact q G3 H3 L3 w (st12.trans st3) s3 (rr.back st12)
  · cases hf
end
def isLoc (x : Val) (M : Sto) : Bool := match x with
  | .loc k => (match M[k]? with
    | some (.lst _) => true
    | _ => false)
  | _ => false
def mAppend : Mth
  | .loc k, [.d y], M => (match M[k]? with
    | some (.lst xs) => if xs.length < big then some (.v (.d .none), M.set k (.lst (xs ++ [y]))) else none
    | _ => none)
  | _, _, _ => none
def mExtend : Mth
  | .loc k, [.d (.list ys)], M => (match M[k]? with
    | some (.lst xs) => if xs.length + ys.length ≤ big then some (.v (.d .none), M.set k (.lst (xs ++ ys))) else none
    | _ => none)
  | _, _, _ => none
def mPop : Mth
  | .loc k, [.d (.int i)], M => (match M[k]? with
    | some (.lst xs) => if decide (0 ≤ i) && decide (i < 1000000) then (match xs[i.toNat]? with
      | some y => some (.v (.d y), M.set k (.lst (xs.eraseIdx i.toNat)))
      | none => none) else none
    | _ => none)
  | _, _, _ => none
/-- the first place of an equal one -/
def placeOf (d : PyData) : List PyData → Option Nat
  | [] => none
  | z :: r => if PyData.eqv z d then some 0 else (placeOf d r).map (· + 1)
theorem placeOf_at {d : PyData} : ∀ {ds : List PyData} {j : Nat}, placeOf d ds = some j → ∃ z, ds[j]? = some z ∧ PyData.eqv z d = true ∧ ∀ (m : Nat) (z' : PyData), m < j → ds[m]? = some z' → PyData.eqv z' d = false
  | [], j, h => by cases h
  | z :: r, j, h => by
    unfold placeOf at h
    split at h
    · rename_i hz
      cases h
      exact ⟨z, rfl, hz, fun m z' hm => absurd hm (Nat.not_lt_zero _)⟩
    · rename_i hz
      simp only [Option.map_eq_some_iff] at h
      obtain ⟨i, h1, rfl⟩ := h
      obtain ⟨y, h2, h3, h4⟩ := placeOf_at h1
      refine ⟨y, by simpa using h2, h3, fun m z' hm e => ?_⟩
      cases m with
      | zero =>
        have e' : z = z' := by simpa using e
        subst e'
        simpa using hz
      | succ m => exact h4 m z' (by omega) (by simpa using e)
def isListV (x : Val) (M : Sto) : Bool := match rd x M with
  | some (.list _) => true
  | _ => false
def mIndexL : Mth := fun x xs M => match rd x M, xs with
  | some (.list ds), [.d y] => if SeqAt.shaped (.list ds) && SeqAt.shaped y then (placeOf y ds).bind fun j => some (.v (.d (.int j)), M) else none
  | _, _ => none
def isTupV (x : Val) (_ : Sto) : Bool := match x with
  | .d (.tuple _) => true
  | _ => false
def mIndexT : Mth
  | .d (.tuple ds), [.d y], M => if SeqAt.shaped (.list ds) && SeqAt.shaped y then (placeOf y ds).bind fun j => some (.v (.d (.int j)), M) else none
  | _, _, _ => none
section
variable {K : PySem.W.Frag} {ca : Str → Addr} {TI : Hp → Prop} {G H : Hp} {L : List Addr} {M : Sto} {v : V} {x : Val}
theorem loc_at (s : ST K ca TI G H L M) (h : VR K G L v x) (e : isLoc x M = true) : ∃ k a vs xs, x = .loc k ∧ v = .ref a ∧ L[k]? = some a ∧ M[k]? = some (.lst xs) ∧ H a = some (.lst vs) ∧ DQAll G vs xs := by
  unfold isLoc at e
  split at e
  · rename_i k
    split at e
    · rename_i xs hm
      obtain ⟨a, h1, rfl⟩ := h
      obtain ⟨vs, h2, h3⟩ := s.at_ k a _ h1 hm
      exact ⟨k, a, vs, xs, rfl, rfl, h1, hm, h2, h3⟩
    · cases e
  · cases e
theorem rr_none {H0 : Hp} : RR K H0 G H L .non (.v (.d .none)) := .non
theorem mr_append (T : TOk TI) : MR K ca TI "list" rAppend isLoc mAppend where
  ty := fun G H L M v x s h e => by
    obtain ⟨k, a, vs, xs, rfl, rfl, h1, h2, h3, h4⟩ := loc_at s h e
    exact .inl (.inl ⟨rfl, vs, SqL.of h3⟩)
  go := fun G H L M v x vs xs z M' Q s h hs e q => by
    unfold mAppend at e
    split at e
    · rename_i k y
      split at e
      · rename_i ys hm
        split at e
        · rename_i hz
          cases e
          obtain ⟨a, h1, rfl⟩ := h
          obtain ⟨ws, h2, h3⟩ := s.at_ k a _ h1 hm
          cases hs with
          | cons hy ht =>
            cases ht
            rename_i vy
            obtain ⟨s', st⟩ := s.write T h1 hm (fun e => nomatch e) h2 rfl (o := .lst (ws ++ [vy])) (c' := .lst (ys ++ [y])) ⟨_, upd_same, dpa_app h3 (dpa_one hy)⟩
            exact ⟨a, ws, vy, rfl, rfl, h2, Nat.lt_of_lt_of_le (by rw [dpa_len h3]; exact hz) (big_le (Nat.le_refl _)), q _ _ _ _ st s' rr_none⟩
        · cases e
      · cases e
    · cases e
theorem mr_extend (T : TOk TI) : MR K ca TI "list" rExtend isLoc mExtend where
  ty := fun G H L M v x s h e => by
    obtain ⟨k, a, vs, xs, rfl, rfl, h1, h2, h3, h4⟩ := loc_at s h e
    exact .inl (.inl ⟨rfl, vs, SqL.of h3⟩)
  go := fun G H L M v x vs xs z M' Q s h hs e q => by
    unfold mExtend at e
    split at e
    · rename_i k ys0
      split at e
      · rename_i ys hm
        split at e
        · rename_i hz
          cases e
          obtain ⟨a, h1, rfl⟩ := h
          obtain ⟨ws, h2, h3⟩ := s.at_ k a _ h1 hm
          cases hs with
          | cons hy ht =>
            cases ht
            have hy' : DQ G _ (.list ys0) := hy
            cases hy' with
            | lst k1 k2 =>
              rename_i b us
              obtain ⟨s', st⟩ := s.write T h1 hm (fun e => nomatch e) h2 rfl (o := .lst (ws ++ us)) (c' := .lst (ys ++ ys0)) ⟨_, upd_same, dpa_app h3 k2⟩
              exact ⟨a, b, ws, us, rfl, rfl, h2, s.ex _ _ k1, big_le (by rw [dpa_len h3, dpa_len k2]; exact hz), q _ _ _ _ st s' rr_none⟩
        · cases e
      · cases e
    · cases e
theorem dpa_erase {vs : List V} {ds : List PyData} (h : DQAll G vs ds) : ∀ n : Nat, DQAll G (vs.eraseIdx n) (ds.eraseIdx n) := by
  intro n
  rw [List.eraseIdx_eq_take_drop_succ, List.eraseIdx_eq_take_drop_succ]
  exact dpa_app (dpa_take n h) (dpa_drop (n + 1) h)
theorem mr_pop (T : TOk TI) : MR K ca TI "list" rPopAt isLoc mPop where
  ty := fun G H L M v x s h e => by
    obtain ⟨k, a, vs, xs, rfl, rfl, h1, h2, h3, h4⟩ := loc_at s h e
    exact .inl (.inl ⟨rfl, vs, SqL.of h3⟩)
  go := fun G H L M v x vs xs z M' Q s h hs e q => by
    unfold mPop at e
    split at e
    · rename_i k i
      split at e
      · rename_i ys hm
        split at e
        · rename_i hz
          rw [Bool.and_eq_true, decide_eq_true_eq, decide_eq_true_eq] at hz
          split at e
          · rename_i y hy
            cases e
            obtain ⟨a, h1, rfl⟩ := h
            obtain ⟨ws, h2, h3⟩ := s.at_ k a _ h1 hm
            cases hs with
            | cons hi ht =>
              cases ht
              cases (show DQ G _ (.int i) from hi)
              obtain ⟨w, k1, k2⟩ := dpa_get h3 hy
              obtain ⟨s', st⟩ := s.write T h1 hm (fun e => nomatch e) h2 rfl (o := .lst (ws.eraseIdx i.toNat)) (c' := .lst (ys.eraseIdx i.toNat)) ⟨_, upd_same, dpa_erase h3 _⟩
              have hlt := (List.getElem?_eq_some_iff.mp k1).1
              exact ⟨a, ws, i, i.toNat, w, rfl, rfl, h2, by omega, by omega, PySem.StrLaws.seqIndex_nonneg hz.1 (by omega), k1, q _ _ _ _ st s' k2⟩
          · cases e
        · cases e
      · cases e
    · cases e
theorem mr_indexL : MR K ca TI "list" (rIndexD K) isListV mIndexL where
  ty := fun G H L M v x s h e => by
    unfold isListV at e
    split at e
    · rename_i ds hd
      obtain ⟨a, vs, rfl, h1, _⟩ := (dr_of s h hd).2
      exact .inl (.inl ⟨rfl, vs, SqL.of h1⟩)
    · cases e
  go := fun G H L M v x vs xs z M' Q s h hs e q => by
    unfold mIndexL at e
    split at e
    · rename_i ds y hd
      split at e
      · rename_i hz
        rw [Bool.and_eq_true] at hz
        obtain ⟨j, e1, e⟩ := bo e
        cases e
        have hr := dr_of s h hd
        obtain ⟨a, ws, rfl, h1, h2⟩ := hr.2
        obtain ⟨z, k1, k2, k3⟩ := placeOf_at e1
        cases hs with
        | cons hy ht =>
          cases ht
          exact ⟨a, _, y, ds, j, z, rfl, rfl, dq_dp _ _ hr.1, dq_dp _ _ (dp_mono s.ex _ _ hy), hz.1, hz.2, k1, k2, k3, q _ _ _ _ Step.refl s (.int _)⟩
      · cases e
    · cases e
end
/-- t.index(x) -/
def rIndexT (K : PySem.W.Frag) : V → List V → Hp → VK → Prop := fun x xs H Q => ∃ (a : Addr) (y : V) (d : PyData) (ds : List PyData) (j : Nat) (z : PyData) (ws : List V), x = V.ref a ∧ xs = [y] ∧ TF H a ws ∧ DQAll H ws ds ∧ Dp K H y d ∧
  SeqAt.shaped (.list ds) = true ∧ SeqAt.shaped d = true ∧ ds[j]? = some z ∧ PyData.eqv z d = true ∧ (∀ (m : Nat) (z' : PyData), m < j → ds[m]? = some z' → PyData.eqv z' d = false) ∧ Q (.int (j : Nat)) H
theorem mt_indexT {X : Cx} (hu : X.A.units + 65 < cLine) : MtR X "tuple.index" (rIndexT X.K) := by
  intro pins s σ H x xs v us Q I rx rxs h
  obtain ⟨a, y, d, ds, j, z, ws, rfl, rfl, hl, ha, hy, sl, sd, hz, hzj, hno, q⟩ := h
  cases rx
  obtain ⟨uy, rfl, ry⟩ := vals1 rxs
  obtain ⟨bs, r1⟩ := Dp.reads I d y uy hy ry
  have hxs : PyData.canLayAll0 ds = true := SeqAt.canLay_of_shaped sl
  have hroom : X.A.units + 1 + min (PyData.depthAll ds) d.depth < cLine := room_in_shaped sd hu
  obtain ⟨its, rv, ⟨⟨cls, dd, data, sls⟩, ho, hc, n, hdt⟩, hlen⟩ := I.tuple (hl.sq (K := X.K))
  simp only at hc hdt
  subst hc hdt
  obtain ⟨as, h4⟩ := Dp.readsAll I ds _ its (dqa_dpa ds _ ha) rv
  have hn : its.length = ds.length := SeqAt.ReadsAll.length ds its as h4
  have hmap : its.map (SeqAt.readOf s.heap) = ds := SeqAt.readsAll_map ds its as hxs h4
  obtain ⟨hjd, _⟩ := List.getElem?_eq_some_iff.mp hz
  have hjl : j < its.length := by omega
  have at_ : ∀ (m : Nat) (hm : m < its.toArray.size) (z' : PyData), ds[m]? = some z' → SeqAt.readOf s.heap its.toArray[m] = z' := by
    intro m hm z' hz'
    have hml : m < its.length := by simpa using hm
    rw [← hmap, List.getElem?_map, List.getElem?_eq_getElem hml] at hz'
    simpa using hz'
  refine call_meets PySem.F.slot_tuple_index ⟨_, ho, rfl⟩ PySem.F.entry_tuple_index (PySem.F.args_tuple_index_2 _ _)
    (_root_.TI.tuple_indexAt a its.toArray n dd sls uy (fun u => PyData.eqv (SeqAt.readOf s.heap u) d) j (by simpa using hjl) ?_ ?_) ⟨ho, SeqAt.items_eqAt (vs := its.toArray) (show ReadsAll s.heap its.toArray.toList ds as from h4) r1 hxs (SeqAt.canLay_of_shaped sd) hroom, ?_⟩
  · show PyData.eqv (SeqAt.readOf s.heap _) d = true
    rw [at_ j (by simpa using hjl) z hz]
    exact hzj
  · intro m hm hmj
    have hmd : m < ds.length := by omega
    have hz' : ds[m]? = some ds[m] := List.getElem?_eq_getElem hmd
    show PyData.eqv (SeqAt.readOf s.heap its.toArray[m]) d = false
    rw [at_ m hm _ hz']
    exact hno m _ hmj hz'
  · exact ⟨.int (j : Nat), H, I.tok _, ⟨_, rfl⟩, q⟩
theorem mr_indexT {K : PySem.W.Frag} {ca : Str → Addr} {TI : Hp → Prop} : MR K ca TI "tuple" (rIndexT K) isTupV mIndexT where
  ty := fun G H L M v x s h e => by
    unfold isTupV at e
    split at e
    · rename_i ds
      have h' : DQ G v (.tuple ds) := h
      cases h' with
      | tup hs ha =>
        obtain ⟨o, h1, h2⟩ := hs
        exact .inr ⟨rfl, _, _, rfl, o, h1, s.ex _ _ h2⟩
    · cases e
  go := fun G H L M v x vs xs z M' Q s h hs e q => by
    unfold mIndexT at e
    split at e
    · rename_i ds y
      split at e
      · rename_i hz
        rw [Bool.and_eq_true] at hz
        obtain ⟨j, e1, e⟩ := bo e
        cases e
        obtain ⟨z, k1, k2, k3⟩ := placeOf_at e1
        have h' : DQ G v (.tuple ds) := h
        cases h' with
        | tup ht ha =>
          obtain ⟨o, h1, h2⟩ := ht
          cases hs with
          | cons hy hr =>
            cases hr
            exact ⟨_, _, y, ds, j, z, _, rfl, rfl, ⟨o, h1, s.ex _ _ h2⟩, dpa_mono s.ex _ _ ha, dq_dp _ _ (dp_mono s.ex _ _ hy), hz.1, hz.2, k1, k2, k3, q _ _ _ _ Step.refl s (.int _)⟩
      · cases e
    · cases e
end PV

set_option maxRecDepth 100000
set_option maxHeartbeats 1000000
/-! calls of built-ins as readings; isinstance; list(dict); dict(pairs); e[::-1] -/
namespace PV
open PySem PySem.Spec PyProof.Rows L2
section
variable {X : Cx} {ca : Str → Addr} {TI : Hp → Prop} {e : Expr} {es : List Expr} {f : Den} {fa : DenA} {l : Bool} {F : List PyData → Option Res} {x : Str} {p pos : Pos} {id T : String}
theorem pe_cb (hc : CallR X (.builtin id) (rC l X.K TI F)) (hg : Gl X x) (hm : X.mg x = none) (hv : bootBuiltins x = some (.builtin id)) (ha : PA X (e :: es) (tArgs X.K ca TI fa)) (hn : x ≠ "__name__") (hdb : (x == ("__debug__" : Str)) = false) (hs : nsAll (e :: es) = true) :
    PE X (.Call (.Name x p) (e :: es) [] pos) (tE X.K ca TI (dCB l F fa)) := by
  have hs' := hs
  unfold nsAll at hs'
  rw [Bool.and_eq_true] at hs'
  exact pe_imp (pe_callB hc hg hm hv ha hn hdb (star1 hs'.1) (star_back hs'.2)) fun _ _ _ h => tCB_of h
theorem pe_ct (hc : CallR X (.type T) (rC l X.K TI F)) (hg : Gl X x) (hm : X.mg x = none) (hv : bootBuiltins x = some (.type T)) (ha : PA X (e :: es) (tArgs X.K ca TI fa)) (hn : x ≠ "__name__") (hdb : (x == ("__debug__" : Str)) = false) (hs : nsAll (e :: es) = true) :
    PE X (.Call (.Name x p) (e :: es) [] pos) (tE X.K ca TI (dCB l F fa)) := by
  have hs' := hs
  unfold nsAll at hs'
  rw [Bool.and_eq_true] at hs'
  exact pe_imp (pe_callTy hc hg hm hv ha hn hdb (star1 hs'.1) (star_back hs'.2)) fun _ _ _ h => tCB_of h

/-! isinstance(e, T) -/
def tyName : PyData → Option String
  | .none => some "NoneType"
  | .bool _ => some "bool"
  | .int _ => some "int"
  | .str _ => some "str"
  | .list _ => some "list"
  | .tuple _ => some "tuple"
  | .dict _ => none
def isT (T : String) (d : PyData) : Option Bool := (tyName d).bind fun t =>
  if T == "int" then some (t == "int" || t == "bool") else if T == "bool" then some (t == "bool") else if T == "tuple" then some (t == "tuple") else none
def dIsi (T : String) (f : Den) : Den := fun ρ M => (val f ρ M).bind fun p => (rd p.1 p.2).bind fun d => (isT T d).bind fun b => some (.v (.d (.bool b)), p.2)
theorem tyName_ok {G H : Hp} {v : V} {d : PyData} {t : String} (h : DQ H v d) (e : tyName d = some t) : TyX X.K H v (.type t) := by
  cases h with
  | non => cases e; exact .base .non
  | bl b => cases e; exact .base (.bl b)
  | int i => cases e; exact .base (.int i)
  | str z => cases e; exact .base (.str z)
  | lst h1 _ => cases e; exact .base (.lst h1)
  | tup h1 _ =>
    cases e
    obtain ⟨o, _, h2⟩ := h1
    exact .fTuple h2
theorem kit_name {K : PySem.W.Frag} {d : PyData} {T t : String} {b : Bool} (e : tyName d = some t) (h : isT T d = some b) : PySem.W.kitOne K (.type t) (.type T) = some b := by
  unfold isT at h
  rw [e] at h
  have h : (if T == "int" then some (t == "int" || t == "bool") else if T == "bool" then some (t == "bool") else if T == "tuple" then some (t == "tuple") else none) = some b := h
  have ht : t = "NoneType" ∨ t = "bool" ∨ t = "int" ∨ t = "str" ∨ t = "list" ∨ t = "tuple" := by
    cases d <;> simp [tyName] at e <;> subst e <;> simp
  split at h
  · rename_i hT
    have hT' : T = "int" := by simpa using hT
    subst hT'
    rcases ht with rfl | rfl | rfl | rfl | rfl | rfl <;> (have hb := Option.some.inj h; subst hb; exact kit_ty (by decide +kernel))
  · split at h
    · rename_i hT
      have hT' : T = "bool" := by simpa using hT
      subst hT'
      rcases ht with rfl | rfl | rfl | rfl | rfl | rfl <;> (have hb := Option.some.inj h; subst hb; exact kit_ty (by decide +kernel))
    · split at h
      · rename_i hT
        have hT' : T = "tuple" := by simpa using hT
        subst hT'
        rcases ht with rfl | rfl | rfl | rfl | rfl | rfl <;> (have hb := Option.some.inj h; subst hb; exact kit_ty (by decide +kernel))
      · cases h
theorem pe_disi {y : Str} {py : Pos} (hx : x = "isinstance") (hg : Gl X x) (hm : X.mg x = none) (hgy : Gl X y) (hmy : X.mg y = none) (hvy : bootBuiltins y = some (.type T)) (hny : y ≠ "__name__") (hdy : (y == ("__debug__" : Str)) = false) (he : PE X e (tE X.K ca TI f)) (hs : ns e = true) :
    PE X (.Call (.Name x p) [e, .Name y py] [] pos) (tE X.K ca TI (dIsi T f)) := by
  subst hx
  have h2 : PA X [.Name y py] (tCons (tC (.ty T)) tNil) := pa_cons (pe_bltn hgy hmy hvy rfl hny hdy) pa_nil rfl
  refine pe_imp (pe_callB (id := "isinstance") call_isi hg hm (by decide +kernel) (pa_cons (pe_v he) h2 (star1 hs)) (by decide) (by decide) (star1 hs) rfl) fun σ H Q q => ?_
  obtain ⟨G, L, ρ, M, r, M', s, er, hf, q⟩ := q
  obtain ⟨⟨x, M1⟩, e1, hf⟩ := bo hf
  obtain ⟨d, e2, hf⟩ := bo hf
  obtain ⟨b, e3, hf⟩ := bo hf
  cases hf
  refine ⟨G, L, ρ, M, x, _, s, er, e1, fun G1 H1 L1 v st1 s1 v1 => ?_⟩
  have hd := (dr_of s1 v1 e2).1
  have e3' := e3
  unfold isT at e3'
  obtain ⟨t, e4, _⟩ := bo e3'
  exact ⟨v, .ty T, .type t, .type T, b, rfl, .ty T, tyName_ok (G := G1) hd e4, kit_name e4 e3, q G1 H1 L1 _ st1 s1 (.bl b)⟩

/-! e[::-1] -/
def dRev (f : Den) : Den := fun ρ M => (val f ρ M).bind fun p => (rd p.1 p.2).bind fun d => match d with
  | .list ds => some (.nl ds.reverse, p.2)
  | .tuple ds => some (.v (.d (.tuple ds.reverse)), p.2)
  | _ => none
theorem pe_drev (T : TOk TI) {k : Nat} {p1 p2 p3 : Pos} (he : PE X e (tE X.K ca TI f)) : PE X (.Subscript e (.Slice none none (some (.UnaryOp .USub (.Constant (.int 1) k p1) p2)) p3) pos) (tE X.K ca TI (dRev f)) :=
  pe_imp (pe_revA (pe_v he)) fun σ H Q q => by
    obtain ⟨G, L, ρ, M, r, M', s, er, hf, q⟩ := q
    obtain ⟨⟨x, M1⟩, e1, hf⟩ := bo hf
    obtain ⟨d, e2, hf⟩ := bo hf
    refine ⟨G, L, ρ, M, x, M1, s, er, e1, fun G1 H1 L1 v st1 s1 v1 => ?_⟩
    have hr := dr_of s1 v1 e2
    split at hf
    · rename_i ds
      cases hf
      obtain ⟨a, vs, rfl, h1, h2⟩ := hr.2
      refine ⟨a, vs, rfl, .inl ⟨SqL.of h1, fun b hb => ?_⟩⟩
      obtain ⟨G3, st3, s3, rr⟩ := out_step (K := X.K) s1 (out_lst T s1.ex s1.ti hb (dpa_rev h2))
      exact q G3 _ L1 _ (st1.trans st3) s3 (rr.back st1)
    · rename_i ds
      cases hf
      obtain ⟨a, vs, rfl, h1, h2⟩ := dr_tup s1.ex hr
      refine ⟨a, vs, rfl, .inr ⟨h1.sq, fun b o hb ho => ?_⟩⟩
      obtain ⟨G3, st3, s3, rr⟩ := out_step (K := X.K) s1 (out_tup T s1.ex s1.ti hb ho (dpa_rev h2))
      exact q G3 _ L1 _ (st1.trans st3) s3 (rr.back st1)
    · cases hf

/-! list(d) of a dict, list(xs) -/
def dListOf (f : Den) : Den := fun ρ M => (val f ρ M).bind fun p => match dctOf p.1 p.2 with
  | some kvs => some (.nl (kvs.map fun kv => PyData.int kv.1), p.2)
  | none => (rd p.1 p.2).bind fun d => (fList [d]).bind fun r => some (r, p.2)
theorem enc_keys (G : Hp) : ∀ kvs : List (Int × Int), DQAll G ((enc kvs).map fun kv => kV kv.1) (kvs.map fun kv => PyData.int kv.1)
  | [] => .nil
  | kv :: r => .cons (.int kv.1) (enc_keys G r)
theorem pe_dlistof (T : TOk TI) (hcalm : X.calm = true) (hx : x = "list") (hg : Gl X x) (hm : X.mg x = none) (he : PE X e (tE X.K ca TI f)) (hs : ns e = true) : PE X (.Call (.Name x p) [e] [] pos) (tE X.K ca TI (dListOf f)) := by
  subst hx
  have hv : bootBuiltins "list" = some (.type "list") := boot_list
  have h1 := pe_callTy (p := p) (pos := pos) (L2.call_listD hcalm) hg hm hv (pa_cons (pe_v he) pa_nil (star1 hs)) (by decide) (by decide) (star1 hs) rfl
  have h2 := pe_callTy (p := p) (pos := pos) (bList (X := X) (TI := TI) (l := false) T) hg hm hv (pa_cons (pe_v he) pa_nil (star1 hs)) (by decide) (by decide) (star1 hs) rfl
  refine pe_imp (pe_or h1 h2) fun σ H Q q => ?_
  obtain ⟨G, L, ρ, M, r, M', s, er, hf, q⟩ := q
  obtain ⟨⟨x, M1⟩, e1, hf⟩ := bo hf
  split at hf
  · rename_i kvs hk
    cases hf
    refine .inl ⟨G, L, ρ, M, x, _, s, er, e1, fun G1 H1 L1 v st1 s1 v1 => ?_⟩
    obtain ⟨a, rfl, hr⟩ := dct_rd s1 v1 hk
    refine ⟨a, enc kvs, rfl, hr, fun b hb => ?_⟩
    obtain ⟨G3, st3, s3, rr⟩ := out_step (K := X.K) s1 (out_lst T s1.ex s1.ti hb (enc_keys G1 kvs))
    exact q G3 _ L1 _ (st1.trans st3) s3 (rr.back st1)
  · obtain ⟨d, e2, hf⟩ := bo hf
    obtain ⟨r', e3, hf⟩ := bo hf
    cases hf
    refine .inr ⟨G, L, ρ, M, x, _, s, er, e1, fun G1 H1 L1 v st1 s1 v1 => ?_⟩
    refine ⟨G1, [d], r, s1.ex, s1.ti, .cons (dr_of s1 v1 e2) .nil, e3, fun w H2 o => ?_⟩
    obtain ⟨G3, st3, s3, rr⟩ := out_step (K := X.K) s1 o
    exact q G3 _ L1 _ (st1.trans st3) s3 (rr.back st1)
end
end PV

set_option maxRecDepth 100000
set_option maxHeartbeats 1000000
/-! loose objects; dicts of numbers: made, of pairs -/
namespace PV
open PySem PySem.Spec PyProof.Rows L2
section
variable {K : PySem.W.Frag} {ca : Str → Addr} {TI : Hp → Prop} {G H G0 H0 : Hp} {L L0 : List Addr} {M : Sto}
/-- an object that nobody knows is laid or changed -/
theorem ST.looseK (T : TOk TI) (s : ST K ca TI G H L M) {p : Addr} {o : HO} (hG : G p = none) (hL : p ∉ L) (hp : ∀ u, H p = some u → ¬ isKt p u) : ST K ca TI G (upd H p o) L M where
  ex := fun a w e => by
    by_cases h : a = p
    · subst h; rw [hG] at e; cases e
    · rw [upd_ne h]; exact s.ex a w e
  fr := s.fr
  nd := s.nd
  len := s.len
  here := fun a ha => by
    rw [upd_ne (fun z => hL (by rw [← z]; exact ha))]
    exact s.here a ha
  at_ := fun i a c h1 h2 => (s.at_ i a c h1 h2).keep (Evl.Ex.refl G) (List.prefix_refl L) (upd_ne fun z => hL (by rw [← z]; exact List.mem_of_getElem? h1))
  ti := T.off hp s.ti
  kt := fun a w e f => by
    by_cases h : a = p
    · subst h; exact ⟨hL, hG⟩
    · rw [upd_ne h] at e; exact s.kt a w e f
theorem ST.loose (T : TOk TI) (s : ST K ca TI G H L M) {p : Addr} {o : HO} (hG : G p = none) (hL : p ∉ L) (hp : ∀ u, H p = some u → isK u = false) : ST K ca TI G (upd H p o) L M :=
  s.looseK T hG hL fun u e k => by
    have h := hp u e
    rw [isKt_of k] at h
    cases h
theorem Step.loose (st : Step G0 H0 L0 G H L) {p : Addr} {o : HO} (h0 : H0 p = none) (hG : G p = none) (hL : p ∉ L) : Step G0 H0 L0 G (upd H p o) L where
  g := st.g
  l := st.l
  h := fun a u e n t => by
    rw [upd_ne (fun z => by subst z; rw [h0] at e; cases e)]
    exact st.h a u e n t
  n := st.n
  gn := st.gn
  s := fun a h => by
    by_cases e : a = p
    · subst e; rw [upd_same]; simp
    · rw [upd_ne e]; exact st.s a h
/-- what is loose stays as it is -/
theorem Step.kept (st : Step G0 H0 L0 G H L) {p : Addr} {u : HO} (h : H0 p = some u) (hL : p ∉ L0) (hG : G0 p = none) (ht : ∀ ps, u ≠ .tbl ps) : H p = some u ∧ p ∉ L ∧ G p = none := by
  refine ⟨st.h p u h hL ht, fun z => (st.n p z).elim hL fun q => (by rw [h] at q; cases q), ?_⟩
  exact Classical.byContradiction fun z => (st.gn p hG z).elim hL fun q => (by rw [h] at q; cases q)
end
/-- an entry in its place, or at the end -/
def putI (kvs : List (Int × Int)) (k v : Int) : List (Int × Int) := if kvs.any (fun p => decide (p.1 = k)) then kvs.map (fun p => if p.1 = k then (p.1, v) else p) else kvs ++ [(k, v)]
def mrgI (kvs more : List (Int × Int)) : List (Int × Int) := more.foldl (fun acc p => putI acc p.1 p.2) kvs
theorem enc_put (kvs : List (Int × Int)) (k v : Int) : enc (putI kvs k v) = putK (enc kvs) (Sum.inl k : Key) (V.int v) := by
  have ha : ((enc kvs).any fun kv => decide (kv.1 = (Sum.inl k : Key))) = kvs.any fun p => decide (p.1 = k) := by
    unfold enc
    rw [List.any_map]
    congr 1
    funext p
    show decide ((Sum.inl p.1 : Key) = Sum.inl k) = decide (p.1 = k)
    by_cases h : p.1 = k
    · simp [h]
    · have : ¬ (Sum.inl p.1 : Key) = Sum.inl k := fun z => h (Sum.inl.inj z)
      simp [h, this]
  unfold putI putK
  rw [ha]
  split
  · unfold enc
    rw [List.map_map, List.map_map]
    refine List.map_congr_left fun p _ => ?_
    show ((Sum.inl (if p.1 = k then (p.1, v) else p).1 : Key), V.int (if p.1 = k then (p.1, v) else p).2) = if (Sum.inl p.1 : Key) = Sum.inl k then ((Sum.inl p.1 : Key), V.int v) else ((Sum.inl p.1 : Key), V.int p.2)
    by_cases h : p.1 = k
    · rw [if_pos h, if_pos (by rw [h])]
    · rw [if_neg h, if_neg (fun z => h (Sum.inl.inj z))]
  · unfold enc
    rw [List.map_append]
    rfl
theorem enc_mrg : ∀ (more kvs : List (Int × Int)), enc (mrgI kvs more) = mergeK (enc kvs) (enc more)
  | [], _ => rfl
  | p :: r, kvs => by
    show enc (mrgI (putI kvs p.1 p.2) r) = mergeK (putK (enc kvs) (Sum.inl p.1) (V.int p.2)) (enc r)
    rw [enc_mrg r, enc_put]
section
variable {X : Cx} {ca : Str → Addr} {TI : Hp → Prop} {e a b : Expr} {f g : Den} {pos p : Pos}
/-- {a: b} -/
def dDict1 (f g : Den) : Den := fun ρ M => (val f ρ M).bind fun p => (val g ρ p.2).bind fun q => (rd p.1 q.2).bind fun k => (asI k).bind fun i => (rd q.1 q.2).bind fun v => (asI v).bind fun j => some (.nd [(i, j)], q.2)
theorem pe_ddict1 (T : TOk TI) (ha : PE X a (tE X.K ca TI f)) (hb : PE X b (tE X.K ca TI g)) : PE X (.Dict [some a] [b] pos) (tE X.K ca TI (dDict1 f g)) :=
  pe_imp (pe_disp (pps_cons (pe_v ha) (pe_v hb) pps_nil) rfl rfl (by simp) (by simp)) fun σ H Q q p hp => by
    obtain ⟨G, L, ρ, M, r, M', s, er, hf, q⟩ := q
    obtain ⟨⟨x, M1⟩, e1, hf⟩ := bo hf
    obtain ⟨⟨y, M2⟩, e2, hf⟩ := bo hf
    obtain ⟨k, e3, hf⟩ := bo hf
    obtain ⟨i, e4, hf⟩ := bo hf
    obtain ⟨w, e5, hf⟩ := bo hf
    obtain ⟨j, e6, hf⟩ := bo hf
    cases hf
    rw [asI_eq e4] at e3
    rw [asI_eq e6] at e5
    have gp : G p = none := Evl.fresh_back s.ex hp
    have lp : p ∉ L := fun z => s.here p z hp
    have s0 : ST X.K ca TI G (upd H p (.dK [])) L M := s.loose T gp lp (fun u e => by rw [hp] at e; cases e)
    refine ⟨G, L, ρ, M, x, M1, s0, er, e1, fun G1 H1 L1 v st1 s1 v1 => ?_⟩
    refine ⟨G1, L1, ρ, M1, y, _, s1, er.mono st1.g st1.l, e2, fun G2 H2 L2 u st2 s2 v2 => ?_⟩
    have st12 := st1.trans st2
    obtain ⟨k1, k2, k3⟩ := st12.kept (p := p) upd_same lp gp (fun ps e => nomatch e)
    have ev := dr_int (dr_of s2 (v1.mono st2.g st2.l) e3)
    have eu := dr_int (dr_of s2 v2 e5)
    subst ev eu
    refine ⟨k1, enc [(i, j)], rfl, by simp [enc], ?_⟩
    have e0 : mergeK [] (enc [(i, j)]) = enc [(i, j)] := rfl
    rw [e0]
    have stN : Step G H L G (upd H p (.dK [])) L := Step.refl.loose hp gp lp
    refine q G2 _ L2 _ ((stN.trans st12).loose hp k3 k2) (s2.loose T k3 k2 fun u e => by rw [k1] at e; cases e; rfl) ⟨p, rfl, upd_same, k3, k2, hp⟩
/-- pairs of numbers -/
def pairsOf : List PyData → Option (List (Int × Int))
  | [] => some []
  | .tuple [.int i, .int j] :: r => (pairsOf r).map ((i, j) :: ·)
  | _ :: _ => none
theorem pairsOf_cons {d : PyData} {r : List PyData} {kvs : List (Int × Int)} (h : pairsOf (d :: r) = some kvs) : ∃ i j m, d = .tuple [.int i, .int j] ∧ pairsOf r = some m ∧ kvs = (i, j) :: m := by
  unfold pairsOf at h
  split at h
  · rename_i e; cases e
  · rename_i i j r' e
    cases e
    simp only [Option.map_eq_some_iff] at h
    obtain ⟨m, h1, rfl⟩ := h
    exact ⟨i, j, m, rfl, h1, rfl⟩
  · cases h
def fDictOf : List PyData → Option Res
  | [.tuple ds] => (pairsOf ds).bind fun kvs => if kvs.length ≤ big then some (.nd (mrgI [] kvs)) else none
  | _ => none
theorem out_dct {G H : Hp} (T : TOk TI) (e : Sub G H) (t : TI H) {p : Addr} {kvs : List (Int × Int)} (hp : H p = none) : Out TI G H (upd H p (.dK (enc kvs))) (.ref p) (.nd kvs) :=
  ⟨G, Evl.Ex.refl G, e.trans (Evl.Ex.new hp), Evl.Ex.new hp, fun q a b => absurd a b, T.sub (Evl.Ex.new hp) t, fun q o a b => (by rw [a] at b; cases b), p, rfl, hp, upd_same, Evl.fresh_back e hp⟩
theorem pairs_at {pins : List (Addr × Obj)} {σ : L2.St} {H : Hp} {s : Shared} (I : Inv X pins σ H s) : ∀ {ds : List PyData} {kvs : List (Int × Int)} {vs : List V} {its : List Value}, pairsOf ds = some kvs → DQAll H vs ds → Vals vs its →
    ∃ ps : List (Value × Value), ps.length = its.length ∧ kvs.length = its.length ∧ (∀ (j : Nat) (k v : Value), ps[j]? = some (k, v) → ∃ (T : Addr) (i c : Int) (t t' : Tok), its[j]? = some (.ref T) ∧ s.heap.IsTuple T #[k, v] ∧ kvs[j]? = some (i, c) ∧ k = .int i t ∧ v = .int c t')
  | [], kvs, vs, its, h, hd, hv => by
    cases hd
    cases hv
    cases h
    exact ⟨[], rfl, rfl, fun j k v e => by simp at e⟩
  | d :: r, kvs, vs, its, h, hd, hv => by
    obtain ⟨i, c, m, rfl, h1, rfl⟩ := pairsOf_cons h
    cases hd with
    | cons hd1 hd2 =>
      cases hv with
      | cons hv1 hv2 =>
        obtain ⟨ps, e0, e1, e2⟩ := pairs_at I h1 hd2 hv2
        cases hd1 with
        | tup ht ha =>
          rename_i T us
          cases hv1
          have ev : us = [V.int i, V.int c] := by
            cases ha with
            | cons a1 a2 =>
              cases a2 with
              | cons a3 a4 =>
                cases a1
                cases a3
                cases a4
                rfl
          subst ev
          obtain ⟨ws, rw', pt, _⟩ := I.tuple (ht.sq (K := X.K))
          obtain ⟨u1, u2, rfl, ⟨t, rfl⟩, ⟨t', rfl⟩⟩ := vals2 rw'
          refine ⟨(.int i t, .int c t') :: ps, by simp [e0], by simp [e1], fun j k v e => ?_⟩
          cases j with
          | zero =>
            have e' := Option.some.inj (show some (Value.int i t, Value.int c t') = some (k, v) from e)
            cases e'
            exact ⟨T, i, c, t, t', rfl, pt, rfl, rfl, rfl⟩
          | succ j =>
            obtain ⟨T', i', c', t1, t2, q1, q2, q3, q4, q5⟩ := e2 j k v (by simpa using e)
            exact ⟨T', i', c', t1, t2, by simpa using q1, q2, by simpa using q3, q4, q5⟩
def refAt : Option Value → Addr
  | some (Value.ref T) => T
  | _ => 0
theorem bDict (T : TOk TI) (hcalm : X.calm = true) : CallR X (.type "dict") (rC false X.K TI fDictOf) := by
  intro pins s σ H xs us Q I r h
  obtain ⟨G, ds, r0, sb, ti, hd, hf, q⟩ := h
  unfold fDictOf at hf
  split at hf
  · rename_i ds
    obtain ⟨kvs, e1, hf⟩ := bo hf
    split at hf
    · rename_i hz
      cases hf
      obtain ⟨x, rfl, hx⟩ := drs1 hd
      obtain ⟨a, vs, rfl, h1, h2, h3⟩ := dl_tup (X := X) (l := false) sb hx
      have e := Vals.ref1 r
      subst e
      obtain ⟨its, rv, pt, hlen⟩ := I.tuple (h1.sq (K := X.K))
      obtain ⟨ps, k0, k1, k2⟩ := pairs_at I e1 (dpa_mono sb ds vs h2) rv
      obtain ⟨o, ho, eo⟩ := h1
      obtain ⟨g1, _, _, _, ob, g2, g3, n, g4⟩ := (show ObjOk X.prog X.w H s.heap a (.frz o (.tup vs)) from I.hok a _ eo)
      obtain ⟨ob', b1, b2, n', b3⟩ := pt
      rw [g1] at b1
      cases b1
      have hpi : ∀ (j : Nat) (k v : Value), ps[j]? = some (k, v) → its.toArray[j]? = some (Value.ref (refAt its[j]?)) ∧ PySem.PairAt s.heap (refAt its[j]?) k v := fun j k v e => by
        obtain ⟨T', i', c', t1, t2, q1, q2, q3, q4, q5⟩ := k2 j k v e
        rw [List.getElem?_toArray, q1]
        exact ⟨rfl, .inl q2⟩
      let prs : List (Key × Value) := (kvs.zip ps).map fun z => (Sum.inl z.1.1, z.2.2)
      have hprs : prs.length = ps.length := by simp [prs]; omega
      have kv : KV (enc kvs) prs := by
        have go : ∀ (kvs : List (Int × Int)) (ps : List (Value × Value)), kvs.length = ps.length → (∀ (j : Nat) (k v : Value), ps[j]? = some (k, v) → ∃ i c t', kvs[j]? = some (i, c) ∧ v = Value.int c t') → KV (enc kvs) ((kvs.zip ps).map fun z => ((Sum.inl z.1.1 : Key), z.2.2)) := by
          intro kvs
          induction kvs with
          | nil => intro ps _ _; exact .nil
          | cons p r ih =>
            intro ps hl hh
            cases ps with
            | nil => simp at hl
            | cons w ws =>
              obtain ⟨i, c, t', z1, z2⟩ := hh 0 w.1 w.2 rfl
              have z1' : p = (i, c) := by simpa using z1
              subst z1'
              refine .cons ⟨rfl, t', z2⟩ (ih ws (by simpa using hl) fun j k v e => ?_)
              obtain ⟨i, c, t', z1, z2⟩ := hh (j + 1) k v (by simpa using e)
              exact ⟨i, c, t', by simpa using z1, z2⟩
        refine go kvs ps (by omega) fun j k v e => ?_
        obtain ⟨T', i', c', t1, t2, q1, q2, q3, q4, q5⟩ := k2 j k v e
        exact ⟨i', c', t2, q3, q5⟩
      refine PySem.call_dict_pairs (knd := mixKind X.prog X.w) (kvs := prs) (PySem.PairArg.tuple a its.toArray (fun j => refAt its[j]?) ps) (I.ok.hd hcalm) ⟨⟨o, n', g1, b2, ho, b3⟩, by simp [k0], hpi⟩ ⟨hprs, fun j key v hrel => ?_⟩ (big_le (by omega)) fun h' tk hd' hk => ?_
      · have hrel' : ps[j]? = some (key, v) := hrel
        obtain ⟨T', i', c', t1, t2, q1, q2, q3, q4, q5⟩ := k2 j key v hrel'
        refine ⟨Sum.inl i', ?_, ?_⟩
        · simp only [prs, List.getElem?_map]
          have : (kvs.zip ps)[j]? = some ((i', c'), (key, v)) := List.getElem?_zip_eq_some.mpr ⟨q3, hrel'⟩
          rw [this]
          rfl
        · rw [q4]; exact mixKind_int _ _ _ _
      · have hm : (s.heap.objs.size == sysModules) = false := beq_eq_false_iff_ne.mpr (Nat.ne_of_gt I.big)
        have e2 : mergeK [] (enc kvs) = enc (mrgI [] kvs) := (enc_mrg kvs []).symm
        have hlen2 : (enc (mrgI [] kvs)).length ≤ sizeLine := by
          rw [← e2]
          refine Nat.le_trans (length_mergeK (enc kvs) []) (big_le ?_)
          simp [enc]; exact hz
        refine ⟨.ref s.heap.objs.size, upd H s.heap.objs.size (.dK (enc (mrgI [] kvs))), I.laid (t' := tk) (fun b o e => hk b o (fun z => nomatch z) e) (Nat.le_refl _) (show ObjOk X.prog X.w _ _ _ (.dK (enc (mrgI [] kvs))) from ⟨hlen2, hm, merged [] prs, ?_, hd'⟩), rfl, q _ _ (out_dct T sb ti (I.hok.fresh (Nat.le_refl _)))⟩
        rw [← e2]
        exact KV.merge kv .nil
    · cases hf
  · cases hf
end
end PV

set_option maxRecDepth 100000
set_option maxHeartbeats 1000000
/-! enumerate of a tuple, as an iterator -/
namespace PV
open PySem PySem.Spec PyProof.Rows L2
open AutoSeq1 (wpAny_loadPart')
theorem newEnumT (l : Addr) (items : Array Value) (n : Nat) (dct : Option Addr) (sl : Array (Option Value)) :
    Meets (Builtin.«enumerate.__new__» ⟨[.type "enumerate", .ref l], []⟩) (fun _ R s => s.heap.get? l = some { cls := .type "tuple", dict := dct, data := .seq items n, slots := sl } ∧
      R (.ok (.ret (.ref (s.heap.push { cls := .type "tuple_iterator", data := .fields #[.ref l, .int 0 0] }).objs.size)))
        { s with heap := (s.heap.push { cls := .type "tuple_iterator", data := .fields #[.ref l, .int 0 0] }).push { cls := .type "enumerate", data := .fields #[.none, .bool false, .ref s.heap.objs.size, rawInt 0, .none, .none] } }) :=
  .of_wp fun prog w A R s h => by
    obtain ⟨hp, g, d, tk, os⟩ := s; obtain ⟨hl, h⟩ := h
    have hsub := sub_enumerate
    have hT : Heap.IsTuple (Shared.heap ⟨hp, g, d, tk, os⟩) l items := ⟨_, hl, rfl, n, rfl⟩
    wp_walk using wpAny_loadPart' hl
    refine wpAny_stack_any fun st => wpAny_pure ?_
    split
    · rename_i c _ _ _ _ _
      cases (c == Value.type "enumerate")
      · wp_walk using wpAny_loadPart' hl, wpAny_pyIter_tuple hT
        exact ⟨_, rfl, h⟩
      · wp_walk using wpAny_loadPart' hl, wpAny_pyIter_tuple hT
        exact ⟨_, rfl, h⟩
    · wp_walk using wpAny_loadPart' hl, wpAny_pyIter_tuple hT
      exact ⟨_, rfl, h⟩
section
variable {prog : Program} {w : World} {A : Around} {E : Value → Shared → Prop} {s : Shared}
theorem callEnumT {l : Addr} {items : Array Value} {Q : Value → Shared → Prop} (hL : s.heap.IsTuple l items)
    (h : ∀ h', IsEnum h' (s.heap.objs.size + 1) s.heap.objs.size 0 .none → h'.IsTupleIter s.heap.objs.size l 0 → h'.objs.size = s.heap.objs.size + 2 →
      (∀ b o, s.heap.get? b = some o → h'.get? b = some o) → Q (.ref (s.heap.objs.size + 1)) { s with heap := h' }) :
    wpAny (model prog w) A (call (.type "enumerate") [.ref l]) Q E s := by
  obtain ⟨⟨c, dct, dt, sl⟩, hl, hc, n, hd⟩ := hL
  replace hc : c = .type "tuple" := hc
  replace hd : dt = .seq items n := hd
  subst hc hd
  refine callType_new F.called_enumerate (by decide) (F.typeCall_enumerate_1 _) (F.newCall_enumerate_1 _) (fun obj => F.args_object_init_2 obj _) F.entry_enumerate_new
    (newEnumT l items n dct sl) ⟨hl, ?_⟩
  have hz : (s.heap.push { cls := .type "tuple_iterator", data := .fields #[.ref l, .int 0 0] }).objs.size = s.heap.objs.size + 1 := Heap.size_push ..
  show _ ∧ _
  rw [hz]
  have he : IsEnum ((s.heap.push { cls := .type "tuple_iterator", data := .fields #[.ref l, .int 0 0] }).push
      { cls := .type "enumerate", data := .fields #[.none, .bool false, .ref s.heap.objs.size, rawInt 0, .none, .none] }) (s.heap.objs.size + 1) s.heap.objs.size 0 .none := by
    have := Heap.get?_push_size (s.heap.push { cls := .type "tuple_iterator", data := .fields #[.ref l, .int 0 0] })
      (o := { cls := .type "enumerate", data := .fields #[.none, .bool false, .ref s.heap.objs.size, rawInt 0, .none, .none] }) rfl
    rw [hz] at this; exact this
  exact ⟨⟨_, he, rfl⟩, h _ he ⟨_, Heap.get?_push_of_some _ (Heap.get?_push_size _ rfl), rfl, rfl⟩ (by rw [Heap.size_push, hz]) fun b o x => Heap.get?_push_of_some _ (Heap.get?_push_of_some _ x)⟩
end
/-- the tuple at a, each item in a new pair -/
def ItE (K : PySem.W.Frag) (a : Addr) : It :=
  ⟨fun i H => ∃ (xs : List V) (x : V), SqT K H a xs ∧ xs[i]? = some x, fun i H v H' => ∃ T x, v = .ref T ∧ H T = none ∧ H' = upd H T (.tup [.int (i : Nat), x]) ∧ ∀ xs, SqT K H a xs → xs[i]? = some x, fun i H => ∃ xs : List V, SqT K H a xs ∧ xs.length = i⟩
theorem turn_enumT {P : Program} {w : World} {K : PySem.W.Frag} {elts : List Expr} {kk : Nat} {tpos : Pos} (a e it : Addr) (hne : e ≠ it) (hai : a ≠ it) (hae : e ≠ a) :
    Turn P w K (.Tuple elts kk tpos) (ItE K a) [e, it] e (fun i h => (∃ old, IsEnum h e it ((i : Nat) : Int) old) ∧ h.IsTupleIter it a i) where
  mem := by simp
  obj := fun i h st b hb => by
    obtain ⟨⟨old, he⟩, ⟨o, ho, hc, hd⟩⟩ := st
    have e' : b = e ∨ b = it := by simpa using hb
    rcases e' with z | z
    · rw [z]; exact ⟨_, he, fun v q => nomatch q⟩
    · rw [z]; exact ⟨o, ho, fun v q => by rw [hd] at q; cases q⟩
  keep := fun i h h' st k => let ⟨⟨old, he⟩, hi⟩ := st; ⟨⟨old, k e (by simp) _ he⟩, hi.at fun o q => k it (by simp) o q⟩
  item := by
    intro X hP hw hK hc i pins s σ H E I hf st hg
    subst hP hw hK
    obtain ⟨⟨old, he⟩, hit⟩ := st
    obtain ⟨xs, x, hq, hx⟩ := hg
    obtain ⟨its, rv, p, hz⟩ := I.tuple hq
    obtain ⟨u, hu, ru⟩ := rv.get hx
    have hel : e < s.heap.objs.size := Heap.lt_size he
    have hil : it < s.heap.objs.size := by obtain ⟨_, q, _⟩ := hit; exact Heap.lt_size q
    have hlt : i < its.toArray.size := by rw [List.size_toArray]; exact (List.getElem?_eq_some_iff.mp hu).1
    refine wpAny_pyNext_enum_itemD (Draws.tuple (A := X.A.in1) (I.ok.hd hc) it a hai its.toArray) he ⟨hit, p⟩ hlt hne (by simp [hne, hae]) fun z h' tk hPz ho st' hT hsz hk => ?_
    obtain rfl : z = u := by
      have : its.toArray[i]? = some z := hPz
      rw [List.getElem?_toArray, hu] at this
      exact (Option.some.inj this).symm
    refine ⟨_, rfl, wpAny_letOwnedTupleGo_enum (s := { s with heap := h', toks := tk + 1 }) ho fun h'' he' sb => ?_⟩
    have hT2 : h''.get? s.heap.objs.size = some { cls := .type "tuple", data := .seq #[.int i tk, z] } := (sb.2 _ (Nat.ne_of_gt hel)).trans hT
    have new : ObjOk X.prog X.w (upd H s.heap.objs.size (.tup [.int (i : Nat), x])) h'' s.heap.objs.size (.tup [.int (i : Nat), x]) :=
      ⟨by show 2 ≤ sizeLine; decide, [.int i tk, z], .cons ⟨_, rfl⟩ (.cons ru .nil), ⟨_, hT2, rfl, _, rfl⟩⟩
    have I1 : Inv X pins σ (upd H s.heap.objs.size (.tup [.int (i : Nat), x])) { s with heap := h'', toks := tk + 1 } :=
      I.turnedNew (ch := [e, it]) (fun b ob hb q => (sb.2 b (fun z => hb (by simp [z]))).trans (hk b ob (fun z => hb (by simp [z])) (fun z => hb (by simp [z])) q)) hf (Nat.le_refl _) new
    refine ⟨.ref s.heap.objs.size, _, I1, rfl, ⟨_, x, rfl, I.hok.fresh (Nat.le_refl _), rfl, fun ys hy => by rw [I.tuple_inj hy hq]; exact hx⟩, ⟨⟨z, ?_⟩, st'.1.at fun o q => (sb.2 it (Ne.symm hne)).trans q⟩, fun b hb => ?_⟩
    · have e1 : ((i + 1 : Nat) : Int) = (i : Int) + 1 := by omega
      rw [e1]; exact he'
    · have hb' : b < s.heap.objs.size := by
        have e' : b = e ∨ b = it := by simpa using hb
        rcases e' with z | z
        · rw [z]; exact hel
        · rw [z]; exact hil
      rw [upd_ne (Nat.ne_of_lt hb')]
      exact (hf b hb).1
  done := by
    intro X hP hw hK hc i pins s σ H E I hf st hg
    subst hP hw hK
    obtain ⟨⟨old, he⟩, hit⟩ := st
    obtain ⟨xs, hq, hx⟩ := hg
    obtain ⟨its, rv, p, hz⟩ := I.tuple hq
    obtain ⟨f0, f1, f2, f3, f4, f5⟩ := hf it (by simp)
    have hl := rv.length
    have hn : i = its.toArray.size := by rw [List.size_toArray, ← hl, hx]
    have D := Draws.tuple (prog := X.prog) (w := X.w) (A := X.A.in1) (I.ok.hd hc) it a hai its.toArray
    rw [hn] at hit he
    exact wpAny_pyNext_enum_endD D he ⟨hit, p⟩ fun h' eb => ⟨rfl, I.turned (t' := s.toks) (fun b o hb q => eb b o hb q) f0 f1 f3 f4 f5⟩
  self := fun A i s Q E st h => let ⟨⟨_, he⟩, _⟩ := st; wpAny_pyIter_enum he h
def iEnumT (K : PySem.W.Frag) (ta : TA) : L2.TI := fun σ H R => ta σ H fun vs H1 => ∃ a xs, vs = [.ref a] ∧ SqT K H1 a xs ∧ R (ItE K a) H1
theorem pi_enumT {X : Cx} {e : Expr} {ta : TA} {p pos tpos : Pos} {elts : List Expr} {kk : Nat} (hg : Gl X "enumerate") (hm : X.mg "enumerate" = none) (ha : PA X [e] ta) (hs : starEach [e] X.env = [(false, eval e X.env)]) :
    PI X (.Tuple elts kk tpos) (.Call (.Name "enumerate" p) [e] [] pos) (iEnumT X.K ta) := by
  refine ⟨fun pins s σ H R I h => Call_ (ld_blt I hg hm boot_enumerate (PyProof.Rows.callWith_type1 (thn (ha.run pos pins s σ H _ I h) fun us s1 ⟨vs, H1, I1, r1, q1⟩ => ?_) hs rfl))⟩
  obtain ⟨a, xs, ex, hq, q⟩ := q1
  subst ex
  obtain rfl := Vals.ref1 r1
  obtain ⟨its, rv, p', hz⟩ := I1.tuple hq
  have hal : a < s1.heap.objs.size := p'.lt
  refine callEnumT (show s1.heap.IsTuple a its.toArray from p') fun h' he hit hsz hk => wpAny_pyIter_enum he ?_
  have I2 : Inv X pins σ H1 { s1 with heap := h' } := I1.kept (t' := s1.toks) hk
  refine ⟨s1.heap.objs.size + 1, [s1.heap.objs.size + 1, s1.heap.objs.size], _, _, H1, rfl, I2, turn_enumT a (s1.heap.objs.size + 1) s1.heap.objs.size (Nat.succ_ne_self _) (Nat.ne_of_lt hal) (Nat.ne_of_gt (Nat.lt_succ_of_lt hal)), ⟨⟨.none, he⟩, hit⟩, fun b hb => ?_, q⟩
  have hle : s1.heap.objs.size ≤ b := by
    have e' : b = s1.heap.objs.size + 1 ∨ b = s1.heap.objs.size := by simpa using hb
    rcases e' with z | z
    · rw [z]; exact Nat.le_succ _
    · rw [z]; exact Nat.le_refl _
  exact I1.fpOk hle (I1.hok.fresh hle)
end PV

set_option maxRecDepth 100000
set_option maxHeartbeats 1000000
/-! what is walked; targets; comprehensions -/
namespace PV
open PySem PySem.Spec PyProof.Rows L2
/-- an item; false where its pair is nobody's -/
abbrev Item := PyData × Bool
abbrev DenI := Env → Sto → Option (List Item × Sto)
inductive Tg where
  | nm (i : Nat)
  | tp (is : List Nat)
def Tg.slots : Tg → List Nat
  | .nm i => [i]
  | .tp is => is
def setAll (ρ : Env) : List Nat → List PyData → Env
  | i :: is, d :: ds => setAll (ρ.set i (some (.d d))) is ds
  | _, _ => ρ
def tgo (g : Tg) (ρ : Env) (x : Item) : Option Env := match g with
  | .nm i => if x.2 then some (ρ.set i (some (.d x.1))) else none
  | .tp is => (match x.1 with
    | .tuple ds => if ds.length = is.length then some (setAll ρ is ds) else none
    | _ => none)
def wipeE (ρ : Env) : List Nat → Env
  | [] => ρ
  | v :: vs => (wipeE ρ vs).set v none
def datum : Val → Option PyData
  | .d x => some x
  | _ => none
def compGo (g : Tg) (tt te : Den) (ρ : Env) : List Item → Sto → List PyData → Option (List PyData × Sto)
  | [], M, acc => some (acc, M)
  | d :: ds, M, acc => (tgo g ρ d).bind fun ρ' => (tt ρ' M).bind fun p => (asB p.1).bind fun b =>
    if b then (val te ρ' p.2).bind fun q => (datum q.1).bind fun y => if acc.length < big then compGo g tt te ρ ds q.2 (acc ++ [y]) else none
    else compGo g tt te ρ ds p.2 acc
def dLc (it : DenI) (g : Tg) (tt te : Den) (vs : List Nat) : Den := fun ρ M => (it ρ M).bind fun p => (compGo g tt te (wipeE ρ vs) p.1 p.2 []).bind fun z => some (.nl z.1, z.2)
def okI (ds : List PyData) : List Item := ds.map fun d => (d, true)
def iterOf (x : Val) (M : Sto) : Option (List Item × Sto) := match x with
  | .d (.list ds) => some (okI ds, M)
  | .d (.tuple ds) => some (okI ds, M)
  | .dic kvs => some (okI (kvs.map fun kv => PyData.int kv.1), M)
  | .loc k => (match M[k]? with
    | some (.lst xs) => some (okI xs, M.set k .dead)
    | _ => none)
  | _ => none
def dIter (f : Den) : DenI := fun ρ M => (val f ρ M).bind fun p => iterOf p.1 p.2
def small (i : Int) : Bool := decide (-1000000 ≤ i) && decide (i ≤ 1000000)
def rgUp (lo : Int) (n : Nat) : List Item := (List.range n).map fun i : Nat => (PyData.int (lo + i), true)
def rgDn (lo : Int) (n : Nat) : List Item := (List.range n).map fun i : Nat => (PyData.int (lo + i * (-1)), true)
def dRange (fa : DenA) : DenI := fun ρ M => (fa ρ M).bind fun p => match p.1 with
  | [.d (.int j)] => if small j then some (rgUp 0 j.toNat, p.2) else none
  | [.d (.int i), .d (.int j)] => if small i && small j then some (rgUp i (j - i).toNat, p.2) else none
  | [.d (.int i), .d (.int j), .d (.int c)] => if small i && small j && decide (c = -1) then some (rgDn i (i - j).toNat, p.2) else none
  | _ => none
def enumI (k : Int) : List PyData → List Item
  | [] => []
  | d :: ds => (.tuple [.int k, d], false) :: enumI (k + 1) ds
def dEnum (fa : DenA) : DenI := fun ρ M => (fa ρ M).bind fun p => match p.1 with
  | [.d (.tuple ds)] => some (enumI 0 ds, p.2)
  | _ => none
theorem enumI_get : ∀ (ds : List PyData) (k : Int) (i : Nat), (enumI k ds)[i]? = (ds[i]?).map fun d => (PyData.tuple [.int (k + i), d], false)
  | [], k, i => by simp [enumI]
  | d :: ds, k, 0 => by simp [enumI]
  | d :: ds, k, i + 1 => by
    simp only [enumI, List.getElem?_cons_succ]
    rw [enumI_get ds (k + 1) i]
    have e : k + 1 + (i : Int) = k + ((i + 1 : Nat) : Int) := by omega
    rw [e]
theorem enumI_len : ∀ (ds : List PyData) (k : Int), (enumI k ds).length = ds.length
  | [], _ => rfl
  | d :: ds, k => by simp [enumI, enumI_len ds]

/-- how an item stands in the heap -/
def IRel (G H : Hp) (v : V) (x : Item) : Prop := (x.2 = true ∧ DQ G v x.1) ∨ (x.2 = false ∧ ∃ T xs ds, v = .ref T ∧ H T = some (.tup xs) ∧ x.1 = .tuple ds ∧ DQAll G xs ds)
/-- an iterator that yields these items while G stands -/
structure JOk (G : Hp) (J : It) (items : List Item) : Prop where
  go : ∀ (i : Nat) (H : Hp), Sub G H → i < items.length → J.go i H
  stop : ∀ (i : Nat) (H : Hp), Sub G H → i = items.length → J.stop i H
  yld : ∀ (i : Nat) (H : Hp) (v : V) (H' : Hp), Sub G H → i < items.length → J.yld i H v H' → ∃ x, items[i]? = some x ∧
    ((H' = H ∧ x.2 = true ∧ DQ G v x.1) ∨ (x.2 = false ∧ ∃ T xs ds, v = .ref T ∧ H T = none ∧ H' = upd H T (.tup xs) ∧ x.1 = .tuple ds ∧ DQAll G xs ds))
section
variable (K : PySem.W.Frag) (ca : Str → Addr) (TI : Hp → Prop)
def tIt (fi : DenI) : L2.TI := fun σ H R => ∃ G L ρ M items M', ST K ca TI G H L M ∧ ER K G L σ ρ ∧ fi ρ M = some (items, M') ∧
  ∀ G' H' L' J, Step G H L G' H' L' → ST K ca TI G' H' L' M' → JOk G' J items → R J H'
def tGd (g : Tg) : TG := fun v σ H Q => ∃ G L ρ x ρ', Sub G H ∧ ER K G L σ ρ ∧ IRel G H v x ∧ tgo g ρ x = some ρ' ∧
  ∀ σ', σ'.length = σ.length → (∀ vs, (∀ i ∈ g.slots, i ∈ vs) → wipe σ' vs = wipe σ vs) → ER K G L σ' ρ' → Q σ' H
end
theorem wipe_off {σ : L2.St} {i : Nat} {x : Option V} : ∀ {vs : List Nat}, i ∉ vs → wipe (σ.set i x) vs = (wipe σ vs).set i x
  | [], _ => rfl
  | v :: vs, h => by
    simp only [List.mem_cons, not_or] at h
    show (wipe (σ.set i x) vs).set v none = ((wipe σ vs).set v none).set i x
    rw [wipe_off h.2, List.set_comm _ _ h.1]
theorem wipe_in {σ : L2.St} {i : Nat} {x : Option V} : ∀ {vs : List Nat}, i ∈ vs → wipe (σ.set i x) vs = wipe σ vs
  | [], h => by simp at h
  | v :: vs, h => by
    show (wipe (σ.set i x) vs).set v none = (wipe σ vs).set v none
    by_cases hi : i ∈ vs
    · rw [wipe_in hi]
    · have e : i = v := by
        rcases List.mem_cons.mp h with e | e
        · exact e
        · exact absurd e hi
      subst e
      rw [wipe_off hi, List.set_set]
section
variable {K : PySem.W.Frag} {ca : Str → Addr} {TI : Hp → Prop} {G H : Hp} {L : List Addr} {σ : L2.St} {ρ : Env}
theorem ER.set (h : ER K G L σ ρ) (i : Nat) {v : V} {x : Val} (hv : VR K G L v x) : ER K G L (σ.set i (some v)) (ρ.set i (some x)) := ⟨by rw [List.length_set, List.length_set]; exact h.1, fun j y e => by
  have hlen := (List.getElem?_eq_some_iff.mp e).1
  rcases set_get e with ⟨rfl, e2⟩ | ⟨hne, e⟩
  · have hl : j < ρ.length := by
      have hz : j < (ρ.set j (some x)).length := hlen
      rwa [List.length_set] at hz
    have e' : y = x := Option.some.inj e2
    subst e'
    exact ⟨v, by rw [List.getElem?_set_self (by rw [h.1]; exact hl)], hv⟩
  · obtain ⟨w, h1, h2⟩ := h.2 j y e
    exact ⟨w, by rw [List.getElem?_set_ne (fun z => hne z.symm)]; exact h1, h2⟩⟩
theorem ER.wipe (h : ER K G L σ ρ) : ∀ vs : List Nat, ER K G L (wipe σ vs) (wipeE ρ vs)
  | [] => h
  | v :: vs => by
    have ih := ER.wipe h vs
    refine ⟨?_, fun j y e => ?_⟩
    · show ((L2.wipe σ vs).set v none).length = ((wipeE ρ vs).set v none).length
      rw [List.length_set, List.length_set]
      exact ih.1
    · rcases set_get (show ((wipeE ρ vs).set v none)[j]? = some (some y) from e) with ⟨_, e⟩ | ⟨hne, e⟩
      · cases e
      · obtain ⟨w, h1, h2⟩ := ih.2 j y e
        exact ⟨w, by show ((L2.wipe σ vs).set v none)[j]? = _; rw [List.getElem?_set_ne (fun z => hne z.symm)]; exact h1, h2⟩
theorem JOk.list {a : Addr} {vs : List V} {ds : List PyData} (hs : G a = some (.lst vs)) (hd : DQAll G vs ds) : JOk G (Itl K a) (okI ds) where
  go := fun i H e hi => by
    have hi' : i < vs.length := by rw [dpa_len hd]; simpa [okI] using hi
    exact ⟨vs, vs[i], SqL.of (e _ _ hs), by simp [hi']⟩
  stop := fun i H e hi => ⟨vs, SqL.of (e _ _ hs), by rw [dpa_len hd, hi]; simp [okI]⟩
  yld := fun i H v H' e hi y => by
    obtain ⟨rfl, y⟩ := y
    obtain ⟨d, h1, h2⟩ := dpa_getv hd (y vs (SqL.of (e _ _ hs)))
    exact ⟨(d, true), by simp [okI, h1], .inl ⟨rfl, rfl, h2⟩⟩
theorem JOk.tup {a : Addr} {vs : List V} {ds : List PyData} (hs : TF G a vs) (hd : DQAll G vs ds) : JOk G (Itt K a) (okI ds) where
  go := fun i H e hi => by
    have hi' : i < vs.length := by rw [dpa_len hd]; simpa [okI] using hi
    obtain ⟨o, h1, h2⟩ := hs
    exact ⟨vs, vs[i], TF.sq ⟨o, h1, e _ _ h2⟩, by simp [hi']⟩
  stop := fun i H e hi => by
    obtain ⟨o, h1, h2⟩ := hs
    exact ⟨vs, TF.sq ⟨o, h1, e _ _ h2⟩, by rw [dpa_len hd, hi]; simp [okI]⟩
  yld := fun i H v H' e hi y => by
    obtain ⟨rfl, y⟩ := y
    obtain ⟨o, k1, k2⟩ := hs
    obtain ⟨d, h1, h2⟩ := dpa_getv hd (y vs (TF.sq ⟨o, k1, e _ _ k2⟩))
    exact ⟨(d, true), by simp [okI, h1], .inl ⟨rfl, rfl, h2⟩⟩
theorem JOk.keys {a : Addr} {o : Obj} {kvs : List (Int × Int)} (hs : G a = some (.frz o (.dK (enc kvs)))) : JOk G (Itk a o (enc kvs)) (okI (kvs.map fun kv => PyData.int kv.1)) where
  go := fun i H e hi => ⟨e _ _ hs, by simpa [okI, enc] using hi⟩
  stop := fun i H e hi => ⟨e _ _ hs, by rw [hi]; simp [okI, enc]⟩
  yld := fun i H v H' e hi y => by
    obtain ⟨rfl, k, w, h1, rfl⟩ := y
    have h2 : (kvs.map fun p => ((Sum.inl p.1 : Key), V.int p.2))[i]? = some (k, w) := h1
    rw [List.getElem?_map, Option.map_eq_some_iff] at h2
    obtain ⟨p, h3, h4⟩ := h2
    cases h4
    exact ⟨(.int p.1, true), by simp [okI, h3], .inl ⟨rfl, rfl, .int _⟩⟩
theorem JOk.up (lo : Int) (n : Nat) : JOk G (Itr lo n) (rgUp lo n) where
  go := fun i H e hi => by simpa [rgUp, Itr] using hi
  stop := fun i H e hi => by
    show n ≤ i
    rw [hi]; simp [rgUp]
  yld := fun i H v H' e hi y => by
    obtain ⟨rfl, rfl⟩ := y
    have hi' : i < n := by simpa [rgUp] using hi
    exact ⟨(.int (lo + i), true), by simp [rgUp, hi'], .inl ⟨rfl, rfl, .int _⟩⟩
theorem JOk.dn (lo : Int) (n : Nat) : JOk G (Itc lo (-1) n) (rgDn lo n) where
  go := fun i H e hi => by simpa [rgDn, Itc] using hi
  stop := fun i H e hi => by
    show n ≤ i
    rw [hi]; simp [rgDn]
  yld := fun i H v H' e hi y => by
    obtain ⟨rfl, rfl⟩ := y
    have hi' : i < n := by simpa [rgDn] using hi
    exact ⟨(.int (lo + i * (-1)), true), by simp [rgDn, hi'], .inl ⟨rfl, rfl, .int _⟩⟩
theorem JOk.enum {a : Addr} {vs : List V} {ds : List PyData} (hs : TF G a vs) (hd : DQAll G vs ds) : JOk G (ItE K a) (enumI 0 ds) where
  go := fun i H e hi => by
    have hi' : i < vs.length := by rw [dpa_len hd]; rw [enumI_len] at hi; exact hi
    obtain ⟨o, h1, h2⟩ := hs
    exact ⟨vs, vs[i], TF.sq ⟨o, h1, e _ _ h2⟩, by simp [hi']⟩
  stop := fun i H e hi => by
    obtain ⟨o, h1, h2⟩ := hs
    exact ⟨vs, TF.sq ⟨o, h1, e _ _ h2⟩, by rw [dpa_len hd, hi, enumI_len]⟩
  yld := fun i H v H' e hi y => by
    obtain ⟨T, x, rfl, hT, rfl, y⟩ := y
    obtain ⟨o, k1, k2⟩ := hs
    obtain ⟨d, h1, h2⟩ := dpa_getv hd (y vs (TF.sq ⟨o, k1, e _ _ k2⟩))
    refine ⟨(.tuple [.int (0 + i), d], false), by rw [enumI_get, h1]; rfl, .inr ⟨rfl, T, _, _, rfl, hT, rfl, rfl, ?_⟩⟩
    have e0 : (0 : Int) + (i : Int) = (i : Int) := by omega
    rw [e0]
    exact .cons (.int _) (.cons h2 .nil)
end
section
variable {X : Cx} {ca : Str → Addr} {TI : Hp → Prop} {e tg : Expr} {f : Den} {fa : DenA}
theorem pi_or {t t' : L2.TI} (h : PI X tg e t) (h' : PI X tg e t') : PI X tg e (fun σ H R => t σ H R ∨ t' σ H R) := ⟨fun pins s σ H R I q => q.elim (h.run pins s σ H R I) (h'.run pins s σ H R I)⟩
theorem pi_diter (T : TOk TI) (he : PE X e (tE X.K ca TI f)) : PI X tg e (tIt X.K ca TI (dIter f)) :=
  pi_imp (pi_or (pi_list (pe_v he)) (pi_or (pi_tup (pe_v he)) (pi_keys (pe_v he)))) fun σ H R q => by
    obtain ⟨G, L, ρ, M, items, M', s, er, hf, q⟩ := q
    obtain ⟨⟨x, M1⟩, e1, hf⟩ := bo hf
    replace hf : iterOf x M1 = some (items, M') := hf
    unfold iterOf at hf
    split at hf
    · rename_i ds
      cases hf
      refine .inl ⟨G, L, ρ, M, _, _, s, er, e1, fun G1 H1 L1 v st1 s1 v1 => ?_⟩
      have hd : DQ G1 v (.list ds) := v1
      cases hd with
      | lst hs ha => exact ⟨_, rfl, ⟨_, SqL.of (s1.ex _ _ hs)⟩, q G1 H1 L1 _ st1 s1 (JOk.list hs ha)⟩
    · rename_i ds
      cases hf
      refine .inr (.inl ⟨G, L, ρ, M, _, _, s, er, e1, fun G1 H1 L1 v st1 s1 v1 => ?_⟩)
      have hd : DQ G1 v (.tuple ds) := v1
      cases hd with
      | tup hs ha =>
        have hs' := hs
        obtain ⟨o, k1, k2⟩ := hs'
        exact ⟨_, rfl, ⟨_, TF.sq ⟨o, k1, s1.ex _ _ k2⟩⟩, q G1 H1 L1 _ st1 s1 (JOk.tup hs ha)⟩
    · rename_i kvs
      cases hf
      refine .inr (.inr ⟨G, L, ρ, M, _, _, s, er, e1, fun G1 H1 L1 v st1 s1 v1 => ?_⟩)
      obtain ⟨a, o, rfl, hs⟩ := v1
      exact ⟨a, o, rfl, .inl ⟨enc kvs, s1.ex _ _ hs, q G1 H1 L1 _ st1 s1 (JOk.keys hs)⟩⟩
    · rename_i k
      split at hf
      · rename_i xs hm
        cases hf
        refine .inl ⟨G, L, ρ, M, _, _, s, er, e1, fun G1 H1 L1 v st1 s1 v1 => ?_⟩
        obtain ⟨a, ha, rfl⟩ := v1
        obtain ⟨vs, h1, h2⟩ := s1.at_ k a _ ha hm
        obtain ⟨G2, st2, s2, h3, h4⟩ := s1.still ha hm h1 h2
        exact ⟨a, rfl, ⟨vs, SqL.of h1⟩, q G2 H1 L1 _ (st1.trans st2) s2 (JOk.list h3 h4)⟩
      · cases hf
    · cases hf
theorem small_le {i : Int} (h : small i = true) : -1000000 ≤ i ∧ i ≤ 1000000 := by
  unfold small at h
  rw [Bool.and_eq_true, decide_eq_true_eq, decide_eq_true_eq] at h
  exact h
theorem vrs1 {K : PySem.W.Frag} {G : Hp} {L : List Addr} {vs : List V} {d : PyData} (h : VRs K G L vs [.d d]) : ∃ v, vs = [v] ∧ DQ G v d := by
  cases h with
  | cons h t => cases t; exact ⟨_, rfl, h⟩
theorem pi_drange1 {a : Expr} {p pos : Pos} (hg : Gl X "range") (hm : X.mg "range" = none) (ha : PA X [a] (tArgs X.K ca TI fa)) (hs : ns a = true) : PI X tg (.Call (.Name "range" p) [a] [] pos) (tIt X.K ca TI fun ρ M => (fa ρ M).bind fun p => match p.1 with
  | [.d (.int j)] => if small j then some (rgUp 0 j.toNat, p.2) else none
  | _ => none) :=
  pi_imp (pi_range1 hg hm ha (star1 hs)) fun σ H R q => by
    obtain ⟨G, L, ρ, M, items, M', s, er, hf, q⟩ := q
    obtain ⟨⟨xs, M1⟩, e1, hf⟩ := bo hf
    refine ⟨G, L, ρ, M, xs, M1, s, er, e1, fun G1 H1 L1 vs st1 s1 v1 => ?_⟩
    split at hf
    · rename_i j hx
      replace hx : xs = [.d (.int j)] := hx
      subst hx
      split at hf
      · rename_i hj
        cases hf
        obtain ⟨v, rfl, hv⟩ := vrs1 v1
        cases hv
        have := small_le hj
        exact ⟨j, rfl, by omega, by omega, q G1 H1 L1 _ st1 s1 (JOk.up 0 _)⟩
      · cases hf
    · cases hf
theorem pi_drange2 {a b : Expr} {p pos : Pos} (hg : Gl X "range") (hm : X.mg "range" = none) (ha : PA X [a, b] (tArgs X.K ca TI fa)) (hs : ns a = true) (hs2 : ns b = true) : PI X tg (.Call (.Name "range" p) [a, b] [] pos) (tIt X.K ca TI fun ρ M => (fa ρ M).bind fun p => match p.1 with
  | [.d (.int i), .d (.int j)] => if small i && small j then some (rgUp i (j - i).toNat, p.2) else none
  | _ => none) :=
  pi_imp (pi_range2 hg hm ha (by rw [star1 hs, star1 hs2]; rfl) (star1 hs2)) fun σ H R q => by
    obtain ⟨G, L, ρ, M, items, M', s, er, hf, q⟩ := q
    obtain ⟨⟨xs, M1⟩, e1, hf⟩ := bo hf
    refine ⟨G, L, ρ, M, xs, M1, s, er, e1, fun G1 H1 L1 vs st1 s1 v1 => ?_⟩
    split at hf
    · rename_i i j hx
      replace hx : xs = [.d (.int i), .d (.int j)] := hx
      subst hx
      split at hf
      · rename_i hj
        cases hf
        rw [Bool.and_eq_true] at hj
        cases v1 with
        | cons h1 t =>
          cases t with
          | cons h2 t =>
            cases t
            cases (show DQ G1 _ (.int i) from h1)
            cases (show DQ G1 _ (.int j) from h2)
            have k1 := small_le hj.1
            have k2 := small_le hj.2
            exact ⟨i, j, rfl, ⟨by omega, by omega, by omega, by omega⟩, q G1 H1 L1 _ st1 s1 (JOk.up i _)⟩
      · cases hf
    · cases hf
theorem pi_drange3 {a b c : Expr} {p pos : Pos} (hg : Gl X "range") (hm : X.mg "range" = none) (ha : PA X [a, b, c] (tArgs X.K ca TI fa)) (hs : ns a = true) (hs2 : nsAll [b, c] = true) : PI X tg (.Call (.Name "range" p) [a, b, c] [] pos) (tIt X.K ca TI fun ρ M => (fa ρ M).bind fun p => match p.1 with
  | [.d (.int i), .d (.int j), .d (.int c)] => if small i && small j && decide (c = -1) then some (rgDn i (i - j).toNat, p.2) else none
  | _ => none) :=
  pi_imp (pi_range3 hg hm ha (star1 hs) (star_back hs2)) fun σ H R q => by
    obtain ⟨G, L, ρ, M, items, M', s, er, hf, q⟩ := q
    obtain ⟨⟨xs, M1⟩, e1, hf⟩ := bo hf
    refine ⟨G, L, ρ, M, xs, M1, s, er, e1, fun G1 H1 L1 vs st1 s1 v1 => ?_⟩
    split at hf
    · rename_i i j c hx
      replace hx : xs = [.d (.int i), .d (.int j), .d (.int c)] := hx
      subst hx
      split at hf
      · rename_i hj
        cases hf
        rw [Bool.and_eq_true, Bool.and_eq_true, decide_eq_true_eq] at hj
        obtain ⟨⟨j1, j2⟩, rfl⟩ := hj
        cases v1 with
        | cons h1 t =>
          cases t with
          | cons h2 t =>
            cases t with
            | cons h3 t =>
              cases t
              cases (show DQ G1 _ (.int i) from h1)
              cases (show DQ G1 _ (.int j) from h2)
              cases (show DQ G1 _ (.int (-1)) from h3)
              have k1 := small_le j1
              have k2 := small_le j2
              exact ⟨i, j, -1, _, rfl, RgC.neg (by omega) (by omega) (by omega) (by omega), q G1 H1 L1 _ st1 s1 (JOk.dn i _)⟩
      · cases hf
    · cases hf
theorem pi_denum {elts : List Expr} {kk : Nat} {p pos tpos : Pos} (hg : Gl X "enumerate") (hm : X.mg "enumerate" = none) (ha : PA X [e] (tArgs X.K ca TI fa)) (hs : ns e = true) : PI X (.Tuple elts kk tpos) (.Call (.Name "enumerate" p) [e] [] pos) (tIt X.K ca TI (dEnum fa)) :=
  pi_imp (pi_enumT hg hm ha (star1 hs)) fun σ H R q => by
    obtain ⟨G, L, ρ, M, items, M', s, er, hf, q⟩ := q
    obtain ⟨⟨xs, M1⟩, e1, hf⟩ := bo hf
    refine ⟨G, L, ρ, M, xs, M1, s, er, e1, fun G1 H1 L1 vs st1 s1 v1 => ?_⟩
    split at hf
    · rename_i ds hx
      replace hx : xs = [.d (.tuple ds)] := hx
      subst hx
      cases hf
      obtain ⟨v, rfl, hv⟩ := vrs1 v1
      cases hv with
      | tup hs ha =>
        have hs' := hs
        obtain ⟨o, k1, k2⟩ := hs'
        exact ⟨_, _, rfl, TF.sq ⟨o, k1, s1.ex _ _ k2⟩, q G1 H1 L1 _ st1 s1 (JOk.enum hs ha)⟩
    · cases hf
end
end PV

set_option maxRecDepth 100000
set_option maxHeartbeats 1000000
/-! list comprehensions -/
namespace PV
open PySem PySem.Spec PyProof.Rows L2
section
variable {X : Cx} {pos : Pos}
theorem pg_imp {tg : Expr} {t t' : TG} (h : PG X tg t) (k : ∀ v σ H Q, t' v σ H Q → t v σ H Q) : PG X tg t' := ⟨fun pins s σ H v u Q I r q => h.run pins s σ H v u Q I r (k v σ H Q q)⟩
theorem pgs_imp {tg : List Expr} {t t' : TGs} (h : PGs X tg t) (k : ∀ v σ H Q, t' v σ H Q → t v σ H Q) : PGs X tg t' := ⟨fun pins s σ H v u Q I r q => h.run pins s σ H v u Q I r (k v σ H Q q)⟩
theorem pts_imp {es : List Expr} {t t' : TT} (h : PTs X es t) (k : ∀ σ H Q, t' σ H Q → t σ H Q) : PTs X es t' := ⟨fun pins s σ H Q I q => h.run pins s σ H Q I (k σ H Q q)⟩
theorem pts0 {ca : Str → Addr} {TI : Hp → Prop} : PTs X [] (tT X.K ca TI (dC (.bool true))) := pts_imp pts_nil fun σ H Q q => by
  obtain ⟨G, L, ρ, M, b, M', s, er, hf, q⟩ := q
  have hf' := Option.some.inj hf
  have e1 := congrArg Prod.fst hf'
  injection e1 with e2
  injection e2 with e3
  injection e3 with e4
  subst e4
  cases hf'
  exact q G H L Step.refl s
/-- the names a target stores, one after another -/
def gNames : List Nat → TGs
  | [] => gNil
  | i :: is => gCons (gName i) (gNames is)
variable {ca : Str → Addr} {TI : Hp → Prop}
theorem gNames_run {K : PySem.W.Frag} {G H : Hp} {L : List Addr} : ∀ {is : List Nat} {xs : List V} {ds : List PyData} {σ : L2.St} {ρ : Env} {Q : L2.St → Hp → Prop}, DQAll G xs ds → ds.length = is.length → ER K G L σ ρ →
    (∀ σ', σ'.length = σ.length → (∀ vs, (∀ i ∈ is, i ∈ vs) → wipe σ' vs = wipe σ vs) → ER K G L σ' (setAll ρ is ds) → Q σ' H) → gNames is xs σ H Q
  | [], xs, ds, σ, ρ, Q, hd, hl, er, q => by
    cases ds with
    | nil =>
      cases hd
      exact ⟨rfl, q σ rfl (fun _ _ => rfl) er⟩
    | cons _ _ => simp at hl
  | i :: is, xs, ds, σ, ρ, Q, hd, hl, er, q => by
    cases ds with
    | nil => simp at hl
    | cons d ds =>
      cases hd with
      | cons h1 h2 =>
        refine ⟨_, _, rfl, gNames_run h2 (by simpa using hl) (er.set i (x := .d d) h1) fun σ' e1 e2 e3 => q σ' (by rw [e1, List.length_set]) (fun vs hv => ?_) e3⟩
        rw [e2 vs fun j hj => hv j (List.mem_cons_of_mem _ hj), wipe_in (hv i List.mem_cons_self)]
theorem pg_nm {i : Nat} {tg : Expr} (h : PG X tg (gName i)) : PG X tg (tGd X.K (.nm i)) := pg_imp h fun v σ H Q q => by
  obtain ⟨G, L, ρ, x, ρ', sb, er, ir, hf, q⟩ := q
  obtain ⟨d, ok⟩ := x
  cases ok with
  | false => cases (show (none : Option Env) = some ρ' from hf)
  | true =>
    have hf' : ρ.set i (some (.d d)) = ρ' := Option.some.inj (show some (ρ.set i (some (Val.d d))) = some ρ' from hf)
    subst hf'
    rcases ir with ⟨_, hd⟩ | ⟨hno, _⟩
    · exact q _ (by rw [List.length_set]) (fun vs hv => wipe_in (hv i (by simp [Tg.slots]))) (er.set i (x := .d d) hd)
    · cases hno
theorem pg_tp {is : List Nat} {tg : Expr} (h : PG X tg (gTup X.K is.length (gNames is))) : PG X tg (tGd X.K (.tp is)) := pg_imp h fun v σ H Q q => by
  obtain ⟨G, L, ρ, x, ρ', sb, er, ir, hf, q⟩ := q
  obtain ⟨d, ok⟩ := x
  cases d with
  | tuple ds =>
    have hf1 : (if ds.length = is.length then some (setAll ρ is ds) else none) = some ρ' := hf
    split at hf1
    · rename_i hl
      have hf' := Option.some.inj hf1
      subst hf'
      have hb : ∃ T xs, v = V.ref T ∧ SqT X.K H T xs ∧ DQAll G xs ds := by
        rcases ir with ⟨_, hd⟩ | ⟨_, T, xs, ds', rfl, h1, h2, h3⟩
        · cases hd with
          | tup hs ha =>
            obtain ⟨o, k1, k2⟩ := hs
            exact ⟨_, _, rfl, TF.sq ⟨o, k1, sb _ _ k2⟩, ha⟩
        · cases h2
          exact ⟨T, xs, rfl, SqT.of h1, h3⟩
      obtain ⟨T, xs, rfl, h1, h2⟩ := hb
      exact ⟨T, xs, rfl, h1, by rw [dpa_len h2, hl], gNames_run h2 hl er q⟩
    · cases hf1
  | none => cases (show (none : Option Env) = some ρ' from hf)
  | bool _ => cases (show (none : Option Env) = some ρ' from hf)
  | int _ => cases (show (none : Option Env) = some ρ' from hf)
  | str _ => cases (show (none : Option Env) = some ρ' from hf)
  | list _ => cases (show (none : Option Env) = some ρ' from hf)
  | dict _ => cases (show (none : Option Env) = some ρ' from hf)

theorem wipe_sub {σ : L2.St} {vs : List Nat} : ∀ us : List Nat, (∀ u ∈ us, u ∈ vs) → wipe (wipe σ us) vs = wipe σ vs
  | [], _ => rfl
  | u :: us, h => by
    show wipe ((wipe σ us).set u none) vs = _
    rw [wipe_in (h u List.mem_cons_self)]
    exact wipe_sub us fun x hx => h x (List.mem_cons_of_mem _ hx)
theorem wipe_wipe (σ : L2.St) (vs : List Nat) : wipe (wipe σ vs) vs = wipe σ vs := wipe_sub vs fun _ h => h
/-! the comprehension -/
theorem datum_eq {x : Val} {d : PyData} (h : datum x = some d) : x = .d d := by
  unfold datum at h
  split at h
  · cases h; rfl
  · cases h
theorem tLc_of {K : PySem.W.Frag} (T : TOk TI) {it : DenI} {g : Tg} {tt te : Den} {vs : List Nat} {σ : L2.St} {H : Hp} {Q : VK} (hvs : ∀ i ∈ g.slots, i ∈ vs) (q : tE K ca TI (dLc it g tt te vs) σ H Q) :
    L2.tLc (tIt K ca TI it) (tGd K g) (tT K ca TI tt) (tV K ca TI (val te)) vs σ H Q := by
  obtain ⟨G, L, ρ, M, r, M', s, er, hf, q⟩ := q
  obtain ⟨⟨items, M1⟩, e1, hf⟩ := bo hf
  obtain ⟨⟨res, Mz⟩, e2, hf⟩ := bo hf
  cases hf
  refine ⟨G, L, ρ, M, items, M1, s, er, e1, fun G1 H1 L1 J st1 s1 j1 D hD => ?_⟩
  have gD : G1 D = none := Evl.fresh_back s1.ex hD
  have lD : D ∉ L1 := fun z => s1.here D z hD
  have erw : ER K G1 L1 (wipe σ vs) (wipeE ρ vs) := (er.mono st1.g st1.l).wipe vs
  refine ⟨fun i m H2 => m = items.length - i ∧ i ≤ items.length ∧ ∃ G2 L2 M2 acc ws, Step G1 H1 L1 G2 H2 L2 ∧ ST K ca TI G2 H2 L2 M2 ∧ G2 D = none ∧ D ∉ L2 ∧ H2 D = some (.lst ws) ∧ DQAll G2 ws acc ∧ compGo g tt te (wipeE ρ vs) (items.drop i) M2 acc = some (res, Mz),
    ⟨items.length, rfl, Nat.zero_le _, G1, L1, M1, [], [], Step.refl.loose hD gD lD, s1.loose T gD lD (fun u e => by rw [hD] at e; cases e), gD, lD, upd_same, .nil, e2⟩, ?_⟩
  rintro i m H2 ⟨rfl, hi, G2, L2, M2, acc, ws, st2, s2, g2, l2, h2, d2, e3⟩
  have sb2 : Sub G1 H2 := st2.g.trans s2.ex
  by_cases hlt : i < items.length
  · refine .inr ⟨j1.go i H2 sb2 hlt, fun H' => ∃ G3 L3 M3 acc' ws', Step G1 H1 L1 G3 H' L3 ∧ ST K ca TI G3 H' L3 M3 ∧ G3 D = none ∧ D ∉ L3 ∧ H' D = some (.lst ws') ∧ DQAll G3 ws' acc' ∧ compGo g tt te (wipeE ρ vs) (items.drop (i + 1)) M3 acc' = some (res, Mz),
      fun H' n => ⟨items.length - (i + 1), by omega, rfl, hlt, n⟩, fun x H' y => ?_⟩
    obtain ⟨it1, hx, hy⟩ := j1.yld i H2 x H' sb2 hlt y
    have hdrop : items.drop i = it1 :: items.drop (i + 1) := by
      rw [List.drop_eq_getElem_cons hlt]
      congr 1
      rw [List.getElem?_eq_getElem hlt] at hx
      exact Option.some.inj hx
    rw [hdrop] at e3
    obtain ⟨ρ', e4, e3⟩ := bo (show (tgo g (wipeE ρ vs) it1).bind _ = _ from e3)
    obtain ⟨⟨rb, M3⟩, e5, e3⟩ := bo e3
    obtain ⟨b, e6, e3⟩ := bo e3
    have e5 := asB_at e5 e6
    have hb : Step G1 H1 L1 G2 H' L2 ∧ ST K ca TI G2 H' L2 M2 ∧ H' D = some (.lst ws) ∧ IRel G2 H' x it1 := by
      rcases hy with ⟨rfl, k1, k2⟩ | ⟨k1, T', xs, ds, rfl, k2, rfl, k3, k4⟩
      · exact ⟨st2, s2, h2, .inl ⟨k1, dp_mono st2.g _ _ k2⟩⟩
      · have gT : G2 T' = none := Evl.fresh_back s2.ex k2
        have lT : T' ∉ L2 := fun z => s2.here T' z k2
        refine ⟨st2.loose (st2.back k2) gT lT, s2.loose T gT lT (fun u e => by rw [k2] at e; cases e), ?_, .inr ⟨k1, T', xs, ds, rfl, upd_same, k3, dpa_mono st2.g _ _ k4⟩⟩
        rw [upd_ne (fun z => by subst z; rw [h2] at k2; cases k2)]
        exact h2
    obtain ⟨st2', s2', h2', ir⟩ := hb
    refine ⟨G2, L2, wipeE ρ vs, it1, ρ', s2'.ex, erw.mono st2'.g st2'.l, ir, e4, fun σ' hl hw er' => ⟨hw vs hvs |>.trans ?_, ?_⟩⟩
    · exact wipe_wipe σ vs
    refine ⟨G2, L2, ρ', M2, b, M3, s2', er', e5, fun G3 H3 L3 st3 s3 => ?_⟩
    obtain ⟨h3, l3, g3⟩ := st3.kept h2' l2 g2 (fun ps e => nomatch e)
    cases b with
    | false =>
      rw [if_neg Bool.false_ne_true]
      exact ⟨G3, L3, M3, acc, ws, st2'.trans st3, s3, g3, l3, h3, dpa_mono st3.g _ _ d2, e3⟩
    | true =>
      rw [if_pos rfl]
      rw [if_pos rfl] at e3
      obtain ⟨⟨y, M4⟩, e7, e3⟩ := bo e3
      obtain ⟨yd, e8, e3⟩ := bo e3
      have ey := datum_eq e8
      simp only at ey
      subst ey
      split at e3
      · rename_i hz
        refine ⟨G3, L3, ρ', M3, _, M4, s3, er'.mono st3.g st3.l, e7, fun G4 H4 L4 v st4 s4 v4 => ?_⟩
        obtain ⟨h4, l4, g4⟩ := st4.kept h3 l3 g3 (fun ps e => nomatch e)
        have d4 := dpa_mono st4.g _ _ (dpa_mono st3.g _ _ d2)
        refine ⟨ws, h4, Nat.lt_of_lt_of_le (by rw [dpa_len d2]; exact hz) (big_le (Nat.le_refl _)), G4, L4, M4, acc ++ [yd], ws ++ [v], ((st2'.trans st3).trans st4).loose hD g4 l4, s4.loose T g4 l4 (fun u e => by rw [h4] at e; cases e; rfl), g4, l4, upd_same, dpa_app d4 (dpa_one v4), e3⟩
      · cases e3
  · have hl : i = items.length := by omega
    subst hl
    rw [List.drop_length] at e3
    cases e3
    exact .inl ⟨j1.stop _ H2 sb2 rfl, q G2 H2 L2 (.ref D) (st1.trans st2) s2 ⟨D, ws, rfl, h2, g2, l2, st1.back hD, d2⟩⟩
end
end PV

set_option maxRecDepth 100000
set_option maxHeartbeats 1000000
/-! set comprehensions of numbers, sorted (the core follows the way of HandS.SetBool's, numbers for truth values) -/
namespace PV
open PySem PySem.Spec PyProof.Rows L2
section
variable {X : Cx}
theorem addI_ok {pins : List (Addr × Obj)} {σ : L2.St} {H : Hp} {s : Shared} {E : Value → Shared → Prop} {D : Addr} {S : Int → Bool} {n : Nat} {y : Int} {tk : Tok} {Q : Value → Shared → Prop} (I : Inv X pins σ H s) (hD : H D = some (SetO X.w D S n)) (room : n + 1 < scanBound)
    (h : ∀ s', Inv X pins σ (upd H D (SetO X.w D (fun j => S j || decide (j = y)) (if S y = true then n else n + 1))) s' → Q .none s') : wpAny (model X.prog X.w) X.A (call (.builtin "set.add") [.ref D, .int y tk]) Q E s :=
  setR_add (setO_get I hD) room fun h' sb new => by
    have ⟨o, _, _, _, ho, _⟩ := new
    exact h _ (I.write (e := D) (t' := s.toks + 1) (by rw [hD]; trivial) (.inl rfl) (fun b u hb hu => (sb.2 b hb).trans hu) ⟨o, ho⟩ (setO_new new))
/-- {elt for target in iter if ..}, elt a number: D the new set -/
def tScI (w : World) (wi : L2.TI) (g : TG) (tt : TT) (te : TE) (vs : List Nat) : TE := fun σ H Q => wi σ H fun J H1 => ∀ D, H1 D = none → ∃ W : Nat → Nat → Hp → Prop, (∃ m, W 0 m (upd H1 D (SetO w D (fun _ => false) 0))) ∧ ∀ i m H, W i m H →
  (J.stop i H ∧ Q (.ref D) H) ∨ (J.go i H ∧ ∃ Nx : Hp → Prop, (∀ H', Nx H' → ∃ m', m' < m ∧ W (i + 1) m' H') ∧ ∀ x H', J.yld i H x H' → g x (wipe σ vs) H' fun σ2 H2x => wipe σ2 vs = wipe σ vs ∧ tt σ2 H2x fun b Hc =>
    if b = true then te σ2 Hc fun y H4 => ∃ (c : Int) (S : Int → Bool) (n : Nat), y = .int c ∧ H4 D = some (SetO w D S n) ∧ n + 1 < scanBound ∧ Nx (upd H4 D (SetO w D (fun j => S j || decide (j = c)) (if S c = true then n else n + 1))) else Nx Hc)
theorem scI_core {pins : List (Addr × Obj)} {s : Shared} {σ : L2.St} {H : Hp} {Q : VK} {elt tg iter : Expr} {ifs : List Expr} {scope : Scope} {own : List (Str × Nat)} {pos pos' : Pos} {wi : L2.TI} {g : TG} {tt : TT} {te : TE} {use : Option (Value → Sem Unit)} {Qf : Value → Shared → Prop}
    (hc : X.calm = true) (hN : X.N.Nodup) (I : Inv X pins σ H s) (hi : PI X tg iter wi) (ok : BlkOk X.N X.env.scope scope own)
    (hg : ∀ (s : Shared) (H : Hp) (C : Addr) (cl : List (Str × Addr)) (fp : List Addr), PG (X.blk s H scope (compEnvC scope cl C X.env) fp) tg g) (ht : ∀ (s : Shared) (H : Hp) (C : Addr) (cl : List (Str × Addr)) (fp : List Addr), PTs (X.blk s H scope (compEnvC scope cl C X.env) fp) ifs tt)
    (he : ∀ (s : Shared) (H : Hp) (C : Addr) (cl : List (Str × Addr)) (fp : List Addr), PE (X.blk s H scope (compEnvC scope cl C X.env) fp) elt te) (hs : ∀ x, foldedSetIterable iter X.env x = pure x)
    (h : tScI X.w wi g tt te (own.map (·.2)) σ H Q)
    (hRR : ∀ D C s' m H', Inv X pins σ H' s' → Q (.ref D) H' → s'.heap.Ns C m → FpOk X pins H' C → compPost (model X.prog X.w) X.A X.xe use Qf (.ref D) C (.ok .next) s') :
    wpAny (model X.prog X.w) X.A (comprehension (.SetComp elt [⟨tg, iter, ifs, 0⟩] scope pos) scope X.env pos' (newSet (.type "set")) false (eval iter X.env) use) Qf X.xe s := by
  have fr0 : ∀ y ∈ scope.names, y.2 = .free → ∃ c, X.env.cells.lookup y.1 = some c := fun y hy e => by
    rcases ok.free y hy e with k | k
    · exact I.ok.has _ (.inl k)
    · exact I.ok.has _ (.inr k)
  refine wpAny_comprehension_free (use := use) rfl hs (closure_ok fr0) ok.kind (fun y hy e => by rw [ok.uniq y hy, e])
    (thn (hi.run pins s σ H _ I h) fun xv t1 hx => thn hx fun iv t2 h2 => ?_)
  obtain ⟨it, fp, tn, J, H2x, e, V2, T, a2, g2, q⟩ := h2
  subst e
  refine PpSet.newSet_ok (newEnv_comp ?_)
  generalize hD : t2.heap.objs.size = D
  have dn : H2x D = none := V2.hok.fresh (Nat.le_of_eq hD)
  obtain ⟨W, ⟨mz, wz⟩, trn⟩ := q D dn
  -- the new list
  generalize es3 : ({ t2 with heap := t2.heap.push { cls := .type "set", dict := none, data := .set #[] 0 (.fresh 0 0 (!X.w.params.followText "set-order")) } } : Shared) = t3
  have V3 : Inv X pins σ (upd H2x D (SetO X.w D (fun _ => false) 0)) t3 := by
    rw [← es3]
    refine V2.laid (t' := t2.toks) (fun b o e => Heap.get?_push_of_some _ e) (Nat.le_of_eq hD) ?_
    rw [← hD]
    exact setO_new (setR_fresh X.w)
  have eh3 : t3.heap = t2.heap.push { cls := .type "set", dict := none, data := .set #[] 0 (.fresh 0 0 (!X.w.params.followText "set-order")) } := by rw [← es3]
  have bel : ∀ b ∈ fp, b < t2.heap.objs.size := fun b hb => by
    obtain ⟨o, e, _⟩ := T.obj _ _ a2 b hb
    exact Heap.lt_size e
  have g3 : ∀ b ∈ fp, FpOk X pins (upd H2x D (SetO X.w D (fun _ => false) 0)) b ∧ b < t3.heap.objs.size := fun b hb => by
    have hlt := bel b hb
    refine ⟨⟨?_, (g2 b hb).2⟩, by rw [eh3, Heap.size_push]; exact Nat.lt_succ_of_lt hlt⟩
    rw [upd_ne (by rw [← hD]; exact Nat.ne_of_lt hlt)]
    exact (g2 b hb).1
  have a3 : tn 0 t3.heap := T.keep _ _ _ a2 fun b _ o e => by rw [eh3]; exact Heap.get?_push_of_some _ e
  have V4 := block_start V3 ok hN g3
  have rg := hg t3 (upd H2x D (SetO X.w D (fun _ => false) 0)) t3.heap.objs.size (cellsFrom (t3.heap.objs.size + 1) scope.names (cloFrom X.env.cells scope.names [])) fp
  have rt := ht t3 (upd H2x D (SetO X.w D (fun _ => false) 0)) t3.heap.objs.size (cellsFrom (t3.heap.objs.size + 1) scope.names (cloFrom X.env.cells scope.names [])) fp
  have re := he t3 (upd H2x D (SetO X.w D (fun _ => false) 0)) t3.heap.objs.size (cellsFrom (t3.heap.objs.size + 1) scope.names (cloFrom X.env.cells scope.names [])) fp
  show codeAny _ _ (.compStart (.SetComp elt [⟨tg, iter, ifs, 0⟩] scope pos) 0 (.ref it) (.ref D) (compEnvC scope (cellsFrom (t3.heap.objs.size + 1) scope.names (cloFrom X.env.cells scope.names [])) t3.heap.objs.size X.env)) (compPost (model X.prog X.w) X.A X.xe use Qf (.ref D) t3.heap.objs.size) { t3 with heap := pushCells (t3.heap.push { cls := .type "dict", data := .dict #[] }) scope.names }
  have off : ∀ b ∈ fp, (upd H2x D (SetO X.w D (fun _ => false) 0)) b = none := fun b hb => (g3 b hb).1.1
  generalize ece : compEnvC scope (cellsFrom (t3.heap.objs.size + 1) scope.names (cloFrom X.env.cells scope.names [])) t3.heap.objs.size X.env = env1 at V4 rg rt re ⊢
  have loc1 : env1.locals = t3.heap.objs.size := by subst ece; rfl
  generalize eH3 : upd H2x D (SetO X.w D (fun _ => false) 0) = Hc at V3 V4 rg rt re wz off g3
  generalize es4 : ({ t3 with heap := pushCells (t3.heap.push { cls := .type "dict", data := .dict #[] }) scope.names } : Shared) = t4 at V4 ⊢
  have a4 : tn 0 t4.heap := T.keep _ _ _ a3 fun b _ o e => by rw [← es4]; exact pushCells_keeps _ _ _ _ (Heap.get?_push_of_some _ e)
  have still : ∀ {σ' : L2.St} {H' : Hp} {s' : Shared}, Inv (X.blk t3 Hc scope env1 fp) [] σ' H' s' → (∀ b ∈ fp, H' b = none) → ∀ b ∈ fp, FpOk (X.blk t3 Hc scope env1 fp) [] H' b := fun {σ' H' s'} I' hnn b hb =>
    ⟨hnn b hb, (I'.ok.exf b hb).1, I'.ok.exfs b hb, .inl hb, fun x c e => (I'.ok.exf b hb).2 x c e, fun p hp => absurd (show p ∈ ([] : List (Addr × Obj)) ++ [] from hp) (by simp)⟩
  have lp : codeAny (model X.prog X.w) X.A (.compLoop (.SetComp elt [⟨tg, iter, ifs, 0⟩] scope pos) 0 (.ref it) (.ref D) env1) (compPost (model X.prog X.w) X.A X.xe use Qf (.ref D) t3.heap.objs.size) t4 := by
    refine PpSet.compLoopS_any (fun n s' => ∃ i H', Inv (X.blk t3 Hc scope env1 fp) [] (wipe σ (own.map (·.2))) H' s' ∧ tn i s'.heap ∧ (∀ b ∈ fp, H' b = none) ∧ W i n H') ?_ mz ⟨0, Hc, V4, a4, off, wz⟩
    rintro n t5 ⟨i, H5x, V5, a5, o5, k5⟩
    rcases trn i n H5x k5 with ⟨stop, qz⟩ | ⟨go, Nx, hNx, step⟩
    · have fin0 := T.done (X.blk t3 Hc scope env1 fp) rfl rfl rfl hc i [] t5 _ H5x (fun _ _ => False) V5 (still V5 o5) a5 stop
      refine thnF fin0 fun r t6 ⟨er0, V6⟩ => ?_
      subst er0
      -- back in the def's context
      have V7 : Inv X pins σ H5x t6 := V3.call' (ch := fp) V6.os V6.base V6.hok V6.bare fun b hb => ⟨(g3 b hb).1.2.2.2.1, (g3 b hb).1.2.1, (g3 b hb).1.2.2.2.2.1, (g3 b hb).1.2.2.2.2.2⟩
      have cn : H5x t3.heap.objs.size = none := by
        have z : H5x env1.locals = none := V6.free
        rw [loc1] at z
        exact z
      obtain ⟨m, hnn, _⟩ := V6.loc
      have hnn : t6.heap.Ns env1.locals m := hnn
      rw [loc1] at hnn
      exact hRR D t3.heap.objs.size t6 m H5x V7 qz hnn (V3.fpOk (Nat.le_refl _) cn)
    · have tn1 := T.item (X.blk t3 Hc scope env1 fp) rfl rfl rfl hc i [] t5 _ H5x (fun _ _ => False) V5 (still V5 o5) a5 go
      refine thnF tn1 fun r t6 ⟨u, er0, h6⟩ => ?_
      subst er0
      refine thnF h6 fun _ t7 ⟨x, H7x, V7, rel7, yl7, a7, o7⟩ => ?_
      have V7p := V7.pinned (still V7 o7) (T.obj _ _ a7)
      refine thnF (rg.run _ t7 _ H7x x u _ V7p rel7 (step x H7x yl7)) fun _ t8 ⟨σe, H8x, V8, wp8, k8⟩ => ?_
      refine thnF (rt.run _ t8 σe H8x _ V8 k8) fun b t9 ⟨H9x, V9, k9⟩ => ?_
      -- the turn's end
      have fine : ∀ {s' : Shared} {H' : Hp}, Inv (X.blk t3 Hc scope env1 fp) ([] ++ pinsAt fp t7.heap) σe H' s' → Nx H' → ∃ m, m < n ∧ ∃ i H', Inv (X.blk t3 Hc scope env1 fp) [] (wipe σ (own.map (·.2))) H' s' ∧ tn i s'.heap ∧ (∀ b ∈ fp, H' b = none) ∧ W i m H' := fun {s' H'} I' nxx => by
        obtain ⟨m', hm, w'⟩ := hNx H' nxx
        have pinn : ∀ b ∈ fp, ∀ o, t7.heap.get? b = some o → s'.heap.get? b = some o ∧ H' b = none := fun b hb o e =>
          let z := I'.pin (b, o) (List.mem_append_right _ (List.mem_append_right _ (mem_pinsAt hb e)))
          ⟨z.1, z.2.1⟩
        have hle : (wipe σ (own.map (·.2))).length = σe.length := by rw [← wp8, wipe_length]
        refine ⟨m', hm, i + 1, H', (I'.unpinned (pins := [])).weak hle (fun j v e => ?_), T.keep _ _ _ a7 fun b hb o e => (pinn b hb o e).1, fun b hb => ?_, w'⟩
        · rw [← wp8] at e
          exact (wipe_some e).1
        · obtain ⟨o, e, _⟩ := T.obj _ _ a7 b hb
          exact (pinn b hb o e).2
      cases b with
      | false =>
        simp only [Bool.false_eq_true, if_false] at k9 ⊢
        exact fine V9 k9
      | true =>
        simp only [if_true] at k9 ⊢
        refine thnF (re.run _ t9 σe H9x _ V9 k9) fun z t10 ⟨yy, H10x, V10, rel10, cc, Sa, na, eyy, d10, z10, nxx⟩ => ?_
        subst eyy
        obtain ⟨tz, rfl⟩ := rel10
        exact addI_ok (X := X.blk t3 Hc scope env1 fp) V10 d10 z10 fun t11 V11 => fine V11 nxx
  exact PpSet.codeAny_compStart_set lp (T.self X.A 0 _ _ _ a4 lp)
/-- as a value -/
theorem pe_scI {elt tg iter : Expr} {ifs : List Expr} {scope : Scope} {own : List (Str × Nat)} {pos : Pos} {wi : L2.TI} {g : TG} {tt : TT} {te : TE} (hc : X.calm = true) (hN : X.N.Nodup) (hi : PI X tg iter wi) (ok : BlkOk X.N X.env.scope scope own)
    (hg : ∀ (s : Shared) (H : Hp) (C : Addr) (cl : List (Str × Addr)) (fp : List Addr), PG (X.blk s H scope (compEnvC scope cl C X.env) fp) tg g) (ht : ∀ (s : Shared) (H : Hp) (C : Addr) (cl : List (Str × Addr)) (fp : List Addr), PTs (X.blk s H scope (compEnvC scope cl C X.env) fp) ifs tt)
    (he : ∀ (s : Shared) (H : Hp) (C : Addr) (cl : List (Str × Addr)) (fp : List Addr), PE (X.blk s H scope (compEnvC scope cl C X.env) fp) elt te) (hs : ∀ x, foldedSetIterable iter X.env x = pure x := by intro _; rfl) :
    PE X (.SetComp elt [⟨tg, iter, ifs, 0⟩] scope pos) (tScI X.w wi g tt te (own.map (·.2))) := by
  refine ⟨fun pins s σ H Q I h => ?_⟩
  rw [PpSet.eval_SetComp]
  refine scI_core hc hN I hi ok hg ht he hs h fun D C s' m H' I' q hnn f => ⟨m, hnn, fun h'' sb => ?_⟩
  obtain ⟨f0, f1, g2, g3, f4, f5⟩ := f
  exact ⟨.ref D, H', I'.turned (t' := s'.toks) (fun b o hb e => (sb.2 b hb).trans e) f0 f1 g3 f4 f5, rfl, q⟩
end
end PV

set_option maxRecDepth 100000
set_option maxHeartbeats 1000000
/-! sorted({..}); a dict kept as it is -/
namespace PV
open PySem PySem.Spec PyProof.Rows L2
theorem setO_not {w : World} {D : Addr} {S : Int → Bool} {n : Nat} : ¬ isKt D (SetO w D S n) := by
  rintro (⟨ps, e⟩ | ⟨q, e⟩ | ⟨ob, φ, e⟩)
  · unfold SetO at e
    cases e
  rotate_left
  · unfold SetO at e
    cases e
  · unfold SetO LamX.CodeO at e
    have e' := HO.ext.inj e
    let ob : Obj := { cls := .none, data := .fields #[.none, .str q 0] }
    let h : Heap := { objs := Array.replicate (D + 1) ob }
    have hg : h.get? D = some ob := by
      unfold Heap.get?
      simp [h, ob]
    have hc : ∃ (oc : Obj) (vs : Array Value) (t : Tok), h.get? D = some oc ∧ oc.data = .fields vs ∧ vs[1]? = some (.str q t) := ⟨ob, _, 0, hg, rfl, rfl⟩
    rw [← congrFun e' h] at hc
    obtain ⟨o, es, ep, t, h1, _, h3, _⟩ := hc
    rw [hg] at h1
    cases h1
    cases h3
def nubI (l : List Int) : List Int := l.foldl (fun u k => if k ∈ u then u else u ++ [k]) []
theorem nubI_app (l : List Int) (k : Int) : nubI (l ++ [k]) = if k ∈ nubI l then nubI l else nubI l ++ [k] := by
  unfold nubI
  rw [List.foldl_append]
  rfl
def dSortSet (it : DenI) (g : Tg) (tt te : Den) (vs : List Nat) : Den := fun ρ M => (it ρ M).bind fun p => if p.1.length ≤ 60 then (compGo g tt te (wipeE ρ vs) p.1 p.2 []).bind fun z => (intsOf z.1).bind fun ns => some (.nl ((isort (nubI ns)).map PyData.int), z.2) else none
theorem compGo_pre {g : Tg} {tt te : Den} {ρ : Env} : ∀ {items : List Item} {M : Sto} {acc res : List PyData} {Mz : Sto}, compGo g tt te ρ items M acc = some (res, Mz) → ∃ more, res = acc ++ more
  | [], M, acc, res, Mz, h => by
    cases h
    exact ⟨[], by simp⟩
  | d :: ds, M, acc, res, Mz, h => by
    obtain ⟨ρ', e1, h⟩ := bo (show (tgo g ρ d).bind _ = _ from h)
    obtain ⟨p, e2, h⟩ := bo h
    obtain ⟨b, e3, h⟩ := bo h
    cases b with
    | false => exact compGo_pre (show compGo g tt te ρ ds p.2 acc = _ from h)
    | true =>
      rw [if_pos rfl] at h
      obtain ⟨q, e4, h⟩ := bo h
      obtain ⟨y, e5, h⟩ := bo h
      split at h
      · obtain ⟨more, e⟩ := compGo_pre h
        exact ⟨y :: more, by rw [e]; simp⟩
      · cases h
theorem intsOf_pre : ∀ {l more : List PyData} {ns : List Int}, intsOf (l ++ more) = some ns → ∃ ms, intsOf l = some ms
  | [], more, ns, h => ⟨[], rfl⟩
  | .int i :: r, more, ns, h => by
    simp only [List.cons_append, intsOf, Option.map_eq_some_iff] at h
    obtain ⟨m, h1, rfl⟩ := h
    obtain ⟨ms, e⟩ := intsOf_pre h1
    exact ⟨i :: ms, by simp [intsOf, e]⟩
  | .none :: _, _, _, h => by simp [intsOf] at h
  | .bool _ :: _, _, _, h => by simp [intsOf] at h
  | .str _ :: _, _, _, h => by simp [intsOf] at h
  | .list _ :: _, _, _, h => by simp [intsOf] at h
  | .tuple _ :: _, _, _, h => by simp [intsOf] at h
  | .dict _ :: _, _, _, h => by simp [intsOf] at h
theorem intsOf_app1 : ∀ {l : List PyData} {y : PyData} {ms : List Int}, intsOf (l ++ [y]) = some ms → ∃ ns k, intsOf l = some ns ∧ y = .int k ∧ ms = ns ++ [k]
  | [], y, ms, h => by
    cases y <;> simp [intsOf] at h
    exact ⟨[], _, rfl, rfl, h.symm⟩
  | .int i :: r, y, ms, h => by
    simp only [List.cons_append, intsOf, Option.map_eq_some_iff] at h
    obtain ⟨m, h1, rfl⟩ := h
    obtain ⟨ns, k, e1, e2, e3⟩ := intsOf_app1 h1
    exact ⟨i :: ns, k, by simp [intsOf, e1], e2, by rw [e3]; rfl⟩
  | .none :: _, _, _, h => by simp [intsOf] at h
  | .bool _ :: _, _, _, h => by simp [intsOf] at h
  | .str _ :: _, _, _, h => by simp [intsOf] at h
  | .list _ :: _, _, _, h => by simp [intsOf] at h
  | .tuple _ :: _, _, _, h => by simp [intsOf] at h
  | .dict _ :: _, _, _, h => by simp [intsOf] at h
theorem scan_big : 200 < scanBound := by decide
section
variable {X : Cx} {ca : Str → Addr} {TI : Hp → Prop}
theorem tSc_of {w : World} {K : PySem.W.Frag} (T : TOk TI) {it : DenI} {g : Tg} {tt te : Den} {vs : List Nat} {σ : L2.St} {H : Hp} {Q : VK} (hvs : ∀ i ∈ g.slots, i ∈ vs) (q : tE K ca TI (dSortSet it g tt te vs) σ H Q) :
    L2.tCB (rSortedSet w) (tCons (tScI w (tIt K ca TI it) (tGd K g) (tT K ca TI tt) (tV K ca TI (val te)) vs) tNil) σ H Q := by
  obtain ⟨G, L, ρ, M, r, M', s, er, hf, q⟩ := q
  obtain ⟨⟨items, M1⟩, e1, hf⟩ := bo hf
  split at hf
  · rename_i h60
    replace h60 : items.length ≤ 60 := h60
    obtain ⟨⟨res, Mz⟩, e2, hf⟩ := bo hf
    obtain ⟨nsz, ez, hf⟩ := bo hf
    replace ez : intsOf res = some nsz := ez
    cases hf
    refine ⟨G, L, ρ, M, items, M1, s, er, e1, fun G1 H1 L1 J st1 s1 j1 D hD => ?_⟩
    have gD : G1 D = none := Evl.fresh_back s1.ex hD
    have lD : D ∉ L1 := fun z => s1.here D z hD
    have erw : ER K G1 L1 (wipe σ vs) (wipeE ρ vs) := (er.mono st1.g st1.l).wipe vs
    let Pv : Nat → Hp → Prop := fun i H2 => ∃ G2 L2 M2 acc ns S n, Step G1 H1 L1 G2 H2 L2 ∧ ST K ca TI G2 H2 L2 M2 ∧ G2 D = none ∧ D ∉ L2 ∧ H2 D = some (SetO w D S n) ∧ intsOf acc = some ns ∧ (∀ k, S k = true ↔ k ∈ nubI ns) ∧ (nubI ns).Nodup ∧ n = (nubI ns).length ∧ n ≤ i ∧ compGo g tt te (wipeE ρ vs) (items.drop i) M2 acc = some (res, Mz)
    refine ⟨fun i m H2 => m = items.length - i ∧ i ≤ items.length ∧ Pv i H2,
      ⟨items.length, rfl, Nat.zero_le _, G1, L1, M1, [], [], fun _ => false, 0, Step.refl.loose hD gD lD, s1.loose T gD lD (fun u e => by rw [hD] at e; cases e), gD, lD, upd_same, rfl, fun k => by simp [nubI], List.nodup_nil, rfl, Nat.le_refl _, e2⟩, ?_⟩
    rintro i m H2 ⟨rfl, hi, G2, L2, M2, acc, ns, S, n, st2, s2, g2, l2, h2, i2, m2, d2, n2, b2, e3⟩
    have sb2 : Sub G1 H2 := st2.g.trans s2.ex
    by_cases hlt : i < items.length
    · refine .inr ⟨j1.go i H2 sb2 hlt, Pv (i + 1), fun H' n => ⟨items.length - (i + 1), by omega, rfl, hlt, n⟩, fun x H' y => ?_⟩
      obtain ⟨it1, hx, hy⟩ := j1.yld i H2 x H' sb2 hlt y
      have hdrop : items.drop i = it1 :: items.drop (i + 1) := by
        rw [List.drop_eq_getElem_cons hlt]
        congr 1
        rw [List.getElem?_eq_getElem hlt] at hx
        exact Option.some.inj hx
      rw [hdrop] at e3
      obtain ⟨ρ', e4, e3⟩ := bo (show (tgo g (wipeE ρ vs) it1).bind _ = _ from e3)
      obtain ⟨⟨rb, M3⟩, e5, e3⟩ := bo e3
      obtain ⟨b, e6, e3⟩ := bo e3
      have e5 := asB_at e5 e6
      have hb : Step G1 H1 L1 G2 H' L2 ∧ ST K ca TI G2 H' L2 M2 ∧ H' D = some (SetO w D S n) ∧ IRel G2 H' x it1 := by
        rcases hy with ⟨rfl, k1, k2⟩ | ⟨k1, T', xs, ds, rfl, k2, rfl, k3, k4⟩
        · exact ⟨st2, s2, h2, .inl ⟨k1, dp_mono st2.g _ _ k2⟩⟩
        · have gT : G2 T' = none := Evl.fresh_back s2.ex k2
          have lT : T' ∉ L2 := fun z => s2.here T' z k2
          refine ⟨st2.loose (st2.back k2) gT lT, s2.loose T gT lT (fun u e => by rw [k2] at e; cases e), ?_, .inr ⟨k1, T', xs, ds, rfl, upd_same, k3, dpa_mono st2.g _ _ k4⟩⟩
          rw [upd_ne (fun z => by subst z; rw [h2] at k2; cases k2)]
          exact h2
      obtain ⟨st2', s2', h2', ir⟩ := hb
      refine ⟨G2, L2, wipeE ρ vs, it1, ρ', s2'.ex, erw.mono st2'.g st2'.l, ir, e4, fun σ' hl hw er' => ⟨(hw vs hvs).trans (wipe_wipe σ vs), ?_⟩⟩
      refine ⟨G2, L2, ρ', M2, b, M3, s2', er', e5, fun G3 H3 L3 st3 s3 => ?_⟩
      obtain ⟨h3, l3, g3⟩ := st3.kept h2' l2 g2 (fun ps e => by unfold SetO at e; cases e)
      cases b with
      | false =>
        rw [if_neg Bool.false_ne_true]
        exact ⟨G3, L3, M3, acc, ns, S, n, st2'.trans st3, s3, g3, l3, h3, i2, m2, d2, n2, Nat.le_succ_of_le b2, e3⟩
      | true =>
        rw [if_pos rfl]
        rw [if_pos rfl] at e3
        obtain ⟨⟨y, M4⟩, e7, e3⟩ := bo e3
        obtain ⟨yd, e8, e3⟩ := bo e3
        have ey := datum_eq e8
        simp only at ey
        subst ey
        split at e3
        · rename_i hz
          refine ⟨G3, L3, ρ', M3, _, M4, s3, er'.mono st3.g st3.l, e7, fun G4 H4 L4 v st4 s4 v4 => ?_⟩
          obtain ⟨h4, l4, g4⟩ := st4.kept h3 l3 g3 (fun ps e => by unfold SetO at e; cases e)
          obtain ⟨more, er1⟩ := compGo_pre e3
          have ez' := ez
          rw [er1] at ez'
          obtain ⟨ms, em⟩ := intsOf_pre ez'
          obtain ⟨ns', k, f1, f2, f3⟩ := intsOf_app1 em
          rw [i2] at f1
          cases f1
          subst f2 f3
          cases (show DQ G4 v (.int k) from v4)
          refine ⟨k, S, n, rfl, h4, by have := scan_big; omega, G4, L4, M4, acc ++ [.int k], ns ++ [k], _, _, ((st2'.trans st3).trans st4).loose hD g4 l4, s4.looseK T g4 l4 (fun u e => by rw [h4] at e; cases e; exact setO_not), g4, l4, upd_same, em, fun j => ?_, ?_, ?_, ?_, e3⟩
          · rw [nubI_app, Bool.or_eq_true, decide_eq_true_eq, m2]
            split
            · rename_i hk
              exact ⟨fun h => h.elim id fun h => by rw [h]; exact hk, .inl⟩
            · rw [List.mem_append, List.mem_singleton]
          · rw [nubI_app]
            split
            · exact d2
            · rename_i hk
              exact List.nodup_append.mpr ⟨d2, by simp, fun a ha b hb => by
                simp at hb
                subst hb
                exact fun e => hk (e ▸ ha)⟩
          · rw [nubI_app]
            by_cases hk : k ∈ nubI ns
            · rw [if_pos hk, if_pos ((m2 k).mpr hk), n2]
            · rw [if_neg hk, if_neg (fun z => hk ((m2 k).mp z)), n2, List.length_append]
              rfl
          · split
            · omega
            · omega
        · cases e3
    · have hl : i = items.length := by omega
      subst hl
      rw [List.drop_length] at e3
      cases e3
      rw [i2] at ez
      cases ez
      refine .inl ⟨j1.stop _ H2 sb2 rfl, D, S, n, rfl, h2, by omega, fun ns' p h5 h6 h7 hp => ?_⟩
      have hnd : ns'.Nodup := h5.imp fun h e => by omega
      have hperm : ns'.Perm (nubI nsz) := (List.perm_ext_iff_of_nodup hnd d2).mpr fun a => (h6 a).trans (m2 a)
      have e : ns' = isort (nubI nsz) := srt_uniq (hperm.trans (isort_perm _).symm) (h5.imp fun h => by omega) (isort_srt _)
      subst e
      obtain ⟨G3, st3, s3, rr⟩ := out_step (K := K) s2 (out_lst T s2.ex s2.ti hp (dpa_ints _))
      have st12 := st1.trans st2
      exact q G3 _ L2 _ (st12.trans st3) s3 (rr.back st12)
  · cases hf
/-- the dict of a name is walked: it stands still from here on -/
def dLock (i : Nat) (f : Den) : Den := fun ρ M => match ρ[i]? with
  | some (some (.loc k)) => (match M[k]? with
    | some (.dct kvs) => f (ρ.set i (some (.dic kvs))) (M.set k .dead)
    | _ => f ρ M)
  | _ => f ρ M
def tLockP (t : TE) : TE := fun σ H Q => ∃ d u, H d = some u ∧ Mut (some u) ∧ ∀ od, t σ (upd H d (.frz od u)) Q
theorem pe_lockP {e : Expr} {t : TE} (h : PE X e t) : PE X e (tLockP t) := ⟨fun pins s σ H Q I hw => by
  obtain ⟨d, u, hd, mu, hw⟩ := hw
  obtain ⟨od, I1⟩ := I.lock hd mu
  exact h.run pins s σ _ Q I1 (hw od)⟩
theorem pe_dlock (T : TOk TI) {i : Nat} {e : Expr} {f : Den} (h : PE X e (tE X.K ca TI f)) : PE X e (tE X.K ca TI (dLock i f)) := pe_imp (pe_or (pe_lockP h) h) fun σ H Q q => by
  obtain ⟨G, L, ρ, M, r, M', s, er, hf, q⟩ := q
  unfold dLock at hf
  split at hf
  · rename_i k hk
    split at hf
    · rename_i kvs hm
      obtain ⟨v, hv, a, ha, rfl⟩ := er.2 i (.loc k) hk
      have hH : H a = some (.dK (enc kvs)) := s.at_ k a _ ha hm
      have ga := s.fr k a _ ha hm (fun e => nomatch e)
      have hmem : a ∈ L := List.mem_of_getElem? ha
      refine .inl ⟨a, _, hH, trivial, fun od => ?_⟩
      obtain ⟨s', st'⟩ := s.write T ha hm (fun e => nomatch e) hH rfl (o := .frz od (.dK (enc kvs))) (c' := .dead) trivial
      have hL' : ∀ (j : Nat) c, L[j]? = some a → (M.set k .dead)[j]? = some c → c = Cell.dead := fun j c e1 e2 => by
        rcases set_get e2 with ⟨rfl, rfl⟩ | ⟨hne, _⟩
        · rfl
        · exact absurd (nodup_at s.nd e1 ha) hne
      have s2 := s'.freeze (o := .frz od (.dK (enc kvs))) ga upd_same hL'
      have st2 : Step G H L (upd G a (.frz od (.dK (enc kvs)))) (upd H a (.frz od (.dK (enc kvs)))) L := ⟨Evl.Ex.new ga, st'.l, st'.h, st'.n, fun p h1 h2 => by
        by_cases e : p = a
        · subst e; exact .inl hmem
        · rw [upd_ne e] at h2; exact absurd h1 h2, st'.s⟩
      have er2 : ER X.K (upd G a (.frz od (.dK (enc kvs)))) L σ (ρ.set i (some (.dic kvs))) := by
        have er1 := er.mono st2.g (List.prefix_refl L)
        refine ⟨by rw [List.length_set]; exact er1.1, fun j y e => ?_⟩
        rcases set_get e with ⟨rfl, e2⟩ | ⟨_, e2⟩
        · have e3 : y = .dic kvs := Option.some.inj e2
          subst e3
          exact ⟨.ref a, hv, a, od, rfl, upd_same⟩
        · exact er1.2 j y e2
      exact ⟨_, L, _, _, r, M', s2, er2, hf, fun G' H' L' v st s3 rr => q G' H' L' v (st2.trans st) s3 (rr.back st2)⟩
    · exact .inr ⟨G, L, ρ, M, r, M', s, er, hf, q⟩
  · exact .inr ⟨G, L, ρ, M, r, M', s, er, hf, q⟩
end
end PV

set_option maxRecDepth 100000
set_option maxHeartbeats 1000000
/-! statements -/
namespace PV
open PySem PySem.Spec PyProof.Rows L2
inductive Fl where
  | nx (ρ : Env) (M : Sto)
  | brk (ρ : Env) (M : Sto)
  | ret (r : Res) (M : Sto)
abbrev DenS := Env → Sto → Option Fl
def sNo : DenS := fun _ _ => none
def sNil : DenS := fun ρ M => some (.nx ρ M)
def sBrk : DenS := fun ρ M => some (.brk ρ M)
def sSeq (f g : DenS) : DenS := fun ρ M => (f ρ M).bind fun x => match x with
  | .nx ρ' M' => g ρ' M'
  | y => some y
def sExpr (f : Den) : DenS := fun ρ M => (f ρ M).bind fun p => some (.nx ρ p.2)
def sRet (f : Den) : DenS := fun ρ M => (f ρ M).bind fun p => some (.ret p.1 p.2)
def sIf (c : Den) (f g : DenS) : DenS := fun ρ M => (c ρ M).bind fun p => (asB p.1).bind fun b => if b then f ρ p.2 else g ρ p.2
/-- a list that will be changed becomes a cell -/
def stl (m : Bool) (r : Res) (M : Sto) : Val × Sto := match r with
  | .v x => (x, M)
  | .nl xs => if m then (.loc M.length, M ++ [.lst xs]) else (.d (.list xs), M)
  | .nd kvs => (.loc M.length, M ++ [.dct kvs])
def valm (m : Bool) (f : Den) : DenV := fun ρ M => (f ρ M).bind fun p => some (stl m p.1 p.2)
def sSet (i : Nat) (m : Bool) (f : Den) : DenS := fun ρ M => (valm m f ρ M).bind fun p => some (.nx (ρ.set i (some p.1)) p.2)
def sPar (i j : Nat) (m n : Bool) (f g : Den) : DenS := fun ρ M => (valm m f ρ M).bind fun p => (valm n g ρ p.2).bind fun q => some (.nx ((ρ.set i (some p.1)).set j (some q.1)) q.2)
def sUnp (is : List Nat) (f : Den) : DenS := fun ρ M => (val f ρ M).bind fun p => (datum p.1).bind fun d => (tgo (.tp is) ρ (d, true)).bind fun ρ' => some (.nx ρ' p.2)
def putAt (o i x : Val) (M : Sto) : Option Sto := match o with
  | .loc k => (match M[k]? with
    | some (.lst xs) => (match i, x with
      | .d (.int z), .d y => (ixN xs.length z).bind fun j => some (M.set k (.lst (xs.set j y)))
      | _, _ => none)
    | some (.dct kvs) => (match i, x with
      | .d (.int z), .d (.int y) => if kvs.length < big then some (M.set k (.dct (putI kvs z y))) else none
      | _, _ => none)
    | _ => none)
  | _ => none
def sPut (fo fi f : Den) : DenS := fun ρ M => (val f ρ M).bind fun p => (val fo ρ p.2).bind fun q => (val fi ρ q.2).bind fun t => (putAt q.1 t.1 p.1 t.2).bind fun M' => some (.nx ρ M')
def whileGo (c : Den) (b : DenS) : Nat → DenS
  | 0, _, _ => none
  | n + 1, ρ, M => (c ρ M).bind fun p => (asB p.1).bind fun k => if k then (b ρ p.2).bind fun x => match x with
    | .nx ρ' M' => whileGo c b n ρ' M'
    | .brk ρ' M' => some (.nx ρ' M')
    | .ret r M' => some (.ret r M') else some (.nx ρ p.2)
def sWhile (c : Den) (b : DenS) : DenS := whileGo c b 1000
def forGo (g : Tg) (b : DenS) : List Item → DenS
  | [], ρ, M => some (.nx ρ M)
  | d :: ds, ρ, M => (tgo g ρ d).bind fun ρ' => (b ρ' M).bind fun x => match x with
    | .nx ρ2 M2 => forGo g b ds ρ2 M2
    | .brk ρ2 M2 => some (.nx ρ2 M2)
    | .ret r M2 => some (.ret r M2)
def sFor (it : DenI) (g : Tg) (b : DenS) : DenS := fun ρ M => (it ρ M).bind fun p => forGo g b p.1 ρ p.2

section
variable (K : PySem.W.Frag) (ca : Str → Addr) (TI : Hp → Prop)
def flOk (G H : Hp) (L : List Addr) (D : Ends) : Fl → Prop
  | .nx ρ' M' => ∀ G' H' L' σ', Step G H L G' H' L' → ST K ca TI G' H' L' M' → ER K G' L' σ' ρ' → D.nx σ' H'
  | .brk ρ' M' => ∀ G' H' L' σ', Step G H L G' H' L' → ST K ca TI G' H' L' M' → ER K G' L' σ' ρ' → D.bk σ' H'
  | .ret r M' => ∀ G' H' L' v, Step G H L G' H' L' → ST K ca TI G' H' L' M' → RR K H G' H' L' v r → D.rt v H'
def tS (f : DenS) : TS := fun D σ H => ∃ G L ρ M fl, ST K ca TI G H L M ∧ ER K G L σ ρ ∧ f ρ M = some fl ∧ flOk K ca TI G H L D fl
end
section
variable {K : PySem.W.Frag} {ca : Str → Addr} {TI : Hp → Prop} {G H G1 H1 : Hp} {L L1 : List Addr} {D D' : Ends} {fl : Fl}
theorem flOk.later (st : Step G H L G1 H1 L1) (h : flOk K ca TI G H L D fl) : flOk K ca TI G1 H1 L1 D fl := by
  cases fl with
  | nx ρ' M' => exact fun G' H' L' σ' st' s e => h G' H' L' σ' (st.trans st') s e
  | brk ρ' M' => exact fun G' H' L' σ' st' s e => h G' H' L' σ' (st.trans st') s e
  | ret r M' => exact fun G' H' L' v st' s e => h G' H' L' v (st.trans st') s (e.back st)
end
section
variable {X : Cx} {ca : Str → Addr} {TI : Hp → Prop} {f g : DenS} {st : Stmt} {rest : List Stmt} {c e : Expr} {pos : Pos} {fe fc : Den}
theorem pss_s0 : PSs X [] (tS X.K ca TI sNil) := pss_imp pss_nil fun D σ H q => by
  obtain ⟨G, L, ρ, M, fl, s, er, hf, q⟩ := q
  cases hf
  exact q G H L σ Step.refl s er
theorem ps_no : PS X st (tS X.K ca TI sNo) := ps_imp ps_never fun D σ H q => by
  obtain ⟨G, L, ρ, M, fl, s, er, hf, q⟩ := q
  cases hf
theorem ps_brk : PS X (.Break pos) (tS X.K ca TI sBrk) := ps_imp ps_break fun D σ H q => by
  obtain ⟨G, L, ρ, M, fl, s, er, hf, q⟩ := q
  cases hf
  exact q G H L σ Step.refl s er
theorem pss_s1 (h1 : PS X st (tS X.K ca TI f)) (h2 : PSs X rest (tS X.K ca TI g)) : PSs X (st :: rest) (tS X.K ca TI (sSeq f g)) := pss_imp (pss_cons h1 h2) fun D σ H q => by
  obtain ⟨G, L, ρ, M, fl, s, er, hf, q⟩ := q
  obtain ⟨x, e1, hf⟩ := bo hf
  cases x with
  | nx ρ' M' => exact ⟨G, L, ρ, M, _, s, er, e1, fun G1 H1 L1 σ1 st1 s1 er1 => ⟨G1, L1, ρ', M', fl, s1, er1, hf, q.later st1⟩⟩
  | brk ρ' M' =>
    cases hf
    exact ⟨G, L, ρ, M, _, s, er, e1, q⟩
  | ret r M' =>
    cases hf
    exact ⟨G, L, ρ, M, _, s, er, e1, q⟩
theorem ps_sexpr (he : PE X e (tE X.K ca TI fe)) (hs : swapsWith e none pos.line X.env = pure false) : PS X (.Expr e pos) (tS X.K ca TI (sExpr fe)) := ps_imp (ps_expr he hs) fun D σ H q => by
  obtain ⟨G, L, ρ, M, fl, s, er, hf, q⟩ := q
  obtain ⟨⟨r, M1⟩, e1, hf⟩ := bo hf
  cases hf
  exact ⟨G, L, ρ, M, r, M1, s, er, e1, fun G1 H1 L1 v st1 s1 v1 => q G1 H1 L1 σ st1 s1 (er.mono st1.g st1.l)⟩
theorem ps_sret (he : PE X e (tE X.K ca TI fe)) : PS X (.Return (some e) pos) (tS X.K ca TI (sRet fe)) := ps_imp (ps_ret he) fun D σ H q => by
  obtain ⟨G, L, ρ, M, fl, s, er, hf, q⟩ := q
  obtain ⟨⟨r, M1⟩, e1, hf⟩ := bo hf
  cases hf
  exact ⟨G, L, ρ, M, r, M1, s, er, e1, q⟩
theorem ps_sif {a b : List Stmt} (hc : PT X c (tT X.K ca TI fc)) (ha : PSs X a (tS X.K ca TI f)) (hb : PSs X b (tS X.K ca TI g)) : PS X (.If c a b pos) (tS X.K ca TI (sIf fc f g)) := ps_imp (ps_if hc ha hb) fun D σ H q => by
  obtain ⟨G, L, ρ, M, fl, s, er, hf, q⟩ := q
  obtain ⟨⟨r1, M1⟩, e1, hf⟩ := bo hf
  obtain ⟨k, e2, hf⟩ := bo hf
  have e1 := asB_at e1 e2
  refine ⟨G, L, ρ, M, k, M1, s, er, e1, fun G1 H1 L1 st1 s1 => ?_⟩
  cases k with
  | true => exact ⟨G1, L1, ρ, M1, fl, s1, er.mono st1.g st1.l, hf, q.later st1⟩
  | false => exact ⟨G1, L1, ρ, M1, fl, s1, er.mono st1.g st1.l, hf, q.later st1⟩
/-- what is stored -/
theorem stl_ok {K : PySem.W.Frag} {G H G' H' : Hp} {L L' : List Addr} {M' : Sto} {v : V} {r : Res} {m : Bool} (st : Step G H L G' H' L') (s : ST K ca TI G' H' L' M') (r' : RR K H G' H' L' v r) :
    ∃ G2 L2, Step G H L G2 H' L2 ∧ ST K ca TI G2 H' L2 (stl m r M').2 ∧ VR K G2 L2 v (stl m r M').1 := by
  cases r with
  | v x => exact ⟨G', L', st, s, r'⟩
  | nl xs =>
    cases m with
    | false => exact settle_ok st s r'
    | true =>
      obtain ⟨p, vs, rfl, h2, h3, h4, h5, h6⟩ := r'
      refine ⟨G', L' ++ [p], ⟨st.g, st.l.trans (List.prefix_append _ _), st.h, fun q hq => ?_, st.gn, st.s⟩, s.push (by rw [h2]; simp) h3 h4 ⟨vs, h2, h6⟩ (fun o e => by rw [h2] at e; cases e; rfl), ⟨p, ?_, rfl⟩⟩
      · rcases List.mem_append.mp hq with hq | hq
        · exact st.n q hq
        · simp at hq; subst hq; exact .inr h5
      · rw [← s.len]; exact last_get _ _
  | nd kvs => exact settle_ok st s r'
theorem valm_of {K : PySem.W.Frag} {σ : L2.St} {H : Hp} {Q : VK} {m : Bool} (h : tV K ca TI (valm m fe) σ H Q) : tE K ca TI fe σ H Q := by
  obtain ⟨G, L, ρ, M, x, M', s, er, hf, q⟩ := h
  obtain ⟨⟨r, M1⟩, h1, hf⟩ := bo hf
  have h2 := Option.some.inj hf
  refine ⟨G, L, ρ, M, r, M1, s, er, h1, fun G' H' L' v st s' rr => ?_⟩
  obtain ⟨G2, L2, st2, s2, v2⟩ := stl_ok (m := m) st s' rr
  rw [h2] at s2 v2
  exact q G2 H' L2 v st2 s2 v2
theorem ps_sset {i : Nat} {m : Bool} (h : ∀ {t : TE}, (∀ σ H Q, t σ H Q → tE X.K ca TI fe σ H Q) → PS X st (tAsg t (gName i))) : PS X st (tS X.K ca TI (sSet i m fe)) :=
  ps_imp (h (t := tV X.K ca TI (valm m fe)) fun _ _ _ q => valm_of q) fun D σ H q => by
    obtain ⟨G, L, ρ, M, fl, s, er, hf, q⟩ := q
    obtain ⟨⟨x, M1⟩, e1, hf⟩ := bo hf
    cases hf
    exact ⟨G, L, ρ, M, x, M1, s, er, e1, fun G1 H1 L1 v st1 s1 v1 => q G1 H1 L1 _ st1 s1 ((er.mono st1.g st1.l).set i v1)⟩
theorem ps_spar {i j : Nat} {m n : Bool} {a b : Expr} {fa fb : Den} (ha : PE X a (tE X.K ca TI fa)) (hb : PE X b (tE X.K ca TI fb)) (h1 : ns a = true) (h2 : ns b = true) (h : ∀ {t : TA}, PA X [a, b] t → PS X st (tPar i j t)) : PS X st (tS X.K ca TI (sPar i j m n fa fb)) :=
  ps_imp (h (pa_cons (pe_imp ha fun _ _ _ q => valm_of (m := m) q) (pa_cons (pe_imp hb fun _ _ _ q => valm_of (m := n) q) pa_nil (star1 h2)) (star1 h1))) fun D σ H q => by
    obtain ⟨G, L, ρ, M, fl, s, er, hf, q⟩ := q
    obtain ⟨⟨x, M1⟩, e1, hf⟩ := bo hf
    obtain ⟨⟨y, M2⟩, e2, hf⟩ := bo hf
    cases hf
    refine ⟨G, L, ρ, M, x, M1, s, er, e1, fun G1 H1 L1 v st1 s1 v1 => ?_⟩
    refine ⟨G1, L1, ρ, M1, y, _, s1, er.mono st1.g st1.l, e2, fun G2 H2 L2 w st2 s2 v2 => ?_⟩
    have st12 := st1.trans st2
    exact ⟨v, w, rfl, q G2 H2 L2 _ st12 s2 (((er.mono st12.g st12.l).set i (v1.mono st2.g st2.l)).set j v2)⟩
theorem ps_sunp {is : List Nat} {tg : Expr} (he : PE X e (tE X.K ca TI fe)) (hg : PG X tg (tGd X.K (.tp is))) (hs : swapsWithSole [tg] e pos.line X.env = pure false) (hw : swappedStores [tg] e X.env = pure none)
    (h1 : (assignEach [tg] X.env).map (·.2) = [assign tg X.env]) : PS X (.Assign [tg] e pos) (tS X.K ca TI (sUnp is fe)) :=
  ps_imp (ps_asg (pe_v he) hg hs hw h1) fun D σ H q => by
    obtain ⟨G, L, ρ, M, fl, s, er, hf, q⟩ := q
    obtain ⟨⟨x, M1⟩, e1, hf⟩ := bo hf
    obtain ⟨d, e2, hf⟩ := bo hf
    obtain ⟨ρ', e3, hf⟩ := bo hf
    cases hf
    have ex := datum_eq e2
    simp only at ex
    subst ex
    refine ⟨G, L, ρ, M, _, M1, s, er, e1, fun G1 H1 L1 v st1 s1 v1 => ?_⟩
    exact ⟨G1, L1, ρ, (d, true), ρ', s1.ex, er.mono st1.g st1.l, .inl ⟨rfl, v1⟩, e3, fun σ' _ _ er' => q G1 H1 L1 σ' st1 s1 er'⟩
theorem dpa_set {G : Hp} : ∀ {vs : List V} {ds : List PyData} {v : V} {d : PyData} (j : Nat), DQAll G vs ds → DQ G v d → DQAll G (vs.set j v) (ds.set j d)
  | [], [], _, _, _, _, _ => .nil
  | _ :: _, _ :: _, v, d, 0, h, hd => by
    cases h with
    | cons h1 h2 => exact .cons hd h2
  | _ :: _, _ :: _, v, d, j + 1, h, hd => by
    cases h with
    | cons h1 h2 => exact .cons h1 (dpa_set j h2 hd)
theorem putAt_cases {y z x : Val} {M M' : Sto} (h : putAt y z x M = some M') : (∃ k xs zi yd j, y = .loc k ∧ M[k]? = some (.lst xs) ∧ z = .d (.int zi) ∧ x = .d yd ∧ ixN xs.length zi = some j ∧ M' = M.set k (.lst (xs.set j yd))) ∨
    (∃ k kvs zi yi, y = .loc k ∧ M[k]? = some (.dct kvs) ∧ z = .d (.int zi) ∧ x = .d (.int yi) ∧ kvs.length < big ∧ M' = M.set k (.dct (putI kvs zi yi))) := by
  unfold putAt at h
  split at h
  · rename_i k
    split at h
    · rename_i xs hm
      split at h
      · rename_i zi yd
        obtain ⟨j, e5, h⟩ := bo h
        exact .inl ⟨k, xs, zi, yd, j, rfl, hm, rfl, rfl, e5, (Option.some.inj h).symm⟩
      · cases h
    · rename_i kvs hm
      split at h
      · rename_i zi yi
        split at h
        · rename_i hz
          exact .inr ⟨k, kvs, zi, yi, rfl, hm, rfl, rfl, hz, (Option.some.inj h).symm⟩
        · cases h
      · cases h
    · cases h
  · cases h
theorem pset_or {t t' : TSet} (h : PSet X t) (h' : PSet X t') : PSet X fun o i v H Q => t o i v H Q ∨ t' o i v H Q := fun pins s σ H o i v ov iv u Q I a b c q => q.elim (h pins s σ H o i v ov iv u Q I a b c) (h' pins s σ H o i v ov iv u Q I a b c)
theorem ps_sput (T : TOk TI) (hu : X.A.units + 200 < cLine) {o i : Expr} {fo fi : Den} {p2 : Pos} (he : PE X e (tE X.K ca TI fe)) (ho : PE X o (tE X.K ca TI fo)) (hi : PE X i (tE X.K ca TI fi)) (hs : swapsWithSole [.Subscript o i p2] e pos.line X.env = pure false) (hw : swappedStores [.Subscript o i p2] e X.env = pure none)
    (hA : ∀ v, assign (.Subscript o i p2) X.env v = (do
      let ov ← holding [v] (eval o X.env)
      let iv ← holding [v, ov] (eval i X.env)
      standAt p2
      holding [v, ov, iv] (setItem ov iv v)
      release [v, ov, iv] [])) :
    PS X (.Assign [.Subscript o i p2] e pos) (tS X.K ca TI (sPut fo fi fe)) :=
  ps_imp (ps_asg (pe_v he) (pg_sub (pe_v ho) (pe_v hi) (pset_or set_list (set_dict (by omega))) hA) hs hw) fun D σ H q => by
    obtain ⟨G, L, ρ, M, fl, s, er, hf, q⟩ := q
    obtain ⟨⟨x, M1⟩, e1, hf⟩ := bo hf
    obtain ⟨⟨y, M2⟩, e2, hf⟩ := bo hf
    obtain ⟨⟨z, M3⟩, e3, hf⟩ := bo hf
    obtain ⟨M4, e4, hf⟩ := bo hf
    cases hf
    refine ⟨G, L, ρ, M, x, M1, s, er, e1, fun G1 H1 L1 v st1 s1 v1 => ?_⟩
    refine ⟨G1, L1, ρ, M1, y, M2, s1, er.mono st1.g st1.l, e2, fun G2 H2 L2 w st2 s2 v2 => ?_⟩
    have st12 := st1.trans st2
    refine ⟨G2, L2, ρ, M2, z, M3, s2, er.mono st12.g st12.l, e3, fun G3 H3 L3 u st3 s3 v3 => ?_⟩
    have st13 := st12.trans st3
    replace v1 := (v1.mono st2.g st2.l).mono st3.g st3.l
    replace v2 := v2.mono st3.g st3.l
    replace e4 : putAt y z x M3 = some M4 := e4
    have fin : ∀ {o' : HO} {k : Nat} {a : Addr} {c c' : Cell} {u0 : HO}, L3[k]? = some a → M3[k]? = some c → c ≠ Cell.dead → H3 a = some u0 → isK u0 = false → CellAt X.K ca G3 (upd H3 a o') L3 a c' → M4 = M3.set k c' → isF o' = false → D.nx σ (upd H3 a o') := fun {o' k a c c' u0} h1 h2 h3 h4 h5 h6 h7 h8 => by
      obtain ⟨s', st'⟩ := s3.write T h1 h2 h3 h4 h5 h6 h8
      rw [← h7] at s'
      have st14 := st13.trans st'
      exact q G3 _ L3 σ st14 s' (er.mono st14.g st14.l)
    rcases putAt_cases e4 with ⟨k, xs, zi, yd, j, rfl, hm, rfl, rfl, e5, em⟩ | ⟨k, kvs, zi, yi, rfl, hm, rfl, rfl, hz, em⟩
    · obtain ⟨a, ha, rfl⟩ := v2
      obtain ⟨ws, h1, h2⟩ := s3.at_ k a _ ha hm
      cases (show DQ G3 u (.int zi) from v3)
      exact .inl ⟨a, ws, zi, j, rfl, rfl, h1, by rw [dpa_len h2]; exact e5, fin (c' := .lst (xs.set j yd)) ha hm (fun e => nomatch e) h1 rfl ⟨_, upd_same, dpa_set j h2 v1⟩ em rfl⟩
    · obtain ⟨a, ha, rfl⟩ := v2
      have h1 : H3 a = some (.dK (enc kvs)) := s3.at_ k a _ ha hm
      cases (show DQ G3 u (.int zi) from v3)
      cases (show DQ G3 v (.int yi) from v1)
      refine .inr ⟨a, _, rfl, DPut.k (k := (Sum.inl zi : Key)) h1 (Nat.lt_of_lt_of_le (by simpa [enc] using hz) (big_le (Nat.le_refl _))), ?_⟩
      rw [← enc_put]
      exact fin (c' := .dct (putI kvs zi yi)) ha hm (fun e => nomatch e) h1 rfl upd_same em rfl
theorem ps_swhile (hp : PassesOwn (model X.prog X.w) X.A X.env X.xe) {body : List Stmt} (hc : PT X c (tT X.K ca TI fc)) (hb : PSs X body (tS X.K ca TI f)) : PS X (.While c body [] pos) (tS X.K ca TI (sWhile fc f)) :=
  ps_imp (ps_while hp hc hb) fun D σ H q => by
    obtain ⟨G, L, ρ, M, fl, s, er, hf, q⟩ := q
    refine ⟨fun m σ1 H1 => ∃ G1 L1 ρ1 M1, Step G H L G1 H1 L1 ∧ ST X.K ca TI G1 H1 L1 M1 ∧ ER X.K G1 L1 σ1 ρ1 ∧ whileGo fc f m ρ1 M1 = some fl, ⟨1000, G, L, ρ, M, Step.refl, s, er, hf⟩, ?_⟩
    rintro m σ1 H1 ⟨G1, L1, ρ1, M1, st1, s1, er1, hw⟩
    cases m with
    | zero => cases hw
    | succ m =>
      obtain ⟨⟨r1, M2⟩, e1, hw⟩ := bo (show (fc ρ1 M1).bind _ = _ from hw)
      obtain ⟨k, e2, hw⟩ := bo hw
      have e1 := asB_at e1 e2
      refine ⟨G1, L1, ρ1, M1, k, M2, s1, er1, e1, fun G2 H2 L2 st2 s2 => ?_⟩
      have st12 := st1.trans st2
      cases k with
      | false =>
        show if (false : Bool) = true then _ else D.nx σ1 H2
        rw [if_neg Bool.false_ne_true] at hw ⊢
        cases hw
        exact q G2 H2 L2 σ1 st12 s2 (er1.mono st2.g st2.l)
      | true =>
        show if (true : Bool) = true then _ else D.nx σ1 H2
        rw [if_pos rfl] at hw ⊢
        obtain ⟨x, e3, hw⟩ := bo hw
        refine ⟨fun σ' H' => ∃ G1 L1 ρ1 M1, Step G H L G1 H' L1 ∧ ST X.K ca TI G1 H' L1 M1 ∧ ER X.K G1 L1 σ' ρ1 ∧ whileGo fc f m ρ1 M1 = some fl, fun σ' H' h => ⟨m, Nat.lt_succ_self m, h⟩, ?_⟩
        refine ⟨G2, L2, ρ1, M2, x, s2, er1.mono st2.g st2.l, e3, ?_⟩
        cases x with
        | nx ρ' M' => exact fun G3 H3 L3 σ3 st3 s3 er3 => ⟨G3, L3, ρ', M', st12.trans st3, s3, er3, hw⟩
        | brk ρ' M' =>
          cases hw
          exact fun G3 H3 L3 σ3 st3 s3 er3 => q G3 H3 L3 σ3 (st12.trans st3) s3 er3
        | ret r M' =>
          cases hw
          exact fun G3 H3 L3 v st3 s3 rr => q G3 H3 L3 v (st12.trans st3) s3 (rr.back st12)
theorem ps_sfor (T : TOk TI) (hp : PassesOwn (model X.prog X.w) X.A X.env X.xe) (hcalm : X.calm = true) {body : List Stmt} {tg it : Expr} {fi : DenI} {g : Tg} (hi : PI X tg it (tIt X.K ca TI fi)) (hg : PG X tg (tGd X.K g)) (hb : PSs X body (tS X.K ca TI f)) (hs : ∀ x, foldedSetIterable it X.env x = pure x) : PS X (.For tg it body [] pos) (tS X.K ca TI (sFor fi g f)) :=
  ps_imp (ps_for hp hcalm hi hg hb hs) fun D σ H q => by
    obtain ⟨G, L, ρ, M, fl, s, er, hf, q⟩ := q
    obtain ⟨⟨items, M1⟩, e1, hf⟩ := bo hf
    refine ⟨G, L, ρ, M, items, M1, s, er, e1, fun G1 H1 L1 J st1 s1 j1 => ?_⟩
    refine ⟨fun i m σ2 H2 => m = items.length - i ∧ i ≤ items.length ∧ ∃ G2 L2 ρ2 M2, Step G1 H1 L1 G2 H2 L2 ∧ ST X.K ca TI G2 H2 L2 M2 ∧ ER X.K G2 L2 σ2 ρ2 ∧ forGo g f (items.drop i) ρ2 M2 = some fl, ⟨items.length, rfl, Nat.zero_le _, G1, L1, ρ, M1, Step.refl, s1, er.mono st1.g st1.l, hf⟩, ?_⟩
    rintro i m σ2 H2 ⟨rfl, hil, G2, L2, ρ2, M2, st2, s2, er2, hw⟩
    have sb2 : Sub G1 H2 := st2.g.trans s2.ex
    have st12 := st1.trans st2
    by_cases hlt : i < items.length
    · refine .inr ⟨j1.go i H2 sb2 hlt, fun σ' H' => ∃ G3 L3 ρ3 M3, Step G1 H1 L1 G3 H' L3 ∧ ST X.K ca TI G3 H' L3 M3 ∧ ER X.K G3 L3 σ' ρ3 ∧ forGo g f (items.drop (i + 1)) ρ3 M3 = some fl, fun σ' H' n => ⟨items.length - (i + 1), by omega, rfl, hlt, n⟩, fun x H' y => ?_⟩
      obtain ⟨it1, hx, hy⟩ := j1.yld i H2 x H' sb2 hlt y
      have hdrop : items.drop i = it1 :: items.drop (i + 1) := by
        rw [List.drop_eq_getElem_cons hlt]
        congr 1
        rw [List.getElem?_eq_getElem hlt] at hx
        exact Option.some.inj hx
      rw [hdrop] at hw
      obtain ⟨ρ', e4, hw⟩ := bo (show (tgo g ρ2 it1).bind _ = _ from hw)
      obtain ⟨z, e5, hw⟩ := bo hw
      have hb : Step G1 H1 L1 G2 H' L2 ∧ ST X.K ca TI G2 H' L2 M2 ∧ IRel G2 H' x it1 := by
        rcases hy with ⟨rfl, k1, k2⟩ | ⟨k1, T', xs, ds, rfl, k2, rfl, k3, k4⟩
        · exact ⟨st2, s2, .inl ⟨k1, dp_mono st2.g _ _ k2⟩⟩
        · have gT : G2 T' = none := Evl.fresh_back s2.ex k2
          have lT : T' ∉ L2 := fun z => s2.here T' z k2
          exact ⟨st2.loose (st2.back k2) gT lT, s2.loose T gT lT (fun u e => by rw [k2] at e; cases e), .inr ⟨k1, T', xs, ds, rfl, upd_same, k3, dpa_mono st2.g _ _ k4⟩⟩
      obtain ⟨st2', s2', ir⟩ := hb
      have st12' := st1.trans st2'
      refine ⟨G2, L2, ρ2, it1, ρ', s2'.ex, er2, ir, e4, fun σ' hl hw' er' => ?_⟩
      refine ⟨G2, L2, ρ', M2, z, s2', er', e5, ?_⟩
      cases z with
      | nx ρ3 M3 => exact fun G3 H3 L3 σ3 st3 s3 er3 => ⟨G3, L3, ρ3, M3, st2'.trans st3, s3, er3, hw⟩
      | brk ρ3 M3 =>
        cases hw
        exact fun G3 H3 L3 σ3 st3 s3 er3 => q G3 H3 L3 σ3 (st12'.trans st3) s3 er3
      | ret r M3 =>
        cases hw
        exact fun G3 H3 L3 v st3 s3 rr => q G3 H3 L3 v (st12'.trans st3) s3 (rr.back st12')
    · have hl : i = items.length := by omega
      subst hl
      rw [List.drop_length] at hw
      cases hw
      exact .inl ⟨j1.stop _ H2 sb2 rfl, q G2 H2 L2 σ2 st12 s2 er2⟩
end
end PV

set_option maxRecDepth 100000
set_option maxHeartbeats 1000000
/-! promises of defs that also know that no guard stands around (for repr) -/
namespace PV
open PySem PySem.Spec PyProof.Rows L2
structure FnG (P : Program) (w : World) (K : PySem.W.Frag) (mg : Str → Option Value) (base : Heap) (CX : CXT) (k : Nat) (f : Addr) (fd : FuncData) (ps : List Str) (sp : Sp) : Prop where
  len : ∀ vs H Q E, sp vs H Q E → vs.length = ps.length
  run : ∀ (A : Around) (outer : List PySem.Env) (s : Shared) (H : Hp) (args : Args) (us : List Value) (vs : List V) (Q : VK) (E : XK), A.guards = some [] → Room k A → Env0 P w K mg base A outer s H → BindsTo s fd args (ps.zip us) → Vals vs us → sp vs H Q E →
    codeAny (model P w) A (.call (.ref f) args) (CR CX outer P w H s Q E) s
theorem guards_deep {A : Around} {env : PySem.Env} (h : A.guards = some []) : (A.deeper env).guards = some [] := by
  first
    | exact h
    | simpa [Around.deeper] using h
theorem guards_make {A : Around} {C : Addr} {us : List Value} {kw : List (Str × Value)} (h : A.guards = some []) : (A.under (.builtin "type.__call__" ⟨.ref C :: us, kw⟩)).guards = some [] := by
  first
    | exact h
    | simpa [Around.under, pushGuards, Code.guards, Code.isGuard, guardIds] using h
theorem FnG.mono {P : Program} {w : World} {K : PySem.W.Frag} {mg : Str → Option Value} {base : Heap} {CX : CXT} {j k : Nat} {f : Addr} {fd : FuncData} {ps : List Str} {sp : Sp} (F : FnG P w K mg base CX j f fd ps sp) (h : j ≤ k) :
    FnG P w K mg base CX k f fd ps sp := ⟨F.len, fun A outer s H args us vs Q E hg hr => F.run A outer s H args us vs Q E hg (hr.mono h)⟩
section
variable {X : Cx} {CX : CXT} {k : Nat} {f C : Addr} {fd : FuncData} {ps : List Str} {sp : Sp} {E : XK} {x m : Str} {p pos apos : Pos} {e o : Expr} {es : List Expr} {ta : TE} {t : TA}
theorem run_g {pins : List (Addr × Obj)} {σ : L2.St} {H : Hp} {s : Shared} {Q : VK} {us : List Value} {vs : List V} (F : FnG X.prog X.w X.K X.mg X.base CX k f fd ps sp) (hg : X.A.guards = some []) (hr : Room k X.A) (hb : Binds X.K fd ps []) (hx : Passes CX X E)
    (I : Inv X pins σ H s) (r : Vals vs us) (h : sp vs H Q E) : wpAny (model X.prog X.w) X.A (call (.ref f) us) (EP X pins σ Q) X.xe s := by
  have hl : (us ++ ([] : List Value)).length = ps.length := by
    rw [List.append_nil, ← r.length]
    exact F.len _ _ _ _ h
  have hbb := hb s us I.kIn hl
  rw [List.append_nil] at hbb
  refine wpAny_call (codeAny_mono (F.run X.A X.stack s H ⟨us, []⟩ us vs Q E hg hr I.env0 hbb r h) fun z s' hq => ?_)
  cases z with
  | error e => exact hx pins σ H s e s' I hq
  | ok fl =>
    cases fl with
    | ret u => exact I.after hq
    | next => exact hq.elim
    | brk => exact hq.elim
    | cont => exact hq.elim
def tCallG (sp : Sp) (E : XK) (t : TA) : TE := fun σ H Q => t σ H fun vs H1 => sp vs H1 Q E
theorem pe_callG (F : FnG X.prog X.w X.K X.mg X.base CX k f fd ps sp) (hgd : X.A.guards = some []) (hr : Room k X.A) (hg : Gl X x) (hm : X.mg x = some (.ref f)) (hk : PySem.W.keepIn X.K (.ref f) = true) (hb : Binds X.K fd ps []) (hx : Passes CX X E)
    (ha : PA X (e :: es) t) (hdb : (x == ("__debug__" : Str)) = false) (hs : nsAll (e :: es) = true) : PE X (.Call (.Name x p) (e :: es) [] pos) (tCallG sp E t) := by
  have hs' := hs
  unfold nsAll at hs'
  rw [Bool.and_eq_true] at hs'
  exact ⟨fun pins s σ H Q I h => wpAny_Call_Name_kw (ld_glob I hg hm (PySem.W.callWith_K (h₀ := X.base) I.ok.mod.kin hk (thn (ha.run pos pins s σ H _ I h) fun us s1 ⟨vs, H1, I1, r, q⟩ => ⟨I1.kIn, run_g F hgd hr hb hx I1 r q⟩) (star1 hs'.1) (star_back hs'.2)) hdb)⟩
def tMethG (C : Addr) (m : Str) (sp : Sp) (E : XK) (ta : TE) (t : TA) : TE := fun σ H Q => ta σ H fun x H1 => ∃ a dx fs, x = .ref a ∧ H1 a = some (.ins C dx fs) ∧ fs.lookup m = none ∧ t σ H1 fun vs H2 => sp (x :: vs) H2 Q E
theorem pe_methG {pl : Sem Bool} (he : PE X o ta) (c : Cls X.K C) (hm : Meth X.K C m f) (F : FnG X.prog X.w X.K X.mg X.base CX k f fd ps sp) (hgd : X.A.guards = some []) (hr : Room k X.A) (hb : Binds X.K fd ps []) (hx : Passes CX X E) (ha : PA X [e] t) (hs : ns e = true)
    (ht : eval (.Call (.Attribute o m apos) [e] [] pos) X.env = (do
      let ov ← eval o X.env
      standAt apos.atName
      let (f, first) ← holding [ov] (getMethod ov m pl)
      callWith pos f first (backTo pos (starEach [e] X.env)) (backToKw pos (keywordEach [] X.env)))) :
    PE X (.Call (.Attribute o m apos) [e] [] pos) (tMethG C m sp E ta t) := by
  refine ⟨fun pins s σ H Q I h => PySem.W.methodCall_KW (pl := pl) (thn (he.run pins s σ H _ I h) fun u s1 ⟨x, H1, I1, rx, a, dx, fs, ex, ea, l, q⟩ => ?_) ht⟩
  subst ex
  obtain rfl : u = Value.ref a := rx
  exact getmeth_ok I1 ea c hm l (PySem.W.callWith_K (first := [.ref a]) (h₀ := X.base) I.ok.mod.kin hm.kp (thn (ha.run pos pins s1 σ H1 _ I1 q) fun us s2 ⟨vs, H2, I2, r, q2⟩ => ⟨I2.kIn, run_g (us := .ref a :: us) (vs := .ref a :: vs) F hgd hr hb hx I2 (.cons rfl r) q2⟩) (star1 hs) rfl)
def tMakeG (C : Addr) (sp : Sp) (E : XK) (t : TA) : TE := fun σ H Q => t σ H fun vs H1 => ∀ x dx, H1 x = none → H1 dx = none → dx ≠ x →
  sp (.ref x :: vs) (upd (upd H1 dx (.own x)) x (.ins C dx [])) (fun v H2 => v = .non ∧ Q (.ref x) H2) E
theorem run_makeG {pins : List (Addr × Obj)} {σ : L2.St} {H : Hp} {s : Shared} {Q : VK} {us : List Value} {vs : List V} (M : Mk X.K C f) (F : FnG X.prog X.w X.K X.mg X.base CX k f fd ps sp) (hgd : X.A.guards = some []) (hr : Room (k + 1) X.A) (hb : Binds X.K fd ps [])
    (hx : Passes CX X E) (I : Inv X pins σ H s) (r : Vals vs us)
    (h : ∀ x dx, H x = none → H dx = none → dx ≠ x → sp (.ref x :: vs) (upd (upd H dx (.own x)) x (.ins C dx [])) (fun v H2 => v = .non ∧ Q (.ref x) H2) E) :
    wpAny (model X.prog X.w) X.A (call (.ref C) us) (EP X pins σ Q) X.xe s := by
  have hq := h (s.heap.objs.size + 1) s.heap.objs.size (I.hok.fresh (Nat.le_succ _)) (I.hok.fresh (Nat.le_refl _)) (Nat.ne_of_lt (Nat.lt_succ_self _))
  have I2 := Inv.made (C := C) I
  have r2 : Vals (V.ref (s.heap.objs.size + 1) :: vs) (Value.ref (s.heap.objs.size + 1) :: us) := .cons rfl r
  have hl : (Value.ref (s.heap.objs.size + 1) :: us ++ ([] : List Value)).length = ps.length := by
    rw [List.append_nil, ← r2.length]
    exact F.len _ _ _ _ hq
  have hbb := hb _ (Value.ref (s.heap.objs.size + 1) :: us) I2.kIn hl
  rw [List.append_nil] at hbb
  refine wpAny_call (make_map (f := f) I.kIn M.makes M.init (beq_iff_eq.mp M.fn) (codeAny_mono (F.run _ X.stack _ _ ⟨Value.ref (s.heap.objs.size + 1) :: us, []⟩ (Value.ref (s.heap.objs.size + 1) :: us) _ _ E (guards_make hgd) (hr.make C us [])
    (I2.env0.make C us []) hbb r2 hq) fun z s' hq' => ?_))
  cases z with
  | error e => exact hx pins σ _ _ e s' I2 hq'
  | ok fl =>
    cases fl with
    | ret u =>
      obtain ⟨v, H', I3, rv, ev, q3⟩ := I2.after hq'
      subst ev
      exact ⟨rv, ⟨V.ref (s.heap.objs.size + 1), H', I3, rfl, q3⟩⟩
    | next => exact hq'.elim
    | brk => exact hq'.elim
    | cont => exact hq'.elim
theorem pe_makeG (M : Mk X.K C f) (F : FnG X.prog X.w X.K X.mg X.base CX k f fd ps sp) (hgd : X.A.guards = some []) (hr : Room (k + 1) X.A) (hg : Gl X x) (hm : X.mg x = some (.ref C)) (hb : Binds X.K fd ps []) (hx : Passes CX X E)
    (ha : PA X (e :: es) t) (hdb : (x == ("__debug__" : Str)) = false) (hs : nsAll (e :: es) = true) : PE X (.Call (.Name x p) (e :: es) [] pos) (tMakeG C sp E t) := by
  have hs' := hs
  unfold nsAll at hs'
  rw [Bool.and_eq_true] at hs'
  exact ⟨fun pins s σ H Q I h => wpAny_Call_Name_kw (ld_glob I hg hm (PySem.W.callWith_K (h₀ := X.base) I.ok.mod.kin M.kp (thn (ha.run pos pins s σ H _ I h) fun us s1 ⟨vs, H1, I1, r, q⟩ => ⟨I1.kIn, run_makeG M F hgd hr hb hx I1 r q⟩) (star1 hs'.1) (star_back hs'.2)) hdb)⟩
theorem pe_makeG0 (M : Mk X.K C f) (F : FnG X.prog X.w X.K X.mg X.base CX k f fd ps sp) (hgd : X.A.guards = some []) (hr : Room (k + 1) X.A) (hg : Gl X x) (hm : X.mg x = some (.ref C)) (hb : Binds X.K fd ps []) (hx : Passes CX X E)
    (hdb : (x == ("__debug__" : Str)) = false) : PE X (.Call (.Name x p) [] [] pos) (tMakeG C sp E tNil) :=
  ⟨fun pins s σ H Q I h => wpAny_Call_Name_kw (ld_glob I hg hm (PySem.W.callWith_K0 I.kIn M.kp (run_makeG (us := []) M F hgd hr hb hx I .nil h)) hdb)⟩
end
theorem fn_ofG {CX : CXT} {P : Program} {w : World} {K : PySem.W.Frag} {mg : Str → Option Value} {base : Heap} {k : Nat} {f : Addr} {name qual : Str} {params : Arguments} {body : List Stmt} {scope : Scope} {dV kV doc pm cdv ct oc : Value} {an od : Option Addr}
    {osl : Array (Option Value)} {N ps : List Str} {sp : Sp} (lk : K.lookup f = some ⟨oc, od, .func (PySem.W.fnOf name qual params body scope dV kV doc pm an cdv ct), osl⟩) (hcd : PySem.W.codeIn K cdv qual = true) (S : FnScope N ps scope)
    (len : ∀ vs H Q E, sp vs H Q E → vs.length = ps.length)
    (hbody : ∀ (A : Around) (outer : List PySem.Env) (s : Shared) (H : Hp) (vs : List V) (Q : VK) (E : XK), A.guards = some [] → Room (k + 1) A → Room k (A.deeper (envOfC qual scope s.heap.objs.size f cdv)) → sp vs H Q E →
      ∃ t, PSs (cxOf CX P w K mg base N qual scope f cdv A outer s H E) body t ∧ t { nx := fun _ H' => Q .non H', rt := Q } (start N vs) H) :
    FnG P w K mg base CX (k + 1) f (PySem.W.fnOf name qual params body scope dV kV doc pm an cdv ct) ps sp := by
  refine ⟨len, fun A outer s H args us vs Q E hgd hr e0 hb r hsp => ?_⟩
  have en := len _ _ _ _ hsp
  have hK : K.In s.heap := e0.mod.kin.keeps fun b o e => (e0.bs b o e).1
  have nolim : s.heap.NoLimit := e0.mod.nolimit.keeps fun b o e => (e0.bs b o e).1
  have kinds : ∀ y ∈ ps.zip us, scope.names.lookup y.1 = some .local ∨ (scope.names.lookup y.1 = some .cell ∧ ((cellsFrom (s.heap.objs.size + 1) scope.names []).lookup y.1).isSome = true) := fun ⟨n, v⟩ hy =>
    (S.par n (List.of_mem_zip hy).1).imp_right fun q => ⟨q, PySem.W.cellsFrom_some _ _ _ (.inl q)⟩
  refine codeAny_call_function hr.depth (hK _ _ lk) rfl S.co S.gen rfl (PySem.W.codeRec_of hK hcd) (hb _ _ _ _ (wpAny_newFunctionEnv_cells S.kind kinds fun env he s1 x => ?_))
  subst he
  refine ⟨nolim.keeps x.toInCall.keep, codeAny_func ?_⟩
  obtain ⟨t, ht, hq⟩ := hbody A outer s H vs Q E hgd hr (hr.deeper _) hsp
  refine wpAny_mono (ht.run [] s1 (start N vs) H _ (inv_start S hr.hd e0 en r x) hq) (fun fl s' hs => ?_) fun e s' hs => hs
  cases fl with
  | ret u =>
    obtain ⟨v, σ', H', J, rv, q⟩ := hs
    exact ⟨v, H', J.os, J.bare, J.base, J.hok, rv, q⟩
  | next =>
    obtain ⟨σ', H', J, q⟩ := hs
    exact ⟨.non, H', J.os, J.bare, J.base, J.hok, rfl, q⟩
  | brk =>
    obtain ⟨_, _, _, q⟩ := hs
    exact q.elim
  | cont =>
    obtain ⟨_, _, _, q⟩ := hs
    exact q.elim
end PV

set_option maxRecDepth 100000
set_option maxHeartbeats 1000000
/-! calls of defs; instances; a def's end -/
namespace PV
open PySem PySem.Spec PyProof.Rows L2
abbrev Fun := List Val → Sto → Option (Res × Sto)
def spG (K : PySem.W.Frag) (ca : Str → Addr) (TI : Hp → Prop) (n : Nat) (cp : Fun) : Sp := fun vs H Q _ => vs.length = n ∧ ∃ G L M xs r M', ST K ca TI G H L M ∧ VRs K G L vs xs ∧ cp xs M = some (r, M') ∧
  ∀ G' H' L' v, Step G H L G' H' L' → ST K ca TI G' H' L' M' → RR K H G' H' L' v r → Q v H'
def dCall (n : Nat) (cp : Fun) (fa : DenA) : Den := fun ρ M => (fa ρ M).bind fun p => if p.1.length = n then cp p.1 p.2 else none
theorem vrs_len {K : PySem.W.Frag} {G : Hp} {L : List Addr} : ∀ {vs : List V} {xs : List Val}, VRs K G L vs xs → vs.length = xs.length
  | _, _, .nil => rfl
  | _, _, .cons _ t => by simp [vrs_len t]
section
variable {K : PySem.W.Frag} {ca : Str → Addr} {TI : Hp → Prop} {σ : L2.St} {H : Hp} {Q : VK} {n : Nat} {cp : Fun} {fa : DenA} {E : XK}
theorem tCallG_of (q : tE K ca TI (dCall n cp fa) σ H Q) : tCallG (spG K ca TI n cp) E (tArgs K ca TI fa) σ H Q := by
  obtain ⟨G, L, ρ, M, r, M', s, er, hf, q⟩ := q
  obtain ⟨⟨xs, M1⟩, e1, hf⟩ := bo hf
  split at hf
  · rename_i hn
    refine ⟨G, L, ρ, M, xs, M1, s, er, e1, fun G1 H1 L1 vs st1 s1 v1 => ⟨by rw [vrs_len v1]; exact hn, ?_⟩⟩
    exact ⟨G1, L1, M1, xs, r, M', s1, v1, hf, fun G2 H2 L2 v st2 s2 rr => q G2 H2 L2 v (st1.trans st2) s2 (rr.back st1)⟩
  · cases hf
/-! instances -/
def fget (fs : List (Str × Val)) (f : Str) : Option Val := fs.lookup f
def fput (f : Str) (x : Val) : List (Str × Val) → List (Str × Val)
  | [] => [(f, x)]
  | (g, y) :: r => if g = f then (g, x) :: r else (g, y) :: fput f x r
def insOf (c : Str) (x : Val) (M : Sto) : Option (Nat × List (Str × Val)) := match x with
  | .loc k => (match M[k]? with
    | some (.ins c' fs) => if c' = c then some (k, fs) else none
    | _ => none)
  | _ => none
theorem insOf_eq {c : Str} {x : Val} {M : Sto} {k : Nat} {fs : List (Str × Val)} (h : insOf c x M = some (k, fs)) : x = .loc k ∧ M[k]? = some (.ins c fs) := by
  unfold insOf at h
  split at h
  · rename_i j
    split at h
    · rename_i c' fs' hm
      split at h
      · rename_i hc
        subst hc
        cases h
        exact ⟨rfl, hm⟩
      · cases h
    · cases h
  · cases h
def dFld (c f : Str) (fo : Den) : Den := fun ρ M => (val fo ρ M).bind fun p => (insOf c p.1 p.2).bind fun q => (fget q.2 f).bind fun x => some (.v x, p.2)
def sFldS (c f : Str) (fo fe : Den) : DenS := fun ρ M => (valm true fe ρ M).bind fun p => (val fo ρ p.2).bind fun q => (insOf c q.1 q.2).bind fun t => if t.2.length < 900 then some (.nx ρ (q.2.set t.1 (.ins c (fput f p.1 t.2)))) else none
def dMethI (c m : Str) (n : Nat) (cp : Fun) (fo : Den) (fa : DenA) : Den := fun ρ M => (val fo ρ M).bind fun p => (insOf c p.1 p.2).bind fun q => if (fget q.2 m).isNone then (fa ρ p.2).bind fun t => if t.1.length + 1 = n then cp (p.1 :: t.1) t.2 else none else none
def noneR : Res → Bool
  | .v (.d .none) => true
  | _ => false
def dMake (c : Str) (n : Nat) (cp : Fun) (fa : DenA) : Den := fun ρ M => (fa ρ M).bind fun p => if p.1.length + 1 = n then (cp (.loc p.2.length :: p.1) (p.2 ++ [.ins c []])).bind fun q => if noneR q.1 then some (.v (.loc p.2.length), q.2) else none else none
theorem fr_get {G : Hp} {L : List Addr} : ∀ {fv : List (Str × V)} {fs : List (Str × Val)} {f : Str}, FR K G L fv fs → (∀ x, fget fs f = some x → ∃ v, fv.lookup f = some v ∧ VR K G L v x) ∧ (fget fs f = none → fv.lookup f = none)
  | [], [], f, _ => ⟨fun x e => (by cases e), fun _ => rfl⟩
  | p :: as, q :: bs, f, h => by
    cases h with
    | cons h t =>
      have ih := fr_get (f := f) t
      obtain ⟨h1, h2⟩ := h
      unfold fget at ih ⊢
      obtain ⟨p1, p2⟩ := p
      obtain ⟨q1, q2⟩ := q
      have h1 : p1 = q1 := h1
      subst h1
      rw [List.lookup_cons, List.lookup_cons]
      cases f == p1 with
      | true => exact ⟨fun x e => by cases e; exact ⟨_, rfl, h2⟩, fun e => by cases e⟩
      | false => exact ih
theorem fr_put {G : Hp} {L : List Addr} {f : Str} {v : V} {x : Val} (hv : VR K G L v x) : ∀ {fv : List (Str × V)} {fs : List (Str × Val)}, FR K G L fv fs → FR K G L (putF f v fv) (fput f x fs)
  | _, _, .nil => .cons ⟨rfl, hv⟩ .nil
  | _, _, .cons (a := p) (b := q) h t => by
    obtain ⟨h1, h2⟩ := h
    obtain ⟨a, v0⟩ := p
    obtain ⟨b, x0⟩ := q
    have h1 : a = b := h1
    subst h1
    show FR K G L (if a = f then (a, v) :: _ else (a, v0) :: putF f v _) (if a = f then (a, x) :: _ else (a, x0) :: fput f x _)
    split
    · exact .cons ⟨rfl, hv⟩ t
    · exact .cons ⟨rfl, h2⟩ (fr_put hv t)
theorem fr_len {G : Hp} {L : List Addr} : ∀ {fv : List (Str × V)} {fs : List (Str × Val)}, FR K G L fv fs → fv.length = fs.length
  | _, _, .nil => rfl
  | _, _, .cons _ t => by simp [fr_len t]
theorem ins_at {G : Hp} {L : List Addr} {M : Sto} {c : Str} {v : V} {x : Val} {k : Nat} {fs : List (Str × Val)} (s : ST K ca TI G H L M) (h : VR K G L v x) (e : insOf c x M = some (k, fs)) : ∃ a dx fv, x = .loc k ∧ v = .ref a ∧ L[k]? = some a ∧ M[k]? = some (.ins c fs) ∧ H a = some (.ins (ca c) dx fv) ∧ FR K G L fv fs := by
  obtain ⟨rfl, hm⟩ := insOf_eq e
  obtain ⟨a, ha, rfl⟩ := h
  obtain ⟨dx, fv, h1, h2⟩ := s.at_ k a _ ha hm
  exact ⟨a, dx, fv, rfl, rfl, ha, hm, h1, h2⟩
end
section
variable {X : Cx} {ca : Str → Addr} {TI : Hp → Prop} {e o : Expr} {c f m : Str} {pos : Pos} {fo fe : Den} {fa : DenA}
theorem pe_dfld (hc : Cls X.K (ca c)) (hn : NoAttr X.K (ca c) f) (he : PE X e (tE X.K ca TI fo)) (hb : attributeBase e f X.env (eval e X.env) = eval e X.env) : PE X (.Attribute e f pos) (tE X.K ca TI (dFld c f fo)) :=
  pe_imp (pe_fld (pe_v he) hb) fun σ H Q q => by
    obtain ⟨G, L, ρ, M, r, M', s, er, hf, q⟩ := q
    obtain ⟨⟨x, M1⟩, e1, hf⟩ := bo hf
    obtain ⟨⟨k, fs⟩, e2, hf⟩ := bo hf
    obtain ⟨y, e3, hf⟩ := bo hf
    cases hf
    refine ⟨G, L, ρ, M, x, _, s, er, e1, fun G1 H1 L1 v st1 s1 v1 => ?_⟩
    obtain ⟨a, dx, fv, rfl, rfl, h1, h2, h3, h4⟩ := ins_at s1 v1 e2
    obtain ⟨w, k1, k2⟩ := (fr_get h4).1 y e3
    exact ⟨a, ca c, dx, fv, w, rfl, h3, hc, hn, k1, q G1 H1 L1 w st1 s1 k2⟩
theorem ps_sfld (T : TOk TI) (hc : Cls X.K (ca c)) (hn : NoAttr X.K (ca c) f) (ho : PE X o (tE X.K ca TI fo)) (he : PE X e (tE X.K ca TI fe)) {p2 : Pos} (hs : swapsWith e (some (.Attribute o f p2)) pos.line X.env = pure false) : PS X (.Assign [.Attribute o f p2] e pos) (tS X.K ca TI (sFldS c f fo fe)) :=
  ps_imp (ps_fld (pe_v ho) (pe_imp he fun _ _ _ q => valm_of (m := true) q) hs) fun D σ H q => by
    obtain ⟨G, L, ρ, M, fl, s, er, hf, q⟩ := q
    obtain ⟨⟨x, M1⟩, e1, hf⟩ := bo hf
    obtain ⟨⟨y, M2⟩, e2, hf⟩ := bo hf
    obtain ⟨⟨k, fs⟩, e3, hf⟩ := bo hf
    split at hf
    · rename_i hz
      cases hf
      refine ⟨G, L, ρ, M, x, M1, s, er, e1, fun G1 H1 L1 v st1 s1 v1 => ?_⟩
      refine ⟨G1, L1, ρ, M1, y, M2, s1, er.mono st1.g st1.l, e2, fun G2 H2 L2 w st2 s2 v2 => ?_⟩
      have st12 := st1.trans st2
      obtain ⟨a, dx, fv, rfl, rfl, h1, h2, h3, h4⟩ := ins_at s2 v2 e3
      obtain ⟨s', st'⟩ := s2.write T h1 h2 (fun e => nomatch e) h3 rfl (o := .ins (ca c) dx (putF f v fv)) (c' := .ins c (fput f x fs)) ⟨dx, _, upd_same, fr_put (v1.mono st2.g st2.l) h4⟩
      have st3 := st12.trans st'
      exact ⟨a, ca c, dx, fv, rfl, h3, hc, hn, by rw [fr_len h4]; exact Nat.lt_of_lt_of_le hz (by decide), q G2 _ L2 σ st3 s' (er.mono st3.g st3.l)⟩
    · cases hf
theorem tMethG_of {K : PySem.W.Frag} {σ : L2.St} {H : Hp} {Q : VK} {n : Nat} {cp : Fun} {E : XK} (q : tE K ca TI (dMethI c m n cp fo fa) σ H Q) : tMethG (ca c) m (spG K ca TI n cp) E (tV K ca TI (val fo)) (tArgs K ca TI fa) σ H Q := by
  obtain ⟨G, L, ρ, M, r, M', s, er, hf, q⟩ := q
  obtain ⟨⟨x, M1⟩, e1, hf⟩ := bo hf
  obtain ⟨⟨k, fs⟩, e2, hf⟩ := bo hf
  split at hf
  · rename_i hn
    obtain ⟨⟨xs, M2⟩, e3, hf⟩ := bo hf
    split at hf
    · rename_i hl
      refine ⟨G, L, ρ, M, x, M1, s, er, e1, fun G1 H1 L1 v st1 s1 v1 => ?_⟩
      obtain ⟨a, dx, fv, rfl, rfl, h1, h2, h3, h4⟩ := ins_at s1 v1 e2
      refine ⟨a, dx, fv, rfl, h3, (fr_get h4).2 (Option.isNone_iff_eq_none.mp hn), ?_⟩
      refine ⟨G1, L1, ρ, M1, xs, M2, s1, er.mono st1.g st1.l, e3, fun G2 H2 L2 vs st2 s2 v2 => ⟨by rw [List.length_cons, vrs_len v2]; exact hl, ?_⟩⟩
      have st12 := st1.trans st2
      exact ⟨G2, L2, M2, _, r, M', s2, .cons (v1.mono st2.g st2.l) v2, hf, fun G3 H3 L3 v st3 s3 rr => q G3 H3 L3 v (st12.trans st3) s3 (rr.back st12)⟩
    · cases hf
  · cases hf
theorem tMakeG_of {K : PySem.W.Frag} (T : TOk TI) {σ : L2.St} {H : Hp} {Q : VK} {n : Nat} {cp : Fun} {E : XK} (q : tE K ca TI (dMake c n cp fa) σ H Q) : tMakeG (ca c) (spG K ca TI n cp) E (tArgs K ca TI fa) σ H Q := by
  obtain ⟨G, L, ρ, M, r, M', s, er, hf, q⟩ := q
  obtain ⟨⟨xs, M1⟩, e1, hf⟩ := bo hf
  split at hf
  · rename_i hl
    obtain ⟨⟨r2, M2⟩, e2, hf⟩ := bo hf
    split at hf
    · rename_i hn
      cases hf
      refine ⟨G, L, ρ, M, xs, M1, s, er, e1, fun G1 H1 L1 vs st1 s1 v1 x dx hx hd hne => ⟨by rw [List.length_cons, vrs_len v1]; exact hl, ?_⟩⟩
      have gx : G1 x = none := Evl.fresh_back s1.ex hx
      have lx : x ∉ L1 := fun z => s1.here x z hx
      have gd : G1 dx = none := Evl.fresh_back s1.ex hd
      have ld : dx ∉ L1 := fun z => s1.here dx z hd
      have s2 : ST K ca TI G1 (upd H1 dx (.own x)) L1 M1 := s1.loose T gd ld fun u e => by rw [hd] at e; cases e
      have hx2 : upd H1 dx (.own x) x = none := by rw [upd_ne (Ne.symm hne)]; exact hx
      have s3 : ST K ca TI G1 (upd (upd H1 dx (.own x)) x (.ins (ca c) dx [])) L1 M1 := s2.loose T gx lx fun u e => by rw [hx2] at e; cases e
      have s4 := s3.push (p := x) (c := .ins c []) (by rw [upd_same]; simp) gx lx ⟨dx, [], upd_same, .nil⟩ (fun o e => by rw [upd_same] at e; cases e; rfl)
      have st2 : Step G1 H1 L1 G1 (upd (upd H1 dx (.own x)) x (.ins (ca c) dx [])) L1 := (Step.refl.loose hd gd ld).loose hx gx lx
      have st3 : Step G1 H1 L1 G1 (upd (upd H1 dx (.own x)) x (.ins (ca c) dx [])) (L1 ++ [x]) := ⟨st2.g, List.prefix_append _ _, st2.h, fun p hp => by
        rcases List.mem_append.mp hp with hp | hp
        · exact .inl hp
        · rw [List.mem_singleton] at hp
          subst hp
          exact .inr hx, st2.gn, st2.s⟩
      have vx : VR K G1 (L1 ++ [x]) (.ref x) (.loc M1.length) := ⟨x, by rw [← s1.len]; exact last_get _ _, rfl⟩
      refine ⟨G1, L1 ++ [x], _, _, r2, M2, s4, .cons vx (vrs_mono st3.g st3.l v1), e2, fun G2 H2 L2 v st4 s5 rr => ?_⟩
      have hv : v = .non := by
        unfold noneR at hn
        split at hn
        · rename_i hr
          have hr' : r2 = .v (.d .none) := hr
          subst hr'
          cases (show DQ G2 v .none from rr)
          rfl
        · cases hn
      have st5 := st3.trans st4
      exact ⟨hv, q G2 H2 L2 (.ref x) (st1.trans st5) s5 (vx.mono st4.g st4.l)⟩
    · cases hf
  · cases hf
end
/-! ### the end of a def -/
def locIn (n : Nat) : Val → Bool
  | .loc k => decide (k < n)
  | _ => true
def celIn (n : Nat) : Cell → Bool
  | .ins _ fs => fs.all fun p => locIn n p.2
  | _ => true
def clean (n : Nat) (M : Sto) : Bool := (M.take n).all (celIn n)
def endRes (n : Nat) (r : Res) (M : Sto) : Option Res := match r with
  | .v (.loc k) => if k < n then some (.v (.loc k)) else (match M[k]? with
    | some (.lst xs) => some (.nl xs)
    | some (.dct kvs) => some (.nd kvs)
    | _ => none)
  | r => some r
def endFn (n : Nat) (r : Res) (M : Sto) : Option (Res × Sto) := if clean n M then (endRes n r M).bind fun r' => some (r', M.take n) else some (r, M)
theorem vr_cut {K : PySem.W.Frag} {G : Hp} {L L' : List Addr} {v : V} {x : Val} (hp : L <+: L') (h : VR K G L' v x) (hl : locIn L.length x = true) : VR K G L v x := by
  cases x with
  | d d => exact h
  | loc k =>
    obtain ⟨a, h1, h2⟩ := h
    have hk : k < L.length := of_decide_eq_true hl
    obtain ⟨t, rfl⟩ := hp
    rw [List.getElem?_append_left hk] at h1
    exact ⟨a, h1, h2⟩
  | scr xs => exact h
  | dic kvs => exact h
  | fn f => exact h
theorem fr_cut {K : PySem.W.Frag} {G : Hp} {L L' : List Addr} (hp : L <+: L') : ∀ {fv : List (Str × V)} {fs : List (Str × Val)}, FR K G L' fv fs → (fs.all fun p => locIn L.length p.2) = true → FR K G L fv fs
  | _, _, .nil, _ => .nil
  | _, _, .cons h t, e => by
    rw [List.all_cons, Bool.and_eq_true] at e
    exact .cons ⟨h.1, vr_cut hp h.2 e.1⟩ (fr_cut hp t e.2)
theorem end_ok {K : PySem.W.Frag} {ca : Str → Addr} {TI : Hp → Prop} {G H G' H' : Hp} {L L' : List Addr} {M M' M2 : Sto} {v : V} {r r2 : Res} (s0 : ST K ca TI G H L M) (st : Step G H L G' H' L') (s : ST K ca TI G' H' L' M') (rr : RR K H G' H' L' v r) (he : endFn M.length r M' = some (r2, M2)) :
    ∃ L2, Step G H L G' H' L2 ∧ ST K ca TI G' H' L2 M2 ∧ RR K H G' H' L2 v r2 := by
  unfold endFn at he
  split at he
  · rename_i hc
    obtain ⟨r', e1, he⟩ := bo he
    cases he
    have hsub : ∀ p ∈ L, p ∈ L' := fun p hp => by
      obtain ⟨t, rfl⟩ := st.l
      exact List.mem_append_left _ hp
    have hget : ∀ (i : Nat) c, (M'.take M.length)[i]? = some c → i < M.length ∧ M'[i]? = some c := fun i c e => by
      have hi : i < M.length := by
        have := (List.getElem?_eq_some_iff.mp e).1
        rw [List.length_take] at this
        omega
      rw [List.getElem?_take_of_lt hi] at e
      exact ⟨hi, e⟩
    have hlen : M.length ≤ M'.length := by
      have h1 := s.len
      have h2 := s0.len
      obtain ⟨t, ht⟩ := st.l
      rw [← h1, ← h2, ← ht, List.length_append]
      omega
    have hnew : ∀ (k : Nat) p, ¬ k < M.length → L'[k]? = some p → p ∉ L := fun k p hk e hm => by
      obtain ⟨j, hj, e2⟩ := List.getElem_of_mem hm
      have e3 : L[j]? = some p := by rw [List.getElem?_eq_getElem hj, e2]
      have := nodup_at s.nd (pre_get st.l e3) e
      subst this
      rw [s0.len] at hj
      exact hk hj
    refine ⟨L, ⟨st.g, List.prefix_refl L, st.h, fun p hp => .inl hp, st.gn, st.s⟩, ⟨s.ex, fun i p c e1 e2 e3 => ?_, s0.nd, by rw [List.length_take, s0.len]; omega, fun p hp => s.here p (hsub p hp), fun i p c e1 e2 => ?_, s.ti, fun a o e f => ⟨fun z => (s.kt a o e f).1 (hsub a z), (s.kt a o e f).2⟩⟩, ?_⟩
    · obtain ⟨_, e2⟩ := hget i c e2
      exact s.fr i p c (pre_get st.l e1) e2 e3
    · obtain ⟨hi, e2'⟩ := hget i c e2
      have hat := s.at_ i p c (pre_get st.l e1) e2'
      cases c with
      | lst xs => exact hat
      | dct kvs => exact hat
      | ins cn fs =>
        obtain ⟨dx, fv, h1, h2⟩ := hat
        unfold clean at hc
        rw [List.all_eq_true] at hc
        have hcl := hc _ (List.mem_of_getElem? e2)
        rw [← s0.len] at hcl
        exact ⟨dx, fv, h1, fr_cut st.l h2 hcl⟩
      | dead => trivial
    · cases r with
      | v x =>
        cases x with
        | loc k =>
          replace e1 : (if k < M.length then some (Res.v (.loc k)) else (match M'[k]? with
            | some (.lst xs) => some (.nl xs)
            | some (.dct kvs) => some (.nd kvs)
            | _ => none)) = some r2 := e1
          split at e1
          · rename_i hk
            cases e1
            exact vr_cut (x := .loc k) st.l (show VR K G' L' v (.loc k) from rr) (by rw [s0.len]; exact decide_eq_true hk)
          · rename_i hk
            obtain ⟨p, h1, rfl⟩ := rr
            have hpn := hnew k p hk h1
            have hH : H p = none := (st.n p (List.mem_of_getElem? h1)).elim (fun z => absurd z hpn) id
            split at e1
            · rename_i xs hm
              cases e1
              obtain ⟨vs, k1, k2⟩ := s.at_ k p _ h1 hm
              exact ⟨p, vs, rfl, k1, s.fr k p _ h1 hm (fun e => nomatch e), hpn, hH, k2⟩
            · rename_i kvs hm
              cases e1
              exact ⟨p, rfl, s.at_ k p _ h1 hm, s.fr k p _ h1 hm (fun e => nomatch e), hpn, hH⟩
            · cases e1
        | d x => cases e1; exact rr
        | scr x => cases e1; exact rr
        | dic x => cases e1; exact rr
        | fn x => cases e1; exact rr
      | nl xs =>
        cases e1
        obtain ⟨p, vs, h1, h2, h3, h4, h5, h6⟩ := rr
        exact ⟨p, vs, h1, h2, h3, fun z => h4 (hsub p z), h5, h6⟩
      | nd kvs =>
        cases e1
        obtain ⟨p, h1, h2, h3, h4, h5⟩ := rr
        exact ⟨p, h1, h2, h3, fun z => h4 (hsub p z), h5⟩
  · cases he
    exact ⟨L', st, s, rr⟩
def env0 (nv : Nat) (xs : List Val) : Env := xs.map some ++ List.replicate (nv - xs.length) none
/-- a def as a function -/
def runFn (nv : Nat) (b : DenS) : Fun := fun xs M => (b (env0 nv xs) M).bind fun fl => match fl with
  | .nx _ M' => endFn M.length (.v (.d .none)) M'
  | .ret r M' => endFn M.length r M'
  | .brk _ _ => none
theorem er_start {K : PySem.W.Frag} {G : Hp} {L : List Addr} {N : List Str} {vs : List V} {xs : List Val} (h : VRs K G L vs xs) : ER K G L (L2.start N vs) (env0 N.length xs) := by
  have hl := vrs_len h
  refine ⟨by unfold L2.start env0; simp [hl], fun i x e => ?_⟩
  unfold env0 at e
  by_cases hi : i < xs.length
  · rw [List.getElem?_append_left (by simpa using hi), List.getElem?_map] at e
    have hx : xs[i]? = some x := by
      cases hh : xs[i]? with
      | none => rw [hh] at e; cases e
      | some y => rw [hh] at e; cases e; rfl
    have go : ∀ {vs : List V} {xs : List Val} {i : Nat}, VRs K G L vs xs → xs[i]? = some x → ∃ v, vs[i]? = some v ∧ VR K G L v x := by
      intro vs xs i h
      induction h generalizing i with
      | nil => intro e; simp at e
      | cons h t ih =>
        intro e
        cases i with
        | zero => simp at e; subst e; exact ⟨_, rfl, h⟩
        | succ i => simpa using ih (by simpa using e)
    obtain ⟨v, h1, h2⟩ := go h hx
    refine ⟨v, ?_, h2⟩
    unfold L2.start
    rw [List.getElem?_append_left (by simpa [hl] using hi), List.getElem?_map, h1]
    rfl
  · rw [List.getElem?_append_right (by simpa using hi), List.getElem?_replicate] at e
    split at e <;> cases e
theorem body_ok {K : PySem.W.Frag} {ca : Str → Addr} {TI : Hp → Prop} {N : List Str} {b : DenS} {n : Nat} {vs : List V} {H : Hp} {Q : VK} {E : XK} (h : spG K ca TI n (runFn N.length b) vs H Q E) : tS K ca TI b { nx := fun _ H' => Q .non H', rt := Q } (L2.start N vs) H := by
  obtain ⟨_, G, L, M, xs, r, M', s, hv, hf, q⟩ := h
  obtain ⟨fl, e1, hf⟩ := bo hf
  refine ⟨G, L, _, M, fl, s, er_start hv, e1, ?_⟩
  cases fl with
  | nx ρ1 M1 =>
    intro G1 H1 L1 σ1 st1 s1 _
    obtain ⟨L2, a, b, c⟩ := end_ok (v := .non) s st1 s1 (r := .v (.d .none)) .non hf
    exact q G1 H1 L2 .non a b c
  | brk ρ1 M1 => cases hf
  | ret r1 M1 =>
    intro G1 H1 L1 v st1 s1 rr
    obtain ⟨L2, a, b, c⟩ := end_ok s st1 s1 rr hf
    exact q G1 H1 L2 v a b c
end PV

set_option maxRecDepth 100000
set_option maxHeartbeats 1000000
/-! the evaluator: an expression's function, a statement's -/
namespace PV
open PySem PySem.Spec PyProof.Rows L2
/-- the code object of the module's def x -/
def cdOf (K : PySem.W.Frag) (x : Str) : Addr := match K.lookup (He.ga K x) with
  | some ⟨_, _, .func fd, _⟩ => (match fd.code with
    | .ref c => c
    | _ => 0)
  | _ => 0
/-- what is known of a block's names -/
structure SC where
  N : List Str
  sc : Scope
  fn : Str → Bool
  mt : List Str
  lk : List Str
  /-- how many calls deeper a special form may go -/
  sl : Nat
  /-- the def's name and code object, where that is wanted -/
  ql : Option Str
structure Tab where
  con : List (Str × PyData)
  fns : List (Str × Nat × Nat)
  cls : List (Str × Nat × Nat)
  mth : List (Str × Str × Nat × Nat)
  fld : List (Str × Str)
  spc : (Nat → Fun) → SC → Expr → Option Den
def ixIn (x : Str) : List Str → Option Nat
  | [] => none
  | y :: r => if y = x then some 0 else (ixIn x r).map (· + 1)
theorem ixIn_at {x : Str} : ∀ {N : List Str} {i : Nat}, ixIn x N = some i → N[i]? = some x
  | [], i, h => by cases h
  | y :: r, i, h => by
    unfold ixIn at h
    split at h
    · rename_i e
      cases h
      subst e
      rfl
    · simp only [Option.map_eq_some_iff] at h
      obtain ⟨j, h1, rfl⟩ := h
      simpa using ixIn_at h1
def isVis (k : Option NameKind) : Bool := match k with
  | some .local => true
  | some .cell => true
  | some .free => true
  | _ => false
def isGlb (k : Option NameKind) : Bool := match k with
  | some .globalImplicit => true
  | _ => false
def isLocK (k : Option NameKind) : Bool := match k with
  | some .local => true
  | _ => false
def plainNm (x : Str) : Bool := !(x == ("__debug__" : Str)) && !(x == ("__classdict__" : Str))
def varIx (C : SC) (x : Str) : Option Nat := if isVis (C.sc.names.lookup x) && plainNm x then ixIn x C.N else none
/-- where a name is stored -/
def stoIx (C : SC) (x : Str) : Option Nat := match C.sc.names.lookup x with
  | some .local => ixIn x C.N
  | some .cell => if C.fn x then ixIn x C.N else none
  | _ => none
def denTg (C : SC) : Expr → Option Tg
  | .Name x _ => (stoIx C x).map .nm
  | .Tuple es _ _ => (go es).map .tp
  | _ => none
where go : List Expr → Option (List Nat)
  | [] => some []
  | .Name x _ :: r => (stoIx C x).bind fun i => (go r).map (i :: ·)
  | _ :: _ => none
def denA (f : Expr → Den) : List Expr → DenA
  | [] => dA0
  | e :: es => dA1 (f e) (denA f es)
def denB (op : Operator) (f g : Den) : Den := match op with
  | .Add => dBin false fAdd f g
  | .Sub => dBin false fSub f g
  | .Mult => dBin false fMul f g
  | .FloorDiv => dBin false fFdiv f g
  | .Mod => dBin false fMod f g
  | .Pow => dBin false fPow f g
  | _ => dNo
def cmpF (op : CmpOp) : Option (Bool × (PyData → PyData → Option Res)) := match op with
  | .Eq => some (true, fEq)
  | .NotEq => some (true, fNe)
  | .Lt => some (false, fLt)
  | .LtE => some (false, fLe)
  | .Gt => some (false, fGt)
  | .GtE => some (false, fGe)
  | .Is => some (false, fIs false)
  | .IsNot => some (false, fIs true)
  | _ => none
def isSet : Expr → Bool
  | .Set _ _ _ => true
  | _ => false
def isSlice : Expr → Bool
  | .Slice _ _ _ _ => true
  | _ => false
def isComp : Expr → Bool
  | .ListComp _ _ _ _ => true
  | .SetComp _ _ _ _ => true
  | .DictComp _ _ _ _ _ => true
  | _ => false
def isTupE : Expr → Bool
  | .Tuple _ _ _ => true
  | _ => false
def denC (op : CmpOp) (b : Expr) (f g : Den) : Den := if isSet b then dNo else match op with
  | .In => dInD false (fIn false) f g
  | .NotIn => dInD true (fIn true) f g
  | op => match cmpF op with
    | some (l, F) => dBin l F f g
    | none => dNo
def plainBase : Expr → Bool
  | .Name _ _ => true
  | .Attribute _ _ _ => true
  | .Subscript _ _ _ => true
  | _ => false
def dTupRg (f : Den) : Den := fun ρ M => (val f ρ M).bind fun p => (rd p.1 p.2).bind fun d => (asI d).bind fun j => if small j then some (.v (.d (.tuple ((List.range j.toNat).map fun i : Nat => PyData.int i))), p.2) else none
def tstN : Nat → Expr → Bool
  | 0, _ => false
  | n + 1, e => match e with
    | .Name _ _ => true
    | .Call _ _ _ _ => true
    | .Constant _ _ _ => true
    | .Compare _ [_] [_] _ => true
    | .UnaryOp .Not e _ => tstN n e
    | .BoolOp _ es _ => es.all (tstN n)
    | _ => false
def tst (e : Expr) : Bool := tstN 12 e
def dRg1 (fa : DenA) : DenI := fun ρ M => (fa ρ M).bind fun p => match p.1 with
  | [.d (.int j)] => if small j then some (rgUp 0 j.toNat, p.2) else none
  | _ => none
def dRg2 (fa : DenA) : DenI := fun ρ M => (fa ρ M).bind fun p => match p.1 with
  | [.d (.int i), .d (.int j)] => if small i && small j then some (rgUp i (j - i).toNat, p.2) else none
  | _ => none
def dRg3 (fa : DenA) : DenI := fun ρ M => (fa ρ M).bind fun p => match p.1 with
  | [.d (.int i), .d (.int j), .d (.int c)] => if small i && small j && decide (c = -1) then some (rgDn i (i - j).toNat, p.2) else none
  | _ => none
def iNo : DenI := fun _ _ => none
def denI (C : SC) (f : Expr → Den) (tg : Expr) (e : Expr) : DenI := match e with
  | .Call (.Name x _) es [] _ =>
    if isGlb (C.sc.names.lookup x) && x = "range" then (match es with
      | [a] => if ns a then dRg1 (denA f [a]) else iNo
      | [a, b] => if ns a && ns b then dRg2 (denA f [a, b]) else iNo
      | [a, b, c] => if ns a && nsAll [b, c] then dRg3 (denA f [a, b, c]) else iNo
      | _ => iNo)
    else if isGlb (C.sc.names.lookup x) && x = "enumerate" then (match es with
      | [a] => if ns a && isTupE tg then dEnum (denA f [a]) else iNo
      | _ => iNo)
    else dIter (f e)
  | .Set _ _ _ => iNo
  | e => dIter (f e)
def ownOf (C : SC) (scope : Scope) : List (Str × Nat) := scope.names.filterMap fun y => match y.2 with
  | .local => (ixIn y.1 C.N).map fun i => (y.1, i)
  | .cell => (ixIn y.1 C.N).map fun i => (y.1, i)
  | _ => none
def subC (C : SC) (scope : Scope) : SC := { C with sc := relS scope C.sc, fn := fun x => scope.names.lookup x == some .cell, ql := none }
def denIfs (f : Expr → Den) : List Expr → Den
  | [] => dC (.bool true)
  | [c] => if tst c then f c else dNo
  | _ => dNo
/-- a comprehension's parts: the block's names, its slots, the target -/
def compOk (C : SC) (scope : Scope) (tg : Expr) : Option (Tg × List Nat) := if blkC C.N C.sc scope (ownOf C scope) then (denTg (subC C scope) tg).bind fun g => if g.slots.all fun i => ((ownOf C scope).map (·.2)).contains i then some (g, (ownOf C scope).map (·.2)) else none else none
def denL (C : SC) (f : SC → Expr → Den) (elt tg iter : Expr) (ifs : List Expr) (scope : Scope) : Den := if isSet iter then dNo else match compOk C scope tg with
  | some (g, vs) => dLc (denI C (f C) tg iter) g (denIfs (f (subC C scope)) ifs) (f (subC C scope) elt) vs
  | none => dNo
def denSet (C : SC) (f : SC → Expr → Den) (elt tg iter : Expr) (ifs : List Expr) (scope : Scope) : Den := if isSet iter then dNo else match compOk C scope tg with
  | some (g, vs) => dSortSet (denI C (f C) tg iter) g (denIfs (f (subC C scope)) ifs) (f (subC C scope) elt) vs
  | none => dNo
def isTyN (x : Str) : Bool := x = "int" || x = "bool" || x = "tuple"
/-- a built-in of one argument -/
def denG1 (C : SC) (f : SC → Expr → Den) (x : Str) (e : Expr) : Den :=
  if x = "len" then dCB true fLen (denA (f C) [e])
  else if x = "tuple" then dCB false fTuple (denA (f C) [e])
  else if x = "list" then dListOf (f C e)
  else if x = "sorted" then dCB false fSorted (denA (f C) [e])
  else if x = "all" then dCB false fAll (denA (f C) [e])
  else if x = "max" then dCB false fMax (denA (f C) [e])
  else if x = "min" then dCB false fMin (denA (f C) [e])
  else if x = "sum" then dCB false fSum (denA (f C) [e])
  else if x = "int" then dCB false fInt (denA (f C) [e])
  else if x = "repr" then dCB false fRepr (denA (f C) [e])
  else if x = "dict" then dCB false fDictOf (denA (f C) [e])
  else dNo
def denG2 (C : SC) (f : SC → Expr → Den) (x : Str) (a b : Expr) : Den :=
  if x = "max" then dCB false fMax (denA (f C) [a, b]) else if x = "min" then dCB false fMin (denA (f C) [a, b]) else dNo
def tyStr (y : Str) : String := if y = "int" then "int" else if y = "bool" then "bool" else "tuple"
/-- a call of a built-in -/
def denBl (C : SC) (f : SC → Expr → Den) (x : Str) (es : List Expr) : Den := match es with
  | [.SetComp elt [⟨tg, iter, ifs, 0⟩] scope _] => if x = "sorted" then denSet C f elt tg iter ifs scope else dNo
  | [.Call (.Name r p) [a] [] q] => if x = "tuple" && r = "range" && isGlb (C.sc.names.lookup r) && ns a then dTupRg (f C a) else denG1 C f x (.Call (.Name r p) [a] [] q)
  | [e] => denG1 C f x e
  | [e, .Name y py] => if x = "isinstance" && isTyN y && isGlb (C.sc.names.lookup y) then dIsi (tyStr y) (f C e) else denG2 C f x e (.Name y py)
  | [a, b] => denG2 C f x a b
  | _ => dNo
/-- a call of a global name -/
def denG (D : Tab) (cp cpm : Nat → Fun) (C : SC) (f : SC → Expr → Den) (x : Str) (es : List Expr) : Den :=
  if isGlb (C.sc.names.lookup x) && nsAll es then (match D.fns.lookup x with
    | some (i, n) => (match es with
      | [] => dNo
      | e :: r => dCall n (cp i) (denA (f C) (e :: r)))
    | none => match D.cls.lookup x with
      | some (i, n) => dMake x n (cpm i) (denA (f C) es)
      | none => denBl C f x es) else dNo
def dIndex (fo : Den) (fa : DenA) : Den := fun ρ M => (val fo ρ M).bind fun p => if isTupV p.1 p.2 then (fa ρ p.2).bind fun q => mIndexT p.1 q.1 q.2 else if isListV p.1 p.2 then (fa ρ p.2).bind fun q => mIndexL p.1 q.1 q.2 else none
/-- o.m(e) -/
def denM (D : Tab) (cp : Nat → Fun) (f : Expr → Den) (o : Expr) (m : Str) (e : Expr) : Den := match D.mth.lookup m with
  | some (c, i, n) => dMethI c m n (cp i) (f o) (denA f [e])
  | none => if m = "append" then dMeth isLoc mAppend (f o) (denA f [e])
    else if m = "extend" then dMeth isLoc mExtend (f o) (denA f [e])
    else if m = "pop" then dMeth isLoc mPop (f o) (denA f [e])
    else if m = "index" then dIndex (f o) (denA f [e])
    else dNo
def denX (f : Expr → Den) (a s : Expr) : Den := match s with
  | .Slice none none (some (.UnaryOp .USub (.Constant (.int 1) _ _) _)) _ => dRev (f a)
  | .Slice lo hi none _ => dSlice (f a) (lo.map f) (hi.map f)
  | .Slice _ _ _ _ => dNo
  | s => dIdx (f a) (f s)
def denE (D : Tab) (cp cpm : Nat → Fun) : Nat → SC → Expr → Den
  | 0, _, _ => dNo
  | n + 1, C, e => match e with
    | .Constant (.int i) _ _ => dC (.int i)
    | .Constant (.bool b) _ _ => dC (.bool b)
    | .Constant .none _ _ => dC .none
    | .Constant (.str x) _ _ => dC (.str x)
    | .Name x _ => (match varIx C x with
      | some i => dVar i
      | none => if isGlb (C.sc.names.lookup x) && plainNm x then (match D.con.lookup x with
        | some d => dC d
        | none => dNo) else dNo)
    | .Tuple es _ _ => if nsAll es then dTup (denA (denE D cp cpm n C) es) else dNo
    | .List es _ => if nsAll es then dLst (denA (denE D cp cpm n C) es) else dNo
    | .Dict [some a] [b] _ => dDict1 (denE D cp cpm n C a) (denE D cp cpm n C b)
    | .BinOp a op b _ => denB op (denE D cp cpm n C a) (denE D cp cpm n C b)
    | .UnaryOp .USub a _ => dUn fNeg (denE D cp cpm n C a)
    | .UnaryOp .Not a _ => dNot (denE D cp cpm n C a)
    | .BoolOp _ [a] _ => denE D cp cpm n C a
    | .BoolOp .And (a :: b :: r) p => dAnd (denE D cp cpm n C a) (denE D cp cpm n C (.BoolOp .And (b :: r) p))
    | .BoolOp .Or (a :: b :: r) p => dOr (denE D cp cpm n C a) (denE D cp cpm n C (.BoolOp .Or (b :: r) p))
    | .Compare a [op] [b] _ => denC op b (denE D cp cpm n C a) (denE D cp cpm n C b)
    | .Compare a [o1, o2] [b, c] _ => (match cmpF o1, cmpF o2 with
      | some (false, F1), some (false, F2) => dChain F1 F2 (denE D cp cpm n C a) (denE D cp cpm n C b) (denE D cp cpm n C c)
      | _, _ => dNo)
    | .IfExp c a b _ => if tst c then dIf (denE D cp cpm n C c) (denE D cp cpm n C a) (denE D cp cpm n C b) else dNo
    | .Subscript a s _ => denX (denE D cp cpm n C) a s
    | .Attribute o a _ => if plainBase o then (match D.fld.lookup a with
      | some c => dFld c a (denE D cp cpm n C o)
      | none => dNo) else dNo
    | .Call (.Name x p) es [] q => (match D.spc cp C (.Call (.Name x p) es [] q) with
      | some d => d
      | none => denG D cp cpm C (denE D cp cpm n) x es)
    | .Call (.Attribute o m p) [e] [] q => if plainBase o && ns e && p.endLine == q.line then denM D cp (denE D cp cpm n C) o m e else dNo
    | .ListComp elt [⟨tg, iter, ifs, 0⟩] scope _ => denL C (denE D cp cpm n) elt tg iter ifs scope
    | _ => dNo

/-! statements -/
def sLock (i : Nat) (f : DenS) : DenS := fun ρ M => match ρ[i]? with
  | some (some (.loc k)) => (match M[k]? with
    | some (.dct kvs) => f (ρ.set i (some (.dic kvs))) (M.set k .dead)
    | _ => f ρ M)
  | _ => f ρ M
def isLocalN (C : SC) (x : Str) : Bool := isLocK (C.sc.names.lookup x)
/-- name = [..] -/
def swOk (x : Str) (py pos : Pos) (scope : Scope) : Bool := (py.line == pos.line) && !(scope.names.any fun (n, k) => n == x && (k == .local || k == .cell))
def denAs (C : SC) (f : SC → Expr → Den) (x : Str) (py : Pos) (e : Expr) : DenS := match stoIx C x with
  | none => sNo
  | some i => match e with
    | .ListComp elt [⟨tg, iter, ifs, 0⟩] scope cpos => if isLocalN C x && swOk x py cpos scope && !isSet iter then
        (match iter with
        | .Name y _ => if C.lk.contains y then (match varIx C y with
          | some j => sLock j (sSet i (C.mt.contains x) (denL C f elt tg iter ifs scope))
          | none => sNo) else sSet i (C.mt.contains x) (denL C f elt tg iter ifs scope)
        | _ => sSet i (C.mt.contains x) (denL C f elt tg iter ifs scope)) else sNo
    | e => if isComp e then sNo else sSet i (C.mt.contains x) (f C e)
def denPar (C : SC) (f : Expr → Den) (ts vs : List Expr) : DenS := match ts, vs with
  | [.Name x px, .Name y py], [a, b] => (match ixIn x C.N, ixIn y C.N with
    | some i, some j => if i ≠ j && isLocalN C x && isLocalN C y && ns a && ns b && px.line == py.line && !(foldedForSure 8 a && foldedForSure 8 b) && !(constantsAlone 8 a && constantsAlone 8 b) && x != y then sPar i j (C.mt.contains x) (C.mt.contains y) (f a) (f b)
      else if stoIx C x = some i && stoIx C y = some j && ns a && ns b && !(isLocalN C x && isLocalN C y) then sPar i j (C.mt.contains x) (C.mt.contains y) (f a) (f b) else sNo
    | _, _ => sNo)
  | _, _ => sNo
def denS (D : Tab) (cp cpm : Nat → Fun) : Nat → SC → Stmt → DenS
  | 0, _, _ => sNo
  | n + 1, C, st => match st with
    | .Expr e _ => if isComp e then sNo else sExpr (denE D cp cpm 60 C e)
    | .Return (some e) _ => sRet (denE D cp cpm 60 C e)
    | .If c a b _ => if tst c then sIf (denE D cp cpm 60 C c) (goS (denS D cp cpm n C) a) (goS (denS D cp cpm n C) b) else sNo
    | .Assign [.Name x py] e _ => denAs C (denE D cp cpm 60) x py e
    | .Assign [.Tuple ts _ _] (.Tuple vs _ _) _ => denPar C (denE D cp cpm 60 C) ts vs
    | .Assign [.Tuple ts k p] e _ => if isComp e || isTupE e then sNo else (match denTg C (.Tuple ts k p) with
      | some (.tp is) => sUnp is (denE D cp cpm 60 C e)
      | _ => sNo)
    | .Assign [.Subscript o i _] e _ => if isSlice i || isComp e then sNo else sPut (denE D cp cpm 60 C o) (denE D cp cpm 60 C i) (denE D cp cpm 60 C e)
    | .Assign [.Attribute o a _] e _ => (match D.fld.lookup a with
      | some c => if isComp e then sNo else sFldS c a (denE D cp cpm 60 C o) (denE D cp cpm 60 C e)
      | none => sNo)
    | .While c b [] _ => if tst c then sWhile (denE D cp cpm 60 C c) (goS (denS D cp cpm n C) b) else sNo
    | .For tg it b [] _ => if isSet it then sNo else (match denTg C tg with
      | some g => sFor (denI C (denE D cp cpm 60 C) tg it) g (goS (denS D cp cpm n C) b)
      | none => sNo)
    | .Break _ => sBrk
    | _ => sNo
where goS (f : Stmt → DenS) : List Stmt → DenS
  | [] => sNil
  | st :: r => sSeq (f st) (goS f r)
abbrev denSs (D : Tab) (cp cpm : Nat → Fun) (n : Nat) (C : SC) (b : List Stmt) : DenS := denS.goS (denS D cp cpm n C) b
end PV

set_option maxRecDepth 100000
set_option maxHeartbeats 1000000
/-! small facts of the text; the contexts for which the evaluator speaks -/
namespace PV
open PySem PySem.Spec PyProof.Rows L2
section
variable {env : PySem.Env} {e t o i : Expr}
theorem set_fold (h : isSet e = false) : ∀ x, foldedSetIterable e env x = pure x := by
  intro x
  cases e <;> first | rfl | cases h
theorem set_mark {op : CmpOp} (h : isSet e = false) : behindInMarks op e = false := by
  cases e <;> first | rfl | cases h
theorem sl_plain (h : isSlice e = false) : PlainIx e := by
  intro o i
  cases e <;> first | rfl | cases h
theorem comp_none {l : Nat} (h : isComp e = false) : swapsWith e none l env = pure false := by
  cases e <;> first | rfl | cases h
theorem comp_name {l : Nat} {x : Str} {p : Pos} (h : isComp e = false) : swapsWith e (some (.Name x p)) l env = pure false := by
  cases e <;> first | rfl | cases h
theorem swap_sub {l : Nat} {p : Pos} : swapsWith e (some (.Subscript o i p)) l env = pure false := by
  cases e <;> rfl
theorem swap_attr {l : Nat} {x : Str} {p : Pos} : swapsWith e (some (.Attribute o x p)) l env = pure false := by
  cases e <;> rfl
theorem swap_tup {l : Nat} {es : List Expr} {k : Nat} {p : Pos} : swapsWith e (some (.Tuple es k p)) l env = pure false := by
  cases e <;> rfl
theorem stores_sub {p : Pos} : swappedStores [.Subscript o i p] e env = pure none := by
  cases e <;> rfl
theorem stores_tup {es : List Expr} {k : Nat} {p : Pos} (h : isTupE e = false) : swappedStores [.Tuple es k p] e env = pure none := by
  cases e <;> first | rfl | cases h
theorem asg_sub {p : Pos} (h : isSlice i = false) : ∀ v, assign (.Subscript o i p) env v = (do
      let ov ← holding [v] (eval o env)
      let iv ← holding [v, ov] (eval i env)
      standAt p
      holding [v, ov, iv] (setItem ov iv v)
      release [v, ov, iv] []) := by
  intro v
  cases i <;> first | rfl | cases h
theorem base_plain {m : Str} (h : plainBase o = true) : attributeBase o m env (eval o env) = eval o env := by
  cases o <;> first | rfl | cases h
end
section
variable {X : Cx} {ca : Str → Addr} {TI : Hp → Prop}
theorem pa_all {f : Expr → Den} : ∀ {es : List Expr}, (∀ e ∈ es, PE X e (tE X.K ca TI (f e))) → nsAll es = true → PA X es (tArgs X.K ca TI (denA f es))
  | [], _, _ => pa0
  | e :: es, h, hs => by
    unfold nsAll at hs
    rw [Bool.and_eq_true] at hs
    exact pa1 (h e List.mem_cons_self) (pa_all (fun x hx => h x (List.mem_cons_of_mem _ hx)) hs.2) (star1 hs.1)
theorem asg_names {C : SC} {env : PySem.Env} : ∀ {es : List Expr} {is : List Nat}, denTg.go C es = some is → (assignEach es env).length = is.length ∧ (assignEach es env).findIdx? (·.1) = none
  | [], is, h => by cases h; exact ⟨rfl, rfl⟩
  | e :: r, is, h => by
    cases e with
    | Name x p =>
      obtain ⟨i, h1, h⟩ := bo (show (stoIx C x).bind _ = _ from h)
      simp only [Option.map_eq_some_iff] at h
      obtain ⟨js, h2, rfl⟩ := h
      obtain ⟨k1, k2⟩ := asg_names (env := env) h2
      have e1 : assignEach (.Name x p :: r) env = (false, assign (.Name x p) env) :: assignEach r env := rfl
      rw [e1]
      refine ⟨by simp [k1], ?_⟩
      rw [List.findIdx?_cons, k2]
      rfl
    | _ => cases h
end
/-- no exception leaves -/
def noCX : CXT := fun _ _ _ _ _ _ => False
def bltNames : List Str := ["len", "tuple", "list", "sorted", "all", "max", "min", "sum", "int", "repr", "dict", "range", "enumerate", "isinstance", "bool"]
structure Glob (P : Program) (w : World) (K : PySem.W.Frag) (mg : Str → Option Value) (base : Heap) (D : Tab) (ca : Str → Addr) (TI : Hp → Prop) (k : Nat) (cp cpm : Nat → Fun) : Prop where
  T : TOk TI
  con : ∀ x d, D.con.lookup x = some d → ∃ u v, mg x = some u ∧ RelV v u ∧ ∀ G, DQ G v d
  fns : ∀ x i n, D.fns.lookup x = some (i, n) → (x == ("__debug__" : Str)) = false ∧ ∃ f fd ps, mg x = some (.ref f) ∧ PySem.W.keepIn K (.ref f) = true ∧ Binds K fd ps [] ∧ FnG P w K mg base noCX k f fd ps (spG K ca TI n (cp i))
  cls : ∀ x i n, D.cls.lookup x = some (i, n) → (x == ("__debug__" : Str)) = false ∧ ∃ f fd ps, mg x = some (.ref (ca x)) ∧ Mk K (ca x) f ∧ Binds K fd ps [] ∧ ((∀ a b, cpm i a b = none) ∨ ∃ j, k = j + 1 ∧ FnG P w K mg base noCX j f fd ps (spG K ca TI n (cpm i)))
  mth : ∀ m c i n, D.mth.lookup m = some (c, i, n) → Cls K (ca c) ∧ ∃ f fd ps, Meth K (ca c) m f ∧ Binds K fd ps [] ∧ FnG P w K mg base noCX k f fd ps (spG K ca TI n (cp i))
  fld : ∀ f c, D.fld.lookup f = some c → Cls K (ca c) ∧ NoAttr K (ca c) f
  blt : ∀ x ∈ bltNames, mg x = none
structure Good (X : Cx) (C : SC) (k : Nat) : Prop where
  N : X.N = C.N
  nd : C.N.Nodup
  sc : X.env.scope = C.sc
  kind : C.sc.kind = .function
  fn : X.fn = C.fn
  calm : X.calm = true
  guards : X.A.guards = some []
  units : X.A.units + 200 < cLine
  room : Room k X.A
  deep : X.A.depth + 3 * k + 5 + C.sl < recursionLimit ∧ X.A.units + 16 * k + 200 + 3 * C.sl < cLine
  ql : ∀ q : Str, C.ql = some q → X.env.qual = q ++ ".<locals>." ∧ X.env.code = .ref (cdOf X.K q)
  xe : X.xe = fun _ _ => False
section
variable {X : Cx} {C : SC} {k : Nat} {ca : Str → Addr} {TI : Hp → Prop} {x : Str} {p : Pos}
theorem gl_of (g : Good X C k) (h : isGlb (C.sc.names.lookup x) = true) : Gl X x := by
  show X.env.scope.names.lookup x = _
  rw [g.sc]
  unfold isGlb at h
  split at h
  · assumption
  · cases h
theorem vis_of (g : Good X C k) {i : Nat} (h : varIx C x = some i) : PE X (.Name x p) (tVar i) := by
  unfold varIx at h
  split at h
  · rename_i hv
    rw [Bool.and_eq_true] at hv
    have hn := hv.2
    unfold plainNm at hn
    rw [Bool.and_eq_true, Bool.not_eq_true', Bool.not_eq_true'] at hn
    refine pe_var (by rw [g.N]; exact ixIn_at h) ?_ hn.1 hn.2
    show X.env.scope.names.lookup x = _ ∨ _
    rw [g.sc]
    have h1 := hv.1
    unfold isVis at h1
    split at h1
    · exact .inl (by assumption)
    · exact .inr (.inl (by assumption))
    · exact .inr (.inr (by assumption))
    · cases h1
  · cases h
theorem sto_of (g : Good X C k) {i : Nat} (h : stoIx C x = some i) : C.N[i]? = some x ∧ L2.Loc X.env.scope x ∧ (X.fn x = true ∨ X.env.scope.names.lookup x = some .local) := by
  unfold stoIx at h
  unfold L2.Loc
  rw [g.sc, g.fn]
  split at h
  · exact ⟨ixIn_at h, .inl (by assumption), .inr (by assumption)⟩
  · split at h
    · exact ⟨ixIn_at h, .inr (by assumption), .inl (by assumption)⟩
    · cases h
  · cases h
theorem pg_of (g : Good X C k) {i : Nat} (h : stoIx C x = some i) : PG X (.Name x p) (gName i) := by
  obtain ⟨h1, h2, h3⟩ := sto_of g h
  exact pg_name (by rw [g.N]; exact g.nd) (by rw [g.N]; exact h1) h2 h3
theorem pgs_of (g : Good X C k) : ∀ {es : List Expr} {is : List Nat}, denTg.go C es = some is → PGs X es (gNames is)
  | [], is, h => by cases h; exact pgs_nil
  | e :: r, is, h => by
    cases e with
    | Name x p =>
      obtain ⟨i, h1, h⟩ := bo (show (stoIx C x).bind _ = _ from h)
      simp only [Option.map_eq_some_iff] at h
      obtain ⟨js, h2, rfl⟩ := h
      exact pgs_cons (pg_of g h1) (pgs_of g h2)
    | _ => cases h
theorem tg_of (g : Good X C k) {tg : Expr} {t : Tg} (h : denTg C tg = some t) : PG X tg (tGd X.K t) := by
  cases tg with
  | Name x p =>
    simp only [denTg, Option.map_eq_some_iff] at h
    obtain ⟨i, h1, rfl⟩ := h
    exact pg_nm (pg_of g h1)
  | Tuple es kk p =>
    simp only [denTg, Option.map_eq_some_iff] at h
    obtain ⟨is, h1, rfl⟩ := h
    obtain ⟨k1, k2⟩ := asg_names (env := X.env) h1
    exact pg_tp (pg_tup g.calm (pgs_of g h1) k1 k2)
  | _ => cases h
theorem good_blk (g : Good X C k) {scope : Scope} (hk : scope.kind = .function) (s : Shared) (H : Hp) (A : Addr) (cl : List (Str × Addr)) (fp : List Addr) : Good (X.blk s H scope (compEnvC scope cl A X.env) fp) (subC C scope) k where
  N := g.N
  nd := g.nd
  sc := by
    show relS scope X.env.scope = relS scope C.sc
    rw [g.sc]
  kind := hk
  fn := rfl
  calm := g.calm
  guards := g.guards
  units := g.units
  room := g.room
  deep := g.deep
  ql := fun _ e => nomatch e
  xe := rfl
end
end PV

set_option maxRecDepth 100000
set_option maxHeartbeats 1000000
/-! the evaluator's expressions are sound: the forms one by one -/
namespace PV
open PySem PySem.Spec PyProof.Rows L2
theorem tE_of_tT {K : PySem.W.Frag} {ca : Str → Addr} {TI : Hp → Prop} {f : Den} {σ : L2.St} {H : Hp} {Q : Bool → Hp → Prop} (h : tT K ca TI f σ H Q) : tE K ca TI f σ H (fun v H' => ∃ b, v = .bl b ∧ Q b H') := by
  obtain ⟨G, L, ρ, M, b, M', s, er, hf, q⟩ := h
  exact ⟨G, L, ρ, M, _, M', s, er, hf, fun G1 H1 L1 v st1 s1 v1 => ⟨b, rr_bool v1, q G1 H1 L1 st1 s1⟩⟩
section
variable {X : Cx} {C : SC} {k : Nat} {D : Tab} {ca : Str → Addr} {TI : Hp → Prop} {cp cpm : Nat → Fun} {a b e : Expr} {f g : Den} {pos p : Pos} {es : List Expr}
theorem s_bin (T : TOk TI) (gd : Good X C k) {op : Operator} (ha : PE X a (tE X.K ca TI f)) (hb : PE X b (tE X.K ca TI g)) : PE X (.BinOp a op b pos) (tE X.K ca TI (denB op f g)) := by
  unfold denB
  split
  · exact pe_bin (oAdd T) ha hb
  · exact pe_bin oSub ha hb
  · exact pe_bin (oMul T) ha hb
  · exact pe_bin oFdiv ha hb
  · exact pe_bin oMod ha hb
  · exact pe_bin oPow ha hb
  · exact pe_no
theorem cmp_op (gd : Good X C k) {op : CmpOp} {l : Bool} {F : PyData → PyData → Option Res} (h : cmpF op = some (l, F)) : OpR X (compareOp op) (rB l X.K TI F) ∧ op ≠ .In ∧ op ≠ .NotIn := by
  cases op <;> cases h
  · exact ⟨oEq gd.units, by decide, by decide⟩
  · exact ⟨oNe gd.units, by decide, by decide⟩
  · exact ⟨oLt gd.units, by decide, by decide⟩
  · exact ⟨oLe, by decide, by decide⟩
  · exact ⟨oGt, by decide, by decide⟩
  · exact ⟨oGe, by decide, by decide⟩
  · exact ⟨oIs, by decide, by decide⟩
  · exact ⟨oIsNot, by decide, by decide⟩
theorem pt_din {neg : Bool} {op : CmpOp} {F : PyData → PyData → Option Res} {t : TE} (ho : OpR X (compareOp op) (rB false X.K TI F)) (hm : behindInMarks op b = false) (ha : PE X a (tE X.K ca TI f)) (hb : PE X b (tE X.K ca TI g))
    (hd : PT X (.Compare a [op] [b] pos) (L2.tB t)) (ht : ∀ σ H Q, (tV X.K ca TI (val f) σ H fun y H1 => tV X.K ca TI (val g) σ H1 fun x H2 => ∃ p o, x = .ref p ∧ DGet H2 p y o ∧ Q (.bl (if neg then !o.isSome else o.isSome)) H2) → t σ H Q) :
    PT X (.Compare a [op] [b] pos) (tT X.K ca TI (dInD neg F f g)) := by
  have hr := pt_cmpR (pos := pos) ho (pe_v ha) (pe_v hb) hm
  refine ⟨fun pins s σ H Q I q => ?_⟩
  have q := tE_of_tT q
  obtain ⟨G, L, ρ, M, r, M', s0, er, hf, q⟩ := q
  obtain ⟨⟨x, M1⟩, e1, hf⟩ := bo hf
  obtain ⟨⟨y, M2⟩, e2, hf⟩ := bo hf
  split at hf
  · rename_i kvs hk
    obtain ⟨d, e3, hf⟩ := bo hf
    obtain ⟨i, e4, hf⟩ := bo hf
    cases hf
    rw [asI_eq e4] at e3
    refine hd.run pins s σ H Q I (ht σ H _ ⟨G, L, ρ, M, x, M1, s0, er, e1, fun G1 H1 L1 v st1 s1 v1 => ?_⟩)
    refine ⟨G1, L1, ρ, M1, y, _, s1, er.mono st1.g st1.l, e2, fun G2 H2 L2 u st2 s2 v2 => ?_⟩
    obtain ⟨p, rfl, hp⟩ := dct_rd s2 v2 hk
    have eu := dr_int (dr_of s2 (v1.mono st2.g st2.l) e3)
    subst eu
    refine ⟨p, _, rfl, .inl ⟨enc kvs, Sum.inl i, hp, rfl, rfl⟩, ?_⟩
    rw [look_enc, Option.isSome_map]
    exact q G2 H2 L2 _ (st1.trans st2) s2 (.bl _)
  · rename_i hk
    obtain ⟨a', e3, hf⟩ := bo hf
    obtain ⟨b', e4, hf⟩ := bo hf
    obtain ⟨r', e5, hf⟩ := bo hf
    cases hf
    refine hr.run pins s σ H Q I (tBin_of (l := false) (f := f) (g := g) (F := F) ⟨G, L, ρ, M, r, _, s0, er, ?_, q⟩)
    show (val f ρ M).bind _ = _
    rw [e1]
    show (val g ρ M1).bind _ = _
    rw [e2]
    show (rd x M2).bind _ = _
    rw [e3]
    show (rd y M2).bind _ = _
    rw [e4]
    show (F a' b').bind _ = _
    rw [e5]
    rfl
theorem s_cmp (gd : Good X C k) {op : CmpOp} (ha : PE X a (tE X.K ca TI f)) (hb : PE X b (tE X.K ca TI g)) : PE X (.Compare a [op] [b] pos) (tE X.K ca TI (denC op b f g)) ∧ PT X (.Compare a [op] [b] pos) (tT X.K ca TI (denC op b f g)) := by
  have hno : ∀ {e : Expr}, PT X e (tT X.K ca TI dNo) := fun {e} => ⟨fun pins s σ H Q I q => by
    obtain ⟨G, L, ρ, M, b, M', s, er, hf, q⟩ := q
    cases hf⟩
  unfold denC
  split
  · exact ⟨pe_no, hno⟩
  · rename_i hs
    have hs : isSet b = false := by simpa using hs
    split
    · exact ⟨pe_din1 gd.units ha hb (set_mark hs), pt_din (neg := false) (oIn gd.units) (set_mark hs) ha hb (pt_cmp (pc_din (by have := gd.units; omega) (pe_v ha) (pe_v hb)) (set_mark hs)) fun σ H Q q => q⟩
    · exact ⟨pe_dnotin1 gd.units ha hb (set_mark hs), pt_din (neg := true) (oNotIn gd.units) (set_mark hs) ha hb (pt_cmp (pc_dnotin (by have := gd.units; omega) (pe_v ha) (pe_v hb)) (set_mark hs)) fun σ H Q q => q⟩
    · split
      · rename_i l F h
        obtain ⟨ho, _, _⟩ := cmp_op (TI := TI) gd h
        exact ⟨pe_cmp1 ho ha hb (set_mark hs), pt_imp (pt_cmpR ho (pe_v ha) (pe_v hb) (set_mark hs)) fun σ H Q q => tBin_of (tE_of_tT q)⟩
      · exact ⟨pe_no, hno⟩
theorem s_chain (gd : Good X C k) {o1 o2 : CmpOp} {c : Expr} {h : Den} {F1 F2 : PyData → PyData → Option Res} (h1 : cmpF o1 = some (false, F1)) (h2 : cmpF o2 = some (false, F2)) (ha : PE X a (tE X.K ca TI f)) (hb : PE X b (tE X.K ca TI g)) (hc : PE X c (tE X.K ca TI h)) :
    PE X (.Compare a [o1, o2] [b, c] pos) (tE X.K ca TI (dChain F1 F2 f g h)) := by
  obtain ⟨k1, _, _⟩ := cmp_op (TI := TI) gd h1
  obtain ⟨k2, n1, n2⟩ := cmp_op (TI := TI) gd h2
  exact pe_imp (L2.pe_chain k1 k2 (pe_v ha) (pe_v hb) (pe_v hc) (nomark c n1 n2)) fun σ H Q q => tChain_of q
theorem po_of {f : Expr → Den} {o : Option Expr} (h : ∀ e, PE X e (tE X.K ca TI (f e))) : PO X o (tPt X.K ca TI (o.map f)) := by
  cases o with
  | none => exact po0
  | some e => exact po1 (h e)
theorem s_sub (T : TOk TI) (gd : Good X C k) {f : Expr → Den} {s : Expr} (h : ∀ e, PE X e (tE X.K ca TI (f e))) : PE X (.Subscript a s pos) (tE X.K ca TI (denX f a s)) := by
  unfold denX
  split
  · exact pe_drev T (h a)
  · exact pe_dslice T (h a) (po_of h) (po_of h)
  · exact pe_no
  · rename_i hs
    refine pe_didx gd.units (h a) (h s) (sl_plain ?_)
    cases s <;> first | rfl | exact absurd rfl (hs _ _ _ _)
theorem call_form {o : Expr} {m : Str} {q : Pos} {env : PySem.Env} (hb : plainBase o = true) (hn : ns e = true) (hl : (p.endLine == q.line) = true) : eval (.Call (.Attribute o m p) [e] [] q) env = (do
      let ov ← eval o env
      standAt p.atName
      let (f, first) ← holding [ov] (getMethod ov m (do return (← importBound o env).getD true))
      callWith q f first (backTo q (starEach [e] env)) (backToKw q (keywordEach [] env))) := by
  have hform : methodCallForm ([e].length + ([] : List Keyword).length) (backTo q (starEach [e] env)) (backToKw q (keywordEach [] env)) = true := by
    rw [star1 hn]
    rfl
  have hpos : methodCallPos true o env p q = pure q := by
    unfold methodCallPos
    rw [hl]
    rfl
  rw [arm_eval_Call, base_plain hb]
  unfold methodCall
  rw [hform, hpos]
  rfl
theorem s_meth (GL : Glob X.prog X.w X.K X.mg X.base D ca TI k cp cpm) (gd : Good X C k) {f : Expr → Den} {o : Expr} {m : Str} {q : Pos} (h : ∀ e, PE X e (tE X.K ca TI (f e))) (hb : plainBase o = true) (hn : ns e = true) (hl : (p.endLine == q.line) = true) :
    PE X (.Call (.Attribute o m p) [e] [] q) (tE X.K ca TI (denM D cp f o m e)) := by
  have hA : PA X [e] (tArgs X.K ca TI (denA f [e])) := pa_all (fun x hx => by rw [List.mem_singleton.mp hx]; exact h e) (by unfold nsAll; rw [hn]; rfl)
  unfold denM
  split
  · rename_i c i n hm
    obtain ⟨hc, fa, fd, ps, hM, hB, hF⟩ := GL.mth m c i n hm
    have hE : Passes noCX X (fun _ _ _ => False) := fun _ _ _ _ _ _ _ x => x.elim
    refine pe_imp ?_ fun σ H Q q => tMethG_of (E := fun _ _ _ => False) q
    exact pe_methG (pe_v (h o)) hc hM hF gd.guards gd.room hB hE hA hn (call_form hb hn hl)
  · split
    · rename_i e1
      subst e1
      exact pe_dmeth (mr_append GL.T) F.plainAttrs_list F.slot_list_append F.type_list_append mt_append (h o) hA (base_plain hb) hl hn
    · split
      · rename_i e1
        subst e1
        exact pe_dmeth (mr_extend GL.T) F.plainAttrs_list F.slot_list_extend F.type_list_extend mt_extend (h o) hA (base_plain hb) hl hn
      · split
        · rename_i e1
          subst e1
          exact pe_dmeth (mr_pop GL.T) F.plainAttrs_list F.slot_list_pop F.type_list_pop mt_popAt (h o) hA (base_plain hb) hl hn
        · split
          · rename_i e1
            subst e1
            have h1 := pe_dmeth (X := X) (ca := ca) (TI := TI) mr_indexT F.plainAttrs_tuple F.slot_tuple_index F.type_tuple_index (mt_indexT (by have := gd.units; omega)) (h o) hA (base_plain hb) hl hn
            have h2 := pe_dmeth (X := X) (ca := ca) (TI := TI) mr_indexL F.plainAttrs_list F.slot_list_index F.type_list_index (mt_indexD (by have := gd.units; omega)) (h o) hA (base_plain hb) hl hn
            refine pe_imp (pe_or h1 h2) fun σ H Q q => ?_
            obtain ⟨G, L, ρ, M, r, M', s, er, hf, q⟩ := q
            obtain ⟨⟨x, M1⟩, e1, hf⟩ := bo hf
            split at hf
            · rename_i hk
              refine .inl ⟨G, L, ρ, M, r, M', s, er, ?_, q⟩
              show (val (f o) ρ M).bind _ = _
              rw [e1]
              show (if isTupV x M1 then _ else _) = _
              rw [if_pos hk]
              exact hf
            · split at hf
              · rename_i hk
                refine .inr ⟨G, L, ρ, M, r, M', s, er, ?_, q⟩
                show (val (f o) ρ M).bind _ = _
                rw [e1]
                show (if isListV x M1 then _ else _) = _
                rw [if_pos hk]
                exact hf
              · cases hf
          · exact pe_no
end
end PV

set_option maxRecDepth 100000
set_option maxHeartbeats 1000000
/-! calls of global names; comprehensions; every expression -/
namespace PV
open PySem PySem.Spec PyProof.Rows L2
section
variable {X : Cx} {C : SC} {k : Nat} {D : Tab} {ca : Str → Addr} {TI : Hp → Prop} {cp cpm : Nat → Fun} {a b e : Expr} {pos p : Pos} {es : List Expr} {x : Str} {f : SC → Expr → Den}
theorem s_args {g : Expr → Den} (h : ∀ e, PE X e (tE X.K ca TI (g e))) (hn : nsAll es = true) : PA X es (tArgs X.K ca TI (denA g es)) := pa_all (fun e _ => h e) hn
theorem s_g1 (GL : Glob X.prog X.w X.K X.mg X.base D ca TI k cp cpm) (gd : Good X C k) (hg : isGlb (C.sc.names.lookup x) = true) (hn : nsAll [e] = true) (h : ∀ e, PE X e (tE X.K ca TI (f C e))) : PE X (.Call (.Name x p) [e] [] pos) (tE X.K ca TI (denG1 C f x e)) := by
  have G1 := gl_of gd hg
  have A1 := s_args (es := [e]) h hn
  have hu := gd.units
  unfold denG1
  split
  · rename_i e1; subst e1
    exact pe_cb (l := true) bLen G1 (GL.blt _ (by simp [bltNames])) (by decide +kernel) A1 (by decide) (by decide) hn
  split
  · rename_i e1; subst e1
    exact pe_ct (l := false) (bTuple GL.T) G1 (GL.blt _ (by simp [bltNames])) boot_tuple A1 (by decide) (by decide) hn
  split
  · rename_i e1; subst e1
    have hn' : ns e = true := by
      unfold nsAll at hn
      rw [Bool.and_eq_true] at hn
      exact hn.1
    exact pe_dlistof GL.T gd.calm rfl G1 (GL.blt _ (by simp [bltNames])) (h e) hn'
  split
  · rename_i e1; subst e1
    exact pe_cb (l := false) (bSorted hu GL.T) G1 (GL.blt _ (by simp [bltNames])) (by decide +kernel) A1 (by decide) (by decide) hn
  split
  · rename_i e1; subst e1
    exact pe_cb (l := false) (bAll gd.calm) G1 (GL.blt _ (by simp [bltNames])) (by decide +kernel) A1 (by decide) (by decide) hn
  split
  · rename_i e1; subst e1
    exact pe_cb (l := false) (bMax gd.calm) G1 (GL.blt _ (by simp [bltNames])) (by decide +kernel) A1 (by decide) (by decide) hn
  split
  · rename_i e1; subst e1
    exact pe_cb (l := false) (bMin gd.calm hu) G1 (GL.blt _ (by simp [bltNames])) (by decide +kernel) A1 (by decide) (by decide) hn
  split
  · rename_i e1; subst e1
    exact pe_cb (l := false) (bSum gd.calm) G1 (GL.blt _ (by simp [bltNames])) (by decide +kernel) A1 (by decide) (by decide) hn
  split
  · rename_i e1; subst e1
    exact pe_ct (l := false) bInt G1 (GL.blt _ (by simp [bltNames])) boot_int A1 (by decide) (by decide) hn
  split
  · rename_i e1; subst e1
    exact pe_cb (l := false) (bRepr gd.guards hu) G1 (GL.blt _ (by simp [bltNames])) (by decide +kernel) A1 (by decide) (by decide) hn
  split
  · rename_i e1; subst e1
    exact pe_ct (l := false) (bDict GL.T gd.calm) G1 (GL.blt _ (by simp [bltNames])) boot_dict A1 (by decide) (by decide) hn
  · exact pe_no
theorem s_g2 (GL : Glob X.prog X.w X.K X.mg X.base D ca TI k cp cpm) (gd : Good X C k) (hg : isGlb (C.sc.names.lookup x) = true) (hn : nsAll [a, b] = true) (h : ∀ e, PE X e (tE X.K ca TI (f C e))) : PE X (.Call (.Name x p) [a, b] [] pos) (tE X.K ca TI (denG2 C f x a b)) := by
  have G1 := gl_of gd hg
  have A1 := s_args (es := [a, b]) h hn
  unfold denG2
  split
  · rename_i e1; subst e1
    exact pe_cb (l := false) (bMax gd.calm) G1 (GL.blt _ (by simp [bltNames])) (by decide +kernel) A1 (by decide) (by decide) hn
  split
  · rename_i e1; subst e1
    exact pe_cb (l := false) (bMin gd.calm gd.units) G1 (GL.blt _ (by simp [bltNames])) (by decide +kernel) A1 (by decide) (by decide) hn
  · exact pe_no
/-- what a comprehension asks of its parts -/
structure Parts (X : Cx) (C : SC) (ca : Str → Addr) (TI : Hp → Prop) (f : SC → Expr → Den) : Prop where
  out : ∀ e, PE X e (tE X.K ca TI (f C e))
  inn : ∀ (scope : Scope), scope.kind = .function → ∀ (s : Shared) (H : Hp) (A : Addr) (cl : List (Str × Addr)) (fp : List Addr) (e : Expr), PE (X.blk s H scope (compEnvC scope cl A X.env) fp) e (tE X.K ca TI (f (subC C scope) e)) ∧
    (tst e = true → PT (X.blk s H scope (compEnvC scope cl A X.env) fp) e (tT X.K ca TI (f (subC C scope) e)))
theorem s_iter (GL : Glob X.prog X.w X.K X.mg X.base D ca TI k cp cpm) (gd : Good X C k) {g : Expr → Den} {tg : Expr} (h : ∀ e, PE X e (tE X.K ca TI (g e))) : PI X tg e (tIt X.K ca TI (denI C g tg e)) := by
  have hno : ∀ {e : Expr}, PI X tg e (tIt X.K ca TI iNo) := fun {e} => ⟨fun pins s σ H R I q => by
    obtain ⟨G, L, ρ, M, b, M', s, er, hf, q⟩ := q
    cases hf⟩
  unfold denI
  split
  · rename_i x p0 es q0
    split
    · rename_i hc
      rw [Bool.and_eq_true, decide_eq_true_eq] at hc
      obtain ⟨hg, rfl⟩ := hc
      have G1 := gl_of gd hg
      have B1 := GL.blt "range" (by simp [bltNames])
      split
      · split
        · rename_i hn
          exact pi_drange1 G1 B1 (s_args h (by unfold nsAll; rw [hn]; rfl)) hn
        · exact hno
      · split
        · rename_i hn
          rw [Bool.and_eq_true] at hn
          exact pi_drange2 G1 B1 (s_args h (by unfold nsAll; rw [hn.1]; unfold nsAll; rw [hn.2]; rfl)) hn.1 hn.2
        · exact hno
      · split
        · rename_i hn
          rw [Bool.and_eq_true] at hn
          exact pi_drange3 G1 B1 (s_args h (by unfold nsAll; rw [hn.1, hn.2]; rfl)) hn.1 hn.2
        · exact hno
      · exact hno
    · split
      · rename_i _ hc
        rw [Bool.and_eq_true, decide_eq_true_eq] at hc
        obtain ⟨hg, rfl⟩ := hc
        have G1 := gl_of gd hg
        have B1 := GL.blt "enumerate" (by simp [bltNames])
        split
        · split
          · rename_i hn
            rw [Bool.and_eq_true] at hn
            cases tg with
            | Tuple els kk tp => exact pi_denum G1 B1 (s_args h (by unfold nsAll; rw [hn.1]; rfl)) hn.1
            | _ => cases hn.2
          · exact hno
        · exact hno
      · exact pi_diter GL.T (h _)
  · exact hno
  · exact pi_diter GL.T (h _)
theorem comp_of {scope : Scope} {tg : Expr} {g : Tg} {vs : List Nat} (h : compOk C scope tg = some (g, vs)) : blkC C.N C.sc scope (ownOf C scope) = true ∧ denTg (subC C scope) tg = some g ∧ (∀ i ∈ g.slots, i ∈ vs) ∧ vs = (ownOf C scope).map (·.2) := by
  unfold compOk at h
  split at h
  · rename_i hb
    obtain ⟨g', h1, h⟩ := bo h
    split at h
    · rename_i hs
      cases h
      rw [List.all_eq_true] at hs
      exact ⟨hb, h1, fun i hi => by simpa using hs i hi, rfl⟩
    · cases h
  · cases h
theorem s_ifs {Y : Cx} {g : Expr → Den} {ifs : List Expr} (hK : Y.K = X.K) (h : ∀ e, tst e = true → PT Y e (tT X.K ca TI (g e))) : PTs Y ifs (tT X.K ca TI (denIfs g ifs)) := by
  rw [← hK] at h ⊢
  unfold denIfs
  split
  · exact pts0
  · split
    · rename_i hc
      exact pts_one (h _ hc)
    · exact ⟨fun pins s σ H Q I q => by
        obtain ⟨G, L, ρ, M, b, M', s, er, hf, q⟩ := q
        cases hf⟩
  · exact ⟨fun pins s σ H Q I q => by
      obtain ⟨G, L, ρ, M, b, M', s, er, hf, q⟩ := q
      cases hf⟩
/-- a list comprehension, as a value and behind a name -/
theorem s_lc (GL : Glob X.prog X.w X.K X.mg X.base D ca TI k cp cpm) (gd : Good X C k) (P : Parts X C ca TI f) {elt tg iter : Expr} {ifs : List Expr} {scope : Scope} : PE X (.ListComp elt [⟨tg, iter, ifs, 0⟩] scope pos) (tE X.K ca TI (denL C f elt tg iter ifs scope)) := by
  unfold denL
  split
  · exact pe_no
  · rename_i hs
    have hs : isSet iter = false := by simpa using hs
    split
    · rename_i g vs hc
      obtain ⟨h1, h2, h3, rfl⟩ := comp_of hc
      have ok : BlkOk X.N X.env.scope scope (ownOf C scope) := by
        rw [gd.N, gd.sc]
        exact blkOk_by h1
      have B := fun s H A cl fp => good_blk gd ok.kind s H A cl fp
      exact pe_imp (pe_lc gd.calm (by rw [gd.N]; exact gd.nd) (s_iter GL gd P.out) ok (fun s H A cl fp => tg_of (B s H A cl fp) h2) (fun s H A cl fp => s_ifs (X := X) rfl fun e he => (P.inn scope ok.kind s H A cl fp e).2 he)
        (fun s H A cl fp => pe_v (P.inn scope ok.kind s H A cl fp elt).1) (set_fold hs)) fun σ H Q q => tLc_of GL.T h3 q
    · exact pe_no
theorem s_setlc (GL : Glob X.prog X.w X.K X.mg X.base D ca TI k cp cpm) (gd : Good X C k) (P : Parts X C ca TI f) {elt tg iter : Expr} {ifs : List Expr} {scope : Scope} {y : Str} {py spos : Pos} {i : Nat} (hi : C.N[i]? = some y) (hl : C.sc.names.lookup y = some .local) (hw : swOk y py pos scope = true) {t : TE}
    (ht : ∀ σ H Q, t σ H Q → tE X.K ca TI (denL C f elt tg iter ifs scope) σ H Q) : PS X (.Assign [.Name y py] (.ListComp elt [⟨tg, iter, ifs, 0⟩] scope pos) spos) (tAsg t (gName i)) := by
  unfold swOk at hw
  rw [Bool.and_eq_true, Bool.not_eq_true'] at hw
  unfold denL at ht
  split at ht
  · exact ps_imp ps_never fun D σ H q => by
      obtain ⟨G, L, ρ, M, r, M', s, er, hf, q⟩ := ht σ H _ q
      cases hf
  · rename_i hs
    have hs : isSet iter = false := by simpa using hs
    split at ht
    · rename_i g vs hc
      obtain ⟨h1, h2, h3, rfl⟩ := comp_of hc
      have ok : BlkOk X.N X.env.scope scope (ownOf C scope) := by
        rw [gd.N, gd.sc]
        exact blkOk_by h1
      have B := fun s H A cl fp => good_blk gd ok.kind s H A cl fp
      have hsw : swapsWith (.ListComp elt [⟨tg, iter, ifs, 0⟩] scope pos) (some (.Name y py)) spos.line X.env = pure true :=
        sw_true (by rw [gd.sc]; exact gd.kind) (by rw [gd.sc]; exact hl) hw.1 hw.2
      exact ps_imp (ps_setLc gd.calm (by rw [gd.N]; exact gd.nd) (by rw [gd.N]; exact hi) (by rw [gd.sc]; exact hl) hsw (s_iter GL gd P.out) ok (fun s H A cl fp => tg_of (B s H A cl fp) h2) (fun s H A cl fp => s_ifs (X := X) rfl fun e he => (P.inn scope ok.kind s H A cl fp e).2 he)
        (fun s H A cl fp => pe_v (P.inn scope ok.kind s H A cl fp elt).1) (set_fold hs)) fun E σ H q => tLc_of GL.T h3 (ht σ H _ q)
    · exact ps_imp ps_never fun D σ H q => by
        obtain ⟨G, L, ρ, M, r, M', s, er, hf, q⟩ := ht σ H _ q
        cases hf
theorem s_bl (GL : Glob X.prog X.w X.K X.mg X.base D ca TI k cp cpm) (gd : Good X C k) (P : Parts X C ca TI f) (hg : isGlb (C.sc.names.lookup x) = true) (hn : nsAll es = true) : PE X (.Call (.Name x p) es [] pos) (tE X.K ca TI (denBl C f x es)) := by
  unfold denBl
  split
  · rename_i elt tg iter ifs scope sp
    split
    · rename_i e1
      subst e1
      unfold denSet
      split
      · exact pe_no
      · rename_i hs
        have hs : isSet iter = false := by simpa using hs
        split
        · rename_i g vs hc
          obtain ⟨h1, h2, h3, rfl⟩ := comp_of hc
          have ok : BlkOk X.N X.env.scope scope (ownOf C scope) := by
            rw [gd.N, gd.sc]
            exact blkOk_by h1
          have B := fun s H A cl fp => good_blk gd ok.kind s H A cl fp
          have h5 := pe_scI (X := X) (elt := elt) (tg := tg) (iter := iter) (ifs := ifs) (scope := scope) (pos := sp) (wi := tIt X.K ca TI (denI C (f C) tg iter)) (g := tGd X.K g) (tt := tT X.K ca TI (denIfs (f (subC C scope)) ifs)) (te := tV X.K ca TI (val (f (subC C scope) elt))) gd.calm (by rw [gd.N]; exact gd.nd) (s_iter GL gd P.out) ok (fun s H A cl fp => tg_of (B s H A cl fp) h2) (fun s H A cl fp => s_ifs (X := X) rfl fun e he => (P.inn scope ok.kind s H A cl fp e).2 he)
            (fun s H A cl fp => pe_v (P.inn scope ok.kind s H A cl fp elt).1) (set_fold hs)
          exact pe_imp (pe_callB (id := "sorted") (cr_sortedSet gd.calm) (gl_of gd hg) (GL.blt _ (by simp [bltNames])) (by decide +kernel) (pa_cons h5 pa_nil rfl) (by decide) (by decide) rfl rfl) fun σ H Q q => tSc_of GL.T h3 q
        · exact pe_no
    · exact pe_no
  · rename_i r p0 a q0
    split
    · rename_i hc
      simp only [Bool.and_eq_true, decide_eq_true_eq] at hc
      obtain ⟨⟨⟨rfl, rfl⟩, hgr⟩, hna⟩ := hc
      have hr := prg_1 (p := p0) (pos := q0) (gl_of gd hgr) (GL.blt _ (by simp [bltNames])) (pe_v (P.out a)) (star1 hna)
      refine pe_imp (pe_tupRF gd.calm (gl_of gd hg) (GL.blt _ (by simp [bltNames])) hr rfl) fun σ H Q q => ?_
      obtain ⟨G, L, ρ, M, r, M', s, er, hf, q⟩ := q
      obtain ⟨⟨x, M1⟩, e1, hf⟩ := bo hf
      obtain ⟨d, e2, hf⟩ := bo hf
      obtain ⟨j, e3, hf⟩ := bo hf
      split at hf
      · rename_i hj
        cases hf
        rw [asI_eq e3] at e2
        refine ⟨G, L, ρ, M, x, _, s, er, e1, fun G1 H1 L1 v st1 s1 v1 => ⟨j, dr_int (dr_of s1 v1 e2), ?_⟩⟩
        have hb := small_le hj
        refine ⟨⟨by omega, by omega, by omega, by omega, by omega⟩, fun q0 o hq ho => ?_⟩
        have hd : DQAll G1 (rgV 0 j) ((List.range j.toNat).map fun i : Nat => PyData.int i) := by
          unfold rgV
          have e0 : (j - 0).toNat = j.toNat := by omega
          rw [e0]
          generalize List.range j.toNat = l
          induction l with
          | nil => exact .nil
          | cons i r ih =>
            rw [List.map_cons, List.map_cons]
            have e1 : (0 : Int) + (i : Int) = (i : Int) := by omega
            rw [e1]
            exact .cons (.int _) ih
        obtain ⟨G3, st3, s3, rr⟩ := out_step (K := X.K) s1 (out_tup GL.T s1.ex s1.ti hq ho hd)
        exact q G3 _ L1 _ (st1.trans st3) s3 (rr.back st1)
      · cases hf
    · exact s_g1 GL gd hg hn P.out
  · exact s_g1 GL gd hg hn P.out
  · rename_i e y py
    split
    · rename_i hc
      simp only [Bool.and_eq_true, decide_eq_true_eq] at hc
      obtain ⟨⟨rfl, hty⟩, hgy⟩ := hc
      have hne : ns e = true := by
        unfold nsAll at hn
        rw [Bool.and_eq_true] at hn
        exact hn.1
      have hy : y = "int" ∨ y = "bool" ∨ y = "tuple" := by
        unfold isTyN at hty
        simp only [Bool.or_eq_true, decide_eq_true_eq] at hty
        rcases hty with (h | h) | h
        · exact .inl h
        · exact .inr (.inl h)
        · exact .inr (.inr h)
      have hm := GL.blt "isinstance" (by simp [bltNames])
      rcases hy with rfl | rfl | rfl
      · exact pe_disi (T := "int") rfl (gl_of gd hg) hm (gl_of gd hgy) (GL.blt _ (by simp [bltNames])) boot_int (by decide) (by decide) (P.out e) hne
      · exact pe_disi (T := "bool") rfl (gl_of gd hg) hm (gl_of gd hgy) (GL.blt _ (by simp [bltNames])) boot_bool (by decide) (by decide) (P.out e) hne
      · exact pe_disi (T := "tuple") rfl (gl_of gd hg) hm (gl_of gd hgy) (GL.blt _ (by simp [bltNames])) boot_tuple (by decide) (by decide) (P.out e) hne
    · exact s_g2 GL gd hg hn P.out
  · exact s_g2 GL gd hg hn P.out
  · exact pe_no
theorem s_g (GL : Glob X.prog X.w X.K X.mg X.base D ca TI k cp cpm) (gd : Good X C k) (P : Parts X C ca TI f) : PE X (.Call (.Name x p) es [] pos) (tE X.K ca TI (denG D cp cpm C f x es)) := by
  have hE : Passes noCX X (fun _ _ _ => False) := fun _ _ _ _ _ _ _ x => x.elim
  unfold denG
  split
  · rename_i hc
    rw [Bool.and_eq_true] at hc
    obtain ⟨hg, hn⟩ := hc
    split
    · rename_i i n hf
      obtain ⟨hd, fa, fd, ps, h1, h2, h3, h4⟩ := GL.fns x i n hf
      split
      · exact pe_no
      · exact pe_imp (pe_callG h4 gd.guards gd.room (gl_of gd hg) h1 h2 h3 hE (s_args P.out hn) hd hn) fun σ H Q q => tCallG_of (E := fun _ _ _ => False) q
    · split
      · rename_i i n hf
        obtain ⟨hd, fa, fd, ps, h1, h2, h3, h4⟩ := GL.cls x i n hf
        rcases h4 with h4 | ⟨j, rfl, h4⟩
        · refine pe_imp pe_never fun σ H Q q => ?_
          obtain ⟨G, L, ρ, M, r, M', s, er, hf, q⟩ := q
          obtain ⟨⟨xs, M1⟩, e1, hf⟩ := bo hf
          split at hf
          · rw [h4] at hf
            cases hf
          · cases hf
        · cases es with
          | nil =>
            refine pe_imp (pe_makeG0 h2 h4 gd.guards gd.room (gl_of gd hg) h1 h3 hE hd) fun σ H Q q => ?_
            · have q' := tMakeG_of (E := fun _ _ _ => False) GL.T q
              obtain ⟨G, L, ρ, M, xs, M', s, er, hf, q'⟩ := q'
              cases hf
              exact q' G H L [] Step.refl s .nil
          | cons e r => exact pe_imp (pe_makeG h2 h4 gd.guards gd.room (gl_of gd hg) h1 h3 hE (s_args P.out hn) hd hn) fun σ H Q q => tMakeG_of (E := fun _ _ _ => False) GL.T q
      · exact s_bl GL gd P hg hn
  · exact pe_no
end
end PV

set_option maxRecDepth 100000
set_option maxHeartbeats 1000000
/-! every expression, every statement, every def -/
namespace PV
open PySem PySem.Spec PyProof.Rows L2
/-- the special forms are sound -/
def SpcOk (P : Program) (w : World) (K : PySem.W.Frag) (mg : Str → Option Value) (base : Heap) (D : Tab) (ca : Str → Addr) (TI : Hp → Prop) (k : Nat) (cp : Nat → Fun) : Prop :=
  ∀ (X : Cx) (C : SC), X.prog = P → X.w = w → X.K = K → X.mg = mg → X.base = base → Good X C k → ∀ (e : Expr) (d : Den), D.spc cp C e = some d → PE X e (tE X.K ca TI d)
section
variable {D : Tab} {ca : Str → Addr} {TI : Hp → Prop} {cp cpm : Nat → Fun} {k : Nat}
theorem pt_no {X : Cx} {e : Expr} : PT X e (tT X.K ca TI dNo) := ⟨fun pins s σ H Q I q => by
  obtain ⟨G, L, ρ, M, b, M', s, er, hf, q⟩ := q
  cases hf⟩
theorem pw_no {X : Cx} {e : Expr} : PW X e (tT X.K ca TI dNo) := ⟨fun w pins s σ H Q I q => by
  obtain ⟨G, L, ρ, M, b, M', s, er, hf, q⟩ := q
  cases hf⟩
/-- what is shown of an expression -/
structure SndE (X : Cx) (ca : Str → Addr) (TI : Hp → Prop) (e : Expr) (d : Den) : Prop where
  pe : PE X e (tE X.K ca TI d)
  pt : ∀ m, tstN m e = true → PT X e (tT X.K ca TI d)
  pw : ∀ op vs p, e = .BoolOp op vs p → ∀ m, vs.all (tstN m) = true → PW X e (tT X.K ca TI d)
theorem sndE {P : Program} {w : World} {K : PySem.W.Frag} {mg : Str → Option Value} {base : Heap} (GL : Glob P w K mg base D ca TI k cp cpm) (SP : SpcOk P w K mg base D ca TI k cp) :
    ∀ (n : Nat) (X : Cx) (C : SC), X.prog = P → X.w = w → X.K = K → X.mg = mg → X.base = base → Good X C k → ∀ e : Expr, SndE X ca TI e (denE D cp cpm n C e) := by
  intro n
  induction n with
  | zero => exact fun X C _ _ _ _ _ _ e => ⟨pe_no, fun _ _ => pt_no, fun _ _ _ _ _ _ => pw_no⟩
  | succ n ih =>
    intro X C hP hw hK hm hb gd e
    have GX : Glob X.prog X.w X.K X.mg X.base D ca TI k cp cpm := by rw [hP, hw, hK, hm, hb]; exact GL
    have I := ih X C hP hw hK hm hb gd
    have R := fun e => (I e).pe
    have PA : Parts X C ca TI (denE D cp cpm n) := ⟨R, fun scope hk s H A cl fp e =>
      have B := good_blk gd hk s H A cl fp
      have J := ih (X.blk s H scope (compEnvC scope cl A X.env) fp) (subC C scope) hP hw hK hm hb B e
      ⟨J.pe, fun h => J.pt 12 h⟩⟩
    have vals : ∀ {e : Expr} {d : Den}, PE X e (tE X.K ca TI d) → (∀ whole, isTrue e X.env whole = (do let v ← whole; standAt e.pos; holding [v] (truthy v))) → (∀ op vs p, e ≠ .BoolOp op vs p) → SndE X ca TI e d := fun h he hb => ⟨h, fun _ _ => pt_of h he, fun op vs p z => absurd z (hb op vs p)⟩
    have dull : ∀ {e : Expr} {d : Den}, PE X e (tE X.K ca TI d) → (∀ m, tstN m e = false) → (∀ op vs p, e ≠ .BoolOp op vs p) → SndE X ca TI e d := fun h he hb => ⟨h, fun m z => (by rw [he m] at z; cases z), fun op vs p z => absurd z (hb op vs p)⟩
    have bool : ∀ {op : BoolOp} {vs : List Expr} {p : Pos} {d : Den}, PE X (.BoolOp op vs p) (tE X.K ca TI d) → (∀ m, vs.all (tstN m) = true → PW X (.BoolOp op vs p) (tT X.K ca TI d)) → SndE X ca TI (.BoolOp op vs p) d := fun h hw => ⟨h, fun m hm => (by
      cases m with
      | zero => cases hm
      | succ m => exact (hw m hm).pt), fun op' vs' p' e m hm => (by cases e; exact hw m hm)⟩
    unfold denE
    split
    · exact vals (pe_cst pe_int fun G => .int _) (fun _ => rfl) (fun _ _ _ e => nomatch e)
    · exact vals (pe_cst pe_bl fun G => .bl _) (fun _ => rfl) (fun _ _ _ e => nomatch e)
    · exact vals (pe_cst pe_non fun G => .non) (fun _ => rfl) (fun _ _ _ e => nomatch e)
    · exact vals (pe_cst pe_str fun G => .str _) (fun _ => rfl) (fun _ _ _ e => nomatch e)
    · rename_i x p
      refine vals ?_ (fun _ => rfl) (fun _ _ _ e => nomatch e)
      split
      · rename_i i hi
        exact pe_dvar (vis_of gd hi)
      · split
        · rename_i hg
          rw [Bool.and_eq_true] at hg
          split
          · rename_i d hd
            obtain ⟨u, v, h1, h2, h3⟩ := GX.con x d hd
            have hpn := hg.2
            unfold plainNm at hpn
            rw [Bool.and_eq_true, Bool.not_eq_true'] at hpn
            exact pe_cst (pe_glob (gl_of gd hg.1) h1 h2 hpn.1) h3
          · exact pe_no
        · exact pe_no
    · refine dull ?_ (fun m => by cases m <;> rfl) (fun _ _ _ e => nomatch e)
      split
      · rename_i hs
        exact pe_dtup GL.T (s_args R hs)
      · exact pe_no
    · refine dull ?_ (fun m => by cases m <;> rfl) (fun _ _ _ e => nomatch e)
      split
      · rename_i hs
        exact pe_dlst GL.T (s_args R hs)
      · exact pe_no
    · exact dull (pe_ddict1 GL.T (R _) (R _)) (fun m => by cases m <;> rfl) (fun _ _ _ e => nomatch e)
    · exact dull (s_bin GL.T gd (R _) (R _)) (fun m => by cases m <;> rfl) (fun _ _ _ e => nomatch e)
    · exact dull (pe_unary oNeg (R _)) (fun m => by cases m <;> rfl) (fun _ _ _ e => nomatch e)
    · rename_i a p
      refine ⟨PV.pe_dnot (R a), fun m hm => ?_, fun _ _ _ e => nomatch e⟩
      cases m with
      | zero => cases hm
      | succ m => exact pt_dnot ((I a).pt m hm)
    · rename_i op a p
      refine bool (pe_one (R a)) fun m hm => ?_
      have h1 : tstN m a = true := by simpa using hm
      cases op with
      | And => exact pw_and1 ((I a).pt m h1)
      | Or => exact pw_or1 ((I a).pt m h1)
    · rename_i a b r p
      refine bool (PV.pe_dand (R a) (R _)) fun m hm => ?_
      rw [List.all_cons, Bool.and_eq_true] at hm
      exact pw_dand ((I a).pt m hm.1) ((I (.BoolOp .And (b :: r) p)).pw _ _ _ rfl m hm.2)
    · rename_i a b r p
      refine bool (PV.pe_dor (R a) (R _)) fun m hm => ?_
      rw [List.all_cons, Bool.and_eq_true] at hm
      exact pw_dor ((I a).pt m hm.1) ((I (.BoolOp .Or (b :: r) p)).pw _ _ _ rfl m hm.2)
    · rename_i a op b p
      obtain ⟨h1, h2⟩ := s_cmp (pos := p) gd (R a) (R b)
      exact ⟨h1, fun _ _ => h2, fun _ _ _ e => nomatch e⟩
    · refine dull ?_ (fun m => by cases m <;> rfl) (fun _ _ _ e => nomatch e)
      split
      · rename_i F1 F2 h1 h2
        exact s_chain gd h1 h2 (R _) (R _) (R _)
      · exact pe_no
    · rename_i c a b p
      refine dull ?_ (fun m => by cases m <;> rfl) (fun _ _ _ e => nomatch e)
      split
      · rename_i hc
        exact PV.pe_dif ((I c).pt 12 hc) (R _) (R _)
      · exact pe_no
    · exact dull (s_sub GL.T gd R) (fun m => by cases m <;> rfl) (fun _ _ _ e => nomatch e)
    · rename_i o a p
      refine dull ?_ (fun m => by cases m <;> rfl) (fun _ _ _ e => nomatch e)
      split
      · rename_i hp
        split
        · rename_i c hc
          obtain ⟨h1, h2⟩ := GX.fld a c hc
          exact pe_dfld h1 h2 (R o) (base_plain hp)
        · exact pe_no
      · exact pe_no
    · rename_i x p es q
      refine vals ?_ (fun _ => rfl) (fun _ _ _ e => nomatch e)
      split
      · rename_i d hd
        exact SP X C hP hw hK hm hb gd _ d hd
      · exact s_g GX gd PA
    · rename_i o m p e q
      refine vals ?_ (fun _ => rfl) (fun _ _ _ e => nomatch e)
      split
      · rename_i hc
        rw [Bool.and_eq_true, Bool.and_eq_true] at hc
        exact s_meth GX gd R hc.1.1 hc.1.2 hc.2
      · exact pe_no
    · exact dull (s_lc GX gd PA) (fun m => by cases m <;> rfl) (fun _ _ _ e => nomatch e)
    · rename_i h1 h2 h3 h4 h5 h6 h7 h8 h9 h10 h11 h12 h13 h14 h15 h16 h17 h18 h19 h20 h21 h22
      exact ⟨pe_no, fun _ _ => pt_no, fun _ _ _ _ _ _ => pw_no⟩
end
end PV

set_option maxRecDepth 100000
set_option maxHeartbeats 1000000
/-! every statement, every def -/
namespace PV
open PySem PySem.Spec PyProof.Rows L2
section
variable {D : Tab} {ca : Str → Addr} {TI : Hp → Prop} {cp cpm : Nat → Fun} {k : Nat} {X : Cx} {C : SC}
def tLockPS (t : TS) : TS := fun E σ H => ∃ d u, H d = some u ∧ Mut (some u) ∧ ∀ od, t E σ (upd H d (.frz od u))
theorem ps_lockP {st : Stmt} {t : TS} (h : PS X st t) : PS X st (tLockPS t) := ⟨fun pins s σ H E I hw => by
  obtain ⟨d, u, hd, mu, hw⟩ := hw
  obtain ⟨od, I1⟩ := I.lock hd mu
  exact h.run pins s σ _ E I1 (hw od)⟩
theorem ps_or {st : Stmt} {t t' : TS} (h : PS X st t) (h' : PS X st t') : PS X st (fun E σ H => t E σ H ∨ t' E σ H) := ⟨fun pins s σ H E I q => q.elim (h.run pins s σ H E I) (h'.run pins s σ H E I)⟩
theorem ps_slock (T : TOk TI) {i : Nat} {st : Stmt} {f : DenS} (h : PS X st (tS X.K ca TI f)) : PS X st (tS X.K ca TI (sLock i f)) := ps_imp (ps_or (ps_lockP h) h) fun E σ H q => by
  obtain ⟨G, L, ρ, M, fl, s, er, hf, q⟩ := q
  unfold sLock at hf
  split at hf
  · rename_i k hk
    split at hf
    · rename_i kvs hm
      obtain ⟨v, hv, a, ha, rfl⟩ := er.2 i (.loc k) hk
      have hH : H a = some (.dK (enc kvs)) := s.at_ k a _ ha hm
      have ga := s.fr k a _ ha hm (fun e => nomatch e)
      have hmem : a ∈ L := List.mem_of_getElem? ha
      refine .inl ⟨a, _, hH, trivial, fun od => ?_⟩
      obtain ⟨s', st'⟩ := s.write T ha hm (fun e => nomatch e) hH rfl (o := .frz od (.dK (enc kvs))) (c' := .dead) trivial
      have hL' : ∀ (j : Nat) c, L[j]? = some a → (M.set k .dead)[j]? = some c → c = Cell.dead := fun j c e1 e2 => by
        rcases set_get e2 with ⟨rfl, rfl⟩ | ⟨hne, _⟩
        · rfl
        · exact absurd (nodup_at s.nd e1 ha) hne
      have s2 := s'.freeze (o := .frz od (.dK (enc kvs))) ga upd_same hL'
      have st2 : Step G H L (upd G a (.frz od (.dK (enc kvs)))) (upd H a (.frz od (.dK (enc kvs)))) L := ⟨Evl.Ex.new ga, st'.l, st'.h, st'.n, fun p h1 h2 => by
        by_cases e : p = a
        · subst e; exact .inl hmem
        · rw [upd_ne e] at h2; exact absurd h1 h2, st'.s⟩
      have er2 : ER X.K (upd G a (.frz od (.dK (enc kvs)))) L σ (ρ.set i (some (.dic kvs))) := by
        have er1 := er.mono st2.g (List.prefix_refl L)
        refine ⟨by rw [List.length_set]; exact er1.1, fun j y e => ?_⟩
        rcases set_get e with ⟨rfl, e2⟩ | ⟨_, e2⟩
        · have e3 : y = .dic kvs := Option.some.inj e2
          subst e3
          exact ⟨.ref a, hv, a, od, rfl, upd_same⟩
        · exact er1.2 j y e2
      exact ⟨_, L, _, _, fl, s2, er2, hf, q.later st2⟩
    · exact .inr ⟨G, L, ρ, M, fl, s, er, hf, q⟩
  · exact .inr ⟨G, L, ρ, M, fl, s, er, hf, q⟩
theorem loc_of {x : Str} (h : isLocalN C x = true) : C.sc.names.lookup x = some .local := by
  unfold isLocalN isLocK at h
  split at h
  · assumption
  · cases h
theorem s_asg (GL : Glob X.prog X.w X.K X.mg X.base D ca TI k cp cpm) (gd : Good X C k) {f : SC → Expr → Den} (P : Parts X C ca TI f) {x : Str} {py pos : Pos} {e : Expr} : PS X (.Assign [.Name x py] e pos) (tS X.K ca TI (denAs C f x py e)) := by
  unfold denAs
  split
  · exact ps_no
  · rename_i i hi
    obtain ⟨h1, h2, h3⟩ := sto_of gd hi
    split
    · rename_i elt tg iter ifs scope cpos
      split
      · rename_i hc
        simp only [Bool.and_eq_true] at hc
        obtain ⟨⟨hl, hw⟩, _⟩ := hc
        have base : PS X (.Assign [.Name x py] (.ListComp elt [⟨tg, iter, ifs, 0⟩] scope cpos) pos) (tS X.K ca TI (sSet i (C.mt.contains x) (denL C f elt tg iter ifs scope))) :=
          ps_sset fun ht => s_setlc GL gd P h1 (loc_of hl) hw ht
        split
        · split
          · split
            · exact ps_slock GL.T base
            · exact ps_no
          · exact base
        · exact base
      · exact ps_no
    · split
      · exact ps_no
      · rename_i hc
        have hc : isComp e = false := by simpa using hc
        exact ps_sset fun {t} ht => ps_set (by rw [gd.N]; exact gd.nd) (by rw [gd.N]; exact h1) h2 (pe_imp (P.out e) ht) (comp_name hc) h3
theorem ite_no {α : Type} {c : Bool} {a b : α} (h : c = false) : (if c = true then a else b) = b := by
  rw [h]
  rfl
theorem ite_yes {α : Type} {c : Bool} {a b : α} (h : c = true) : (if c = true then a else b) = a := by
  rw [h]
  rfl
theorem swap_subS {env : PySem.Env} {e o i : Expr} {l : Nat} {p : Pos} : swapsWithSole [.Subscript o i p] e l env = pure false := by
  cases e <;> rfl
theorem swap_tupS {env : PySem.Env} {e : Expr} {l : Nat} {es : List Expr} {k : Nat} {p : Pos} : swapsWithSole [.Tuple es k p] e l env = pure false := by
  cases e <;> rfl
theorem swapped2 {env : PySem.Env} {x y : Str} {px py pt : Pos} {kt : Nat} {a b : Expr} {k2 : Nat} {p2 : Pos} (hk : env.scope.kind = .function) (hx : env.scope.names.lookup x = some .local) (hy : env.scope.names.lookup y = some .local) (hl : (px.line == py.line) = true) (hxy : (x != y) = true)
    (ha : ns a = true) (hb : ns b = true) (hf : (foldedForSure 8 a && foldedForSure 8 b) = false) (hc : (constantsAlone 8 a && constantsAlone 8 b) = false) :
    swappedStores [.Tuple [.Name x px, .Name y py] kt pt] (.Tuple [a, b] k2 p2) env = pure (some [x, y]) := by
  have hbk : env.blockKind = .function := by
    unfold Env.blockKind
    rw [hk]
    rfl
  have kx : env.kindOf x = some .local := hx
  have ky : env.kindOf y = some .local := hy
  have hst : ([a, b].any fun | .Starred .. => true | _ => false) = false := by
    have one : ∀ {e : Expr}, ns e = true → (match e with | .Starred .. => true | _ => false) = false := fun {e} h => by
      cases e <;> first | rfl | cases h
    simp only [List.any_cons, List.any_nil, one ha, one hb, Bool.or_false]
  have hne : x ≠ y := by simpa using hxy
  have hpl : px.line = py.line := by simpa using hl
  have hed : ([x, y] : List Str).eraseDups = [x, y] := by
    simp [List.eraseDups_cons, hne.symm]
  unfold swappedStores
  simp only [hbk]
  refine (ite_no rfl).trans ?_
  refine (ite_no (by exact hst)).trans ?_
  have hf1 : ([a, b].all (foldedForSure 8)) = false := by simpa using hf
  have hc1 : ([a, b].all (constantsAlone 8)) = false := by simpa using hc
  refine (ite_no ?_).trans ((ite_no hf1).trans ((ite_no hc1).trans ?_))
  · simp [kx, ky, Expr.pos, hpl, hed]
  · simp [kx, ky, Expr.pos, hpl]
theorem not_loc {x : Str} {env : PySem.Env} (hs : env.scope = C.sc) (h : isLocalN C x = false) : (env.kindOf x == some NameKind.local) = false := by
  have e : env.kindOf x = C.sc.names.lookup x := by
    unfold Env.kindOf
    rw [hs]
  rw [e]
  unfold isLocalN isLocK at h
  cases hk : C.sc.names.lookup x with
  | none => rfl
  | some z =>
    rw [hk] at h
    cases z <;> first | rfl | cases h
theorem swapped0 {env : PySem.Env} {x y : Str} {px py pt : Pos} {kt : Nat} {a b : Expr} {k2 : Nat} {p2 : Pos} (hk : env.scope.kind = .function) (h : (env.kindOf x == some NameKind.local) = false ∨ (env.kindOf y == some NameKind.local) = false) (ha : ns a = true) (hb : ns b = true) :
    swappedStores [.Tuple [.Name x px, .Name y py] kt pt] (.Tuple [a, b] k2 p2) env = pure none := by
  have hbk : env.blockKind = .function := by
    unfold Env.blockKind
    rw [hk]
    rfl
  have hst : ([a, b].any fun | .Starred .. => true | _ => false) = false := by
    have one : ∀ {e : Expr}, ns e = true → (match e with | .Starred .. => true | _ => false) = false := fun {e} h => by
      cases e <;> first | rfl | cases h
    simp only [List.any_cons, List.any_nil, one ha, one hb, Bool.or_false]
  unfold swappedStores
  simp only [hbk]
  refine (ite_no rfl).trans ?_
  refine (ite_no (by exact hst)).trans ?_
  refine (ite_yes ?_)
  rcases h with h | h
  · simp only [List.filterMap_cons, h, Bool.false_and]
    simp
    left
    split <;> simp
  · simp only [List.filterMap_cons, h, Bool.false_and]
    simp
    left
    split <;> simp
theorem ps_spar0 (T : TOk TI) (gd : Good X C k) {f g : Den} {a b : Expr} {x y : Str} {px py p1 p2 pos : Pos} {k1 k2 i j : Nat} {m n : Bool} (ha : PE X a (tE X.K ca TI f)) (hb : PE X b (tE X.K ca TI g)) (h1 : ns a = true) (h2 : ns b = true) (hi : stoIx C x = some i) (hj : stoIx C y = some j) (hn : isLocalN C x = false ∨ isLocalN C y = false) :
    PS X (.Assign [.Tuple [.Name x px, .Name y py] k1 p1] (.Tuple [a, b] k2 p2) pos) (tS X.K ca TI (sPar i j m n f g)) := by
  have hA := pa_cons (pe_imp ha fun _ _ _ q => valm_of (m := m) q) (pa_cons (pe_imp hb fun _ _ _ q => valm_of (m := n) q) pa_nil (star1 h2)) (star1 h1)
  have hsw := swapped0 (env := X.env) (x := x) (y := y) (px := px) (py := py) (pt := p1) (kt := k1) (a := a) (b := b) (k2 := k2) (p2 := p2) (by rw [gd.sc]; exact gd.kind) (hn.imp (not_loc gd.sc) (not_loc gd.sc)) h1 h2
  refine ps_imp (ps_asg (L2.pe_tup hA) (pg_tup gd.calm (pgs_cons (pg_of gd hi) (pgs_cons (pg_of gd hj) pgs_nil)) rfl rfl) swap_tupS hsw rfl) fun D σ H q => ?_
  obtain ⟨G, L, ρ, M, fl, s, er, hf, q⟩ := q
  obtain ⟨⟨x, M1⟩, e1, hf⟩ := bo hf
  obtain ⟨⟨y, M2⟩, e2, hf⟩ := bo hf
  cases hf
  refine ⟨G, L, ρ, M, x, M1, s, er, e1, fun G1 H1 L1 v st1 s1 v1 => ?_⟩
  refine ⟨G1, L1, ρ, M1, y, _, s1, er.mono st1.g st1.l, e2, fun G2 H2 L2 w st2 s2 v2 => ?_⟩
  have st12 := st1.trans st2
  refine ⟨by show 2 ≤ sizeLine; decide, fun p hp => ?_⟩
  have gp : G2 p = none := Evl.fresh_back s2.ex hp
  have lp : p ∉ L2 := fun z => s2.here p z hp
  refine ⟨p, [v, w], rfl, SqT.of upd_same, rfl, v, [w], rfl, w, [], rfl, rfl, ?_⟩
  exact q G2 _ L2 _ (st12.loose (st12.back hp) gp lp) (s2.loose T gp lp fun u e => by rw [hp] at e; cases e) (((er.mono st12.g st12.l).set i (v1.mono st2.g st2.l)).set j v2)
theorem s_par (T : TOk TI) (gd : Good X C k) {f : Expr → Den} (h : ∀ e, PE X e (tE X.K ca TI (f e))) {ts vs : List Expr} {k1 k2 : Nat} {p1 p2 pos : Pos} : PS X (.Assign [.Tuple ts k1 p1] (.Tuple vs k2 p2) pos) (tS X.K ca TI (denPar C f ts vs)) := by
  unfold denPar
  split
  · rename_i x px y py a b
    split
    · rename_i i j hi hj
      split
      · rename_i hc
        simp only [Bool.and_eq_true, decide_eq_true_eq, Bool.not_eq_true'] at hc
        obtain ⟨⟨⟨⟨⟨⟨⟨⟨c1, c2⟩, c3⟩, c4⟩, c5⟩, c6⟩, c7⟩, c8⟩, c9⟩ := hc
        have hx := loc_of c2
        have hy := loc_of c3
        exact ps_spar (h a) (h b) c4 c5 fun {t} ht => ps_par gd.calm (by rw [gd.N]; exact gd.nd) (by rw [gd.N]; exact ixIn_at hi) (by rw [gd.N]; exact ixIn_at hj) c1 (by rw [gd.sc]; exact hx) (by rw [gd.sc]; exact hy) ht
          (swapped2 (by rw [gd.sc]; exact gd.kind) (by rw [gd.sc]; exact hx) (by rw [gd.sc]; exact hy) c6 c9 c4 c5 c7 c8) rfl
      · split
        · rename_i hc
          simp only [Bool.and_eq_true, decide_eq_true_eq, Bool.not_eq_true'] at hc
          obtain ⟨⟨⟨⟨c1, c2⟩, c3⟩, c4⟩, c5⟩ := hc
          refine ps_spar0 T gd (h a) (h b) c3 c4 c1 c2 ?_
          rw [Bool.and_eq_false_iff] at c5
          exact c5
        · exact ps_no
    · exact ps_no
  · exact ps_no
theorem goS_ok {f : Stmt → DenS} (h : ∀ st, PS X st (tS X.K ca TI (f st))) : ∀ b : List Stmt, PSs X b (tS X.K ca TI (denS.goS f b))
  | [] => pss_s0
  | st :: r => pss_s1 (h st) (goS_ok h r)
theorem sndS (GL : Glob X.prog X.w X.K X.mg X.base D ca TI k cp cpm) (SP : SpcOk X.prog X.w X.K X.mg X.base D ca TI k cp) (gd : Good X C k) : ∀ (n : Nat) (st : Stmt), PS X st (tS X.K ca TI (denS D cp cpm n C st)) := by
  have E := sndE GL SP 60 X C rfl rfl rfl rfl rfl gd
  have R := fun e => (E e).pe
  have PA : Parts X C ca TI (denE D cp cpm 60) := ⟨R, fun scope hk s H A cl fp e =>
    have B := good_blk gd hk s H A cl fp
    have J := sndE GL SP 60 (X.blk s H scope (compEnvC scope cl A X.env) fp) (subC C scope) rfl rfl rfl rfl rfl B e
    ⟨J.pe, fun h => J.pt 12 h⟩⟩
  have hp : PassesOwn (model X.prog X.w) X.A X.env X.xe := by
    rw [gd.xe]
    exact PassesOwn.never
  intro n
  induction n with
  | zero => exact fun st => ps_no
  | succ n ih =>
    intro st
    unfold denS
    split
    · split
      · exact ps_no
      · rename_i hc
        exact ps_sexpr (R _) (comp_none (by simpa using hc))
    · exact ps_sret (R _)
    · split
      · rename_i hc
        exact ps_sif ((E _).pt 12 hc) (goS_ok ih _) (goS_ok ih _)
      · exact ps_no
    · exact s_asg GL gd PA
    · exact s_par GL.T gd R
    · split
      · exact ps_no
      · rename_i hc
        rw [Bool.or_eq_true, not_or] at hc
        split
        · rename_i is hg
          exact ps_sunp (R _) (tg_of gd hg) swap_tupS (stores_tup (by simpa using hc.2)) rfl
        · exact ps_no
    · split
      · exact ps_no
      · rename_i hc
        rw [Bool.or_eq_true, not_or] at hc
        exact ps_sput GL.T gd.units (R _) (R _) (R _) swap_subS stores_sub (asg_sub (by simpa using hc.1))
    · split
      · rename_i c hc
        split
        · exact ps_no
        · obtain ⟨h1, h2⟩ := GL.fld _ c hc
          exact ps_sfld GL.T h1 h2 (R _) (R _) swap_attr
      · exact ps_no
    · split
      · rename_i hc
        exact ps_swhile hp ((E _).pt 12 hc) (goS_ok ih _)
      · exact ps_no
    · split
      · exact ps_no
      · rename_i hs
        split
        · rename_i g hg
          exact ps_sfor GL.T hp gd.calm (s_iter GL gd R) (tg_of gd hg) (goS_ok ih _) (set_fold (by simpa using hs))
        · exact ps_no
    · exact ps_brk
    · exact ps_no
end
end PV

set_option maxRecDepth 100000
set_option maxHeartbeats 1000000
/-! every def, at every depth of calls -/
namespace PV
open PySem PySem.Spec PyProof.Rows L2
structure DefI where
  N : List Str
  ps : List Str
  mt : List Str
  lk : List Str
  scope : Scope
  body : List Stmt
  ql : Option Str
def DefI.sc (d : DefI) : SC := ⟨d.N, d.scope, fun _ => true, d.mt, d.lk, 2, d.ql⟩
def DefI.run (d : DefI) (D : Tab) (cp cpm : Nat → Fun) : Fun := runFn d.N.length (denSs D cp cpm 40 d.sc d.body)
def stepP (D : Tab) (defs : Nat → Option DefI) (cp cpm : Nat → Fun) : Nat → Fun := fun i => match defs i with
  | some d => d.run D cp cpm
  | none => fun _ _ => none
/-- the defs at a depth, and at the depth below it -/
def callPP (D : Tab) (defs : Nat → Option DefI) : Nat → (Nat → Fun) × (Nat → Fun)
  | 0 => (fun _ _ _ => none, fun _ _ _ => none)
  | k + 1 => (stepP D defs (callPP D defs k).1 (callPP D defs k).2, (callPP D defs k).1)
abbrev callP (D : Tab) (defs : Nat → Option DefI) (k : Nat) : Nat → Fun := (callPP D defs k).1
structure DefOk (K : PySem.W.Frag) (d : DefI) (f : Addr) (fd : FuncData) : Prop where
  obj : ∃ (name qual : Str) (params : Arguments) (dV kV doc pm cdv ct oc : Value) (an od : Option Addr) (osl : Array (Option Value)), fd = PySem.W.fnOf name qual params d.body d.scope dV kV doc pm an cdv ct ∧
    K.lookup f = some ⟨oc, od, .func (PySem.W.fnOf name qual params d.body d.scope dV kV doc pm an cdv ct), osl⟩ ∧ PySem.W.codeIn K cdv qual = true ∧ ∀ q, d.ql = some q → qual = q ∧ cdv = .ref (cdOf K q)
  sc : FnScope d.N d.ps d.scope
  bd : Binds K fd d.ps []
structure TabOk (K : PySem.W.Frag) (mg : Str → Option Value) (D : Tab) (defs : Nat → Option DefI) (fa : Nat → Addr) (ft : Nat → FuncData) (ca : Str → Addr) (TI : Hp → Prop) : Prop where
  T : TOk TI
  con : ∀ x d, D.con.lookup x = some d → ∃ u v, mg x = some u ∧ RelV v u ∧ ∀ G, DQ G v d
  fns : ∀ x i n, D.fns.lookup x = some (i, n) → (x == ("__debug__" : Str)) = false ∧ ∃ d, defs i = some d ∧ n = d.ps.length ∧ mg x = some (.ref (fa i)) ∧ PySem.W.keepIn K (.ref (fa i)) = true
  cls : ∀ x i n, D.cls.lookup x = some (i, n) → (x == ("__debug__" : Str)) = false ∧ ∃ d, defs i = some d ∧ n = d.ps.length ∧ mg x = some (.ref (ca x)) ∧ Mk K (ca x) (fa i)
  mth : ∀ m c i n, D.mth.lookup m = some (c, i, n) → Cls K (ca c) ∧ ∃ d, defs i = some d ∧ n = d.ps.length ∧ Meth K (ca c) m (fa i)
  fld : ∀ f c, D.fld.lookup f = some c → Cls K (ca c) ∧ NoAttr K (ca c) f
  blt : ∀ x ∈ bltNames, mg x = none
  def_ : ∀ i d, defs i = some d → DefOk K d (fa i) (ft i)
section
variable {P : Program} {w : World} {K : PySem.W.Frag} {mg : Str → Option Value} {base : Heap} {D : Tab} {defs : Nat → Option DefI} {fa : Nat → Addr} {ft : Nat → FuncData} {ca : Str → Addr} {TI : Hp → Prop} {cp cpm : Nat → Fun} {k : Nat}
theorem fn_level {d : DefI} {f : Addr} {fd : FuncData} (o : DefOk K d f fd) (GL : Glob P w K mg base D ca TI k cp cpm) (SP : SpcOk P w K mg base D ca TI k cp) : FnG P w K mg base noCX (k + 1) f fd d.ps (spG K ca TI d.ps.length (d.run D cp cpm)) := by
  obtain ⟨name, qual, params, dV, kV, doc, pm, cdv, ct, oc, an, od, osl, rfl, h1, h2, h3⟩ := o.obj
  refine fn_ofG h1 h2 o.sc (fun vs H Q E h => h.1) fun A outer s H vs Q E hg hr1 hr hsp => ⟨_, PSs.nox (goS_ok (fun st => sndS (X := (cxOf noCX P w K mg base d.N qual d.scope f cdv A outer s H E).nox) GL SP (C := d.sc) ⟨rfl, o.sc.nd, rfl, o.sc.kind, rfl, rfl, guards_deep hg, ?_, hr, ⟨?_, ?_⟩, fun q e => ⟨by rw [← (h3 q e).1] <;> rfl, (h3 q e).2⟩, rfl⟩ 40 st) d.body), body_ok hsp⟩
  · have := hr.un
    show (A.deeper (envOfC qual d.scope s.heap.objs.size f cdv)).units + 200 < cLine
    omega
  · have := hr1.dp
    show A.depth + 1 + 3 * k + 5 + 2 < recursionLimit
    omega
  · have := hr1.un
    show A.units + 3 + 16 * k + 200 + 3 * 2 < cLine
    omega
theorem fn_zero {f : Addr} {fd : FuncData} {ps : List Str} (n : Nat) (hn : n = ps.length) : FnG P w K mg base noCX k f fd ps (spG K ca TI n fun _ _ => none) := ⟨fun vs H Q E h => by rw [h.1, hn], fun A outer s H args us vs Q E _ _ _ _ _ h => by
  obtain ⟨_, G, L, M, xs, r, M', _, _, hf, _⟩ := h
  cases hf⟩
theorem glob_of (T : TabOk K mg D defs fa ft ca TI) (h1 : ∀ i d, defs i = some d → FnG P w K mg base noCX k (fa i) (ft i) d.ps (spG K ca TI d.ps.length (cp i)))
    (h2 : (∀ i a b, cpm i a b = none) ∨ ∃ j, k = j + 1 ∧ ∀ i d, defs i = some d → FnG P w K mg base noCX j (fa i) (ft i) d.ps (spG K ca TI d.ps.length (cpm i))) : Glob P w K mg base D ca TI k cp cpm where
  T := T.T
  con := T.con
  fns := fun x i n h => by
    obtain ⟨e, d, a1, rfl, a2, a3⟩ := T.fns x i n h
    exact ⟨e, fa i, ft i, d.ps, a2, a3, (T.def_ i d a1).bd, h1 i d a1⟩
  cls := fun x i n h => by
    obtain ⟨e, d, a1, rfl, a2, a3⟩ := T.cls x i n h
    refine ⟨e, fa i, ft i, d.ps, a2, a3, (T.def_ i d a1).bd, ?_⟩
    rcases h2 with h2 | ⟨j, e, h2⟩
    · exact .inl fun a b => h2 i a b
    · exact .inr ⟨j, e, h2 i d a1⟩
  mth := fun m c i n h => by
    obtain ⟨a0, d, a1, rfl, a2⟩ := T.mth m c i n h
    exact ⟨a0, fa i, ft i, d.ps, a2, (T.def_ i d a1).bd, h1 i d a1⟩
  fld := T.fld
  blt := T.blt
/-- THE DEFS, for a family of what is kept -/
theorem all_fns {ι : Type} {TI : ι → Hp → Prop} (T : ∀ z, TabOk K mg D defs fa ft ca (TI z)) (HS : ∀ k cp cpm, (∀ z, Glob P w K mg base D ca (TI z) k cp cpm) → ∀ z, SpcOk P w K mg base D ca (TI z) k cp) :
    ∀ k z, (∀ i d, defs i = some d → FnG P w K mg base noCX k (fa i) (ft i) d.ps (spG K ca (TI z) d.ps.length (callP D defs k i))) ∧ Glob P w K mg base D ca (TI z) k (callPP D defs k).1 (callPP D defs k).2 := by
  intro k
  induction k with
  | zero =>
    intro z
    have h : ∀ i d, defs i = some d → FnG P w K mg base noCX 0 (fa i) (ft i) d.ps (spG K ca (TI z) d.ps.length (callP D defs 0 i)) := fun i d _ => fn_zero _ rfl
    exact ⟨h, glob_of (T z) h (.inl fun _ _ _ => rfl)⟩
  | succ k ih =>
    intro z
    have h : ∀ i d, defs i = some d → FnG P w K mg base noCX (k + 1) (fa i) (ft i) d.ps (spG K ca (TI z) d.ps.length (callP D defs (k + 1) i)) := fun i d e => by
      have r := fn_level ((T z).def_ i d e) (ih z).2 (HS k _ _ (fun z => (ih z).2) z)
      have e2 : callP D defs (k + 1) i = d.run D (callPP D defs k).1 (callPP D defs k).2 := by
        show stepP D defs _ _ i = _
        unfold stepP
        rw [e]
      rw [e2]
      exact r
    exact ⟨h, glob_of (T z) h (.inr ⟨k, rfl, (ih z).1⟩)⟩
end
end PV

set_option maxRecDepth 100000
set_option maxHeartbeats 1000000
/-! the program's defs (printed by gen_defs.py) -/
namespace PV
open PySem PySem.Spec PyProof.Rows L2
def top (i : Nat) : Stmt := PySem.Challenge.pw_waryrig_k83_whole_a_row_of_faults_told_o.main.body.getD i (.Pass ⟨0, 0, 0, 0⟩)
def mth (i j : Nat) : Stmt := match top i with
  | .ClassDef (body := b) .. => b.getD j (.Pass ⟨0, 0, 0, 0⟩)
  | _ => .Pass ⟨0, 0, 0, 0⟩
def ql0 : Option Str := some "wrong_part"
def d_is_whole : DefI := ⟨[("thing" : Str)], [("thing" : Str)], [], [], C8.fnScope (top 16), C8.fnBody (top 16), none⟩
def d_is_between : DefI := ⟨[("thing" : Str), ("least" : Str), ("most" : Str)], [("thing" : Str), ("least" : Str), ("most" : Str)], [], [], C8.fnScope (top 17), C8.fnBody (top 17), none⟩
def d_is_below : DefI := ⟨[("thing" : Str), ("bound" : Str)], [("thing" : Str), ("bound" : Str)], [], [], C8.fnScope (top 18), C8.fnBody (top 18), none⟩
def d_is_ascending : DefI := ⟨[("thing" : Str), ("bound" : Str), ("one" : Str), ("at" : Str)], [("thing" : Str), ("bound" : Str)], [], [], C8.fnScope (top 19), C8.fnBody (top 19), none⟩
def d_is_tuple_of : DefI := ⟨[("thing" : Str), ("least" : Str), ("most" : Str)], [("thing" : Str), ("least" : Str), ("most" : Str)], [], [], C8.fnScope (top 20), C8.fnBody (top 20), none⟩
def d_first_of : DefI := ⟨[("wrong" : Str)], [("wrong" : Str)], [], [], C8.fnScope (top 21), C8.fnBody (top 21), none⟩
def d_wrong_in : DefI := ⟨[("part" : Str), ("things" : Str), ("wrong" : Str), ("at" : Str), ("thing" : Str)], [("part" : Str), ("things" : Str), ("wrong" : Str)], [], [], C8.fnScope (top 22), C8.fnBody (top 22), none⟩
def d_is_signs : DefI := ⟨[("thing" : Str), ("n" : Str), ("sign" : Str)], [("thing" : Str), ("n" : Str)], [], [], C8.fnScope (top 23), C8.fnBody (top 23), none⟩
def d_is_move : DefI := ⟨[("thing" : Str), ("many" : Str), ("setting" : Str)], [("thing" : Str), ("many" : Str)], [], [], C8.fnScope (top 24), C8.fnBody (top 24), none⟩
def d_wrong_move : DefI := ⟨[("moves" : Str), ("many" : Str), ("at" : Str), ("move" : Str)], [("moves" : Str), ("many" : Str)], [], [], C8.fnScope (top 25), C8.fnBody (top 25), none⟩
def d_wrong_part : DefI := ⟨[("thing" : Str), ("n" : Str), ("q" : Str), ("cures" : Str), ("signs" : Str), ("moves" : Str), ("where" : Str)], [("thing" : Str)], [], [], C8.fnScope (top 26), C8.fnBody (top 26), ql0⟩
def d_made_rig : DefI := ⟨[("thing" : Str), ("where" : Str)], [("thing" : Str)], [], [], C8.fnScope (top 27), C8.fnBody (top 27), none⟩
def d_is_rig : DefI := ⟨[("thing" : Str)], [("thing" : Str)], [], [], C8.fnScope (top 28), C8.fnBody (top 28), none⟩
def d_is_fault : DefI := ⟨[("rig" : Str), ("x" : Str)], [("rig" : Str), ("x" : Str)], [], [], C8.fnScope (top 29), C8.fnBody (top 29), none⟩
def d_is_setting : DefI := ⟨[("rig" : Str), ("g" : Str)], [("rig" : Str), ("g" : Str)], [], [], C8.fnScope (top 30), C8.fnBody (top 30), none⟩
def d_want_fault : DefI := ⟨[("rig" : Str), ("x" : Str)], [("rig" : Str), ("x" : Str)], [], [], C8.fnScope (top 31), C8.fnBody (top 31), none⟩
def d_neighbours_of : DefI := ⟨[("rig" : Str), ("g" : Str), ("ends" : Str), ("number" : Str), ("pair" : Str)], [("rig" : Str), ("g" : Str)], [], [], C8.fnScope (top 32), C8.fnBody (top 32), none⟩
def d_move_between : DefI := ⟨[("rig" : Str), ("g" : Str), ("h" : Str), ("pair" : Str)], [("rig" : Str), ("g" : Str), ("h" : Str)], [], [], C8.fnScope (top 33), C8.fnBody (top 33), none⟩
def d_is_lot : DefI := ⟨[("rig" : Str), ("thing" : Str)], [("rig" : Str), ("thing" : Str)], [], [], C8.fnScope (top 35), C8.fnBody (top 35), none⟩
def d_every_fault : DefI := ⟨[("rig" : Str)], [("rig" : Str)], [], [], C8.fnScope (top 36), C8.fnBody (top 36), none⟩
def d_cures_of : DefI := ⟨[("rig" : Str), ("lot" : Str), ("r" : Str), ("x" : Str)], [("rig" : Str), ("lot" : Str)], [], [], C8.fnScope (top 37), C8.fnBody (top 37), none⟩
def d_is_done : DefI := ⟨[("rig" : Str), ("lot" : Str)], [("rig" : Str), ("lot" : Str)], [], [], C8.fnScope (top 38), C8.fnBody (top 38), none⟩
def d_agreeing_in : DefI := ⟨[("rig" : Str), ("lot" : Str), ("x" : Str), ("settings" : Str), ("y" : Str), ("g" : Str)], [("rig" : Str), ("lot" : Str), ("x" : Str), ("settings" : Str)], [], [], C8.fnScope (top 39), C8.fnBody (top 39), none⟩
def d_signs_in : DefI := ⟨[("rig" : Str), ("lot" : Str), ("g" : Str), ("x" : Str)], [("rig" : Str), ("lot" : Str), ("g" : Str)], [], [], C8.fnScope (top 40), C8.fnBody (top 40), none⟩
def d_has_one_sign : DefI := ⟨[("rig" : Str), ("lot" : Str), ("g" : Str)], [("rig" : Str), ("lot" : Str), ("g" : Str)], [], [], C8.fnScope (top 41), C8.fnBody (top 41), none⟩
def d_parts_at : DefI := ⟨[("rig" : Str), ("lot" : Str), ("g" : Str), ("x" : Str), ("sign" : Str)], [("rig" : Str), ("lot" : Str), ("g" : Str)], [], [], C8.fnScope (top 42), C8.fnBody (top 42), none⟩
def d_is_within : DefI := ⟨[("lot" : Str), ("other" : Str), ("x" : Str)], [("lot" : Str), ("other" : Str)], [], [], C8.fnScope (top 43), C8.fnBody (top 43), none⟩
def d_is_bar : DefI := ⟨[("rig" : Str), ("thing" : Str)], [("rig" : Str), ("thing" : Str)], [], [], C8.fnScope (top 47), C8.fnBody (top 47), none⟩
def d_are_bars : DefI := ⟨[("rig" : Str), ("thing" : Str), ("lot" : Str), ("at" : Str)], [("rig" : Str), ("thing" : Str)], [], [], C8.fnScope (top 48), C8.fnBody (top 48), none⟩
def d_wrong_bars : DefI := ⟨[("rig" : Str), ("bars" : Str), ("many" : Str), ("move" : Str), ("lots" : Str)], [("rig" : Str), ("bars" : Str)], [], [], C8.fnScope (top 49), C8.fnBody (top 49), none⟩
def d_made_book : DefI := ⟨[("thing" : Str), ("wrong" : Str)], [("thing" : Str)], [], [], C8.fnScope (top 50), C8.fnBody (top 50), none⟩
def d_is_book : DefI := ⟨[("thing" : Str)], [("thing" : Str)], [], [], C8.fnScope (top 51), C8.fnBody (top 51), none⟩
def d_bar_at : DefI := ⟨[("book" : Str), ("lot" : Str), ("move" : Str), ("bar" : Str)], [("book" : Str), ("lot" : Str), ("move" : Str)], [], [], C8.fnScope (top 53), C8.fnBody (top 53), none⟩
def d_is_free : DefI := ⟨[("book" : Str), ("lot" : Str), ("move" : Str)], [("book" : Str), ("lot" : Str), ("move" : Str)], [], [], C8.fnScope (top 54), C8.fnBody (top 54), none⟩
def d_free_neighbours : DefI := ⟨[("book" : Str), ("lot" : Str), ("g" : Str), ("h" : Str), ("move" : Str)], [("book" : Str), ("lot" : Str), ("g" : Str)], [], [], C8.fnScope (top 56), C8.fnBody (top 56), none⟩
def d_distances : DefI := ⟨[("book" : Str), ("lot" : Str), ("g" : Str), ("found" : Str), ("waiting" : Str), ("later" : Str), ("here" : Str), ("h" : Str)], [("book" : Str), ("lot" : Str), ("g" : Str)], [("found" : Str), ("later" : Str)], [], C8.fnScope (top 57), C8.fnBody (top 57), none⟩
def d_region_of : DefI := ⟨[("book" : Str), ("lot" : Str), ("g" : Str)], [("book" : Str), ("lot" : Str), ("g" : Str)], [], [], C8.fnScope (top 58), C8.fnBody (top 58), none⟩
def d_way_of : DefI := ⟨[("book" : Str), ("lot" : Str), ("g" : Str), ("h" : Str), ("left" : Str), ("found" : Str), ("nearer" : Str), ("k" : Str)], [("book" : Str), ("lot" : Str), ("g" : Str), ("h" : Str)], [("found" : Str)], [], C8.fnScope (top 59), C8.fnBody (top 59), none⟩
def d_home_of : DefI := ⟨[("rig" : Str)], [("rig" : Str)], [], [], C8.fnScope (top 61), C8.fnBody (top 61), none⟩
def d_is_start : DefI := ⟨[("rig" : Str), ("thing" : Str)], [("rig" : Str), ("thing" : Str)], [], [], C8.fnScope (top 62), C8.fnBody (top 62), none⟩
def d_want_start : DefI := ⟨[("rig" : Str), ("thing" : Str)], [("rig" : Str), ("thing" : Str)], [], [], C8.fnScope (top 63), C8.fnBody (top 63), none⟩
def d_made_start : DefI := ⟨[("rig" : Str), ("thing" : Str)], [("rig" : Str), ("thing" : Str)], [], [], C8.fnScope (top 64), C8.fnBody (top 64), none⟩
def d_want_fault_in : DefI := ⟨[("rig" : Str), ("lot" : Str), ("x" : Str)], [("rig" : Str), ("lot" : Str), ("x" : Str)], [], [], C8.fnScope (top 65), C8.fnBody (top 65), none⟩
def d_is_way : DefI := ⟨[("rig" : Str), ("thing" : Str), ("g" : Str)], [("rig" : Str), ("thing" : Str)], [], [], C8.fnScope (top 70), C8.fnBody (top 70), none⟩
def d_is_branch : DefI := ⟨[("thing" : Str), ("at" : Str)], [("thing" : Str), ("at" : Str)], [], [], C8.fnScope (top 71), C8.fnBody (top 71), none⟩
def d_are_branches : DefI := ⟨[("thing" : Str), ("at" : Str), ("branch" : Str), ("k" : Str)], [("thing" : Str), ("at" : Str)], [], [], C8.fnScope (top 72), C8.fnBody (top 72), none⟩
def d_is_row : DefI := ⟨[("rig" : Str), ("thing" : Str), ("at" : Str)], [("rig" : Str), ("thing" : Str), ("at" : Str)], [], [], C8.fnScope (top 73), C8.fnBody (top 73), none⟩
def d_has_size : DefI := ⟨[("thing" : Str)], [("thing" : Str)], [], [], C8.fnScope (top 74), C8.fnBody (top 74), none⟩
def d_first_wrong : DefI := ⟨[("rig" : Str), ("rows" : Str), ("at" : Str), ("row" : Str)], [("rig" : Str), ("rows" : Str)], [], [], C8.fnScope (top 75), C8.fnBody (top 75), none⟩
def d_want_code : DefI := ⟨[("rig" : Str), ("thing" : Str), ("at" : Str)], [("rig" : Str), ("thing" : Str)], [], [], C8.fnScope (top 76), C8.fnBody (top 76), none⟩
def d_tells_code : DefI := ⟨[("rig" : Str), ("thing" : Str)], [("rig" : Str), ("thing" : Str)], [], [], C8.fnScope (top 77), C8.fnBody (top 77), none⟩
def d_joined : DefI := ⟨[("tree" : Str), ("word" : Str), ("way" : Str), ("rest" : Str), ("branches" : Str), ("sign" : Str), ("part" : Str), ("first" : Str), ("_" : Str)], [("tree" : Str)], [], [], C8.fnScope (top 78), C8.fnBody (top 78), none⟩
def d_Rows_init : DefI := ⟨[("self" : Str)], [("self" : Str)], [], [], C8.fnScope (mth 79 0), C8.fnBody (mth 79 0), none⟩
def d_Rows_number : DefI := ⟨[("self" : Str), ("tree" : Str), ("word" : Str), ("way" : Str), ("rest" : Str), ("sign" : Str), ("part" : Str), ("row" : Str)], [("self" : Str), ("tree" : Str)], [], [], C8.fnScope (mth 79 1), C8.fnBody (mth 79 1), none⟩
def d_flat : DefI := ⟨[("tree" : Str), ("rows" : Str)], [("tree" : Str)], [], [], C8.fnScope (top 80), C8.fnBody (top 80), none⟩
def d_coded : DefI := ⟨[("tree" : Str)], [("tree" : Str)], [], [], C8.fnScope (top 81), C8.fnBody (top 81), none⟩
def d_Run_init : DefI := ⟨[("self" : Str), ("book" : Str), ("lot" : Str), ("g" : Str), ("x" : Str)], [("self" : Str), ("book" : Str), ("lot" : Str), ("g" : Str), ("x" : Str)], [], [], C8.fnScope (mth 82 0), C8.fnBody (mth 82 0), none⟩
def d_Run_go : DefI := ⟨[("self" : Str), ("h" : Str), ("move" : Str), ("lot" : Str)], [("self" : Str), ("h" : Str)], [], [], C8.fnScope (mth 82 1), C8.fnBody (mth 82 1), none⟩
def d_Run_go_all : DefI := ⟨[("self" : Str), ("way" : Str), ("h" : Str), ("wrong" : Str)], [("self" : Str), ("way" : Str)], [], [], C8.fnScope (mth 82 2), C8.fnBody (mth 82 2), none⟩
def d_Run_last : DefI := ⟨[("self" : Str), ("code" : Str), ("at" : Str), ("word" : Str), ("way" : Str), ("rest" : Str), ("wrong" : Str), ("sign" : Str), ("rows" : Str), ("told" : Str), ("row" : Str)], [("self" : Str), ("code" : Str)], [], [], C8.fnScope (mth 82 3), C8.fnBody (mth 82 3), none⟩
def d_run_from : DefI := ⟨[("book" : Str), ("code" : Str), ("lot" : Str), ("g" : Str), ("x" : Str), ("run" : Str), ("last" : Str)], [("book" : Str), ("code" : Str), ("lot" : Str), ("g" : Str), ("x" : Str)], [], [], C8.fnScope (top 83), C8.fnBody (top 83), none⟩
def d_run_code : DefI := ⟨[("book" : Str), ("code" : Str), ("start" : Str), ("x" : Str), ("lot" : Str), ("g" : Str)], [("book" : Str), ("code" : Str), ("start" : Str), ("x" : Str)], [], [], C8.fnScope (top 84), C8.fnBody (top 84), none⟩
def d_cures : DefI := ⟨[("rig" : Str), ("last" : Str), ("x" : Str)], [("rig" : Str), ("last" : Str), ("x" : Str)], [], [], C8.fnScope (top 85), C8.fnBody (top 85), none⟩
def d_is_right_code : DefI := ⟨[("book" : Str), ("code" : Str), ("lot" : Str), ("g" : Str), ("x" : Str)], [("book" : Str), ("code" : Str), ("lot" : Str), ("g" : Str)], [], [], C8.fnScope (top 86), C8.fnBody (top 86), none⟩
def d_code_right : DefI := ⟨[("book" : Str), ("code" : Str), ("start" : Str), ("lot" : Str), ("g" : Str)], [("book" : Str), ("code" : Str), ("start" : Str)], [], [], C8.fnScope (top 87), C8.fnBody (top 87), none⟩
def d_nearest : DefI := ⟨[("book" : Str), ("lot" : Str), ("g" : Str), ("far" : Str), ("parting" : Str), ("h" : Str)], [("book" : Str), ("lot" : Str), ("g" : Str)], [], [("far" : Str)], C8.fnScope (top 89), C8.fnBody (top 89), none⟩
def d_look_from : DefI := ⟨[("book" : Str), ("lot" : Str), ("g" : Str), ("h" : Str), ("way" : Str), ("branches" : Str), ("sign" : Str), ("part" : Str), ("_" : Str), ("tree" : Str)], [("book" : Str), ("lot" : Str), ("g" : Str), ("h" : Str)], [], [], C8.fnScope (top 90), C8.fnBody (top 90), none⟩
def d_tree_from : DefI := ⟨[("book" : Str), ("lot" : Str), ("g" : Str), ("remedies" : Str), ("h" : Str)], [("book" : Str), ("lot" : Str), ("g" : Str)], [], [], C8.fnScope (top 91), C8.fnBody (top 91), none⟩
def d_code_from : DefI := ⟨[("book" : Str), ("lot" : Str), ("g" : Str), ("tree" : Str)], [("book" : Str), ("lot" : Str), ("g" : Str)], [], [], C8.fnScope (top 92), C8.fnBody (top 92), none⟩
def d_code_for : DefI := ⟨[("book" : Str), ("start" : Str), ("lot" : Str), ("g" : Str)], [("book" : Str), ("start" : Str)], [], [], C8.fnScope (top 93), C8.fnBody (top 93), none⟩
def d_can_end : DefI := ⟨[("book" : Str), ("lot" : Str), ("g" : Str)], [("book" : Str)], [], [], C8.fnScope (top 94), C8.fnBody (top 94), none⟩
def d_solvable : DefI := ⟨[("book" : Str)], [("book" : Str)], [], [], C8.fnScope (top 95), C8.fnBody (top 95), none⟩
def d_course_of : DefI := ⟨[("book" : Str), ("x" : Str), ("rig" : Str), ("lots" : Str), ("is_less" : Str), ("known" : Str)], [("book" : Str), ("x" : Str)], [("lots" : Str)], [], C8.fnScope (top 97), C8.fnBody (top 97), none⟩
def d_course : DefI := ⟨[("book" : Str), ("x" : Str)], [("book" : Str), ("x" : Str)], [], [], C8.fnScope (top 98), C8.fnBody (top 98), none⟩
def d_all_courses : DefI := ⟨[("book" : Str), ("rig" : Str), ("told" : Str), ("x" : Str), ("lots" : Str)], [("book" : Str)], [], [], C8.fnScope (top 99), C8.fnBody (top 99), none⟩
def d_trips : DefI := ⟨[("book" : Str), ("told" : Str), ("lots" : Str)], [("book" : Str)], [], [], C8.fnScope (top 100), C8.fnBody (top 100), none⟩
def d_chain : DefI := ⟨[("book" : Str), ("told" : Str), ("most" : Str), ("lots" : Str), ("longest" : Str)], [("book" : Str)], [], [], C8.fnScope (top 102), C8.fnBody (top 102), none⟩
def d_unlike_entries : DefI := ⟨[("rig" : Str), ("x" : Str), ("entries" : Str), ("g" : Str), ("sign" : Str)], [("rig" : Str), ("x" : Str), ("entries" : Str)], [], [], C8.fnScope (top 104), C8.fnBody (top 104), none⟩
def d_faults_left : DefI := ⟨[("rig" : Str), ("lot" : Str), ("journal" : Str), ("x" : Str)], [("rig" : Str), ("lot" : Str), ("journal" : Str)], [], [], C8.fnScope (top 105), C8.fnBody (top 105), none⟩
def d_way_deeds : DefI := ⟨[("rig" : Str), ("way" : Str), ("x" : Str), ("found" : Str), ("g" : Str)], [("rig" : Str), ("way" : Str), ("x" : Str)], [("found" : Str)], [], C8.fnScope (top 109), C8.fnBody (top 109), none⟩
def d_setting_behind : DefI := ⟨[("deeds" : Str), ("g" : Str), ("gone" : Str), ("deed" : Str)], [("deeds" : Str), ("g" : Str)], [], [], C8.fnScope (top 110), C8.fnBody (top 110), none⟩
def d_deeds_from : DefI := ⟨[("rig" : Str), ("code" : Str), ("g" : Str), ("x" : Str), ("found" : Str), ("row" : Str), ("seen" : Str)], [("rig" : Str), ("code" : Str), ("g" : Str), ("x" : Str)], [("found" : Str)], [], C8.fnScope (top 111), C8.fnBody (top 111), none⟩
def d_walk_of : DefI := ⟨[("deeds" : Str), ("deed" : Str)], [("deeds" : Str)], [], [], C8.fnScope (top 112), C8.fnBody (top 112), none⟩
def d_journal_of : DefI := ⟨[("deeds" : Str), ("deed" : Str)], [("deeds" : Str)], [], [], C8.fnScope (top 113), C8.fnBody (top 113), none⟩
def d_first_bad_cut : DefI := ⟨[("cuts" : Str), ("index" : Str), ("cut" : Str)], [("cuts" : Str)], [], [], C8.fnScope (top 114), C8.fnBody (top 114), none⟩
def d_want_cuts : DefI := ⟨[("cuts" : Str), ("index" : Str)], [("cuts" : Str)], [], [], C8.fnScope (top 115), C8.fnBody (top 115), none⟩
def d_want_run : DefI := ⟨[("book" : Str), ("code" : Str), ("x" : Str), ("cuts" : Str)], [("book" : Str), ("code" : Str), ("x" : Str), ("cuts" : Str)], [], [], C8.fnScope (top 116), C8.fnBody (top 116), none⟩
def d_run_cut : DefI := ⟨[("book" : Str), ("code" : Str), ("x" : Str), ("cuts" : Str), ("rig" : Str), ("done" : Str), ("coming" : Str), ("cut" : Str), ("at" : Str), ("lot" : Str)], [("book" : Str), ("code" : Str), ("x" : Str), ("cuts" : Str)], [], [], C8.fnScope (top 117), C8.fnBody (top 117), none⟩
def d_law_pool : DefI := ⟨[("_law_script" : Str), ("_law_k" : Str), ("_law_cell" : Str), ("_law_big" : Str), ("_law_mixed_here" : Str)], [("_law_script" : Str), ("_law_k" : Str)], [], [], C8.fnScope (top 119), C8.fnBody (top 119), none⟩
def d_law_take : DefI := ⟨[("_law_source" : Str), ("_law_top" : Str), ("_law_drawn" : Str)], [("_law_source" : Str), ("_law_top" : Str)], [("_law_source" : Str)], [], C8.fnScope (top 120), C8.fnBody (top 120), none⟩
def d_law_one : DefI := ⟨[("_law_source" : Str), ("_law_things" : Str)], [("_law_source" : Str), ("_law_things" : Str)], [], [], C8.fnScope (top 121), C8.fnBody (top 121), none⟩
def d_law_mixed : DefI := ⟨[("_law_source" : Str), ("_law_things" : Str), ("_law_rest" : Str), ("_law_found" : Str), ("_law_turn" : Str)], [("_law_source" : Str), ("_law_things" : Str)], [("_law_found" : Str), ("_law_rest" : Str)], [], C8.fnScope (top 122), C8.fnBody (top 122), none⟩
def d_law_all : DefI := ⟨[("_law_rig" : Str), ("_law_x" : Str)], [("_law_rig" : Str)], [], [], C8.fnScope (top 123), C8.fnBody (top 123), none⟩
def d_law_row_bars : DefI := ⟨[("_law_source" : Str), ("_law_n" : Str), ("_law_found" : Str), ("_law_g" : Str), ("_law_later" : Str), ("_law_y" : Str)], [("_law_source" : Str), ("_law_n" : Str)], [("_law_found" : Str)], [], C8.fnScope (top 124), C8.fnBody (top 124), none⟩
def d_law_row_book : DefI := ⟨[("_law_source" : Str), ("_law_n" : Str), ("_law_q" : Str), ("_law_signs" : Str), ("_law_g" : Str), ("_law_odd" : Str), ("_law_x" : Str), ("_law_cures" : Str), ("_law_moves" : Str)], [("_law_source" : Str)], [("_law_signs" : Str)], [], C8.fnScope (top 125), C8.fnBody (top 125), none⟩
def d_law_due_code : DefI := ⟨[("_law_rig" : Str), ("_law_rows" : Str), ("_law_here" : Str), ("_law_g" : Str), ("_law_cure" : Str)], [("_law_rig" : Str)], [("_law_rows" : Str)], [], C8.fnScope (top 126), C8.fnBody (top 126), none⟩
def d_law_due_walk : DefI := ⟨[("_law_rig" : Str), ("_law_x" : Str), ("_law_g" : Str)], [("_law_rig" : Str), ("_law_x" : Str)], [], [], C8.fnScope (top 127), C8.fnBody (top 127), none⟩
def d_law_due_course : DefI := ⟨[("_law_rig" : Str), ("_law_x" : Str), ("_law_n" : Str), ("_law_found" : Str), ("_law_j" : Str), ("_law_y" : Str)], [("_law_rig" : Str), ("_law_x" : Str)], [("_law_found" : Str)], [], C8.fnScope (top 128), C8.fnBody (top 128), none⟩
def d_law_sees : DefI := ⟨[("_law_rig" : Str), ("_law_x" : Str), ("_law_cuts" : Str), ("_law_walk" : Str), ("_law_found" : Str), ("_law_place" : Str), ("_law_turn" : Str), ("_law_still" : Str), ("_law_is_seen" : Str)], [("_law_rig" : Str), ("_law_x" : Str), ("_law_cuts" : Str)], [("_law_found" : Str)], [], C8.fnScope (top 129), C8.fnBody (top 129), none⟩
def d_law_fault_right : DefI := ⟨[("_law_book" : Str), ("_law_rows" : Str), ("_law_x" : Str), ("_law_rig" : Str), ("_law_due" : Str)], [("_law_book" : Str), ("_law_rows" : Str), ("_law_x" : Str)], [], [], C8.fnScope (top 130), C8.fnBody (top 130), none⟩
def d_law : DefI := ⟨[("_law_script" : Str), ("_law_source" : Str), ("_law_second" : Str), ("_law_book" : Str), ("_law_rig" : Str), ("_law_start" : Str), ("_law_n" : Str), ("_law_rows" : Str), ("_law_faults" : Str), ("_law_x" : Str), ("_law_cuts" : Str), ("_law_turn" : Str), ("_law_due" : Str)], [("_law_script" : Str)], [("_law_source" : Str), ("_law_second" : Str)], [], C8.fnScope (top 131), C8.fnBody (top 131), none⟩
def defsL : List DefI := [d_is_whole, d_is_between, d_is_below, d_is_ascending, d_is_tuple_of, d_first_of, d_wrong_in, d_is_signs, d_is_move, d_wrong_move, d_wrong_part, d_made_rig, d_is_rig, d_is_fault, d_is_setting, d_want_fault, d_neighbours_of, d_move_between, d_is_lot, d_every_fault, d_cures_of, d_is_done, d_agreeing_in, d_signs_in, d_has_one_sign, d_parts_at, d_is_within, d_is_bar, d_are_bars, d_wrong_bars, d_made_book, d_is_book, d_bar_at, d_is_free, d_free_neighbours, d_distances, d_region_of, d_way_of, d_home_of, d_is_start, d_want_start, d_made_start, d_want_fault_in, d_is_way, d_is_branch, d_are_branches, d_is_row, d_has_size, d_first_wrong, d_want_code, d_tells_code, d_joined, d_Rows_init, d_Rows_number, d_flat, d_coded, d_Run_init, d_Run_go, d_Run_go_all, d_Run_last, d_run_from, d_run_code, d_cures, d_is_right_code, d_code_right, d_nearest, d_look_from, d_tree_from, d_code_from, d_code_for, d_can_end, d_solvable, d_course_of, d_course, d_all_courses, d_trips, d_chain, d_unlike_entries, d_faults_left, d_way_deeds, d_setting_behind, d_deeds_from, d_walk_of, d_journal_of, d_first_bad_cut, d_want_cuts, d_want_run, d_run_cut, d_law_pool, d_law_take, d_law_one, d_law_mixed, d_law_all, d_law_row_bars, d_law_row_book, d_law_due_code, d_law_due_walk, d_law_due_course, d_law_sees, d_law_fault_right, d_law]
def defs (i : Nat) : Option DefI := defsL[i]?
def conL : List (Str × PyData) := [(("MOST_FAULTS" : Str), .int 24), (("MOST_REMEDIES" : Str), .int 16), (("MOST_SETTINGS" : Str), .int 40), (("MOST_SIGN" : Str), .int 9), (("MOST_MOVES" : Str), .int 200), (("HOME" : Str), .int 0), (("MOST_BARS" : Str), .int 200), (("MOST_IN_BAR" : Str), .int 3), (("MOST_ROWS" : Str), .int 2000), (("MOST_WAY" : Str), .int 2000), (("MANY_SIGNS" : Str), .int 10), (("MOST_CUTS" : Str), .int 20), (("MOST_DEEDS" : Str), .int 5000)]
def fnsL : List (Str × Nat × Nat) := [(("is_whole" : Str), 0, 1), (("is_between" : Str), 1, 3), (("is_below" : Str), 2, 2), (("is_ascending" : Str), 3, 2), (("is_tuple_of" : Str), 4, 3), (("first_of" : Str), 5, 1), (("wrong_in" : Str), 6, 3), (("is_signs" : Str), 7, 2), (("is_move" : Str), 8, 2), (("wrong_move" : Str), 9, 2), (("wrong_part" : Str), 10, 1), (("made_rig" : Str), 11, 1), (("is_rig" : Str), 12, 1), (("is_fault" : Str), 13, 2), (("is_setting" : Str), 14, 2), (("want_fault" : Str), 15, 2), (("neighbours_of" : Str), 16, 2), (("move_between" : Str), 17, 3), (("is_lot" : Str), 18, 2), (("every_fault" : Str), 19, 1), (("cures_of" : Str), 20, 2), (("is_done" : Str), 21, 2), (("agreeing_in" : Str), 22, 4), (("signs_in" : Str), 23, 3), (("has_one_sign" : Str), 24, 3), (("parts_at" : Str), 25, 3), (("is_within" : Str), 26, 2), (("is_bar" : Str), 27, 2), (("are_bars" : Str), 28, 2), (("wrong_bars" : Str), 29, 2), (("made_book" : Str), 30, 1), (("is_book" : Str), 31, 1), (("bar_at" : Str), 32, 3), (("is_free" : Str), 33, 3), (("free_neighbours" : Str), 34, 3), (("distances" : Str), 35, 3), (("region_of" : Str), 36, 3), (("way_of" : Str), 37, 4), (("home_of" : Str), 38, 1), (("is_start" : Str), 39, 2), (("want_start" : Str), 40, 2), (("made_start" : Str), 41, 2), (("want_fault_in" : Str), 42, 3), (("is_way" : Str), 43, 2), (("is_branch" : Str), 44, 2), (("are_branches" : Str), 45, 2), (("is_row" : Str), 46, 3), (("has_size" : Str), 47, 1), (("first_wrong" : Str), 48, 2), (("want_code" : Str), 49, 2), (("tells_code" : Str), 50, 2), (("joined" : Str), 51, 1), (("flat" : Str), 54, 1), (("coded" : Str), 55, 1), (("run_from" : Str), 60, 5), (("run_code" : Str), 61, 4), (("cures" : Str), 62, 3), (("is_right_code" : Str), 63, 4), (("code_right" : Str), 64, 3), (("nearest" : Str), 65, 3), (("look_from" : Str), 66, 4), (("tree_from" : Str), 67, 3), (("code_from" : Str), 68, 3), (("code_for" : Str), 69, 2), (("can_end" : Str), 70, 1), (("solvable" : Str), 71, 1), (("course_of" : Str), 72, 2), (("course" : Str), 73, 2), (("all_courses" : Str), 74, 1), (("trips" : Str), 75, 1), (("chain" : Str), 76, 1), (("unlike_entries" : Str), 77, 3), (("faults_left" : Str), 78, 3), (("way_deeds" : Str), 79, 3), (("setting_behind" : Str), 80, 2), (("deeds_from" : Str), 81, 4), (("walk_of" : Str), 82, 1), (("journal_of" : Str), 83, 1), (("first_bad_cut" : Str), 84, 1), (("want_cuts" : Str), 85, 1), (("want_run" : Str), 86, 4), (("run_cut" : Str), 87, 4), (("_law_pool" : Str), 88, 2), (("_law_take" : Str), 89, 2), (("_law_one" : Str), 90, 2), (("_law_mixed" : Str), 91, 2), (("_law_all" : Str), 92, 1), (("_law_row_bars" : Str), 93, 2), (("_law_row_book" : Str), 94, 1), (("_law_due_code" : Str), 95, 1), (("_law_due_walk" : Str), 96, 2), (("_law_due_course" : Str), 97, 2), (("_law_sees" : Str), 98, 3), (("_law_fault_right" : Str), 99, 3), (("law" : Str), 100, 1)]
def clsL : List (Str × Nat × Nat) := [(("Rows" : Str), 52, 1), (("Run" : Str), 56, 5)]
def mthL : List (Str × Str × Nat × Nat) := [(("number" : Str), ("Rows" : Str), 53, 2), (("go" : Str), ("Run" : Str), 57, 2), (("go_all" : Str), ("Run" : Str), 58, 2), (("last" : Str), ("Run" : Str), 59, 2)]
def fldL : List (Str × Str) := [(("rows" : Str), ("Rows" : Str)), (("book" : Str), ("Run" : Str)), (("x" : Str), ("Run" : Str)), (("walk" : Str), ("Run" : Str)), (("known" : Str), ("Run" : Str))]
abbrev i_is_whole : Nat := 0
abbrev i_is_between : Nat := 1
abbrev i_is_below : Nat := 2
abbrev i_is_ascending : Nat := 3
abbrev i_is_tuple_of : Nat := 4
abbrev i_first_of : Nat := 5
abbrev i_wrong_in : Nat := 6
abbrev i_is_signs : Nat := 7
abbrev i_is_move : Nat := 8
abbrev i_wrong_move : Nat := 9
abbrev i_wrong_part : Nat := 10
abbrev i_made_rig : Nat := 11
abbrev i_is_rig : Nat := 12
abbrev i_is_fault : Nat := 13
abbrev i_is_setting : Nat := 14
abbrev i_want_fault : Nat := 15
abbrev i_neighbours_of : Nat := 16
abbrev i_move_between : Nat := 17
abbrev i_is_lot : Nat := 18
abbrev i_every_fault : Nat := 19
abbrev i_cures_of : Nat := 20
abbrev i_is_done : Nat := 21
abbrev i_agreeing_in : Nat := 22
abbrev i_signs_in : Nat := 23
abbrev i_has_one_sign : Nat := 24
abbrev i_parts_at : Nat := 25
abbrev i_is_within : Nat := 26
abbrev i_is_bar : Nat := 27
abbrev i_are_bars : Nat := 28
abbrev i_wrong_bars : Nat := 29
abbrev i_made_book : Nat := 30
abbrev i_is_book : Nat := 31
abbrev i_bar_at : Nat := 32
abbrev i_is_free : Nat := 33
abbrev i_free_neighbours : Nat := 34
abbrev i_distances : Nat := 35
abbrev i_region_of : Nat := 36
abbrev i_way_of : Nat := 37
abbrev i_home_of : Nat := 38
abbrev i_is_start : Nat := 39
abbrev i_want_start : Nat := 40
abbrev i_made_start : Nat := 41
abbrev i_want_fault_in : Nat := 42
abbrev i_is_way : Nat := 43
abbrev i_is_branch : Nat := 44
abbrev i_are_branches : Nat := 45
abbrev i_is_row : Nat := 46
abbrev i_has_size : Nat := 47
abbrev i_first_wrong : Nat := 48
abbrev i_want_code : Nat := 49
abbrev i_tells_code : Nat := 50
abbrev i_joined : Nat := 51
abbrev i_Rows_init : Nat := 52
abbrev i_Rows_number : Nat := 53
abbrev i_flat : Nat := 54
abbrev i_coded : Nat := 55
abbrev i_Run_init : Nat := 56
abbrev i_Run_go : Nat := 57
abbrev i_Run_go_all : Nat := 58
abbrev i_Run_last : Nat := 59
abbrev i_run_from : Nat := 60
abbrev i_run_code : Nat := 61
abbrev i_cures : Nat := 62
abbrev i_is_right_code : Nat := 63
abbrev i_code_right : Nat := 64
abbrev i_nearest : Nat := 65
abbrev i_look_from : Nat := 66
abbrev i_tree_from : Nat := 67
abbrev i_code_from : Nat := 68
abbrev i_code_for : Nat := 69
abbrev i_can_end : Nat := 70
abbrev i_solvable : Nat := 71
abbrev i_course_of : Nat := 72
abbrev i_course : Nat := 73
abbrev i_all_courses : Nat := 74
abbrev i_trips : Nat := 75
abbrev i_chain : Nat := 76
abbrev i_unlike_entries : Nat := 77
abbrev i_faults_left : Nat := 78
abbrev i_way_deeds : Nat := 79
abbrev i_setting_behind : Nat := 80
abbrev i_deeds_from : Nat := 81
abbrev i_walk_of : Nat := 82
abbrev i_journal_of : Nat := 83
abbrev i_first_bad_cut : Nat := 84
abbrev i_want_cuts : Nat := 85
abbrev i_want_run : Nat := 86
abbrev i_run_cut : Nat := 87
abbrev i_law_pool : Nat := 88
abbrev i_law_take : Nat := 89
abbrev i_law_one : Nat := 90
abbrev i_law_mixed : Nat := 91
abbrev i_law_all : Nat := 92
abbrev i_law_row_bars : Nat := 93
abbrev i_law_row_book : Nat := 94
abbrev i_law_due_code : Nat := 95
abbrev i_law_due_walk : Nat := 96
abbrev i_law_due_course : Nat := 97
abbrev i_law_sees : Nat := 98
abbrev i_law_fault_right : Nat := 99
abbrev i_law : Nat := 100
end PV

set_option maxRecDepth 100000
set_option maxHeartbeats 1000000
/-! the tables, the special form -/
namespace PV
open PySem PySem.Spec PyProof.Rows L2
def wgo (lb : Den) (z : Int) : List PyData → Sto → List PyData → Option (List PyData × Sto)
  | [], M, acc => some (acc, M)
  | d :: ds, M, acc => (lb [some (.d d), some (.d (.int z))] M).bind fun p => (asB p.1).bind fun b => if acc.length < big then wgo lb z ds p.2 (acc ++ [.bool b]) else none
def seqOf : Val → Option (List PyData)
  | .d (.tuple ds) => some ds
  | _ => none
/-- wrong_in(i, y, lambda v: ..): lb is the lambda's body over v and the captured number -/
def dWrong (i : Int) (jy jq : Nat) (lb : Den) (first : Fun) : Den := fun ρ M => (dVar jy ρ M).bind fun p => match p.1 with
  | .v x => (seqOf x).bind fun ds => (dVar jq ρ M).bind fun q => match q.1 with
    | .v (.d (.int z)) => if ds.length ≤ big then (wgo lb z ds M []).bind fun t => (first [.d (.list t.1)] t.2).bind fun u => match u.1 with
      | .v (.d .none) => endFn M.length (.v (.d .none)) u.2
      | .v (.d (.int n)) => endFn M.length (.v (.d (.tuple [.int i, .int n]))) u.2
      | _ => none
      else none
    | _ => none
  | _ => none
def spcN (cp : Nat → Fun) (C : SC) : Expr → Option Den := fun _ => none
def tabN : Tab := ⟨conL, fnsL, clsL, mthL, fldL, spcN⟩
def noF : Nat → Fun := fun _ _ _ => none
/-- a lambda of one parameter, of one captured name -/
def lamP : Arguments → Option Str
  | ⟨[], [a], none, [], [], none, []⟩ => some a.arg
  | _ => none
def lamQ (scope : Scope) : Option Str := (scope.names.find? fun y => y.2 == .free).map (·.1)
def lamC (v q : Str) (scope : Scope) : SC := ⟨[v, q], scope, fun _ => false, [], [], 0, none⟩
def lamB (C : SC) (v q : Str) (scope : Scope) : Bool := NdefX.nscB [v, q] [v] [q] scope && (C.sc.names.lookup q == some .cell) && C.fn q && decide (2 ≤ C.sl) && (C.ql == some ("wrong_part" : Str)) && isGlb (C.sc.names.lookup ("wrong_in" : Str))
def spcW (cp : Nat → Fun) (C : SC) : Expr → Option Den
  | .Call (.Name f _) [.Constant (.int i) _ _, .Name y _, .Lambda params body scope _] [] _ =>
    if f = "wrong_in" then some (match lamP params, lamQ scope with
      | some v, some q => (match varIx C y, varIx C q with
        | some jy, some jq => if lamB C v q scope then dWrong i jy jq (denE tabN cp noF 60 (lamC v q scope) body) (cp 5) else dNo
        | _, _ => dNo)
      | _, _ => dNo) else none
  | _ => none
def tab : Tab := ⟨conL, fnsL, clsL, mthL, fldL, spcW⟩
def CP (k : Nat) : Nat → Fun := callP tab defs k
def isT1 : Option (Res × Sto) → String
  | some (.v (.d (.bool b)), M) => s!"{b} {M.length}"
  | some (.v (.d .none), M) => s!"None {M.length}"
  | some (.v (.d (.int i)), M) => s!"int {i}"
  | some (.v (.d (.tuple ds)), M) => "tuple " ++ toString ds.length
  | some (.nl ds, M) => "list " ++ toString ds.length
  | some (.v (.loc k), M) => s!"loc {k}"
  | some (.nd kvs, M) => s!"dict {kvs.length}"
  | some _ => "other"
  | none => "FAIL"
def pI (l : List Int) : PyData := .tuple (l.map .int)
end PV

set_option maxRecDepth 100000
set_option maxHeartbeats 1000000
/-! an object is held fast for the time of a call, or set free for it -/
namespace PV
open PySem PySem.Spec PyProof.Rows L2
abbrev held (o : Obj) : HO := .frz o (.ext fun _ => True)
def era (H : Hp) (p : Addr) : Hp := fun b => if b = p then none else H b
section
variable {P : Program} {w : World} {K : PySem.W.Frag} {mg : Str → Option Value} {base : Heap} {A : Around} {outer : List PySem.Env} {H : Hp} {s s' : Shared} {p b : Addr} {o : Obj} {Q : VK} {E : XK} {u : Value} {r : Result}
theorem era_same : era H p p = none := if_pos rfl
theorem era_ne (h : b ≠ p) : era H p b = H b := if_neg h
theorem held_ok {h : Heap} (ho : h.get? p = some o) : ObjOk P w H h p (held o) := ⟨ho, trivial, ⟨o, ho⟩, fun _ _ _ _ => trivial⟩
theorem hok_add {h : Heap} (hk : HOk P w H h) (hp : H p = none) (ho : h.get? p = some o) : HOk P w (upd H p (held o)) h := fun a v e => by
  by_cases ha : a = p
  · subst ha
    rw [upd_same] at e
    cases e
    exact held_ok ho
  · rw [upd_ne ha] at e
    refine (hk a v e).stay (fun _ _ _ q => q) (fun d q => ?_) fun d xs q => ?_
    · rw [upd_ne (ne_of_none q hp)]; exact q
    · rw [upd_ne (ne_of_none q hp)]; exact q
theorem hok_era {h : Heap} (hk : HOk P w H h) (hp : H p = some (held o)) : HOk P w (era H p) h := fun a v e => by
  have ha : a ≠ p := fun z => by
    subst z
    rw [era_same] at e
    cases e
  rw [era_ne ha] at e
  refine (hk a v e).stay (fun _ _ _ q => q) (fun d q => ?_) fun d xs q => ?_
  · rw [era_ne (ne_of q hp fun z => nomatch z)]; exact q
  · rw [era_ne (ne_of q hp fun z => nomatch z)]; exact q
/-- held for the time of a call -/
theorem ce_hold (hp : H p = none) (ho : s.heap.get? p = some o) (h : CE outer P w (upd H p (held o)) s (fun v H' => H' p = some (held o) → Q v (era H' p)) u s') : CE outer P w H s Q u s' := by
  obtain ⟨v, H', os, bare, un, hk, rv, q⟩ := h
  have hz : H' p = some (held o) := un.frzs p o _ upd_same
  have hg : s'.heap.get? p = some o := (hk p _ hz).1
  refine ⟨v, era H' p, os, bare, ⟨fun b ob e n f x => ?_, fun b ob e n f x => ?_, fun b ob e n x => ?_, un.there, fun b xs e => ?_, fun b ob z e => ?_, fun b ps e => ?_⟩, hok_era hk hz, rv, q hz⟩
  · by_cases hb : b = p
    · subst hb; rw [ho] at e; cases e; exact hg
    · exact un.keep b ob e (by rw [upd_ne hb]; exact n) f x
  · by_cases hb : b = p
    · subst hb; rw [ho] at e; cases e; exact ⟨o.slots, hg⟩
    · exact un.slot b ob e (by rw [upd_ne hb]; exact n) f x
  · by_cases hb : b = p
    · subst hb; exact era_same
    · rw [era_ne hb]; exact un.free b ob e (by rw [upd_ne hb]; exact n) x
  · have hb := ne_of_none e hp
    rw [era_ne hb]; exact un.tups b xs (by rw [upd_ne hb]; exact e)
  · have hb := ne_of_none e hp
    rw [era_ne hb]; exact un.frzs b ob z (by rw [upd_ne hb]; exact e)
  · have hb := ne_of_none e hp
    rw [era_ne hb]; exact un.tbls b ps (by rw [upd_ne hb]; exact e)
/-- set free for the time of a call -/
theorem ce_free (hp : H p = some (held o)) (ho : s.heap.get? p = some o) (hf : p ∉ frs outer) (h : CE outer P w (era H p) s (fun v H' => H' p = none → Q v (upd H' p (held o))) u s') : CE outer P w H s Q u s' := by
  obtain ⟨v, H', os, bare, un, hk, rv, q⟩ := h
  have hn : H' p = none := un.free p o ho era_same (by simp)
  have hg : s'.heap.get? p = some o := un.keep p o ho era_same hf (by simp)
  refine ⟨v, upd H' p (held o), os, bare, ⟨fun b ob e n f x => ?_, fun b ob e n f x => ?_, fun b ob e n x => ?_, un.there, fun b xs e => ?_, fun b ob z e => ?_, fun b ps e => ?_⟩, hok_add hk hn hg, rv, q hn⟩
  · exact un.keep b ob e (by rw [era_ne (ne_of_none hp n).symm]; exact n) f x
  · exact un.slot b ob e (by rw [era_ne (ne_of_none hp n).symm]; exact n) f x
  · have hb := (ne_of_none hp n).symm
    rw [upd_ne hb]; exact un.free b ob e (by rw [era_ne hb]; exact n) x
  · have hb := ne_of e hp fun z => nomatch z
    rw [upd_ne hb]; exact un.tups b xs (by rw [era_ne hb]; exact e)
  · by_cases hb : b = p
    · subst hb
      rw [hp] at e
      cases e
      exact upd_same
    · rw [upd_ne hb]; exact un.frzs b ob z (by rw [era_ne hb]; exact e)
  · have hb := ne_of e hp fun z => nomatch z
    rw [upd_ne hb]; exact un.tbls b ps (by rw [era_ne hb]; exact e)
theorem cr_hold (hp : H p = none) (ho : s.heap.get? p = some o) (h : CR noCX outer P w (upd H p (held o)) s (fun v H' => H' p = some (held o) → Q v (era H' p)) E r s') : CR noCX outer P w H s Q E r s' := by
  cases r with
  | error e => exact h.elim
  | ok fl =>
    cases fl with
    | ret u => exact ce_hold hp ho h
    | next => exact h.elim
    | brk => exact h.elim
    | cont => exact h.elim
theorem cr_free (hp : H p = some (held o)) (ho : s.heap.get? p = some o) (hf : p ∉ frs outer) (h : CR noCX outer P w (era H p) s (fun v H' => H' p = none → Q v (upd H' p (held o))) E r s') : CR noCX outer P w H s Q E r s' := by
  cases r with
  | error e => exact h.elim
  | ok fl =>
    cases fl with
    | ret u => exact ce_free hp ho hf h
    | next => exact h.elim
    | brk => exact h.elim
    | cont => exact h.elim
theorem env0_hold (e : Env0 P w K mg base A outer s H) (hp : H p = none) (ho : s.heap.get? p = some o) (hb : base.get? p = none) (hf : p ∉ frs outer) : Env0 P w K mg base A outer s (upd H p (held o)) :=
  ⟨e.frames, e.mod, fun b ob q => ⟨(e.bs b ob q).1, by rw [upd_ne (fun z => by subst z; rw [hb] at q; cases q)]; exact (e.bs b ob q).2⟩, e.bsz, e.funs, fun b q => by rw [upd_ne (fun z => by subst z; exact hf q)]; exact e.frf b q, hok_add e.hok hp ho, e.bare⟩
theorem env0_free (e : Env0 P w K mg base A outer s H) (hp : H p = some (held o)) : Env0 P w K mg base A outer s (era H p) :=
  ⟨e.frames, e.mod, fun b ob q => ⟨(e.bs b ob q).1, by
    have h1 := (e.bs b ob q).2
    rw [era_ne (ne_of_none hp h1).symm]; exact h1⟩, e.bsz, e.funs, fun b q => by
    have h1 := e.frf b q
    rw [era_ne (ne_of_none hp h1).symm]; exact h1, hok_era e.hok hp, e.bare⟩
end
/-! ### the store -/
section
variable {K : PySem.W.Frag} {ca : Str → Addr} {TI TI' : Hp → Prop} {G G' H H' : Hp} {L L' : List Addr} {M M' : Sto} {p : Addr} {o : Obj} {v : V} {r : Res}
theorem ST.ti_ (s : ST K ca TI G H L M) (h : TI' H) : ST K ca TI' G H L M := ⟨s.ex, s.fr, s.nd, s.len, s.here, s.at_, h, s.kt⟩
theorem ST.hold (s : ST K ca TI G H L M) (hp : H p = none) (h : TI' (upd H p (held o))) : ST K ca TI' G (upd H p (held o)) L M where
  ex := s.ex.trans (Evl.Ex.new hp)
  fr := s.fr
  nd := s.nd
  len := s.len
  here := fun a ha => by
    rw [upd_ne (fun z => by subst z; exact s.here a ha hp)]
    exact s.here a ha
  at_ := fun i a c h1 h2 => (s.at_ i a c h1 h2).keep (Evl.Ex.refl G) (List.prefix_refl L) (upd_ne fun z => by
    subst z
    exact s.here a (List.mem_of_getElem? h1) hp)
  ti := h
  kt := fun a w e f => by
    by_cases ha : a = p
    · subst ha
      exact ⟨fun z => s.here a z hp, Evl.fresh_back s.ex hp⟩
    · rw [upd_ne ha] at e
      exact s.kt a w e f
theorem ST.free_ (s : ST K ca TI G H L M) (hp : H p = some (held o)) (h : TI' (era H p)) : ST K ca TI' G (era H p) L M := by
  obtain ⟨k1, k2⟩ := s.kt p _ hp rfl
  exact
  { ex := fun a w e => by
      rw [era_ne (fun z => by subst z; rw [k2] at e; cases e)]
      exact s.ex a w e
    fr := s.fr
    nd := s.nd
    len := s.len
    here := fun a ha => by
      rw [era_ne (fun z => by subst z; exact k1 ha)]
      exact s.here a ha
    at_ := fun i a c h1 h2 => (s.at_ i a c h1 h2).keep (Evl.Ex.refl G) (List.prefix_refl L) (era_ne fun z => by
      subst z
      exact k1 (List.mem_of_getElem? h1))
    ti := h
    kt := fun a w e f => by
      have ha : a ≠ p := fun z => by
        subst z
        rw [era_same] at e
        cases e
      rw [era_ne ha] at e
      exact s.kt a w e f }
/-- a stretch during which p was held -/
theorem Step.held_ (hp : H p = none) (st : Step G (upd H p (held o)) L G' H' L') (k1 : p ∉ L) (h' : H' p = some (held o)) : Step G H L G' (era H' p) L' where
  g := st.g
  l := st.l
  h := fun a w e n t => by
    have ha := ne_of_none e hp
    rw [era_ne ha]
    exact st.h a w (by rw [upd_ne ha]; exact e) n t
  n := fun a ha => (st.n a ha).imp_right fun z => by
    by_cases hb : a = p
    · subst hb; exact hp
    · rw [upd_ne hb] at z; exact z
  gn := fun a h1 h2 => (st.gn a h1 h2).imp_right fun z => by
    by_cases hb : a = p
    · subst hb; exact hp
    · rw [upd_ne hb] at z; exact z
  s := fun a h1 => by
    by_cases hb : a = p
    · subst hb; exact absurd hp h1
    · rw [era_ne hb]
      exact st.s a (by rw [upd_ne hb]; exact h1)
/-- a stretch during which p was free -/
theorem Step.freed (hp : H p = some (held o)) (k1 : p ∉ L') (k2 : G' p = none) (st : Step G (era H p) L G' H' L') : Step G H L G' (upd H' p (held o)) L' where
  g := st.g
  l := st.l
  h := fun a w e n t => by
    by_cases hb : a = p
    · subst hb
      rw [hp] at e
      cases e
      exact upd_same
    · rw [upd_ne hb]
      exact st.h a w (by rw [era_ne hb]; exact e) n t
  n := fun a ha => (st.n a ha).imp_right fun z => by
    rw [era_ne (fun q => by subst q; exact k1 ha)] at z
    exact z
  gn := fun a h1 h2 => (st.gn a h1 h2).imp_right fun z => by
    rw [era_ne (fun q => by subst q; exact h2 k2)] at z
    exact z
  s := fun a h1 => by
    by_cases hb : a = p
    · subst hb; rw [upd_same]; simp
    · rw [upd_ne hb]
      exact st.s a (by rw [era_ne hb]; exact h1)
end
end PV

set_option maxRecDepth 100000
set_option maxHeartbeats 1000000
/-! a lambda of one parameter and one captured name, made and called -/
namespace PV
open PySem PySem.Spec PyProof.Rows L2
abbrev lamO (q : Str) (params : Arguments) (body : Expr) (scope : Scope) (cl : List (Str × Addr)) (pm : Value) (c' : Addr) (ctv : Value) : Obj := PySem.W.kla_obj "<lambda>" q params body scope cl pm c' ctv
section
variable {X : Cx} {pins : List (Addr × Obj)} {σ : L2.St} {H : Hp} {s : Shared} {c P : Addr} {q : Str} {params : Arguments} {body : Expr} {scope : Scope} {pos : Pos}
theorem hold_new {h' : Heap} {tk : Nat} {o : Obj} (I : Inv X pins σ H { s with heap := h', toks := tk }) (ho : (h'.push o).get? h'.objs.size = some o) : Inv X pins σ (upd H h'.objs.size (held o)) { s with heap := h'.push o, toks := tk } :=
  Inv.laid (s := { s with heap := h', toks := tk }) (t' := tk) I (fun b u e => Heap.get?_push_of_some _ e) (Nat.le_refl _) (held_ok ho)
theorem lam_new {E Q : Value → Shared → Prop} (I : Inv X pins σ H s) (TB : LamX.TabB X.base X.mg c P) (hcode : X.env.code = .ref c) (hq : X.env.qual ++ "<lambda>" = q) (hT : LamX.TabS H P q) (hdef : defaultsOf params X.env = ([], []))
    (hfree : ∀ y ∈ scope.names, y.2 = .free → ∃ c, X.env.cells.lookup y.1 = some c)
    (h : ∀ (f c' : Addr) (pm ctv : Value) (H1 : Hp) (s' : Shared), Inv X pins σ H1 s' → LamX.ExtN H H1 → (∀ b, H1 b = none → H b = none) → LamX.TabS H1 P q → H f = none → H1 f = some (held (lamO q params body scope (cloFrom X.env.cells scope.names []) pm c' ctv)) → H1 c' = some (LamX.CodeO c' q) → Q (.ref f) s') :
    wpAny (model X.prog X.w) X.A (eval (.Lambda params body scope pos) X.env) Q E s := by
  subst hq
  obtain ⟨ps, hP, htr, ha⟩ := hT
  refine PySem.W.kla_eval hdef ?_
  have tabP : s.heap.get? P = some { cls := .none, data := .fields ps } := I.hok P _ hP
  have bltP := TB.bm.keeps I.bk
  cases hc : codeAmong pos ps.toList with
  | none =>
    refine PySem.W.kla_makeFunction (mg := X.mg) (c := c) (P := P) (ps := ps) (closure_ok hfree) I.ok.glob (I.mod.glob.keeps I.bk) hcode
      (TB.code.keeps I.bk) tabP htr hc TB.gP bltP fun c' ctv h' tk hx hge hlt hrec htb => ?_
    obtain ⟨_, oc, vs, t, e2, hoc, hd, hv⟩ := hrec
    cases e2
    have freshC : H c' = none := I.hok.fresh hge
    have J := LamX.inv_table (t' := tk) (more := #[rawInt pos.line, rawInt pos.col, .ref c']) (h' := h') I hP (fun b o hb e => hx b o hb e) htb hge ⟨oc, vs, t, hoc, hd, hv⟩
    generalize hH2 : upd (upd H P (HO.tbl (ps ++ #[rawInt pos.line, rawInt pos.col, Value.ref c']))) c' (LamX.CodeO c' (X.env.qual ++ "<lambda>")) = H2 at J
    have atC : H2 c' = some (LamX.CodeO c' (X.env.qual ++ "<lambda>")) := by rw [← hH2]; exact upd_same
    have atP : H2 P = some (.tbl (ps ++ #[rawInt pos.line, rawInt pos.col, Value.ref c'])) := by rw [← hH2, upd_ne (ne_of_none hP freshC), upd_same]
    have ext : LamX.ExtN H H2 := fun b o e n => by
      have h1 : b ≠ P := fun z => by
        subst z
        rw [hP] at e
        cases e
        exact n ps rfl
      rw [← hH2, upd_ne (ne_of_none e freshC), upd_ne h1]
      exact e
    have back : ∀ b, H2 b = none → H b = none := fun b e => by
      rw [← hH2] at e
      exact NdefX.upd_none (NdefX.upd_none e)
    have freshF : H2 h'.objs.size = none := J.hok.fresh (Nat.le_refl _)
    refine h h'.objs.size c' _ ctv _ _ (hold_new (o := lamO (X.env.qual ++ "<lambda>") params body scope (cloFrom X.env.cells scope.names []) ((X.mg "__name__").getD .none) c' ctv) J (Heap.get?_push_size _ rfl)) (fun b o e n => ?_) (fun b e => back b (NdefX.upd_none e)) ?_ (back _ freshF) upd_same ?_
    · have e1 := ext b o e n
      rw [upd_ne (ne_of_none e1 freshF)]
      exact e1
    · refine LamX.TabS.ext ⟨_, atP, ?_, fun p' cv hcv => ?_⟩ fun b o e => (upd_ne (ne_of_none e freshF)).trans e
      · rw [show (ps ++ #[rawInt pos.line, rawInt pos.col, Value.ref c']).toList = ps.toList ++ [rawInt pos.line, rawInt pos.col, .ref c'] by simp]
        exact PySem.TriplesOk_snoc _ _ _ _ htr
      · rw [show (ps ++ #[rawInt pos.line, rawInt pos.col, Value.ref c']).toList = ps.toList ++ [rawInt pos.line, rawInt pos.col, .ref c'] by simp] at hcv
        rcases LamX.among_app _ htr hcv with z | z
        · obtain ⟨c0, e1, e2⟩ := ha p' cv z
          exact ⟨c0, e1, ext _ _ e2 LamX.codeO_ne⟩
        · exact ⟨c', z, atC⟩
    · rw [upd_ne (ne_of_none atC freshF)]
      exact atC
  | some cv =>
    obtain ⟨c', rfl, hco⟩ := ha pos cv hc
    refine PySem.W.kla_makeFunctionHit (mg := X.mg) (c := c) (P := P) (ps := ps) (closure_ok hfree) I.ok.glob (I.mod.glob.keeps I.bk) hcode
      (TB.code.keeps I.bk) tabP htr hc bltP fun ctv h' tk hx hsz => ?_
    have J : Inv X pins σ H { s with heap := h', toks := tk } := I.kept hx
    have freshF : H h'.objs.size = none := J.hok.fresh (Nat.le_refl _)
    have keepF : ∀ b o, H b = some o → upd H h'.objs.size (held (lamO (X.env.qual ++ "<lambda>") params body scope (cloFrom X.env.cells scope.names []) ((X.mg "__name__").getD .none) c' ctv)) b = some o := fun b o e => by
      rw [upd_ne (ne_of_none e freshF)]
      exact e
    exact h h'.objs.size c' _ ctv _ _ (hold_new (o := lamO (X.env.qual ++ "<lambda>") params body scope (cloFrom X.env.cells scope.names []) ((X.mg "__name__").getD .none) c' ctv) J (Heap.get?_push_size _ rfl)) (fun b o e _ => keepF b o e) (fun b e => NdefX.upd_none e) (LamX.TabS.ext ⟨ps, hP, htr, ha⟩ keepF) freshF upd_same (keepF _ _ hco)
def tLamV (P : Addr) (q : Str) (mkO : Addr → Value → Value → Obj) : TE := fun σ H Q => LamX.TabS H P q ∧ ∀ (f c' : Addr) (pm ctv : Value) (H1 : Hp), LamX.ExtN H H1 → (∀ b, H1 b = none → H b = none) → LamX.TabS H1 P q → H f = none → H1 f = some (held (mkO c' pm ctv)) → H1 c' = some (LamX.CodeO c' q) → Q (.ref f) H1
theorem pe_lam (TB : LamX.TabB X.base X.mg c P) (hcode : X.env.code = .ref c) (hq : X.env.qual ++ "<lambda>" = q) (hdef : defaultsOf params X.env = ([], [])) (hfree : ∀ y ∈ scope.names, y.2 = .free → X.env.kindOf y.1 = some .cell) :
    PE X (.Lambda params body scope pos) (tLamV P q fun c' pm ctv => lamO q params body scope (cloFrom X.env.cells scope.names []) pm c' ctv) :=
  ⟨fun pins s σ H Q I h => lam_new I TB hcode hq h.1 hdef (fun y hy e => I.ok.has _ (.inl (hfree y hy e))) fun f c' pm ctv H1 s' J a b d e g i => ⟨.ref f, H1, J, rfl, h.2 f c' pm ctv H1 a b d e g i⟩⟩
end
end PV

set_option maxRecDepth 100000
set_option maxHeartbeats 1000000
/-! the lambda called -/
namespace PV
open PySem PySem.Spec PyProof.Rows L2
abbrev ZS := List (Addr × HO)
/-- the table of the lambdas' code objects, and what is held -/
def TIz (P : Addr) (q : Str) (Z : ZS) (H : Hp) : Prop := LamX.TabS H P q ∧ ∀ z ∈ Z, H z.1 = some z.2
section
variable {P p : Addr} {q : Str} {Z : ZS} {H : Hp} {o : Obj}
theorem tiz_ok (hZ : ∀ z ∈ Z, isKt z.1 z.2) : TOk (TIz P q Z) := ⟨fun H H' k h => by
  obtain ⟨⟨ps, h1, h2, h3⟩, h4⟩ := h
  refine ⟨⟨ps, k _ _ h1 (.inl ⟨ps, rfl⟩), h2, fun pos cv hc => ?_⟩, fun z hz => k _ _ (h4 z hz) (hZ z hz)⟩
  obtain ⟨c, e1, e2⟩ := h3 pos cv hc
  exact ⟨c, e1, k _ _ e2 (.inr (.inl ⟨q, rfl⟩))⟩⟩
theorem tiz_hold (h : TIz P q Z H) (hp : H p = none) : TIz P q ((p, held o) :: Z) (upd H p (held o)) := by
  have k : ∀ b w, H b = some w → upd H p (held o) b = some w := fun b w e => (upd_ne (ne_of_none e hp)).trans e
  refine ⟨h.1.ext k, fun z hz => ?_⟩
  rcases List.mem_cons.mp hz with rfl | hz
  · exact upd_same
  · exact k _ _ (h.2 z hz)
theorem tiz_free (h : TIz P q ((p, held o) :: Z) H) (hne : ∀ z ∈ Z, z.1 ≠ p) : TIz P q Z (era H p) := by
  have hp : H p = some (held o) := h.2 _ List.mem_cons_self
  obtain ⟨⟨ps, h1, h2, h3⟩, h4⟩ := h
  refine ⟨⟨ps, (era_ne (ne_of h1 hp fun z => nomatch z)).trans h1, h2, fun pos cv hc => ?_⟩, fun z hz => (era_ne (hne z hz)).trans (h4 z (List.mem_cons_of_mem _ hz))⟩
  obtain ⟨c, e1, e2⟩ := h3 pos cv hc
  exact ⟨c, e1, (era_ne (ne_of e2 hp fun z => by unfold LamX.CodeO at z; cases z)).trans e2⟩
end
/-- the call of the lambda f from within the def that got it -/
def dInner (f : Addr) (lb : Den) (z : Int) (iw it : Nat) : Den := fun ρ M => (dVar iw ρ M).bind fun p => match p.1 with
  | .v (.fn f') => if f' = f then (val (dVar it) ρ M).bind fun x => (lb [some x.1, some (.d (.int z))] x.2).bind fun y => (asB y.1).bind fun b => some (.v (.d (.bool b)), y.2) else none
  | _ => none
theorem pe_inner {Y : Cx} {C : SC} {k : Nat} {P f c c' : Addr} {qn v q x t : Str} {Z0 : ZS} {pm ctv u : Value} {co : Obj} {params : Arguments} {body : Expr} {scope : Scope} {cl : List (Str × Addr)} {z : Int} {cp : Nat → Fun} {iw it : Nat} {p1 p2 p3 : Pos} {ca : Str → Addr}
    (gd : Good Y C k) (hsl : 1 ≤ C.sl) (GL : Glob Y.prog Y.w Y.K Y.mg Y.base tabN ca (TIz P qn Z0) k cp noF) (hiw : varIx C x = some iw) (hit : varIx C t = some it)
    (hf : (f, held (lamO qn params body scope cl pm c' ctv)) ∈ Z0) (hc' : (c', LamX.CodeO c' qn) ∈ Z0) (hne : ∀ z ∈ Z0, z.1 ≠ c) (hco : co.data = .cell (some u)) (hu : RelV (.int z) u) (hcl : cl.lookup q = some c) (hcl1 : ∀ y a, cl.lookup y = some a → y = q)
    (S : NdefX.NScope [v, q] [v] [q] scope) (hb : ∀ w : Value, bindArgs (PySem.W.kla_fn "<lambda>" qn params body scope cl pm (.ref c') ctv) ⟨[w], []⟩ = pure [(v, w)]) :
    PE Y (.Call (.Name x p1) [.Name t p2] [] p3) (tE Y.K ca (TIz P qn ((c, held co) :: Z0)) (dInner f (denE tabN cp noF 60 (lamC v q scope) body) z iw it)) := by
  refine ⟨fun pins s σ H Q I h => ?_⟩
  obtain ⟨G, L, ρ, M, r, M', st, er, hd, qq⟩ := h
  unfold dInner at hd
  obtain ⟨p, e1, hd2⟩ := bo hd
  clear hd
  obtain ⟨o, e2, e1⟩ := bo e1
  obtain ⟨xv, e3, e1⟩ := bo e1
  cases e1
  subst e3
  cases xv with
  | d _ => cases hd2
  | loc _ => cases hd2
  | scr _ => cases hd2
  | dic _ => cases hd2
  | fn f' =>
  have hd : (if f' = f then (val (dVar it) ρ M).bind fun x => (denE tabN cp noF 60 (lamC v q scope) body [some x.1, some (.d (.int z))] x.2).bind fun y => (asB y.1).bind fun b => some (Res.v (.d (.bool b)), y.2) else none) = some (r, M') := hd2
  clear hd2
  split at hd
  rotate_left
  · cases hd
  rename_i hff
  subst hff
  obtain ⟨⟨xx, M1⟩, e4, hd3⟩ := bo hd
  obtain ⟨⟨y, M2⟩, e5, hd4⟩ := bo hd3
  obtain ⟨b, e6, hd5⟩ := bo hd4
  cases hd5
  obtain rfl := asB_eq e6
  have hσ : σ[iw]? = some (some (.ref f')) := by
    obtain ⟨vf, h1, h2⟩ := er.2 iw (.fn f') e2
    rw [h1, show vf = V.ref f' from h2]
  have fnat : ∀ {s : Shared} {H : Hp}, HOk Y.prog Y.w H s.heap → TIz P qn ((c, held co) :: Z0) H → s.heap.get? f' = some (lamO qn params body scope cl pm c' ctv) := fun hok ti => (hok f' _ (ti.2 _ (List.mem_cons_of_mem _ hf))).1
  refine wpAny_Call_Name_kw (thn ((vis_of gd hiw).run pins s σ H (fun v H1 => v = .ref f' ∧ H1 = H) I ⟨.ref f', hσ, rfl, rfl⟩) fun u1 s1 ⟨v1, H1, I1, r1, ev, eH⟩ => ?_)
  subst ev eH
  obtain rfl : u1 = Value.ref f' := r1
  refine PySem.W.callWith_F (first := []) ⟨_, _, _, _, fnat I1.hok st.ti⟩ (thn ((pa1 (pe_dvar (vis_of gd hit)) pa0 (star1 rfl)).run p3 pins s1 σ H1 (fun vs H2 => ∃ vx G2 L2, vs = [vx] ∧ Step G H1 L G2 H2 L2 ∧ ST Y.K ca (TIz P qn ((c, held co) :: Z0)) G2 H2 L2 M1 ∧ VR Y.K G2 L2 vx xx) I1
    ⟨G, L, ρ, M, [xx], M1, st, er, by
      unfold dA1 dA0
      rw [e4]
      rfl, fun G2 H2 L2 vs a b c => by
      cases c with
      | cons h1 h2 => cases h2; exact ⟨_, G2, L2, rfl, a, b, h1⟩⟩) fun us s2 ⟨vs, H2, I2, r2, vx, G2, L2, hvs, st2, sT2, vr⟩ => ⟨⟨_, _, _, _, fnat I2.hok sT2.ti⟩, ?_⟩) rfl rfl
  subst hvs
  obtain ⟨ux, rfl, rx⟩ := vals1 r2
  have hc : H2 c = some (held co) := sT2.ti.2 _ List.mem_cons_self
  have gc : s2.heap.get? c = some co := (I2.hok c _ hc).1
  have nfr : c ∉ frs Y.stack := fun hb => by
    rw [I2.stkFree c hb] at hc
    cases hc
  have gf := fnat I2.hok sT2.ti
  have e0 := env0_free I2.env0 hc
  have hdp := gd.deep.1
  have hun := gd.deep.2
  have hbody : PE (NdefX.ncx noCX Y.prog Y.w Y.K Y.mg Y.base [v, q] ⟨"<lambda>", qn, params, [], scope, cl, c'⟩ f' Y.A Y.stack s2 (era H2 c) fun _ _ _ => False) body (tE Y.K ca (TIz P qn Z0) (denE tabN cp noF 60 (lamC v q scope) body)) := by
    refine PE.nox (sndE GL (fun X C _ _ _ _ _ _ e d h => nomatch (show (none : Option Den) = some d from h)) 60 (NdefX.ncx noCX Y.prog Y.w Y.K Y.mg Y.base [v, q] ⟨"<lambda>", qn, params, [], scope, cl, c'⟩ f' Y.A Y.stack s2 (era H2 c) fun _ _ _ => False).nox (lamC v q scope) rfl rfl rfl rfl rfl ⟨rfl, S.nd, rfl, S.kind, rfl, rfl, guards_deep gd.guards, ?_, ⟨gd.room.hd, ?_, ?_⟩, ⟨?_, ?_⟩, fun q e => (nomatch e), rfl⟩ body).pe
    · show Y.A.units + 3 + 200 < cLine
      omega
    · show Y.A.depth + 1 + 3 * k + 5 < recursionLimit
      omega
    · show Y.A.units + 3 + 16 * k + 200 < cLine
      omega
    · show Y.A.depth + 1 + 3 * k + 5 + 0 < recursionLimit
      omega
    · show Y.A.units + 3 + 16 * k + 200 + 3 * 0 < cLine
      omega
  have cells : NdefX.CellsAt cl [q] [some (.int z)] s2.heap (era H2 c) := by
    refine ⟨rfl, fun y a e => ?_, fun y1 y2 a h1 h2 => (hcl1 y1 a h1).trans (hcl1 y2 a h2).symm, fun i y e => ?_⟩
    · have := hcl1 y a e
      subst this
      rw [hcl] at e
      cases e
      exact ⟨era_same, some u, co, gc, hco⟩
    · cases i with
      | zero =>
        have e' : q = y := Option.some.inj e
        subst e'
        exact ⟨c, hcl, fun v hv => by
          have hv' : V.int z = v := Option.some.inj (Option.some.inj hv)
          subst hv'
          exact ⟨u, hu, co, gc, hco⟩⟩
      | succ i => cases i <;> cases e
  have ht : tE Y.K ca (TIz P qn Z0) (denE tabN cp noF 60 (lamC v q scope) body) (NdefX.startF [v, q] [vx] [some (.int z)]) (era H2 c) (fun v H' => H' c = none → Q v (upd H' c (held co))) := by
    refine ⟨G2, L2, [some xx, some (.d (.int z))], M1, _, _, sT2.free_ hc (tiz_free sT2.ti hne), ⟨rfl, fun i x e => ?_⟩, e5, fun G' H' L' v stp sT rr hn => ?_⟩
    · cases i with
      | zero => cases e; exact ⟨vx, rfl, vr⟩
      | succ i =>
        cases i with
        | zero => cases e; exact ⟨.int z, rfl, .int z⟩
        | succ i => cases i <;> cases e
    · have k1 : c ∉ L' := fun z => sT.here c z hn
      exact qq G' _ L' v (st2.trans (Step.freed hc k1 (Evl.fresh_back sT.ex hn) stp)) (sT.hold hn (tiz_hold sT.ti hn)) rr
  have rc : codeAny (model Y.prog Y.w) Y.A (.call (.ref f') ⟨[ux], []⟩) (CR noCX Y.stack Y.prog Y.w (era H2 c) s2 (fun v H' => H' c = none → Q v (upd H' c (held co))) fun _ _ _ => False) s2 := by
    refine PySem.W.kla_callFunE (by omega) gf rfl S.co S.gen rfl (NdefX.codeO_at I2.hok (sT2.ti.2 _ (List.mem_cons_of_mem _ hc'))) ?_
    rw [hb]
    refine wpAny_pure (wpAny_newFunctionEnv S.nocell (fun y hy => ?_) (fun h1 hns hsb => ⟨I2.nolimit.fresh _ hsb, ?_⟩) S.kind)
    · have : y = (v, ux) := by simpa using hy
      subst this
      exact S.par v (by simp)
    · have kp : ∀ b o, s2.heap.get? b = some o → h1.get? b = some o := fun b o e => hsb.extBut b o (Nat.ne_of_lt (Heap.lt_size e)) (Heap.get?_push_of_some _ e)
      have J := NdefX.inv_startN (CX := noCX) (F := ⟨"<lambda>", qn, params, [], scope, cl, c'⟩) (f := f') (A := Y.A) (E := fun _ _ _ => False) (tk := s2.toks + ([(v, ux)] : List (Str × Value)).length) (ps := [v]) (us := [ux]) S gd.room.hd e0 rfl (.cons rx .nil) cells hns kp
      show codeAny _ _ (.expr body (PySem.W.envX qn scope s2.heap.objs.size f' (.ref c') cl)) _ _
      refine PySem.W.kla_codeExpr (wpAny_mono (hbody.run [] _ _ (era H2 c) _ J ht) (fun v s' hq => ?_) fun e s' hq => hq)
      obtain ⟨w', H', J', rv, hq⟩ := hq
      exact ⟨w', H', J'.os, J'.bare, J'.base, J'.hok, rv, hq⟩
  refine wpAny_call (codeAny_mono rc fun zr s' hq => ?_)
  replace hq := cr_free hc gc nfr hq
  cases zr with
  | error e => exact hq.elim
  | ok fl =>
    cases fl with
    | ret u => exact I2.after hq
    | next => exact hq.elim
    | brk => exact hq.elim
    | cont => exact hq.elim
end PV

set_option maxRecDepth 100000
set_option maxHeartbeats 1000000
/-! wrong_in(.., .., lambda ..): the special form is sound -/
namespace PV
open PySem PySem.Spec PyProof.Rows L2
/-! ### the body of wrong_in, with the lambda's call -/
def spcI (f : Addr) (lb : Den) (z : Int) (cp : Nat → Fun) (C : SC) : Expr → Option Den
  | .Call (.Name x _) [.Name t _] [] _ => if x = "wrong" ∧ t = "thing" then some (match varIx C x, varIx C t with
      | some iw, some it => if 1 ≤ C.sl then dInner f lb z iw it else dNo
      | _, _ => dNo) else none
  | _ => none
def tabI (f : Addr) (lb : Den) (z : Int) : Tab := ⟨conL, fnsL, clsL, mthL, fldL, spcI f lb z⟩
def scI : SC := ⟨d_wrong_in.N, d_wrong_in.scope, fun _ => true, d_wrong_in.mt, d_wrong_in.lk, 1, none⟩
def bW (f : Addr) (lb : Den) (z : Int) (first : Fun) : DenS := sSeq (sSet 3 false (dCall 1 first (dA1 (dLc (dIter (dVar 1)) (.nm 4) (dC (.bool true)) (dInner f lb z 2 4) [4]) dA0)))
  (sSeq (sRet (dIf (dBin false (fIs false) (dVar 3) (dC .none)) (dC .none) (dTup (dA1 (dVar 0) (dA1 (dVar 3) dA0))))) sNil)
theorem eW (f : Addr) (lb : Den) (z : Int) (cp cpm : Nat → Fun) : denSs (tabI f lb z) cp cpm 40 scI d_wrong_in.body = bW f lb z (cp 5) := by kernel_rfl
theorem comp_wgo (f : Addr) (lb : Den) (z : Int) (a0 a1 a3 : Option Val) : ∀ (ds : List PyData) (M : Sto) (acc : List PyData), compGo (.nm 4) (dC (.bool true)) (dInner f lb z 2 4) [a0, a1, some (.fn f), a3, none] (okI ds) M acc = wgo lb z ds M acc
  | [], M, acc => rfl
  | d :: ds, M, acc => by
    have ih := fun M acc => comp_wgo f lb z a0 a1 a3 ds M acc
    have e1 : dInner f lb z 2 4 [a0, a1, some (.fn f), a3, some (.d d)] M = (lb [some (.d d), some (.d (.int z))] M).bind fun y => (asB y.1).bind fun b => some (.v (.d (.bool b)), y.2) := by
      show (if f = f then _ else none) = _
      rw [if_pos rfl]
      rfl
    show ((val (dInner f lb z 2 4) [a0, a1, some (.fn f), a3, some (.d d)] M).bind fun q => (datum q.1).bind fun y => if acc.length < big then compGo (.nm 4) (dC (.bool true)) (dInner f lb z 2 4) [a0, a1, some (.fn f), a3, none] (okI ds) q.2 (acc ++ [y]) else none) = _
    unfold val wgo
    rw [e1]
    cases lb [some (.d d), some (.d (.int z))] M with
    | none => rfl
    | some p =>
      show ((((asB p.1).bind fun b => some (Res.v (.d (.bool b)), p.2)).bind fun p => some (settle p.1 p.2)).bind _) = ((asB p.1).bind fun b => if acc.length < big then wgo lb z ds p.2 (acc ++ [.bool b]) else none)
      cases asB p.1 with
      | none => rfl
      | some b =>
        show (if acc.length < big then compGo (.nm 4) (dC (.bool true)) (dInner f lb z 2 4) [a0, a1, some (.fn f), a3, none] (okI ds) p.2 (acc ++ [.bool b]) else none) = _
        rw [ih] <;> rfl
/-- the special form, from the slots' values -/
def resW (i : Int) (lb : Den) (first : Fun) (ds : List PyData) (z : Int) (M : Sto) : Option (Res × Sto) := if ds.length ≤ big then (wgo lb z ds M []).bind fun t => (first [.d (.list t.1)] t.2).bind fun u => match u.1 with
      | .v (.d .none) => endFn M.length (.v (.d .none)) u.2
      | .v (.d (.int n)) => endFn M.length (.v (.d (.tuple [.int i, .int n]))) u.2
      | _ => none
      else none
theorem run_W {i : Int} {lb : Den} {first : Fun} {ds : List PyData} {z : Int} {M M' : Sto} {r : Res} (f : Addr) (h : resW i lb first ds z M = some (r, M')) : runFn 5 (bW f lb z first) [.d (.int i), .d (.tuple ds), .fn f] M = some (r, M') := by
  unfold resW at h
  split at h
  rotate_left
  · cases h
  obtain ⟨⟨bs, M1⟩, e1, h2⟩ := bo h
  obtain ⟨⟨u, M2⟩, e2, h3⟩ := bo h2
  have e0 := comp_wgo f lb z (some (.d (.int i))) (some (.d (.tuple ds))) none ds M []
  rw [e1] at e0
  have e3 : dLc (dIter (dVar 1)) (.nm 4) (dC (.bool true)) (dInner f lb z 2 4) [4] [some (.d (.int i)), some (.d (.tuple ds)), some (.fn f), none, none] M = some (.nl bs, M1) := by
    show ((compGo (.nm 4) (dC (.bool true)) (dInner f lb z 2 4) [some (.d (.int i)), some (.d (.tuple ds)), some (.fn f), none, none] (okI ds) M []).bind _) = _
    rw [e0]
    rfl
  have e4 : dCall 1 first (dA1 (dLc (dIter (dVar 1)) (.nm 4) (dC (.bool true)) (dInner f lb z 2 4) [4]) dA0) [some (.d (.int i)), some (.d (.tuple ds)), some (.fn f), none, none] M = some (u, M2) := by
    unfold dCall dA1 dA0 val
    rw [e3]
    exact e2
  show ((bW f lb z first [some (.d (.int i)), some (.d (.tuple ds)), some (.fn f), none, none] M).bind _) = _
  have e5 : bW f lb z first [some (.d (.int i)), some (.d (.tuple ds)), some (.fn f), none, none] M = (sSeq (sRet (dIf (dBin false (fIs false) (dVar 3) (dC .none)) (dC .none) (dTup (dA1 (dVar 0) (dA1 (dVar 3) dA0))))) sNil) [some (.d (.int i)), some (.d (.tuple ds)), some (.fn f), some (stl false u M2).1, none] (stl false u M2).2 := by
    unfold bW
    show (((valm false _ _ M).bind _).bind _) = _
    unfold valm
    rw [e4]
    rfl
  rw [e5]
  clear e4 e5 e2
  cases u with
  | nl _ => cases h3
  | nd _ => cases h3
  | v x =>
    cases x with
    | loc _ => cases h3
    | scr _ => cases h3
    | dic _ => cases h3
    | fn _ => cases h3
    | d x =>
      cases x with
      | none => exact h3
      | int n => exact h3
      | bool _ => cases h3
      | str _ => cases h3
      | list _ => cases h3
      | tuple _ => cases h3
      | dict _ => cases h3
/-! ### a call of a def, told of the very state -/
theorem run_body {CX : CXT} {P : Program} {w : World} {K : PySem.W.Frag} {mg : Str → Option Value} {base : Heap} {f : Addr} {name qual : Str} {params : Arguments} {body : List Stmt} {scope : Scope} {dV kV doc pm cdv ct oc : Value} {an od : Option Addr} {osl : Array (Option Value)} {N ps : List Str}
    {A : Around} {outer : List PySem.Env} {s : Shared} {H : Hp} {us : List Value} {vs : List V} {Q : VK} {E : XK} {t : TS} (lk : K.lookup f = some ⟨oc, od, .func (PySem.W.fnOf name qual params body scope dV kV doc pm an cdv ct), osl⟩) (hcd : PySem.W.codeIn K cdv qual = true) (S : FnScope N ps scope)
    (hdp : A.depth < recursionLimit) (hnd : A.handled = none) (e0 : Env0 P w K mg base A outer s H) (hb : BindsTo s (PySem.W.fnOf name qual params body scope dV kV doc pm an cdv ct) ⟨us, []⟩ (ps.zip us)) (r : Vals vs us) (en : vs.length = ps.length)
    (ht : PSs (cxOf CX P w K mg base N qual scope f cdv A outer s H E) body t) (hq : t { nx := fun _ H' => Q .non H', rt := Q } (start N vs) H) : codeAny (model P w) A (.call (.ref f) ⟨us, []⟩) (CR CX outer P w H s Q E) s := by
  have hK : K.In s.heap := e0.mod.kin.keeps fun b o e => (e0.bs b o e).1
  have kinds : ∀ y ∈ ps.zip us, scope.names.lookup y.1 = some .local ∨ (scope.names.lookup y.1 = some .cell ∧ ((cellsFrom (s.heap.objs.size + 1) scope.names []).lookup y.1).isSome = true) := fun ⟨n, v⟩ hy =>
    (S.par n (List.of_mem_zip hy).1).imp_right fun q => ⟨q, PySem.W.cellsFrom_some _ _ _ (.inl q)⟩
  refine codeAny_call_function hdp (hK _ _ lk) rfl S.co S.gen rfl (PySem.W.codeRec_of hK hcd) (hb _ _ _ _ (wpAny_newFunctionEnv_cells S.kind kinds fun env he s1 x => ?_))
  subst he
  have nolim : s.heap.NoLimit := e0.mod.nolimit.keeps fun b o e => (e0.bs b o e).1
  refine ⟨nolim.keeps x.toInCall.keep, codeAny_func ?_⟩
  refine wpAny_mono (ht.run [] s1 (start N vs) H _ (inv_start S hnd e0 en r x) hq) (fun fl s' hs => ?_) fun e s' hs => hs
  cases fl with
  | ret u =>
    obtain ⟨v, σ', H', J, rv, q⟩ := hs
    exact ⟨v, H', J.os, J.bare, J.base, J.hok, rv, q⟩
  | next =>
    obtain ⟨σ', H', J, q⟩ := hs
    exact ⟨.non, H', J.os, J.bare, J.base, J.hok, rfl, q⟩
  | brk =>
    obtain ⟨_, _, _, q⟩ := hs
    exact q.elim
  | cont =>
    obtain ⟨_, _, _, q⟩ := hs
    exact q.elim
/-- a stretch in which only tables grew and new objects came -/
theorem step_ext {G H H1 : Hp} {L : List Addr} (e : LamX.ExtN H H1) (b : ∀ p, H1 p = none → H p = none) : Step G H L G H1 L :=
  ⟨Evl.Ex.refl G, List.prefix_refl L, fun p o h _ t => e p o h t, fun p hp => .inl hp, fun p x y => absurd x y, fun p hp z => hp (b p z)⟩
theorem ST.ext_ {K : PySem.W.Frag} {ca : Str → Addr} {TI TI' : Hp → Prop} {G H H1 : Hp} {L : List Addr} {M : Sto} (s : ST K ca TI G H L M) (e : LamX.ExtN H H1) (b : ∀ p, H1 p = none → H p = none) (h : TI' H1) : ST K ca TI' G H1 L M := by
  have nt : ∀ a o, H a = some o → (a ∈ L ∨ G a ≠ none) → ∀ ps, o ≠ .tbl ps := fun a o h1 h2 ps z => by
    subst z
    obtain ⟨k1, k2⟩ := s.kt a _ h1 rfl
    rcases h2 with h2 | h2
    · exact k1 h2
    · exact h2 k2
  refine ⟨fun a o h1 => e a o (s.ex a o h1) (nt a o (s.ex a o h1) (.inr (by rw [h1]; simp))), s.fr, s.nd, s.len, fun a ha z => s.here a ha (b a z), fun i a c h1 h2 => ?_, h, fun a o h1 h2 => ?_⟩
  · refine (s.at_ i a c h1 h2).keep (Evl.Ex.refl G) (List.prefix_refl L) ?_
    have hm := List.mem_of_getElem? h1
    cases ea : H a with
    | none => exact absurd ea (s.here a hm)
    | some o => exact e a o ea (nt a o ea (.inl hm))
  · cases ea : H a with
    | none => exact ⟨fun z => s.here a z ea, Evl.fresh_back s.ex ea⟩
    | some o' =>
      by_cases ht : ∃ ps, o' = .tbl ps
      · obtain ⟨ps, rfl⟩ := ht
        exact s.kt a _ ea rfl
      · have e2 := e a o' ea (fun ps z => ht ⟨ps, z⟩)
        rw [h1] at e2
        cases e2
        exact s.kt a o ea h2
/-- what may be held: code objects, objects held fast -/
def isZ (z : Addr × HO) : Prop := (∃ q, z.2 = LamX.CodeO z.1 q) ∨ ∃ o, z.2 = held o
theorem isZ_kt {z : Addr × HO} (h : isZ z) : isKt z.1 z.2 := by
  rcases h with ⟨q, h⟩ | ⟨o, h⟩
  · exact .inr (.inl ⟨q, h⟩)
  · exact .inr (.inr ⟨o, _, h⟩)
theorem isZ_nt {z : Addr × HO} (h : isZ z) : ∀ ps, z.2 ≠ .tbl ps := fun ps e => by
  rcases h with ⟨q, h⟩ | ⟨o, h⟩
  · rw [e] at h
    unfold LamX.CodeO at h
    cases h
  · rw [e] at h
    cases h
end PV

set_option maxRecDepth 100000
set_option maxHeartbeats 1000000
namespace PV
open PySem PySem.Spec PyProof.Rows L2
theorem glob_I {P : Program} {w : World} {K : PySem.W.Frag} {mg : Str → Option Value} {base : Heap} {ca : Str → Addr} {TI : Hp → Prop} {k : Nat} {cp cpm : Nat → Fun} (g : Glob P w K mg base tab ca TI k cp cpm) (f : Addr) (lb : Den) (z : Int) : Glob P w K mg base (tabI f lb z) ca TI k cp cpm :=
  ⟨g.T, g.con, g.fns, g.cls, g.mth, g.fld, g.blt⟩
theorem glob_N {P : Program} {w : World} {K : PySem.W.Frag} {mg : Str → Option Value} {base : Heap} {ca : Str → Addr} {TI : Hp → Prop} {k : Nat} {cp cpm : Nat → Fun} (g : Glob P w K mg base tab ca TI k cp cpm) : Glob P w K mg base tabN ca TI k cp noF :=
  ⟨g.T, g.con, g.fns, fun x i n h => by
    obtain ⟨e, f, fd, ps, a, b, c, _⟩ := g.cls x i n h
    exact ⟨e, f, fd, ps, a, b, c, .inl fun _ _ => rfl⟩, g.mth, g.fld, g.blt⟩
theorem lam_bind (an : Arg) (qn : Str) (body : Expr) (scope : Scope) (cl : List (Str × Addr)) (pm cv ctv w : Value) : bindArgs (PySem.W.kla_fn "<lambda>" qn ⟨[], [an], none, [], [], none, []⟩ body scope cl pm cv ctv) ⟨[w], []⟩ = pure [(an.arg, w)] := by
  unfold bindArgs
  simp [seqItems?, List.lookup]
  rfl
theorem var_at {C : SC} {x : Str} {i : Nat} (h : varIx C x = some i) : C.N[i]? = some x := by
  unfold varIx at h
  split at h
  · exact ixIn_at h
  · cases h
theorem pe_wrong {X : Cx} {C : SC} {k : Nat} {P cw g : Addr} {qn q y : Str} {Z : ZS} {an : Arg} {body : Expr} {scope : Scope} {fd : FuncData} {ca : Str → Addr} {cp cpm : Nat → Fun} {i : Int} {kk jy jq : Nat} {p0 p1 p2 lpos pos : Pos}
    (gd : Good X C k) (hsl : 2 ≤ C.sl) (hfn : C.fn q = true) (hcell : C.sc.names.lookup q = some .cell) (hwr : isGlb (C.sc.names.lookup ("wrong_in" : Str)) = true) (GL : ∀ Z : ZS, (∀ z ∈ Z, isZ z) → Glob X.prog X.w X.K X.mg X.base tab ca (TIz P qn Z) k cp cpm) (hZ : ∀ z ∈ Z, isZ z)
    (T6 : DefOk X.K d_wrong_in g fd) (hm : X.mg "wrong_in" = some (.ref g)) (hk : PySem.W.keepIn X.K (.ref g) = true) (TB : LamX.TabB X.base X.mg cw P) (hcode : X.env.code = .ref cw) (hq : X.env.qual ++ "<lambda>" = qn)
    (hjy : varIx C y = some jy) (hjq : varIx C q = some jq) (S : NdefX.NScope [an.arg, q] [an.arg] [q] scope) :
    PE X (.Call (.Name "wrong_in" p0) [.Constant (.int i) kk p1, .Name y p2, .Lambda ⟨[], [an], none, [], [], none, []⟩ body scope lpos] [] pos) (tE X.K ca (TIz P qn Z) (dWrong i jy jq (denE tabN cp noF 60 (lamC an.arg q scope) body) (cp 5))) := by
  refine ⟨fun pins s σ H Q I h => ?_⟩
  obtain ⟨G, L, ρ, M, r, M', st, er, hd, qq⟩ := h
  generalize hlb : denE tabN cp noF 60 (lamC an.arg q scope) body = lb at hd
  have key : ∃ ds z, ρ[jy]? = some (some (.d (.tuple ds))) ∧ ρ[jq]? = some (some (.d (.int z))) ∧ resW i lb (cp 5) ds z M = some (r, M') := by
    unfold dWrong at hd
    obtain ⟨p, e1, hd1⟩ := bo hd
    obtain ⟨o, e2, e3⟩ := bo e1
    obtain ⟨xv, e4, e5⟩ := bo e3
    cases e5
    subst e4
    obtain ⟨ds, f1, hd2⟩ := bo (show (seqOf xv).bind _ = some (r, M') from hd1)
    obtain ⟨p', g1, hd3⟩ := bo hd2
    obtain ⟨o', g2, g3⟩ := bo g1
    obtain ⟨xq, g4, g5⟩ := bo g3
    cases g5
    subst g4
    have f2 : xv = .d (.tuple ds) := by
      unfold seqOf at f1
      split at f1
      · cases f1; rfl
      · cases f1
    subst f2
    cases xq with
    | d x =>
      cases x with
      | int z => exact ⟨ds, z, e2, g2, hd3⟩
      | none => cases hd3
      | bool _ => cases hd3
      | str _ => cases hd3
      | list _ => cases hd3
      | tuple _ => cases hd3
      | dict _ => cases hd3
    | loc _ => cases hd3
    | scr _ => cases hd3
    | dic _ => cases hd3
    | fn _ => cases hd3
  clear hd
  obtain ⟨ds, z, hρy, hρq, hres⟩ := key
  obtain ⟨vy, hσy, hvy⟩ := er.2 jy _ hρy
  have hσq : σ[jq]? = some (some (.int z)) := by
    obtain ⟨v', h1, h2⟩ := er.2 jq _ hρq
    cases (show DQ G v' (.int z) from h2)
    exact h1
  have hfree : ∀ y ∈ scope.names, y.2 = .free → X.env.kindOf y.1 = some .cell := fun y hy e => by
    have h1 : y.1 = q := by simpa using S.free y hy e
    show X.env.scope.names.lookup y.1 = _
    rw [gd.sc, h1]
    exact hcell
  have ha := pa_cons (pe_int (X := X) (i := i) (j := kk) (pos := p1)) (pa_cons (vis_of gd hjy (p := p2)) (pa_cons (pe_lam (X := X) (params := ⟨[], [an], none, [], [], none, []⟩) (body := body) (scope := scope) (pos := lpos) TB hcode hq rfl hfree) pa_nil (star1 rfl)) (star1 rfl)) (star1 rfl)
  refine wpAny_Call_Name_kw (ld_glob I (gl_of gd hwr) hm ?_ (by decide))
  refine PySem.W.callWith_K (h₀ := X.base) I.ok.mod.kin hk (thn (ha.run pos pins s σ H (fun vs H1 => ∃ f c' pm ctv, vs = [.int i, vy, .ref f] ∧ LamX.ExtN H H1 ∧ (∀ b, H1 b = none → H b = none) ∧ LamX.TabS H1 P qn ∧ H f = none ∧ H1 f = some (held (lamO qn ⟨[], [an], none, [], [], none, []⟩ body scope (cloFrom X.env.cells scope.names []) pm c' ctv)) ∧ H1 c' = some (LamX.CodeO c' qn)) I
    ⟨vy, hσy, st.ti.1, fun f c' pm ctv H1 a b c d e g => ⟨f, c', pm, ctv, rfl, a, b, c, d, e, g⟩⟩) fun us s1 ⟨vs, H1, I1, r1, f, c', pm, ctv, hvs, hext, hback, htab, hf0, hf1, hc1⟩ => ⟨I1.kIn, ?_⟩) (star1 rfl) (star_back rfl)
  subst hvs
  -- the captured cell
  obtain ⟨m, hn, hl⟩ := I1.loc
  have hNq : X.N[jq]? = some q := by rw [gd.N]; exact var_at hjq
  have hkq : X.env.scope.names.lookup q = some .cell := by rw [gd.sc]; exact hcell
  obtain ⟨u, hu, hlook⟩ := hl jq q (.int z) hNq hσq (.inr (.inl hkq))
  obtain ⟨c, hcc, co, gc, hco⟩ : ∃ c, X.env.cells.lookup q = some c ∧ s1.heap.IsCell c (some u) := by
    rcases hlook with ⟨h1, _⟩ | ⟨_, h2⟩
    · rw [show X.env.kindOf q = some .cell from hkq] at h1
      cases h1
    · exact h2
  have hcn : H1 c = none := I1.freeC q c hcc
  have habove : X.s_0.heap.objs.size ≤ c := I1.ok.cab q c (by rw [gd.fn]; exact hfn) hcc
  have hbase : X.base.get? c = none := by
    cases e : X.base.get? c with
    | none => rfl
    | some o =>
      exact absurd (Nat.lt_of_lt_of_le (Heap.lt_size e) (Nat.le_trans I1.ok.bsz habove)) (Nat.lt_irrefl _)
  have hfr : c ∉ frs X.stack := fun hb => by
    rcases List.mem_cons.mp (I1.stkSub c hb) with e | e
    · exact I1.cne q c hcc e
    · obtain ⟨_, o, ho, _⟩ := I1.ok.funs.mem e
      exact absurd (Nat.lt_of_lt_of_le (Heap.lt_size ho) habove) (Nat.lt_irrefl _)
  have hclx : ∀ y ∈ scope.names, y.2 = .free → ∃ c, X.env.cells.lookup y.1 = some c := fun y hy e => I1.ok.has _ (.inl (hfree y hy e))
  have hmem : (q, NameKind.free) ∈ scope.names := PySem.mem_of_lookup (S.frk q (by simp))
  have hcl : (cloFrom X.env.cells scope.names []).lookup q = some c := NdefX.clo_has hclx hmem hcc
  have hcl1 : ∀ y a, (cloFrom X.env.cells scope.names []).lookup y = some a → y = q := fun y a e => by
    rcases cloFrom_mem (PySem.mem_of_lookup e) with hm | ⟨h1, _⟩
    · cases hm
    · simpa using S.free _ h1 rfl
  -- what is held
  generalize hfo : lamO qn ⟨[], [an], none, [], [], none, []⟩ body scope (cloFrom X.env.cells scope.names []) pm c' ctv = fo at hf1
  have hZ0 : ∀ z ∈ ((f, held fo) :: (c', LamX.CodeO c' qn) :: Z : ZS), isZ z := fun z hz => by
    rcases List.mem_cons.mp hz with rfl | hz
    · exact .inr ⟨_, rfl⟩
    rcases List.mem_cons.mp hz with rfl | hz
    · exact .inl ⟨_, rfl⟩
    · exact hZ z hz
  have hZ1 : ∀ z ∈ ((c, held co) :: (f, held fo) :: (c', LamX.CodeO c' qn) :: Z : ZS), isZ z := fun z hz => by
    rcases List.mem_cons.mp hz with rfl | hz
    · exact .inr ⟨_, rfl⟩
    · exact hZ0 z hz
  have ti0 : TIz P qn ((f, held fo) :: (c', LamX.CodeO c' qn) :: Z) H1 := ⟨htab, fun z hz => by
    rcases List.mem_cons.mp hz with rfl | hz
    · exact hf1
    rcases List.mem_cons.mp hz with rfl | hz
    · exact hc1
    · exact hext _ _ (st.ti.2 z hz) (isZ_nt (hZ z hz))⟩
  have hne : ∀ z ∈ ((f, held fo) :: (c', LamX.CodeO c' qn) :: Z : ZS), z.1 ≠ c := fun z hz e => by
    have h1 := ti0.2 z hz
    rw [e, hcn] at h1
    cases h1
  have st1 : ST X.K ca (TIz P qn ((f, held fo) :: (c', LamX.CodeO c' qn) :: Z)) G H1 L M := st.ext_ hext hback ti0
  have st2 := st1.hold hcn (tiz_hold (o := co) ti0 hcn)
  have hcL : c ∉ L := fun z => st1.here c z hcn
  have e0 := env0_hold I1.env0 hcn gc hbase hfr
  -- the call
  obtain ⟨name, qual, params, dV, kV, doc, pm6, cdv, ct, oc, aN, od, osl, rfl, h1, h2, h3⟩ := T6.obj
  have hdp := gd.deep.1
  have hun := gd.deep.2
  have bd := T6.bd s1 us I1.kIn (by rw [List.append_nil, ← r1.length]; rfl)
  rw [List.append_nil] at bd
  have hb : ∀ w : Value, bindArgs (PySem.W.kla_fn "<lambda>" qn ⟨[], [an], none, [], [], none, []⟩ body scope (cloFrom X.env.cells scope.names []) pm (.ref c') ctv) ⟨[w], []⟩ = pure [(an.arg, w)] := fun w => lam_bind ..
  have SP : SpcOk X.prog X.w X.K X.mg X.base (tabI f lb z) ca (TIz P qn ((c, held co) :: (f, held fo) :: (c', LamX.CodeO c' qn) :: Z)) k cp := fun Y C2 hP hw hK hmg hbs gY e d he => by
    have he' : spcI f lb z cp C2 e = some d := he
    unfold spcI at he'
    split at he'
    · rename_i x px t pt pp
      split at he'
      · rename_i hxt
        cases he'
        split
        · rename_i iw it hiw hit
          split
          · rename_i hs1
            rw [← hlb]
            refine pe_inner (params := ⟨[], [an], none, [], [], none, []⟩) (pm := pm) (ctv := ctv) gY hs1 (by rw [hP, hw, hK, hmg, hbs]; exact glob_N (GL _ hZ0)) hiw hit (by rw [hfo]; exact List.mem_cons_self) (List.mem_cons_of_mem _ List.mem_cons_self) hne hco hu hcl hcl1 S hb
          · exact pe_no
        · exact pe_no
      · cases he'
    · cases he'
  have hsp : spG X.K ca (TIz P qn ((c, held co) :: (f, held fo) :: (c', LamX.CodeO c' qn) :: Z)) 3 (runFn d_wrong_in.N.length (denSs (tabI f lb z) cp cpm 40 scI d_wrong_in.body)) [.int i, vy, .ref f] (upd H1 c (held co)) (fun v H' => H' c = some (held co) → Q v (era H' c)) (fun _ _ _ => False) := by
    rw [eW]
    refine ⟨rfl, G, L, M, [.d (.int i), .d (.tuple ds), .fn f], r, M', st2, .cons (.int i) (.cons hvy (.cons rfl .nil)), run_W f hres, fun G' H' L' v stp sT rr hz => ?_⟩
    refine qq G' (era H' c) L' v ((step_ext hext hback).trans (Step.held_ hcn stp hcL hz)) (sT.free_ hz ?_) ?_
    · have t0 := tiz_free sT.ti hne
      exact ⟨t0.1, fun z hz => t0.2 z (List.mem_cons_of_mem _ (List.mem_cons_of_mem _ hz))⟩
    · have nb : ∀ p, upd H1 c (held co) p = none → p ≠ c ∧ H p = none := fun p e => by
        by_cases hp : p = c
        · subst hp
          rw [upd_same] at e
          cases e
        · rw [upd_ne hp] at e
          exact ⟨hp, hback p e⟩
      cases r with
      | v x => exact rr
      | nl xs =>
        obtain ⟨p, vs, a1, a2, a3, a4, a5, a6⟩ := rr
        obtain ⟨b1, b2⟩ := nb p a5
        exact ⟨p, vs, a1, by rw [era_ne b1]; exact a2, a3, a4, b2, a6⟩
      | nd kvs =>
        obtain ⟨p, a1, a2, a3, a4, a5⟩ := rr
        obtain ⟨b1, b2⟩ := nb p a5
        exact ⟨p, a1, by rw [era_ne b1]; exact a2, a3, a4, b2⟩
  have rc : codeAny (model X.prog X.w) X.A (.call (.ref g) ⟨us, []⟩) (CR noCX X.stack X.prog X.w (upd H1 c (held co)) s1 (fun v H' => H' c = some (held co) → Q v (era H' c)) fun _ _ _ => False) s1 := by
    refine run_body (N := d_wrong_in.N) h1 h2 T6.sc (by omega) gd.room.hd e0 bd r1 rfl (PSs.nox (goS_ok (fun sm => sndS (X := (cxOf noCX X.prog X.w X.K X.mg X.base d_wrong_in.N qual d_wrong_in.scope g cdv X.A X.stack s1 (upd H1 c (held co)) fun _ _ _ => False).nox) (glob_I (GL _ hZ1) f lb z) SP (C := scI) ⟨rfl, T6.sc.nd, rfl, T6.sc.kind, rfl, rfl, guards_deep gd.guards, ?_, ⟨gd.room.hd, ?_, ?_⟩, ⟨?_, ?_⟩, fun q e => (nomatch e), rfl⟩ 40 sm) d_wrong_in.body)) (body_ok hsp)
    · show X.A.units + 3 + 200 < cLine
      omega
    · show X.A.depth + 1 + 3 * k + 5 < recursionLimit
      omega
    · show X.A.units + 3 + 16 * k + 200 < cLine
      omega
    · show X.A.depth + 1 + 3 * k + 5 + 1 < recursionLimit
      omega
    · show X.A.units + 3 + 16 * k + 200 + 3 * 1 < cLine
      omega
  refine wpAny_call (codeAny_mono rc fun zr s' hq => ?_)
  replace hq := cr_hold hcn gc hq
  cases zr with
  | error e => exact hq.elim
  | ok fl =>
    cases fl with
    | ret u => exact I1.after hq
    | next => exact hq.elim
    | brk => exact hq.elim
    | cont => exact hq.elim
/-- SPC: the special form is sound, whatever is held -/
theorem spc_ok {P : Program} {w : World} {K : PySem.W.Frag} {mg : Str → Option Value} {base : Heap} {ca : Str → Addr} {Pt g : Addr} {fd : FuncData} (T6 : DefOk K d_wrong_in g fd) (hm : mg "wrong_in" = some (.ref g)) (hk : PySem.W.keepIn K (.ref g) = true) (TB : LamX.TabB base mg (cdOf K "wrong_part") Pt)
    (k : Nat) (cp cpm : Nat → Fun) (GL : ∀ z : { Z : ZS // ∀ z ∈ Z, isZ z }, Glob P w K mg base tab ca (TIz Pt "wrong_part.<locals>.<lambda>" z.1) k cp cpm) (z : { Z : ZS // ∀ z ∈ Z, isZ z }) : SpcOk P w K mg base tab ca (TIz Pt "wrong_part.<locals>.<lambda>" z.1) k cp := by
  intro X C hP hw hK hmg hbs gd e d he
  have he' : spcW cp C e = some d := he
  unfold spcW at he'
  split at he'
  · rename_i f p0 i kk p1 y p2 params body scope lpos pos
    split at he'
    · rename_i hf
      subst hf
      cases he'
      split
      · rename_i v q hv hq
        split
        · rename_i jy jq hjy hjq
          split
          · rename_i hB
            unfold lamB at hB
            simp only [Bool.and_eq_true, beq_iff_eq, decide_eq_true_eq] at hB
            obtain ⟨⟨⟨⟨⟨b1, b2⟩, b3⟩, b4⟩, b5⟩, b6⟩ := hB
            unfold lamP at hv
            split at hv
            · rename_i an
              cases hv
              obtain ⟨q1, q2⟩ := gd.ql _ b5
              subst hP hw hK hmg hbs
              exact pe_wrong gd b4 b3 b2 b6 (fun Z hZ => GL ⟨Z, hZ⟩) z.2 T6 hm hk TB q2 (by rw [q1]; decide +kernel) hjy hjq (NdefX.nscope_by b1)
            · cases hv
          · exact pe_no
        · exact pe_no
      · exact pe_no
    · cases he'
  · cases he'
end PV

set_option maxRecDepth 100000
set_option maxHeartbeats 2000000
/-! the law called, with one table of code objects, no guard around -/
namespace PV
open PySem PySem.Spec PyProof.Rows L2
abbrev listO (vs : List Value) : Obj := { cls := .type "list", data := .seq vs.toArray }
abbrev tabO : Obj := { cls := .none, data := .fields #[] }
abbrev goalF (s : Shared) : Result → Shared → Prop := fun r s' => r = .ok (.ret (.bool true)) ∧ OldK s.heap s'.heap ∧ s'.os = s.os ∧ AllBare s'.gens
section
variable {P : Program} {w : World} {K : PySem.W.Frag} {mg mb : Str → Option Value} {k : Nat} {fa a c0 P0 : Addr} {fd : FuncData} {x : Str} {sp : Sp} {s : Shared} {vs : List Value} {ns : List Int}
/-- from an abstract heap in which only the script and the table may be tracked -/
theorem law_core (KX : K.In s.heap) (hns : s.heap.Ns mainGlobals mg) (hb : s.heap.Ns builtinsNs mb) (hbb : ∀ y : Str, y ≠ "__name__" → mb y = bootBuiltins y) (hlim : s.heap.NoLimit) (hg : s.gens = #[])
    (hT : s.heap.get? P0 = some tabO) (nT : K.lookup P0 = none) (C : PySem.W.CodeHd s.heap c0 P0)
    (hbm : ∃ (bm : Addr) (ob : Obj), mg "__builtins__" = some (.ref bm) ∧ bm ≠ builtinsNs ∧ s.heap.get? bm = some ob ∧ ob.cls = .type "module" ∧ ob.dict = some builtinsNs ∧ ob.data = .plain)
    (ha : s.heap.get? a = some (listO vs)) (hr : Room k callerA)
    (F : ∀ base : Heap, K.In base → base.Ns mainGlobals mg → LamX.TabB base mg c0 P0 → FnG P w K mg base noCX k fa fd [x] sp) (hbind : ∀ (t : Shared) (u : Value), BindsTo t fd ⟨[u], []⟩ [(x, u)])
    (H : Hp) (hH : H P0 = some (.tbl #[])) (hO : ∀ b, H b = none ∨ b = P0 ∨ ∃ o xs, H b = some (.frz o (.lst xs))) (hok : HOk P w H s.heap) (hA : ∀ b, H b ≠ none → b = a ∨ b = P0) (hK : H a ≠ none → K.lookup a = none)
    (hsp : sp [.ref a] H (fun v _ => v = .bl true) fun _ _ _ => False) : codeAny (model P w) callerA (.call (.ref fa) ⟨[.ref a], []⟩) (goalF s) s := by
  have und : ∀ {b : Addr} {o : Obj}, s.heap.get? b = some o → o.data ≠ Data.seq vs.toArray → o.data ≠ Data.fields #[] → H b = none := fun {b o} e h1 h2 => Classical.byContradiction fun z => by
    rcases hA b z with rfl | rfl
    · rw [ha] at e
      cases e
      exact h1 rfl
    · rw [hT] at e
      cases e
      exact h2 rfl
  have unD : ∀ {b : Addr} {o : Obj} {es : Array DictEntry} {ep : Nat}, s.heap.get? b = some o → o.data = .dict es ep → H b = none := fun e d => und e (by rw [d]; exact fun z => nomatch z) (by rw [d]; exact fun z => nomatch z)
  have nsB : ∀ {b : Addr} {m : Str → Option Value}, s.heap.Ns b m → (hidT s.heap H).Ns b m := fun {b m} q => by
    obtain ⟨o, es, ep, e, d, r⟩ := q
    exact ⟨o, es, ep, hidT_get e (unD e d), d, r⟩
  have inB : K.In (hidT s.heap H) := fun b o e => hidT_get (KX b o e) (Classical.byContradiction fun z => by
    rcases hA b z with rfl | rfl
    · rw [hK z] at e
      cases e
    · rw [nT] at e
      cases e)
  have modB : L2.Mod K mg (hidT s.heap H) := ⟨inB, nsB hns, ⟨mb, nsB hb, hbb⟩, by
    obtain ⟨mc, h1, h2⟩ := hlim
    exact ⟨mc, nsB h1, h2⟩⟩
  have TB : LamX.TabB (hidT s.heap H) mg c0 P0 := by
    refine ⟨?_, ?_, fun z => ?_⟩
    · obtain ⟨o, us, f1, f2, f3, f4, f5, f6, f7, e1, r1, r2, r3, r4⟩ := C
      refine ⟨o, us, f1, f2, f3, f4, f5, f6, f7, hidT_get e1 (und e1 ?_ ?_), r1, r2, r3, r4⟩
      · rw [r2]
        exact fun z => nomatch z
      · rw [r2]
        intro z
        cases z
        simp at r3
    · obtain ⟨bm, ob, b1, b2, b3, b4, b5, b6⟩ := hbm
      refine ⟨bm, ob, b1, b2, fun z => ?_, fun z => ?_, hidT_get b3 (und b3 (by rw [b6]; exact fun z => nomatch z) (by rw [b6]; exact fun z => nomatch z)), b4, b5, b6⟩
      · obtain ⟨o, es, ep, e, hd, _⟩ := hns
        rw [z, e] at b3
        cases b3
        rw [hd] at b6
        cases b6
      · rw [z, hT] at b3
        cases b3
        cases b6
    · obtain ⟨o, es, ep, e, hd, _⟩ := hns
      rw [z, hT] at e
      cases e
      cases hd
  have e0 : Env0 P w K mg (hidT s.heap H) callerA [] s H := ⟨rfl, modB, fun _ _ => of_hidT, Nat.le_of_eq (hidT_size _ _), trivial, fun _ z => (nomatch z), hok, .of_eq hg⟩
  refine codeAny_mono ((F _ inB (nsB hns) TB).run callerA [] s H ⟨[.ref a], []⟩ [.ref a] [.ref a] _ _ rfl hr e0 (hbind s (.ref a)) (.cons rfl .nil) hsp) fun r s' h => ?_
  cases r with
  | error e => exact h.elim
  | ok fl =>
    cases fl with
    | next => exact h.elim
    | brk => exact h.elim
    | cont => exact h.elim
    | ret u =>
      obtain ⟨v, H', os, bare, un, hk', rv, q⟩ := h
      have q' : v = .bl true := q
      subst q'
      obtain rfl : u = Value.bool true := rv
      have old : ∀ b o, b ≠ P0 → s.heap.get? b = some o → s'.heap.get? b = some o := fun b o nb e => by
        rcases hO b with z | z | ⟨ob, xs, z⟩
        · exact un.keep b o e z (fun y => nomatch y) (fun y => nomatch y)
        · exact absurd z nb
        · obtain ⟨e1, _⟩ := hok b _ z
          obtain ⟨e2, _⟩ := hk' b _ (un.frzs b ob _ z)
          rw [e] at e1
          cases e1
          exact e2
      obtain ⟨more, hm⟩ := un.tbls P0 #[] hH
      have hm' : s'.heap.get? P0 = some { cls := .none, data := .fields (#[] ++ more) } := hk' P0 _ hm
      refine ⟨rfl, ⟨fun b o e => ?_, fun b o e => ?_⟩, os, bare⟩
      · by_cases hp : b = P0
        · subst hp
          rw [hT] at e
          cases e
          exact .inr (.inl ⟨(C.tab hT).isCodeTable, rfl, #[], more, rfl, hm'⟩)
        · exact .inl (old b o hp e)
      · by_cases hp : b = P0
        · rw [hp]
          exact ⟨_, hm'⟩
        · exact ⟨o, old b o hp e⟩
theorem law_callG (KX : K.In s.heap) (hns : s.heap.Ns mainGlobals mg) (hb : s.heap.Ns builtinsNs mb) (hbb : ∀ y : Str, y ≠ "__name__" → mb y = bootBuiltins y) (hlim : s.heap.NoLimit) (hg : s.gens = #[])
    (hT : s.heap.get? P0 = some tabO) (nT : K.lookup P0 = none) (C : PySem.W.CodeHd s.heap c0 P0)
    (hbm : ∃ (bm : Addr) (ob : Obj), mg "__builtins__" = some (.ref bm) ∧ bm ≠ builtinsNs ∧ s.heap.get? bm = some ob ∧ ob.cls = .type "module" ∧ ob.dict = some builtinsNs ∧ ob.data = .plain)
    (ha : s.heap.get? a = some (listO vs)) (hi : IntsAre vs ns) (hl : ns.length ≤ sizeLine) (hr : Room k callerA)
    (F : ∀ base : Heap, K.In base → base.Ns mainGlobals mg → LamX.TabB base mg c0 P0 → FnG P w K mg base noCX k fa fd [x] sp) (hbind : ∀ (t : Shared) (u : Value), BindsTo t fd ⟨[u], []⟩ [(x, u)])
    (hsp : ∀ H : Hp, H P0 = some (.tbl #[]) → SqL K H a (ns.map V.int) → sp [.ref a] H (fun v _ => v = .bl true) fun _ _ _ => False) : codeAny (model P w) callerA (.call (.ref fa) ⟨[.ref a], []⟩) (goalF s) s := by
  have rv := vals_ints hi
  have len := hi.length
  have aT : a ≠ P0 := fun z => by
    rw [z, hT] at ha
    cases ha
  cases hk : K.lookup a with
  | some o =>
    have e := KX a o hk
    rw [ha] at e
    cases e
    refine law_core KX hns hb hbb hlim hg hT nT C hbm ha hr F hbind (fun b => if b = P0 then some (.tbl #[]) else none) (if_pos rfl) (fun b => ?_) (fun b u z => ?_) (fun b z => ?_) (fun z => absurd (if_neg aT) z) (hsp _ (if_pos rfl) (.inr ⟨_, vs.toArray, _, hk, rfl, rfl, rfl, by rw [List.size_toArray, len]; exact hl, by simpa using rv⟩))
    · by_cases h : b = P0
      · exact .inr (.inl h)
      · exact .inl (if_neg h)
    · by_cases h : b = P0
      · have z' : some (HO.tbl #[]) = some u := (if_pos h).symm.trans z
        cases z'
        rw [h]
        exact hT
      · cases ((if_neg h).symm.trans z : (none : Option HO) = some u)
    · by_cases h : b = P0
      · exact .inr h
      · exact absurd (if_neg h) z
  | none =>
    refine law_core KX hns hb hbb hlim hg hT nT C hbm ha hr F hbind (fun b => if b = a then some (.frz (listO vs) (.lst (ns.map V.int))) else if b = P0 then some (.tbl #[]) else none) ((if_neg aT.symm).trans (if_pos rfl)) (fun b => ?_) (fun b u z => ?_) (fun b z => ?_) (fun _ => hk)
      (hsp _ ((if_neg aT.symm).trans (if_pos rfl)) (.inl (.inr ⟨listO vs, if_pos rfl⟩)))
    · by_cases h : b = a
      · exact .inr (.inr ⟨_, _, if_pos h⟩)
      · by_cases h2 : b = P0
        · exact .inr (.inl h2)
        · exact .inl ((if_neg h).trans (if_neg h2))
    · by_cases h : b = a
      · have z' : some (HO.frz (listO vs) (.lst (ns.map V.int))) = some u := (if_pos h).symm.trans z
        cases z'
        rw [h]
        exact ⟨ha, by rw [List.length_map]; exact hl, vs, _, rv, ha⟩
      · have z1 := (if_neg h).symm.trans z
        by_cases h2 : b = P0
        · have z' : some (HO.tbl #[]) = some u := (if_pos h2).symm.trans z1
          cases z'
          rw [h2]
          exact hT
        · cases ((if_neg h2).symm.trans z1 : (none : Option HO) = some u)
    · by_cases h : b = a
      · exact .inl h
      · by_cases h2 : b = P0
        · exact .inr h2
        · exact absurd ((if_neg h).trans (if_neg h2)) z
end
end PV

set_option maxRecDepth 100000
set_option maxHeartbeats 0
/-! the head's data (printed by gen_head.py) -/
namespace PV
open PySem PySem.Spec PyProof.Rows L2
def hfn : List He.DefD := [
  ⟨(("is_whole" : Str), none), ("is_whole" : Str), ("is_whole" : Str), C8.fnArgs (top 16), d_is_whole.body, d_is_whole.scope, [], []⟩,
  ⟨(("is_between" : Str), none), ("is_between" : Str), ("is_between" : Str), C8.fnArgs (top 17), d_is_between.body, d_is_between.scope, [], []⟩,
  ⟨(("is_below" : Str), none), ("is_below" : Str), ("is_below" : Str), C8.fnArgs (top 18), d_is_below.body, d_is_below.scope, [], []⟩,
  ⟨(("is_ascending" : Str), none), ("is_ascending" : Str), ("is_ascending" : Str), C8.fnArgs (top 19), d_is_ascending.body, d_is_ascending.scope, [], []⟩,
  ⟨(("is_tuple_of" : Str), none), ("is_tuple_of" : Str), ("is_tuple_of" : Str), C8.fnArgs (top 20), d_is_tuple_of.body, d_is_tuple_of.scope, [], []⟩,
  ⟨(("first_of" : Str), none), ("first_of" : Str), ("first_of" : Str), C8.fnArgs (top 21), d_first_of.body, d_first_of.scope, [], []⟩,
  ⟨(("wrong_in" : Str), none), ("wrong_in" : Str), ("wrong_in" : Str), C8.fnArgs (top 22), d_wrong_in.body, d_wrong_in.scope, [], []⟩,
  ⟨(("is_signs" : Str), none), ("is_signs" : Str), ("is_signs" : Str), C8.fnArgs (top 23), d_is_signs.body, d_is_signs.scope, [], []⟩,
  ⟨(("is_move" : Str), none), ("is_move" : Str), ("is_move" : Str), C8.fnArgs (top 24), d_is_move.body, d_is_move.scope, [], []⟩,
  ⟨(("wrong_move" : Str), none), ("wrong_move" : Str), ("wrong_move" : Str), C8.fnArgs (top 25), d_wrong_move.body, d_wrong_move.scope, [], []⟩,
  ⟨(("wrong_part" : Str), none), ("wrong_part" : Str), ("wrong_part" : Str), C8.fnArgs (top 26), d_wrong_part.body, d_wrong_part.scope, [], []⟩,
  ⟨(("made_rig" : Str), none), ("made_rig" : Str), ("made_rig" : Str), C8.fnArgs (top 27), d_made_rig.body, d_made_rig.scope, [], []⟩,
  ⟨(("is_rig" : Str), none), ("is_rig" : Str), ("is_rig" : Str), C8.fnArgs (top 28), d_is_rig.body, d_is_rig.scope, [], []⟩,
  ⟨(("is_fault" : Str), none), ("is_fault" : Str), ("is_fault" : Str), C8.fnArgs (top 29), d_is_fault.body, d_is_fault.scope, [], []⟩,
  ⟨(("is_setting" : Str), none), ("is_setting" : Str), ("is_setting" : Str), C8.fnArgs (top 30), d_is_setting.body, d_is_setting.scope, [], []⟩,
  ⟨(("want_fault" : Str), none), ("want_fault" : Str), ("want_fault" : Str), C8.fnArgs (top 31), d_want_fault.body, d_want_fault.scope, [], []⟩,
  ⟨(("neighbours_of" : Str), none), ("neighbours_of" : Str), ("neighbours_of" : Str), C8.fnArgs (top 32), d_neighbours_of.body, d_neighbours_of.scope, [], []⟩,
  ⟨(("move_between" : Str), none), ("move_between" : Str), ("move_between" : Str), C8.fnArgs (top 33), d_move_between.body, d_move_between.scope, [], []⟩,
  ⟨(("is_lot" : Str), none), ("is_lot" : Str), ("is_lot" : Str), C8.fnArgs (top 35), d_is_lot.body, d_is_lot.scope, [], []⟩,
  ⟨(("every_fault" : Str), none), ("every_fault" : Str), ("every_fault" : Str), C8.fnArgs (top 36), d_every_fault.body, d_every_fault.scope, [], []⟩,
  ⟨(("cures_of" : Str), none), ("cures_of" : Str), ("cures_of" : Str), C8.fnArgs (top 37), d_cures_of.body, d_cures_of.scope, [], []⟩,
  ⟨(("is_done" : Str), none), ("is_done" : Str), ("is_done" : Str), C8.fnArgs (top 38), d_is_done.body, d_is_done.scope, [], []⟩,
  ⟨(("agreeing_in" : Str), none), ("agreeing_in" : Str), ("agreeing_in" : Str), C8.fnArgs (top 39), d_agreeing_in.body, d_agreeing_in.scope, [], []⟩,
  ⟨(("signs_in" : Str), none), ("signs_in" : Str), ("signs_in" : Str), C8.fnArgs (top 40), d_signs_in.body, d_signs_in.scope, [], []⟩,
  ⟨(("has_one_sign" : Str), none), ("has_one_sign" : Str), ("has_one_sign" : Str), C8.fnArgs (top 41), d_has_one_sign.body, d_has_one_sign.scope, [], []⟩,
  ⟨(("parts_at" : Str), none), ("parts_at" : Str), ("parts_at" : Str), C8.fnArgs (top 42), d_parts_at.body, d_parts_at.scope, [], []⟩,
  ⟨(("is_within" : Str), none), ("is_within" : Str), ("is_within" : Str), C8.fnArgs (top 43), d_is_within.body, d_is_within.scope, [], []⟩,
  ⟨(("is_bar" : Str), none), ("is_bar" : Str), ("is_bar" : Str), C8.fnArgs (top 47), d_is_bar.body, d_is_bar.scope, [], []⟩,
  ⟨(("are_bars" : Str), none), ("are_bars" : Str), ("are_bars" : Str), C8.fnArgs (top 48), d_are_bars.body, d_are_bars.scope, [], []⟩,
  ⟨(("wrong_bars" : Str), none), ("wrong_bars" : Str), ("wrong_bars" : Str), C8.fnArgs (top 49), d_wrong_bars.body, d_wrong_bars.scope, [], []⟩,
  ⟨(("made_book" : Str), none), ("made_book" : Str), ("made_book" : Str), C8.fnArgs (top 50), d_made_book.body, d_made_book.scope, [], []⟩,
  ⟨(("is_book" : Str), none), ("is_book" : Str), ("is_book" : Str), C8.fnArgs (top 51), d_is_book.body, d_is_book.scope, [], []⟩,
  ⟨(("bar_at" : Str), none), ("bar_at" : Str), ("bar_at" : Str), C8.fnArgs (top 53), d_bar_at.body, d_bar_at.scope, [], []⟩,
  ⟨(("is_free" : Str), none), ("is_free" : Str), ("is_free" : Str), C8.fnArgs (top 54), d_is_free.body, d_is_free.scope, [], []⟩,
  ⟨(("free_neighbours" : Str), none), ("free_neighbours" : Str), ("free_neighbours" : Str), C8.fnArgs (top 56), d_free_neighbours.body, d_free_neighbours.scope, [], []⟩,
  ⟨(("distances" : Str), none), ("distances" : Str), ("distances" : Str), C8.fnArgs (top 57), d_distances.body, d_distances.scope, [], []⟩,
  ⟨(("region_of" : Str), none), ("region_of" : Str), ("region_of" : Str), C8.fnArgs (top 58), d_region_of.body, d_region_of.scope, [], []⟩,
  ⟨(("way_of" : Str), none), ("way_of" : Str), ("way_of" : Str), C8.fnArgs (top 59), d_way_of.body, d_way_of.scope, [], []⟩,
  ⟨(("home_of" : Str), none), ("home_of" : Str), ("home_of" : Str), C8.fnArgs (top 61), d_home_of.body, d_home_of.scope, [], []⟩,
  ⟨(("is_start" : Str), none), ("is_start" : Str), ("is_start" : Str), C8.fnArgs (top 62), d_is_start.body, d_is_start.scope, [], []⟩,
  ⟨(("want_start" : Str), none), ("want_start" : Str), ("want_start" : Str), C8.fnArgs (top 63), d_want_start.body, d_want_start.scope, [], []⟩,
  ⟨(("made_start" : Str), none), ("made_start" : Str), ("made_start" : Str), C8.fnArgs (top 64), d_made_start.body, d_made_start.scope, [], []⟩,
  ⟨(("want_fault_in" : Str), none), ("want_fault_in" : Str), ("want_fault_in" : Str), C8.fnArgs (top 65), d_want_fault_in.body, d_want_fault_in.scope, [], []⟩,
  ⟨(("is_way" : Str), none), ("is_way" : Str), ("is_way" : Str), C8.fnArgs (top 70), d_is_way.body, d_is_way.scope, [], []⟩,
  ⟨(("is_branch" : Str), none), ("is_branch" : Str), ("is_branch" : Str), C8.fnArgs (top 71), d_is_branch.body, d_is_branch.scope, [], []⟩,
  ⟨(("are_branches" : Str), none), ("are_branches" : Str), ("are_branches" : Str), C8.fnArgs (top 72), d_are_branches.body, d_are_branches.scope, [], []⟩,
  ⟨(("is_row" : Str), none), ("is_row" : Str), ("is_row" : Str), C8.fnArgs (top 73), d_is_row.body, d_is_row.scope, [], []⟩,
  ⟨(("has_size" : Str), none), ("has_size" : Str), ("has_size" : Str), C8.fnArgs (top 74), d_has_size.body, d_has_size.scope, [], []⟩,
  ⟨(("first_wrong" : Str), none), ("first_wrong" : Str), ("first_wrong" : Str), C8.fnArgs (top 75), d_first_wrong.body, d_first_wrong.scope, [], []⟩,
  ⟨(("want_code" : Str), none), ("want_code" : Str), ("want_code" : Str), C8.fnArgs (top 76), d_want_code.body, d_want_code.scope, [], []⟩,
  ⟨(("tells_code" : Str), none), ("tells_code" : Str), ("tells_code" : Str), C8.fnArgs (top 77), d_tells_code.body, d_tells_code.scope, [], []⟩,
  ⟨(("joined" : Str), none), ("joined" : Str), ("joined" : Str), C8.fnArgs (top 78), d_joined.body, d_joined.scope, [], []⟩,
  ⟨(("Rows" : Str), some ("__init__" : Str)), ("__init__" : Str), ("Rows.__init__" : Str), C8.fnArgs (mth 79 0), d_Rows_init.body, d_Rows_init.scope, [], []⟩,
  ⟨(("Rows" : Str), some ("number" : Str)), ("number" : Str), ("Rows.number" : Str), C8.fnArgs (mth 79 1), d_Rows_number.body, d_Rows_number.scope, [], []⟩,
  ⟨(("flat" : Str), none), ("flat" : Str), ("flat" : Str), C8.fnArgs (top 80), d_flat.body, d_flat.scope, [], []⟩,
  ⟨(("coded" : Str), none), ("coded" : Str), ("coded" : Str), C8.fnArgs (top 81), d_coded.body, d_coded.scope, [], []⟩,
  ⟨(("Run" : Str), some ("__init__" : Str)), ("__init__" : Str), ("Run.__init__" : Str), C8.fnArgs (mth 82 0), d_Run_init.body, d_Run_init.scope, [], []⟩,
  ⟨(("Run" : Str), some ("go" : Str)), ("go" : Str), ("Run.go" : Str), C8.fnArgs (mth 82 1), d_Run_go.body, d_Run_go.scope, [], []⟩,
  ⟨(("Run" : Str), some ("go_all" : Str)), ("go_all" : Str), ("Run.go_all" : Str), C8.fnArgs (mth 82 2), d_Run_go_all.body, d_Run_go_all.scope, [], []⟩,
  ⟨(("Run" : Str), some ("last" : Str)), ("last" : Str), ("Run.last" : Str), C8.fnArgs (mth 82 3), d_Run_last.body, d_Run_last.scope, [], []⟩,
  ⟨(("run_from" : Str), none), ("run_from" : Str), ("run_from" : Str), C8.fnArgs (top 83), d_run_from.body, d_run_from.scope, [], []⟩,
  ⟨(("run_code" : Str), none), ("run_code" : Str), ("run_code" : Str), C8.fnArgs (top 84), d_run_code.body, d_run_code.scope, [], []⟩,
  ⟨(("cures" : Str), none), ("cures" : Str), ("cures" : Str), C8.fnArgs (top 85), d_cures.body, d_cures.scope, [], []⟩,
  ⟨(("is_right_code" : Str), none), ("is_right_code" : Str), ("is_right_code" : Str), C8.fnArgs (top 86), d_is_right_code.body, d_is_right_code.scope, [], []⟩,
  ⟨(("code_right" : Str), none), ("code_right" : Str), ("code_right" : Str), C8.fnArgs (top 87), d_code_right.body, d_code_right.scope, [], []⟩,
  ⟨(("nearest" : Str), none), ("nearest" : Str), ("nearest" : Str), C8.fnArgs (top 89), d_nearest.body, d_nearest.scope, [], []⟩,
  ⟨(("look_from" : Str), none), ("look_from" : Str), ("look_from" : Str), C8.fnArgs (top 90), d_look_from.body, d_look_from.scope, [], []⟩,
  ⟨(("tree_from" : Str), none), ("tree_from" : Str), ("tree_from" : Str), C8.fnArgs (top 91), d_tree_from.body, d_tree_from.scope, [], []⟩,
  ⟨(("code_from" : Str), none), ("code_from" : Str), ("code_from" : Str), C8.fnArgs (top 92), d_code_from.body, d_code_from.scope, [], []⟩,
  ⟨(("code_for" : Str), none), ("code_for" : Str), ("code_for" : Str), C8.fnArgs (top 93), d_code_for.body, d_code_for.scope, [], []⟩,
  ⟨(("can_end" : Str), none), ("can_end" : Str), ("can_end" : Str), C8.fnArgs (top 94), d_can_end.body, d_can_end.scope, [], []⟩,
  ⟨(("solvable" : Str), none), ("solvable" : Str), ("solvable" : Str), C8.fnArgs (top 95), d_solvable.body, d_solvable.scope, [], []⟩,
  ⟨(("course_of" : Str), none), ("course_of" : Str), ("course_of" : Str), C8.fnArgs (top 97), d_course_of.body, d_course_of.scope, [], []⟩,
  ⟨(("course" : Str), none), ("course" : Str), ("course" : Str), C8.fnArgs (top 98), d_course.body, d_course.scope, [], []⟩,
  ⟨(("all_courses" : Str), none), ("all_courses" : Str), ("all_courses" : Str), C8.fnArgs (top 99), d_all_courses.body, d_all_courses.scope, [], []⟩,
  ⟨(("trips" : Str), none), ("trips" : Str), ("trips" : Str), C8.fnArgs (top 100), d_trips.body, d_trips.scope, [], []⟩,
  ⟨(("chain" : Str), none), ("chain" : Str), ("chain" : Str), C8.fnArgs (top 102), d_chain.body, d_chain.scope, [], []⟩,
  ⟨(("unlike_entries" : Str), none), ("unlike_entries" : Str), ("unlike_entries" : Str), C8.fnArgs (top 104), d_unlike_entries.body, d_unlike_entries.scope, [], []⟩,
  ⟨(("faults_left" : Str), none), ("faults_left" : Str), ("faults_left" : Str), C8.fnArgs (top 105), d_faults_left.body, d_faults_left.scope, [], []⟩,
  ⟨(("way_deeds" : Str), none), ("way_deeds" : Str), ("way_deeds" : Str), C8.fnArgs (top 109), d_way_deeds.body, d_way_deeds.scope, [], []⟩,
  ⟨(("setting_behind" : Str), none), ("setting_behind" : Str), ("setting_behind" : Str), C8.fnArgs (top 110), d_setting_behind.body, d_setting_behind.scope, [], []⟩,
  ⟨(("deeds_from" : Str), none), ("deeds_from" : Str), ("deeds_from" : Str), C8.fnArgs (top 111), d_deeds_from.body, d_deeds_from.scope, [], []⟩,
  ⟨(("walk_of" : Str), none), ("walk_of" : Str), ("walk_of" : Str), C8.fnArgs (top 112), d_walk_of.body, d_walk_of.scope, [], []⟩,
  ⟨(("journal_of" : Str), none), ("journal_of" : Str), ("journal_of" : Str), C8.fnArgs (top 113), d_journal_of.body, d_journal_of.scope, [], []⟩,
  ⟨(("first_bad_cut" : Str), none), ("first_bad_cut" : Str), ("first_bad_cut" : Str), C8.fnArgs (top 114), d_first_bad_cut.body, d_first_bad_cut.scope, [], []⟩,
  ⟨(("want_cuts" : Str), none), ("want_cuts" : Str), ("want_cuts" : Str), C8.fnArgs (top 115), d_want_cuts.body, d_want_cuts.scope, [], []⟩,
  ⟨(("want_run" : Str), none), ("want_run" : Str), ("want_run" : Str), C8.fnArgs (top 116), d_want_run.body, d_want_run.scope, [], []⟩,
  ⟨(("run_cut" : Str), none), ("run_cut" : Str), ("run_cut" : Str), C8.fnArgs (top 117), d_run_cut.body, d_run_cut.scope, [], []⟩,
  ⟨(("_law_pool" : Str), none), ("_law_pool" : Str), ("_law_pool" : Str), C8.fnArgs (top 119), d_law_pool.body, d_law_pool.scope, [], []⟩,
  ⟨(("_law_take" : Str), none), ("_law_take" : Str), ("_law_take" : Str), C8.fnArgs (top 120), d_law_take.body, d_law_take.scope, [], []⟩,
  ⟨(("_law_one" : Str), none), ("_law_one" : Str), ("_law_one" : Str), C8.fnArgs (top 121), d_law_one.body, d_law_one.scope, [], []⟩,
  ⟨(("_law_mixed" : Str), none), ("_law_mixed" : Str), ("_law_mixed" : Str), C8.fnArgs (top 122), d_law_mixed.body, d_law_mixed.scope, [], []⟩,
  ⟨(("_law_all" : Str), none), ("_law_all" : Str), ("_law_all" : Str), C8.fnArgs (top 123), d_law_all.body, d_law_all.scope, [], []⟩,
  ⟨(("_law_row_bars" : Str), none), ("_law_row_bars" : Str), ("_law_row_bars" : Str), C8.fnArgs (top 124), d_law_row_bars.body, d_law_row_bars.scope, [], []⟩,
  ⟨(("_law_row_book" : Str), none), ("_law_row_book" : Str), ("_law_row_book" : Str), C8.fnArgs (top 125), d_law_row_book.body, d_law_row_book.scope, [], []⟩,
  ⟨(("_law_due_code" : Str), none), ("_law_due_code" : Str), ("_law_due_code" : Str), C8.fnArgs (top 126), d_law_due_code.body, d_law_due_code.scope, [], []⟩,
  ⟨(("_law_due_walk" : Str), none), ("_law_due_walk" : Str), ("_law_due_walk" : Str), C8.fnArgs (top 127), d_law_due_walk.body, d_law_due_walk.scope, [], []⟩,
  ⟨(("_law_due_course" : Str), none), ("_law_due_course" : Str), ("_law_due_course" : Str), C8.fnArgs (top 128), d_law_due_course.body, d_law_due_course.scope, [], []⟩,
  ⟨(("_law_sees" : Str), none), ("_law_sees" : Str), ("_law_sees" : Str), C8.fnArgs (top 129), d_law_sees.body, d_law_sees.scope, [], []⟩,
  ⟨(("_law_fault_right" : Str), none), ("_law_fault_right" : Str), ("_law_fault_right" : Str), C8.fnArgs (top 130), d_law_fault_right.body, d_law_fault_right.scope, [], []⟩,
  ⟨(("law" : Str), none), ("law" : Str), ("law" : Str), C8.fnArgs (top 131), d_law.body, d_law.scope, [], []⟩]
def ffn : List He.Fa := [.glo ("is_whole" : Str), .glo ("is_between" : Str), .glo ("is_below" : Str), .glo ("is_ascending" : Str), .glo ("is_tuple_of" : Str), .glo ("first_of" : Str), .glo ("wrong_in" : Str), .glo ("is_signs" : Str), .glo ("is_move" : Str), .glo ("wrong_move" : Str), .glo ("wrong_part" : Str), .glo ("made_rig" : Str), .glo ("is_rig" : Str), .glo ("is_fault" : Str), .glo ("is_setting" : Str), .glo ("want_fault" : Str), .glo ("neighbours_of" : Str), .glo ("move_between" : Str), .glo ("is_lot" : Str), .glo ("every_fault" : Str), .glo ("cures_of" : Str), .glo ("is_done" : Str), .glo ("agreeing_in" : Str), .glo ("signs_in" : Str), .glo ("has_one_sign" : Str), .glo ("parts_at" : Str), .glo ("is_within" : Str), .glo ("is_bar" : Str), .glo ("are_bars" : Str), .glo ("wrong_bars" : Str), .glo ("made_book" : Str), .glo ("is_book" : Str), .glo ("bar_at" : Str), .glo ("is_free" : Str), .glo ("free_neighbours" : Str), .glo ("distances" : Str), .glo ("region_of" : Str), .glo ("way_of" : Str), .glo ("home_of" : Str), .glo ("is_start" : Str), .glo ("want_start" : Str), .glo ("made_start" : Str), .glo ("want_fault_in" : Str), .glo ("is_way" : Str), .glo ("is_branch" : Str), .glo ("are_branches" : Str), .glo ("is_row" : Str), .glo ("has_size" : Str), .glo ("first_wrong" : Str), .glo ("want_code" : Str), .glo ("tells_code" : Str), .glo ("joined" : Str), .glo ("flat" : Str), .glo ("coded" : Str), .glo ("run_from" : Str), .glo ("run_code" : Str), .glo ("cures" : Str), .glo ("is_right_code" : Str), .glo ("code_right" : Str), .glo ("nearest" : Str), .glo ("look_from" : Str), .glo ("tree_from" : Str), .glo ("code_from" : Str), .glo ("code_for" : Str), .glo ("can_end" : Str), .glo ("solvable" : Str), .glo ("course_of" : Str), .glo ("course" : Str), .glo ("all_courses" : Str), .glo ("trips" : Str), .glo ("chain" : Str), .glo ("unlike_entries" : Str), .glo ("faults_left" : Str), .glo ("way_deeds" : Str), .glo ("setting_behind" : Str), .glo ("deeds_from" : Str), .glo ("walk_of" : Str), .glo ("journal_of" : Str), .glo ("first_bad_cut" : Str), .glo ("want_cuts" : Str), .glo ("want_run" : Str), .glo ("run_cut" : Str), .glo ("_law_pool" : Str), .glo ("_law_take" : Str), .glo ("_law_one" : Str), .glo ("_law_mixed" : Str), .glo ("_law_all" : Str), .glo ("_law_row_bars" : Str), .glo ("_law_row_book" : Str), .glo ("_law_due_code" : Str), .glo ("_law_due_walk" : Str), .glo ("_law_due_course" : Str), .glo ("_law_sees" : Str), .glo ("_law_fault_right" : Str), .glo ("law" : Str)]
def fcon : List He.Fa := [.int ("MOST_FAULTS" : Str) 24, .int ("MOST_REMEDIES" : Str) 16, .int ("MOST_SETTINGS" : Str) 40, .int ("MOST_SIGN" : Str) 9, .int ("MOST_MOVES" : Str) 200, .int ("HOME" : Str) 0, .int ("MOST_BARS" : Str) 200, .int ("MOST_IN_BAR" : Str) 3, .int ("MOST_ROWS" : Str) 2000, .int ("MOST_WAY" : Str) 2000, .int ("MANY_SIGNS" : Str) 10, .int ("MOST_CUTS" : Str) 20, .int ("MOST_DEEDS" : Str) 5000]
def fcls : List He.Fa := [.glo ("Rows" : Str), .cls ("Rows" : Str), .mkr ("Rows" : Str), .glo ("Run" : Str), .cls ("Run" : Str), .mkr ("Run" : Str)]
def fmth : List He.Fa := [.meth ("Rows" : Str) ("number" : Str), .meth ("Run" : Str) ("go" : Str), .meth ("Run" : Str) ("go_all" : Str), .meth ("Run" : Str) ("last" : Str)]
def fatt : List He.Fa := [.noat ("Rows" : Str) ("rows" : Str), .noat ("Run" : Str) ("book" : Str), .noat ("Run" : Str) ("x" : Str), .noat ("Run" : Str) ("walk" : Str), .noat ("Run" : Str) ("known" : Str)]
def fblt : List He.Fa := [.free ("len" : Str), .free ("tuple" : Str), .free ("list" : Str), .free ("sorted" : Str), .free ("all" : Str), .free ("max" : Str), .free ("min" : Str), .free ("sum" : Str), .free ("int" : Str), .free ("repr" : Str), .free ("dict" : Str), .free ("range" : Str), .free ("enumerate" : Str), .free ("isinstance" : Str), .free ("bool" : Str)]
def hfa : List He.Fa := ffn ++ (fcon ++ (fcls ++ (fmth ++ (fatt ++ fblt))))
def looseL : List PySem.Str := [(("__name__" : Str)), (("Refused" : Str)), (("BadRig" : Str)), (("BadFault" : Str)), (("BadBook" : Str)), (("BadStart" : Str)), (("BadCode" : Str)), (("NotRight" : Str)), (("BadCuts" : Str)), (("MOST_FAULTS" : Str)), (("MOST_REMEDIES" : Str)), (("MOST_SETTINGS" : Str)), (("MOST_SIGN" : Str)), (("MOST_MOVES" : Str)), (("HOME" : Str)), (("is_whole" : Str)), (("is_between" : Str)), (("is_below" : Str)), (("is_ascending" : Str)), (("is_tuple_of" : Str)), (("first_of" : Str)), (("wrong_in" : Str)), (("is_signs" : Str)), (("is_move" : Str)), (("wrong_move" : Str)), (("wrong_part" : Str)), (("made_rig" : Str)), (("is_rig" : Str)), (("is_fault" : Str)), (("is_setting" : Str)), (("want_fault" : Str)), (("neighbours_of" : Str)), (("move_between" : Str)), (("is_lot" : Str)), (("every_fault" : Str)), (("cures_of" : Str)), (("is_done" : Str)), (("agreeing_in" : Str)), (("signs_in" : Str)), (("has_one_sign" : Str)), (("parts_at" : Str)), (("is_within" : Str)), (("MOST_BARS" : Str)), (("MOST_IN_BAR" : Str)), (("is_bar" : Str)), (("are_bars" : Str)), (("wrong_bars" : Str)), (("made_book" : Str)), (("is_book" : Str)), (("bar_at" : Str)), (("is_free" : Str)), (("free_neighbours" : Str)), (("distances" : Str)), (("region_of" : Str)), (("way_of" : Str)), (("home_of" : Str)), (("is_start" : Str)), (("want_start" : Str)), (("made_start" : Str)), (("want_fault_in" : Str)), (("MOST_ROWS" : Str)), (("MOST_WAY" : Str)), (("MANY_SIGNS" : Str)), (("is_way" : Str)), (("is_branch" : Str)), (("are_branches" : Str)), (("is_row" : Str)), (("has_size" : Str)), (("first_wrong" : Str)), (("want_code" : Str)), (("tells_code" : Str)), (("joined" : Str)), (("Rows" : Str)), (("flat" : Str)), (("coded" : Str)), (("Run" : Str)), (("run_from" : Str)), (("run_code" : Str)), (("cures" : Str)), (("is_right_code" : Str)), (("code_right" : Str)), (("nearest" : Str)), (("look_from" : Str)), (("tree_from" : Str)), (("code_from" : Str)), (("code_for" : Str)), (("can_end" : Str)), (("solvable" : Str)), (("course_of" : Str)), (("course" : Str)), (("all_courses" : Str)), (("trips" : Str)), (("chain" : Str)), (("unlike_entries" : Str)), (("faults_left" : Str)), (("MOST_CUTS" : Str)), (("MOST_DEEDS" : Str)), (("way_deeds" : Str)), (("setting_behind" : Str)), (("deeds_from" : Str)), (("walk_of" : Str)), (("journal_of" : Str)), (("first_bad_cut" : Str)), (("want_cuts" : Str)), (("want_run" : Str)), (("run_cut" : Str)), (("_law_pool" : Str)), (("_law_take" : Str)), (("_law_one" : Str)), (("_law_mixed" : Str)), (("_law_all" : Str)), (("_law_row_bars" : Str)), (("_law_row_book" : Str)), (("_law_due_code" : Str)), (("_law_due_walk" : Str)), (("_law_due_course" : Str)), (("_law_sees" : Str)), (("_law_fault_right" : Str))]
end PV

set_option maxRecDepth 100000
set_option maxHeartbeats 0
/-! the head's run, looked at through few objects -/
namespace PV
open PySem PySem.Spec PyProof.Rows L2
def refF (o : Obj) : List Addr := match o.data with
  | .dict es _ => es.toList.flatMap fun e => He.refV e.val
  | .func fd => He.refV fd.code
  | .cls cd => [cd.ns]
  | _ => []
def nxtP (g : Addr → Option Obj) (as : List Addr) : List Addr := as.flatMap fun a => match g a with
  | some o => refF o
  | none => []
def asP (g : Addr → Option Obj) : Nat → List Addr → List Addr
  | 0, as => as
  | n + 1, as => as ++ asP g n (nxtP g as)
abbrev frP (g : Addr → Option Obj) : PySem.W.Frag := He.frT g (asP g 4 [mainGlobals])
def tf0 : List He.Defn := [(("wrong_part" : Str), none)]
abbrev AlP : Type := He.AlD × Bool
def obsP (g : Addr → Option Obj) : AlP := (He.obsD hfa hfn (frP g), He.tabsB g tf0 (frP g))
structure SaysP (h : Heap) (K : PySem.W.Frag) : Prop where
  d : He.SaysD hfa hfn K
  hd : PySem.W.codeHdIn K (He.cT K ("wrong_part", none)).1 (He.cT K ("wrong_part", none)).2 = true
  out : K.lookup (He.cT K ("wrong_part", none)).2 = none
  empty : h.get? (He.cT K ("wrong_part", none)).2 = some { cls := .none, data := .fields #[] }
theorem saysP_of {h : Heap} (e : obsP h.get? = (He.valD hfn, true)) : SaysP h (frP h.get?) := by
  have e1 : He.obsD hfa hfn (frP h.get?) = He.valD hfn := congrArg (fun z : AlP => z.1) e
  have e2 : He.tabsB h.get? tf0 (frP h.get?) = true := congrArg (fun z : AlP => z.2) e
  have e3 := List.all_eq_true.mp e2 _ (List.mem_singleton.mpr rfl)
  obtain ⟨h3, h4⟩ := He.ba e3
  have h5 : ∃ o, h.get? (He.cT (frP h.get?) ("wrong_part", none)).2 = some o ∧ He.emptyTab o = true := by
    cases q : h.get? (He.cT (frP h.get?) ("wrong_part", none)).2 with
    | none => rw [q] at h4; cases h4
    | some o => rw [q] at h4; exact ⟨o, rfl, h4⟩
  obtain ⟨o, q, z⟩ := h5
  exact ⟨e1, h3, He.frT_none q z, by rw [q, He.emptyTab_eq z]⟩
def hk : PySem.W.Hook where
  α := AlP
  obs := fun s => obsP s.heap.get?
  val := fun _ => (He.valD hfn, true)
  says := fun _ h => ∃ K : PySem.W.Frag, K.In h ∧ SaysP h K
  of := fun _ _ e => ⟨_, He.frT_in, saysP_of e⟩
  keeps := fun _ _ _ ⟨K, hK, c⟩ k => ⟨K, PySem.W.Frag.In.keeps hK k, ⟨c.d, c.hd, c.out, k _ _ c.empty⟩⟩
def ob (s : PySem.W.SharedT) : AlP := obsP (HandSHeadRun.getT s)
theorem ob_eq (s : PySem.W.SharedT) : ob s = hk.obs s.abs := by
  have e : HandSHeadRun.getT s = s.abs.heap.get? := funext (HandSHeadRun.getT_eq s)
  unfold ob
  rw [e]
  rfl
abbrev R0 : PySem.W.OpenRow := PySem.W.OpenLaw.row PySem.Challenge.rw_waryrig_k83_whole_a_row_of_faults_told_o
end PV

set_option maxRecDepth 100000
set_option maxHeartbeats 2000000
/-! the tables hold, of the head's facts -/
namespace PV
open PySem PySem.Spec PyProof.Rows L2
theorem fm_cong2 {α β : Type} {f g : α → Option β} : ∀ {l : List α}, (∀ a ∈ l, f a = g a) → l.filterMap f = l.filterMap g
  | [], _ => rfl
  | a :: l, h => by
    rw [List.filterMap_cons, List.filterMap_cons, h a List.mem_cons_self, fm_cong2 fun b hb => h b (List.mem_cons_of_mem _ hb)]
theorem zip_lk : ∀ {ps : List Str} {us : List Value}, us.length = ps.length → ps.Nodup → ps.filterMap (fun n => ((ps.zip us).lookup n).map fun v => (n, v)) = ps.zip us
  | [], [], _, _ => rfl
  | x :: r, u :: v, hl, hn => by
    obtain ⟨h1, h2⟩ := List.nodup_cons.mp hn
    have ih := zip_lk (ps := r) (us := v) (by simpa using hl) h2
    rw [List.zip_cons_cons, List.filterMap_cons]
    have e1 : (((x, u) :: r.zip v).lookup x) = some u := by simp [List.lookup]
    rw [e1]
    have e2 : r.filterMap (fun n => (((x, u) :: r.zip v).lookup n).map fun v => (n, v)) = r.zip v := by
      rw [← ih]
      refine fm_cong2 fun n hn => ?_
      have e : (n == x) = false := beq_eq_false_iff_ne.mpr fun z => h1 (z ▸ hn)
      rw [List.lookup_cons, e, ih]
    rw [e2]
    rfl
theorem zip_some : ∀ {ps : List Str} {us : List Value} {n : Str}, us.length = ps.length → n ∈ ps → ((ps.zip us).lookup n).isNone = false
  | [], _, _, _, h => by cases h
  | x :: r, [], n, hl, h => by cases hl
  | x :: r, u :: v, n, hl, h => by
    rw [List.zip_cons_cons, List.lookup_cons]
    cases e : (n == x) with
    | true => rfl
    | false => exact zip_some (by simpa using hl) ((List.mem_cons.mp h).resolve_left (beq_eq_false_iff_ne.mp e))
def argB (p : Arguments) (ps : List Str) : Bool := p.posonlyargs.isEmpty && (p.vararg.isNone && (p.kwonlyargs.isEmpty && (p.kwarg.isNone && decide (p.args.map (·.arg) = ps))))
theorem bind_plain {x qual : Str} {params : Arguments} {body : List Stmt} {scope : Scope} {kV doc pm cdv ct : Value} {an : Option Addr} {ps : List Str} {us : List Value} (hb : argB params ps = true) (hn : ps.Nodup) (hl : us.length = ps.length) :
    bindArgs (PySem.W.fnOf x qual params body scope .none kV doc pm an cdv ct) ⟨us, []⟩ = pure (ps.zip us) := by
  obtain ⟨h1, hb⟩ := He.ba hb
  obtain ⟨h2, hb⟩ := He.ba hb
  obtain ⟨h3, hb⟩ := He.ba hb
  obtain ⟨h4, hb⟩ := He.ba hb
  have h5 := of_decide_eq_true hb
  obtain ⟨po, ar, va, ko, kd, kw, df⟩ := params
  have e1 : po = [] := List.isEmpty_iff.mp h1
  have e2 : va = none := Option.isNone_iff_eq_none.mp h2
  have e3 : ko = [] := List.isEmpty_iff.mp h3
  have e4 : kw = none := Option.isNone_iff_eq_none.mp h4
  have h5 : ar.map (·.arg) = ps := h5
  subst e1 e2 e3 e4
  have e5 : ps.filter (fun n => ((ps.zip us).lookup n).isNone) = [] := List.filter_eq_nil_iff.mpr fun n hn => by
    rw [zip_some hl hn]
    exact Bool.false_ne_true
  have e6 := zip_lk hl hn
  unfold bindArgs PySem.W.fnOf
  simp [seqItems?, h5, hl, e5, e6]
  try rfl
def scB (N ps : List Str) (sc : Scope) : Bool := (match sc.kind with
  | .function => true
  | _ => false) && (!sc.isCoroutine && (!sc.isGenerator && (decide N.Nodup && (decide (N.take ps.length = ps) && ((ps.all fun x => decide (sc.names.lookup x = some .local) || decide (sc.names.lookup x = some .cell)) && sc.names.all fun y => !decide (y.2 = .free))))))
theorem scB_ok {N ps : List Str} {sc : Scope} (h : scB N ps sc = true) : FnScope N ps sc := by
  obtain ⟨h1, h⟩ := He.ba h
  obtain ⟨h2, h⟩ := He.ba h
  obtain ⟨h3, h⟩ := He.ba h
  obtain ⟨h4, h⟩ := He.ba h
  obtain ⟨h5, h⟩ := He.ba h
  obtain ⟨h6, h7⟩ := He.ba h
  refine ⟨?_, by simpa using h2, by simpa using h3, of_decide_eq_true h4, of_decide_eq_true h5, fun x hx => ?_, fun y hy => ?_⟩
  · cases e : sc.kind with
    | function => rfl
    | _ => rw [e] at h1; cases h1
  · have := List.all_eq_true.mp h6 x hx
    simpa using this
  · have := List.all_eq_true.mp h7 y hy
    simpa using this
/-- what one Bool says of a def and its datum -/
def okB (q : He.DefD × DefI) : Bool := argB q.1.params q.2.ps && (scB q.2.N q.2.ps q.2.scope && (match q.2.ql with
  | none => true
  | some x => decide (q.1.qual = x) && decide (q.1.at_ = (x, none))))
theorem defs_same : hfn.map (fun e => (e.body, e.scope, e.dfl, e.kwd)) = defsL.map fun d => (d.body, d.scope, [], []) := by kernel_rfl
theorem defs_okB : (hfn.zip defsL).all okB = true := by kernel_rfl
theorem fns_okB : (fnsL.all fun p => (match hfn[p.2.1]?, defsL[p.2.1]? with
  | some e, some d => decide (e.at_ = (p.1, none)) && (decide (p.2.2 = d.ps.length) && !(p.1 == ("__debug__" : Str)))
  | _, _ => false)) = true := by kernel_rfl
theorem cls_okB : (clsL.all fun p => (match hfn[p.2.1]?, defsL[p.2.1]? with
  | some e, some d => decide (e.at_ = (p.1, some ("__init__" : Str))) && (decide (p.2.2 = d.ps.length) && !(p.1 == ("__debug__" : Str)))
  | _, _ => false)) = true := by kernel_rfl
theorem mth_okB : (mthL.all fun p => (match hfn[p.2.2.1]?, defsL[p.2.2.1]? with
  | some e, some d => decide (e.at_ = (p.2.1, some p.1)) && (decide (p.2.2.2 = d.ps.length) && clsL.any fun q => decide (q.1 = p.2.1))
  | _, _ => false)) = true := by kernel_rfl
theorem fld_okB : (fldL.all fun p => clsL.any fun q => decide (q.1 = p.2)) = true := by kernel_rfl
theorem con_okB : (conL.all fun p => (match p.2 with
  | .int _ => true
  | _ => false)) = true := by kernel_rfl
theorem ffn_eq : ffn = fnsL.map fun p => .glo p.1 := by kernel_rfl
theorem fcon_eq : fcon = conL.map fun p => (match p.2 with
  | .int i => .int p.1 i
  | _ => .glo p.1) := by kernel_rfl
theorem fcls_eq : fcls = clsL.flatMap fun p => [.glo p.1, .cls p.1, .mkr p.1] := by kernel_rfl
theorem fmth_eq : fmth = mthL.map fun p => .meth p.2.1 p.1 := by kernel_rfl
theorem fatt_eq : fatt = fldL.map fun p => .noat p.2 p.1 := by kernel_rfl
theorem fblt_eq : fblt = bltNames.map .free := by kernel_rfl
end PV

set_option maxRecDepth 100000
set_option maxHeartbeats 2000000
/-! the table of the defs, of what the head says -/
namespace PV
open PySem PySem.Spec PyProof.Rows L2
def atOf (i : Nat) : Str × Option Str := match hfn[i]? with
  | some e => e.at_
  | none => ("", none)
def faOf (K : PySem.W.Frag) (i : Nat) : Addr := He.fAd K (atOf i)
abbrev caOf (K : PySem.W.Frag) (x : Str) : Addr := He.ga K x
section
variable {h : Heap} {K : PySem.W.Frag} {mg : Str → Option Value}
theorem hf_at {i : Nat} {d : DefI} (hd : defs i = some d) : ∃ e, hfn[i]? = some e ∧ e ∈ hfn ∧ (e.body = d.body ∧ e.scope = d.scope ∧ e.dfl = [] ∧ e.kwd = []) ∧ okB (e, d) = true := by
  have hd : defsL[i]? = some d := hd
  have h1 : (hfn.map fun e => (e.body, e.scope, e.dfl, e.kwd))[i]? = some (d.body, d.scope, [], []) := by
    rw [defs_same, List.getElem?_map, hd]
    rfl
  rw [List.getElem?_map] at h1
  cases he : hfn[i]? with
  | none =>
    rw [he] at h1
    cases h1
  | some e =>
    rw [he] at h1
    have h2 : (e.body, e.scope, e.dfl, e.kwd) = (d.body, d.scope, [], []) := Option.some.inj h1
    simp only [Prod.mk.injEq] at h2
    refine ⟨e, rfl, List.mem_of_getElem? he, h2, ?_⟩
    refine List.all_eq_true.mp defs_okB (e, d) (List.mem_of_getElem? (i := i) ?_)
    rw [List.getElem?_zip_eq_some]
    exact ⟨he, hd⟩
theorem fd_at (c : He.SaysD hfa hfn K) {i : Nat} {d : DefI} (hd : defs i = some d) : ∃ fd, DefOk K d (faOf K i) fd ∧ PySem.W.keepIn K (.ref (faOf K i)) = true := by
  obtain ⟨e, he, hm, ⟨h1, h2, h3, h4⟩, ho⟩ := hf_at hd
  obtain ⟨fd, F⟩ := c.defs hm
  have hfa : faOf K i = He.fAd K e.at_ := by
    unfold faOf atOf
    rw [he]
  have e1 : e.dvs K = [] := by
    unfold He.DefD.dvs
    rw [h3]
    rfl
  have e2 : e.kws K = [] := by
    unfold He.DefD.kws
    rw [h4]
    rfl
  rw [e1, e2, h1, h2] at F
  obtain ⟨o1, ho⟩ := He.ba ho
  obtain ⟨o2, o3⟩ := He.ba ho
  have S := scB_ok o2
  have hn : d.ps.Nodup := by
    have := S.nd
    rw [← S.pre]
    exact this.sublist (List.take_sublist _ _)
  rw [hfa]
  refine ⟨fd, ⟨?_, S, F.bindsN fun kV doc pm an cdv ct us hl => bind_plain o1 hn hl⟩, F.kp⟩
  obtain ⟨oc, od, dV, kV, doc, pm, an, cdv, ct, osl, f1, f2, f3, _, _⟩ := F.ex
  refine ⟨_, _, _, dV, kV, doc, pm, cdv, ct, oc, an, od, osl, f1, f1 ▸ f2, f3, fun q hq => ?_⟩
  rw [hq] at o3
  obtain ⟨g1, g2⟩ := He.ba o3
  have g1 := of_decide_eq_true g1
  have g2 := of_decide_eq_true g2
  refine ⟨g1, ?_⟩
  obtain ⟨cc, hcc⟩ := He.codeIn_ref f3
  have f2' : K.lookup (He.ga K q) = some ⟨oc, od, .func fd, osl⟩ := by
    have := f2
    rw [g2] at this
    exact this
  subst hcc
  unfold cdOf
  rw [f2', f1]
theorem ft_ex (c : He.SaysD hfa hfn K) : ∃ ft : Nat → FuncData, ∀ i d, defs i = some d → DefOk K d (faOf K i) (ft i) := by
  obtain ⟨fd0, _⟩ := fd_at c (i := 0) (d := d_is_whole) rfl
  have : ∀ i, ∃ fd, ∀ d, defs i = some d → DefOk K d (faOf K i) fd := fun i => by
    cases e : defs i with
    | none => exact ⟨fd0, fun d z => nomatch z⟩
    | some d =>
      obtain ⟨fd, q, _⟩ := fd_at c e
      exact ⟨fd, fun d' z => by
        cases z
        exact q⟩
  exact ⟨fun i => Classical.choose (this i), fun i => Classical.choose_spec (this i)⟩
theorem lk_mem {α : Type} {x : Str} {y : α} : ∀ {l : List (Str × α)}, l.lookup x = some y → (x, y) ∈ l
  | [], h => by cases h
  | (a, b) :: l, h => by
    rw [List.lookup_cons] at h
    cases e : (x == a) with
    | true =>
      rw [e] at h
      have := eq_of_beq e
      cases h
      rw [this]
      exact List.mem_cons_self
    | false =>
      rw [e] at h
      exact List.mem_cons_of_mem _ (lk_mem h)
theorem cls_fact (c : He.SaysD hfa hfn K) {p : Str × Nat × Nat} (hp : p ∈ clsL) : (He.Fa.glo p.1).ok K = true ∧ (He.Fa.cls p.1).ok K = true ∧ (He.Fa.mkr p.1).ok K = true := by
  have m : ∀ f, f ∈ [He.Fa.glo p.1, .cls p.1, .mkr p.1] → f ∈ hfa := fun f hf => by
    unfold hfa
    refine List.mem_append_right _ (List.mem_append_right _ (List.mem_append_left _ ?_))
    rw [fcls_eq]
    exact List.mem_flatMap.mpr ⟨p, hp, hf⟩
  exact ⟨c.facts (m _ (by simp)), c.facts (m _ (by simp)), c.facts (m _ (by simp))⟩
theorem cls_any (c : He.SaysD hfa hfn K) {x : Str} (h : (clsL.any fun q => decide (q.1 = x)) = true) : Cls K (caOf K x) := by
  obtain ⟨q, hq, e⟩ := List.any_eq_true.mp h
  have e := of_decide_eq_true e
  subst e
  exact He.cls_ok (cls_fact c hq).2.1
theorem tab_ok (X : K.In h) (G : h.Ns mainGlobals mg) (c : He.SaysD hfa hfn K) {ft : Nat → FuncData} (hft : ∀ i d, defs i = some d → DefOk K d (faOf K i) (ft i)) {Pt : Addr} {q : Str} {Z : ZS} (hZ : ∀ z ∈ Z, isZ z) : TabOk K mg tab defs (faOf K) ft (caOf K) (TIz Pt q Z) where
  T := tiz_ok fun z hz => isZ_kt (hZ z hz)
  con := fun x d hx => by
    have hm := lk_mem hx
    have hi := List.all_eq_true.mp con_okB _ hm
    cases d with
    | int i =>
      have hf : He.Fa.int x i ∈ hfa := by
        unfold hfa
        refine List.mem_append_right _ (List.mem_append_left _ ?_)
        rw [fcon_eq]
        exact List.mem_map.mpr ⟨_, hm, rfl⟩
      obtain ⟨t, ht⟩ := He.int_ok X G (c.facts hf)
      exact ⟨_, .int i, ht, ⟨t, rfl⟩, fun G => .int i⟩
    | _ => cases hi
  fns := fun x i n hx => by
    have hm := lk_mem hx
    have hb := List.all_eq_true.mp fns_okB _ hm
    have hf : He.Fa.glo x ∈ hfa := by
      unfold hfa
      refine List.mem_append_left _ ?_
      rw [ffn_eq]
      exact List.mem_map.mpr ⟨_, hm, rfl⟩
    have hg := He.glo_ok X G (c.facts hf)
    cases e1 : hfn[i]? with
    | none =>
      simp only [e1] at hb
      cases hb
    | some e =>
      cases e2 : defsL[i]? with
      | none =>
        simp only [e1, e2] at hb
        cases hb
      | some d =>
        simp only [e1, e2] at hb
        obtain ⟨b1, hb⟩ := He.ba hb
        obtain ⟨b2, b3⟩ := He.ba hb
        obtain ⟨fd, _, kp⟩ := fd_at c (i := i) (d := d) e2
        have ea : faOf K i = He.ga K x := by
          unfold faOf atOf
          rw [e1]
          show He.fAd K e.at_ = _
          rw [of_decide_eq_true b1]
          rfl
        exact ⟨by simpa using b3, d, e2, of_decide_eq_true b2, by rw [ea]; exact hg, kp⟩
  cls := fun x i n hx => by
    have hm := lk_mem hx
    have hb := List.all_eq_true.mp cls_okB _ hm
    obtain ⟨f1, f2, f3⟩ := cls_fact c hm
    cases e1 : hfn[i]? with
    | none =>
      simp only [e1] at hb
      cases hb
    | some e =>
      cases e2 : defsL[i]? with
      | none =>
        simp only [e1, e2] at hb
        cases hb
      | some d =>
        simp only [e1, e2] at hb
        obtain ⟨b1, hb⟩ := He.ba hb
        obtain ⟨b2, b3⟩ := He.ba hb
        have ea : faOf K i = He.ma K (He.ga K x) "__init__" := by
          unfold faOf atOf
          rw [e1]
          show He.fAd K e.at_ = _
          rw [of_decide_eq_true b1]
          rfl
        exact ⟨by simpa using b3, d, e2, of_decide_eq_true b2, He.glo_ok X G f1, by rw [ea]; exact He.mkr_ok f3⟩
  mth := fun m x i n hx => by
    have hm := lk_mem hx
    have hb := List.all_eq_true.mp mth_okB _ hm
    have hf : He.Fa.meth x m ∈ hfa := by
      unfold hfa
      refine List.mem_append_right _ (List.mem_append_right _ (List.mem_append_right _ (List.mem_append_left _ ?_)))
      rw [fmth_eq]
      exact List.mem_map.mpr ⟨_, hm, rfl⟩
    cases e1 : hfn[i]? with
    | none =>
      simp only [e1] at hb
      cases hb
    | some e =>
      cases e2 : defsL[i]? with
      | none =>
        simp only [e1, e2] at hb
        cases hb
      | some d =>
        simp only [e1, e2] at hb
        obtain ⟨b1, hb⟩ := He.ba hb
        obtain ⟨b2, b3⟩ := He.ba hb
        have ea : faOf K i = He.ma K (He.ga K x) m := by
          unfold faOf atOf
          rw [e1]
          show He.fAd K e.at_ = _
          rw [of_decide_eq_true b1]
          rfl
        exact ⟨cls_any c b3, d, e2, of_decide_eq_true b2, by rw [ea]; exact He.meth_ok (c.facts hf)⟩
  fld := fun f x hx => by
    have hm := lk_mem hx
    have hb := List.all_eq_true.mp fld_okB _ hm
    have hf : He.Fa.noat x f ∈ hfa := by
      unfold hfa
      refine List.mem_append_right _ (List.mem_append_right _ (List.mem_append_right _ (List.mem_append_right _ (List.mem_append_left _ ?_))))
      rw [fatt_eq]
      exact List.mem_map.mpr ⟨_, hm, rfl⟩
    exact ⟨cls_any c hb, He.noat_ok (c.facts hf)⟩
  blt := fun x hx => by
    have hf : He.Fa.free x ∈ hfa := by
      unfold hfa
      refine List.mem_append_right _ (List.mem_append_right _ (List.mem_append_right _ (List.mem_append_right _ (List.mem_append_right _ ?_))))
      rw [fblt_eq]
      exact List.mem_map.mpr ⟨_, hx, rfl⟩
    exact He.free_ok X G (c.facts hf)
  def_ := hft
end
end PV

set_option maxRecDepth 100000
set_option maxHeartbeats 1000000
/-! the defs as terms (printed by gen_terms.py) -/
namespace PV
open PySem PySem.Spec PyProof.Rows L2
def b_is_whole (cp cpm : Nat → Fun) : DenS := sSeq (sRet (dAnd (dIsi "int" (dVar 0)) (dNot (dIsi "bool" (dVar 0))))) sNil
theorem e_is_whole (cp cpm : Nat → Fun) : denSs tab cp cpm 40 d_is_whole.sc d_is_whole.body = b_is_whole cp cpm := by kernel_rfl
def b_is_between (cp cpm : Nat → Fun) : DenS := sSeq (sRet (dAnd (dCall 1 (cp i_is_whole) (dA1 (dVar 0) dA0)) (dChain fLe fLe (dVar 1) (dVar 0) (dVar 2)))) sNil
theorem e_is_between (cp cpm : Nat → Fun) : denSs tab cp cpm 40 d_is_between.sc d_is_between.body = b_is_between cp cpm := by kernel_rfl
def b_is_below (cp cpm : Nat → Fun) : DenS := sSeq (sRet (dCall 3 (cp i_is_between) (dA1 (dVar 0) (dA1 (dC (.int 0)) (dA1 (dBin false fSub (dVar 1) (dC (.int 1))) dA0))))) sNil
theorem e_is_below (cp cpm : Nat → Fun) : denSs tab cp cpm 40 d_is_below.sc d_is_below.body = b_is_below cp cpm := by kernel_rfl
def b_is_ascending (cp cpm : Nat → Fun) : DenS := sSeq (sIf (dOr (dNot (dIsi "tuple" (dVar 0))) (dNot (dCB false fAll (dA1 (dLc (dIter (dVar 0)) (.nm 2) (dC (.bool true)) (dCall 2 (cp i_is_below) (dA1 (dVar 2) (dA1 (dVar 1) dA0))) [2]) dA0)))) (sSeq (sRet (dC (.bool false))) sNil) (sNil))
  (sSeq (sRet (dCB false fAll (dA1 (dLc (dRg2 (dA1 (dC (.int 1)) (dA1 (dCB true fLen (dA1 (dVar 0) dA0)) dA0))) (.nm 3) (dC (.bool true)) (dBin false fLt (dIdx (dVar 0) (dBin false fSub (dVar 3) (dC (.int 1)))) (dIdx (dVar 0) (dVar 3))) [3]) dA0))) sNil)
theorem e_is_ascending (cp cpm : Nat → Fun) : denSs tab cp cpm 40 d_is_ascending.sc d_is_ascending.body = b_is_ascending cp cpm := by kernel_rfl
def b_is_tuple_of (cp cpm : Nat → Fun) : DenS := sSeq (sRet (dAnd (dIsi "tuple" (dVar 0)) (dChain fLe fLe (dVar 1) (dCB true fLen (dA1 (dVar 0) dA0)) (dVar 2)))) sNil
theorem e_is_tuple_of (cp cpm : Nat → Fun) : denSs tab cp cpm 40 d_is_tuple_of.sc d_is_tuple_of.body = b_is_tuple_of cp cpm := by kernel_rfl
def b_first_of (cp cpm : Nat → Fun) : DenS := sSeq (sRet (dIf (dInD false (fIn false) (dC (.bool true)) (dVar 0)) (dIndex (dVar 0) (dA1 (dC (.bool true)) dA0)) (dC .none))) sNil
theorem e_first_of (cp cpm : Nat → Fun) : denSs tab cp cpm 40 d_first_of.sc d_first_of.body = b_first_of cp cpm := by kernel_rfl
def b_wrong_in (cp cpm : Nat → Fun) : DenS := sSeq (sSet 3 false (dCall 1 (cp i_first_of) (dA1 (dLc (dIter (dVar 1)) (.nm 4) (dC (.bool true)) (dNo) [4]) dA0)))
  (sSeq (sRet (dIf (dBin false (fIs false) (dVar 3) (dC .none)) (dC .none) (dTup (dA1 (dVar 0) (dA1 (dVar 3) dA0))))) sNil)
theorem e_wrong_in (cp cpm : Nat → Fun) : denSs tab cp cpm 40 d_wrong_in.sc d_wrong_in.body = b_wrong_in cp cpm := by kernel_rfl
def b_is_signs (cp cpm : Nat → Fun) : DenS := sSeq (sRet (dAnd (dCall 3 (cp i_is_tuple_of) (dA1 (dVar 0) (dA1 (dVar 1) (dA1 (dVar 1) dA0)))) (dCB false fAll (dA1 (dLc (dIter (dVar 0)) (.nm 2) (dC (.bool true)) (dCall 3 (cp i_is_between) (dA1 (dVar 2) (dA1 (dC (.int 0)) (dA1 (dC (.int 9)) dA0)))) [2]) dA0)))) sNil
theorem e_is_signs (cp cpm : Nat → Fun) : denSs tab cp cpm 40 d_is_signs.sc d_is_signs.body = b_is_signs cp cpm := by kernel_rfl
def b_is_move (cp cpm : Nat → Fun) : DenS := sSeq (sIf (dOr (dNot (dCall 3 (cp i_is_tuple_of) (dA1 (dVar 0) (dA1 (dC (.int 2)) (dA1 (dC (.int 2)) dA0))))) (dNot (dCB false fAll (dA1 (dLc (dIter (dVar 0)) (.nm 2) (dC (.bool true)) (dCall 3 (cp i_is_between) (dA1 (dVar 2) (dA1 (dC (.int 0)) (dA1 (dBin false fSub (dVar 1) (dC (.int 1))) dA0)))) [2]) dA0)))) (sSeq (sRet (dC (.bool false))) sNil) (sNil))
  (sSeq (sRet (dBin false fLt (dIdx (dVar 0) (dC (.int 0))) (dIdx (dVar 0) (dC (.int 1))))) sNil)
theorem e_is_move (cp cpm : Nat → Fun) : denSs tab cp cpm 40 d_is_move.sc d_is_move.body = b_is_move cp cpm := by kernel_rfl
def b_wrong_move (cp cpm : Nat → Fun) : DenS := sSeq (sFor (dEnum (dA1 (dVar 0) dA0)) (.tp [2, 3]) (sSeq (sIf (dOr (dNot (dCall 2 (cp i_is_move) (dA1 (dVar 3) (dA1 (dVar 1) dA0)))) (dAnd (dBin false fGt (dVar 2) (dC (.int 0))) (dNot (dBin false fLt (dIdx (dVar 0) (dBin false fSub (dVar 2) (dC (.int 1)))) (dVar 3))))) (sSeq (sRet (dTup (dA1 (dC (.int 4)) (dA1 (dVar 2) dA0)))) sNil) (sNil)) sNil))
  (sSeq (sRet (dC .none)) sNil)
theorem e_wrong_move (cp cpm : Nat → Fun) : denSs tab cp cpm 40 d_wrong_move.sc d_wrong_move.body = b_wrong_move cp cpm := by kernel_rfl
def b_wrong_part (cp cpm : Nat → Fun) : DenS := sSeq (sUnp [1, 2, 3, 4, 5] (dVar 0))
  (sSeq (sIf (dNot (dCall 3 (cp i_is_between) (dA1 (dVar 1) (dA1 (dC (.int 1)) (dA1 (dC (.int 24)) dA0))))) (sSeq (sRet (dTup (dA1 (dC (.int 0)) dA0))) sNil) (sNil))
  (sSeq (sIf (dNot (dCall 3 (cp i_is_between) (dA1 (dVar 2) (dA1 (dC (.int 1)) (dA1 (dC (.int 16)) dA0))))) (sSeq (sRet (dTup (dA1 (dC (.int 1)) dA0))) sNil) (sNil))
  (sSeq (sIf (dNot (dCall 3 (cp i_is_tuple_of) (dA1 (dVar 3) (dA1 (dVar 1) (dA1 (dVar 1) dA0))))) (sSeq (sRet (dTup (dA1 (dC (.int 2)) (dA1 (dUn fNeg (dC (.int 1))) dA0)))) sNil) (sNil))
  (sSeq (sSet 6 false (dWrong 2 3 2 (dNot (dCall 2 (cp i_is_ascending) (dA1 (dVar 0) (dA1 (dVar 1) dA0)))) (cp i_first_of)))
  (sSeq (sIf (dBin false (fIs true) (dVar 6) (dC .none)) (sSeq (sRet (dVar 6)) sNil) (sNil))
  (sSeq (sIf (dNot (dCall 3 (cp i_is_tuple_of) (dA1 (dVar 4) (dA1 (dC (.int 1)) (dA1 (dC (.int 40)) dA0))))) (sSeq (sRet (dTup (dA1 (dC (.int 3)) (dA1 (dUn fNeg (dC (.int 1))) dA0)))) sNil) (sNil))
  (sSeq (sSet 6 false (dWrong 3 4 1 (dNot (dCall 2 (cp i_is_signs) (dA1 (dVar 0) (dA1 (dVar 1) dA0)))) (cp i_first_of)))
  (sSeq (sIf (dBin false (fIs true) (dVar 6) (dC .none)) (sSeq (sRet (dVar 6)) sNil) (sNil))
  (sSeq (sRet (dIf (dCall 3 (cp i_is_tuple_of) (dA1 (dVar 5) (dA1 (dC (.int 0)) (dA1 (dC (.int 200)) dA0)))) (dCall 2 (cp i_wrong_move) (dA1 (dVar 5) (dA1 (dCB true fLen (dA1 (dVar 4) dA0)) dA0))) (dTup (dA1 (dC (.int 4)) (dA1 (dUn fNeg (dC (.int 1))) dA0))))) sNil)))))))))
theorem e_wrong_part (cp cpm : Nat → Fun) : denSs tab cp cpm 40 d_wrong_part.sc d_wrong_part.body = b_wrong_part cp cpm := by kernel_rfl
def b_made_rig (cp cpm : Nat → Fun) : DenS := sSeq (sIf (dNot (dCall 3 (cp i_is_tuple_of) (dA1 (dVar 0) (dA1 (dC (.int 5)) (dA1 (dC (.int 5)) dA0))))) (sSeq (sNo) sNil) (sNil))
  (sSeq (sSet 1 false (dCall 1 (cp i_wrong_part) (dA1 (dVar 0) dA0)))
  (sSeq (sIf (dBin false (fIs true) (dVar 1) (dC .none)) (sSeq (sNo) sNil) (sNil))
  (sSeq (sRet (dVar 0)) sNil)))
theorem e_made_rig (cp cpm : Nat → Fun) : denSs tab cp cpm 40 d_made_rig.sc d_made_rig.body = b_made_rig cp cpm := by kernel_rfl
def b_is_rig (cp cpm : Nat → Fun) : DenS := sSeq (sRet (dAnd (dCall 3 (cp i_is_tuple_of) (dA1 (dVar 0) (dA1 (dC (.int 5)) (dA1 (dC (.int 5)) dA0)))) (dBin false (fIs false) (dCall 1 (cp i_wrong_part) (dA1 (dVar 0) dA0)) (dC .none)))) sNil
theorem e_is_rig (cp cpm : Nat → Fun) : denSs tab cp cpm 40 d_is_rig.sc d_is_rig.body = b_is_rig cp cpm := by kernel_rfl
def b_is_fault (cp cpm : Nat → Fun) : DenS := sSeq (sRet (dCall 3 (cp i_is_between) (dA1 (dVar 1) (dA1 (dC (.int 0)) (dA1 (dBin false fSub (dIdx (dVar 0) (dC (.int 0))) (dC (.int 1))) dA0))))) sNil
theorem e_is_fault (cp cpm : Nat → Fun) : denSs tab cp cpm 40 d_is_fault.sc d_is_fault.body = b_is_fault cp cpm := by kernel_rfl
def b_is_setting (cp cpm : Nat → Fun) : DenS := sSeq (sRet (dCall 3 (cp i_is_between) (dA1 (dVar 1) (dA1 (dC (.int 0)) (dA1 (dBin false fSub (dCB true fLen (dA1 (dIdx (dVar 0) (dC (.int 3))) dA0)) (dC (.int 1))) dA0))))) sNil
theorem e_is_setting (cp cpm : Nat → Fun) : denSs tab cp cpm 40 d_is_setting.sc d_is_setting.body = b_is_setting cp cpm := by kernel_rfl
def b_want_fault (cp cpm : Nat → Fun) : DenS := sSeq (sIf (dNot (dCall 2 (cp i_is_fault) (dA1 (dVar 0) (dA1 (dVar 1) dA0)))) (sSeq (sNo) sNil) (sNil)) sNil
theorem e_want_fault (cp cpm : Nat → Fun) : denSs tab cp cpm 40 d_want_fault.sc d_want_fault.body = b_want_fault cp cpm := by kernel_rfl
def b_neighbours_of (cp cpm : Nat → Fun) : DenS := sSeq (sSet 2 false (dLc (dEnum (dA1 (dIdx (dVar 0) (dC (.int 4))) dA0)) (.tp [3, 4]) (dInD false (fIn false) (dVar 1) (dVar 4)) (dTup (dA1 (dBin false fSub (dCB false fSum (dA1 (dVar 4) dA0)) (dVar 1)) (dA1 (dVar 3) dA0))) [3, 4]))
  (sSeq (sRet (dCB false fTuple (dA1 (dCB false fSorted (dA1 (dVar 2) dA0)) dA0))) sNil)
theorem e_neighbours_of (cp cpm : Nat → Fun) : denSs tab cp cpm 40 d_neighbours_of.sc d_neighbours_of.body = b_neighbours_of cp cpm := by kernel_rfl
def b_move_between (cp cpm : Nat → Fun) : DenS := sSeq (sSet 3 false (dTup (dA1 (dCB false fMin (dA1 (dVar 1) (dA1 (dVar 2) dA0))) (dA1 (dCB false fMax (dA1 (dVar 1) (dA1 (dVar 2) dA0))) dA0))))
  (sSeq (sRet (dIf (dInD false (fIn false) (dVar 3) (dIdx (dVar 0) (dC (.int 4)))) (dIndex (dIdx (dVar 0) (dC (.int 4))) (dA1 (dVar 3) dA0)) (dC .none))) sNil)
theorem e_move_between (cp cpm : Nat → Fun) : denSs tab cp cpm 40 d_move_between.sc d_move_between.body = b_move_between cp cpm := by kernel_rfl
def b_is_lot (cp cpm : Nat → Fun) : DenS := sSeq (sRet (dCall 2 (cp i_is_ascending) (dA1 (dVar 1) (dA1 (dIdx (dVar 0) (dC (.int 0))) dA0)))) sNil
theorem e_is_lot (cp cpm : Nat → Fun) : denSs tab cp cpm 40 d_is_lot.sc d_is_lot.body = b_is_lot cp cpm := by kernel_rfl
def b_every_fault (cp cpm : Nat → Fun) : DenS := sSeq (sRet (dTupRg (dIdx (dVar 0) (dC (.int 0))))) sNil
theorem e_every_fault (cp cpm : Nat → Fun) : denSs tab cp cpm 40 d_every_fault.sc d_every_fault.body = b_every_fault cp cpm := by kernel_rfl
def b_cures_of (cp cpm : Nat → Fun) : DenS := sSeq (sRet (dCB false fTuple (dA1 (dLc (dRg1 (dA1 (dIdx (dVar 0) (dC (.int 1))) dA0)) (.nm 2) (dCB false fAll (dA1 (dLc (dIter (dVar 1)) (.nm 3) (dC (.bool true)) (dInD false (fIn false) (dVar 2) (dIdx (dIdx (dVar 0) (dC (.int 2))) (dVar 3))) [3]) dA0)) (dVar 2) [2]) dA0))) sNil
theorem e_cures_of (cp cpm : Nat → Fun) : denSs tab cp cpm 40 d_cures_of.sc d_cures_of.body = b_cures_of cp cpm := by kernel_rfl
def b_is_done (cp cpm : Nat → Fun) : DenS := sSeq (sRet (dBin true fNe (dCall 2 (cp i_cures_of) (dA1 (dVar 0) (dA1 (dVar 1) dA0))) (dTup (dA0)))) sNil
theorem e_is_done (cp cpm : Nat → Fun) : denSs tab cp cpm 40 d_is_done.sc d_is_done.body = b_is_done cp cpm := by kernel_rfl
def b_agreeing_in (cp cpm : Nat → Fun) : DenS := sSeq (sRet (dCB false fTuple (dA1 (dLc (dIter (dVar 1)) (.nm 4) (dCB false fAll (dA1 (dLc (dIter (dVar 3)) (.nm 5) (dC (.bool true)) (dBin true fEq (dIdx (dIdx (dIdx (dVar 0) (dC (.int 3))) (dVar 5)) (dVar 4)) (dIdx (dIdx (dIdx (dVar 0) (dC (.int 3))) (dVar 5)) (dVar 2))) [5]) dA0)) (dVar 4) [4]) dA0))) sNil
theorem e_agreeing_in (cp cpm : Nat → Fun) : denSs tab cp cpm 40 d_agreeing_in.sc d_agreeing_in.body = b_agreeing_in cp cpm := by kernel_rfl
def b_signs_in (cp cpm : Nat → Fun) : DenS := sSeq (sRet (dSortSet (dIter (dVar 1)) (.nm 3) (dC (.bool true)) (dIdx (dIdx (dIdx (dVar 0) (dC (.int 3))) (dVar 2)) (dVar 3)) [3])) sNil
theorem e_signs_in (cp cpm : Nat → Fun) : denSs tab cp cpm 40 d_signs_in.sc d_signs_in.body = b_signs_in cp cpm := by kernel_rfl
def b_has_one_sign (cp cpm : Nat → Fun) : DenS := sSeq (sRet (dBin false fLe (dCB true fLen (dA1 (dCall 3 (cp i_signs_in) (dA1 (dVar 0) (dA1 (dVar 1) (dA1 (dVar 2) dA0)))) dA0)) (dC (.int 1)))) sNil
theorem e_has_one_sign (cp cpm : Nat → Fun) : denSs tab cp cpm 40 d_has_one_sign.sc d_has_one_sign.body = b_has_one_sign cp cpm := by kernel_rfl
def b_parts_at (cp cpm : Nat → Fun) : DenS := sSeq (sRet (dCB false fTuple (dA1 (dLc (dIter (dCall 3 (cp i_signs_in) (dA1 (dVar 0) (dA1 (dVar 1) (dA1 (dVar 2) dA0))))) (.nm 4) (dC (.bool true)) (dTup (dA1 (dVar 4) (dA1 (dCB false fTuple (dA1 (dLc (dIter (dVar 1)) (.nm 3) (dBin true fEq (dIdx (dIdx (dIdx (dVar 0) (dC (.int 3))) (dVar 2)) (dVar 3)) (dVar 4)) (dVar 3) [3]) dA0)) dA0))) [4]) dA0))) sNil
theorem e_parts_at (cp cpm : Nat → Fun) : denSs tab cp cpm 40 d_parts_at.sc d_parts_at.body = b_parts_at cp cpm := by kernel_rfl
def b_is_within (cp cpm : Nat → Fun) : DenS := sSeq (sRet (dCB false fAll (dA1 (dLc (dIter (dVar 0)) (.nm 2) (dC (.bool true)) (dInD false (fIn false) (dVar 2) (dVar 1)) [2]) dA0))) sNil
theorem e_is_within (cp cpm : Nat → Fun) : denSs tab cp cpm 40 d_is_within.sc d_is_within.body = b_is_within cp cpm := by kernel_rfl
def b_is_bar (cp cpm : Nat → Fun) : DenS := sSeq (sRet (dAnd (dCall 2 (cp i_is_lot) (dA1 (dVar 0) (dA1 (dVar 1) dA0))) (dChain fLe fLe (dC (.int 1)) (dCB true fLen (dA1 (dVar 1) dA0)) (dC (.int 3))))) sNil
theorem e_is_bar (cp cpm : Nat → Fun) : denSs tab cp cpm 40 d_is_bar.sc d_is_bar.body = b_is_bar cp cpm := by kernel_rfl
def b_are_bars (cp cpm : Nat → Fun) : DenS := sSeq (sIf (dOr (dNot (dCall 3 (cp i_is_tuple_of) (dA1 (dVar 1) (dA1 (dC (.int 0)) (dA1 (dC (.int 200)) dA0))))) (dNot (dCB false fAll (dA1 (dLc (dIter (dVar 1)) (.nm 2) (dC (.bool true)) (dCall 2 (cp i_is_bar) (dA1 (dVar 0) (dA1 (dVar 2) dA0))) [2]) dA0)))) (sSeq (sRet (dC (.bool false))) sNil) (sNil))
  (sSeq (sRet (dCB false fAll (dA1 (dLc (dRg2 (dA1 (dC (.int 1)) (dA1 (dCB true fLen (dA1 (dVar 1) dA0)) dA0))) (.nm 3) (dC (.bool true)) (dBin false fLt (dIdx (dVar 1) (dBin false fSub (dVar 3) (dC (.int 1)))) (dIdx (dVar 1) (dVar 3))) [3]) dA0))) sNil)
theorem e_are_bars (cp cpm : Nat → Fun) : denSs tab cp cpm 40 d_are_bars.sc d_are_bars.body = b_are_bars cp cpm := by kernel_rfl
def b_wrong_bars (cp cpm : Nat → Fun) : DenS := sSeq (sSet 2 false (dCB true fLen (dA1 (dIdx (dVar 0) (dC (.int 4))) dA0)))
  (sSeq (sIf (dNot (dCall 3 (cp i_is_tuple_of) (dA1 (dVar 1) (dA1 (dVar 2) (dA1 (dVar 2) dA0))))) (sSeq (sRet (dUn fNeg (dC (.int 2)))) sNil) (sNil))
  (sSeq (sFor (dEnum (dA1 (dVar 1) dA0)) (.tp [3, 4]) (sSeq (sIf (dNot (dCall 2 (cp i_are_bars) (dA1 (dVar 0) (dA1 (dVar 4) dA0)))) (sSeq (sRet (dVar 3)) sNil) (sNil)) sNil))
  (sSeq (sRet (dC .none)) sNil)))
theorem e_wrong_bars (cp cpm : Nat → Fun) : denSs tab cp cpm 40 d_wrong_bars.sc d_wrong_bars.body = b_wrong_bars cp cpm := by kernel_rfl
def b_made_book (cp cpm : Nat → Fun) : DenS := sSeq (sIf (dNot (dCall 3 (cp i_is_tuple_of) (dA1 (dVar 0) (dA1 (dC (.int 2)) (dA1 (dC (.int 2)) dA0))))) (sSeq (sNo) sNil) (sNil))
  (sSeq (sSet 1 false (dCall 2 (cp i_wrong_bars) (dA1 (dCall 1 (cp i_made_rig) (dA1 (dIdx (dVar 0) (dC (.int 0))) dA0)) (dA1 (dIdx (dVar 0) (dC (.int 1))) dA0))))
  (sSeq (sIf (dBin false (fIs true) (dVar 1) (dC .none)) (sSeq (sNo) sNil) (sNil))
  (sSeq (sRet (dVar 0)) sNil)))
theorem e_made_book (cp cpm : Nat → Fun) : denSs tab cp cpm 40 d_made_book.sc d_made_book.body = b_made_book cp cpm := by kernel_rfl
def b_is_book (cp cpm : Nat → Fun) : DenS := sSeq (sRet (dAnd (dCall 3 (cp i_is_tuple_of) (dA1 (dVar 0) (dA1 (dC (.int 2)) (dA1 (dC (.int 2)) dA0)))) (dAnd (dCall 1 (cp i_is_rig) (dA1 (dIdx (dVar 0) (dC (.int 0))) dA0)) (dBin false (fIs false) (dCall 2 (cp i_wrong_bars) (dA1 (dIdx (dVar 0) (dC (.int 0))) (dA1 (dIdx (dVar 0) (dC (.int 1))) dA0))) (dC .none))))) sNil
theorem e_is_book (cp cpm : Nat → Fun) : denSs tab cp cpm 40 d_is_book.sc d_is_book.body = b_is_book cp cpm := by kernel_rfl
def b_bar_at (cp cpm : Nat → Fun) : DenS := sSeq (sFor (dIter (dIdx (dIdx (dVar 0) (dC (.int 1))) (dVar 2))) (.nm 3) (sSeq (sIf (dCall 2 (cp i_is_within) (dA1 (dVar 3) (dA1 (dVar 1) dA0))) (sSeq (sRet (dVar 3)) sNil) (sNil)) sNil))
  (sSeq (sRet (dC .none)) sNil)
theorem e_bar_at (cp cpm : Nat → Fun) : denSs tab cp cpm 40 d_bar_at.sc d_bar_at.body = b_bar_at cp cpm := by kernel_rfl
def b_is_free (cp cpm : Nat → Fun) : DenS := sSeq (sRet (dBin false (fIs false) (dCall 3 (cp i_bar_at) (dA1 (dVar 0) (dA1 (dVar 1) (dA1 (dVar 2) dA0)))) (dC .none))) sNil
theorem e_is_free (cp cpm : Nat → Fun) : denSs tab cp cpm 40 d_is_free.sc d_is_free.body = b_is_free cp cpm := by kernel_rfl
def b_free_neighbours (cp cpm : Nat → Fun) : DenS := sSeq (sRet (dLc (dIter (dCall 2 (cp i_neighbours_of) (dA1 (dIdx (dVar 0) (dC (.int 0))) (dA1 (dVar 2) dA0)))) (.tp [3, 4]) (dCall 3 (cp i_is_free) (dA1 (dVar 0) (dA1 (dVar 1) (dA1 (dVar 4) dA0)))) (dVar 3) [3, 4])) sNil
theorem e_free_neighbours (cp cpm : Nat → Fun) : denSs tab cp cpm 40 d_free_neighbours.sc d_free_neighbours.body = b_free_neighbours cp cpm := by kernel_rfl
def b_distances (cp cpm : Nat → Fun) : DenS := sSeq (sSet 3 true (dDict1 (dVar 2) (dC (.int 0))))
  (sSeq (sSet 4 false (dLst (dA1 (dVar 2) dA0)))
  (sSeq (sWhile (dBin true fNe (dVar 4) (dLst (dA0))) (sSeq (sSet 5 true (dLst (dA0)))
  (sSeq (sFor (dIter (dVar 4)) (.nm 6) (sSeq (sFor (dIter (dCall 3 (cp i_free_neighbours) (dA1 (dVar 0) (dA1 (dVar 1) (dA1 (dVar 6) dA0))))) (.nm 7) (sSeq (sIf (dInD true (fIn true) (dVar 7) (dVar 3)) (sSeq (sPut (dVar 3) (dVar 7) (dBin false fAdd (dIdx (dVar 3) (dVar 6)) (dC (.int 1))))
  (sSeq (sExpr (dMeth isLoc mAppend (dVar 5) (dA1 (dVar 7) dA0))) sNil)) (sNil)) sNil)) sNil))
  (sSeq (sSet 4 false (dVar 5)) sNil))))
  (sSeq (sRet (dVar 3)) sNil)))
theorem e_distances (cp cpm : Nat → Fun) : denSs tab cp cpm 40 d_distances.sc d_distances.body = b_distances cp cpm := by kernel_rfl
def b_region_of (cp cpm : Nat → Fun) : DenS := sSeq (sRet (dCB false fTuple (dA1 (dCB false fSorted (dA1 (dListOf (dCall 3 (cp i_distances) (dA1 (dVar 0) (dA1 (dVar 1) (dA1 (dVar 2) dA0))))) dA0)) dA0))) sNil
theorem e_region_of (cp cpm : Nat → Fun) : denSs tab cp cpm 40 d_region_of.sc d_region_of.body = b_region_of cp cpm := by kernel_rfl
def b_way_of (cp cpm : Nat → Fun) : DenS := sSeq (sSet 4 false (dCall 3 (cp i_distances) (dA1 (dVar 0) (dA1 (dVar 1) (dA1 (dVar 3) dA0)))))
  (sSeq (sIf (dInD true (fIn true) (dVar 2) (dVar 4)) (sSeq (sRet (dC .none)) sNil) (sNil))
  (sSeq (sSet 5 true (dLst (dA1 (dVar 2) dA0)))
  (sSeq (sWhile (dBin true fNe (dIdx (dVar 5) (dUn fNeg (dC (.int 1)))) (dVar 3)) (sSeq (sSet 6 false (dLc (dIter (dCall 3 (cp i_free_neighbours) (dA1 (dVar 0) (dA1 (dVar 1) (dA1 (dIdx (dVar 5) (dUn fNeg (dC (.int 1)))) dA0))))) (.nm 7) (dBin false fLt (dIdx (dVar 4) (dVar 7)) (dIdx (dVar 4) (dIdx (dVar 5) (dUn fNeg (dC (.int 1)))))) (dVar 7) [7]))
  (sSeq (sExpr (dMeth isLoc mAppend (dVar 5) (dA1 (dIdx (dVar 6) (dC (.int 0))) dA0))) sNil)))
  (sSeq (sRet (dCB false fTuple (dA1 (dVar 5) dA0))) sNil))))
theorem e_way_of (cp cpm : Nat → Fun) : denSs tab cp cpm 40 d_way_of.sc d_way_of.body = b_way_of cp cpm := by kernel_rfl
def b_home_of (cp cpm : Nat → Fun) : DenS := sSeq (sRet (dTup (dA1 (dCall 1 (cp i_every_fault) (dA1 (dVar 0) dA0)) (dA1 (dC (.int 0)) dA0)))) sNil
theorem e_home_of (cp cpm : Nat → Fun) : denSs tab cp cpm 40 d_home_of.sc d_home_of.body = b_home_of cp cpm := by kernel_rfl
def b_is_start (cp cpm : Nat → Fun) : DenS := sSeq (sRet (dAnd (dCall 3 (cp i_is_tuple_of) (dA1 (dVar 1) (dA1 (dC (.int 2)) (dA1 (dC (.int 2)) dA0)))) (dAnd (dCall 2 (cp i_is_lot) (dA1 (dVar 0) (dA1 (dIdx (dVar 1) (dC (.int 0))) dA0))) (dAnd (dBin true fNe (dIdx (dVar 1) (dC (.int 0))) (dTup (dA0))) (dCall 2 (cp i_is_setting) (dA1 (dVar 0) (dA1 (dIdx (dVar 1) (dC (.int 1))) dA0))))))) sNil
theorem e_is_start (cp cpm : Nat → Fun) : denSs tab cp cpm 40 d_is_start.sc d_is_start.body = b_is_start cp cpm := by kernel_rfl
def b_want_start (cp cpm : Nat → Fun) : DenS := sSeq (sIf (dNot (dCall 2 (cp i_is_start) (dA1 (dVar 0) (dA1 (dVar 1) dA0)))) (sSeq (sNo) sNil) (sNil)) sNil
theorem e_want_start (cp cpm : Nat → Fun) : denSs tab cp cpm 40 d_want_start.sc d_want_start.body = b_want_start cp cpm := by kernel_rfl
def b_made_start (cp cpm : Nat → Fun) : DenS := sSeq (sSet 0 false (dCall 1 (cp i_made_rig) (dA1 (dVar 0) dA0)))
  (sSeq (sExpr (dCall 2 (cp i_want_start) (dA1 (dVar 0) (dA1 (dVar 1) dA0))))
  (sSeq (sRet (dVar 1)) sNil))
theorem e_made_start (cp cpm : Nat → Fun) : denSs tab cp cpm 40 d_made_start.sc d_made_start.body = b_made_start cp cpm := by kernel_rfl
def b_want_fault_in (cp cpm : Nat → Fun) : DenS := sSeq (sExpr (dCall 2 (cp i_want_fault) (dA1 (dVar 0) (dA1 (dVar 2) dA0))))
  (sSeq (sIf (dInD true (fIn true) (dVar 2) (dVar 1)) (sSeq (sNo) sNil) (sNil)) sNil)
theorem e_want_fault_in (cp cpm : Nat → Fun) : denSs tab cp cpm 40 d_want_fault_in.sc d_want_fault_in.body = b_want_fault_in cp cpm := by kernel_rfl
def b_is_way (cp cpm : Nat → Fun) : DenS := sSeq (sIf (dOr (dNot (dIsi "tuple" (dVar 1))) (dBin false fGt (dCB true fLen (dA1 (dVar 1) dA0)) (dC (.int 2000)))) (sSeq (sRet (dC (.bool false))) sNil) (sNil))
  (sSeq (sRet (dCB false fAll (dA1 (dLc (dIter (dVar 1)) (.nm 2) (dC (.bool true)) (dCall 2 (cp i_is_below) (dA1 (dVar 2) (dA1 (dCB true fLen (dA1 (dIdx (dVar 0) (dC (.int 3))) dA0)) dA0))) [2]) dA0))) sNil)
theorem e_is_way (cp cpm : Nat → Fun) : denSs tab cp cpm 40 d_is_way.sc d_is_way.body = b_is_way cp cpm := by kernel_rfl
def b_is_branch (cp cpm : Nat → Fun) : DenS := sSeq (sIf (dOr (dNot (dIsi "tuple" (dVar 0))) (dBin true fNe (dCB true fLen (dA1 (dVar 0) dA0)) (dC (.int 2)))) (sSeq (sRet (dC (.bool false))) sNil) (sNil))
  (sSeq (sRet (dAnd (dCall 2 (cp i_is_below) (dA1 (dIdx (dVar 0) (dC (.int 0))) (dA1 (dC (.int 10)) dA0))) (dCall 2 (cp i_is_below) (dA1 (dIdx (dVar 0) (dC (.int 1))) (dA1 (dVar 1) dA0))))) sNil)
theorem e_is_branch (cp cpm : Nat → Fun) : denSs tab cp cpm 40 d_is_branch.sc d_is_branch.body = b_is_branch cp cpm := by kernel_rfl
def b_are_branches (cp cpm : Nat → Fun) : DenS := sSeq (sIf (dOr (dNot (dIsi "tuple" (dVar 0))) (dOr (dBin true fEq (dVar 0) (dTup (dA0))) (dNot (dCB false fAll (dA1 (dLc (dIter (dVar 0)) (.nm 2) (dC (.bool true)) (dCall 2 (cp i_is_branch) (dA1 (dVar 2) (dA1 (dVar 1) dA0))) [2]) dA0))))) (sSeq (sRet (dC (.bool false))) sNil) (sNil))
  (sSeq (sRet (dCB false fAll (dA1 (dLc (dRg1 (dA1 (dBin false fSub (dCB true fLen (dA1 (dVar 0) dA0)) (dC (.int 1))) dA0)) (.nm 3) (dC (.bool true)) (dBin false fLt (dIdx (dIdx (dVar 0) (dVar 3)) (dC (.int 0))) (dIdx (dIdx (dVar 0) (dBin false fAdd (dVar 3) (dC (.int 1)))) (dC (.int 0)))) [3]) dA0))) sNil)
theorem e_are_branches (cp cpm : Nat → Fun) : denSs tab cp cpm 40 d_are_branches.sc d_are_branches.body = b_are_branches cp cpm := by kernel_rfl
def b_is_row (cp cpm : Nat → Fun) : DenS := sSeq (sIf (dOr (dNot (dIsi "tuple" (dVar 1))) (dOr (dBin true fNe (dCB true fLen (dA1 (dVar 1) dA0)) (dC (.int 3))) (dNot (dCall 2 (cp i_is_way) (dA1 (dVar 0) (dA1 (dIdx (dVar 1) (dC (.int 1))) dA0)))))) (sSeq (sRet (dC (.bool false))) sNil) (sNil))
  (sSeq (sIf (dBin true fEq (dIdx (dVar 1) (dC (.int 0))) (dC (.str "cure"))) (sSeq (sRet (dCall 2 (cp i_is_below) (dA1 (dIdx (dVar 1) (dC (.int 2))) (dA1 (dIdx (dVar 0) (dC (.int 1))) dA0)))) sNil) (sNil))
  (sSeq (sRet (dAnd (dBin true fEq (dIdx (dVar 1) (dC (.int 0))) (dC (.str "look"))) (dCall 2 (cp i_are_branches) (dA1 (dIdx (dVar 1) (dC (.int 2))) (dA1 (dVar 2) dA0))))) sNil))
theorem e_is_row (cp cpm : Nat → Fun) : denSs tab cp cpm 40 d_is_row.sc d_is_row.body = b_is_row cp cpm := by kernel_rfl
def b_has_size (cp cpm : Nat → Fun) : DenS := sSeq (sRet (dAnd (dIsi "tuple" (dVar 0)) (dChain fLe fLe (dC (.int 1)) (dCB true fLen (dA1 (dVar 0) dA0)) (dC (.int 2000))))) sNil
theorem e_has_size (cp cpm : Nat → Fun) : denSs tab cp cpm 40 d_has_size.sc d_has_size.body = b_has_size cp cpm := by kernel_rfl
def b_first_wrong (cp cpm : Nat → Fun) : DenS := sSeq (sFor (dEnum (dA1 (dVar 1) dA0)) (.tp [2, 3]) (sSeq (sIf (dNot (dCall 3 (cp i_is_row) (dA1 (dVar 0) (dA1 (dVar 3) (dA1 (dVar 2) dA0))))) (sSeq (sRet (dVar 2)) sNil) (sNil)) sNil))
  (sSeq (sRet (dC .none)) sNil)
theorem e_first_wrong (cp cpm : Nat → Fun) : denSs tab cp cpm 40 d_first_wrong.sc d_first_wrong.body = b_first_wrong cp cpm := by kernel_rfl
def b_want_code (cp cpm : Nat → Fun) : DenS := sSeq (sIf (dNot (dCall 1 (cp i_has_size) (dA1 (dVar 1) dA0))) (sSeq (sNo) sNil) (sNil))
  (sSeq (sSet 2 false (dCall 2 (cp i_first_wrong) (dA1 (dVar 0) (dA1 (dVar 1) dA0))))
  (sSeq (sIf (dBin false (fIs true) (dVar 2) (dC .none)) (sSeq (sNo) sNil) (sNil)) sNil))
theorem e_want_code (cp cpm : Nat → Fun) : denSs tab cp cpm 40 d_want_code.sc d_want_code.body = b_want_code cp cpm := by kernel_rfl
def b_tells_code (cp cpm : Nat → Fun) : DenS := sSeq (sRet (dAnd (dCall 1 (cp i_has_size) (dA1 (dVar 1) dA0)) (dBin false (fIs false) (dCall 2 (cp i_first_wrong) (dA1 (dVar 0) (dA1 (dVar 1) dA0))) (dC .none)))) sNil
theorem e_tells_code (cp cpm : Nat → Fun) : denSs tab cp cpm 40 d_tells_code.sc d_tells_code.body = b_tells_code cp cpm := by kernel_rfl
def b_joined (cp cpm : Nat → Fun) : DenS := sSeq (sUnp [1, 2, 3] (dVar 0))
  (sSeq (sIf (dBin true fEq (dVar 1) (dC (.str "cure"))) (sSeq (sRet (dVar 0)) sNil) (sNil))
  (sSeq (sSet 4 false (dCB false fTuple (dA1 (dLc (dIter (dVar 3)) (.tp [5, 6]) (dC (.bool true)) (dTup (dA1 (dVar 5) (dA1 (dCall 1 (cp i_joined) (dA1 (dVar 6) dA0)) dA0))) [5, 6]) dA0)))
  (sSeq (sSet 7 false (dIdx (dIdx (dVar 4) (dC (.int 0))) (dC (.int 1))))
  (sSeq (sIf (dCB false fAll (dA1 (dLc (dIter (dVar 4)) (.tp [8, 6]) (dC (.bool true)) (dBin true fEq (dVar 6) (dVar 7)) [8, 6]) dA0)) (sSeq (sRet (dTup (dA1 (dIdx (dVar 7) (dC (.int 0))) (dA1 (dBin false fAdd (dVar 2) (dIdx (dVar 7) (dC (.int 1)))) (dA1 (dIdx (dVar 7) (dC (.int 2))) dA0))))) sNil) (sNil))
  (sSeq (sRet (dTup (dA1 (dVar 1) (dA1 (dVar 2) (dA1 (dVar 4) dA0))))) sNil)))))
theorem e_joined (cp cpm : Nat → Fun) : denSs tab cp cpm 40 d_joined.sc d_joined.body = b_joined cp cpm := by kernel_rfl
def b_Rows_init (cp cpm : Nat → Fun) : DenS := sSeq (sFldS "Rows" "rows" (dVar 0) (dLst (dA0))) sNil
theorem e_Rows_init (cp cpm : Nat → Fun) : denSs tab cp cpm 40 d_Rows_init.sc d_Rows_init.body = b_Rows_init cp cpm := by kernel_rfl
def b_Rows_number (cp cpm : Nat → Fun) : DenS := sSeq (sUnp [2, 3, 4] (dVar 1))
  (sSeq (sIf (dBin true fEq (dVar 2) (dC (.str "look"))) (sSeq (sSet 4 false (dCB false fTuple (dA1 (dLc (dIter (dVar 4)) (.tp [5, 6]) (dC (.bool true)) (dTup (dA1 (dVar 5) (dA1 (dMethI "Rows" "number" 2 (cp i_Rows_number) (dVar 0) (dA1 (dVar 6) dA0)) dA0))) [5, 6]) dA0))) sNil) (sNil))
  (sSeq (sSet 7 false (dTup (dA1 (dVar 2) (dA1 (dVar 3) (dA1 (dVar 4) dA0)))))
  (sSeq (sIf (dInD true (fIn true) (dVar 7) (dFld "Rows" "rows" (dVar 0))) (sSeq (sExpr (dMeth isLoc mAppend (dFld "Rows" "rows" (dVar 0)) (dA1 (dVar 7) dA0))) sNil) (sNil))
  (sSeq (sRet (dIndex (dFld "Rows" "rows" (dVar 0)) (dA1 (dVar 7) dA0))) sNil))))
theorem e_Rows_number (cp cpm : Nat → Fun) : denSs tab cp cpm 40 d_Rows_number.sc d_Rows_number.body = b_Rows_number cp cpm := by kernel_rfl
def b_flat (cp cpm : Nat → Fun) : DenS := sSeq (sSet 1 false (dMake "Rows" 1 (cpm i_Rows_init) dA0))
  (sSeq (sExpr (dMethI "Rows" "number" 2 (cp i_Rows_number) (dVar 1) (dA1 (dVar 0) dA0)))
  (sSeq (sRet (dCB false fTuple (dA1 (dFld "Rows" "rows" (dVar 1)) dA0))) sNil))
theorem e_flat (cp cpm : Nat → Fun) : denSs tab cp cpm 40 d_flat.sc d_flat.body = b_flat cp cpm := by kernel_rfl
def b_coded (cp cpm : Nat → Fun) : DenS := sSeq (sRet (dCall 1 (cp i_flat) (dA1 (dCall 1 (cp i_joined) (dA1 (dVar 0) dA0)) dA0))) sNil
theorem e_coded (cp cpm : Nat → Fun) : denSs tab cp cpm 40 d_coded.sc d_coded.body = b_coded cp cpm := by kernel_rfl
def b_Run_init (cp cpm : Nat → Fun) : DenS := sSeq (sFldS "Run" "book" (dVar 0) (dVar 1))
  (sSeq (sFldS "Run" "x" (dVar 0) (dVar 4))
  (sSeq (sFldS "Run" "walk" (dVar 0) (dLst (dA1 (dVar 3) dA0)))
  (sSeq (sFldS "Run" "known" (dVar 0) (dCall 4 (cp i_agreeing_in) (dA1 (dIdx (dVar 1) (dC (.int 0))) (dA1 (dVar 2) (dA1 (dVar 4) (dA1 (dTup (dA1 (dVar 3) dA0)) dA0)))))) sNil)))
theorem e_Run_init (cp cpm : Nat → Fun) : denSs tab cp cpm 40 d_Run_init.sc d_Run_init.body = b_Run_init cp cpm := by kernel_rfl
def b_Run_go (cp cpm : Nat → Fun) : DenS := sSeq (sSet 2 false (dCall 3 (cp i_move_between) (dA1 (dIdx (dFld "Run" "book" (dVar 0)) (dC (.int 0))) (dA1 (dIdx (dFld "Run" "walk" (dVar 0)) (dUn fNeg (dC (.int 1)))) (dA1 (dVar 1) dA0)))))
  (sSeq (sIf (dBin false (fIs false) (dVar 2) (dC .none)) (sSeq (sRet (dTup (dA1 (dC (.str "nomove")) (dA1 (dVar 1) dA0)))) sNil) (sNil))
  (sSeq (sSet 3 false (dCall 3 (cp i_bar_at) (dA1 (dFld "Run" "book" (dVar 0)) (dA1 (dFld "Run" "known" (dVar 0)) (dA1 (dVar 2) dA0)))))
  (sSeq (sIf (dBin false (fIs true) (dVar 3) (dC .none)) (sSeq (sRet (dTup (dA1 (dC (.str "barred")) (dA1 (dVar 3) dA0)))) sNil) (sNil))
  (sSeq (sExpr (dMeth isLoc mAppend (dFld "Run" "walk" (dVar 0)) (dA1 (dVar 1) dA0)))
  (sSeq (sFldS "Run" "known" (dVar 0) (dCall 4 (cp i_agreeing_in) (dA1 (dIdx (dFld "Run" "book" (dVar 0)) (dC (.int 0))) (dA1 (dFld "Run" "known" (dVar 0)) (dA1 (dFld "Run" "x" (dVar 0)) (dA1 (dTup (dA1 (dVar 1) dA0)) dA0))))))
  (sSeq (sRet (dC .none)) sNil))))))
theorem e_Run_go (cp cpm : Nat → Fun) : denSs tab cp cpm 40 d_Run_go.sc d_Run_go.body = b_Run_go cp cpm := by kernel_rfl
def b_Run_go_all (cp cpm : Nat → Fun) : DenS := sSeq (sFor (dIter (dVar 1)) (.nm 2) (sSeq (sSet 3 false (dMethI "Run" "go" 2 (cp i_Run_go) (dVar 0) (dA1 (dVar 2) dA0)))
  (sSeq (sIf (dBin false (fIs true) (dVar 3) (dC .none)) (sSeq (sRet (dVar 3)) sNil) (sNil)) sNil)))
  (sSeq (sRet (dC .none)) sNil)
theorem e_Run_go_all (cp cpm : Nat → Fun) : denSs tab cp cpm 40 d_Run_go_all.sc d_Run_go_all.body = b_Run_go_all cp cpm := by kernel_rfl
def b_Run_last (cp cpm : Nat → Fun) : DenS := sSeq (sSet 2 false (dBin false fSub (dCB true fLen (dA1 (dVar 1) dA0)) (dC (.int 1))))
  (sSeq (sWhile (dC (.bool true)) (sSeq (sUnp [3, 4, 5] (dIdx (dVar 1) (dVar 2)))
  (sSeq (sSet 6 false (dMethI "Run" "go_all" 2 (cp i_Run_go_all) (dVar 0) (dA1 (dVar 4) dA0)))
  (sSeq (sIf (dBin false (fIs true) (dVar 6) (dC .none)) (sSeq (sRet (dVar 6)) sNil) (sNil))
  (sSeq (sIf (dBin true fEq (dVar 3) (dC (.str "cure"))) (sSeq (sRet (dTup (dA1 (dVar 3) (dA1 (dVar 5) dA0)))) sNil) (sNil))
  (sSeq (sSet 7 false (dIdx (dIdx (dIdx (dIdx (dFld "Run" "book" (dVar 0)) (dC (.int 0))) (dC (.int 3))) (dIdx (dFld "Run" "walk" (dVar 0)) (dUn fNeg (dC (.int 1))))) (dFld "Run" "x" (dVar 0))))
  (sSeq (sSet 8 false (dLc (dIter (dVar 5)) (.tp [9, 10]) (dBin true fEq (dVar 9) (dVar 7)) (dVar 10) [9, 10]))
  (sSeq (sIf (dBin true fEq (dVar 8) (dLst (dA0))) (sSeq (sRet (dTup (dA1 (dC (.str "nosign")) (dA1 (dVar 7) dA0)))) sNil) (sNil))
  (sSeq (sSet 2 false (dIdx (dVar 8) (dC (.int 0)))) sNil))))))))) sNil)
theorem e_Run_last (cp cpm : Nat → Fun) : denSs tab cp cpm 40 d_Run_last.sc d_Run_last.body = b_Run_last cp cpm := by kernel_rfl
def b_run_from (cp cpm : Nat → Fun) : DenS := sSeq (sSet 5 false (dMake "Run" 5 (cpm i_Run_init) (dA1 (dVar 0) (dA1 (dVar 2) (dA1 (dVar 3) (dA1 (dVar 4) dA0))))))
  (sSeq (sSet 6 false (dMethI "Run" "last" 2 (cp i_Run_last) (dVar 5) (dA1 (dVar 1) dA0)))
  (sSeq (sRet (dTup (dA1 (dCB false fTuple (dA1 (dFld "Run" "walk" (dVar 5)) dA0)) (dA1 (dVar 6) dA0)))) sNil))
theorem e_run_from (cp cpm : Nat → Fun) : denSs tab cp cpm 40 d_run_from.sc d_run_from.body = b_run_from cp cpm := by kernel_rfl
def b_run_code (cp cpm : Nat → Fun) : DenS := sSeq (sSet 0 false (dCall 1 (cp i_made_book) (dA1 (dVar 0) dA0)))
  (sSeq (sExpr (dCall 2 (cp i_want_code) (dA1 (dIdx (dVar 0) (dC (.int 0))) (dA1 (dVar 1) dA0))))
  (sSeq (sUnp [4, 5] (dCall 2 (cp i_made_start) (dA1 (dIdx (dVar 0) (dC (.int 0))) (dA1 (dVar 2) dA0))))
  (sSeq (sExpr (dCall 3 (cp i_want_fault_in) (dA1 (dIdx (dVar 0) (dC (.int 0))) (dA1 (dVar 4) (dA1 (dVar 3) dA0)))))
  (sSeq (sRet (dCall 5 (cp i_run_from) (dA1 (dVar 0) (dA1 (dVar 1) (dA1 (dVar 4) (dA1 (dVar 5) (dA1 (dVar 3) dA0))))))) sNil))))
theorem e_run_code (cp cpm : Nat → Fun) : denSs tab cp cpm 40 d_run_code.sc d_run_code.body = b_run_code cp cpm := by kernel_rfl
def b_cures (cp cpm : Nat → Fun) : DenS := sSeq (sRet (dAnd (dBin true fEq (dIdx (dVar 1) (dC (.int 0))) (dC (.str "cure"))) (dInD false (fIn false) (dIdx (dVar 1) (dC (.int 1))) (dIdx (dIdx (dVar 0) (dC (.int 2))) (dVar 2))))) sNil
theorem e_cures (cp cpm : Nat → Fun) : denSs tab cp cpm 40 d_cures.sc d_cures.body = b_cures cp cpm := by kernel_rfl
def b_is_right_code (cp cpm : Nat → Fun) : DenS := sSeq (sRet (dCB false fAll (dA1 (dLc (dIter (dVar 2)) (.nm 4) (dC (.bool true)) (dCall 3 (cp i_cures) (dA1 (dIdx (dVar 0) (dC (.int 0))) (dA1 (dIdx (dCall 5 (cp i_run_from) (dA1 (dVar 0) (dA1 (dVar 1) (dA1 (dVar 2) (dA1 (dVar 3) (dA1 (dVar 4) dA0)))))) (dC (.int 1))) (dA1 (dVar 4) dA0)))) [4]) dA0))) sNil
theorem e_is_right_code (cp cpm : Nat → Fun) : denSs tab cp cpm 40 d_is_right_code.sc d_is_right_code.body = b_is_right_code cp cpm := by kernel_rfl
def b_code_right (cp cpm : Nat → Fun) : DenS := sSeq (sIf (dOr (dNot (dCall 1 (cp i_is_book) (dA1 (dVar 0) dA0))) (dOr (dNot (dCall 2 (cp i_tells_code) (dA1 (dIdx (dVar 0) (dC (.int 0))) (dA1 (dVar 1) dA0)))) (dNot (dCall 2 (cp i_is_start) (dA1 (dIdx (dVar 0) (dC (.int 0))) (dA1 (dVar 2) dA0)))))) (sSeq (sRet (dC (.bool false))) sNil) (sNil))
  (sSeq (sUnp [3, 4] (dVar 2))
  (sSeq (sRet (dCall 4 (cp i_is_right_code) (dA1 (dVar 0) (dA1 (dVar 1) (dA1 (dVar 3) (dA1 (dVar 4) dA0)))))) sNil))
theorem e_code_right (cp cpm : Nat → Fun) : denSs tab cp cpm 40 d_code_right.sc d_code_right.body = b_code_right cp cpm := by kernel_rfl
def b_nearest (cp cpm : Nat → Fun) : DenS := sSeq (sSet 3 false (dCall 3 (cp i_distances) (dA1 (dVar 0) (dA1 (dVar 1) (dA1 (dVar 2) dA0)))))
  (sSeq (sLock 3 (sSet 4 false (dLc (dIter (dVar 3)) (.nm 5) (dNot (dCall 3 (cp i_has_one_sign) (dA1 (dIdx (dVar 0) (dC (.int 0))) (dA1 (dVar 1) (dA1 (dVar 5) dA0))))) (dTup (dA1 (dIdx (dVar 3) (dVar 5)) (dA1 (dVar 5) dA0))) [5])))
  (sSeq (sRet (dIf (dBin true fEq (dVar 4) (dLst (dA0))) (dC .none) (dIdx (dCB false fMin (dA1 (dVar 4) dA0)) (dC (.int 1))))) sNil))
theorem e_nearest (cp cpm : Nat → Fun) : denSs tab cp cpm 40 d_nearest.sc d_nearest.body = b_nearest cp cpm := by kernel_rfl
def b_look_from (cp cpm : Nat → Fun) : DenS := sSeq (sSet 4 false (dIf (dBin true fEq (dVar 3) (dVar 2)) (dTup (dA0)) (dSlice (dCall 4 (cp i_way_of) (dA1 (dVar 0) (dA1 (dVar 1) (dA1 (dVar 2) (dA1 (dVar 3) dA0))))) (some (dC (.int 1))) none)))
  (sSeq (sSet 5 false (dLc (dIter (dCall 3 (cp i_parts_at) (dA1 (dIdx (dVar 0) (dC (.int 0))) (dA1 (dVar 1) (dA1 (dVar 3) dA0))))) (.tp [6, 7]) (dC (.bool true)) (dTup (dA1 (dVar 6) (dA1 (dCall 3 (cp i_tree_from) (dA1 (dVar 0) (dA1 (dVar 7) (dA1 (dVar 3) dA0)))) dA0))) [6, 7]))
  (sSeq (sIf (dInD false (fIn false) (dC .none) (dLc (dIter (dVar 5)) (.tp [8, 9]) (dC (.bool true)) (dVar 9) [8, 9])) (sSeq (sRet (dC .none)) sNil) (sNil))
  (sSeq (sRet (dTup (dA1 (dC (.str "look")) (dA1 (dVar 4) (dA1 (dCB false fTuple (dA1 (dVar 5) dA0)) dA0))))) sNil)))
theorem e_look_from (cp cpm : Nat → Fun) : denSs tab cp cpm 40 d_look_from.sc d_look_from.body = b_look_from cp cpm := by kernel_rfl
def b_tree_from (cp cpm : Nat → Fun) : DenS := sSeq (sIf (dNot (dCall 3 (cp i_has_one_sign) (dA1 (dIdx (dVar 0) (dC (.int 0))) (dA1 (dVar 1) (dA1 (dVar 2) dA0))))) (sSeq (sRet (dCall 4 (cp i_look_from) (dA1 (dVar 0) (dA1 (dVar 1) (dA1 (dVar 2) (dA1 (dVar 2) dA0)))))) sNil) (sNil))
  (sSeq (sSet 3 false (dCall 2 (cp i_cures_of) (dA1 (dIdx (dVar 0) (dC (.int 0))) (dA1 (dVar 1) dA0))))
  (sSeq (sIf (dBin true fNe (dVar 3) (dTup (dA0))) (sSeq (sRet (dTup (dA1 (dC (.str "cure")) (dA1 (dTup (dA0)) (dA1 (dIdx (dVar 3) (dC (.int 0))) dA0))))) sNil) (sNil))
  (sSeq (sSet 4 false (dCall 3 (cp i_nearest) (dA1 (dVar 0) (dA1 (dVar 1) (dA1 (dVar 2) dA0)))))
  (sSeq (sRet (dIf (dBin false (fIs false) (dVar 4) (dC .none)) (dC .none) (dCall 4 (cp i_look_from) (dA1 (dVar 0) (dA1 (dVar 1) (dA1 (dVar 2) (dA1 (dVar 4) dA0))))))) sNil))))
theorem e_tree_from (cp cpm : Nat → Fun) : denSs tab cp cpm 40 d_tree_from.sc d_tree_from.body = b_tree_from cp cpm := by kernel_rfl
def b_code_from (cp cpm : Nat → Fun) : DenS := sSeq (sSet 3 false (dCall 3 (cp i_tree_from) (dA1 (dVar 0) (dA1 (dVar 1) (dA1 (dVar 2) dA0)))))
  (sSeq (sRet (dIf (dBin false (fIs false) (dVar 3) (dC .none)) (dC .none) (dCall 1 (cp i_coded) (dA1 (dVar 3) dA0)))) sNil)
theorem e_code_from (cp cpm : Nat → Fun) : denSs tab cp cpm 40 d_code_from.sc d_code_from.body = b_code_from cp cpm := by kernel_rfl
def b_code_for (cp cpm : Nat → Fun) : DenS := sSeq (sSet 0 false (dCall 1 (cp i_made_book) (dA1 (dVar 0) dA0)))
  (sSeq (sUnp [2, 3] (dCall 2 (cp i_made_start) (dA1 (dIdx (dVar 0) (dC (.int 0))) (dA1 (dVar 1) dA0))))
  (sSeq (sRet (dCall 3 (cp i_code_from) (dA1 (dVar 0) (dA1 (dVar 2) (dA1 (dVar 3) dA0))))) sNil))
theorem e_code_for (cp cpm : Nat → Fun) : denSs tab cp cpm 40 d_code_for.sc d_code_for.body = b_code_for cp cpm := by kernel_rfl
def b_can_end (cp cpm : Nat → Fun) : DenS := sSeq (sUnp [1, 2] (dCall 1 (cp i_home_of) (dA1 (dIdx (dVar 0) (dC (.int 0))) dA0)))
  (sSeq (sRet (dBin false (fIs true) (dCall 3 (cp i_tree_from) (dA1 (dVar 0) (dA1 (dVar 1) (dA1 (dVar 2) dA0)))) (dC .none))) sNil)
theorem e_can_end (cp cpm : Nat → Fun) : denSs tab cp cpm 40 d_can_end.sc d_can_end.body = b_can_end cp cpm := by kernel_rfl
def b_solvable (cp cpm : Nat → Fun) : DenS := sSeq (sSet 0 false (dCall 1 (cp i_made_book) (dA1 (dVar 0) dA0)))
  (sSeq (sRet (dCall 1 (cp i_can_end) (dA1 (dVar 0) dA0))) sNil)
theorem e_solvable (cp cpm : Nat → Fun) : denSs tab cp cpm 40 d_solvable.sc d_solvable.body = b_solvable cp cpm := by kernel_rfl
def b_course_of (cp cpm : Nat → Fun) : DenS := sSeq (sSet 2 false (dIdx (dVar 0) (dC (.int 0))))
  (sSeq (sSet 3 true (dLst (dA1 (dCall 1 (cp i_every_fault) (dA1 (dVar 2) dA0)) dA0)))
  (sSeq (sSet 4 false (dC (.bool true)))
  (sSeq (sWhile (dAnd (dVar 4) (dNot (dCall 2 (cp i_is_done) (dA1 (dVar 2) (dA1 (dIdx (dVar 3) (dUn fNeg (dC (.int 1)))) dA0))))) (sSeq (sSet 5 false (dCall 4 (cp i_agreeing_in) (dA1 (dVar 2) (dA1 (dIdx (dVar 3) (dUn fNeg (dC (.int 1)))) (dA1 (dVar 1) (dA1 (dCall 3 (cp i_region_of) (dA1 (dVar 0) (dA1 (dIdx (dVar 3) (dUn fNeg (dC (.int 1)))) (dA1 (dC (.int 0)) dA0)))) dA0))))))
  (sSeq (sSet 4 false (dBin true fNe (dVar 5) (dIdx (dVar 3) (dUn fNeg (dC (.int 1))))))
  (sSeq (sIf (dVar 4) (sSeq (sExpr (dMeth isLoc mAppend (dVar 3) (dA1 (dVar 5) dA0))) sNil) (sNil)) sNil))))
  (sSeq (sRet (dCB false fTuple (dA1 (dVar 3) dA0))) sNil))))
theorem e_course_of (cp cpm : Nat → Fun) : denSs tab cp cpm 40 d_course_of.sc d_course_of.body = b_course_of cp cpm := by kernel_rfl
def b_course (cp cpm : Nat → Fun) : DenS := sSeq (sSet 0 false (dCall 1 (cp i_made_book) (dA1 (dVar 0) dA0)))
  (sSeq (sExpr (dCall 2 (cp i_want_fault) (dA1 (dIdx (dVar 0) (dC (.int 0))) (dA1 (dVar 1) dA0))))
  (sSeq (sRet (dCall 2 (cp i_course_of) (dA1 (dVar 0) (dA1 (dVar 1) dA0)))) sNil))
theorem e_course (cp cpm : Nat → Fun) : denSs tab cp cpm 40 d_course.sc d_course.body = b_course cp cpm := by kernel_rfl
def b_all_courses (cp cpm : Nat → Fun) : DenS := sSeq (sSet 1 false (dIdx (dVar 0) (dC (.int 0))))
  (sSeq (sSet 2 false (dLc (dRg1 (dA1 (dIdx (dVar 1) (dC (.int 0))) dA0)) (.nm 3) (dC (.bool true)) (dCall 2 (cp i_course_of) (dA1 (dVar 0) (dA1 (dVar 3) dA0))) [3]))
  (sSeq (sRet (dIf (dCB false fAll (dA1 (dLc (dIter (dVar 2)) (.nm 4) (dC (.bool true)) (dCall 2 (cp i_is_done) (dA1 (dVar 1) (dA1 (dIdx (dVar 4) (dUn fNeg (dC (.int 1)))) dA0))) [4]) dA0)) (dVar 2) (dC .none))) sNil))
theorem e_all_courses (cp cpm : Nat → Fun) : denSs tab cp cpm 40 d_all_courses.sc d_all_courses.body = b_all_courses cp cpm := by kernel_rfl
def b_trips (cp cpm : Nat → Fun) : DenS := sSeq (sSet 1 false (dCall 1 (cp i_all_courses) (dA1 (dCall 1 (cp i_made_book) (dA1 (dVar 0) dA0)) dA0)))
  (sSeq (sRet (dIf (dBin false (fIs false) (dVar 1) (dC .none)) (dC .none) (dBin false fSub (dCB false fMax (dA1 (dLc (dIter (dVar 1)) (.nm 2) (dC (.bool true)) (dCB true fLen (dA1 (dVar 2) dA0)) [2]) dA0)) (dC (.int 1))))) sNil)
theorem e_trips (cp cpm : Nat → Fun) : denSs tab cp cpm 40 d_trips.sc d_trips.body = b_trips cp cpm := by kernel_rfl
def b_chain (cp cpm : Nat → Fun) : DenS := sSeq (sSet 1 false (dCall 1 (cp i_all_courses) (dA1 (dCall 1 (cp i_made_book) (dA1 (dVar 0) dA0)) dA0)))
  (sSeq (sIf (dBin false (fIs false) (dVar 1) (dC .none)) (sSeq (sRet (dC .none)) sNil) (sNil))
  (sSeq (sSet 2 false (dCB false fMax (dA1 (dLc (dIter (dVar 1)) (.nm 3) (dC (.bool true)) (dCB true fLen (dA1 (dVar 3) dA0)) [3]) dA0)))
  (sSeq (sSet 4 false (dIdx (dLc (dIter (dVar 1)) (.nm 3) (dBin true fEq (dCB true fLen (dA1 (dVar 3) dA0)) (dVar 2)) (dVar 3) [3]) (dC (.int 0))))
  (sSeq (sRet (dRev (dSlice (dVar 4) none (some (dUn fNeg (dC (.int 1))))))) sNil))))
theorem e_chain (cp cpm : Nat → Fun) : denSs tab cp cpm 40 d_chain.sc d_chain.body = b_chain cp cpm := by kernel_rfl
def b_unlike_entries (cp cpm : Nat → Fun) : DenS := sSeq (sRet (dCB true fLen (dA1 (dLc (dIter (dVar 2)) (.tp [3, 4]) (dBin true fNe (dIdx (dIdx (dIdx (dVar 0) (dC (.int 3))) (dVar 3)) (dVar 1)) (dVar 4)) (dC (.int 1)) [3, 4]) dA0))) sNil
theorem e_unlike_entries (cp cpm : Nat → Fun) : denSs tab cp cpm 40 d_unlike_entries.sc d_unlike_entries.body = b_unlike_entries cp cpm := by kernel_rfl
def b_faults_left (cp cpm : Nat → Fun) : DenS := sSeq (sRet (dCB false fTuple (dA1 (dLc (dIter (dVar 1)) (.nm 3) (dBin true fEq (dCall 3 (cp i_unlike_entries) (dA1 (dVar 0) (dA1 (dVar 3) (dA1 (dVar 2) dA0)))) (dC (.int 0))) (dVar 3) [3]) dA0))) sNil
theorem e_faults_left (cp cpm : Nat → Fun) : denSs tab cp cpm 40 d_faults_left.sc d_faults_left.body = b_faults_left cp cpm := by kernel_rfl
def b_way_deeds (cp cpm : Nat → Fun) : DenS := sSeq (sSet 3 true (dLst (dA0)))
  (sSeq (sFor (dIter (dVar 1)) (.nm 4) (sSeq (sExpr (dMeth isLoc mAppend (dVar 3) (dA1 (dTup (dA1 (dC (.str "go")) (dA1 (dVar 4) dA0))) dA0)))
  (sSeq (sExpr (dMeth isLoc mAppend (dVar 3) (dA1 (dTup (dA1 (dC (.str "see")) (dA1 (dVar 4) (dA1 (dIdx (dIdx (dIdx (dVar 0) (dC (.int 3))) (dVar 4)) (dVar 2)) dA0)))) dA0))) sNil)))
  (sSeq (sRet (dVar 3)) sNil))
theorem e_way_deeds (cp cpm : Nat → Fun) : denSs tab cp cpm 40 d_way_deeds.sc d_way_deeds.body = b_way_deeds cp cpm := by kernel_rfl
def b_setting_behind (cp cpm : Nat → Fun) : DenS := sSeq (sSet 2 false (dLc (dIter (dVar 0)) (.nm 3) (dBin true fEq (dIdx (dVar 3) (dC (.int 0))) (dC (.str "go"))) (dIdx (dVar 3) (dC (.int 1))) [3]))
  (sSeq (sRet (dIf (dBin true fNe (dVar 2) (dLst (dA0))) (dIdx (dVar 2) (dUn fNeg (dC (.int 1)))) (dVar 1))) sNil)
theorem e_setting_behind (cp cpm : Nat → Fun) : denSs tab cp cpm 40 d_setting_behind.sc d_setting_behind.body = b_setting_behind cp cpm := by kernel_rfl
def b_deeds_from (cp cpm : Nat → Fun) : DenS := sSeq (sSet 4 true (dLst (dA1 (dTup (dA1 (dC (.str "see")) (dA1 (dVar 2) (dA1 (dIdx (dIdx (dIdx (dVar 0) (dC (.int 3))) (dVar 2)) (dVar 3)) dA0)))) dA0)))
  (sSeq (sSet 5 false (dIdx (dVar 1) (dUn fNeg (dC (.int 1)))))
  (sSeq (sWhile (dBin true fEq (dIdx (dVar 5) (dC (.int 0))) (dC (.str "look"))) (sSeq (sExpr (dMeth isLoc mExtend (dVar 4) (dA1 (dCall 3 (cp i_way_deeds) (dA1 (dVar 0) (dA1 (dIdx (dVar 5) (dC (.int 1))) (dA1 (dVar 3) dA0)))) dA0)))
  (sSeq (sSet 6 false (dIdx (dVar 4) (dUn fNeg (dC (.int 1)))))
  (sSeq (sSet 5 false (dIdx (dVar 1) (dIdx (dCB false fDictOf (dA1 (dIdx (dVar 5) (dC (.int 2))) dA0)) (dIdx (dVar 6) (dC (.int 2)))))) sNil))))
  (sSeq (sRet (dBin false fAdd (dBin false fAdd (dVar 4) (dCall 3 (cp i_way_deeds) (dA1 (dVar 0) (dA1 (dIdx (dVar 5) (dC (.int 1))) (dA1 (dVar 3) dA0))))) (dLst (dA1 (dTup (dA1 (dC (.str "cure")) (dA1 (dIdx (dVar 5) (dC (.int 2))) dA0))) dA0)))) sNil)))
theorem e_deeds_from (cp cpm : Nat → Fun) : denSs tab cp cpm 40 d_deeds_from.sc d_deeds_from.body = b_deeds_from cp cpm := by kernel_rfl
def b_walk_of (cp cpm : Nat → Fun) : DenS := sSeq (sRet (dBin false fAdd (dTup (dA1 (dC (.int 0)) dA0)) (dCB false fTuple (dA1 (dLc (dIter (dVar 0)) (.nm 1) (dBin true fEq (dIdx (dVar 1) (dC (.int 0))) (dC (.str "go"))) (dIdx (dVar 1) (dC (.int 1))) [1]) dA0)))) sNil
theorem e_walk_of (cp cpm : Nat → Fun) : denSs tab cp cpm 40 d_walk_of.sc d_walk_of.body = b_walk_of cp cpm := by kernel_rfl
def b_journal_of (cp cpm : Nat → Fun) : DenS := sSeq (sRet (dCB false fTuple (dA1 (dLc (dIter (dVar 0)) (.nm 1) (dBin true fEq (dIdx (dVar 1) (dC (.int 0))) (dC (.str "see"))) (dTup (dA1 (dIdx (dVar 1) (dC (.int 1))) (dA1 (dIdx (dVar 1) (dC (.int 2))) dA0))) [1]) dA0))) sNil
theorem e_journal_of (cp cpm : Nat → Fun) : denSs tab cp cpm 40 d_journal_of.sc d_journal_of.body = b_journal_of cp cpm := by kernel_rfl
def b_first_bad_cut (cp cpm : Nat → Fun) : DenS := sSeq (sFor (dEnum (dA1 (dVar 0) dA0)) (.tp [1, 2]) (sSeq (sIf (dNot (dCall 3 (cp i_is_between) (dA1 (dVar 2) (dA1 (dC (.int 0)) (dA1 (dC (.int 5000)) dA0))))) (sSeq (sRet (dVar 1)) sNil) (sNil)) sNil))
  (sSeq (sRet (dC .none)) sNil)
theorem e_first_bad_cut (cp cpm : Nat → Fun) : denSs tab cp cpm 40 d_first_bad_cut.sc d_first_bad_cut.body = b_first_bad_cut cp cpm := by kernel_rfl
def b_want_cuts (cp cpm : Nat → Fun) : DenS := sSeq (sIf (dOr (dNot (dIsi "tuple" (dVar 0))) (dBin false fGt (dCB true fLen (dA1 (dVar 0) dA0)) (dC (.int 20)))) (sSeq (sNo) sNil) (sNil))
  (sSeq (sSet 1 false (dCall 1 (cp i_first_bad_cut) (dA1 (dVar 0) dA0)))
  (sSeq (sIf (dBin false (fIs true) (dVar 1) (dC .none)) (sSeq (sNo) sNil) (sNil)) sNil))
theorem e_want_cuts (cp cpm : Nat → Fun) : denSs tab cp cpm 40 d_want_cuts.sc d_want_cuts.body = b_want_cuts cp cpm := by kernel_rfl
def b_want_run (cp cpm : Nat → Fun) : DenS := sSeq (sExpr (dCall 1 (cp i_made_book) (dA1 (dVar 0) dA0)))
  (sSeq (sExpr (dCall 2 (cp i_want_code) (dA1 (dIdx (dVar 0) (dC (.int 0))) (dA1 (dVar 1) dA0))))
  (sSeq (sExpr (dCall 2 (cp i_want_fault) (dA1 (dIdx (dVar 0) (dC (.int 0))) (dA1 (dVar 2) dA0))))
  (sSeq (sExpr (dCall 1 (cp i_want_cuts) (dA1 (dVar 3) dA0)))
  (sSeq (sIf (dNot (dCall 4 (cp i_is_right_code) (dA1 (dVar 0) (dA1 (dVar 1) (dA1 (dCall 1 (cp i_every_fault) (dA1 (dIdx (dVar 0) (dC (.int 0))) dA0)) (dA1 (dC (.int 0)) dA0)))))) (sSeq (sNo) sNil) (sNil)) sNil))))
theorem e_want_run (cp cpm : Nat → Fun) : denSs tab cp cpm 40 d_want_run.sc d_want_run.body = b_want_run cp cpm := by kernel_rfl
def b_run_cut (cp cpm : Nat → Fun) : DenS := sSeq (sExpr (dCall 4 (cp i_want_run) (dA1 (dVar 0) (dA1 (dVar 1) (dA1 (dVar 2) (dA1 (dVar 3) dA0))))))
  (sSeq (sSet 4 false (dIdx (dVar 0) (dC (.int 0))))
  (sSeq (sPar 5 6 false false (dLst (dA0)) (dCall 4 (cp i_deeds_from) (dA1 (dVar 4) (dA1 (dVar 1) (dA1 (dC (.int 0)) (dA1 (dVar 2) dA0))))))
  (sSeq (sFor (dIter (dVar 3)) (.nm 7) (sSeq (sIf (dBin false fLt (dVar 7) (dCB true fLen (dA1 (dVar 6) dA0))) (sSeq (sSet 5 false (dBin false fAdd (dVar 5) (dSlice (dVar 6) none (some (dVar 7)))))
  (sSeq (sSet 8 false (dCall 2 (cp i_setting_behind) (dA1 (dVar 5) (dA1 (dC (.int 0)) dA0))))
  (sSeq (sSet 9 false (dCall 3 (cp i_faults_left) (dA1 (dVar 4) (dA1 (dCall 1 (cp i_every_fault) (dA1 (dVar 4) dA0)) (dA1 (dCall 1 (cp i_journal_of) (dA1 (dVar 5) dA0)) dA0)))))
  (sSeq (sSet 6 false (dCall 4 (cp i_deeds_from) (dA1 (dVar 4) (dA1 (dCall 3 (cp i_code_from) (dA1 (dVar 0) (dA1 (dVar 9) (dA1 (dVar 8) dA0)))) (dA1 (dVar 8) (dA1 (dVar 2) dA0)))))) sNil)))) (sSeq (sBrk) sNil)) sNil))
  (sSeq (sSet 5 false (dBin false fAdd (dVar 5) (dVar 6)))
  (sSeq (sRet (dTup (dA1 (dCall 1 (cp i_walk_of) (dA1 (dVar 5) dA0)) (dA1 (dIdx (dIdx (dVar 5) (dUn fNeg (dC (.int 1)))) (dC (.int 1))) (dA1 (dCall 1 (cp i_journal_of) (dA1 (dVar 5) dA0)) dA0))))) sNil)))))
theorem e_run_cut (cp cpm : Nat → Fun) : denSs tab cp cpm 40 d_run_cut.sc d_run_cut.body = b_run_cut cp cpm := by kernel_rfl
def b_law_pool (cp cpm : Nat → Fun) : DenS := sSeq (sSet 2 false (dC (.int 0)))
  (sSeq (sIf (dBin false fLt (dVar 1) (dCB true fLen (dA1 (dVar 0) dA0))) (sSeq (sSet 2 false (dIdx (dVar 0) (dVar 1))) sNil) (sSeq (sIf (dBin true fNe (dVar 0) (dLst (dA0))) (sSeq (sSet 2 false (dIdx (dVar 0) (dC (.int 0)))) sNil) (sNil)) sNil))
  (sSeq (sSet 3 false (dCB false fMax (dA1 (dCB false fInt (dA1 (dVar 2) dA0)) (dA1 (dCB false fInt (dA1 (dBin false fSub (dUn fNeg (dC (.int 1))) (dVar 2)) dA0)) dA0))))
  (sSeq (sSet 4 false (dBin false fMod (dCB false fInt (dA1 (dBin false fMul (dBin false fAdd (dBin false fAdd (dBin false fAdd (dBin false fMod (dCB false fInt (dA1 (dVar 3) dA0)) (dC (.int 2147483629))) (dBin false fMul (dBin false fMul (dC (.int 7919)) (dVar 1)) (dVar 1))) (dBin false fMul (dC (.int 31)) (dVar 1))) (dC (.int 17))) (dC (.int 48271))) dA0)) (dC (.int 2147483647))))
  (sSeq (sRet (dLst (dA1 (dBin false fMul (dVar 3) (dCB false fInt (dA1 (dAnd (dBin false fGe (dVar 3) (dBin false fPow (dC (.int 10)) (dC (.int 18)))) (dBin false fLt (dVar 1) (dCB true fLen (dA1 (dVar 0) dA0)))) dA0))) (dA1 (dVar 4) dA0)))) sNil))))
theorem e_law_pool (cp cpm : Nat → Fun) : denSs tab cp cpm 40 d_law_pool.sc d_law_pool.body = b_law_pool cp cpm := by kernel_rfl
def b_law_take (cp cpm : Nat → Fun) : DenS := sSeq (sIf (dBin false fGt (dIdx (dVar 0) (dC (.int 0))) (dC (.int 0))) (sSeq (sSet 2 false (dBin false fMod (dCB false fInt (dA1 (dIdx (dVar 0) (dC (.int 0))) dA0)) (dVar 1)))
  (sSeq (sPut (dVar 0) (dC (.int 0)) (dBin false fFdiv (dIdx (dVar 0) (dC (.int 0))) (dVar 1)))
  (sSeq (sRet (dVar 2)) sNil))) (sNil))
  (sSeq (sPut (dVar 0) (dC (.int 1)) (dBin false fMod (dCB false fInt (dA1 (dBin false fAdd (dBin false fMul (dIdx (dVar 0) (dC (.int 1))) (dC (.int 39373))) (dC (.int 7))) dA0)) (dC (.int 2147483647))))
  (sSeq (sRet (dBin false fMod (dCB false fInt (dA1 (dBin false fFdiv (dBin false fMod (dCB false fInt (dA1 (dBin false fMul (dIdx (dVar 0) (dC (.int 1))) (dIdx (dVar 0) (dC (.int 1)))) dA0)) (dC (.int 2147483629))) (dC (.int 32))) dA0)) (dVar 1))) sNil))
theorem e_law_take (cp cpm : Nat → Fun) : denSs tab cp cpm 40 d_law_take.sc d_law_take.body = b_law_take cp cpm := by kernel_rfl
def b_law_one (cp cpm : Nat → Fun) : DenS := sSeq (sRet (dIdx (dVar 1) (dCall 2 (cp i_law_take) (dA1 (dVar 0) (dA1 (dCB true fLen (dA1 (dVar 1) dA0)) dA0))))) sNil
theorem e_law_one (cp cpm : Nat → Fun) : denSs tab cp cpm 40 d_law_one.sc d_law_one.body = b_law_one cp cpm := by kernel_rfl
def b_law_mixed (cp cpm : Nat → Fun) : DenS := sSeq (sPar 2 3 true true (dListOf (dVar 1)) (dLst (dA0)))
  (sSeq (sFor (dRg1 (dA1 (dCB true fLen (dA1 (dVar 1) dA0)) dA0)) (.nm 4) (sSeq (sExpr (dMeth isLoc mAppend (dVar 3) (dA1 (dMeth isLoc mPop (dVar 2) (dA1 (dCall 2 (cp i_law_take) (dA1 (dVar 0) (dA1 (dCB true fLen (dA1 (dVar 2) dA0)) dA0))) dA0)) dA0))) sNil))
  (sSeq (sRet (dVar 3)) sNil))
theorem e_law_mixed (cp cpm : Nat → Fun) : denSs tab cp cpm 40 d_law_mixed.sc d_law_mixed.body = b_law_mixed cp cpm := by kernel_rfl
def b_law_all (cp cpm : Nat → Fun) : DenS := sSeq (sRet (dCB false fTuple (dA1 (dLc (dRg1 (dA1 (dIdx (dVar 0) (dC (.int 0))) dA0)) (.nm 1) (dC (.bool true)) (dVar 1) [1]) dA0))) sNil
theorem e_law_all (cp cpm : Nat → Fun) : denSs tab cp cpm 40 d_law_all.sc d_law_all.body = b_law_all cp cpm := by kernel_rfl
def b_law_row_bars (cp cpm : Nat → Fun) : DenS := sSeq (sSet 2 true (dBin false fMul (dLst (dA1 (dTup (dA0)) dA0)) (dCB false fInt (dA1 (dBin false fGt (dVar 1) (dC (.int 1))) dA0))))
  (sSeq (sFor (dRg2 (dA1 (dC (.int 1)) (dA1 (dBin false fSub (dVar 1) (dC (.int 1))) dA0))) (.nm 3) (sSeq (sSet 4 false (dCB false fSorted (dA1 (dSlice (dCall 2 (cp i_law_mixed) (dA1 (dVar 0) (dA1 (dLc (dRg2 (dA1 (dVar 3) (dA1 (dVar 1) dA0))) (.nm 5) (dC (.bool true)) (dVar 5) [5]) dA0))) none (some (dCall 2 (cp i_law_take) (dA1 (dVar 0) (dA1 (dC (.int 3)) dA0))))) dA0)))
  (sSeq (sExpr (dMeth isLoc mAppend (dVar 2) (dA1 (dTup (dA1 (dBin false fAdd (dTup (dA1 (dBin false fSub (dVar 3) (dC (.int 1))) dA0)) (dCB false fTuple (dA1 (dVar 4) dA0))) dA0)) dA0))) sNil)))
  (sSeq (sRet (dCB false fTuple (dA1 (dVar 2) dA0))) sNil))
theorem e_law_row_bars (cp cpm : Nat → Fun) : denSs tab cp cpm 40 d_law_row_bars.sc d_law_row_bars.body = b_law_row_bars cp cpm := by kernel_rfl
def b_law_row_book (cp cpm : Nat → Fun) : DenS := sSeq (sSet 1 false (dCall 2 (cp i_law_one) (dA1 (dVar 0) (dA1 (dLst (dA1 (dC (.int 2)) (dA1 (dC (.int 3)) (dA1 (dC (.int 4)) (dA1 (dC (.int 5)) (dA1 (dBin false fAdd (dC (.int 6)) (dCall 2 (cp i_law_take) (dA1 (dVar 0) (dA1 (dC (.int 5)) dA0)))) (dA1 (dBin false fAdd (dC (.int 2)) (dCall 2 (cp i_law_take) (dA1 (dVar 0) (dA1 (dC (.int 6)) dA0)))) dA0))))))) dA0))))
  (sSeq (sIf (dBin true fEq (dCall 2 (cp i_law_take) (dA1 (dVar 0) (dA1 (dC (.int 24)) dA0))) (dC (.int 0))) (sSeq (sSet 1 false (dC (.int 24))) sNil) (sNil))
  (sSeq (sPar 2 3 false true (dBin false fAdd (dC (.int 2)) (dCall 2 (cp i_law_take) (dA1 (dVar 0) (dA1 (dCB false fMin (dA1 (dC (.int 15)) (dA1 (dVar 1) dA0))) dA0)))) (dLst (dA1 (dBin false fMul (dTup (dA1 (dC (.int 0)) dA0)) (dVar 1)) dA0)))
  (sSeq (sFor (dRg2 (dA1 (dC (.int 1)) (dA1 (dVar 1) dA0))) (.nm 4) (sSeq (sSet 5 false (dBin false fAdd (dC (.int 1)) (dCall 2 (cp i_law_take) (dA1 (dVar 0) (dA1 (dC (.int 9)) dA0)))))
  (sSeq (sExpr (dMeth isLoc mAppend (dVar 3) (dA1 (dCB false fTuple (dA1 (dLc (dRg1 (dA1 (dVar 1) dA0)) (.nm 6) (dC (.bool true)) (dIf (dBin true fEq (dVar 6) (dBin false fSub (dVar 4) (dC (.int 1)))) (dVar 5) (dC (.int 0))) [6]) dA0)) dA0))) sNil)))
  (sSeq (sSet 7 false (dCB false fTuple (dA1 (dLc (dRg1 (dA1 (dVar 1) dA0)) (.nm 6) (dC (.bool true)) (dTup (dA1 (dBin false fMod (dCB false fInt (dA1 (dVar 6) dA0)) (dVar 2)) dA0)) [6]) dA0)))
  (sSeq (sSet 8 false (dCB false fTuple (dA1 (dLc (dRg1 (dA1 (dBin false fSub (dVar 1) (dC (.int 1))) dA0)) (.nm 4) (dC (.bool true)) (dTup (dA1 (dVar 4) (dA1 (dBin false fAdd (dVar 4) (dC (.int 1))) dA0))) [4]) dA0)))
  (sSeq (sRet (dTup (dA1 (dTup (dA1 (dVar 1) (dA1 (dVar 2) (dA1 (dVar 7) (dA1 (dCB false fTuple (dA1 (dVar 3) dA0)) (dA1 (dVar 8) dA0)))))) (dA1 (dCall 2 (cp i_law_row_bars) (dA1 (dVar 0) (dA1 (dVar 1) dA0))) dA0)))) sNil))))))
theorem e_law_row_book (cp cpm : Nat → Fun) : denSs tab cp cpm 40 d_law_row_book.sc d_law_row_book.body = b_law_row_book cp cpm := by kernel_rfl
def b_law_due_code (cp cpm : Nat → Fun) : DenS := sSeq (sPar 1 2 true false (dLst (dA1 (dTup (dA1 (dC (.str "cure")) (dA1 (dTup (dA0)) (dA1 (dIdx (dIdx (dIdx (dVar 0) (dC (.int 2))) (dBin false fSub (dIdx (dVar 0) (dC (.int 0))) (dC (.int 1)))) (dC (.int 0))) dA0)))) dA0)) (dC (.int 0)))
  (sSeq (sFor (dRg3 (dA1 (dBin false fSub (dIdx (dVar 0) (dC (.int 0))) (dC (.int 1))) (dA1 (dC (.int 0)) (dA1 (dUn fNeg (dC (.int 1))) dA0)))) (.nm 3) (sSeq (sSet 4 false (dTup (dA1 (dC (.str "cure")) (dA1 (dTup (dA0)) (dA1 (dIdx (dIdx (dIdx (dVar 0) (dC (.int 2))) (dBin false fSub (dVar 3) (dC (.int 1)))) (dC (.int 0))) dA0)))))
  (sSeq (sIf (dInD true (fIn true) (dVar 4) (dVar 1)) (sSeq (sExpr (dMeth isLoc mAppend (dVar 1) (dA1 (dVar 4) dA0))) sNil) (sNil))
  (sSeq (sExpr (dMeth isLoc mAppend (dVar 1) (dA1 (dTup (dA1 (dC (.str "look")) (dA1 (dTup (dA1 (dVar 3) dA0)) (dA1 (dTup (dA1 (dTup (dA1 (dC (.int 0)) (dA1 (dVar 2) dA0))) (dA1 (dTup (dA1 (dIdx (dIdx (dIdx (dVar 0) (dC (.int 3))) (dVar 3)) (dBin false fSub (dVar 3) (dC (.int 1)))) (dA1 (dIndex (dVar 1) (dA1 (dVar 4) dA0)) dA0))) dA0))) dA0)))) dA0)))
  (sSeq (sSet 2 false (dBin false fSub (dCB true fLen (dA1 (dVar 1) dA0)) (dC (.int 1)))) sNil)))))
  (sSeq (sRet (dCB false fTuple (dA1 (dVar 1) dA0))) sNil))
theorem e_law_due_code (cp cpm : Nat → Fun) : denSs tab cp cpm 40 d_law_due_code.sc d_law_due_code.body = b_law_due_code cp cpm := by kernel_rfl
def b_law_due_walk (cp cpm : Nat → Fun) : DenS := sSeq (sRet (dCB false fTuple (dA1 (dLc (dRg1 (dA1 (dCB false fMin (dA1 (dBin false fAdd (dVar 1) (dC (.int 2))) (dA1 (dIdx (dVar 0) (dC (.int 0))) dA0))) dA0)) (.nm 2) (dC (.bool true)) (dVar 2) [2]) dA0))) sNil
theorem e_law_due_walk (cp cpm : Nat → Fun) : denSs tab cp cpm 40 d_law_due_walk.sc d_law_due_walk.body = b_law_due_walk cp cpm := by kernel_rfl
def b_law_due_course (cp cpm : Nat → Fun) : DenS := sSeq (sPar 2 3 false true (dIdx (dVar 0) (dC (.int 0))) (dLst (dA0)))
  (sSeq (sFor (dRg1 (dA1 (dBin false fAdd (dCB false fMin (dA1 (dVar 1) (dA1 (dBin false fSub (dVar 2) (dC (.int 2))) dA0))) (dC (.int 1))) dA0)) (.nm 4) (sSeq (sExpr (dMeth isLoc mAppend (dVar 3) (dA1 (dCB false fTuple (dA1 (dLc (dRg2 (dA1 (dVar 4) (dA1 (dVar 2) dA0))) (.nm 5) (dC (.bool true)) (dVar 5) [5]) dA0)) dA0))) sNil))
  (sSeq (sRet (dCB false fTuple (dA1 (dBin false fAdd (dVar 3) (dLst (dA1 (dTup (dA1 (dVar 1) dA0)) dA0))) dA0))) sNil))
theorem e_law_due_course (cp cpm : Nat → Fun) : denSs tab cp cpm 40 d_law_due_course.sc d_law_due_course.body = b_law_due_course cp cpm := by kernel_rfl
def b_law_sees (cp cpm : Nat → Fun) : DenS := sSeq (sPar 3 4 false true (dCall 2 (cp i_law_due_walk) (dA1 (dVar 0) (dA1 (dVar 1) dA0))) (dLst (dA0)))
  (sSeq (sSet 5 false (dC (.int 0)))
  (sSeq (sFor (dRg1 (dA1 (dBin false fAdd (dCB true fLen (dA1 (dVar 2) dA0)) (dC (.int 1))) dA0)) (.nm 6) (sSeq (sSet 7 false (dIf (dBin false fLt (dVar 6) (dCB true fLen (dA1 (dVar 2) dA0))) (dIdx (dVar 2) (dVar 6)) (dC (.int 5000))))
  (sSeq (sSet 8 false (dBin false fGt (dVar 7) (dC (.int 0))))
  (sSeq (sIf (dVar 8) (sSeq (sExpr (dMeth isLoc mAppend (dVar 4) (dA1 (dTup (dA1 (dIdx (dVar 3) (dVar 5)) (dA1 (dIdx (dIdx (dIdx (dVar 0) (dC (.int 3))) (dIdx (dVar 3) (dVar 5))) (dVar 1)) dA0))) dA0)))
  (sSeq (sSet 7 false (dBin false fSub (dVar 7) (dC (.int 1)))) sNil)) (sNil))
  (sSeq (sWhile (dAnd (dBin false fGt (dVar 7) (dC (.int 0))) (dBin false fLt (dVar 5) (dBin false fSub (dCB true fLen (dA1 (dVar 3) dA0)) (dC (.int 1))))) (sSeq (sPar 5 7 false false (dBin false fAdd (dVar 5) (dC (.int 1))) (dBin false fSub (dVar 7) (dC (.int 1))))
  (sSeq (sSet 8 false (dBin false fGt (dVar 7) (dC (.int 0))))
  (sSeq (sIf (dVar 8) (sSeq (sExpr (dMeth isLoc mAppend (dVar 4) (dA1 (dTup (dA1 (dIdx (dVar 3) (dVar 5)) (dA1 (dIdx (dIdx (dIdx (dVar 0) (dC (.int 3))) (dIdx (dVar 3) (dVar 5))) (dVar 1)) dA0))) dA0)))
  (sSeq (sSet 7 false (dBin false fSub (dVar 7) (dC (.int 1)))) sNil)) (sNil)) sNil))))
  (sSeq (sIf (dAnd (dBin false fGt (dVar 7) (dC (.int 0))) (dVar 8)) (sSeq (sRet (dCB false fTuple (dA1 (dVar 4) dA0))) sNil) (sNil)) sNil))))))
  (sSeq (sRet (dCB false fTuple (dA1 (dVar 4) dA0))) sNil)))
theorem e_law_sees (cp cpm : Nat → Fun) : denSs tab cp cpm 40 d_law_sees.sc d_law_sees.body = b_law_sees cp cpm := by kernel_rfl
def b_law_fault_right (cp cpm : Nat → Fun) : DenS := sSeq (sSet 3 false (dIdx (dVar 0) (dC (.int 0))))
  (sSeq (sSet 4 false (dTup (dA1 (dCall 2 (cp i_law_due_walk) (dA1 (dVar 3) (dA1 (dVar 2) dA0))) (dA1 (dTup (dA1 (dC (.str "cure")) (dA1 (dIdx (dIdx (dIdx (dVar 3) (dC (.int 2))) (dVar 2)) (dC (.int 0))) dA0))) dA0))))
  (sSeq (sIf (dBin true fNe (dCB false fRepr (dA1 (dCall 4 (cp i_run_code) (dA1 (dVar 0) (dA1 (dVar 1) (dA1 (dTup (dA1 (dCall 1 (cp i_law_all) (dA1 (dVar 3) dA0)) (dA1 (dC (.int 0)) dA0))) (dA1 (dVar 2) dA0))))) dA0)) (dCB false fRepr (dA1 (dVar 4) dA0))) (sSeq (sRet (dC (.bool false))) sNil) (sNil))
  (sSeq (sRet (dBin true fEq (dCB false fRepr (dA1 (dCall 2 (cp i_course) (dA1 (dVar 0) (dA1 (dVar 2) dA0))) dA0)) (dCB false fRepr (dA1 (dCall 2 (cp i_law_due_course) (dA1 (dVar 3) (dA1 (dVar 2) dA0))) dA0)))) sNil)))
theorem e_law_fault_right (cp cpm : Nat → Fun) : denSs tab cp cpm 40 d_law_fault_right.sc d_law_fault_right.body = b_law_fault_right cp cpm := by kernel_rfl
def b_law (cp cpm : Nat → Fun) : DenS := sSeq (sPar 1 2 true true (dCall 2 (cp i_law_pool) (dA1 (dVar 0) (dA1 (dC (.int 0)) dA0))) (dCall 2 (cp i_law_pool) (dA1 (dVar 0) (dA1 (dC (.int 1)) dA0))))
  (sSeq (sSet 3 false (dCall 1 (cp i_law_row_book) (dA1 (dVar 1) dA0)))
  (sSeq (sPar 4 5 false false (dIdx (dVar 3) (dC (.int 0))) (dTup (dA1 (dCall 1 (cp i_law_all) (dA1 (dIdx (dVar 3) (dC (.int 0))) dA0)) (dA1 (dC (.int 0)) dA0))))
  (sSeq (sPar 6 7 false false (dIdx (dVar 4) (dC (.int 0))) (dCall 1 (cp i_law_due_code) (dA1 (dVar 4) dA0)))
  (sSeq (sIf (dOr (dBin true fNe (dCB false fRepr (dA1 (dCall 2 (cp i_code_for) (dA1 (dVar 3) (dA1 (dVar 5) dA0))) dA0)) (dCB false fRepr (dA1 (dVar 7) dA0))) (dBin false (fIs true) (dCall 1 (cp i_solvable) (dA1 (dVar 3) dA0)) (dC (.bool true)))) (sSeq (sRet (dC (.bool false))) sNil) (sNil))
  (sSeq (sIf (dOr (dBin false (fIs true) (dCall 3 (cp i_code_right) (dA1 (dVar 3) (dA1 (dVar 7) (dA1 (dVar 5) dA0)))) (dC (.bool true))) (dBin true fNe (dCB false fRepr (dA1 (dCall 1 (cp i_trips) (dA1 (dVar 3) dA0)) dA0)) (dCB false fRepr (dA1 (dBin false fSub (dVar 6) (dC (.int 1))) dA0)))) (sSeq (sRet (dC (.bool false))) sNil) (sNil))
  (sSeq (sIf (dBin true fNe (dCB false fRepr (dA1 (dCall 1 (cp i_chain) (dA1 (dVar 3) dA0)) dA0)) (dCB false fRepr (dA1 (dRev (dSlice (dCall 2 (cp i_law_due_course) (dA1 (dVar 4) (dA1 (dBin false fSub (dVar 6) (dC (.int 2))) dA0))) none (some (dBin false fSub (dVar 6) (dC (.int 1)))))) dA0))) (sSeq (sRet (dC (.bool false))) sNil) (sNil))
  (sSeq (sSet 8 false (dIf (dBin false fLt (dVar 6) (dC (.int 12))) (dLc (dRg1 (dA1 (dVar 6) dA0)) (.nm 9) (dC (.bool true)) (dVar 9) [9]) (dSlice (dCall 2 (cp i_law_mixed) (dA1 (dVar 1) (dA1 (dLc (dRg1 (dA1 (dVar 6) dA0)) (.nm 9) (dC (.bool true)) (dVar 9) [9]) dA0))) none (some (dC (.int 4))))))
  (sSeq (sIf (dBin true fNe (dLc (dIter (dVar 8)) (.nm 9) (dNot (dCall 3 (cp i_law_fault_right) (dA1 (dVar 3) (dA1 (dVar 7) (dA1 (dVar 9) dA0))))) (dVar 9) [9]) (dLst (dA0))) (sSeq (sRet (dC (.bool false))) sNil) (sNil))
  (sSeq (sSet 9 false (dCall 2 (cp i_law_one) (dA1 (dVar 1) (dA1 (dVar 8) dA0))))
  (sSeq (sSet 10 false (dCB false fTuple (dA1 (dLc (dRg1 (dA1 (dCall 2 (cp i_law_take) (dA1 (dVar 2) (dA1 (dC (.int 3)) dA0))) dA0)) (.nm 11) (dC (.bool true)) (dCall 2 (cp i_law_take) (dA1 (dVar 2) (dA1 (dBin false fAdd (dBin false fMul (dC (.int 2)) (dVar 6)) (dC (.int 2))) dA0))) [11]) dA0)))
  (sSeq (sSet 12 false (dTup (dA1 (dCall 2 (cp i_law_due_walk) (dA1 (dVar 4) (dA1 (dVar 9) dA0))) (dA1 (dIdx (dIdx (dIdx (dVar 4) (dC (.int 2))) (dVar 9)) (dC (.int 0))) (dA1 (dCall 3 (cp i_law_sees) (dA1 (dVar 4) (dA1 (dVar 9) (dA1 (dVar 10) dA0)))) dA0)))))
  (sSeq (sRet (dBin true fEq (dCB false fRepr (dA1 (dCall 4 (cp i_run_cut) (dA1 (dVar 3) (dA1 (dVar 7) (dA1 (dVar 9) (dA1 (dVar 10) dA0))))) dA0)) (dCB false fRepr (dA1 (dVar 12) dA0)))) sNil))))))))))))
theorem e_law (cp cpm : Nat → Fun) : denSs tab cp cpm 40 d_law.sc d_law.body = b_law cp cpm := by kernel_rfl
end PV

set_option maxRecDepth 100000
set_option maxHeartbeats 1000000
/-! each def at a level (printed by gen_terms.py) -/
namespace PV
open PySem PySem.Spec PyProof.Rows L2
def CM (k : Nat) : Nat → Fun := (callPP tab defs k).2
theorem CM_succ (k : Nat) : CM (k + 1) = CP k := rfl
theorem c_any {i : Nat} {d : DefI} {b : (Nat → Fun) → (Nat → Fun) → DenS} (k : Nat) (h : defs i = some d) (e : ∀ cp cpm, denSs tab cp cpm 40 d.sc d.body = b cp cpm) : CP (k + 1) i = runFn d.N.length (b (CP k) (CM k)) := by
  have h1 : CP (k + 1) i = d.run tab (CP k) (CM k) := by
    show stepP tab defs _ _ i = _
    unfold stepP
    rw [h]
    rfl
  rw [h1]
  unfold DefI.run
  rw [e]
theorem c_is_whole (k : Nat) : CP (k + 1) i_is_whole = runFn 1 (b_is_whole (CP k) (CM k)) := c_any k rfl e_is_whole
theorem c_is_between (k : Nat) : CP (k + 1) i_is_between = runFn 3 (b_is_between (CP k) (CM k)) := c_any k rfl e_is_between
theorem c_is_below (k : Nat) : CP (k + 1) i_is_below = runFn 2 (b_is_below (CP k) (CM k)) := c_any k rfl e_is_below
theorem c_is_ascending (k : Nat) : CP (k + 1) i_is_ascending = runFn 4 (b_is_ascending (CP k) (CM k)) := c_any k rfl e_is_ascending
theorem c_is_tuple_of (k : Nat) : CP (k + 1) i_is_tuple_of = runFn 3 (b_is_tuple_of (CP k) (CM k)) := c_any k rfl e_is_tuple_of
theorem c_first_of (k : Nat) : CP (k + 1) i_first_of = runFn 1 (b_first_of (CP k) (CM k)) := c_any k rfl e_first_of
theorem c_wrong_in (k : Nat) : CP (k + 1) i_wrong_in = runFn 5 (b_wrong_in (CP k) (CM k)) := c_any k rfl e_wrong_in
theorem c_is_signs (k : Nat) : CP (k + 1) i_is_signs = runFn 3 (b_is_signs (CP k) (CM k)) := c_any k rfl e_is_signs
theorem c_is_move (k : Nat) : CP (k + 1) i_is_move = runFn 3 (b_is_move (CP k) (CM k)) := c_any k rfl e_is_move
theorem c_wrong_move (k : Nat) : CP (k + 1) i_wrong_move = runFn 4 (b_wrong_move (CP k) (CM k)) := c_any k rfl e_wrong_move
theorem c_wrong_part (k : Nat) : CP (k + 1) i_wrong_part = runFn 7 (b_wrong_part (CP k) (CM k)) := c_any k rfl e_wrong_part
theorem c_made_rig (k : Nat) : CP (k + 1) i_made_rig = runFn 2 (b_made_rig (CP k) (CM k)) := c_any k rfl e_made_rig
theorem c_is_rig (k : Nat) : CP (k + 1) i_is_rig = runFn 1 (b_is_rig (CP k) (CM k)) := c_any k rfl e_is_rig
theorem c_is_fault (k : Nat) : CP (k + 1) i_is_fault = runFn 2 (b_is_fault (CP k) (CM k)) := c_any k rfl e_is_fault
theorem c_is_setting (k : Nat) : CP (k + 1) i_is_setting = runFn 2 (b_is_setting (CP k) (CM k)) := c_any k rfl e_is_setting
theorem c_want_fault (k : Nat) : CP (k + 1) i_want_fault = runFn 2 (b_want_fault (CP k) (CM k)) := c_any k rfl e_want_fault
theorem c_neighbours_of (k : Nat) : CP (k + 1) i_neighbours_of = runFn 5 (b_neighbours_of (CP k) (CM k)) := c_any k rfl e_neighbours_of
theorem c_move_between (k : Nat) : CP (k + 1) i_move_between = runFn 4 (b_move_between (CP k) (CM k)) := c_any k rfl e_move_between
theorem c_is_lot (k : Nat) : CP (k + 1) i_is_lot = runFn 2 (b_is_lot (CP k) (CM k)) := c_any k rfl e_is_lot
theorem c_every_fault (k : Nat) : CP (k + 1) i_every_fault = runFn 1 (b_every_fault (CP k) (CM k)) := c_any k rfl e_every_fault
theorem c_cures_of (k : Nat) : CP (k + 1) i_cures_of = runFn 4 (b_cures_of (CP k) (CM k)) := c_any k rfl e_cures_of
theorem c_is_done (k : Nat) : CP (k + 1) i_is_done = runFn 2 (b_is_done (CP k) (CM k)) := c_any k rfl e_is_done
theorem c_agreeing_in (k : Nat) : CP (k + 1) i_agreeing_in = runFn 6 (b_agreeing_in (CP k) (CM k)) := c_any k rfl e_agreeing_in
theorem c_signs_in (k : Nat) : CP (k + 1) i_signs_in = runFn 4 (b_signs_in (CP k) (CM k)) := c_any k rfl e_signs_in
theorem c_has_one_sign (k : Nat) : CP (k + 1) i_has_one_sign = runFn 3 (b_has_one_sign (CP k) (CM k)) := c_any k rfl e_has_one_sign
theorem c_parts_at (k : Nat) : CP (k + 1) i_parts_at = runFn 5 (b_parts_at (CP k) (CM k)) := c_any k rfl e_parts_at
theorem c_is_within (k : Nat) : CP (k + 1) i_is_within = runFn 3 (b_is_within (CP k) (CM k)) := c_any k rfl e_is_within
theorem c_is_bar (k : Nat) : CP (k + 1) i_is_bar = runFn 2 (b_is_bar (CP k) (CM k)) := c_any k rfl e_is_bar
theorem c_are_bars (k : Nat) : CP (k + 1) i_are_bars = runFn 4 (b_are_bars (CP k) (CM k)) := c_any k rfl e_are_bars
theorem c_wrong_bars (k : Nat) : CP (k + 1) i_wrong_bars = runFn 5 (b_wrong_bars (CP k) (CM k)) := c_any k rfl e_wrong_bars
theorem c_made_book (k : Nat) : CP (k + 1) i_made_book = runFn 2 (b_made_book (CP k) (CM k)) := c_any k rfl e_made_book
theorem c_is_book (k : Nat) : CP (k + 1) i_is_book = runFn 1 (b_is_book (CP k) (CM k)) := c_any k rfl e_is_book
theorem c_bar_at (k : Nat) : CP (k + 1) i_bar_at = runFn 4 (b_bar_at (CP k) (CM k)) := c_any k rfl e_bar_at
theorem c_is_free (k : Nat) : CP (k + 1) i_is_free = runFn 3 (b_is_free (CP k) (CM k)) := c_any k rfl e_is_free
theorem c_free_neighbours (k : Nat) : CP (k + 1) i_free_neighbours = runFn 5 (b_free_neighbours (CP k) (CM k)) := c_any k rfl e_free_neighbours
theorem c_distances (k : Nat) : CP (k + 1) i_distances = runFn 8 (b_distances (CP k) (CM k)) := c_any k rfl e_distances
theorem c_region_of (k : Nat) : CP (k + 1) i_region_of = runFn 3 (b_region_of (CP k) (CM k)) := c_any k rfl e_region_of
theorem c_way_of (k : Nat) : CP (k + 1) i_way_of = runFn 8 (b_way_of (CP k) (CM k)) := c_any k rfl e_way_of
theorem c_home_of (k : Nat) : CP (k + 1) i_home_of = runFn 1 (b_home_of (CP k) (CM k)) := c_any k rfl e_home_of
theorem c_is_start (k : Nat) : CP (k + 1) i_is_start = runFn 2 (b_is_start (CP k) (CM k)) := c_any k rfl e_is_start
theorem c_want_start (k : Nat) : CP (k + 1) i_want_start = runFn 2 (b_want_start (CP k) (CM k)) := c_any k rfl e_want_start
theorem c_made_start (k : Nat) : CP (k + 1) i_made_start = runFn 2 (b_made_start (CP k) (CM k)) := c_any k rfl e_made_start
theorem c_want_fault_in (k : Nat) : CP (k + 1) i_want_fault_in = runFn 3 (b_want_fault_in (CP k) (CM k)) := c_any k rfl e_want_fault_in
theorem c_is_way (k : Nat) : CP (k + 1) i_is_way = runFn 3 (b_is_way (CP k) (CM k)) := c_any k rfl e_is_way
theorem c_is_branch (k : Nat) : CP (k + 1) i_is_branch = runFn 2 (b_is_branch (CP k) (CM k)) := c_any k rfl e_is_branch
theorem c_are_branches (k : Nat) : CP (k + 1) i_are_branches = runFn 4 (b_are_branches (CP k) (CM k)) := c_any k rfl e_are_branches
theorem c_is_row (k : Nat) : CP (k + 1) i_is_row = runFn 3 (b_is_row (CP k) (CM k)) := c_any k rfl e_is_row
theorem c_has_size (k : Nat) : CP (k + 1) i_has_size = runFn 1 (b_has_size (CP k) (CM k)) := c_any k rfl e_has_size
theorem c_first_wrong (k : Nat) : CP (k + 1) i_first_wrong = runFn 4 (b_first_wrong (CP k) (CM k)) := c_any k rfl e_first_wrong
theorem c_want_code (k : Nat) : CP (k + 1) i_want_code = runFn 3 (b_want_code (CP k) (CM k)) := c_any k rfl e_want_code
theorem c_tells_code (k : Nat) : CP (k + 1) i_tells_code = runFn 2 (b_tells_code (CP k) (CM k)) := c_any k rfl e_tells_code
theorem c_joined (k : Nat) : CP (k + 1) i_joined = runFn 9 (b_joined (CP k) (CM k)) := c_any k rfl e_joined
theorem c_Rows_init (k : Nat) : CP (k + 1) i_Rows_init = runFn 1 (b_Rows_init (CP k) (CM k)) := c_any k rfl e_Rows_init
theorem c_Rows_number (k : Nat) : CP (k + 1) i_Rows_number = runFn 8 (b_Rows_number (CP k) (CM k)) := c_any k rfl e_Rows_number
theorem c_flat (k : Nat) : CP (k + 1) i_flat = runFn 2 (b_flat (CP k) (CM k)) := c_any k rfl e_flat
theorem c_coded (k : Nat) : CP (k + 1) i_coded = runFn 1 (b_coded (CP k) (CM k)) := c_any k rfl e_coded
theorem c_Run_init (k : Nat) : CP (k + 1) i_Run_init = runFn 5 (b_Run_init (CP k) (CM k)) := c_any k rfl e_Run_init
theorem c_Run_go (k : Nat) : CP (k + 1) i_Run_go = runFn 4 (b_Run_go (CP k) (CM k)) := c_any k rfl e_Run_go
theorem c_Run_go_all (k : Nat) : CP (k + 1) i_Run_go_all = runFn 4 (b_Run_go_all (CP k) (CM k)) := c_any k rfl e_Run_go_all
theorem c_Run_last (k : Nat) : CP (k + 1) i_Run_last = runFn 11 (b_Run_last (CP k) (CM k)) := c_any k rfl e_Run_last
theorem c_run_from (k : Nat) : CP (k + 1) i_run_from = runFn 7 (b_run_from (CP k) (CM k)) := c_any k rfl e_run_from
theorem c_run_code (k : Nat) : CP (k + 1) i_run_code = runFn 6 (b_run_code (CP k) (CM k)) := c_any k rfl e_run_code
theorem c_cures (k : Nat) : CP (k + 1) i_cures = runFn 3 (b_cures (CP k) (CM k)) := c_any k rfl e_cures
theorem c_is_right_code (k : Nat) : CP (k + 1) i_is_right_code = runFn 5 (b_is_right_code (CP k) (CM k)) := c_any k rfl e_is_right_code
theorem c_code_right (k : Nat) : CP (k + 1) i_code_right = runFn 5 (b_code_right (CP k) (CM k)) := c_any k rfl e_code_right
theorem c_nearest (k : Nat) : CP (k + 1) i_nearest = runFn 6 (b_nearest (CP k) (CM k)) := c_any k rfl e_nearest
theorem c_look_from (k : Nat) : CP (k + 1) i_look_from = runFn 10 (b_look_from (CP k) (CM k)) := c_any k rfl e_look_from
theorem c_tree_from (k : Nat) : CP (k + 1) i_tree_from = runFn 5 (b_tree_from (CP k) (CM k)) := c_any k rfl e_tree_from
theorem c_code_from (k : Nat) : CP (k + 1) i_code_from = runFn 4 (b_code_from (CP k) (CM k)) := c_any k rfl e_code_from
theorem c_code_for (k : Nat) : CP (k + 1) i_code_for = runFn 4 (b_code_for (CP k) (CM k)) := c_any k rfl e_code_for
theorem c_can_end (k : Nat) : CP (k + 1) i_can_end = runFn 3 (b_can_end (CP k) (CM k)) := c_any k rfl e_can_end
theorem c_solvable (k : Nat) : CP (k + 1) i_solvable = runFn 1 (b_solvable (CP k) (CM k)) := c_any k rfl e_solvable
theorem c_course_of (k : Nat) : CP (k + 1) i_course_of = runFn 6 (b_course_of (CP k) (CM k)) := c_any k rfl e_course_of
theorem c_course (k : Nat) : CP (k + 1) i_course = runFn 2 (b_course (CP k) (CM k)) := c_any k rfl e_course
theorem c_all_courses (k : Nat) : CP (k + 1) i_all_courses = runFn 5 (b_all_courses (CP k) (CM k)) := c_any k rfl e_all_courses
theorem c_trips (k : Nat) : CP (k + 1) i_trips = runFn 3 (b_trips (CP k) (CM k)) := c_any k rfl e_trips
theorem c_chain (k : Nat) : CP (k + 1) i_chain = runFn 5 (b_chain (CP k) (CM k)) := c_any k rfl e_chain
theorem c_unlike_entries (k : Nat) : CP (k + 1) i_unlike_entries = runFn 5 (b_unlike_entries (CP k) (CM k)) := c_any k rfl e_unlike_entries
theorem c_faults_left (k : Nat) : CP (k + 1) i_faults_left = runFn 4 (b_faults_left (CP k) (CM k)) := c_any k rfl e_faults_left
theorem c_way_deeds (k : Nat) : CP (k + 1) i_way_deeds = runFn 5 (b_way_deeds (CP k) (CM k)) := c_any k rfl e_way_deeds
theorem c_setting_behind (k : Nat) : CP (k + 1) i_setting_behind = runFn 4 (b_setting_behind (CP k) (CM k)) := c_any k rfl e_setting_behind
theorem c_deeds_from (k : Nat) : CP (k + 1) i_deeds_from = runFn 7 (b_deeds_from (CP k) (CM k)) := c_any k rfl e_deeds_from
theorem c_walk_of (k : Nat) : CP (k + 1) i_walk_of = runFn 2 (b_walk_of (CP k) (CM k)) := c_any k rfl e_walk_of
theorem c_journal_of (k : Nat) : CP (k + 1) i_journal_of = runFn 2 (b_journal_of (CP k) (CM k)) := c_any k rfl e_journal_of
theorem c_first_bad_cut (k : Nat) : CP (k + 1) i_first_bad_cut = runFn 3 (b_first_bad_cut (CP k) (CM k)) := c_any k rfl e_first_bad_cut
theorem c_want_cuts (k : Nat) : CP (k + 1) i_want_cuts = runFn 2 (b_want_cuts (CP k) (CM k)) := c_any k rfl e_want_cuts
theorem c_want_run (k : Nat) : CP (k + 1) i_want_run = runFn 4 (b_want_run (CP k) (CM k)) := c_any k rfl e_want_run
theorem c_run_cut (k : Nat) : CP (k + 1) i_run_cut = runFn 10 (b_run_cut (CP k) (CM k)) := c_any k rfl e_run_cut
theorem c_law_pool (k : Nat) : CP (k + 1) i_law_pool = runFn 5 (b_law_pool (CP k) (CM k)) := c_any k rfl e_law_pool
theorem c_law_take (k : Nat) : CP (k + 1) i_law_take = runFn 3 (b_law_take (CP k) (CM k)) := c_any k rfl e_law_take
theorem c_law_one (k : Nat) : CP (k + 1) i_law_one = runFn 2 (b_law_one (CP k) (CM k)) := c_any k rfl e_law_one
theorem c_law_mixed (k : Nat) : CP (k + 1) i_law_mixed = runFn 5 (b_law_mixed (CP k) (CM k)) := c_any k rfl e_law_mixed
theorem c_law_all (k : Nat) : CP (k + 1) i_law_all = runFn 2 (b_law_all (CP k) (CM k)) := c_any k rfl e_law_all
theorem c_law_row_bars (k : Nat) : CP (k + 1) i_law_row_bars = runFn 6 (b_law_row_bars (CP k) (CM k)) := c_any k rfl e_law_row_bars
theorem c_law_row_book (k : Nat) : CP (k + 1) i_law_row_book = runFn 9 (b_law_row_book (CP k) (CM k)) := c_any k rfl e_law_row_book
theorem c_law_due_code (k : Nat) : CP (k + 1) i_law_due_code = runFn 5 (b_law_due_code (CP k) (CM k)) := c_any k rfl e_law_due_code
theorem c_law_due_walk (k : Nat) : CP (k + 1) i_law_due_walk = runFn 3 (b_law_due_walk (CP k) (CM k)) := c_any k rfl e_law_due_walk
theorem c_law_due_course (k : Nat) : CP (k + 1) i_law_due_course = runFn 6 (b_law_due_course (CP k) (CM k)) := c_any k rfl e_law_due_course
theorem c_law_sees (k : Nat) : CP (k + 1) i_law_sees = runFn 9 (b_law_sees (CP k) (CM k)) := c_any k rfl e_law_sees
theorem c_law_fault_right (k : Nat) : CP (k + 1) i_law_fault_right = runFn 5 (b_law_fault_right (CP k) (CM k)) := c_any k rfl e_law_fault_right
theorem c_law (k : Nat) : CP (k + 1) i_law = runFn 13 (b_law (CP k) (CM k)) := c_any k rfl e_law
end PV

set_option maxRecDepth 100000
set_option maxHeartbeats 1000000
/-! small plain data: ints below 64, four words, tuples of a given shape -/
namespace PV
open PySem
def wordOk (s : Str) : Bool := decide (s = "cure") || decide (s = "look") || decide (s = "go") || decide (s = "see")
def PL : List Nat → PyData → Bool
  | _, .int i => decide (0 ≤ i) && decide (i < 64)
  | _, .str s => wordOk s
  | N :: Ns, .tuple xs => decide (xs.length ≤ N) && xs.all (PL Ns)
  | _, _ => false
def wb : List Nat → Nat
  | [] => 10
  | N :: Ns => N * (wb Ns + 2) + 10
theorem word_cases {s : Str} (h : wordOk s = true) : s = "cure" ∨ s = "look" ∨ s = "go" ∨ s = "see" := by
  unfold wordOk at h
  simp only [Bool.or_eq_true, decide_eq_true_eq] at h
  rcases h with ((h | h) | h) | h
  · exact .inl h
  · exact .inr (.inl h)
  · exact .inr (.inr (.inl h))
  · exact .inr (.inr (.inr h))
theorem int_len : ∀ n : Nat, n < 64 → ((toString (n : Int) : String) : Str).length ≤ 10 ∧ decide (((n : Int)).natAbs.log2 < 1920) = true := by decide +kernel
theorem pl_cases {Ns : List Nat} {d : PyData} (h : PL Ns d = true) : (∃ n : Nat, n < 64 ∧ d = .int n) ∨ (∃ s, wordOk s = true ∧ d = .str s) ∨ ∃ N Ms xs, Ns = N :: Ms ∧ d = .tuple xs ∧ xs.length ≤ N ∧ ∀ x ∈ xs, PL Ms x = true := by
  cases d with
  | int i =>
    unfold PL at h
    simp only [Bool.and_eq_true, decide_eq_true_eq] at h
    exact .inl ⟨i.toNat, by omega, by congr 1; omega⟩
  | str s => exact .inr (.inl ⟨s, by unfold PL at h; exact h, rfl⟩)
  | tuple xs =>
    cases Ns with
    | nil => simp [PL] at h
    | cons N Ms =>
      unfold PL at h
      simp only [Bool.and_eq_true, decide_eq_true_eq, List.all_eq_true] at h
      exact .inr (.inr ⟨N, Ms, xs, rfl, rfl, h.1, h.2⟩)
  | none => cases Ns <;> simp [PL] at h
  | bool _ => cases Ns <;> simp [PL] at h
  | list _ => cases Ns <;> simp [PL] at h
  | dict _ => cases Ns <;> simp [PL] at h
/-- what the model asks of such data -/
structure PlF (Ns : List Nat) (d : PyData) : Prop where
  lay : d.canLay0 = true
  dep : d.depth ≤ Ns.length
  sh : d.showable = true
  nd : d.hasDict = false
  len : d.shown.length ≤ wb Ns
theorem wb_pos (Ns : List Nat) : 10 ≤ wb Ns := by
  cases Ns <;> simp [wb]
theorem tupText_len (ts : List Str) : (tupleText ts).length ≤ piled ts + 3 := by
  unfold tupleText
  rw [strLen_append, strLen_append]
  have h1 : ((if ts.length == 1 then ",)" else ")" : String) : Str).length ≤ 2 := by split <;> decide
  have h2 : ("(" : Str).length = 1 := rfl
  rw [h2]
  cases ts with
  | nil =>
    have h3 : (Str.join ", " []).length = 0 := rfl
    rw [h3]
    omega
  | cons t r =>
    have := join_length_add (t :: r) (by simp)
    omega
theorem plf : ∀ (Ns : List Nat) (d : PyData), PL Ns d = true → PlF Ns d := by
  intro Ns
  induction Ns with
  | nil =>
    intro d h
    rcases pl_cases h with ⟨n, hn, rfl⟩ | ⟨s, hs, rfl⟩ | ⟨N, Ms, xs, e, _⟩
    · exact ⟨rfl, Nat.le_refl _, (int_len n hn).2, rfl, (int_len n hn).1⟩
    · rcases word_cases hs with rfl | rfl | rfl | rfl <;> exact ⟨by decide +kernel, Nat.le_refl _, rfl, rfl, by decide +kernel⟩
    · cases e
  | cons N Ms ih =>
    intro d h
    rcases pl_cases h with ⟨n, hn, rfl⟩ | ⟨s, hs, rfl⟩ | ⟨N', Ms', xs, e, rfl, hl, hx⟩
    · exact ⟨rfl, Nat.zero_le _, (int_len n hn).2, rfl, Nat.le_trans (int_len n hn).1 (wb_pos _)⟩
    · have := wb_pos (N :: Ms)
      rcases word_cases hs with rfl | rfl | rfl | rfl <;> exact ⟨by decide +kernel, Nat.zero_le _, rfl, rfl, Nat.le_trans (m := 10) (by decide +kernel) this⟩
    · cases e
      have key : ∀ ys : List PyData, (∀ y ∈ ys, PlF Ms y) → PyData.canLayAll0 ys = true ∧ PyData.depthAll ys ≤ Ms.length ∧ PyData.showableAll ys = true ∧ PyData.hasDictAll ys = false ∧ piled (PyData.shownAll ys) ≤ ys.length * (wb Ms + 2) := by
        intro ys
        induction ys with
        | nil => intro _; exact ⟨rfl, Nat.zero_le _, rfl, rfl, Nat.zero_le _⟩
        | cons y r ih2 =>
          intro hy
          obtain ⟨a1, a2, a3, a4, a5⟩ := hy y List.mem_cons_self
          obtain ⟨b1, b2, b3, b4, b5⟩ := ih2 fun z hz => hy z (List.mem_cons_of_mem _ hz)
          refine ⟨by simp [PyData.canLayAll0, a1, b1], by simp only [PyData.depthAll]; omega, by simp [PyData.showableAll, a3, b3], by simp [PyData.hasDictAll, a4, b4], ?_⟩
          simp only [PyData.shownAll, piled_cons, List.length_cons, Nat.add_mul]
          omega
      obtain ⟨k1, k2, k3, k4, k5⟩ := key xs fun y hy => ih y (hx y hy)
      refine ⟨k1, ?_, k3, k4, ?_⟩
      · simp only [PyData.depth, List.length_cons]; omega
      · show (tupleText (PyData.shownAll xs)).length ≤ _
        have h1 := tupText_len (PyData.shownAll xs)
        have h2 : xs.length * (wb Ms + 2) ≤ N * (wb Ms + 2) := Nat.mul_le_mul_right _ hl
        simp only [wb]
        omega
theorem plf_all {Ns : List Nat} {ds : List PyData} (h : ∀ d ∈ ds, PL Ns d = true) : PyData.canLayAll0 ds = true ∧ PyData.depthAll ds ≤ Ns.length := by
  have := plf (ds.length :: Ns) (.tuple ds) (by simp [PL]; exact h)
  exact ⟨this.lay, by have := this.dep; simp only [PyData.depth, List.length_cons] at this; omega⟩
theorem eqv_pl : ∀ (Ns Ms : List Nat) (a b : PyData), PL Ns a = true → PL Ms b = true → (PyData.eqv a b = true ↔ a = b) := by
  intro Ns
  induction Ns with
  | nil =>
    intro Ms a b ha hb
    rcases pl_cases ha with ⟨n, hn, rfl⟩ | ⟨s, hs, rfl⟩ | ⟨N, _, xs, e, _⟩
    · rcases pl_cases hb with ⟨m, hm, rfl⟩ | ⟨t, ht, rfl⟩ | ⟨_, _, ys, rfl, rfl, _⟩ <;> simp [PyData.eqv]
    · rcases pl_cases hb with ⟨m, hm, rfl⟩ | ⟨t, ht, rfl⟩ | ⟨_, _, ys, rfl, rfl, _⟩ <;> simp [PyData.eqv]
    · cases e
  | cons N Ns ih =>
    intro Ms a b ha hb
    rcases pl_cases ha with ⟨n, hn, rfl⟩ | ⟨s, hs, rfl⟩ | ⟨_, _, xs, e, rfl, hl, hx⟩
    · rcases pl_cases hb with ⟨m, hm, rfl⟩ | ⟨t, ht, rfl⟩ | ⟨_, _, ys, rfl, rfl, _⟩ <;> simp [PyData.eqv]
    · rcases pl_cases hb with ⟨m, hm, rfl⟩ | ⟨t, ht, rfl⟩ | ⟨_, _, ys, rfl, rfl, _⟩ <;> simp [PyData.eqv]
    · cases e
      rcases pl_cases hb with ⟨m, hm, rfl⟩ | ⟨t, ht, rfl⟩ | ⟨M, Ls, ys, rfl, rfl, _, hy⟩
      · simp [PyData.eqv]
      · simp [PyData.eqv]
      · have key : ∀ us vs : List PyData, (∀ u ∈ us, PL Ns u = true) → (∀ v ∈ vs, PL Ls v = true) → (PyData.eqvAll us vs = true ↔ us = vs) := by
          intro us
          induction us with
          | nil => intro vs _ _; cases vs <;> simp [PyData.eqvAll]
          | cons u us ih2 =>
            intro vs hu hv
            cases vs with
            | nil => simp [PyData.eqvAll]
            | cons v vs =>
              have h1 := ih Ls u v (hu u List.mem_cons_self) (hv v List.mem_cons_self)
              have h2 := ih2 vs (fun z hz => hu z (List.mem_cons_of_mem _ hz)) (fun z hz => hv z (List.mem_cons_of_mem _ hz))
              simp only [PyData.eqvAll, Bool.and_eq_true, h1, h2, List.cons.injEq]
        have := key xs ys hx hy
        simp only [PyData.eqv, this, PyData.tuple.injEq]
section
open Classical
noncomputable def eqd (a b : PyData) : Bool := decide (a = b)
theorem eqv_eqd {Ns Ms : List Nat} {a b : PyData} (ha : PL Ns a = true) (hb : PL Ms b = true) : PyData.eqv a b = eqd a b := by
  unfold eqd
  rw [Bool.eq_iff_iff, eqv_pl Ns Ms a b ha hb, decide_eq_true_eq]
theorem eqd_self (a : PyData) : eqd a a = true := decide_eq_true rfl
theorem eqd_ne {a b : PyData} (h : a ≠ b) : eqd a b = false := decide_eq_false h
end
theorem fEq_pl {Ns Ms : List Nat} {a b : PyData} (ha : PL Ns a = true) (hb : PL Ms b = true) (hn : Ns.length ≤ 100) : fEq a b = rbl (eqd a b) := by
  have h1 := plf Ns a ha
  have h2 := plf Ms b hb
  have h3 : eqOk a b = true := by
    unfold eqOk
    simp only [Bool.and_eq_true, decide_eq_true_eq]
    exact ⟨⟨h1.lay, h2.lay⟩, by have := h1.dep; omega⟩
  unfold fEq
  split
  · rw [← eqv_eqd ha hb]
    simp only [PyData.eqv]
    rfl
  · rw [if_pos h3, eqv_eqd ha hb]
theorem fNe_pl {Ns Ms : List Nat} {a b : PyData} (ha : PL Ns a = true) (hb : PL Ms b = true) (hn : Ns.length ≤ 100) : fNe a b = rbl (!eqd a b) := by
  have h1 := plf Ns a ha
  have h2 := plf Ms b hb
  have h3 : eqOk a b = true := by
    unfold eqOk
    simp only [Bool.and_eq_true, decide_eq_true_eq]
    exact ⟨⟨h1.lay, h2.lay⟩, by have := h1.dep; omega⟩
  unfold fNe
  split
  · rw [← eqv_eqd ha hb]
    simp only [PyData.eqv]
    rfl
  · rw [if_pos h3, eqv_eqd ha hb]
/-- two lists of such -/
theorem eqL_pl {Ns Ms : List Nat} {xs ys : List PyData} (hx : ∀ x ∈ xs, PL Ns x = true) (hy : ∀ y ∈ ys, PL Ms y = true) (hn : Ns.length ≤ 100) :
    fEq (.list xs) (.list ys) = rbl (eqd (.tuple xs) (.tuple ys)) ∧ fNe (.list xs) (.list ys) = rbl (!eqd (.tuple xs) (.tuple ys)) := by
  have ha : PL (xs.length :: Ns) (.tuple xs) = true := by simp [PL]; exact hx
  have hb : PL (ys.length :: Ms) (.tuple ys) = true := by simp [PL]; exact hy
  have h1 := plf _ _ ha
  have h2 := plf _ _ hb
  have h3 : eqOk (.list xs) (.list ys) = true := by
    unfold eqOk
    simp only [Bool.and_eq_true, decide_eq_true_eq]
    refine ⟨⟨h1.lay, h2.lay⟩, ?_⟩
    have := h1.dep
    simp only [PyData.depth, List.length_cons] at this ⊢
    omega
  have h4 : PyData.eqv (.list xs) (.list ys) = eqd (.tuple xs) (.tuple ys) := by
    rw [← eqv_eqd ha hb]
    simp [PyData.eqv]
  constructor
  · show (if eqOk _ _ then _ else _) = _
    rw [if_pos h3, h4]
  · show (if eqOk _ _ then _ else _) = _
    rw [if_pos h3, h4]
theorem inOk_pl {Ns Ms : List Nat} {d : PyData} {xs : List PyData} (hd : PL Ns d = true) (hx : ∀ x ∈ xs, PL Ms x = true) (hn : Ns.length ≤ 100) : inOk d xs = true ∧ (xs.any fun y => PyData.eqv y d) = xs.any fun y => eqd y d := by
  have h1 := plf Ns d hd
  have h2 := plf_all hx
  refine ⟨?_, ?_⟩
  · unfold inOk
    simp only [Bool.and_eq_true, decide_eq_true_eq]
    exact ⟨⟨h2.1, h1.lay⟩, by have := h1.dep; omega⟩
  · rw [Bool.eq_iff_iff, List.any_eq_true, List.any_eq_true]
    constructor
    · rintro ⟨y, hy, e⟩
      exact ⟨y, hy, by rw [← eqv_eqd (hx y hy) hd]; exact e⟩
    · rintro ⟨y, hy, e⟩
      exact ⟨y, hy, by rw [eqv_eqd (hx y hy) hd]; exact e⟩
theorem any_eqd {d : PyData} {xs : List PyData} [Decidable (d ∈ xs)] : (xs.any fun y => eqd y d) = decide (d ∈ xs) := by
  rw [Bool.eq_iff_iff, List.any_eq_true, decide_eq_true_eq]
  constructor
  · rintro ⟨y, hy, e⟩
    have e' : y = d := @of_decide_eq_true _ (Classical.propDecidable _) e
    subst e'
    exact hy
  · intro h
    exact ⟨d, h, eqd_self d⟩
/-- x in xs -/
theorem fIn_pl {Ns Ms : List Nat} {d : PyData} {xs : List PyData} (hd : PL Ns d = true) (hx : ∀ x ∈ xs, PL Ms x = true) (hn : Ns.length ≤ 100) [Decidable (d ∈ xs)] :
    fIn false d (.list xs) = rbl (decide (d ∈ xs)) ∧ fIn true d (.list xs) = rbl (!decide (d ∈ xs)) ∧ fIn false d (.tuple xs) = rbl (decide (d ∈ xs)) ∧ fIn true d (.tuple xs) = rbl (!decide (d ∈ xs)) := by
  obtain ⟨h1, h2⟩ := inOk_pl hd hx hn
  rw [any_eqd] at h2
  have h3 : (!xs.any fun y => PyData.eqv y d) = !decide (d ∈ xs) := by rw [h2]
  refine ⟨?_, ?_, ?_, ?_⟩ <;> simp [fIn, h1, h2]
theorem placeOf_pl {Ns Ms : List Nat} {d : PyData} (hd : PL Ns d = true) : ∀ {pre post : List PyData}, (∀ x ∈ pre, PL Ms x = true) → d ∉ pre → placeOf d (pre ++ d :: post) = some pre.length
  | [], post, _, _ => by
    simp [placeOf, eqv_eqd hd hd, eqd_self]
  | y :: pre, post, h, hn => by
    have h1 : PyData.eqv y d = false := by
      rw [eqv_eqd (h y List.mem_cons_self) hd]
      exact eqd_ne fun e => hn (by subst e; exact List.mem_cons_self)
    have h2 := placeOf_pl hd (pre := pre) (post := post) (fun x hx => h x (List.mem_cons_of_mem _ hx)) (fun e => hn (List.mem_cons_of_mem _ e))
    simp [placeOf, h1, h2]
theorem shaped_pl {Ns : List Nat} {d : PyData} (hd : PL Ns d = true) (hn : Ns.length ≤ 60) : SeqAt.shaped d = true := by
  have h := plf Ns d hd
  unfold SeqAt.shaped
  simp only [Bool.and_eq_true, decide_eq_true_eq]
  exact ⟨h.lay, by have := h.dep; omega⟩
theorem shapedL_pl {Ns : List Nat} {xs : List PyData} (hd : ∀ x ∈ xs, PL Ns x = true) (hn : Ns.length ≤ 60) : SeqAt.shaped (.list xs) = true := by
  have h := plf_all hd
  unfold SeqAt.shaped
  simp only [Bool.and_eq_true, decide_eq_true_eq]
  exact ⟨h.1, by have := h.2; simp only [PyData.depth]; omega⟩
/-- repr -/
theorem fRepr_pl {Ns : List Nat} {ds : List PyData} (hd : PL Ns (.tuple ds) = true) (hn : Ns.length ≤ 60) (hw : wb Ns ≤ 16777216) : fRepr [.tuple ds] = dv (.str (PyData.shown (.tuple ds))) := by
  have h := plf Ns _ hd
  have h1 : shOk (.tuple ds) = true := by
    unfold shOk
    simp only [Bool.and_eq_true, decide_eq_true_eq, Bool.not_eq_true']
    exact ⟨⟨⟨h.sh, h.nd⟩, by have := h.dep; omega⟩, Nat.le_trans h.len hw⟩
  simp only [fRepr, h1, if_true]
end PV

set_option maxRecDepth 100000
set_option maxHeartbeats 1000000
/-! how the evaluator's terms compute -/
namespace PV
open PySem
/-- what comes next: an instance, that simp leaves it alone until its value is known -/
class Kt (α β : Type) where
  k : α → Option β
def bI {α β : Type} (a : Option α) [κ : Kt α β] : Option β := a.bind κ.k
@[simp ↓ high] theorem obs {α β : Type} {a : α} {f : α → Option β} : @bI α β (some a) ⟨f⟩ = f a := id rfl
def seqK (g : DenS) : Fl → Option Fl
  | .nx ρ' M' => g ρ' M'
  | y => some y
@[simp low] theorem x_sSeq {f g : DenS} {ρ : Env} {M : Sto} : sSeq f g ρ M = @bI _ _ (f ρ M) ⟨seqK g⟩ := by
  unfold sSeq
  congr 1
@[simp low] theorem x_seqK1 {g : DenS} {ρ : Env} {M : Sto} : seqK g (.nx ρ M) = g ρ M := id rfl
@[simp low] theorem x_seqK2 {g : DenS} {r : Res} {M : Sto} : seqK g (.ret r M) = some (.ret r M) := id rfl
@[simp low] theorem x_seqK3 {g : DenS} {ρ : Env} {M : Sto} : seqK g (.brk ρ M) = some (.brk ρ M) := id rfl
@[simp low] theorem x_sRet {f : Den} {ρ : Env} {M : Sto} : sRet f ρ M = (@bI _ _ (f ρ M) ⟨fun p => some (.ret p.1 p.2)⟩) := id rfl
@[simp low] theorem x_sIf {c : Den} {f g : DenS} {ρ : Env} {M : Sto} : sIf c f g ρ M = (@bI _ _ (c ρ M) ⟨fun p => @bI _ _ (asB p.1) ⟨fun b => if b then f ρ p.2 else g ρ p.2⟩⟩) := id rfl
@[simp low] theorem x_sSet {i : Nat} {m : Bool} {f : Den} {ρ : Env} {M : Sto} : sSet i m f ρ M = (@bI _ _ (valm m f ρ M) ⟨fun p => some (.nx (ρ.set i (some p.1)) p.2)⟩) := id rfl
@[simp low] theorem x_sPar {i j : Nat} {m n : Bool} {f g : Den} {ρ : Env} {M : Sto} : sPar i j m n f g ρ M = (@bI _ _ (valm m f ρ M) ⟨fun p => @bI _ _ (valm n g ρ p.2) ⟨fun q => some (.nx ((ρ.set i (some p.1)).set j (some q.1)) q.2)⟩⟩) := id rfl
@[simp low] theorem x_sUnp {is : List Nat} {f : Den} {ρ : Env} {M : Sto} : sUnp is f ρ M = (@bI _ _ (val f ρ M) ⟨fun p => @bI _ _ (datum p.1) ⟨fun d => @bI _ _ (tgo (.tp is) ρ (d, true)) ⟨fun ρ' => some (.nx ρ' p.2)⟩⟩⟩) := id rfl
@[simp low] theorem x_sExpr {f : Den} {ρ : Env} {M : Sto} : sExpr f ρ M = (@bI _ _ (f ρ M) ⟨fun p => some (.nx ρ p.2)⟩) := id rfl
@[simp low] theorem x_sPut {fo fi f : Den} {ρ : Env} {M : Sto} : sPut fo fi f ρ M = (@bI _ _ (val f ρ M) ⟨fun p => @bI _ _ (val fo ρ p.2) ⟨fun q => @bI _ _ (val fi ρ q.2) ⟨fun t => @bI _ _ (putAt q.1 t.1 p.1 t.2) ⟨fun M' => some (.nx ρ M')⟩⟩⟩⟩) := id rfl
@[simp low] theorem x_sFldS {c f : Str} {fo fe : Den} {ρ : Env} {M : Sto} : sFldS c f fo fe ρ M = (@bI _ _ (valm true fe ρ M) ⟨fun p => @bI _ _ (val fo ρ p.2) ⟨fun q => @bI _ _ (insOf c q.1 q.2) ⟨fun t => if t.2.length < 900 then some (.nx ρ (q.2.set t.1 (.ins c (fput f p.1 t.2)))) else none⟩⟩⟩) := id rfl
@[simp low] theorem x_sFor {it : DenI} {g : Tg} {b : DenS} {ρ : Env} {M : Sto} : sFor it g b ρ M = (@bI _ _ (it ρ M) ⟨fun p => forGo g b p.1 ρ p.2⟩) := id rfl
-- skip sWhile: whileGo c b 1000
@[simp low] theorem x_sLock {i : Nat} {f : DenS} {ρ : Env} {M : Sto} : sLock i f ρ M = (match ρ[i]? with
  | some (some (.loc k)) => (match M[k]? with
    | some (.dct kvs) => f (ρ.set i (some (.dic kvs))) (M.set k .dead)
    | _ => f ρ M)
  | _ => f ρ M) := rfl
@[simp low] theorem x_dAnd {f g : Den} {ρ : Env} {M : Sto} : dAnd f g ρ M = (@bI _ _ (f ρ M) ⟨fun p => @bI _ _ (asB p.1) ⟨fun b => if b then g ρ p.2 else some (.v (.d (.bool false)), p.2)⟩⟩) := id rfl
@[simp low] theorem x_dOr {f g : Den} {ρ : Env} {M : Sto} : dOr f g ρ M = (@bI _ _ (f ρ M) ⟨fun p => @bI _ _ (asB p.1) ⟨fun b => if b then some (.v (.d (.bool true)), p.2) else g ρ p.2⟩⟩) := id rfl
@[simp low] theorem x_dNot {f : Den} {ρ : Env} {M : Sto} : dNot f ρ M = (@bI _ _ (f ρ M) ⟨fun p => @bI _ _ (asB p.1) ⟨fun b => some (.v (.d (.bool (!b))), p.2)⟩⟩) := id rfl
@[simp low] theorem x_dIf {c f g : Den} {ρ : Env} {M : Sto} : dIf c f g ρ M = (@bI _ _ (c ρ M) ⟨fun p => @bI _ _ (asB p.1) ⟨fun b => if b then f ρ p.2 else g ρ p.2⟩⟩) := id rfl
@[simp low] theorem x_dIsi {T : String} {f : Den} {ρ : Env} {M : Sto} : dIsi T f ρ M = (@bI _ _ (val f ρ M) ⟨fun p => @bI _ _ (rd p.1 p.2) ⟨fun d => @bI _ _ (isT T d) ⟨fun b => some (.v (.d (.bool b)), p.2)⟩⟩⟩) := id rfl
@[simp low] theorem x_dVar {i : Nat} {ρ : Env} {M : Sto} : dVar i ρ M = (@bI _ _ (ρ[i]?) ⟨fun o => @bI _ _ o ⟨fun x => some (.v x, M)⟩⟩) := id rfl
@[simp low] theorem x_dC {d : PyData} {ρ : Env} {M : Sto} : dC d ρ M = (some (.v (.d d), M)) := id rfl
@[simp low] theorem x_dTup {fa : DenA} {ρ : Env} {M : Sto} : dTup fa ρ M = (@bI _ _ (fa ρ M) ⟨fun p => @bI _ _ (allD p.1) ⟨fun ds => if ds.length ≤ big then some (.v (.d (.tuple ds)), p.2) else none⟩⟩) := id rfl
@[simp low] theorem x_dLst {fa : DenA} {ρ : Env} {M : Sto} : dLst fa ρ M = (@bI _ _ (fa ρ M) ⟨fun p => @bI _ _ (allD p.1) ⟨fun ds => if ds.length ≤ big then some (.nl ds, p.2) else none⟩⟩) := id rfl
@[simp low] theorem x_dCall {n : Nat} {cp : Fun} {fa : DenA} {ρ : Env} {M : Sto} : dCall n cp fa ρ M = (@bI _ _ (fa ρ M) ⟨fun p => if p.1.length = n then cp p.1 p.2 else none⟩) := id rfl
@[simp low] theorem x_dCB {l : Bool} {F : List PyData → Option Res} {fa : DenA} {ρ : Env} {M : Sto} : dCB l F fa ρ M = (@bI _ _ (fa ρ M) ⟨fun p => @bI _ _ (rds (lk l) p.1 p.2) ⟨fun ds => @bI _ _ (F ds) ⟨fun r => some (r, p.2)⟩⟩⟩) := id rfl
@[simp low] theorem x_dBin {l : Bool} {F : PyData → PyData → Option Res} {f g : Den} {ρ : Env} {M : Sto} : dBin l F f g ρ M = (@bI _ _ (val f ρ M) ⟨fun p => @bI _ _ (val g ρ p.2) ⟨fun q => @bI _ _ (lk l p.1 q.2) ⟨fun a => @bI _ _ (rd q.1 q.2) ⟨fun b => @bI _ _ (F a b) ⟨fun r => some (r, q.2)⟩⟩⟩⟩⟩) := id rfl
@[simp low] theorem x_dUn {F : PyData → Option Res} {f : Den} {ρ : Env} {M : Sto} : dUn F f ρ M = (@bI _ _ (val f ρ M) ⟨fun p => @bI _ _ (rd p.1 p.2) ⟨fun a => @bI _ _ (F a) ⟨fun r => some (r, p.2)⟩⟩⟩) := id rfl
@[simp low] theorem x_dChain {F1 F2 : PyData → PyData → Option Res} {f g h : Den} {ρ : Env} {M : Sto} : dChain F1 F2 f g h ρ M = (@bI _ _ (val f ρ M) ⟨fun p => @bI _ _ (val g ρ p.2) ⟨fun q => @bI _ _ (rd p.1 q.2) ⟨fun a => @bI _ _ (rd q.1 q.2) ⟨fun b =>
  @bI _ _ (F1 a b) ⟨fun r => @bI _ _ (asB r) ⟨fun k => if k then @bI _ _ (val h ρ q.2) ⟨fun t => @bI _ _ (rd q.1 t.2) ⟨fun b' => @bI _ _ (rd t.1 t.2) ⟨fun c => @bI _ _ (F2 b' c) ⟨fun r' => some (r', t.2)⟩⟩⟩⟩ else some (.v (.d (.bool false)), q.2)⟩⟩⟩⟩⟩⟩) := rfl
@[simp low] theorem x_dIdx {f g : Den} {ρ : Env} {M : Sto} : dIdx f g ρ M = (@bI _ _ (val f ρ M) ⟨fun p => @bI _ _ (val g ρ p.2) ⟨fun q => match dctOf p.1 q.2 with
  | some kvs => @bI _ _ (rd q.1 q.2) ⟨fun d => @bI _ _ (asI d) ⟨fun i => @bI _ _ (look kvs i) ⟨fun z => some (.v (.d (.int z)), q.2)⟩⟩⟩
  | none => @bI _ _ (rdw p.1 q.2) ⟨fun a => @bI _ _ (rd q.1 q.2) ⟨fun b => @bI _ _ (fIdx a b) ⟨fun r => some (r, q.2)⟩⟩⟩⟩⟩) := rfl
@[simp low] theorem x_dInD {neg : Bool} {F : PyData → PyData → Option Res} {f g : Den} {ρ : Env} {M : Sto} : dInD neg F f g ρ M = (@bI _ _ (val f ρ M) ⟨fun p => @bI _ _ (val g ρ p.2) ⟨fun q => match dctOf q.1 q.2 with
  | some kvs => @bI _ _ (rd p.1 q.2) ⟨fun d => @bI _ _ (asI d) ⟨fun i => some (.v (.d (.bool (if neg then !(look kvs i).isSome else (look kvs i).isSome))), q.2)⟩⟩
  | none => @bI _ _ (rd p.1 q.2) ⟨fun a => @bI _ _ (rd q.1 q.2) ⟨fun b => @bI _ _ (F a b) ⟨fun r => some (r, q.2)⟩⟩⟩⟩⟩) := rfl
@[simp low] theorem x_dSlice {f : Den} {lo hi : Option Den} {ρ : Env} {M : Sto} : dSlice f lo hi ρ M = (@bI _ _ (val f ρ M) ⟨fun p => @bI _ _ (dPart lo ρ p.2) ⟨fun a => @bI _ _ (dPart hi ρ a.2) ⟨fun b => @bI _ _ (rd p.1 b.2) ⟨fun d => match d with
  | .list ds => some (.nl (cutD ds a.1 b.1), b.2)
  | .tuple ds => some (.v (.d (.tuple (cutD ds a.1 b.1))), b.2)
  | _ => none⟩⟩⟩⟩) := rfl
@[simp low] theorem x_dRev {f : Den} {ρ : Env} {M : Sto} : dRev f ρ M = (@bI _ _ (val f ρ M) ⟨fun p => @bI _ _ (rd p.1 p.2) ⟨fun d => match d with
  | .list ds => some (.nl ds.reverse, p.2)
  | .tuple ds => some (.v (.d (.tuple ds.reverse)), p.2)
  | _ => none⟩⟩) := rfl
@[simp low] theorem x_dListOf {f : Den} {ρ : Env} {M : Sto} : dListOf f ρ M = (@bI _ _ (val f ρ M) ⟨fun p => match dctOf p.1 p.2 with
  | some kvs => some (.nl (kvs.map fun kv => PyData.int kv.1), p.2)
  | none => @bI _ _ (rd p.1 p.2) ⟨fun d => @bI _ _ (fList [d]) ⟨fun r => some (r, p.2)⟩⟩⟩) := rfl
@[simp low] theorem x_dTupRg {f : Den} {ρ : Env} {M : Sto} : dTupRg f ρ M = (@bI _ _ (val f ρ M) ⟨fun p => @bI _ _ (rd p.1 p.2) ⟨fun d => @bI _ _ (asI d) ⟨fun j => if small j then some (.v (.d (.tuple ((List.range j.toNat).map fun i : Nat => PyData.int i))), p.2) else none⟩⟩⟩) := id rfl
@[simp low] theorem x_dA0  {ρ : Env} {M : Sto} : dA0  ρ M = (some ([], M)) := id rfl
@[simp low] theorem x_dA1 {f : Den} {g : DenA} {ρ : Env} {M : Sto} : dA1 f g ρ M = (@bI _ _ (val f ρ M) ⟨fun p => @bI _ _ (g ρ p.2) ⟨fun q => some (p.1 :: q.1, q.2)⟩⟩) := id rfl
@[simp low] theorem x_val {f : Den} {ρ : Env} {M : Sto} : val f ρ M = (@bI _ _ (f ρ M) ⟨fun p => some (settle p.1 p.2)⟩) := id rfl
@[simp low] theorem x_valm {m : Bool} {f : Den} {ρ : Env} {M : Sto} : valm m f ρ M = (@bI _ _ (f ρ M) ⟨fun p => some (stl m p.1 p.2)⟩) := id rfl
@[simp low] theorem x_dIter {f : Den} {ρ : Env} {M : Sto} : dIter f ρ M = (@bI _ _ (val f ρ M) ⟨fun p => iterOf p.1 p.2⟩) := id rfl
@[simp low] theorem x_dRg1 {fa : DenA} {ρ : Env} {M : Sto} : dRg1 fa ρ M = (@bI _ _ (fa ρ M) ⟨fun p => match p.1 with
  | [.d (.int j)] => if small j then some (rgUp 0 j.toNat, p.2) else none
  | _ => none⟩) := rfl
@[simp low] theorem x_dRg2 {fa : DenA} {ρ : Env} {M : Sto} : dRg2 fa ρ M = (@bI _ _ (fa ρ M) ⟨fun p => match p.1 with
  | [.d (.int i), .d (.int j)] => if small i && small j then some (rgUp i (j - i).toNat, p.2) else none
  | _ => none⟩) := rfl
@[simp low] theorem x_dRg3 {fa : DenA} {ρ : Env} {M : Sto} : dRg3 fa ρ M = (@bI _ _ (fa ρ M) ⟨fun p => match p.1 with
  | [.d (.int i), .d (.int j), .d (.int c)] => if small i && small j && decide (c = -1) then some (rgDn i (i - j).toNat, p.2) else none
  | _ => none⟩) := rfl
@[simp low] theorem x_dEnum {fa : DenA} {ρ : Env} {M : Sto} : dEnum fa ρ M = (@bI _ _ (fa ρ M) ⟨fun p => match p.1 with
  | [.d (.tuple ds)] => some (enumI 0 ds, p.2)
  | _ => none⟩) := rfl
@[simp low] theorem x_dIndex {fo : Den} {fa : DenA} {ρ : Env} {M : Sto} : dIndex fo fa ρ M = (@bI _ _ (val fo ρ M) ⟨fun p => if isTupV p.1 p.2 then @bI _ _ (fa ρ p.2) ⟨fun q => mIndexT p.1 q.1 q.2⟩ else if isListV p.1 p.2 then @bI _ _ (fa ρ p.2) ⟨fun q => mIndexL p.1 q.1 q.2⟩ else none⟩) := id rfl
@[simp low] theorem x_dDict1 {f g : Den} {ρ : Env} {M : Sto} : dDict1 f g ρ M = (@bI _ _ (val f ρ M) ⟨fun p => @bI _ _ (val g ρ p.2) ⟨fun q => @bI _ _ (rd p.1 q.2) ⟨fun k => @bI _ _ (asI k) ⟨fun i => @bI _ _ (rd q.1 q.2) ⟨fun v => @bI _ _ (asI v) ⟨fun j => some (.nd [(i, j)], q.2)⟩⟩⟩⟩⟩⟩) := id rfl
@[simp low] theorem x_dFld {c f : Str} {fo : Den} {ρ : Env} {M : Sto} : dFld c f fo ρ M = (@bI _ _ (val fo ρ M) ⟨fun p => @bI _ _ (insOf c p.1 p.2) ⟨fun q => @bI _ _ (fget q.2 f) ⟨fun x => some (.v x, p.2)⟩⟩⟩) := id rfl
@[simp low] theorem x_dMethI {c m : Str} {n : Nat} {cp : Fun} {fo : Den} {fa : DenA} {ρ : Env} {M : Sto} : dMethI c m n cp fo fa ρ M = (@bI _ _ (val fo ρ M) ⟨fun p => @bI _ _ (insOf c p.1 p.2) ⟨fun q => if (fget q.2 m).isNone then @bI _ _ (fa ρ p.2) ⟨fun t => if t.1.length + 1 = n then cp (p.1 :: t.1) t.2 else none⟩ else none⟩⟩) := id rfl
@[simp low] theorem x_dMake {c : Str} {n : Nat} {cp : Fun} {fa : DenA} {ρ : Env} {M : Sto} : dMake c n cp fa ρ M = (@bI _ _ (fa ρ M) ⟨fun p => if p.1.length + 1 = n then @bI _ _ (cp (.loc p.2.length :: p.1) (p.2 ++ [.ins c []])) ⟨fun q => if noneR q.1 then some (.v (.loc p.2.length), q.2) else none⟩ else none⟩) := id rfl
@[simp low] theorem x_dMeth {chk : Val → Sto → Bool} {m : Mth} {fo : Den} {fa : DenA} {ρ : Env} {M : Sto} : dMeth chk m fo fa ρ M = (@bI _ _ (val fo ρ M) ⟨fun p => if chk p.1 p.2 then @bI _ _ (fa ρ p.2) ⟨fun q => m p.1 q.1 q.2⟩ else none⟩) := id rfl
@[simp low] theorem x_sWhile {c : Den} {b : DenS} {ρ : Env} {M : Sto} : sWhile c b ρ M = whileGo c b 1000 ρ M := id rfl
@[simp low] theorem x_sNo {ρ : Env} {M : Sto} : sNo ρ M = none := id rfl
@[simp low] theorem x_sNil {ρ : Env} {M : Sto} : sNil ρ M = some (.nx ρ M) := id rfl
@[simp low] theorem x_sBrk {ρ : Env} {M : Sto} : sBrk ρ M = some (.brk ρ M) := id rfl
@[simp low] theorem x_dPart0 {ρ : Env} {M : Sto} : dPart none ρ M = some (none, M) := id rfl
@[simp low] theorem x_dPart1 {f : Den} {ρ : Env} {M : Sto} : dPart (some f) ρ M = (@bI _ _ (val f ρ M) ⟨fun p => @bI _ _ (rd p.1 p.2) ⟨fun d => @bI _ _ (asI d) ⟨fun i => some (some i, p.2)⟩⟩⟩) := id rfl
@[simp] theorem x_settle1 {x : Val} {M : Sto} : settle (.v x) M = (x, M) := id rfl
@[simp] theorem x_settle2 {xs : List PyData} {M : Sto} : settle (.nl xs) M = (.d (.list xs), M) := id rfl
@[simp] theorem x_settle3 {xs : List (Int × Int)} {M : Sto} : settle (.nd xs) M = (.loc M.length, M ++ [.dct xs]) := id rfl
@[simp] theorem x_stl1 {m : Bool} {x : Val} {M : Sto} : stl m (.v x) M = (x, M) := id rfl
@[simp] theorem x_stl2 {xs : List PyData} {M : Sto} : stl false (.nl xs) M = (.d (.list xs), M) := id rfl
@[simp] theorem x_stl2t {xs : List PyData} {M : Sto} : stl true (.nl xs) M = (.loc M.length, M ++ [.lst xs]) := id rfl
@[simp] theorem x_stl3 {m : Bool} {xs : List (Int × Int)} {M : Sto} : stl m (.nd xs) M = (.loc M.length, M ++ [.dct xs]) := id rfl
@[simp] theorem x_rd1 {d : PyData} {M : Sto} : rd (.d d) M = some d := id rfl
@[simp] theorem x_rd2 {k : Nat} {M : Sto} {xs : List PyData} (h : M[k]? = some (.lst xs)) : rd (.loc k) M = some (.list xs) := by simp only [rd, h]
@[simp] theorem x_rdw1 {d : PyData} {M : Sto} : rdw (.d d) M = some d := id rfl
@[simp] theorem x_rdw2 {k : Nat} {M : Sto} : rdw (.loc k) M = rd (.loc k) M := id rfl
@[simp] theorem x_rdw3 {d : List PyData} {M : Sto} : rdw (.scr d) M = some (.list d) := id rfl
@[simp] theorem x_lkf : lk false = rd := id rfl
@[simp] theorem x_lkt : lk true = rdw := id rfl
@[simp] theorem x_rds0 {R : Val → Sto → Option PyData} {M : Sto} : rds R [] M = some [] := id rfl
@[simp] theorem x_rds1 {R : Val → Sto → Option PyData} {M : Sto} {x : Val} {xs : List Val} : rds R (x :: xs) M = (@bI _ _ (R x M) ⟨fun d => @bI _ _ (rds R xs M) ⟨fun ds => some (d :: ds)⟩⟩) := id rfl
@[simp] theorem x_asB {b : Bool} : asB (.v (.d (.bool b))) = some b := id rfl
@[simp] theorem x_asI {b : Int} : asI (.int b) = some b := id rfl
@[simp] theorem x_allD0 : allD [] = some [] := id rfl
@[simp] theorem x_allD1 {x : PyData} {r : List Val} : allD (.d x :: r) = (@bI _ _ (allD r) ⟨fun ds => some (x :: ds)⟩) := id rfl
@[simp] theorem x_tgo1 {i : Nat} {ρ : Env} {x : PyData} : tgo (.nm i) ρ (x, true) = some (ρ.set i (some (.d x))) := id rfl
@[simp] theorem x_tgo2 {is : List Nat} {ρ : Env} {ds : List PyData} {b : Bool} : tgo (.tp is) ρ (.tuple ds, b) = (if ds.length = is.length then some (setAll ρ is ds) else none) := id rfl
@[simp] theorem x_datum {x : PyData} : datum (.d x) = some x := id rfl
@[simp] theorem x_iter1 {xs : List PyData} {M : Sto} : iterOf (.d (.list xs)) M = some (okI xs, M) := id rfl
@[simp] theorem x_iter2 {xs : List PyData} {M : Sto} : iterOf (.d (.tuple xs)) M = some (okI xs, M) := id rfl
@[simp] theorem x_iter3 {kvs : List (Int × Int)} {M : Sto} : iterOf (.dic kvs) M = some (okI (kvs.map fun kv => PyData.int kv.1), M) := id rfl
@[simp] theorem x_iter4 {k : Nat} {M : Sto} {xs : List PyData} (h : M[k]? = some (.lst xs)) : iterOf (.loc k) M = some (okI xs, M.set k .dead) := by simp only [iterOf, h]
@[simp] theorem x_dct1 {d : PyData} {M : Sto} : dctOf (.d d) M = none := id rfl
@[simp] theorem x_dct2 {d : List PyData} {M : Sto} : dctOf (.scr d) M = none := id rfl
@[simp] theorem x_dct3 {k : Nat} {M : Sto} {kvs : List (Int × Int)} (h : M[k]? = some (.dct kvs)) : dctOf (.loc k) M = some kvs := by simp only [dctOf, h]
@[simp] theorem x_dct4 {k : Nat} {M : Sto} {xs : List PyData} (h : M[k]? = some (.lst xs)) : dctOf (.loc k) M = none := by simp only [dctOf, h]
@[simp] theorem x_dct5 {kvs : List (Int × Int)} {M : Sto} : dctOf (.dic kvs) M = some kvs := id rfl
@[simp] theorem x_isl1 {xs : List PyData} {M : Sto} : isTupV (.d (.tuple xs)) M = true := id rfl
@[simp] theorem x_isl2 {xs : List PyData} {M : Sto} : isTupV (.d (.list xs)) M = false := id rfl
@[simp] theorem x_isl3 {k : Nat} {M : Sto} : isTupV (.loc k) M = false := id rfl
@[simp] theorem x_isl4 {xs : List PyData} {M : Sto} : isListV (.d (.list xs)) M = true := id rfl
@[simp] theorem x_isl5 {k : Nat} {M : Sto} {xs : List PyData} (h : M[k]? = some (.lst xs)) : isListV (.loc k) M = true := by simp only [isListV, x_rd2 h]
@[simp] theorem x_isloc {k : Nat} {M : Sto} {xs : List PyData} (h : M[k]? = some (.lst xs)) : isLoc (.loc k) M = true := by simp only [isLoc, h]
@[simp] theorem x_append {k : Nat} {M : Sto} {xs : List PyData} {y : PyData} (h : M[k]? = some (.lst xs)) : mAppend (.loc k) [.d y] M = if xs.length < big then some (.v (.d .none), M.set k (.lst (xs ++ [y]))) else none := by simp only [mAppend, h]
@[simp] theorem x_extend {k : Nat} {M : Sto} {xs ys : List PyData} (h : M[k]? = some (.lst xs)) : mExtend (.loc k) [.d (.list ys)] M = if xs.length + ys.length ≤ big then some (.v (.d .none), M.set k (.lst (xs ++ ys))) else none := by simp only [mExtend, h]
@[simp] theorem x_insOf {c : Str} {k : Nat} {M : Sto} {fs : List (Str × Val)} (h : M[k]? = some (.ins c fs)) : insOf c (.loc k) M = some (k, fs) := by simp only [insOf, h, if_true]
@[simp] theorem x_fAddI {i j : Int} : fAdd (.int i) (.int j) = rint (i + j) := id rfl
@[simp] theorem x_fAddT {i j : List PyData} : fAdd (.tuple i) (.tuple j) = if i.length + j.length ≤ big then dv (.tuple (i ++ j)) else none := id rfl
@[simp] theorem x_fAddL {i j : List PyData} : fAdd (.list i) (.list j) = if i.length + j.length ≤ big then some (.nl (i ++ j)) else none := id rfl
@[simp] theorem x_fSub {i j : Int} : fSub (.int i) (.int j) = rint (i - j) := id rfl
@[simp] theorem x_fMul {i j : Int} : fMul (.int i) (.int j) = if mulOk i || mulOk j then rint (i * j) else none := id rfl
@[simp] theorem x_fFdiv {i j : Int} : fFdiv (.int i) (.int j) = if decide (0 < j) && decide (j < 1073741824) then rint (i / j) else none := id rfl
@[simp] theorem x_fMod {i j : Int} : fMod (.int i) (.int j) = if decide (0 < j) then rint (i % j) else none := id rfl
@[simp] theorem x_fPow {i j : Int} : fPow (.int i) (.int j) = if decide (0 ≤ j) && decide (j ≤ 1000000) && decide (i.natAbs < 2 ^ 64) then rint (i ^ j.toNat) else none := id rfl
@[simp] theorem x_fNeg {i : Int} : fNeg (.int i) = rint (-i) := id rfl
@[simp] theorem x_fLt {i j : Int} : fLt (.int i) (.int j) = rbl (decide (i < j)) := id rfl
@[simp] theorem x_fLe {i j : Int} : fLe (.int i) (.int j) = rbl (decide (i ≤ j)) := id rfl
@[simp] theorem x_fGt {i j : Int} : fGt (.int i) (.int j) = rbl (decide (j < i)) := id rfl
@[simp] theorem x_fGe {i j : Int} : fGe (.int i) (.int j) = rbl (decide (j ≤ i)) := id rfl
@[simp] theorem x_fEqS {i j : Str} : fEq (.str i) (.str j) = rbl (decide (i = j)) := id rfl
@[simp] theorem x_fNeS {i j : Str} : fNe (.str i) (.str j) = rbl (!decide (i = j)) := id rfl
@[simp] theorem x_fIsN {b : Bool} {d : PyData} : fIs b d .none = rbl (if b then !isNone d else isNone d) := by cases d <;> rfl
@[simp] theorem x_fIsB {b x y : Bool} : fIs b (.bool x) (.bool y) = rbl (if b then !decide (x = y) else decide (x = y)) := id rfl
@[simp] theorem x_in1 : isNone .none = true := id rfl
@[simp] theorem x_in2 {i : Int} : isNone (.int i) = false := id rfl
@[simp] theorem x_in3 {i : List PyData} : isNone (.tuple i) = false := id rfl
@[simp] theorem x_rint {i : Int} : rint i = some (.v (.d (.int i))) := id rfl
@[simp] theorem x_rbl {i : Bool} : rbl i = some (.v (.d (.bool i))) := id rfl
@[simp] theorem x_dv {i : PyData} : dv i = some (.v (.d i)) := id rfl
@[simp] theorem x_fLenL {i : List PyData} : fLen [.list i] = rint i.length := id rfl
@[simp] theorem x_fLenT {i : List PyData} : fLen [.tuple i] = rint i.length := id rfl
@[simp] theorem x_fTupL {i : List PyData} : fTuple [.list i] = dv (.tuple i) := id rfl
@[simp] theorem x_fTupT {i : List PyData} : fTuple [.tuple i] = dv (.tuple i) := id rfl
@[simp] theorem x_fListL {i : List PyData} : fList [.list i] = some (.nl i) := id rfl
@[simp] theorem x_fListT {i : List PyData} : fList [.tuple i] = some (.nl i) := id rfl
@[simp] theorem x_fMax2 {i j : Int} : fMax [.int i, .int j] = rint (if j > i then j else i) := id rfl
@[simp] theorem x_fMin2 {i j : Int} : fMin [.int i, .int j] = rint (if j < i then j else i) := id rfl
@[simp] theorem x_fInt {i : Int} : fInt [.int i] = rint i := id rfl
@[simp] theorem x_fIntB {i : Bool} : fInt [.bool i] = rint (if i then 1 else 0) := id rfl
@[simp low] theorem x_fIdxT {ds : List PyData} {i : Int} : fIdx (.tuple ds) (.int i) = (L2.atI ds i).bind dv := id rfl
@[simp low] theorem x_fIdxL {ds : List PyData} {i : Int} : fIdx (.list ds) (.int i) = (L2.atI ds i).bind dv := id rfl
@[simp] theorem x_big : big = 100000 := id rfl
@[simp] theorem x_wipe0 {ρ : Env} : wipeE ρ [] = ρ := id rfl
@[simp] theorem x_wipe1 {ρ : Env} {v : Nat} {vs : List Nat} : wipeE ρ (v :: vs) = (wipeE ρ vs).set v none := id rfl
@[simp] theorem x_setAll0 {ρ : Env} : setAll ρ [] [] = ρ := id rfl
@[simp] theorem x_setAll1 {ρ : Env} {i : Nat} {is : List Nat} {d : PyData} {ds : List PyData} : setAll ρ (i :: is) (d :: ds) = setAll (ρ.set i (some (.d d))) is ds := id rfl
@[simp] theorem x_isTt {d : List PyData} : isT "tuple" (.tuple d) = some true := by simp [isT, tyName]
@[simp] theorem x_isTi {i : Int} : isT "int" (.int i) = some true := by simp [isT, tyName]
@[simp] theorem x_isTb {i : Int} : isT "bool" (.int i) = some false := by simp [isT, tyName]
theorem endD (M : Sto) (d : PyData) : endFn M.length (.v (.d d)) M = some (.v (.d d), M) := by
  unfold endFn
  split
  · simp [endRes]
  · rfl
/-- a store whose instances know only what stands in it -/
def Cl (M : Sto) : Prop := clean M.length M = true
theorem endApp {M cs : Sto} (h : Cl M) (d : PyData) : endFn M.length (.v (.d d)) (M ++ cs) = some (.v (.d d), M) := by
  unfold endFn Cl clean at *
  rw [List.take_left]
  rw [List.take_length] at h
  rw [if_pos h]
  simp [endRes]
theorem cl_app {M cs : Sto} (h : Cl M) (hc : cs.all (celIn (M.length + cs.length)) = true) : Cl (M ++ cs) := by
  unfold Cl clean at *
  rw [List.take_length] at h ⊢
  rw [List.all_append, List.length_append, hc, Bool.and_true]
  rw [List.all_eq_true] at h ⊢
  intro c hm
  have h1 := h c hm
  cases c with
  | ins cn fs =>
    simp only [celIn, List.all_eq_true] at h1 ⊢
    intro p hp
    have h2 := h1 p hp
    cases hv : p.2 with
    | loc k =>
      rw [hv] at h2
      simp only [locIn, decide_eq_true_eq] at h2 ⊢
      omega
    | d _ => rfl
    | scr _ => rfl
    | dic _ => rfl
    | fn _ => rfl
  | lst _ => rfl
  | dct _ => rfl
  | dead => rfl
theorem cl_nil : Cl [] := rfl
theorem atI_nat {α : Type} (xs : List α) (k : Nat) (h : k < xs.length) : L2.atI xs (k : Int) = some xs[k] := by
  unfold L2.atI L2.ixN
  simp [h]
theorem atI_last {α : Type} (xs : List α) (h : 0 < xs.length) : L2.atI xs (-1) = xs[xs.length - 1]? := by
  unfold L2.atI L2.ixN
  rw [if_neg (by omega), if_pos (by omega)]
  show xs[((-1 : Int) + xs.length).toNat]? = _
  congr 1
  omega
theorem okI_fst (ds : List PyData) : (okI ds).map (·.1) = ds := by
  unfold okI
  rw [List.map_map]
  exact List.map_id _
theorem boolsOf_map (bs : List Bool) : boolsOf (bs.map PyData.bool) = some bs := by
  induction bs with
  | nil => rfl
  | cons b r ih => simp [boolsOf, ih]
theorem L_is_whole (k : Nat) (i : Int) (M : Sto) : CP (k + 1) i_is_whole [.d (.int i)] M = some (.v (.d (.bool true)), M) := by
  rw [c_is_whole]
  simp [b_is_whole, runFn, env0, endD]
theorem L_is_between (k : Nat) (i a b : Int) (M : Sto) : CP (k + 2) i_is_between [.d (.int i), .d (.int a), .d (.int b)] M = some (.v (.d (.bool (decide (a ≤ i) && decide (i ≤ b)))), M) := by
  rw [c_is_between]
  simp [b_is_between, runFn, env0, endD, L_is_whole]
  by_cases h : a ≤ i <;> simp [h, endD]
theorem L_is_below (k : Nat) (i b : Int) (M : Sto) : CP (k + 3) i_is_below [.d (.int i), .d (.int b)] M = some (.v (.d (.bool (decide (0 ≤ i) && decide (i ≤ b - 1)))), M) := by
  rw [c_is_below]
  simp [b_is_below, runFn, env0, endD, L_is_between]
theorem L_is_tuple_of (k : Nat) (ds : List PyData) (a b : Int) (M : Sto) : CP (k + 1) i_is_tuple_of [.d (.tuple ds), .d (.int a), .d (.int b)] M = some (.v (.d (.bool (decide (a ≤ ds.length) && decide ((ds.length : Int) ≤ b)))), M) := by
  rw [c_is_tuple_of]
  simp [b_is_tuple_of, runFn, env0, endD]
  by_cases h : a ≤ (ds.length : Int) <;> simp [h, endD]
end PV

set_option maxRecDepth 100000
set_option maxHeartbeats 1000000
/-! loops and comprehensions, for any data -/
namespace PV
open PySem
section
variable {α : Type}
theorem at0 (a : α) (l : List α) : L2.atI (a :: l) 0 = some a := by simp [L2.atI, L2.ixN]
theorem at1 (a b : α) (l : List α) : L2.atI (a :: b :: l) 1 = some b := by
  unfold L2.atI L2.ixN
  rw [if_pos (by omega), if_pos (by simp only [List.length_cons]; omega)]
  rfl
theorem at2 (a b c : α) (l : List α) : L2.atI (a :: b :: c :: l) 2 = some c := by
  unfold L2.atI L2.ixN
  rw [if_pos (by omega), if_pos (by simp only [List.length_cons]; omega)]
  rfl
theorem at3 (a b c d : α) (l : List α) : L2.atI (a :: b :: c :: d :: l) 3 = some d := by
  unfold L2.atI L2.ixN
  rw [if_pos (by omega), if_pos (by simp only [List.length_cons]; omega)]
  rfl
theorem at4 (a b c d e : α) (l : List α) : L2.atI (a :: b :: c :: d :: e :: l) 4 = some e := by
  unfold L2.atI L2.ixN
  rw [if_pos (by omega), if_pos (by simp only [List.length_cons]; omega)]
  rfl
theorem atMR (f : Nat → α) {n i : Nat} (h : i < n) : L2.atI ((List.range n).map f) (i : Int) = some (f i) := by
  rw [atI_nat _ _ (by simpa using h)]
  simp
theorem at_last (l : List α) (a : α) : L2.atI (l ++ [a]) (-1) = some a := by
  rw [atI_last _ (by simp)]
  simp
theorem atN {l : List α} {i : Nat} {a : α} (h : l[i]? = some a) : L2.atI l (i : Int) = some a := by
  obtain ⟨h1, h2⟩ := List.getElem?_eq_some_iff.mp h
  rw [atI_nat _ _ h1, h2]
end
theorem small_nat {n : Nat} (h : n ≤ 1000000) : small (n : Int) = true := by
  unfold small
  simp only [Bool.and_eq_true, decide_eq_true_eq]
  omega
abbrev iD (i : Nat) : PyData := .int (i : Int)
abbrev ND (l : List Nat) : PyData := .tuple (l.map iD)
abbrev dR (d : PyData) (M : Sto) : Option (Res × Sto) := some (.v (.d d), M)
theorem rg0 (n : Nat) : rgUp 0 n = okI ((List.range n).map iD) := by
  unfold rgUp okI
  rw [List.map_map]
  congr 1
  funext i
  simp [iD]
theorem rgA (a n : Nat) : rgUp (a : Int) n = okI ((List.range' a n).map iD) := by
  unfold rgUp okI
  rw [List.map_map, List.range'_eq_map_range, List.map_map]
  congr 1
theorem boolsM {α : Type} (l : List α) (p : α → Bool) : boolsOf (l.map fun a => PyData.bool (p a)) = some (l.map p) := by
  induction l with
  | nil => rfl
  | cons a r ih => simp [boolsOf, ih]
theorem intsM {α : Type} (l : List α) (p : α → Int) : intsOf (l.map fun a => PyData.int (p a)) = some (l.map p) := by
  induction l with
  | nil => rfl
  | cons a r ih => simp [intsOf, ih]
section
variable {α : Type} {g : Tg} {tt te : Den} {it : DenI} {vs : List Nat} {ρ : Env} {M M' : Sto}
theorem compF (c : α → Item) (R : α → Env) (p : α → Bool) (F : α → PyData) : ∀ (l : List α) (acc : List PyData), acc.length + l.length ≤ big → (∀ a ∈ l, tgo g ρ (c a) = some (R a)) → (∀ a ∈ l, tt (R a) M = dR (.bool (p a)) M) →
    (∀ a ∈ l, p a = true → val te (R a) M = some (.d (F a), M)) → compGo g tt te ρ (l.map c) M acc = some (acc ++ (l.filter p).map F, M)
  | [], acc, _, _, _, _ => by simp [compGo]
  | a :: r, acc, hz, h1, h2, h3 => by
    simp only [List.length_cons] at hz
    have ih := fun acc hz => compF c R p F r acc hz (fun b hb => h1 b (List.mem_cons_of_mem _ hb)) (fun b hb => h2 b (List.mem_cons_of_mem _ hb)) (fun b hb => h3 b (List.mem_cons_of_mem _ hb))
    rw [List.map_cons]
    unfold compGo
    rw [h1 a List.mem_cons_self]
    show ((tt (R a) M).bind _) = _
    rw [h2 a List.mem_cons_self]
    show (if p a = true then _ else _) = _
    by_cases hp : p a = true
    · rw [if_pos hp, h3 a List.mem_cons_self hp]
      show (if acc.length < big then _ else none) = _
      rw [if_pos (by omega), ih _ (by rw [List.length_append, List.length_singleton]; omega)]
      simp [hp]
    · rw [if_neg hp, ih _ (by omega)]
      simp [hp]
theorem lcG (l : List α) (c : α → Item) (R : α → Env) (p : α → Bool) (F : α → PyData) (hit : it ρ M = some (l.map c, M')) (hz : l.length ≤ big) (h1 : ∀ a ∈ l, tgo g (wipeE ρ vs) (c a) = some (R a)) (h2 : ∀ a ∈ l, tt (R a) M' = dR (.bool (p a)) M')
    (h3 : ∀ a ∈ l, p a = true → val te (R a) M' = some (.d (F a), M')) : dLc it g tt te vs ρ M = some (.nl ((l.filter p).map F), M') := by
  unfold dLc
  rw [hit]
  show ((compGo g tt te (wipeE ρ vs) (l.map c) M' []).bind _) = _
  rw [compF c R p F l [] (by simpa using hz) h1 h2 h3]
  rfl
/-- [F for i in l if p] -/
theorem lcF {i : Nat} (l : List α) (c : α → PyData) (p : α → Bool) (F : α → PyData) (hit : it ρ M = some (okI (l.map c), M')) (hz : l.length ≤ big) (h2 : ∀ a ∈ l, tt ((wipeE ρ vs).set i (some (.d (c a)))) M' = dR (.bool (p a)) M')
    (h3 : ∀ a ∈ l, p a = true → val te ((wipeE ρ vs).set i (some (.d (c a)))) M' = some (.d (F a), M')) : dLc it (.nm i) tt te vs ρ M = some (.nl ((l.filter p).map F), M') :=
  lcG l (fun a => (c a, true)) (fun a => (wipeE ρ vs).set i (some (.d (c a)))) p F (by rw [hit]; unfold okI; rw [List.map_map]; rfl) hz (fun _ _ => rfl) h2 h3
theorem lcM {i : Nat} (l : List α) (c : α → PyData) (F : α → PyData) (hit : it ρ M = some (okI (l.map c), M')) (hz : l.length ≤ big)
    (h3 : ∀ a ∈ l, val te ((wipeE ρ vs).set i (some (.d (c a)))) M' = some (.d (F a), M')) : dLc it (.nm i) (dC (.bool true)) te vs ρ M = some (.nl (l.map F), M') := by
  have := lcF (tt := dC (.bool true)) l c (fun _ => true) F hit hz (fun _ _ => rfl) (fun a ha _ => h3 a ha)
  rwa [List.filter_eq_self.mpr (fun _ _ => rfl)] at this
/-- [F for i, j in l if p] -/
theorem lcF2 {i j : Nat} {bt : Bool} (l : List α) (c1 c2 : α → PyData) (p : α → Bool) (F : α → PyData) (hit : it ρ M = some (l.map (fun a => (.tuple [c1 a, c2 a], bt)), M')) (hz : l.length ≤ big)
    (h2 : ∀ a ∈ l, tt (((wipeE ρ vs).set i (some (.d (c1 a)))).set j (some (.d (c2 a)))) M' = dR (.bool (p a)) M')
    (h3 : ∀ a ∈ l, p a = true → val te (((wipeE ρ vs).set i (some (.d (c1 a)))).set j (some (.d (c2 a)))) M' = some (.d (F a), M')) : dLc it (.tp [i, j]) tt te vs ρ M = some (.nl ((l.filter p).map F), M') :=
  lcG l (fun a => (.tuple [c1 a, c2 a], bt)) (fun a => ((wipeE ρ vs).set i (some (.d (c1 a)))).set j (some (.d (c2 a)))) p F hit hz (fun _ _ => rfl) h2 h3
theorem lcM2 {i j : Nat} {bt : Bool} (l : List α) (c1 c2 : α → PyData) (F : α → PyData) (hit : it ρ M = some (l.map (fun a => (.tuple [c1 a, c2 a], bt)), M')) (hz : l.length ≤ big)
    (h3 : ∀ a ∈ l, val te (((wipeE ρ vs).set i (some (.d (c1 a)))).set j (some (.d (c2 a)))) M' = some (.d (F a), M')) : dLc it (.tp [i, j]) (dC (.bool true)) te vs ρ M = some (.nl (l.map F), M') := by
  have := lcF2 (tt := dC (.bool true)) l c1 c2 (fun _ => true) F hit hz (fun _ _ => rfl) (fun a ha _ => h3 a ha)
  rwa [List.filter_eq_self.mpr (fun _ _ => rfl)] at this
theorem cbA {F : List PyData → Option Res} {f : Den} {ds : List PyData} {b : Bool} (h : f ρ M = some (.nl ds, M')) : dCB b F (dA1 f dA0) ρ M = (F [.list ds]).bind fun r => some (r, M') := by
  unfold dCB dA1 dA0 val
  rw [h]
  cases b <;> simp [settle, rds, lk, rdw, rd]
theorem cbAll {f : Den} {l : List α} {p : α → Bool} (h : f ρ M = some (.nl (l.map fun a => .bool (p a)), M')) : dCB false fAll (dA1 f dA0) ρ M = dR (.bool (l.all p)) M' := by
  rw [cbA h]
  simp only [fAll, boolsM, Option.bind_some, rbl, dv]
  congr 5
  rw [List.all_map]
  rfl
theorem cbTup {f : Den} {ds : List PyData} (h : f ρ M = some (.nl ds, M')) : dCB false fTuple (dA1 f dA0) ρ M = dR (.tuple ds) M' := by
  rw [cbA h]
  rfl
end
theorem forInv {g : Tg} {b : DenS} (P : Nat → Env → Sto → Prop) : ∀ (items : List Item) (t : Nat) (ρ : Env) (M : Sto), (∀ i x, items[i]? = some x → ∀ ρ M, P (t + i) ρ M → ∃ ρ' ρ2 M2, tgo g ρ x = some ρ' ∧ b ρ' M = some (.nx ρ2 M2) ∧ P (t + i + 1) ρ2 M2) → P t ρ M →
    ∃ ρ2 M2, forGo g b items ρ M = some (.nx ρ2 M2) ∧ P (t + items.length) ρ2 M2
  | [], t, ρ, M, _, h0 => ⟨ρ, M, rfl, h0⟩
  | x :: r, t, ρ, M, h, h0 => by
    obtain ⟨ρ', ρ2, M2, e1, e2, e3⟩ := h 0 x rfl ρ M h0
    obtain ⟨ρ3, M3, e4, e5⟩ := forInv P r (t + 1) ρ2 M2 (fun i y hy ρ M hp => by
      have := h (i + 1) y (by simpa using hy) ρ M (by rwa [show t + (i + 1) = t + 1 + i by omega])
      rwa [show t + (i + 1) + 1 = t + 1 + i + 1 by omega] at this) e3
    refine ⟨ρ3, M3, ?_, by rwa [show t + (x :: r).length = t + 1 + r.length by simp only [List.length_cons]; omega]⟩
    unfold forGo
    rw [e1]
    show ((b ρ' M).bind _) = _
    rw [e2]
    exact e4
/-- a loop over a list's image -/
theorem forL {α : Type} {g : Tg} {b : DenS} {l : List α} {c : α → Item} (P : Nat → Env → Sto → Prop) {ρ : Env} {M : Sto} (h : ∀ i a, l[i]? = some a → ∀ ρ M, P i ρ M → ∃ ρ' ρ2 M2, tgo g ρ (c a) = some ρ' ∧ b ρ' M = some (.nx ρ2 M2) ∧ P (i + 1) ρ2 M2) (h0 : P 0 ρ M) :
    ∃ ρ2 M2, forGo g b (l.map c) ρ M = some (.nx ρ2 M2) ∧ P l.length ρ2 M2 := by
  obtain ⟨ρ2, M2, h1, h2⟩ := forInv (g := g) (b := b) P (l.map c) 0 ρ M (fun i x hx ρ M hp => by
    rw [List.getElem?_map, Option.map_eq_some_iff] at hx
    obtain ⟨a, ha, rfl⟩ := hx
    rw [Nat.zero_add] at hp ⊢
    exact h i a ha ρ M hp) h0
  rw [Nat.zero_add, List.length_map] at h2
  exact ⟨ρ2, M2, h1, h2⟩
theorem whileInv {c : Den} {b : DenS} (P : Nat → Env → Sto → Prop) (T : Nat) (h : ∀ t, t < T → ∀ ρ M, P t ρ M → ∃ M1 ρ2 M2, c ρ M = dR (.bool true) M1 ∧ b ρ M1 = some (.nx ρ2 M2) ∧ P (t + 1) ρ2 M2) (hT : ∀ ρ M, P T ρ M → c ρ M = dR (.bool false) M) :
    ∀ (d t fuel : Nat) (ρ : Env) (M : Sto), t + d = T → d < fuel → P t ρ M → ∃ ρ2 M2, whileGo c b fuel ρ M = some (.nx ρ2 M2) ∧ P T ρ2 M2 := by
  intro d
  induction d with
  | zero =>
    intro t fuel ρ M ht hf hp
    obtain ⟨n, rfl⟩ : ∃ n, fuel = n + 1 := ⟨fuel - 1, by omega⟩
    rw [Nat.add_zero] at ht
    subst ht
    refine ⟨ρ, M, ?_, hp⟩
    unfold whileGo
    rw [hT ρ M hp]
    rfl
  | succ d ih =>
    intro t fuel ρ M ht hf hp
    obtain ⟨n, rfl⟩ : ∃ n, fuel = n + 1 := ⟨fuel - 1, by omega⟩
    obtain ⟨M1, ρ2, M2, e1, e2, e3⟩ := h t (by omega) ρ M hp
    obtain ⟨ρ3, M3, e4, e5⟩ := ih (t + 1) n ρ2 M2 (by omega) (by omega) e3
    refine ⟨ρ3, M3, ?_, e5⟩
    unfold whileGo
    rw [e1]
    show ((b ρ M1).bind _) = _
    rw [e2]
    exact e4
theorem enum_eq (ds : List PyData) : ∀ k : Nat, enumI (k : Int) ds = (ds.zipIdx k).map fun x => (PyData.tuple [iD x.2, x.1], false) := by
  induction ds with
  | nil => intro k; rfl
  | cons d r ih =>
    intro k
    rw [enumI, List.zipIdx_cons, List.map_cons, ← ih (k + 1)]
    rfl
end PV

set_option maxRecDepth 100000
set_option maxHeartbeats 1000000
/-! the row books; the checks of rigs and books -/
namespace PV
open PySem
structure Bk where
  n : Nat
  q : Nat
  o : Nat → Nat
  lt : Nat → List Nat
structure Bk.Ok (B : Bk) : Prop where
  n2 : 2 ≤ B.n
  n24 : B.n ≤ 24
  q2 : 2 ≤ B.q
  q16 : B.q ≤ 16
  o1 : ∀ g, 1 ≤ B.o g ∧ B.o g ≤ 9
  l2 : ∀ m, (B.lt m).length ≤ 2
  la : ∀ m, 1 ≤ m → m + 1 < B.n → (B.lt m).Pairwise (· < ·) ∧ ∀ y ∈ B.lt m, m ≤ y ∧ y < B.n
namespace Bk
variable (B : Bk)
def sg (g x : Nat) : Nat := if x + 1 = g then B.o g else 0
abbrev signD (g : Nat) : PyData := .tuple ((List.range B.n).map fun x => iD (B.sg g x))
abbrev cureD (x : Nat) : PyData := .tuple [iD (x % B.q)]
abbrev moveD (g : Nat) : PyData := .tuple [iD g, iD (g + 1)]
abbrev curesD : PyData := .tuple ((List.range B.n).map B.cureD)
abbrev signsD : PyData := .tuple ((List.range B.n).map B.signD)
abbrev movesD : PyData := .tuple ((List.range (B.n - 1)).map moveD)
def rig : PyData := .tuple [iD B.n, iD B.q, B.curesD, B.signsD, B.movesD]
def bar (m : Nat) : PyData := if m = 0 then .tuple [] else .tuple [ND ((m - 1) :: B.lt m)]
abbrev bars : PyData := .tuple ((List.range (B.n - 1)).map B.bar)
def book : PyData := .tuple [B.rig, B.bars]
def lot (j : Nat) : List Nat := List.range' j (B.n - j)
end Bk
theorem natsub {n : Nat} (h : 1 ≤ n) : (n : Int) - 1 = ((n - 1 : Nat) : Int) := by omega
theorem getD_lt {l : List Nat} (h : l.Pairwise (· < ·)) {a : Nat} (h1 : 1 ≤ a) (h2 : a < l.length) : l.getD (a - 1) 0 < l.getD a 0 := by
  have := List.pairwise_iff_getElem.mp h (a - 1) a (by omega) h2 (by omega)
  simpa [List.getD, List.getElem?_eq_getElem (show a - 1 < l.length by omega), List.getElem?_eq_getElem h2] using this
theorem atD {l : List Nat} {a : Nat} (h : a < l.length) : L2.atI (l.map iD) (a : Int) = some (iD (l.getD a 0)) :=
  atN (by simp; exact ⟨l[a], List.getElem?_eq_getElem h, by simp [List.getD, List.getElem?_eq_getElem h]⟩)
theorem L_is_ascending (k : Nat) (l : List Nat) (b : Nat) (M : Sto) (hz : l.length ≤ 1000) (hb : ∀ x ∈ l, x < b) (hp : l.Pairwise (· < ·)) : CP (k + 4) i_is_ascending [.d (ND l), .d (iD b)] M = dR (.bool true) M := by
  have hA : ∀ M : Sto, dCB false fAll (dA1 (dLc (dIter (dVar 0)) (.nm 2) (dC (.bool true)) (dCall 2 (CP (k + 3) i_is_below) (dA1 (dVar 2) (dA1 (dVar 1) dA0))) [2]) dA0) [some (.d (ND l)), some (.d (iD b)), none, none] M = dR (.bool (l.all fun x => true)) M := fun M =>
    cbAll (lcM l iD _ (by simp [dIter, iterOf]) (Nat.le_trans hz (by decide)) fun a ha => by
      have := hb a ha
      simp [L_is_below]
      omega)
  have hB : ∀ M : Sto, dCB false fAll (dA1 (dLc (dRg2 (dA1 (dC (.int 1)) (dA1 (dCB true fLen (dA1 (dVar 0) dA0)) dA0))) (.nm 3) (dC (.bool true)) (dBin false fLt (dIdx (dVar 0) (dBin false fSub (dVar 3) (dC (.int 1)))) (dIdx (dVar 0) (dVar 3))) [3]) dA0) [some (.d (ND l)), some (.d (iD b)), none, none] M = dR (.bool ((List.range' 1 (l.length - 1)).all fun t => true)) M := fun M =>
    cbAll (lcM (List.range' 1 (l.length - 1)) iD _ (by
      have h1 := small_nat (n := l.length) (by omega)
      simp [dRg2, h1]
      exact ⟨by decide, rgA 1 _⟩) (by rw [List.length_range']; exact Nat.le_trans (by omega) (by decide : 1000 ≤ big)) fun a ha => by
      rw [List.mem_range'_1] at ha
      have h1 : L2.atI (l.map iD) ((a : Int) - 1) = some (iD (l.getD (a - 1) 0)) := by
        rw [natsub ha.1]
        exact atD (by omega)
      have h2 := atD (l := l) (a := a) (by omega)
      have h3 := getD_lt hp ha.1 (by omega)
      simpa [h1, h2] using h3)
  have e1 : (l.all fun x => true) = true := by simp
  have e2 : ((List.range' 1 (l.length - 1)).all fun t => true) = true := by simp
  rw [e1] at hA
  rw [e2] at hB
  rw [c_is_ascending]
  simp [b_is_ascending, runFn, env0, isT, tyName, hA, hB, endD]
theorem L_is_tuple (k : Nat) (ds : List PyData) (M : Sto) (a b : Int) (h1 : a ≤ ds.length) (h2 : (ds.length : Int) ≤ b) : CP (k + 1) i_is_tuple_of [.d (.tuple ds), .d (.int a), .d (.int b)] M = dR (.bool true) M := by
  rw [L_is_tuple_of]
  simp [h1, h2]
theorem L_is_betw (k : Nat) (M : Sto) (i a b : Int) (h1 : a ≤ i) (h2 : i ≤ b) : CP (k + 2) i_is_between [.d (.int i), .d (.int a), .d (.int b)] M = dR (.bool true) M := by
  rw [L_is_between]
  simp [h1, h2]
theorem L_is_bel (k : Nat) (M : Sto) (i b : Int) (h1 : 0 ≤ i) (h2 : i < b) : CP (k + 3) i_is_below [.d (.int i), .d (.int b)] M = dR (.bool true) M := by
  rw [L_is_below]
  simp [h1]
  omega
theorem allT {α : Type} (l : List α) : (l.all fun _ => true) = true := by simp
/-- all(f(x) for x in a tuple), where each is true -/
theorem allTrue {α : Type} {i : Nat} {te : Den} {it : DenI} {vs : List Nat} {ρ : Env} {M M' : Sto} (l : List α) (c : α → PyData) (hit : it ρ M = some (okI (l.map c), M')) (hz : l.length ≤ 1000)
    (h3 : ∀ a ∈ l, val te ((wipeE ρ vs).set i (some (.d (c a)))) M' = some (.d (.bool true), M')) : dCB false fAll (dA1 (dLc it (.nm i) (dC (.bool true)) te vs) dA0) ρ M = dR (.bool true) M' := by
  have := cbAll (lcM (te := te) l c (fun _ => .bool true) hit (Nat.le_trans hz (by decide)) h3)
  rwa [allT] at this
theorem L_is_signs (k : Nat) (l : List Nat) (n : Nat) (M : Sto) (hl : l.length = n) (hn : n ≤ 1000) (h : ∀ x ∈ l, x ≤ 9) : CP (k + 3) i_is_signs [.d (ND l), .d (iD n)] M = dR (.bool true) M := by
  have hA : ∀ M : Sto, dCB false fAll (dA1 (dLc (dIter (dVar 0)) (.nm 2) (dC (.bool true)) (dCall 3 (CP (k + 2) i_is_between) (dA1 (dVar 2) (dA1 (dC (.int 0)) (dA1 (dC (.int 9)) dA0)))) [2]) dA0) [some (.d (ND l)), some (.d (iD n)), none] M = dR (.bool true) M := fun M =>
    allTrue l iD (by simp [dIter, iterOf]) (by omega) fun a ha => by
      have := h a ha
      simp [L_is_betw (i := (a : Int)) (a := 0) (b := 9) (h1 := by omega) (h2 := by omega)]
  have h1 : CP (k + 2) i_is_tuple_of [.d (ND l), .d (iD n), .d (iD n)] M = dR (.bool true) M := L_is_tuple _ _ _ _ _ (by simp; omega) (by simp; omega)
  rw [c_is_signs]
  simp [b_is_signs, runFn, env0, h1, hA, endD]
theorem L_is_move (k : Nat) (g n : Nat) (M : Sto) (h : g + 1 < n) : CP (k + 3) i_is_move [.d (Bk.moveD g), .d (iD n)] M = dR (.bool true) M := by
  have hA : ∀ M : Sto, dCB false fAll (dA1 (dLc (dIter (dVar 0)) (.nm 2) (dC (.bool true)) (dCall 3 (CP (k + 2) i_is_between) (dA1 (dVar 2) (dA1 (dC (.int 0)) (dA1 (dBin false fSub (dVar 1) (dC (.int 1))) dA0)))) [2]) dA0) [some (.d (Bk.moveD g)), some (.d (iD n)), none] M = dR (.bool true) M := fun M =>
    allTrue [g, g + 1] iD (by simp [dIter, iterOf]) (by simp) fun a ha => by
      have h2 : (a : Int) ≤ (n : Int) - 1 := by simp at ha; omega
      simp [L_is_betw (i := (a : Int)) (a := 0) (b := (n : Int) - 1) (h1 := by omega) (h2 := h2)]
  have h1 : CP (k + 2) i_is_tuple_of [.d (Bk.moveD g), .d (.int 2), .d (.int 2)] M = dR (.bool true) M := L_is_tuple _ _ _ _ _ (by simp) (by simp)
  rw [c_is_move]
  simp [b_is_move, runFn, env0, h1, hA, at0, at1, endD]
  omega
theorem L_first_of (k : Nat) (n : Nat) (M : Sto) (hn : n ≤ 1000) : CP (k + 1) i_first_of [.d (.list (List.replicate n (.bool false)))] M = dR .none M := by
  have h1 : ∀ m : Nat, PyData.canLayAll0 (List.replicate m (.bool false)) = true ∧ PyData.depthAll (List.replicate m (.bool false)) = 0 := by
    intro m
    induction m with
    | zero => exact ⟨rfl, rfl⟩
    | succ m ih => rw [List.replicate_succ]; exact ⟨by simp [PyData.canLayAll0, PyData.canLay0, ih.1], by simp [PyData.depthAll, PyData.depth, ih.2]⟩
  have h2 : inOk (.bool true) (List.replicate n (.bool false)) = true := by
    unfold inOk
    simp [(h1 n).1, (h1 n).2, PyData.canLay0]
  have h3 : ((List.replicate n (PyData.bool false)).any fun y => PyData.eqv y (.bool true)) = false := by
    simp [PyData.eqv]
  have h4 : fIn false (.bool true) (.list (List.replicate n (.bool false))) = rbl false := by
    simp only [fIn, h2, h3, if_true, Bool.false_eq_true, if_false]
  rw [c_first_of]
  simp [b_first_of, runFn, env0, h4, endD]
end PV

set_option maxRecDepth 100000
set_option maxHeartbeats 1000000
namespace PV
open PySem
theorem enumR (f : Nat → PyData) (n : Nat) : enumI 0 ((List.range n).map f) = (List.range n).map fun i => (PyData.tuple [iD i, f i], false) := by
  have := enum_eq ((List.range n).map f) 0
  rw [show ((0 : Nat) : Int) = 0 from rfl] at this
  rw [this]
  apply List.ext_getElem
  · simp
  · intro i h1 h2
    simp
theorem rangeAt {n i a : Nat} (h : (List.range n)[i]? = some a) : a = i ∧ i < n := by
  rw [List.getElem?_eq_some_iff] at h
  obtain ⟨h1, h2⟩ := h
  simp at h1 h2
  omega
theorem lt_move (i : Nat) (h : 0 < i) : fLt (Bk.moveD (i - 1)) (Bk.moveD i) = rbl true := by
  obtain ⟨j, rfl⟩ : ∃ j, i = j + 1 := ⟨i - 1, by omega⟩
  have h1 : ¬ ((j : Int) = ((j + 1 : Nat) : Int)) := by omega
  have h2 : (j : Int) < ((j + 1 : Nat) : Int) := by omega
  simp only [Nat.add_sub_cancel, fLt, intsOf, Option.map_some, Option.bind_some, HT.lexLt, if_neg h1, h2, decide_true]
theorem L_wrong_move (k N n : Nat) (M : Sto) (h : N + 1 ≤ n) : CP (k + 4) i_wrong_move [.d (.tuple ((List.range N).map Bk.moveD)), .d (iD n)] M = dR .none M := by
  obtain ⟨ρ2, M2, h1, h2⟩ := forL (g := .tp [2, 3]) (l := List.range N) (c := fun i => (PyData.tuple [iD i, Bk.moveD i], false)) (b := sSeq (sIf (dOr (dNot (dCall 2 (CP (k + 3) i_is_move) (dA1 (dVar 3) (dA1 (dVar 1) dA0)))) (dAnd (dBin false fGt (dVar 2) (dC (.int 0))) (dNot (dBin false fLt (dIdx (dVar 0) (dBin false fSub (dVar 2) (dC (.int 1)))) (dVar 3))))) (sSeq (sRet (dTup (dA1 (dC (.int 4)) (dA1 (dVar 2) dA0)))) sNil) (sNil)) sNil)
    (fun _ ρ M' => M' = M ∧ ∃ a b, ρ = [some (.d (.tuple ((List.range N).map Bk.moveD))), some (.d (iD n)), a, b]) (ρ := [some (.d (.tuple ((List.range N).map Bk.moveD))), some (.d (iD n)), none, none]) (M := M) (by
      rintro i a ha ρ M' ⟨rfl, x, y, rfl⟩
      obtain ⟨rfl, hi⟩ := rangeAt ha
      have e1 := L_is_move k a n M' (by omega)
      by_cases h0 : 0 < a
      · have e2 : L2.atI ((List.range N).map Bk.moveD) ((a : Int) - 1) = some (Bk.moveD (a - 1)) := by
          rw [natsub h0]
          exact atMR _ (by omega)
        have e3 := lt_move a h0
        refine ⟨_, _, _, rfl, ?_, rfl, some (.d (iD a)), some (.d (Bk.moveD a)), rfl⟩
        simp [e1, e2, e3]
      · refine ⟨_, _, _, rfl, ?_, rfl, some (.d (iD a)), some (.d (Bk.moveD a)), rfl⟩
        have h0' : a = 0 := by omega
        subst h0'
        simp [e1]) ⟨rfl, none, none, rfl⟩
  obtain ⟨rfl, x, y, rfl⟩ := h2
  rw [c_wrong_move]
  simp [b_wrong_move, runFn, env0, enumR, h1, endD]
theorem wgoT (lb : Den) (z : Int) (M : Sto) : ∀ (ds acc : List PyData), acc.length + ds.length ≤ big → (∀ d ∈ ds, lb [some (.d d), some (.d (.int z))] M = dR (.bool false) M) → wgo lb z ds M acc = some (acc ++ List.replicate ds.length (.bool false), M)
  | [], acc, _, _ => by simp [wgo]
  | d :: r, acc, hz, h => by
    rw [List.length_cons] at hz
    unfold wgo
    rw [h d List.mem_cons_self]
    show (if acc.length < big then wgo lb z r M (acc ++ [.bool false]) else none) = _
    rw [if_pos (by omega), wgoT lb z M r _ (by rw [List.length_append, List.length_singleton]; omega) fun e he => h e (List.mem_cons_of_mem _ he)]
    simp [List.replicate_succ]
theorem dWrongT {i : Int} {jy jq : Nat} {lb : Den} {first : Fun} {ρ : Env} {M : Sto} {ds : List PyData} {z : Int} (hz : ds.length ≤ big) (h1 : ρ[jy]? = some (some (.d (.tuple ds)))) (h2 : ρ[jq]? = some (some (.d (.int z)))) (h3 : ∀ d ∈ ds, lb [some (.d d), some (.d (.int z))] M = dR (.bool false) M) (h4 : first [.d (.list (List.replicate ds.length (.bool false)))] M = dR .none M) :
    dWrong i jy jq lb first ρ M = dR .none M := by
  have h5 := wgoT lb z M ds [] (by simpa using hz) h3
  unfold dWrong dVar
  rw [h1, h2]
  simp [seqOf, -x_big, hz, h5, h4, endD]
section
variable {B : Bk}
theorem sg_le (ok : B.Ok) (g x : Nat) : B.sg g x ≤ 9 := by
  unfold Bk.sg
  split
  · exact (ok.o1 g).2
  · omega
theorem L_wrong_part (ok : B.Ok) (k : Nat) (M : Sto) : CP (k + 5) i_wrong_part [.d B.rig] M = dR .none M := by
  have := ok.n2
  have := ok.n24
  have := ok.q2
  have := ok.q16
  have e1 : CP (k + 4) i_is_between [.d (iD B.n), .d (.int 1), .d (.int 24)] M = dR (.bool true) M := L_is_betw _ _ _ _ _ (by omega) (by omega)
  have e2 : CP (k + 4) i_is_between [.d (iD B.q), .d (.int 1), .d (.int 16)] M = dR (.bool true) M := L_is_betw _ _ _ _ _ (by omega) (by omega)
  have e3 : CP (k + 4) i_is_tuple_of [.d B.curesD, .d (iD B.n), .d (iD B.n)] M = dR (.bool true) M := L_is_tuple _ _ _ _ _ (by simp) (by simp)
  have e4 : CP (k + 4) i_is_tuple_of [.d B.signsD, .d (.int 1), .d (.int 40)] M = dR (.bool true) M := L_is_tuple _ _ _ _ _ (by simp only [List.length_map, List.length_range]; omega) (by simp only [List.length_map, List.length_range]; omega)
  have e5 : CP (k + 4) i_is_tuple_of [.d B.movesD, .d (.int 0), .d (.int 200)] M = dR (.bool true) M := L_is_tuple _ _ _ _ _ (by simp only [List.length_map, List.length_range]; omega) (by simp only [List.length_map, List.length_range]; omega)
  have e6 := L_wrong_move k (B.n - 1) B.n M (by omega)
  have hbig : ((List.range B.n).map B.cureD).length ≤ big := by
    rw [List.length_map, List.length_range]
    exact Nat.le_trans (by omega : B.n ≤ 24) (by decide)
  have hbig2 : ((List.range B.n).map B.signD).length ≤ big := by
    rw [List.length_map, List.length_range]
    exact Nat.le_trans (by omega : B.n ≤ 24) (by decide)
  have e7 : ∀ ρ : Env, ρ[3]? = some (some (.d B.curesD)) → ρ[2]? = some (some (.d (iD B.q))) → dWrong 2 3 2 (dNot (dCall 2 (CP (k + 4) i_is_ascending) (dA1 (dVar 0) (dA1 (dVar 1) dA0)))) (CP (k + 4) i_first_of) ρ M = dR .none M := fun ρ h1 h2 => dWrongT hbig h1 h2 (fun d hd => by
      simp only [List.mem_map, List.mem_range] at hd
      obtain ⟨x, hx, rfl⟩ := hd
      have e9 : CP (k + 4) i_is_ascending [.d (B.cureD x), .d (iD B.q)] M = dR (.bool true) M := L_is_ascending k [x % B.q] B.q M (by simp) (by simp; exact Nat.mod_lt _ (by omega)) (by simp)
      simp [e9]) (by rw [List.length_map, List.length_range]; exact L_first_of _ _ _ (by omega))
  have e8 : ∀ ρ : Env, ρ[4]? = some (some (.d B.signsD)) → ρ[1]? = some (some (.d (iD B.n))) → dWrong 3 4 1 (dNot (dCall 2 (CP (k + 4) i_is_signs) (dA1 (dVar 0) (dA1 (dVar 1) dA0)))) (CP (k + 4) i_first_of) ρ M = dR .none M := fun ρ h1 h2 => dWrongT hbig2 h1 h2 (fun d hd => by
      simp only [List.mem_map, List.mem_range] at hd
      obtain ⟨g, hx, rfl⟩ := hd
      have := L_is_signs (k + 1) ((List.range B.n).map (B.sg g)) B.n M (by simp) (by omega) (by
        intro x hx
        rw [List.mem_map] at hx
        obtain ⟨y, _, rfl⟩ := hx
        exact sg_le ok g y)
      rw [ND, List.map_map] at this
      have e9 : CP (k + 4) i_is_signs [.d (B.signD g), .d (iD B.n)] M = dR (.bool true) M := this
      simp [e9]) (by rw [List.length_map, List.length_range]; exact L_first_of _ _ _ (by omega))
  rw [c_wrong_part]
  simp [b_wrong_part, runFn, env0, Bk.rig, e1, e2, e3, e4, e5, e6, e7, e8, endD]
theorem L_made_rig (ok : B.Ok) (k : Nat) (M : Sto) : CP (k + 6) i_made_rig [.d B.rig] M = dR B.rig M := by
  have e1 : CP (k + 5) i_is_tuple_of [.d B.rig, .d (.int 5), .d (.int 5)] M = dR (.bool true) M := L_is_tuple _ _ _ _ _ (by simp) (by simp)
  rw [c_made_rig]
  simp [b_made_rig, runFn, env0, e1, L_wrong_part ok, endD]
theorem L_is_rig (ok : B.Ok) (k : Nat) (M : Sto) : CP (k + 6) i_is_rig [.d B.rig] M = dR (.bool true) M := by
  have e1 : CP (k + 5) i_is_tuple_of [.d B.rig, .d (.int 5), .d (.int 5)] M = dR (.bool true) M := L_is_tuple _ _ _ _ _ (by simp) (by simp)
  rw [c_is_rig]
  simp [b_is_rig, runFn, env0, e1, L_wrong_part ok, endD]
/-! reading a rig, a book -/
theorem rig0 : ∃ ds, B.rig = .tuple ds ∧ L2.atI ds 0 = some (iD B.n) ∧ L2.atI ds 1 = some (iD B.q) ∧ L2.atI ds 2 = some B.curesD ∧ L2.atI ds 3 = some B.signsD ∧ L2.atI ds 4 = some B.movesD := ⟨_, rfl, at0 _ _, at1 _ _ _, at2 _ _ _ _, at3 _ _ _ _ _, at4 _ _ _ _ _ _⟩
@[simp] theorem rigI0 : fIdx B.rig (.int 0) = dv (iD B.n) := by simp [Bk.rig, at0]
@[simp] theorem rigI1 : fIdx B.rig (.int 1) = dv (iD B.q) := by simp [Bk.rig, at1]
@[simp] theorem rigI2 : fIdx B.rig (.int 2) = dv B.curesD := by simp [Bk.rig, at2]
@[simp] theorem rigI3 : fIdx B.rig (.int 3) = dv B.signsD := by simp [Bk.rig, at3]
@[simp] theorem rigI4 : fIdx B.rig (.int 4) = dv B.movesD := by simp [Bk.rig, at4]
@[simp] theorem bookI0 : fIdx B.book (.int 0) = dv B.rig := by simp [Bk.book, at0]
@[simp] theorem bookI1 : fIdx B.book (.int 1) = dv B.bars := by simp [Bk.book, at1]
end
theorem fIdxR (f : Nat → PyData) {n i : Nat} (h : i < n) : fIdx (.tuple ((List.range n).map f)) (iD i) = dv (f i) := by
  simp [atMR f h]
section
variable {B : Bk}
theorem L_is_lot (k : Nat) (l : List Nat) (M : Sto) (hz : l.length ≤ 1000) (hb : ∀ x ∈ l, x < B.n) (hp : l.Pairwise (· < ·)) : CP (k + 5) i_is_lot [.d B.rig, .d (ND l)] M = dR (.bool true) M := by
  rw [c_is_lot]
  simp [b_is_lot, runFn, env0, L_is_ascending k l B.n M hz hb hp, endD]
theorem L_is_bar (k : Nat) (l : List Nat) (M : Sto) (hz : 1 ≤ l.length) (hz2 : l.length ≤ 3) (hb : ∀ x ∈ l, x < B.n) (hp : l.Pairwise (· < ·)) : CP (k + 6) i_is_bar [.d B.rig, .d (ND l)] M = dR (.bool true) M := by
  have h1 : ((1 : Int) ≤ (l.length : Int)) := by omega
  have h2 : ((l.length : Int) ≤ 3) := by omega
  rw [c_is_bar]
  simp [b_is_bar, runFn, env0, L_is_lot k l M (by omega) hb hp, h1, h2, endD]
theorem L_are_bars (ok : B.Ok) (k m : Nat) (hm : m + 1 < B.n) (M : Sto) : CP (k + 7) i_are_bars [.d B.rig, .d (B.bar m)] M = dR (.bool true) M := by
  by_cases h : m = 0
  · subst h
    have e1 : CP (k + 6) i_is_tuple_of [.d (.tuple []), .d (.int 0), .d (.int 200)] M = dR (.bool true) M := L_is_tuple _ _ _ _ _ (by simp) (by simp)
    have e2 : dCB false fAll (dA1 (dLc (dIter (dVar 1)) (.nm 2) (dC (.bool true)) (dCall 2 (CP (k + 6) i_is_bar) (dA1 (dVar 0) (dA1 (dVar 2) dA0))) [2]) dA0) [some (.d B.rig), some (.d (.tuple [])), none, none] M = dR (.bool true) M :=
      allTrue ([] : List Nat) iD (by simp) (by simp) (by simp)
    have e3 : dCB false fAll (dA1 (dLc (dRg2 (dA1 (dC (.int 1)) (dA1 (dCB true fLen (dA1 (dVar 1) dA0)) dA0))) (.nm 3) (dC (.bool true)) (dBin false fLt (dIdx (dVar 1) (dBin false fSub (dVar 3) (dC (.int 1)))) (dIdx (dVar 1) (dVar 3))) [3]) dA0) [some (.d B.rig), some (.d (.tuple [])), none, none] M = dR (.bool true) M :=
      allTrue ([] : List Nat) iD (by simp; exact ⟨by decide, rfl⟩) (by simp) (by simp)
    rw [c_are_bars]
    simp [b_are_bars, runFn, env0, Bk.bar, e1, e2, e3, endD]
  · have hl := ok.la m (by omega) hm
    have hk := ok.l2 m
    have e0 : B.bar m = .tuple [ND ((m - 1) :: B.lt m)] := by unfold Bk.bar; rw [if_neg h]
    have e1 : CP (k + 6) i_is_tuple_of [.d (.tuple [ND ((m - 1) :: B.lt m)]), .d (.int 0), .d (.int 200)] M = dR (.bool true) M := L_is_tuple _ _ _ _ _ (by simp) (by simp)
    have e4 : CP (k + 6) i_is_bar [.d B.rig, .d (ND ((m - 1) :: B.lt m))] M = dR (.bool true) M := L_is_bar k _ M (by simp) (by simp; omega) (by
        intro x hx
        rcases List.mem_cons.mp hx with rfl | hx
        · omega
        · exact (hl.2 x hx).2) (by
        rw [List.pairwise_cons]
        exact ⟨fun y hy => by have := (hl.2 y hy).1; omega, hl.1⟩)
    have e2 : dCB false fAll (dA1 (dLc (dIter (dVar 1)) (.nm 2) (dC (.bool true)) (dCall 2 (CP (k + 6) i_is_bar) (dA1 (dVar 0) (dA1 (dVar 2) dA0))) [2]) dA0) [some (.d B.rig), some (.d (.tuple [ND ((m - 1) :: B.lt m)])), none, none] M = dR (.bool true) M :=
      allTrue [((m - 1) :: B.lt m)] ND (by simp) (by simp) (fun a ha => by
        rw [List.mem_singleton] at ha
        subst ha
        simp [e4])
    have e3 : dCB false fAll (dA1 (dLc (dRg2 (dA1 (dC (.int 1)) (dA1 (dCB true fLen (dA1 (dVar 1) dA0)) dA0))) (.nm 3) (dC (.bool true)) (dBin false fLt (dIdx (dVar 1) (dBin false fSub (dVar 3) (dC (.int 1)))) (dIdx (dVar 1) (dVar 3))) [3]) dA0) [some (.d B.rig), some (.d (.tuple [ND ((m - 1) :: B.lt m)])), none, none] M = dR (.bool true) M :=
      allTrue ([] : List Nat) iD (by simp; exact ⟨by decide, rfl⟩) (by simp) (by simp)
    rw [e0, c_are_bars]
    simp [b_are_bars, runFn, env0, e1, e2, e3, endD]
theorem L_wrong_bars (ok : B.Ok) (k : Nat) (M : Sto) : CP (k + 8) i_wrong_bars [.d B.rig, .d B.bars] M = dR .none M := by
  have := ok.n2
  obtain ⟨ρ2, M2, h1, h2⟩ := forL (g := .tp [3, 4]) (l := List.range (B.n - 1)) (c := fun i => (PyData.tuple [iD i, B.bar i], false)) (b := sSeq (sIf (dNot (dCall 2 (CP (k + 7) i_are_bars) (dA1 (dVar 0) (dA1 (dVar 4) dA0)))) (sSeq (sRet (dVar 3)) sNil) (sNil)) sNil)
    (fun _ ρ M' => M' = M ∧ ∃ a b, ρ = [some (.d B.rig), some (.d B.bars), some (.d (iD (B.n - 1))), a, b]) (ρ := [some (.d B.rig), some (.d B.bars), some (.d (iD (B.n - 1))), none, none]) (M := M) (by
      rintro i a ha ρ M' ⟨rfl, x, y, rfl⟩
      obtain ⟨rfl, hi⟩ := rangeAt ha
      have e1 := L_are_bars ok k a (by omega) M'
      refine ⟨_, _, _, rfl, ?_, rfl, some (.d (iD a)), some (.d (B.bar a)), rfl⟩
      simp [e1]) ⟨rfl, none, none, rfl⟩
  obtain ⟨rfl, x, y, rfl⟩ := h2
  have e3 : CP (k + 7) i_is_tuple_of [.d B.bars, .d (iD (B.n - 1)), .d (iD (B.n - 1))] M2 = dR (.bool true) M2 := L_is_tuple _ _ _ _ _ (by simp) (by simp)
  rw [c_wrong_bars]
  simp [b_wrong_bars, runFn, env0, enumR, e3, h1, endD]
theorem L_made_book (ok : B.Ok) (k : Nat) (M : Sto) : CP (k + 9) i_made_book [.d B.book] M = dR B.book M := by
  have e1 : CP (k + 8) i_is_tuple_of [.d B.book, .d (.int 2), .d (.int 2)] M = dR (.bool true) M := L_is_tuple _ _ _ _ _ (by simp) (by simp)
  rw [c_made_book]
  simp [b_made_book, runFn, env0, e1, L_made_rig ok, L_wrong_bars ok, endD]
theorem L_is_book (ok : B.Ok) (k : Nat) (M : Sto) : CP (k + 9) i_is_book [.d B.book] M = dR (.bool true) M := by
  have e1 : CP (k + 8) i_is_tuple_of [.d B.book, .d (.int 2), .d (.int 2)] M = dR (.bool true) M := L_is_tuple _ _ _ _ _ (by simp) (by simp)
  rw [c_is_book]
  simp [b_is_book, runFn, env0, e1, L_is_rig ok, L_wrong_bars ok, endD]
theorem L_is_fault (k x : Nat) (M : Sto) (h : x < B.n) : CP (k + 3) i_is_fault [.d B.rig, .d (iD x)] M = dR (.bool true) M := by
  have e1 : CP (k + 2) i_is_between [.d (iD x), .d (.int 0), .d (.int ((B.n : Int) - 1))] M = dR (.bool true) M := L_is_betw _ _ _ _ _ (by omega) (by omega)
  rw [c_is_fault]
  simp [b_is_fault, runFn, env0, e1, endD]
theorem L_is_setting (k g : Nat) (M : Sto) (h : g < B.n) : CP (k + 3) i_is_setting [.d B.rig, .d (iD g)] M = dR (.bool true) M := by
  have e1 : CP (k + 2) i_is_between [.d (iD g), .d (.int 0), .d (.int ((B.n : Int) - 1))] M = dR (.bool true) M := L_is_betw _ _ _ _ _ (by omega) (by omega)
  rw [c_is_setting]
  simp [b_is_setting, runFn, env0, e1, endD]
theorem L_want_fault (k x : Nat) (M : Sto) (h : x < B.n) : CP (k + 4) i_want_fault [.d B.rig, .d (iD x)] M = dR .none M := by
  rw [c_want_fault]
  simp [b_want_fault, runFn, env0, L_is_fault k x M h, endD]
theorem L_every_fault (ok : B.Ok) (k : Nat) (M : Sto) : CP (k + 1) i_every_fault [.d B.rig] M = dR (ND (List.range B.n)) M := by
  have := ok.n24
  have h1 := small_nat (n := B.n) (by omega)
  rw [c_every_fault]
  simp [b_every_fault, runFn, env0, h1, endD]
theorem L_law_all (ok : B.Ok) (k : Nat) (M : Sto) : CP (k + 1) i_law_all [.d B.rig] M = dR (ND (List.range B.n)) M := by
  have := ok.n24
  have h1 := small_nat (n := B.n) (by omega)
  have e1 : dCB false fTuple (dA1 (dLc (dRg1 (dA1 (dIdx (dVar 0) (dC (.int 0))) dA0)) (.nm 1) (dC (.bool true)) (dVar 1) [1]) dA0) [some (.d B.rig), none] M = dR (ND (List.range B.n)) M :=
    cbTup (lcM (List.range B.n) iD iD (by simp [h1, rg0]) (by simp; exact Nat.le_trans (by omega) (by decide : 24 ≤ big)) (by simp))
  rw [c_law_all]
  simp [b_law_all, runFn, env0, e1, endD]
theorem L_home_of (ok : B.Ok) (k : Nat) (M : Sto) : CP (k + 2) i_home_of [.d B.rig] M = dR (.tuple [ND (List.range B.n), iD 0]) M := by
  rw [c_home_of]
  simp [b_home_of, runFn, env0, L_every_fault ok, endD]
end
end PV

set_option maxRecDepth 100000
set_option maxHeartbeats 1000000
/-! lots -/
namespace PV
open PySem
theorem plN {a : Nat} (Ns : List Nat) (h : a < 64) : PL Ns (iD a) = true := by
  cases Ns <;> simp [PL] <;> omega
theorem plND {l : List Nat} {N : Nat} (Ns : List Nat) (hl : l.length ≤ N) (h : ∀ x ∈ l, x < 64) : PL (N :: Ns) (ND l) = true := by
  simp only [PL, Bool.and_eq_true, decide_eq_true_eq, List.all_eq_true, List.length_map, List.mem_map]
  exact ⟨hl, fun x ⟨y, hy, e⟩ => by rw [← e]; exact plN Ns (h y hy)⟩
theorem iD_inj {a b : Nat} : iD a = iD b ↔ a = b := ⟨fun h => by injection h with h; omega, fun h => by rw [h]⟩
theorem eqdN {a b : Nat} : eqd (iD a) (iD b) = decide (a = b) := by
  by_cases h : a = b
  · subst h; simp [eqd_self]
  · rw [eqd_ne fun e => h (iD_inj.mp e)]; simp [h]
theorem fEqN {a b : Nat} (ha : a < 64) (hb : b < 64) : fEq (iD a) (iD b) = rbl (decide (a = b)) := by
  rw [fEq_pl (plN [] ha) (plN [] hb) (by simp), eqdN]
theorem fNeN {a b : Nat} (ha : a < 64) (hb : b < 64) : fNe (iD a) (iD b) = rbl (!decide (a = b)) := by
  rw [fNe_pl (plN [] ha) (plN [] hb) (by simp), eqdN]
theorem memN {a : Nat} {l : List Nat} : iD a ∈ l.map iD ↔ a ∈ l := by
  rw [List.mem_map]
  exact ⟨fun ⟨y, hy, e⟩ => (iD_inj.mp e) ▸ hy, fun h => ⟨a, h, rfl⟩⟩
section
open Classical
theorem fInN {a : Nat} {l : List Nat} (ha : a < 64) (hl : ∀ x ∈ l, x < 64) : fIn false (iD a) (ND l) = rbl (decide (a ∈ l)) ∧ fIn true (iD a) (ND l) = rbl (!decide (a ∈ l)) ∧ fIn false (iD a) (.list (l.map iD)) = rbl (decide (a ∈ l)) ∧ fIn true (iD a) (.list (l.map iD)) = rbl (!decide (a ∈ l)) := by
  have h := fIn_pl (plN [] ha) (xs := l.map iD) (Ms := []) (by intro x hx; rw [List.mem_map] at hx; obtain ⟨y, hy, rfl⟩ := hx; exact plN [] (hl y hy)) (by simp)
  have e : decide (iD a ∈ l.map iD) = decide (a ∈ l) := by
    rw [Bool.eq_iff_iff, decide_eq_true_eq, decide_eq_true_eq]
    exact memN
  rw [e] at h
  have e2 : @decide (a ∈ l) (propDecidable _) = @decide (a ∈ l) _ := by congr
  exact ⟨h.2.2.1, h.2.2.2, h.1, h.2.1⟩
end
theorem fNeE {l : List Nat} (hl : ∀ x ∈ l, x < 64) : fNe (ND l) (.tuple []) = rbl (!l.isEmpty) ∧ fEq (ND l) (.tuple []) = rbl l.isEmpty ∧ fNe (.list (l.map iD)) (.list []) = rbl (!l.isEmpty) ∧ fEq (.list (l.map iD)) (.list []) = rbl l.isEmpty := by
  have h1 := plND (N := l.length) [] (Nat.le_refl _) hl
  have h2 : PL [0] (.tuple []) = true := by simp [PL]
  have e : eqd (ND l) (.tuple []) = l.isEmpty := by
    cases l with
    | nil => exact eqd_self _
    | cons a r => rw [eqd_ne (by simp)]; rfl
  have h3 := eqL_pl (xs := l.map iD) (ys := []) (Ns := []) (Ms := []) (by intro x hx; rw [List.mem_map] at hx; obtain ⟨y, hy, rfl⟩ := hx; exact plN [] (hl y hy)) (by simp) (by simp)
  rw [fNe_pl h1 h2 (by simp), fEq_pl h1 h2 (by simp), h3.1, h3.2, e]
  exact ⟨rfl, rfl, rfl, rfl⟩
section
variable {B : Bk}
theorem signAt (ok : B.Ok) {g x : Nat} (hg : g < B.n) (hx : x < B.n) : fIdx B.signsD (iD g) = dv (B.signD g) ∧ fIdx (B.signD g) (iD x) = dv (iD (B.sg g x)) := ⟨fIdxR _ hg, fIdxR _ hx⟩
theorem L_cures_of (ok : B.Ok) (k : Nat) (l : List Nat) (M : Sto) (hz : l.length ≤ 1000) (hl : ∀ x ∈ l, x < B.n) : CP (k + 1) i_cures_of [.d B.rig, .d (ND l)] M = dR (ND ((List.range B.q).filter fun r => l.all fun x => decide (r = x % B.q))) M := by
  have hq := ok.q16
  have := ok.q2
  have h1 := small_nat (n := B.q) (by omega)
  have e1 : dCB false fTuple (dA1 (dLc (dRg1 (dA1 (dIdx (dVar 0) (dC (.int 1))) dA0)) (.nm 2) (dCB false fAll (dA1 (dLc (dIter (dVar 1)) (.nm 3) (dC (.bool true)) (dInD false (fIn false) (dVar 2) (dIdx (dIdx (dVar 0) (dC (.int 2))) (dVar 3))) [3]) dA0)) (dVar 2) [2]) dA0) [some (.d B.rig), some (.d (ND l)), none, none] M = dR (ND ((List.range B.q).filter fun r => l.all fun x => decide (r = x % B.q))) M :=
    cbTup (lcF (List.range B.q) iD _ iD (by simp [h1, rg0]) (by rw [List.length_range]; exact Nat.le_trans hq (by decide)) (fun r hr => by
      rw [List.mem_range] at hr
      exact cbAll (lcM l iD (fun x => .bool (decide (r = x % B.q))) (by simp) (Nat.le_trans hz (by decide)) fun x hx => by
        have h2 : fIn false (iD r) (B.cureD x) = rbl (decide (r ∈ [x % B.q])) := (fInN (a := r) (l := [x % B.q]) (by omega) (by simp; exact Nat.lt_trans (Nat.mod_lt _ (by omega)) (by omega))).1
        have h3 : fIdx B.curesD (iD x) = dv (B.cureD x) := fIdxR _ (hl x hx)
        simp [h2, h3])) (by simp))
  rw [c_cures_of]
  simp [b_cures_of, runFn, env0, e1, endD]
theorem L_is_done (ok : B.Ok) (k : Nat) (l : List Nat) (M : Sto) (hz : l.length ≤ 1000) (hl : ∀ x ∈ l, x < B.n) : CP (k + 2) i_is_done [.d B.rig, .d (ND l)] M = dR (.bool (!((List.range B.q).filter fun r => l.all fun x => decide (r = x % B.q)).isEmpty)) M := by
  have := ok.q16
  have h1 := (fNeE (l := (List.range B.q).filter fun r => l.all fun x => decide (r = x % B.q)) (by
    intro x hx
    rw [List.mem_filter, List.mem_range] at hx
    omega)).1
  rw [c_is_done]
  simp [b_is_done, runFn, env0, L_cures_of ok k l M hz hl, h1, endD]
theorem L_agreeing_in (ok : B.Ok) (k : Nat) (l s : List Nat) (x : Nat) (M : Sto) (hz : l.length ≤ 1000) (hl : ∀ x ∈ l, x < B.n) (hz2 : s.length ≤ 1000) (hs : ∀ x ∈ s, x < B.n) (hx : x < B.n) :
    CP (k + 1) i_agreeing_in [.d B.rig, .d (ND l), .d (iD x), .d (ND s)] M = dR (ND (l.filter fun y => s.all fun g => decide (B.sg g y = B.sg g x))) M := by
  have e1 : dCB false fTuple (dA1 (dLc (dIter (dVar 1)) (.nm 4) (dCB false fAll (dA1 (dLc (dIter (dVar 3)) (.nm 5) (dC (.bool true)) (dBin true fEq (dIdx (dIdx (dIdx (dVar 0) (dC (.int 3))) (dVar 5)) (dVar 4)) (dIdx (dIdx (dIdx (dVar 0) (dC (.int 3))) (dVar 5)) (dVar 2))) [5]) dA0)) (dVar 4) [4]) dA0) [some (.d B.rig), some (.d (ND l)), some (.d (iD x)), some (.d (ND s)), none, none] M = dR (ND (l.filter fun y => s.all fun g => decide (B.sg g y = B.sg g x))) M :=
    cbTup (lcF l iD _ iD (by simp) (Nat.le_trans hz (by decide)) (fun y hy => cbAll (lcM s iD (fun g => .bool (decide (B.sg g y = B.sg g x))) (by simp) (Nat.le_trans hz2 (by decide)) fun g hg => by
        have h1 := signAt ok (hs g hg) (hl y hy)
        have h2 := signAt ok (hs g hg) hx
        have h3 := fEqN (a := B.sg g y) (b := B.sg g x) (by have := sg_le ok g y; omega) (by have := sg_le ok g x; omega)
        simp [h1, h2, h3])) (by simp))
  rw [c_agreeing_in]
  simp [b_agreeing_in, runFn, env0, e1, endD]
/-- the signs that a lot shows -/
def Bk.sl (B : Bk) (l : List Nat) (g : Nat) : List Int := isort (nubI (l.map fun x => (B.sg g x : Int)))
theorem L_signs_in (ok : B.Ok) (k : Nat) (l : List Nat) (g : Nat) (M : Sto) (hz : l.length ≤ 60) (hl : ∀ x ∈ l, x < B.n) (hg : g < B.n) : CP (k + 1) i_signs_in [.d B.rig, .d (ND l), .d (iD g)] M = some (.nl ((B.sl l g).map .int), M) := by
  have e1 : dSortSet (dIter (dVar 1)) (.nm 3) (dC (.bool true)) (dIdx (dIdx (dIdx (dVar 0) (dC (.int 3))) (dVar 2)) (dVar 3)) [3] [some (.d B.rig), some (.d (ND l)), some (.d (iD g)), none] M = some (.nl ((B.sl l g).map .int), M) := by
    have h1 := compF (g := .nm 3) (tt := dC (.bool true)) (te := dIdx (dIdx (dIdx (dVar 0) (dC (.int 3))) (dVar 2)) (dVar 3)) (ρ := [some (.d B.rig), some (.d (ND l)), some (.d (iD g)), none]) (M := M) (fun x => (iD x, true)) (fun x => [some (.d B.rig), some (.d (ND l)), some (.d (iD g)), some (.d (iD x))]) (fun _ => true) (fun x => iD (B.sg g x)) l [] (by
      simp only [List.length_nil]; exact Nat.le_trans (show 0 + l.length ≤ 60 by omega) (by decide)) (fun _ _ => rfl) (fun _ _ => rfl) (fun x hx _ => by
      have h1 := signAt ok hg (hl x hx)
      simp [h1])
    rw [List.filter_eq_self.mpr (fun _ _ => rfl), List.nil_append] at h1
    have h2 : okI (l.map iD) = l.map fun x => (iD x, true) := by unfold okI; rw [List.map_map]; rfl
    unfold dSortSet
    simp [h2, hz, h1, intsM, Bk.sl]
  rw [c_signs_in]
  simp [b_signs_in, runFn, env0, e1]
  unfold endFn
  split
  · simp [endRes]
  · rfl
theorem endNl (M : Sto) (ds : List PyData) : endFn M.length (.nl ds) M = some (.nl ds, M) := by
  unfold endFn
  split
  · simp [endRes]
  · rfl
theorem L_has_one_sign (ok : B.Ok) (k : Nat) (l : List Nat) (g : Nat) (M : Sto) (hz : l.length ≤ 60) (hl : ∀ x ∈ l, x < B.n) (hg : g < B.n) : CP (k + 2) i_has_one_sign [.d B.rig, .d (ND l), .d (iD g)] M = dR (.bool (decide ((B.sl l g).length ≤ 1))) M := by
  rw [c_has_one_sign]
  simp [b_has_one_sign, runFn, env0, L_signs_in ok k l g M hz hl hg, endD]
  omega
theorem sl_mem {l : List Nat} {g : Nat} {s : Int} : s ∈ B.sl l g → ∃ x ∈ l, s = B.sg g x := by
  have h1 : ∀ (m u : List Int) (s : Int), s ∈ m.foldl (fun u k => if k ∈ u then u else u ++ [k]) u → s ∈ u ∨ s ∈ m := by
    intro m
    induction m with
    | nil => intro u s h; exact .inl h
    | cons a r ih =>
      intro u s h
      rcases ih _ s h with h | h
      · dsimp only at h
        split at h
        · exact .inl h
        · rcases List.mem_append.mp h with h | h
          · exact .inl h
          · exact .inr (by rw [List.mem_singleton.mp h]; exact List.mem_cons_self)
      · exact .inr (List.mem_cons_of_mem _ h)
  have h2 : ∀ (n : Int) (m : List Int) (s : Int), s ∈ insI n m → s = n ∨ s ∈ m := by
    intro n m
    induction m with
    | nil => intro s h; exact .inl (List.mem_singleton.mp h)
    | cons a r ih =>
      intro s h
      unfold insI at h
      split at h
      · rcases List.mem_cons.mp h with h | h
        · exact .inl h
        · exact .inr h
      · rcases List.mem_cons.mp h with h | h
        · exact .inr (by rw [h]; exact List.mem_cons_self)
        · rcases ih s h with h | h
          · exact .inl h
          · exact .inr (List.mem_cons_of_mem _ h)
  have h3 : ∀ (m : List Int) (s : Int), s ∈ isort m → s ∈ m := by
    intro m
    induction m with
    | nil => intro s h; exact h
    | cons a r ih =>
      intro s h
      rcases h2 _ _ _ h with h | h
      · rw [h]; exact List.mem_cons_self
      · exact List.mem_cons_of_mem _ (ih s h)
  intro h
  rcases h1 _ _ _ (h3 _ _ h) with h | h
  · cases h
  · rw [List.mem_map] at h
    obtain ⟨x, hx, e⟩ := h
    exact ⟨x, hx, e.symm⟩
theorem L_parts_at (ok : B.Ok) (k : Nat) (l : List Nat) (g : Nat) (M : Sto) (hz : l.length ≤ 60) (hl : ∀ x ∈ l, x < B.n) (hg : g < B.n) (hs : (B.sl l g).length ≤ 60) : CP (k + 2) i_parts_at [.d B.rig, .d (ND l), .d (iD g)] M =
    dR (.tuple ((B.sl l g).map fun s => .tuple [.int s, ND (l.filter fun x => decide ((B.sg g x : Int) = s))])) M := by
  have e1 : dCB false fTuple (dA1 (dLc (dIter (dCall 3 (CP (k + 1) i_signs_in) (dA1 (dVar 0) (dA1 (dVar 1) (dA1 (dVar 2) dA0))))) (.nm 4) (dC (.bool true)) (dTup (dA1 (dVar 4) (dA1 (dCB false fTuple (dA1 (dLc (dIter (dVar 1)) (.nm 3) (dBin true fEq (dIdx (dIdx (dIdx (dVar 0) (dC (.int 3))) (dVar 2)) (dVar 3)) (dVar 4)) (dVar 3) [3]) dA0)) dA0))) [4]) dA0)
      [some (.d B.rig), some (.d (ND l)), some (.d (iD g)), none, none] M = dR (.tuple ((B.sl l g).map fun s => .tuple [.int s, ND (l.filter fun x => decide ((B.sg g x : Int) = s))])) M :=
    cbTup (lcM (B.sl l g) PyData.int _ (by simp [L_signs_in ok k l g M hz hl hg]) (Nat.le_trans hs (by decide)) fun s hs => by
      obtain ⟨z, hz', rfl⟩ := sl_mem hs
      have e2 : dCB false fTuple (dA1 (dLc (dIter (dVar 1)) (.nm 3) (dBin true fEq (dIdx (dIdx (dIdx (dVar 0) (dC (.int 3))) (dVar 2)) (dVar 3)) (dVar 4)) (dVar 3) [3]) dA0) [some (.d B.rig), some (.d (ND l)), some (.d (iD g)), none, some (.d (iD (B.sg g z)))] M = dR (ND (l.filter fun x => decide ((B.sg g x : Int) = (B.sg g z : Int)))) M :=
        cbTup (lcF l iD _ iD (by simp) (Nat.le_trans hz (by decide)) (fun x hx => by
          have h1 := signAt ok hg (hl x hx)
          have h3 := fEqN (a := B.sg g x) (b := B.sg g z) (by have := sg_le ok g x; omega) (by have := sg_le ok g z; omega)
          simp [h1, h3, Int.ofNat_inj]) (by simp))
      simp [e2])
  rw [c_parts_at]
  simp [b_parts_at, runFn, env0, e1, endD]
theorem L_is_within (ok : B.Ok) (k : Nat) (l m : List Nat) (M : Sto) (hz : l.length ≤ 60) (hl : ∀ x ∈ l, x < B.n) (hm : ∀ x ∈ m, x < B.n) : CP (k + 1) i_is_within [.d (ND l), .d (ND m)] M = dR (.bool (l.all fun x => decide (x ∈ m))) M := by
  have := ok.n24
  have e1 : dCB false fAll (dA1 (dLc (dIter (dVar 0)) (.nm 2) (dC (.bool true)) (dInD false (fIn false) (dVar 2) (dVar 1)) [2]) dA0) [some (.d (ND l)), some (.d (ND m)), none] M = dR (.bool (l.all fun x => decide (x ∈ m))) M :=
    cbAll (lcM l iD (fun x => .bool (decide (x ∈ m))) (by simp) (Nat.le_trans hz (by decide)) fun x hx => by
      have h1 := (fInN (a := x) (l := m) (by have := hl x hx; omega) (fun y hy => by have := hm y hy; omega)).1
      simp at h1
      simp [h1])
  rw [c_is_within]
  simp [b_is_within, runFn, env0, e1, endD]
end
end PV

set_option maxRecDepth 100000
set_option maxHeartbeats 1000000
/-! bars, neighbours -/
namespace PV
open PySem
section
variable {B : Bk}
theorem L_bar_none (ok : B.Ok) (k : Nat) (l : List Nat) (m : Nat) (M : Sto) (hl : ∀ x ∈ l, x < B.n) (hm : m + 1 < B.n) (h : m = 0 ∨ m - 1 ∉ l) : CP (k + 2) i_bar_at [.d B.book, .d (ND l), .d (iD m)] M = dR .none M := by
  have e0 : fIdx B.bars (iD m) = dv (B.bar m) := fIdxR _ (by omega)
  by_cases h0 : m = 0
  · have e1 : B.bar m = .tuple [] := by unfold Bk.bar; rw [if_pos h0]
    rw [c_bar_at]
    simp [b_bar_at, runFn, env0, e0, e1, okI, forGo, endD]
  · have h1 : m - 1 ∉ l := h.resolve_left h0
    have e1 : B.bar m = .tuple [ND ((m - 1) :: B.lt m)] := by unfold Bk.bar; rw [if_neg h0]
    have h2 := ok.la m (by omega) hm
    have h3 := ok.l2 m
    have e2 := L_is_within ok k ((m - 1) :: B.lt m) l M (by simp; omega) (by
      intro x hx
      rcases List.mem_cons.mp hx with rfl | hx
      · omega
      · exact (h2.2 x hx).2) hl
    rw [c_bar_at]
    simp [h1] at e2
    simp [b_bar_at, runFn, env0, e0, e1, okI, forGo, e2, endD]
theorem L_bar_some (ok : B.Ok) (k : Nat) (l : List Nat) (m : Nat) (M : Sto) (hl : ∀ x ∈ l, x < B.n) (h0 : 1 ≤ m) (hm : m + 1 < B.n) (h : m - 1 ∈ l) (h' : ∀ y ∈ B.lt m, y ∈ l) : CP (k + 2) i_bar_at [.d B.book, .d (ND l), .d (iD m)] M = dR (ND ((m - 1) :: B.lt m)) M := by
  have e0 : fIdx B.bars (iD m) = dv (B.bar m) := fIdxR _ (by omega)
  have e1 : B.bar m = .tuple [ND ((m - 1) :: B.lt m)] := by unfold Bk.bar; rw [if_neg (by omega)]
  have h2 := ok.la m (by omega) hm
  have h3 := ok.l2 m
  have e2 : CP (k + 1) i_is_within [.d (ND ((m - 1) :: B.lt m)), .d (ND l)] M = dR (.bool true) M := by
    rw [L_is_within ok k ((m - 1) :: B.lt m) l M (by simp; omega) (by
      intro x hx
      rcases List.mem_cons.mp hx with rfl | hx
      · omega
      · exact (h2.2 x hx).2) hl]
    congr 4
    simp only [List.all_eq_true, decide_eq_true_eq]
    intro x hx
    rcases List.mem_cons.mp hx with rfl | hx
    · exact h
    · exact h' x hx
  rw [c_bar_at]
  simp [b_bar_at, runFn, env0, e0, e1, okI, forGo, e2, endD]
theorem lot_mem {j x : Nat} : x ∈ B.lot j ↔ j ≤ x ∧ x < B.n := by
  unfold Bk.lot
  rw [List.mem_range'_1]
  omega
theorem lot_lt {j : Nat} : ∀ x ∈ B.lot j, x < B.n := fun x h => (lot_mem.mp h).2
theorem lot_len (ok : B.Ok) (j : Nat) : (B.lot j).length ≤ 24 := by
  have := ok.n24
  unfold Bk.lot
  rw [List.length_range']
  omega
theorem L_is_free (ok : B.Ok) (k j m : Nat) (M : Sto) (hm : m + 1 < B.n) : CP (k + 3) i_is_free [.d B.book, .d (ND (B.lot j)), .d (iD m)] M = dR (.bool (decide (m ≤ j))) M := by
  by_cases h : m ≤ j
  · have e := L_bar_none ok k (B.lot j) m M lot_lt hm (by
      by_cases h0 : m = 0
      · exact .inl h0
      · exact .inr fun e => by have := lot_mem.mp e; omega)
    rw [c_is_free]
    simp [b_is_free, runFn, env0, e, endD, h]
  · have e := L_bar_some ok k (B.lot j) m M lot_lt (by omega) hm (lot_mem.mpr (by omega)) (fun y hy => lot_mem.mpr (by have := (ok.la m (by omega) hm).2 y hy; omega))
    rw [c_is_free]
    simp [b_is_free, runFn, env0, e, endD, h]
/-- who stands beside g, by which move -/
def nbp (n g : Nat) : List (Nat × Nat) := (if 1 ≤ g then [(g - 1, g - 1)] else []) ++ (if g + 1 < n then [(g + 1, g)] else [])
theorem nb_filter : ∀ n, n < 25 → ∀ g, g < n → (List.range (n - 1)).filter (fun i => decide (g = i) || decide (g = i + 1)) = (nbp n g).map (·.2) := by decide +kernel
theorem nb_le : ∀ g : Nat, g < 25 → PySem.W.dataLe false id (.tuple [.int (g : Int), .int (g : Int)]) (.tuple [.int ((g + 2 : Nat) : Int), .int ((g + 1 : Nat) : Int)]) = true := by decide +kernel
abbrev pD (p : Nat × Nat) : PyData := .tuple [iD p.1, iD p.2]
theorem sort2 {a b : PyData} (h : PySem.W.dataLe false id a b = true) : [a, b].mergeSort (PySem.W.dataLe false id) = [a, b] := by
  rw [List.mergeSort]
  simp [List.MergeSort.Internal.splitInTwo, List.splitAt, List.splitAt.go, List.merge, h]
theorem nb_sorted (n g : Nat) (hg : g < n) (hn : n < 25) : fSorted [.list ((nbp n g).map pD)] = some (.nl ((nbp n g).map pD)) := by
  unfold nbp
  by_cases h1 : 1 ≤ g
  · by_cases h2 : g + 1 < n
    · rw [if_pos h1, if_pos h2]
      have := nb_le (g - 1) (by omega)
      rw [show g - 1 + 2 = g + 1 by omega, show g - 1 + 1 = g by omega] at this
      have h3 := sort2 this
      simp only [List.singleton_append, List.map_cons, List.map_nil, fSorted, intsOf]
      rw [if_pos (by simp [allPairs, isPair])]
      rw [show ([pD (g - 1, g - 1), pD (g + 1, g)] : List PyData) = [.tuple [.int ((g - 1 : Nat) : Int), .int ((g - 1 : Nat) : Int)], .tuple [.int ((g + 1 : Nat) : Int), .int (g : Int)]] from rfl, h3]
    · rw [if_pos h1, if_neg h2]
      simp [fSorted, intsOf, allPairs, isPair]
  · by_cases h2 : g + 1 < n
    · rw [if_neg h1, if_pos h2]
      simp [fSorted, intsOf, allPairs, isPair]
    · rw [if_neg h1, if_neg h2]
      simp [fSorted, intsOf, isort]
theorem L_neighbours_of (ok : B.Ok) (k g : Nat) (M : Sto) (hg : g < B.n) : CP (k + 1) i_neighbours_of [.d B.rig, .d (iD g)] M = dR (.tuple ((nbp B.n g).map pD)) M := by
  have hn := ok.n24
  have e1 : dLc (dEnum (dA1 (dIdx (dVar 0) (dC (.int 4))) dA0)) (.tp [3, 4]) (dInD false (fIn false) (dVar 1) (dVar 4)) (dTup (dA1 (dBin false fSub (dCB false fSum (dA1 (dVar 4) dA0)) (dVar 1)) (dA1 (dVar 3) dA0))) [3, 4] [some (.d B.rig), some (.d (iD g)), none, none, none] M = some (.nl ((nbp B.n g).map pD), M) := by
    rw [lcF2 (List.range (B.n - 1)) iD Bk.moveD (fun i => decide (g = i) || decide (g = i + 1)) (fun i => .tuple [.int ((i : Int) + ((i + 1 : Nat) : Int) - g), iD i]) (M' := M) (bt := false) (by simp [enumR]) (by rw [List.length_range]; exact Nat.le_trans (show B.n - 1 ≤ 24 by omega) (by decide)) (fun i hi => by
      rw [List.mem_range] at hi
      have h2 : fIn false (iD g) (Bk.moveD i) = rbl (decide (g ∈ [i, i + 1])) := (fInN (a := g) (l := [i, i + 1]) (by omega) (by simp; omega)).1
      simp [h2]) (fun i hi _ => by
      simp [fSum, intsOf])]
    rw [nb_filter B.n (by omega) g hg, List.map_map]
    congr 3
    apply List.map_congr_left
    intro p hp
    unfold nbp at hp
    rw [List.mem_append] at hp
    rcases hp with hp | hp
    · split at hp
      · rw [List.mem_singleton] at hp
        subst hp
        simp only [Function.comp, pD]
        congr 4
        omega
      · cases hp
    · split at hp
      · rw [List.mem_singleton] at hp
        subst hp
        simp only [Function.comp, pD]
        congr 4
        omega
      · cases hp
  have e2 := nb_sorted B.n g hg (by omega)
  rw [c_neighbours_of]
  simp [b_neighbours_of, runFn, env0, e1, e2, endD]
/-- the free ones, for the lot from j on -/
def fnb (n j g : Nat) : List Nat := ((nbp n g).filter fun p => decide (p.2 ≤ j)).map (·.1)
theorem nbp_lt {n g : Nat} (hg : g < n) : ∀ p ∈ nbp n g, p.1 < n ∧ p.2 + 1 < n := by
  intro p hp
  unfold nbp at hp
  rw [List.mem_append] at hp
  rcases hp with hp | hp
  · split at hp
    · rw [List.mem_singleton] at hp; subst hp; simp; omega
    · cases hp
  · split at hp
    · rw [List.mem_singleton] at hp; subst hp; simp; omega
    · cases hp
theorem L_free_neighbours (ok : B.Ok) (k j g : Nat) (M : Sto) (hg : g < B.n) : CP (k + 4) i_free_neighbours [.d B.book, .d (ND (B.lot j)), .d (iD g)] M = some (.nl ((fnb B.n j g).map iD), M) := by
  have e0 := L_neighbours_of ok (k + 2) g M hg
  have e1 : dLc (dIter (dCall 2 (CP (k + 3) i_neighbours_of) (dA1 (dIdx (dVar 0) (dC (.int 0))) (dA1 (dVar 2) dA0)))) (.tp [3, 4]) (dCall 3 (CP (k + 3) i_is_free) (dA1 (dVar 0) (dA1 (dVar 1) (dA1 (dVar 4) dA0)))) (dVar 3) [3, 4] [some (.d B.book), some (.d (ND (B.lot j))), some (.d (iD g)), none, none] M = some (.nl ((fnb B.n j g).map iD), M) := by
    rw [lcF2 (nbp B.n g) (fun p => iD p.1) (fun p => iD p.2) (fun p => decide (p.2 ≤ j)) (fun p => iD p.1) (M' := M) (bt := true) (by simp [e0, okI]) (by
      unfold nbp
      rw [List.length_append]
      split <;> split <;> simp) (fun p hp => by
      have h1 := L_is_free ok k j p.2 M (nbp_lt hg p hp).2
      simp [h1]) (fun p hp _ => by simp)]
    unfold fnb
    rw [List.map_map]
    rfl
  rw [c_free_neighbours]
  simp [b_free_neighbours, runFn, env0, e1, endNl]
end
end PV

set_option maxRecDepth 100000
set_option maxHeartbeats 1000000
/-! distances -/
namespace PV
open PySem
def lkN (f : List (Nat × Nat)) (h : Nat) : Option Nat := (f.find? fun p => decide (p.1 = h)).map (·.2)
def kvD (f : List (Nat × Nat)) : List (Int × Int) := f.map fun p => ((p.1 : Int), (p.2 : Int))
theorem look_kvD (h : Nat) : ∀ f : List (Nat × Nat), look (kvD f) (h : Int) = (lkN f h).map fun n : Nat => (n : Int)
  | [] => rfl
  | p :: r => by
    have ih := look_kvD h r
    unfold look lkN kvD at *
    rw [List.map_cons, List.find?_cons, List.find?_cons]
    by_cases e : p.1 = h
    · have e' : ((p.1 : Nat) : Int) = (h : Int) := by omega
      simp [e]
    · have e' : ¬ ((p.1 : Nat) : Int) = (h : Int) := by omega
      simp only [e, e', decide_false]
      exact ih
theorem put_kvD {f : List (Nat × Nat)} {h v : Nat} (e : lkN f h = none) : putI (kvD f) (h : Int) (v : Int) = kvD (f ++ [(h, v)]) := by
  have h1 : ((kvD f).any fun p => decide (p.1 = (h : Int))) = false := by
    rw [List.any_eq_false]
    intro p hp
    unfold kvD at hp
    rw [List.mem_map] at hp
    obtain ⟨q, hq, rfl⟩ := hp
    unfold lkN at e
    rw [Option.map_eq_none_iff, List.find?_eq_none] at e
    have := e q hq
    simp only [decide_eq_true_eq] at this ⊢
    omega
  unfold putI
  rw [h1, if_neg Bool.false_ne_true]
  unfold kvD
  rw [List.map_append]
  rfl
abbrev BS := List (Nat × Nat) × List Nat
def bs1 (here : Nat) (s : BS) (h : Nat) : Option BS := if (lkN s.1 h).isSome then some s else (lkN s.1 here).bind fun z => if s.1.length < 100 ∧ s.2.length < 100 then some (s.1 ++ [(h, z + 1)], s.2 ++ [h]) else none
def bs1s (here : Nat) : List Nat → BS → Option BS
  | [], s => some s
  | h :: r, s => (bs1 here s h).bind (bs1s here r)
def bs2 (n : Nat) (nb : Nat → List Nat) : List Nat → BS → Option BS
  | [], s => some s
  | here :: r, s => if here < n then (bs1s here (nb here) s).bind (bs2 n nb r) else none
def bfs (n : Nat) (nb : Nat → List Nat) : Nat → List (Nat × Nat) → List Nat → Option (List (Nat × Nat))
  | 0, f, w => if w = [] then some f else none
  | d + 1, f, w => if w = [] then some f else if (w.all fun x => decide (x < 64)) then (bs2 n nb w (f, [])).bind fun s => bfs n nb d s.1 s.2 else none
structure DS (M : Sto) (p : Nat) (s : BS) (S : Sto) : Prop where
  tk : S.take M.length = M
  dc : S[M.length]? = some (.dct (kvD s.1))
  ls : S[p]? = some (.lst (s.2.map iD))
  lt : M.length < p
theorem look_bind {S : Sto} {k : Nat} {f : List (Nat × Nat)} {h : Nat} (e : S[k]? = some (.dct (kvD f))) : dctOf (.loc k) S = some (kvD f) := x_dct3 e
theorem set_tk {S M : Sto} {i : Nat} {c : Cell} (h : S.take M.length = M) (hi : M.length ≤ i) : (S.set i c).take M.length = M := by
  rw [List.take_set_of_le hi, h]
theorem get_set {S : Sto} {i : Nat} {c : Cell} {d : Cell} (h : S[i]? = some d) : (S.set i c)[i]? = some c := by
  obtain ⟨h1, _⟩ := List.getElem?_eq_some_iff.mp h
  rw [List.getElem?_set_self h1]
theorem get_set_ne {S : Sto} {i j : Nat} {c : Cell} (h : i ≠ j) : (S.set i c)[j]? = S[j]? := List.getElem?_set_ne h
section
variable {B : Bk} {M : Sto} {p : Nat}
def bodyB : DenS := sSeq (sIf (dInD true (fIn true) (dVar 7) (dVar 3)) (sSeq (sPut (dVar 3) (dVar 7) (dBin false fAdd (dIdx (dVar 3) (dVar 6)) (dC (.int 1)))) (sSeq (sExpr (dMeth isLoc mAppend (dVar 5) (dA1 (dVar 7) dA0))) sNil)) (sNil)) sNil
theorem bodyB_ok {here h : Nat} {s s' : BS} (e : bs1 here s h = some s') {a0 a1 a2 w4 : Option Val} {S : Sto} (hS : DS M p s S) :
    ∃ S', bodyB [a0, a1, a2, some (.loc M.length), w4, some (.loc p), some (.d (iD here)), some (.d (iD h))] S = some (.nx [a0, a1, a2, some (.loc M.length), w4, some (.loc p), some (.d (iD here)), some (.d (iD h))] S') ∧ DS M p s' S' := by
  unfold bs1 at e
  by_cases h1 : (lkN s.1 h).isSome = true
  · rw [if_pos h1] at e
    cases e
    refine ⟨S, ?_, hS⟩
    simp [bodyB, look_bind (h := h) hS.dc, look_kvD, h1]
  · rw [if_neg h1] at e
    obtain ⟨z, h2, e⟩ := Option.bind_eq_some_iff.mp e
    split at e
    · rename_i hz
      cases e
      have h3 : lkN s.1 h = none := by
        cases hh : lkN s.1 h with
        | none => rfl
        | some _ => rw [hh] at h1; exact absurd rfl h1
      have h4 := put_kvD (v := z + 1) h3
      have h5 : (kvD s.1).length < 100000 := by unfold kvD; rw [List.length_map]; omega
      have h6 : (S.set M.length (.dct (kvD (s.1 ++ [(h, z + 1)]))))[p]? = some (.lst (s.2.map iD)) := by rw [get_set_ne (by have := hS.lt; omega)]; exact hS.ls
      have h7 : (s.2.map iD).length < 100000 := by rw [List.length_map]; omega
      have h8 : putAt (.loc M.length) (.d (iD h)) (.d (.int ((z : Int) + 1))) S = some (S.set M.length (.dct (kvD (s.1 ++ [(h, z + 1)])))) := by
        unfold putAt
        simp only [hS.dc, big, h5, if_true]
        rw [show ((z : Int) + 1) = ((z + 1 : Nat) : Int) by omega, h4]
      refine ⟨(S.set M.length (.dct (kvD (s.1 ++ [(h, z + 1)])))).set p (.lst ((s.2 ++ [h]).map iD)), ?_, ?_⟩
      · simp only [List.length_map] at h7
        simp [bodyB, look_bind (h := h) hS.dc, look_kvD, h1, h3, h2, h8, x_isloc h6, x_append h6, h7]
      · refine ⟨set_tk (set_tk hS.tk (Nat.le_refl _)) (Nat.le_of_lt hS.lt), ?_, get_set h6, hS.lt⟩
        rw [get_set_ne (by have := hS.lt; omega)]
        exact get_set hS.dc
    · cases e
theorem loopB {here : Nat} : ∀ (nbs : List Nat) (s s' : BS), bs1s here nbs s = some s' → ∀ (a0 a1 a2 w4 a7 : Option Val) (S : Sto), DS M p s S →
    ∃ b7 S', forGo (.nm 7) bodyB (okI (nbs.map iD)) [a0, a1, a2, some (.loc M.length), w4, some (.loc p), some (.d (iD here)), a7] S = some (.nx [a0, a1, a2, some (.loc M.length), w4, some (.loc p), some (.d (iD here)), b7] S') ∧ DS M p s' S'
  | [], s, s', e, a0, a1, a2, w4, a7, S, hS => by
    cases e
    exact ⟨a7, S, rfl, hS⟩
  | h :: r, s, s', e, a0, a1, a2, w4, a7, S, hS => by
    obtain ⟨s1, e1, e2⟩ := Option.bind_eq_some_iff.mp e
    obtain ⟨S1, k1, k2⟩ := bodyB_ok e1 (a0 := a0) (a1 := a1) (a2 := a2) (w4 := w4) hS
    obtain ⟨b7, S2, k3, k4⟩ := loopB r s1 s' e2 a0 a1 a2 w4 (some (.d (iD h))) S1 k2
    refine ⟨b7, S2, ?_, k4⟩
    show (forGo (.nm 7) bodyB ((iD h, true) :: okI (r.map iD)) _ S) = _
    unfold forGo
    simp only [x_tgo1, Option.bind_some]
    show ((bodyB [a0, a1, a2, some (.loc M.length), w4, some (.loc p), some (.d (iD here)), some (.d (iD h))] S).bind _) = _
    rw [k1]
    exact k3
def bodyA (k : Nat) : DenS := sSeq (sFor (dIter (dCall 3 (CP k i_free_neighbours) (dA1 (dVar 0) (dA1 (dVar 1) (dA1 (dVar 6) dA0))))) (.nm 7) bodyB) sNil
theorem loopA (ok : B.Ok) (k j : Nat) : ∀ (w : List Nat) (s s' : BS), bs2 B.n (fnb B.n j) w s = some s' → ∀ (a2 w4 a6 a7 : Option Val) (S : Sto), DS M p s S →
    ∃ b6 b7 S', forGo (.nm 6) (bodyA (k + 4)) (okI (w.map iD)) [some (.d B.book), some (.d (ND (B.lot j))), a2, some (.loc M.length), w4, some (.loc p), a6, a7] S = some (.nx [some (.d B.book), some (.d (ND (B.lot j))), a2, some (.loc M.length), w4, some (.loc p), b6, b7] S') ∧ DS M p s' S'
  | [], s, s', e, a2, w4, a6, a7, S, hS => by
    cases e
    exact ⟨a6, a7, S, rfl, hS⟩
  | here :: r, s, s', e, a2, w4, a6, a7, S, hS => by
    unfold bs2 at e
    split at e
    · rename_i hh
      obtain ⟨s1, e1, e2⟩ := Option.bind_eq_some_iff.mp e
      obtain ⟨b7, S1, k1, k2⟩ := loopB (M := M) (p := p) _ s s1 e1 (some (.d B.book)) (some (.d (ND (B.lot j)))) a2 w4 a7 S hS
      obtain ⟨b6', b7', S2, k3, k4⟩ := loopA ok k j r s1 s' e2 a2 w4 (some (.d (iD here))) b7 S1 k2
      refine ⟨b6', b7', S2, ?_, k4⟩
      show (forGo (.nm 6) (bodyA (k + 4)) ((iD here, true) :: okI (r.map iD)) _ S) = _
      unfold forGo
      simp only [x_tgo1, Option.bind_some]
      have h1 := L_free_neighbours ok k j here S hh
      have h2 : bodyA (k + 4) [some (.d B.book), some (.d (ND (B.lot j))), a2, some (.loc M.length), w4, some (.loc p), some (.d (iD here)), a7] S = some (.nx [some (.d B.book), some (.d (ND (B.lot j))), a2, some (.loc M.length), w4, some (.loc p), some (.d (iD here)), b7] S1) := by
        simp [bodyA, h1, k1]
      show ((bodyA (k + 4) [some (.d B.book), some (.d (ND (B.lot j))), a2, some (.loc M.length), w4, some (.loc p), some (.d (iD here)), a7] S).bind _) = _
      rw [h2]
      exact k3
    · cases e
/-- the waiting ones -/
def WT (M S : Sto) (w : List Nat) (x : Val) : Prop := x = .d (.list (w.map iD)) ∨ ∃ p, x = .loc p ∧ M.length < p ∧ S[p]? = some (.lst (w.map iD))
def bodyW (k : Nat) : DenS := sSeq (sSet 5 true (dLst (dA0))) (sSeq (sFor (dIter (dVar 4)) (.nm 6) (bodyA k)) (sSeq (sSet 4 false (dVar 5)) sNil))
theorem whileD (ok : B.Ok) (k j : Nat) : ∀ (d : Nat) (f f' : List (Nat × Nat)) (w : List Nat), bfs B.n (fnb B.n j) d f w = some f' → ∀ (fuel : Nat) (a2 a5 a6 a7 : Option Val) (x : Val) (S : Sto), d < fuel → (∀ y ∈ w, y < 64) → S.take M.length = M → S[M.length]? = some (.dct (kvD f)) → WT M S w x →
    ∃ ρ' S', whileGo (dBin true fNe (dVar 4) (dLst (dA0))) (bodyW (k + 4)) fuel [some (.d B.book), some (.d (ND (B.lot j))), a2, some (.loc M.length), some x, a5, a6, a7] S = some (.nx ρ' S') ∧ ρ'[3]? = some (some (.loc M.length)) ∧ S'.take M.length = M ∧ S'[M.length]? = some (.dct (kvD f')) := by
  have hc : ∀ (w : List Nat) (x : Val) (S : Sto) (a2 a5 a6 a7 : Option Val), (∀ y ∈ w, y < 64) → WT M S w x → dBin true fNe (dVar 4) (dLst (dA0)) [some (.d B.book), some (.d (ND (B.lot j))), a2, some (.loc M.length), some x, a5, a6, a7] S = dR (.bool (!w.isEmpty)) S := by
    intro w x S a2 a5 a6 a7 hw hx
    have h1 := (fNeE hw).2.2.1
    rcases hx with rfl | ⟨q, rfl, _, hq⟩
    · simp [h1]
    · simp [x_rd2 hq, h1]
  intro d
  induction d with
  | zero =>
    intro f f' w e fuel a2 a5 a6 a7 x S hf hw ht hdc hx
    obtain ⟨m, rfl⟩ : ∃ m, fuel = m + 1 := ⟨fuel - 1, by omega⟩
    unfold bfs at e
    split at e
    · rename_i hw0
      cases e
      refine ⟨[some (.d B.book), some (.d (ND (B.lot j))), a2, some (.loc M.length), some x, a5, a6, a7], S, ?_, rfl, ht, hdc⟩
      unfold whileGo
      rw [hc w x S a2 a5 a6 a7 hw hx, hw0]
      rfl
    · cases e
  | succ d ih =>
    intro f f' w e fuel a2 a5 a6 a7 x S hf hw ht hdc hx
    obtain ⟨m, rfl⟩ : ∃ m, fuel = m + 1 := ⟨fuel - 1, by omega⟩
    unfold bfs at e
    split at e
    · rename_i hw0
      cases e
      refine ⟨[some (.d B.book), some (.d (ND (B.lot j))), a2, some (.loc M.length), some x, a5, a6, a7], S, ?_, rfl, ht, hdc⟩
      unfold whileGo
      rw [hc w x S a2 a5 a6 a7 hw hx, hw0]
      rfl
    · rename_i hw0
      split at e
      · obtain ⟨s1, e1, e2⟩ := Option.bind_eq_some_iff.mp e
        have hle : M.length < S.length := (List.getElem?_eq_some_iff.mp hdc).1
        have g0 : (S ++ [Cell.lst []])[S.length]? = some (.lst []) := by simp
        have g1 : (S ++ [Cell.lst []]).take M.length = M := by rw [List.take_append_of_le_length (by omega), ht]
        have g2 : (S ++ [Cell.lst []])[M.length]? = some (.dct (kvD f)) := by rw [List.getElem?_append_left hle]; exact hdc
        have hin : ∃ S1, dIter (dVar 4) [some (.d B.book), some (.d (ND (B.lot j))), a2, some (.loc M.length), some x, some (.loc S.length), a6, a7] (S ++ [Cell.lst []]) = some (okI (w.map iD), S1) ∧ DS M S.length (f, []) S1 := by
          rcases hx with rfl | ⟨q, rfl, hq1, hq⟩
          · exact ⟨_, by simp, g1, g2, g0, hle⟩
          · have hq3 : q < S.length := (List.getElem?_eq_some_iff.mp hq).1
            have hq2 : (S ++ [Cell.lst []])[q]? = some (.lst (w.map iD)) := by rw [List.getElem?_append_left hq3]; exact hq
            refine ⟨(S ++ [Cell.lst []]).set q .dead, by simp [x_iter4 hq2], set_tk g1 (by omega), ?_, ?_, hle⟩
            · rw [get_set_ne (by omega)]; exact g2
            · rw [get_set_ne (by omega)]; exact g0
        obtain ⟨S1, i1, i2⟩ := hin
        obtain ⟨b6, b7, S2, k1, k2⟩ := loopA (M := M) (p := S.length) ok k j w (f, []) s1 e1 a2 (some x) a6 a7 S1 i2
        have hb : bodyW (k + 4) [some (.d B.book), some (.d (ND (B.lot j))), a2, some (.loc M.length), some x, a5, a6, a7] S = some (.nx [some (.d B.book), some (.d (ND (B.lot j))), a2, some (.loc M.length), some (.loc S.length), some (.loc S.length), b6, b7] S2) := by
          have i1' : dIter (dVar 4) [some (.d B.book), some (.d (ND (B.lot j))), a2, some (.loc M.length), some x, some (.loc S.length), a6, a7] (S ++ [Cell.lst []]) = some (okI (w.map iD), S1) := i1
          simp [bodyW, -x_dIter, i1', k1]
        have hw2 : ∀ y ∈ s1.2, y < 64 := by
          cases d with
          | zero =>
            unfold bfs at e2
            split at e2
            · rename_i h0
              rw [h0]
              intro y hy
              cases hy
            · cases e2
          | succ d =>
            unfold bfs at e2
            split at e2
            · rename_i h0
              rw [h0]
              intro y hy
              cases hy
            · split at e2
              · rename_i h0
                rw [List.all_eq_true] at h0
                intro y hy
                exact of_decide_eq_true (h0 y hy)
              · cases e2
        obtain ⟨ρ', S', j1, j2, j3, j4⟩ := ih s1.1 f' s1.2 e2 m a2 (some (.loc S.length)) b6 b7 (.loc S.length) S2 (by omega) hw2 k2.tk k2.dc (.inr ⟨S.length, rfl, k2.lt, k2.ls⟩)
        refine ⟨ρ', S', ?_, j2, j3, j4⟩
        unfold whileGo
        rw [hc w x S a2 a5 a6 a7 hw hx]
        have hwe : w.isEmpty = false := by cases w with
          | nil => exact absurd rfl hw0
          | cons _ _ => rfl
        rw [hwe]
        show ((bodyW (k + 4) _ S).bind _) = _
        rw [hb]
        exact j1
      · cases e
theorem L_distances (ok : B.Ok) (k j g : Nat) (M : Sto) (hM : Cl M) (hg : g < B.n) {f : List (Nat × Nat)} (e : bfs B.n (fnb B.n j) 30 [(g, 0)] [g] = some f) : CP (k + 5) i_distances [.d B.book, .d (ND (B.lot j)), .d (iD g)] M = some (.nd (kvD f), M) := by
  have := ok.n24
  obtain ⟨ρ', S', h1, h2, h3, h4⟩ := whileD (M := M) ok k j 30 [(g, 0)] f [g] e 1000 (some (.d (iD g))) none none none (.d (.list ([g].map iD))) (M ++ [.dct (kvD [(g, 0)])]) (by omega) (by
    intro y hy
    rw [List.mem_singleton] at hy
    omega) (by simp) (by simp) (.inl rfl)
  have h1' : sWhile (dBin true fNe (dVar 4) (dLst (dA0))) (bodyW (k + 4)) [some (.d B.book), some (.d (ND (B.lot j))), some (.d (iD g)), some (.loc M.length), some (.d (.list [iD g])), none, none, none] (M ++ [.dct [((g : Int), 0)]]) = some (.nx ρ' S') := h1
  unfold bodyW bodyA bodyB at h1'
  have hc : clean M.length S' = true := by
    unfold clean
    rw [h3]
    have := hM
    unfold Cl clean at this
    rwa [List.take_length] at this
  have h5 : endFn M.length (.v (.loc M.length)) S' = some (.nd (kvD f), M) := by
    unfold endFn
    rw [if_pos hc]
    simp [endRes, h4, h3]
  rw [c_distances]
  simp [b_distances, runFn, env0, -x_sWhile]
  rw [h1']
  simp [h2, h5]
end
end PV

set_option maxRecDepth 100000
set_option maxHeartbeats 1000000
/-! regions, ways, trees -/
namespace PV
open PySem
theorem isort_sorted : ∀ {l : List Int}, l.Pairwise (· ≤ ·) → isort l = l
  | [], _ => rfl
  | a :: r, h => by
    rw [List.pairwise_cons] at h
    rw [isort, isort_sorted h.2]
    cases r with
    | nil => rfl
    | cons b r => rw [insI, if_pos (h.1 b List.mem_cons_self)]
theorem nub_const (c : Int) : ∀ {l : List Int}, (∀ x ∈ l, x = c) → ∀ u : List Int, c ∈ u → l.foldl (fun u k => if k ∈ u then u else u ++ [k]) u = u
  | [], _, u, _ => rfl
  | a :: r, h, u, hu => by
    have e := h a List.mem_cons_self
    subst e
    rw [List.foldl_cons, if_pos hu]
    exact nub_const a (fun x hx => h x (List.mem_cons_of_mem _ hx)) u hu
section
variable {B : Bk}
theorem sl_zero {l : List Nat} {g : Nat} (hne : l ≠ []) (h : ∀ x ∈ l, B.sg g x = 0) : B.sl l g = [0] := by
  unfold Bk.sl nubI
  cases l with
  | nil => exact absurd rfl hne
  | cons a r =>
    rw [List.map_cons, List.foldl_cons, h a List.mem_cons_self]
    rw [if_neg (by simp)]
    rw [nub_const 0 (fun x hx => by
      rw [List.mem_map] at hx
      obtain ⟨y, hy, rfl⟩ := hx
      rw [h y (List.mem_cons_of_mem _ hy)]
      rfl) _ (by simp)]
    rfl
theorem sl_one (x g : Nat) : B.sl [x] g = [(B.sg g x : Int)] := rfl
theorem sl_two (ok : B.Ok) {j g : Nat} {r : List Nat} (hne : r ≠ []) (hj : B.sg g j = B.o g) (h : ∀ x ∈ r, B.sg g x = 0) : B.sl (j :: r) g = [0, (B.o g : Int)] := by
  have ho := (ok.o1 g).1
  unfold Bk.sl nubI
  cases r with
  | nil => exact absurd rfl hne
  | cons a r =>
    rw [List.map_cons, List.foldl_cons, List.map_cons, List.foldl_cons, h a List.mem_cons_self, hj]
    rw [if_neg (by simp <;> omega)]
    rw [if_neg (by simp <;> omega)]
    rw [nub_const 0 (fun x hx => by
      rw [List.mem_map] at hx
      obtain ⟨y, hy, rfl⟩ := hx
      rw [h y (List.mem_cons_of_mem _ hy)]
      rfl) _ (by simp)]
    have h1 : ¬ ((B.o g : Int) ≤ ((0 : Nat) : Int)) := by omega
    simp only [List.nil_append, List.singleton_append, isort, insI, if_neg h1]
    rfl
theorem lot_cons {j : Nat} (h : j < B.n) : B.lot j = j :: B.lot (j + 1) := by
  unfold Bk.lot
  rw [show B.n - j = (B.n - (j + 1)) + 1 by omega, List.range'_succ]
theorem lot_ne {j : Nat} (h : j < B.n) : B.lot j ≠ [] := by
  rw [lot_cons h]
  simp
theorem lot_zero : B.lot 0 = List.range B.n := by
  unfold Bk.lot
  rw [List.range_eq_range', Nat.sub_zero]
theorem lot_end (h : 1 ≤ B.n) : B.lot (B.n - 1) = [B.n - 1] := by
  unfold Bk.lot
  rw [show B.n - (B.n - 1) = 1 by omega]
  rfl
theorem sg0 {g x : Nat} (h : g ≤ x) : B.sg g x = 0 := by
  unfold Bk.sg
  rw [if_neg (by omega)]
theorem sgo {x : Nat} : B.sg (x + 1) x = B.o (x + 1) := by
  unfold Bk.sg
  rw [if_pos rfl]
theorem sl_lot0 {j g : Nat} (hj : j < B.n) (hg : g ≤ j) : B.sl (B.lot j) g = [0] := sl_zero (lot_ne hj) fun x hx => sg0 (by have := lot_mem.mp hx; omega)
theorem sl_lot1 (ok : B.Ok) {j : Nat} (hj : j + 1 < B.n) : B.sl (B.lot j) (j + 1) = [0, (B.o (j + 1) : Int)] := by
  rw [lot_cons (by omega)]
  exact sl_two ok (lot_ne hj) sgo fun x hx => sg0 (lot_mem.mp hx).1
theorem one_lot0 (ok : B.Ok) (k : Nat) {j g : Nat} (M : Sto) (hj : j < B.n) (hg : g ≤ j) : CP (k + 2) i_has_one_sign [.d B.rig, .d (ND (B.lot j)), .d (iD g)] M = dR (.bool true) M := by
  rw [L_has_one_sign ok k _ g M (Nat.le_trans (lot_len ok j) (by omega)) lot_lt (by omega), sl_lot0 hj hg]
  rfl
theorem one_lot1 (ok : B.Ok) (k : Nat) {j : Nat} (M : Sto) (hj : j + 1 < B.n) : CP (k + 2) i_has_one_sign [.d B.rig, .d (ND (B.lot j)), .d (iD (j + 1))] M = dR (.bool false) M := by
  rw [L_has_one_sign ok k _ (j + 1) M (Nat.le_trans (lot_len ok j) (by omega)) lot_lt (by omega), sl_lot1 ok hj]
  rfl
theorem one_one (ok : B.Ok) (k : Nat) {x g : Nat} (M : Sto) (hx : x < B.n) (hg : g < B.n) : CP (k + 2) i_has_one_sign [.d B.rig, .d (ND [x]), .d (iD g)] M = dR (.bool true) M := by
  rw [L_has_one_sign ok k [x] g M (by simp) (by simpa using hx) hg, sl_one]
  rfl
theorem parts_lot (ok : B.Ok) (k : Nat) {j : Nat} (M : Sto) (hj : j + 1 < B.n) : CP (k + 2) i_parts_at [.d B.rig, .d (ND (B.lot j)), .d (iD (j + 1))] M = dR (.tuple [.tuple [iD 0, ND (B.lot (j + 1))], .tuple [iD (B.o (j + 1)), ND [j]]]) M := by
  have h1 := sl_lot1 ok hj
  have ho := (ok.o1 (j + 1)).1
  rw [L_parts_at ok k _ (j + 1) M (Nat.le_trans (lot_len ok j) (by omega)) lot_lt hj (by rw [h1]; simp), h1]
  have h2 : (B.lot j).filter (fun x => decide ((B.sg (j + 1) x : Int) = 0)) = B.lot (j + 1) := by
    rw [lot_cons (by omega), List.filter_cons, if_neg (by rw [sgo]; simp; omega)]
    rw [List.filter_eq_self]
    intro x hx
    rw [sg0 (lot_mem.mp hx).1]
    rfl
  have h3 : (B.lot j).filter (fun x => decide ((B.sg (j + 1) x : Int) = (B.o (j + 1) : Int))) = [j] := by
    rw [lot_cons (by omega), List.filter_cons, if_pos (by rw [sgo]; simp)]
    congr 1
    rw [List.filter_eq_nil_iff]
    intro x hx
    rw [sg0 (lot_mem.mp hx).1]
    simp
    omega
  simp only [List.map_cons, List.map_nil, h2, h3]
  rfl
end
/-! what the walks find, for every size -/
def chkA (n j : Nat) : Bool := decide (bfs n (fnb n j) 30 [(0, 0)] [0] = some ((List.range (min (j + 1) (n - 1) + 1)).map fun i => (i, i)))
def chkB (n j : Nat) : Bool := match bfs n (fnb n j) 30 [(j, 0)] [j] with
  | some f => decide (f.length ≤ 100) && (f.all fun p => decide (p.1 ≤ j + 1)) && decide ((f.map (·.1)).filter (fun h => decide (h = j + 1)) = [j + 1]) && decide (lkN f (j + 1) = some 1)
  | none => false
def chkC (n j : Nat) : Bool := match bfs n (fnb n j) 30 [(j + 1, 0)] [j + 1] with
  | some f => decide (lkN f j = some 1) && ((fnb n j j).all fun h => (lkN f h).isSome) && decide ((fnb n j j).filter (fun h => decide ((lkN f h).getD 0 < 1)) = [j + 1])
  | none => false
theorem allA : ∀ n, n < 25 → ∀ j, j < n → chkA n j = true := by decide +kernel
theorem allB : ∀ n, n < 25 → ∀ j, j < n → j + 1 < n → chkB n j = true := by decide +kernel
theorem allC : ∀ n, n < 25 → ∀ j, j < n → j + 1 < n → chkC n j = true := by decide +kernel
end PV

set_option maxRecDepth 100000
set_option maxHeartbeats 1000000
/-! regions, ways, trees -/
namespace PV
open PySem
theorem endT {M M' : Sto} (hM : Cl M) (h : M'.take M.length = M) (d : PyData) : endFn M.length (.v (.d d)) M' = some (.v (.d d), M) := by
  have hc : clean M.length M' = true := by
    unfold clean
    rw [h]
    have := hM
    unfold Cl clean at this
    rwa [List.take_length] at this
  unfold endFn
  rw [if_pos hc]
  simp [endRes, h]
theorem endTn {M M' : Sto} (hM : Cl M) (h : M'.take M.length = M) (d : List PyData) : endFn M.length (.nl d) M' = some (.nl d, M) := by
  have hc : clean M.length M' = true := by
    unfold clean
    rw [h]
    have := hM
    unfold Cl clean at this
    rwa [List.take_length] at this
  unfold endFn
  rw [if_pos hc]
  simp [endRes, h]
theorem fSortedN {l : List Nat} (h : l.Pairwise (· ≤ ·)) : fSorted [.list (l.map iD)] = some (.nl (l.map iD)) := by
  have h1 : intsOf (l.map iD) = some (l.map fun i : Nat => (i : Int)) := intsM l _
  have h2 : isort (l.map fun i : Nat => (i : Int)) = l.map fun i : Nat => (i : Int) := isort_sorted (by
    rw [List.pairwise_map]
    exact List.Pairwise.imp (fun h => by omega) h)
  simp only [fSorted, h1, h2, List.map_map]
  rfl
theorem nbp_len (n g : Nat) : (nbp n g).length ≤ 2 := by
  unfold nbp
  rw [List.length_append]
  by_cases h1 : 1 ≤ g <;> by_cases h2 : g + 1 < n <;> simp [h1, h2]
theorem whileStep {c : Den} {b : DenS} {n : Nat} {ρ ρ2 : Env} {M M1 M2 : Sto} {r : Option Fl} (h1 : c ρ M = dR (.bool true) M1) (h2 : b ρ M1 = some (.nx ρ2 M2)) (h3 : whileGo c b n ρ2 M2 = r) : whileGo c b (n + 1) ρ M = r := by
  unfold whileGo
  rw [h1]
  show ((b ρ M1).bind _) = _
  rw [h2]
  exact h3
theorem whileStop {c : Den} {b : DenS} {n : Nat} {ρ : Env} {M M1 : Sto} (h1 : c ρ M = dR (.bool false) M1) : whileGo c b (n + 1) ρ M = some (.nx ρ M1) := by
  unfold whileGo
  rw [h1]
  rfl
theorem fInNone {Ns : List Nat} {xs : List PyData} (h : ∀ x ∈ xs, PL Ns x = true) : fIn false .none (.list xs) = rbl false := by
  have h1 := plf_all h
  have h2 : inOk .none xs = true := by
    unfold inOk
    simp only [Bool.and_eq_true, decide_eq_true_eq]
    exact ⟨⟨h1.1, rfl⟩, Nat.le_trans (Nat.min_le_right _ _) (by simp [PyData.depth])⟩
  have h3 : (xs.any fun y => PyData.eqv y .none) = false := by
    rw [List.any_eq_false]
    intro x hx
    rcases pl_cases (h x hx) with ⟨n, _, rfl⟩ | ⟨s, _, rfl⟩ | ⟨_, _, ys, _, rfl, _⟩ <;> simp [PyData.eqv]
  simp only [fIn, h2, h3, if_true, Bool.false_eq_true, if_false]
section
variable {B : Bk}
theorem L_region (ok : B.Ok) (k j : Nat) (M : Sto) (hM : Cl M) (hj : j < B.n) : CP (k + 6) i_region_of [.d B.book, .d (ND (B.lot j)), .d (.int 0)] M = dR (ND (List.range (min (j + 1) (B.n - 1) + 1))) M := by
  have hn := ok.n24
  have h0 := of_decide_eq_true (allA B.n (by omega) j hj)
  have e1 : CP (k + 5) i_distances [.d B.book, .d (ND (B.lot j)), .d (.int 0)] M = _ := L_distances ok k j 0 M hM (by omega) h0
  have e2a : ((kvD ((List.range (min (j + 1) (B.n - 1) + 1)).map fun i => (i, i))).map fun kv => PyData.int kv.1) = (List.range (min (j + 1) (B.n - 1) + 1)).map iD := by
    unfold kvD
    rw [List.map_map, List.map_map]
    rfl
  have e2 : fSorted [.list ((kvD ((List.range (min (j + 1) (B.n - 1) + 1)).map fun i => (i, i))).map fun kv => PyData.int kv.1)] = some (.nl ((List.range (min (j + 1) (B.n - 1) + 1)).map iD)) := by
    rw [e2a]
    exact fSortedN (List.Pairwise.imp (fun h => Nat.le_of_lt h) List.pairwise_lt_range)
  rw [c_region_of]
  simp [b_region_of, runFn, env0, e1, x_dct3, e2, endT hM]
theorem L_way (ok : B.Ok) (k j : Nat) (M : Sto) (hM : Cl M) (hj : j + 1 < B.n) : CP (k + 6) i_way_of [.d B.book, .d (ND (B.lot j)), .d (iD j), .d (iD (j + 1))] M = dR (ND [j, j + 1]) M := by
  have hn := ok.n24
  have h0 := allC B.n (by omega) j (by omega) hj
  unfold chkC at h0
  split at h0
  · rename_i f hf
    simp only [Bool.and_eq_true, decide_eq_true_eq, List.all_eq_true] at h0
    obtain ⟨⟨h1, h2⟩, h3⟩ := h0
    have e1 := L_distances ok k j (j + 1) M hM hj hf
    have e2 : ∀ (a6 a7 : Option Val), dLc (dIter (dCall 3 (CP (k + 5) i_free_neighbours) (dA1 (dVar 0) (dA1 (dVar 1) (dA1 (dIdx (dVar 5) (dUn fNeg (dC (.int 1)))) dA0))))) (.nm 7) (dBin false fLt (dIdx (dVar 4) (dVar 7)) (dIdx (dVar 4) (dIdx (dVar 5) (dUn fNeg (dC (.int 1)))))) (dVar 7) [7]
        [some (.d B.book), some (.d (ND (B.lot j))), some (.d (iD j)), some (.d (iD (j + 1))), some (.loc M.length), some (.loc (M.length + 1)), a6, a7] (M ++ [.dct (kvD f), .lst [iD j]]) = some (.nl [iD (j + 1)], M ++ [.dct (kvD f), .lst [iD j]]) := by
      intro a6 a7
      have g1 : (M ++ [.dct (kvD f), .lst [iD j]])[M.length]? = some (.dct (kvD f)) := by simp
      have g2 : (M ++ [.dct (kvD f), .lst [iD j]])[M.length + 1]? = some (.lst [iD j]) := by simp
      have g3 := L_free_neighbours ok (k + 1) j j (M ++ [.dct (kvD f), .lst [iD j]]) (by omega)
      have g4 : L2.atI [iD j] (-1) = some (iD j) := at_last [] (iD j)
      have g5 : look (kvD f) (j : Int) = some 1 := by rw [look_kvD, h1]; rfl
      rw [lcF (fnb B.n j j) iD (fun h => decide ((lkN f h).getD 0 < 1)) iD (M' := M ++ [.dct (kvD f), .lst [iD j]]) (by simp [x_dct4 g2, x_rd2 g2, g4, g3]) (by
        unfold fnb
        rw [List.length_map]
        exact Nat.le_trans (List.length_filter_le _ _) (Nat.le_trans (nbp_len _ _) (by decide))) (fun h hh => by
        have g6 := h2 h hh
        cases hz : lkN f h with
        | none => rw [hz] at g6; cases g6
        | some z =>
          have g7 : look (kvD f) (h : Int) = some (z : Int) := by rw [look_kvD, hz]; rfl
          simp [x_dct3 g1, x_dct4 g2, x_rd2 g2, g4, g5, g7]
          omega) (fun h hh _ => by simp)]
      rw [h3]
      rfl
    have g1 : (M ++ [.dct (kvD f), .lst [iD j]])[M.length]? = some (.dct (kvD f)) := by simp
    have g2 : (M ++ [.dct (kvD f), .lst [iD j]])[M.length + 1]? = some (.lst [iD j]) := by simp
    have g4 : L2.atI [iD j] (-1) = some (iD j) := at_last [] (iD j)
    have g8 : (M ++ [.dct (kvD f), .lst [iD j, iD (j + 1)]])[M.length + 1]? = some (.lst [iD j, iD (j + 1)]) := by simp
    have g9 : L2.atI [iD j, iD (j + 1)] (-1) = some (iD (j + 1)) := at_last [iD j] (iD (j + 1))
    have g10 := fNeN (a := j) (b := j + 1) (by omega) (by omega)
    have g11 := fNeN (a := j + 1) (b := j + 1) (by omega) (by omega)
    have g12 : (M ++ [Cell.dct (kvD f), Cell.lst [iD j]]).set (M.length + 1) (.lst [iD j, iD (j + 1)]) = M ++ [.dct (kvD f), .lst [iD j, iD (j + 1)]] := by simp
    have e3 : sWhile (dBin true fNe (dIdx (dVar 5) (dUn fNeg (dC (.int 1)))) (dVar 3)) (sSeq (sSet 6 false (dLc (dIter (dCall 3 (CP (k + 5) i_free_neighbours) (dA1 (dVar 0) (dA1 (dVar 1) (dA1 (dIdx (dVar 5) (dUn fNeg (dC (.int 1)))) dA0))))) (.nm 7) (dBin false fLt (dIdx (dVar 4) (dVar 7)) (dIdx (dVar 4) (dIdx (dVar 5) (dUn fNeg (dC (.int 1)))))) (dVar 7) [7]))
        (sSeq (sExpr (dMeth isLoc mAppend (dVar 5) (dA1 (dIdx (dVar 6) (dC (.int 0))) dA0))) sNil))
        [some (.d B.book), some (.d (ND (B.lot j))), some (.d (iD j)), some (.d (iD (j + 1))), some (.loc M.length), some (.loc (M.length + 1)), none, none] (M ++ [.dct (kvD f), .lst [iD j]]) =
        some (.nx [some (.d B.book), some (.d (ND (B.lot j))), some (.d (iD j)), some (.d (iD (j + 1))), some (.loc M.length), some (.loc (M.length + 1)), some (.d (.list [iD (j + 1)])), none] (M ++ [.dct (kvD f), .lst [iD j, iD (j + 1)]])) := by
      rw [x_sWhile]
      refine whileStep (n := 999) (M1 := M ++ [.dct (kvD f), .lst [iD j]]) (ρ2 := [some (.d B.book), some (.d (ND (B.lot j))), some (.d (iD j)), some (.d (iD (j + 1))), some (.loc M.length), some (.loc (M.length + 1)), some (.d (.list [iD (j + 1)])), none]) (M2 := M ++ [.dct (kvD f), .lst [iD j, iD (j + 1)]]) ?_ ?_ (whileStop (n := 998) ?_)
      · simp [x_dct4 g2, x_rd2 g2, g4, g10]
      · simp [e2, x_isloc g2, x_append g2, at0, g12]
      · simp [x_dct4 g8, x_rd2 g8, g9, g11]
    have e4 : dctOf (.loc M.length) (M ++ [.dct (kvD f)]) = some (kvD f) := x_dct3 (by simp)
    have e5 : look (kvD f) (j : Int) = some 1 := by rw [look_kvD, h1]; rfl
    rw [c_way_of]
    simp [b_way_of, runFn, env0, e1, e4, e5, -x_sWhile]
    rw [e3]
    simp [x_dct4 g8, x_rd2 g8, endT hM]
  · cases h0
theorem L_nearest (ok : B.Ok) (k j : Nat) (M : Sto) (hM : Cl M) (hj : j + 1 < B.n) : CP (k + 6) i_nearest [.d B.book, .d (ND (B.lot j)), .d (iD j)] M = dR (iD (j + 1)) M := by
  have hn := ok.n24
  have h0 := allB B.n (by omega) j (by omega) hj
  unfold chkB at h0
  split at h0
  · rename_i f hf
    simp only [Bool.and_eq_true, decide_eq_true_eq, List.all_eq_true] at h0
    obtain ⟨⟨⟨h1, h2⟩, h3⟩, h4⟩ := h0
    have e1 := L_distances ok k j j M hM (by omega) hf
    have e2 : dLc (dIter (dVar 3)) (.nm 5) (dNot (dCall 3 (CP (k + 5) i_has_one_sign) (dA1 (dIdx (dVar 0) (dC (.int 0))) (dA1 (dVar 1) (dA1 (dVar 5) dA0))))) (dTup (dA1 (dIdx (dVar 3) (dVar 5)) (dA1 (dVar 5) dA0))) [5]
        [some (.d B.book), some (.d (ND (B.lot j))), some (.d (iD j)), some (.dic (kvD f)), none, none] (M ++ [.dead]) = some (.nl [.tuple [.int 1, iD (j + 1)]], M ++ [.dead]) := by
      rw [lcF (f.map (·.1)) iD (fun h => decide (h = j + 1)) (fun h => .tuple [.int 1, iD (j + 1)]) (M' := M ++ [.dead]) (by simp [kvD, Function.comp_def]) (by rw [List.length_map]; exact Nat.le_trans h1 (by decide)) (fun h hh => by
        rw [List.mem_map] at hh
        obtain ⟨p, hp, rfl⟩ := hh
        have g1 := h2 p hp
        by_cases g2 : p.1 = j + 1
        · have g3 := one_lot1 ok (k + 3) (M ++ [.dead]) hj
          simp [g2] at g3 ⊢
          simp [g3]
        · have g3 := one_lot0 ok (k + 3) (g := p.1) (M ++ [.dead]) (show j < B.n by omega) (by omega)
          simp [g2, g3]) (fun h hh hp => by
        rw [decide_eq_true_eq] at hp
        subst hp
        have g5 : look (kvD f) ((j + 1 : Nat) : Int) = some 1 := by rw [look_kvD, h4]; rfl
        simp at g5
        simp [g5])]
      rw [h3]
      rfl
    have e3 : sLock 3 (sSet 4 false (dLc (dIter (dVar 3)) (.nm 5) (dNot (dCall 3 (CP (k + 5) i_has_one_sign) (dA1 (dIdx (dVar 0) (dC (.int 0))) (dA1 (dVar 1) (dA1 (dVar 5) dA0))))) (dTup (dA1 (dIdx (dVar 3) (dVar 5)) (dA1 (dVar 5) dA0))) [5]))
        [some (.d B.book), some (.d (ND (B.lot j))), some (.d (iD j)), some (.loc M.length), none, none] (M ++ [.dct (kvD f)]) = some (.nx [some (.d B.book), some (.d (ND (B.lot j))), some (.d (iD j)), some (.dic (kvD f)), some (.d (.list [.tuple [.int 1, iD (j + 1)]])), none] (M ++ [.dead])) := by
      have e4 : (M ++ [.dct (kvD f)])[M.length]? = some (.dct (kvD f)) := by simp
      unfold sLock
      simp [e2]
    have e5 : fEq (.list [.tuple [.int 1, iD (j + 1)]]) (.list []) = rbl false := by
      rw [(eqL_pl (xs := [.tuple [.int 1, iD (j + 1)]]) (ys := []) (Ns := [2]) (Ms := []) (by
        intro x hx
        rw [List.mem_singleton] at hx
        subst hx
        simp [PL]
        omega) (by simp) (by simp)).1, eqd_ne (by simp)]
    have e6 : fMin [.list [.tuple [.int 1, iD (j + 1)]]] = dv (.tuple [.int 1, iD (j + 1)]) := by simp [fMin, isPair]
    rw [c_nearest]
    simp [b_nearest, runFn, env0, e1, -x_sLock]
    rw [e3]
    simp [e5, e6, at1, endT hM]
  · cases h0
end
end PV

set_option maxRecDepth 100000
set_option maxHeartbeats 1000000
/-! trees -/
namespace PV
open PySem
def cureT (B : Bk) (x : Nat) : PyData := .tuple [.str "cure", .tuple [], iD (x % B.q)]
def lookT (B : Bk) (w : PyData) (j : Nat) (sub : PyData) : PyData := .tuple [.str "look", w, .tuple [.tuple [iD 0, sub], .tuple [iD (B.o (j + 1)), cureT B j]]]
/-- the tree for the lot that has d + 1 faults -/
def treeT (B : Bk) : Nat → PyData
  | 0 => cureT B (B.n - 1)
  | d + 1 => lookT B (.tuple [iD (B.n - 1 - d)]) (B.n - 2 - d) (treeT B d)
def tN : Nat → List Nat
  | 0 => [3, 2]
  | d + 1 => 3 :: 2 :: 2 :: tN d
theorem wk_c : wordOk "cure" = true := by decide +kernel
theorem wk_l : wordOk "look" = true := by decide +kernel
theorem wk_g : wordOk "go" = true := by decide +kernel
theorem wk_s : wordOk "see" = true := by decide +kernel
theorem tN_len (d : Nat) : (tN d).length = 3 * d + 2 := by
  induction d with
  | zero => rfl
  | succ d ih => simp only [tN, List.length_cons, ih]; omega
theorem tN_cons (d : Nat) : ∃ r, tN d = 3 :: 2 :: r := by
  cases d with
  | zero => exact ⟨[], rfl⟩
  | succ d => exact ⟨2 :: tN d, rfl⟩
section
variable {B : Bk}
theorem mod_lt (ok : B.Ok) (x : Nat) : x % B.q < 64 := by
  have := ok.q2
  have := ok.q16
  have := Nat.mod_lt x (show B.q > 0 by omega)
  omega
theorem o_lt (ok : B.Ok) (g : Nat) : B.o g < 64 := by
  have := (ok.o1 g).2
  omega
theorem pl3 (Ns : List Nat) (a b c : PyData) : PL (3 :: Ns) (.tuple [a, b, c]) = (PL Ns a && (PL Ns b && PL Ns c)) := by simp [PL]
theorem pl2 (Ns : List Nat) (a b : PyData) : PL (2 :: Ns) (.tuple [a, b]) = (PL Ns a && PL Ns b) := by simp [PL]
theorem plS (Ns : List Nat) {s : Str} (h : wordOk s = true) : PL Ns (.str s) = true := by cases Ns <;> simp [PL, h]
theorem pl0 (N : Nat) (Ns : List Nat) : PL (N :: Ns) (.tuple []) = true := by simp [PL]
theorem cure_pl (ok : B.Ok) (d x : Nat) : PL (tN d) (cureT B x) = true := by
  obtain ⟨r, e⟩ := tN_cons d
  rw [e]
  rw [cureT, pl3, plN _ (mod_lt ok x), plS _ wk_c, pl0]
  rfl
theorem look_pl (ok : B.Ok) (d j : Nat) {w : List Nat} {sub : PyData} (hw : w.length ≤ 2) (hw2 : ∀ x ∈ w, x < 64) (h : PL (tN d) sub = true) : PL (tN (d + 1)) (lookT B (ND w) j sub) = true := by
  have h1 := plND (2 :: tN d) hw hw2
  have h2 := plN (tN d) (show 0 < 64 by omega)
  have h3 := plN (tN d) (o_lt ok (j + 1))
  have h4 := cure_pl ok d j
  unfold lookT tN
  rw [pl3, pl2, pl2, pl2, plS _ wk_l, h1, h2, h3, h4, h]
  rfl
theorem tree_pl (ok : B.Ok) : ∀ d, d < B.n → PL (tN d) (treeT B d) = true
  | 0, _ => cure_pl ok 0 _
  | d + 1, h => look_pl ok d _ (w := [B.n - 1 - d]) (by simp) (by have := ok.n24; simp; omega) (tree_pl ok d (by omega))
theorem cut1 (a b : PyData) : cutD [a, b] (some 1) none = [b] := rfl
/-- one look, the way w -/
theorem L_look (ok : B.Ok) (k j g : Nat) (w : List Nat) {Ns : List Nat} {t : PyData} (M : Sto) (hM : Cl M) (hj : j + 1 < B.n) (hw : (g = j + 1 ∧ w = []) ∨ (g = j ∧ w = [j + 1])) (ht : PL Ns t = true)
    (h1 : CP (k + 7) i_tree_from [.d B.book, .d (ND (B.lot (j + 1))), .d (iD (j + 1))] M = dR t M) (h2 : CP (k + 7) i_tree_from [.d B.book, .d (ND [j]), .d (iD (j + 1))] M = dR (cureT B j) M) :
    CP (k + 8) i_look_from [.d B.book, .d (ND (B.lot j)), .d (iD g), .d (iD (j + 1))] M = dR (lookT B (ND w) j t) M := by
  have hn := ok.n24
  have e0 := parts_lot ok (k + 5) M hj
  have e1 : ∀ (W : PyData) (a8 a9 : Option Val), dLc (dIter (dCall 3 (CP (k + 7) i_parts_at) (dA1 (dIdx (dVar 0) (dC (.int 0))) (dA1 (dVar 1) (dA1 (dVar 3) dA0))))) (.tp [6, 7]) (dC (.bool true)) (dTup (dA1 (dVar 6) (dA1 (dCall 3 (CP (k + 7) i_tree_from) (dA1 (dVar 0) (dA1 (dVar 7) (dA1 (dVar 3) dA0)))) dA0))) [6, 7]
      [some (.d B.book), some (.d (ND (B.lot j))), some (.d (iD g)), some (.d (iD (j + 1))), some (.d W), none, none, none, a8, a9] M = some (.nl [.tuple [iD 0, t], .tuple [iD (B.o (j + 1)), cureT B j]], M) := by
    intro W a8 a9
    have := lcM2 (i := 6) (j := 7) (vs := [6, 7]) (bt := true) (te := dTup (dA1 (dVar 6) (dA1 (dCall 3 (CP (k + 7) i_tree_from) (dA1 (dVar 0) (dA1 (dVar 7) (dA1 (dVar 3) dA0)))) dA0))) (it := dIter (dCall 3 (CP (k + 7) i_parts_at) (dA1 (dIdx (dVar 0) (dC (.int 0))) (dA1 (dVar 1) (dA1 (dVar 3) dA0)))))
      (ρ := [some (.d B.book), some (.d (ND (B.lot j))), some (.d (iD g)), some (.d (iD (j + 1))), some (.d W), none, none, none, a8, a9]) (M := M) (M' := M) [(iD 0, ND (B.lot (j + 1)), t), (iD (B.o (j + 1)), ND [j], cureT B j)] (fun p => p.1) (fun p => p.2.1) (fun p => .tuple [p.1, p.2.2]) (by simp [e0, okI]) (by simp) (by
        intro p hp
        rcases List.mem_cons.mp hp with rfl | hp
        · simp [h1]
        · rw [List.mem_singleton] at hp
          subst hp
          simp [h2])
    exact this
  have e2 : ∀ (W : PyData) (a6 a7 : Option Val), dLc (dIter (dVar 5)) (.tp [8, 9]) (dC (.bool true)) (dVar 9) [8, 9] [some (.d B.book), some (.d (ND (B.lot j))), some (.d (iD g)), some (.d (iD (j + 1))), some (.d W), some (.d (.list [.tuple [iD 0, t], .tuple [iD (B.o (j + 1)), cureT B j]])), a6, a7, none, none] M = some (.nl [t, cureT B j], M) := by
    intro W a6 a7
    have := lcM2 (i := 8) (j := 9) (vs := [8, 9]) (bt := true) (te := dVar 9) (it := dIter (dVar 5)) (ρ := [some (.d B.book), some (.d (ND (B.lot j))), some (.d (iD g)), some (.d (iD (j + 1))), some (.d W), some (.d (.list [.tuple [iD 0, t], .tuple [iD (B.o (j + 1)), cureT B j]])), a6, a7, none, none]) (M := M) (M' := M)
      [(iD 0, t), (iD (B.o (j + 1)), cureT B j)] (fun p => p.1) (fun p => p.2) (fun p => p.2) (by simp [okI]) (by simp) (by simp)
    exact this
  have e3 : fIn false .none (.list [t, cureT B j]) = rbl false := by
    have h3 : PyData.canLayAll0 [t, cureT B j] = true := by
      have a1 := (plf _ _ ht).lay
      have a2 := (plf _ _ (cure_pl ok 0 j)).lay
      simp [PyData.canLayAll0, a1, a2]
    have h4 : inOk .none [t, cureT B j] = true := by
      unfold inOk
      simp only [Bool.and_eq_true, decide_eq_true_eq]
      exact ⟨⟨h3, rfl⟩, Nat.le_trans (Nat.min_le_right _ _) (by simp [PyData.depth])⟩
    have h5 : ([t, cureT B j].any fun y => PyData.eqv y .none) = false := by
      rw [List.any_eq_false]
      intro x hx
      have hx' : ∃ Ms, PL Ms x = true := by
        rcases List.mem_cons.mp hx with rfl | hx
        · exact ⟨_, ht⟩
        · rw [List.mem_singleton] at hx
          subst hx
          exact ⟨_, cure_pl ok 0 j⟩
      obtain ⟨Ms, hx'⟩ := hx'
      rcases pl_cases hx' with ⟨n, _, rfl⟩ | ⟨s, _, rfl⟩ | ⟨_, _, ys, _, rfl, _⟩ <;> simp [PyData.eqv]
    simp only [fIn, h4, h5, if_true, Bool.false_eq_true, if_false]
  rcases hw with ⟨rfl, rfl⟩ | ⟨rfl, rfl⟩
  · have e4 := fEqN (a := j + 1) (b := j + 1) (by omega) (by omega)
    rw [c_look_from]
    simp [b_look_from, runFn, env0, e4]
    simp [e1, e2, e3, endD, lookT]
  · have e4 := fEqN (a := g + 1) (b := g) (by omega) (by omega)
    have e5 := L_way ok (k + 1) g M hM hj
    rw [c_look_from]
    simp [b_look_from, runFn, env0, e4, e5, cut1]
    simp [e1, e2, e3, endD, lookT]
/-- the cure that fits two neighbours: none -/
theorem cures_two (ok : B.Ok) {j : Nat} (hj : j + 1 < B.n) : ((List.range B.q).filter fun r => (B.lot j).all fun x => decide (r = x % B.q)) = [] := by
  have := ok.q2
  rw [List.filter_eq_nil_iff]
  intro r hr
  rw [lot_cons (by omega), lot_cons hj]
  simp only [List.all_cons, Bool.and_eq_true, decide_eq_true_eq, not_and]
  intro h1 h2
  exfalso
  have h3 := Nat.div_add_mod j B.q
  have h4 := Nat.div_add_mod (j + 1) B.q
  rw [← h1] at h3
  rw [← h2] at h4
  have h5 : B.q * ((j + 1) / B.q) = B.q * (j / B.q) + 1 := by omega
  have h6 : (B.q * ((j + 1) / B.q)) % B.q = (B.q * (j / B.q) + 1) % B.q := by rw [h5]
  rw [Nat.mul_mod_right, Nat.mul_add_mod, Nat.mod_eq_of_lt (by omega)] at h6
  omega
theorem mod_succ (ok : B.Ok) (j : Nat) : j % B.q ≠ (j + 1) % B.q := by
  have := ok.q2
  intro h
  have h3 := Nat.div_add_mod j B.q
  have h4 := Nat.div_add_mod (j + 1) B.q
  rw [← h] at h4
  have h5 : B.q * ((j + 1) / B.q) = B.q * (j / B.q) + 1 := by omega
  have h6 : (B.q * ((j + 1) / B.q)) % B.q = (B.q * (j / B.q) + 1) % B.q := by rw [h5]
  rw [Nat.mul_mod_right, Nat.mul_add_mod, Nat.mod_eq_of_lt (by omega)] at h6
  omega
theorem cures_one (ok : B.Ok) (x : Nat) : ((List.range B.q).filter fun r => [x].all fun y => decide (r = y % B.q)) = [x % B.q] := by
  have hq := ok.q2
  have hx := Nat.mod_lt x (show B.q > 0 by omega)
  have : ∀ n : Nat, ((List.range n).filter fun r => [x].all fun y => decide (r = y % B.q)) = if x % B.q < n then [x % B.q] else [] := by
    intro n
    induction n with
    | zero => simp
    | succ n ih =>
      rw [List.range_succ, List.filter_append, ih]
      by_cases h1 : x % B.q < n
      · rw [if_pos h1, if_pos (by omega)]
        simp
        omega
      · by_cases h2 : x % B.q = n
        · rw [if_neg h1, if_pos (by omega)]
          simp [h2]
        · rw [if_neg h1, if_neg (by omega)]
          simp
          omega
  rw [this _, if_pos hx]
theorem tree_one (ok : B.Ok) (k x g : Nat) (M : Sto) (hx : x < B.n) (hg : g < B.n) : CP (k + 3) i_tree_from [.d B.book, .d (ND [x]), .d (iD g)] M = dR (cureT B x) M := by
  have e1 := one_one ok k M hx hg
  have e2 := L_cures_of ok (k + 1) [x] M (by simp) (by simpa using hx)
  rw [cures_one ok] at e2
  have e3 := (fNeE (l := [x % B.q]) (by simpa using mod_lt ok x)).1
  rw [c_tree_from]
  simp [b_tree_from, runFn, env0, e1, e2, e3, at0, endD, cureT]
theorem tree_lot (ok : B.Ok) : ∀ (d k : Nat) (M : Sto), Cl M → d < B.n → CP (k + 10 + 2 * d) i_tree_from [.d B.book, .d (ND (B.lot (B.n - 1 - d))), .d (iD (B.n - 1 - d))] M = dR (treeT B d) M := by
  intro d
  have hn := ok.n24
  induction d with
  | zero =>
    intro k M hM hd
    have := tree_one ok (k + 7) (B.n - 1) (B.n - 1) M (by omega) (by omega)
    rw [Nat.sub_zero, lot_end (by omega)]
    exact this
  | succ d ih =>
    intro k M hM hd
    have hj : B.n - 1 - (d + 1) + 1 = B.n - 1 - d := by omega
    have hj' : B.n - 2 - d = B.n - 1 - (d + 1) := by omega
    have e0 := ih k M hM (by omega)
    have e1 := one_lot0 ok (k + 9 + 2 * d) (j := B.n - 1 - (d + 1)) (g := B.n - 1 - (d + 1)) M (by omega) (Nat.le_refl _)
    have e2 := L_cures_of ok (k + 10 + 2 * d) (B.lot (B.n - 1 - (d + 1))) M (Nat.le_trans (lot_len ok _) (by omega)) lot_lt
    rw [cures_two ok (by omega)] at e2
    have e3 := (fNeE (l := []) (by simp)).1
    have e4 := L_nearest ok (k + 5 + 2 * d) (B.n - 1 - (d + 1)) M hM (by omega)
    have e5 := L_look ok (k + 3 + 2 * d) (B.n - 1 - (d + 1)) (B.n - 1 - (d + 1)) [B.n - 1 - d] M hM (by omega) (.inr ⟨rfl, by rw [hj]⟩) (tree_pl ok d (by omega)) (by
      rw [hj]
      rw [show k + 3 + 2 * d + 7 = k + 10 + 2 * d by omega]
      exact e0) (by
      have := tree_one ok (k + 7 + 2 * d) (B.n - 1 - (d + 1)) (B.n - 1 - (d + 1) + 1) M (by omega) (by omega)
      rw [show k + 3 + 2 * d + 7 = k + 7 + 2 * d + 3 by omega]
      exact this)
    rw [show k + 10 + 2 * (d + 1) = k + 11 + 2 * d + 1 by omega, c_tree_from]
    rw [show k + 9 + 2 * d + 2 = k + 11 + 2 * d by omega] at e1
    rw [show k + 10 + 2 * d + 1 = k + 11 + 2 * d by omega] at e2
    rw [show k + 5 + 2 * d + 6 = k + 11 + 2 * d by omega] at e4
    rw [show k + 3 + 2 * d + 8 = k + 11 + 2 * d by omega] at e5
    rw [show treeT B (d + 1) = lookT B (ND [B.n - 1 - d]) (B.n - 1 - (d + 1)) (treeT B d) by rw [treeT, hj']; rfl]
    simp [b_tree_from, runFn, env0, e1, e2, e3, e4, e5, endD]
end
end PV

set_option maxRecDepth 100000
set_option maxHeartbeats 1000000
/-! rows of a code -/
namespace PV
open PySem
@[simp] theorem w_lc : (Str.ofString "look" = Str.ofString "cure") = False := by
  rw [eq_iff_iff]
  exact ⟨fun h => absurd h (by decide +kernel), False.elim⟩
@[simp] theorem w_cl : (Str.ofString "cure" = Str.ofString "look") = False := by
  rw [eq_iff_iff]
  exact ⟨fun h => absurd h (by decide +kernel), False.elim⟩
@[simp] theorem w_gs : (Str.ofString "go" = Str.ofString "see") = False := by
  rw [eq_iff_iff]
  exact ⟨fun h => absurd h (by decide +kernel), False.elim⟩
@[simp] theorem w_sg : (Str.ofString "see" = Str.ofString "go") = False := by
  rw [eq_iff_iff]
  exact ⟨fun h => absurd h (by decide +kernel), False.elim⟩
@[simp] theorem w_cg : (Str.ofString "cure" = Str.ofString "go") = False := by
  rw [eq_iff_iff]
  exact ⟨fun h => absurd h (by decide +kernel), False.elim⟩
@[simp] theorem w_cs : (Str.ofString "cure" = Str.ofString "see") = False := by
  rw [eq_iff_iff]
  exact ⟨fun h => absurd h (by decide +kernel), False.elim⟩
def lookR (B : Bk) (w : List Nat) (j i1 i2 : Nat) : PyData := .tuple [.str "look", ND w, .tuple [.tuple [iD 0, iD i1], .tuple [iD (B.o (j + 1)), iD i2]]]
def addR (r : List PyData) (c : PyData) : List PyData := if r.any (fun y => PyData.eqv y c) then r else r ++ [c]
def idR (r : List PyData) (c : PyData) : Nat := (placeOf c r).getD 0
def codeW (B : Bk) (w : List Nat) (j : Nat) (r : List PyData) : List PyData := addR r (cureT B j) ++ [lookR B w j (r.length - 1) (idR (addR r (cureT B j)) (cureT B j))]
def codeL (B : Bk) : Nat → List PyData
  | 0 => [cureT B (B.n - 1)]
  | d + 1 => codeW B [B.n - 1 - d] (B.n - 2 - d) (codeL B d)
def rN : List Nat := [3, 2, 2]
theorem placeAny {c : PyData} : ∀ {r : List PyData}, r.any (fun y => PyData.eqv y c) = true → ∃ i, placeOf c r = some i ∧ i < r.length
  | [], h => by cases h
  | y :: r, h => by
    unfold placeOf
    by_cases h1 : PyData.eqv y c = true
    · exact ⟨0, by rw [if_pos h1], by simp⟩
    · rw [if_neg h1]
      rw [List.any_cons] at h
      have h2 : PyData.eqv y c = false := by simpa using h1
      rw [h2, Bool.false_or] at h
      obtain ⟨i, e, hi⟩ := placeAny h
      exact ⟨i + 1, by rw [e]; rfl, by simp; omega⟩
theorem placeNew {c : PyData} (hc : PyData.eqv c c = true) : ∀ {r : List PyData}, r.any (fun y => PyData.eqv y c) = false → placeOf c (r ++ [c]) = some r.length
  | [], _ => by simp [placeOf, hc]
  | y :: r, h => by
    rw [List.any_cons, Bool.or_eq_false_iff] at h
    have := placeNew hc h.2
    rw [List.cons_append, placeOf, h.1, if_neg Bool.false_ne_true, this]
    rfl
theorem addR_pre (r : List PyData) (c : PyData) : ∃ t, addR r c = r ++ t ∧ t.length ≤ 1 ∧ ∀ x ∈ t, x = c := by
  unfold addR
  split
  · exact ⟨[], by simp, by simp, by simp⟩
  · exact ⟨[c], rfl, by simp, by simp⟩
theorem addR_any {r : List PyData} {c : PyData} (hc : PyData.eqv c c = true) : (addR r c).any (fun y => PyData.eqv y c) = true := by
  unfold addR
  split
  · assumption
  · rw [List.any_append]
    simp [hc]
section
variable {B : Bk}
theorem cureR_pl (ok : B.Ok) (x : Nat) : PL rN (cureT B x) = true := by
  rw [rN, cureT, pl3, plN _ (mod_lt ok x), plS _ wk_c, pl0]
  rfl
theorem lookR_pl (ok : B.Ok) {w : List Nat} {j i1 i2 : Nat} (hw : w.length ≤ 2) (hw2 : ∀ g ∈ w, g < 64) (h1 : i1 < 64) (h2 : i2 < 64) : PL rN (lookR B w j i1 i2) = true := by
  rw [rN, lookR, pl3, pl2, pl2, pl2, plS _ wk_l, plND _ hw hw2, plN _ h1, plN _ h2, plN _ (o_lt ok (j + 1)), plN _ (show 0 < 64 by omega)]
  rfl
theorem eqv_self {Ns : List Nat} {a : PyData} (h : PL Ns a = true) : PyData.eqv a a = true := (eqv_pl Ns Ns a a h h).mpr rfl
theorem eqv_diff {Ns : List Nat} {a b : PyData} (ha : PL Ns a = true) (hb : PL Ns b = true) (h : a ≠ b) : PyData.eqv a b = false := by
  rw [Bool.eq_false_iff]
  exact fun e => h ((eqv_pl Ns Ns a b ha hb).mp e)
/-- a row at place i; all ways lead above m -/
def RowOk (B : Bk) (m i : Nat) (row : PyData) : Prop := (∃ x, x < B.n ∧ row = cureT B x) ∨ ∃ g j i1 i2, m < g ∧ g < B.n ∧ j + 1 < B.n ∧ i1 < i ∧ i2 < i ∧ row = lookR B [g] j i1 i2
structure RowsOk (B : Bk) (m : Nat) (N : Nat) (r : List PyData) : Prop where
  pos : 0 < r.length
  len : r.length ≤ N
  row : ∀ i row, r[i]? = some row → RowOk B m i row
theorem RowOk.pl (ok : B.Ok) {m i : Nat} {row : PyData} (hi : i < 64) (h : RowOk B m i row) : PL rN row = true := by
  have := ok.n24
  rcases h with ⟨x, _, rfl⟩ | ⟨g, j, i1, i2, _, hg, _, h1, h2, rfl⟩
  · exact cureR_pl ok x
  · exact lookR_pl ok (by simp) (by simp; omega) (by omega) (by omega)
theorem RowsOk.pl (ok : B.Ok) {m N : Nat} {r : List PyData} (h : RowsOk B m N r) (hN : N ≤ 60) : ∀ x ∈ r, PL rN x = true := by
  intro x hx
  obtain ⟨i, hi, e⟩ := List.getElem_of_mem hx
  have := h.len
  exact (h.row i x (by rw [List.getElem?_eq_getElem hi, e])).pl ok (by omega)
theorem RowsOk.add (ok : B.Ok) {m N : Nat} {r : List PyData} (h : RowsOk B m N r) {j : Nat} (hj : j < B.n) : RowsOk B m (N + 1) (addR r (cureT B j)) := by
  obtain ⟨t, e, h1, h2⟩ := addR_pre r (cureT B j)
  have h3 := h.pos
  have h4 := h.len
  rw [e]
  refine ⟨by rw [List.length_append]; omega, by rw [List.length_append]; omega, fun i row hr => ?_⟩
  by_cases hi : i < r.length
  · rw [List.getElem?_append_left hi] at hr
    exact h.row i row hr
  · rw [List.getElem?_append_right (by omega)] at hr
    exact .inl ⟨j, hj, h2 row (List.mem_of_getElem? hr)⟩
theorem idR_lt (ok : B.Ok) {r : List PyData} {j : Nat} : placeOf (cureT B j) (addR r (cureT B j)) = some (idR (addR r (cureT B j)) (cureT B j)) ∧ idR (addR r (cureT B j)) (cureT B j) < (addR r (cureT B j)).length := by
  obtain ⟨i, e, hi⟩ := placeAny (addR_any (r := r) (eqv_self (cureR_pl ok j)))
  unfold idR
  rw [e]
  exact ⟨rfl, hi⟩
theorem RowsOk.code (ok : B.Ok) {m N : Nat} {r : List PyData} (h : RowsOk B m N r) {j g : Nat} (hj : j + 1 < B.n) (hg : g < B.n) (hm : g ≤ m) (hp : 0 < g) : RowsOk B (g - 1) (N + 2) (codeW B [g] j r) := by
  have h1 := h.add ok (j := j) (by omega)
  have h2 := h1.len
  have h3 := h.pos
  have h4 := (idR_lt ok (r := r) (j := j)).2
  obtain ⟨t, e, h5, h6⟩ := addR_pre r (cureT B j)
  have h7 : r.length ≤ (addR r (cureT B j)).length := by rw [e, List.length_append]; omega
  refine ⟨by unfold codeW; simp, by unfold codeW; rw [List.length_append, List.length_singleton]; omega, fun i row hr => ?_⟩
  unfold codeW at hr
  by_cases hi : i < (addR r (cureT B j)).length
  · rw [List.getElem?_append_left hi] at hr
    rcases h1.row i row hr with h8 | ⟨g', j', i1, i2, a1, a2⟩
    · exact .inl h8
    · exact .inr ⟨g', j', i1, i2, by omega, a2⟩
  · rw [List.getElem?_append_right (by omega)] at hr
    have h8 : row = lookR B [g] j (r.length - 1) (idR (addR r (cureT B j)) (cureT B j)) := by
      have := List.mem_of_getElem? hr
      rw [List.mem_singleton] at this
      exact this
    have h9 : i = (addR r (cureT B j)).length := by
      have := (List.getElem?_eq_some_iff.mp hr).1
      rw [List.length_singleton] at this
      omega
    exact .inr ⟨g, j, _, _, by omega, hg, hj, by omega, by omega, h8⟩
theorem codeL_ok (ok : B.Ok) : ∀ d, d < B.n → RowsOk B (B.n - 1 - d) (2 * d + 1) (codeL B d)
  | 0, h => ⟨by simp [codeL], by simp [codeL], fun i row hr => by
      cases i with
      | zero => simp [codeL] at hr; exact .inl ⟨B.n - 1, by omega, hr.symm⟩
      | succ i => simp [codeL] at hr⟩
  | d + 1, h => by
    have := (codeL_ok ok d (by omega)).code ok (j := B.n - 2 - d) (g := B.n - 1 - d) (by omega) (by omega) (Nat.le_refl _) (by omega)
    rw [show B.n - 1 - d - 1 = B.n - 1 - (d + 1) by omega, show 2 * d + 1 + 2 = 2 * (d + 1) + 1 by omega] at this
    exact this
/-- the look row is new -/
theorem look_new (ok : B.Ok) {m N : Nat} {r : List PyData} (h : RowsOk B m N r) (hN : N ≤ 60) {w : List Nat} {j i1 i2 : Nat} (hw : w = [] ∨ ∃ g, w = [g] ∧ g ≤ m ∧ g < 64) (h1 : i1 < 64) (h2 : i2 < 64) : (r.any fun y => PyData.eqv y (lookR B w j i1 i2)) = false := by
  rw [List.any_eq_false]
  intro x hx
  have hp : PL rN (lookR B w j i1 i2) = true := lookR_pl ok (by rcases hw with rfl | ⟨g, rfl, _⟩ <;> simp) (by rcases hw with rfl | ⟨g, rfl, _⟩ <;> simp; omega) h1 h2
  obtain ⟨i, hi, e⟩ := List.getElem_of_mem hx
  have hr := h.row i x (by rw [List.getElem?_eq_getElem hi, e])
  rw [Bool.not_eq_true]
  refine eqv_diff (h.pl ok hN x hx) hp fun e => ?_
  rcases hr with ⟨y, _, rfl⟩ | ⟨g, j', i1', i2', a1, _, _, _, _, rfl⟩
  · unfold cureT lookR at e
    simp [w_cl] at e
  · unfold lookR at e
    simp only [PyData.tuple.injEq, List.cons.injEq] at e
    rcases hw with rfl | ⟨g', rfl, hg, _⟩
    · simp at e
    · have e1 := e.2.1
      simp only [List.map_cons, List.map_nil, List.cons.injEq] at e1
      have := iD_inj.mp e1.1
      omega
end
end PV

set_option maxRecDepth 100000
set_option maxHeartbeats 1000000
/-! joined trees, numbered rows -/
namespace PV
open PySem
theorem endSame {n : Nat} {M' : Sto} (h : M'.length = n) (d : PyData) : endFn n (.v (.d d)) M' = some (.v (.d d), M') := by
  unfold endFn
  split
  · simp [endRes, List.take_of_length_le (Nat.le_of_eq h)]
  · rfl
theorem set_same {S : Sto} {p : Nat} {c : Cell} (h : S[p]? = some c) : S.set p c = S := by
  obtain ⟨h1, h2⟩ := List.getElem?_eq_some_iff.mp h
  rw [← h2]
  exact List.set_getElem_self h1
theorem fget1 (f : Str) (x : Val) : fget [(f, x)] f = some x := by
  unfold fget
  simp
theorem fget_rn (x : Val) : fget [(Str.ofString "rows", x)] (Str.ofString "number") = none := by
  unfold fget
  have : ((Str.ofString "number") == (Str.ofString "rows")) = false := by decide +kernel
  rw [List.lookup_cons, this]
  rfl
structure RS (a p : Nat) (rows : List PyData) (S : Sto) : Prop where
  ins : S[a]? = some (.ins (Str.ofString "Rows") [(Str.ofString "rows", .loc p)])
  lst : S[p]? = some (.lst rows)
theorem RS.ne {a p : Nat} {rows : List PyData} {S : Sto} (h : RS a p rows S) : a ≠ p := by
  intro e
  have h1 := h.ins
  have h2 := h.lst
  rw [e] at h1
  rw [h1] at h2
  cases h2
theorem RS.set {a p : Nat} {rows r : List PyData} {S : Sto} (h : RS a p rows S) : RS a p r (S.set p (.lst r)) := by
  refine ⟨?_, get_set h.lst⟩
  rw [get_set_ne h.ne.symm]
  exact h.ins
section
variable {B : Bk}
theorem fIn_add {rows : List PyData} {c : PyData} (hr : ∀ x ∈ rows, PL rN x = true) (hc : PL rN c = true) : fIn true c (.list rows) = rbl (!rows.any fun y => PyData.eqv y c) ∧ fIn false c (.list rows) = rbl (rows.any fun y => PyData.eqv y c) := by
  have h := (inOk_pl hc hr (by decide)).1
  simp [fIn, h]
theorem shaped_row {rows : List PyData} {c : PyData} (hr : ∀ x ∈ rows, PL rN x = true) (hc : PL rN c = true) : SeqAt.shaped (.list rows) = true ∧ SeqAt.shaped c = true := ⟨shapedL_pl hr (by decide), shaped_pl hc (by decide)⟩
theorem L_num_cure (ok : B.Ok) (k a p x : Nat) (rows : List PyData) (S : Sto) (h : RS a p rows S) (hr : ∀ y ∈ rows, PL rN y = true) (hl : rows.length ≤ 60) :
    CP (k + 1) i_Rows_number [.loc a, .d (cureT B x)] S = some (.v (.d (iD (idR (addR rows (cureT B x)) (cureT B x)))), S.set p (.lst (addR rows (cureT B x)))) := by
  have e1 := fIn_add hr (cureR_pl ok x)
  have e2 := (idR_lt ok (r := rows) (j := x)).1
  have hr' : ∀ y ∈ addR rows (cureT B x), PL rN y = true := by
    obtain ⟨t, e, _, h2⟩ := addR_pre rows (cureT B x)
    rw [e]
    intro y hy
    rcases List.mem_append.mp hy with hy | hy
    · exact hr y hy
    · rw [h2 y hy]; exact cureR_pl ok x
  have e3 := shaped_row hr' (cureR_pl ok x)
  by_cases hin : (rows.any fun y => PyData.eqv y (cureT B x)) = true
  · have e4 : addR rows (cureT B x) = rows := by unfold addR; rw [if_pos hin]
    rw [hin] at e1
    rw [e4] at e2 e3 ⊢
    rw [set_same h.lst]
    rw [c_Rows_number]
    unfold cureT at e1 e2 e3 ⊢
    simp [b_Rows_number, runFn, env0, x_insOf h.ins, fget1, x_dct4 h.lst, x_rd2 h.lst, e1, x_isl5 h.lst, mIndexL, e2, e3, endSame]
  · have hin' : (rows.any fun y => PyData.eqv y (cureT B x)) = false := by simpa using hin
    have e4 : addR rows (cureT B x) = rows ++ [cureT B x] := by unfold addR; rw [if_neg hin]
    rw [hin'] at e1
    rw [e4] at e2 e3 ⊢
    have h2 := h.set (r := rows ++ [cureT B x])
    have h3 : rows.length < 100000 := by omega
    rw [c_Rows_number]
    unfold cureT at e1 e2 e3 h2 ⊢
    simp [b_Rows_number, runFn, env0, x_insOf h.ins, fget1, x_dct4 h.lst, x_rd2 h.lst, e1, x_isloc h.lst, x_append h.lst, h3, x_insOf h2.ins, x_isl5 h2.lst, mIndexL, x_rd2 h2.lst, e2, e3, endSame]
theorem L_num_look (ok : B.Ok) (k a p : Nat) (w : List Nat) {m : Nat} (hw : w = [] ∨ ∃ g, w = [g] ∧ g ≤ m ∧ g < 64) (j : Nat) (hj : j < B.n) (sub : PyData) (rows : List PyData) (S S1 : Sto) (N : Nat) (hN : N ≤ 50) (hr : RowsOk B m N rows) (h : RS a p rows S1) (hS : S[a]? = some (.ins (Str.ofString "Rows") [(Str.ofString "rows", .loc p)])) (hlen : S1.length = S.length)
    (h1 : CP (k + 1) i_Rows_number [.loc a, .d sub] S = some (.v (.d (iD (rows.length - 1))), S1)) :
    CP (k + 2) i_Rows_number [.loc a, .d (lookT B (ND w) j sub)] S = some (.v (.d (iD ((codeW B w j rows).length - 1))), S1.set p (.lst (codeW B w j rows))) := by
  have hrl := hr.len
  have hrp := hr.pl ok (by omega)
  have e0 := L_num_cure ok k a p j rows S1 h hrp (by omega)
  have ha := hr.add ok hj
  have hal := ha.len
  have hap := ha.pl ok (by omega)
  have hi := (idR_lt ok (r := rows) (j := j)).2
  have hp0 := hr.pos
  have h2 := h.set (r := addR rows (cureT B j))
  have hnew := look_new ok ha (by omega) (w := w) (j := j) (i1 := rows.length - 1) (i2 := idR (addR rows (cureT B j)) (cureT B j)) hw (by omega) (by omega)
  have hrow : PL rN (lookR B w j (rows.length - 1) (idR (addR rows (cureT B j)) (cureT B j))) = true := lookR_pl ok (by rcases hw with rfl | ⟨g, rfl, _⟩ <;> simp) (by rcases hw with rfl | ⟨g, rfl, _⟩ <;> simp; omega) (by omega) (by omega)
  have e1 := fIn_add hap hrow
  rw [hnew] at e1
  have hcp : ∀ y ∈ codeW B w j rows, PL rN y = true := by
    intro y hy
    unfold codeW at hy
    rcases List.mem_append.mp hy with hy | hy
    · exact hap y hy
    · rw [List.mem_singleton] at hy
      rw [hy]
      exact hrow
  have e3 := shaped_row hcp hrow
  have e4 : placeOf (lookR B w j (rows.length - 1) (idR (addR rows (cureT B j)) (cureT B j))) (codeW B w j rows) = some ((codeW B w j rows).length - 1) := by
    unfold codeW
    rw [placeNew (eqv_self hrow) hnew]
    simp
  have h3 := h2.set (r := codeW B w j rows)
  have h4 : (addR rows (cureT B j)).length < 100000 := by omega
  have e5 : (addR rows (cureT B j)) ++ [lookR B w j (rows.length - 1) (idR (addR rows (cureT B j)) (cureT B j))] = codeW B w j rows := rfl
  have e6 : ((S1.set p (.lst (addR rows (cureT B j)))).set p (.lst (codeW B w j rows))) = S1.set p (.lst (codeW B w j rows)) := by rw [List.set_set]
  have hS0 := x_insOf hS
  have e7 : ∀ W : PyData, dLc (dIter (dVar 4)) (.tp [5, 6]) (dC (.bool true)) (dTup (dA1 (dVar 5) (dA1 (dMethI (Str.ofString "Rows") (Str.ofString "number") 2 (CP (k + 1) i_Rows_number) (dVar 0) (dA1 (dVar 6) dA0)) dA0))) [5, 6]
      [some (.loc a), some (.d (lookT B (ND w) j sub)), some (.d (.str (Str.ofString "look"))), some (.d W), some (.d (.tuple [.tuple [iD 0, sub], .tuple [iD (B.o (j + 1)), cureT B j]])), none, none, none] S =
      some (.nl [.tuple [iD 0, iD (rows.length - 1)], .tuple [iD (B.o (j + 1)), iD (idR (addR rows (cureT B j)) (cureT B j))]], S1.set p (.lst (addR rows (cureT B j)))) := by
    intro W
    simp [dLc, okI, compGo, hS0, fget_rn, h1, x_insOf h.ins, e0]
  have e8 : PyData.tuple [.str (Str.ofString "look"), ND w, .tuple [.tuple [iD 0, iD (rows.length - 1)], .tuple [iD (B.o (j + 1)), iD (idR (addR rows (cureT B j)) (cureT B j))]]] = lookR B w j (rows.length - 1) (idR (addR rows (cureT B j)) (cureT B j)) := rfl
  rw [c_Rows_number]
  unfold lookT at e7 ⊢
  simp [b_Rows_number, runFn, env0, e7, x_insOf h2.ins, fget1, x_dct4 h2.lst, x_rd2 h2.lst, e1, x_isloc h2.lst, x_append h2.lst, h4, e5, e6, e8]
  rw [e6] at h3
  simp [x_insOf h3.ins, fget1, x_isl5 h3.lst, mIndexL, x_rd2 h3.lst, e3, e4, endSame, hlen]
theorem L_num_tree (ok : B.Ok) (a p : Nat) : ∀ (d k : Nat) (S : Sto), d < B.n → RS a p [] S → CP (k + 2 + d) i_Rows_number [.loc a, .d (treeT B d)] S = some (.v (.d (iD ((codeL B d).length - 1))), S.set p (.lst (codeL B d))) := by
  have hn := ok.n24
  intro d
  induction d with
  | zero =>
    intro k S hd h
    have := L_num_cure ok (k + 1) a p (B.n - 1) [] S h (by simp) (by simp)
    have e : addR [] (cureT B (B.n - 1)) = [cureT B (B.n - 1)] := by unfold addR; simp
    rw [e] at this
    have e2 : idR [cureT B (B.n - 1)] (cureT B (B.n - 1)) = 0 := by
      unfold idR
      simp [placeOf, eqv_self (cureR_pl ok (B.n - 1))]
    rw [e2] at this
    exact this
  | succ d ih =>
    intro k S hd h
    have e0 := ih k S (by omega) h
    have h2 := h.set (r := codeL B d)
    have hr := codeL_ok ok d (by omega)
    have := L_num_look ok (k + 1 + d) a p [B.n - 1 - d] (.inr ⟨B.n - 1 - d, rfl, Nat.le_refl _, by omega⟩) (B.n - 2 - d) (by omega) (treeT B d) (codeL B d) S (S.set p (.lst (codeL B d))) (2 * d + 1) (by omega) hr h2 h.ins (by simp) (by
      rw [show k + 1 + d + 1 = k + 2 + d by omega]
      exact e0)
    rw [List.set_set, show k + 1 + d + 2 = k + 2 + (d + 1) by omega] at this
    exact this
end
end PV

set_option maxRecDepth 100000
set_option maxHeartbeats 1000000
/-! codes -/
namespace PV
open PySem
section
variable {B : Bk}
theorem joined_cure (ok : B.Ok) (k x : Nat) (M : Sto) : CP (k + 1) i_joined [.d (cureT B x)] M = dR (cureT B x) M := by
  rw [c_joined]
  unfold cureT
  simp [b_joined, runFn, env0, endD]
theorem joined_look (ok : B.Ok) (k d j : Nat) (W : PyData) {t : PyData} (M : Sto) (hd : d < 24) (ht : PL (tN d) t = true) (hne : cureT B j ≠ t) (h1 : CP (k + 1) i_joined [.d t] M = dR t M) : CP (k + 2) i_joined [.d (lookT B W j t)] M = dR (lookT B W j t) M := by
  have h2 := joined_cure ok k j M
  have e1 : ∀ T : PyData, dLc (dIter (dVar 3)) (.tp [5, 6]) (dC (.bool true)) (dTup (dA1 (dVar 5) (dA1 (dCall 1 (CP (k + 1) i_joined) (dA1 (dVar 6) dA0)) dA0))) [5, 6] [some (.d T), some (.d (.str (Str.ofString "look"))), some (.d W), some (.d (.tuple [.tuple [iD 0, t], .tuple [iD (B.o (j + 1)), cureT B j]])), none, none, none, none, none] M =
      some (.nl [.tuple [iD 0, t], .tuple [iD (B.o (j + 1)), cureT B j]], M) := by
    intro T
    simp [dLc, okI, compGo, h1, h2]
  have e2 : fEq t t = rbl true := by rw [fEq_pl ht ht (by rw [tN_len]; omega), eqd_self]
  have e3 : fEq (cureT B j) t = rbl false := by rw [fEq_pl (cure_pl ok d j) ht (by rw [tN_len]; omega), eqd_ne hne]
  have e4 : ∀ (T X2 : PyData), dCB false fAll (dA1 (dLc (dIter (dVar 4)) (.tp [8, 6]) (dC (.bool true)) (dBin true fEq (dVar 6) (dVar 7)) [8, 6]) dA0)
      [some (.d T), some (.d (.str (Str.ofString "look"))), some (.d W), some (.d X2), some (.d (.tuple [.tuple [iD 0, t], .tuple [iD (B.o (j + 1)), cureT B j]])), none, none, some (.d t), none] M = dR (.bool false) M := by
    intro T X2
    have : dLc (dIter (dVar 4)) (.tp [8, 6]) (dC (.bool true)) (dBin true fEq (dVar 6) (dVar 7)) [8, 6] [some (.d T), some (.d (.str (Str.ofString "look"))), some (.d W), some (.d X2), some (.d (.tuple [.tuple [iD 0, t], .tuple [iD (B.o (j + 1)), cureT B j]])), none, none, some (.d t), none] M = some (.nl [.bool true, .bool false], M) := by
      simp [dLc, okI, compGo, e2, e3]
    rw [cbA this]
    rfl
  rw [c_joined]
  unfold lookT at e1 ⊢
  simp [b_joined, runFn, env0, e1, at0, at1, e4, endD]
theorem tree_ne (ok : B.Ok) (d : Nat) (h : d + 1 < B.n) : cureT B (B.n - 2 - d) ≠ treeT B d := by
  cases d with
  | zero =>
    unfold treeT cureT
    intro e
    simp only [PyData.tuple.injEq, List.cons.injEq] at e
    have e1 := iD_inj.mp e.2.2.1
    have := mod_succ ok (B.n - 2)
    rw [show B.n - 2 + 1 = B.n - 1 by omega] at this
    exact this e1
  | succ d =>
    unfold treeT cureT lookT
    intro e
    simp at e
theorem joined_tree (ok : B.Ok) : ∀ (d k : Nat) (M : Sto), d < B.n → CP (k + 1 + d) i_joined [.d (treeT B d)] M = dR (treeT B d) M
  | 0, k, M, h => joined_cure ok k _ M
  | d + 1, k, M, h => by
    have h1 := joined_tree ok d k M (by omega)
    have hn := ok.n24
    have := joined_look ok (k + d) d (B.n - 2 - d) (.tuple [iD (B.n - 1 - d)]) M (by omega) (tree_pl ok d (by omega)) (tree_ne ok d h) (by rw [show k + d + 1 = k + 1 + d by omega]; exact h1)
    rw [show k + d + 2 = k + 1 + (d + 1) by omega] at this
    exact this
theorem init_Rows (k a : Nat) (S : Sto) (h : S[a]? = some (.ins (Str.ofString "Rows") [])) : CP (k + 1) i_Rows_init [.loc a] S = some (.v (.d .none), (S ++ [Cell.lst []]).set a (.ins (Str.ofString "Rows") [(Str.ofString "rows", .loc S.length)])) := by
  have ha : a < S.length := (List.getElem?_eq_some_iff.mp h).1
  have h2 : (S ++ [Cell.lst []])[a]? = some (.ins (Str.ofString "Rows") []) := by rw [List.getElem?_append_left ha]; exact h
  have h3 : endFn S.length (.v (.d .none)) ((S ++ [Cell.lst []]).set a (.ins (Str.ofString "Rows") [(Str.ofString "rows", .loc S.length)])) = some (.v (.d .none), (S ++ [Cell.lst []]).set a (.ins (Str.ofString "Rows") [(Str.ofString "rows", .loc S.length)])) := by
    have hc : clean S.length ((S ++ [Cell.lst []]).set a (.ins (Str.ofString "Rows") [(Str.ofString "rows", .loc S.length)])) = false := by
      unfold clean
      rw [List.all_eq_false]
      refine ⟨.ins (Str.ofString "Rows") [(Str.ofString "rows", .loc S.length)], ?_, by simp [celIn, locIn]⟩
      have : (((S ++ [Cell.lst []]).set a (.ins (Str.ofString "Rows") [(Str.ofString "rows", .loc S.length)])).take S.length)[a]? = some (.ins (Str.ofString "Rows") [(Str.ofString "rows", .loc S.length)]) := by
        rw [List.getElem?_take_of_lt ha]
        exact get_set h2
      exact List.mem_of_getElem? this
    unfold endFn
    rw [if_neg (by rw [hc]; exact Bool.false_ne_true)]
  rw [c_Rows_init]
  simp [b_Rows_init, runFn, env0, x_insOf h2, fput, h3]
theorem L_flat (k : Nat) (t : PyData) (rows : List PyData) (i : PyData) (M : Sto) (hM : Cl M) (h : ∀ S a p, RS a p [] S → CP (k + 2) i_Rows_number [.loc a, .d t] S = some (.v (.d i), S.set p (.lst rows))) : CP (k + 3) i_flat [.d t] M = dR (.tuple rows) M := by
  have e1 : CM (k + 2) i_Rows_init = CP (k + 1) i_Rows_init := by rw [CM_succ]
  have e2 := init_Rows k M.length (M ++ [.ins (Str.ofString "Rows") []]) (by simp)
  have e3 : ((M ++ [Cell.ins (Str.ofString "Rows") []] ++ [Cell.lst []]).set M.length (.ins (Str.ofString "Rows") [(Str.ofString "rows", .loc (M ++ [Cell.ins (Str.ofString "Rows") []]).length)])) = M ++ [.ins (Str.ofString "Rows") [(Str.ofString "rows", .loc (M.length + 1))], .lst []] := by simp
  rw [e3] at e2
  have g1 : RS M.length (M.length + 1) [] (M ++ [.ins (Str.ofString "Rows") [(Str.ofString "rows", .loc (M.length + 1))], .lst []]) := ⟨by simp, by simp⟩
  have e4 := h _ _ _ g1
  have e5 : (M ++ [Cell.ins (Str.ofString "Rows") [(Str.ofString "rows", .loc (M.length + 1))], .lst []]).set (M.length + 1) (.lst rows) = M ++ [.ins (Str.ofString "Rows") [(Str.ofString "rows", .loc (M.length + 1))], .lst rows] := by simp
  rw [e5] at e4
  have g2 : RS M.length (M.length + 1) rows (M ++ [.ins (Str.ofString "Rows") [(Str.ofString "rows", .loc (M.length + 1))], .lst rows]) := ⟨by simp, by simp⟩
  rw [c_flat]
  simp [b_flat, runFn, env0, e1, e2, noneR, x_insOf g1.ins, fget_rn, e4, x_insOf g2.ins, fget1, x_rd2 g2.lst, endT hM]
theorem L_coded (k : Nat) (t : PyData) (rows : List PyData) (i : PyData) (M : Sto) (hM : Cl M) (hj : CP (k + 3) i_joined [.d t] M = dR t M) (h : ∀ S a p, RS a p [] S → CP (k + 2) i_Rows_number [.loc a, .d t] S = some (.v (.d i), S.set p (.lst rows))) : CP (k + 4) i_coded [.d t] M = dR (.tuple rows) M := by
  have e1 := L_flat k t rows i M hM h
  rw [c_coded]
  simp [b_coded, runFn, env0, hj, e1, endD]
/-- the code from the lot j.., at j -/
theorem code_lot (ok : B.Ok) (k d : Nat) (M : Sto) (hM : Cl M) (hd : d < B.n) : CP (k + 70) i_code_from [.d B.book, .d (ND (B.lot (B.n - 1 - d))), .d (iD (B.n - 1 - d))] M = dR (.tuple (codeL B d)) M := by
  have hn := ok.n24
  have e1 := tree_lot ok d (k + 59 - 2 * d) M hM hd
  rw [show k + 59 - 2 * d + 10 + 2 * d = k + 69 by omega] at e1
  have e2 := L_coded (k + 65) (treeT B d) (codeL B d) (iD ((codeL B d).length - 1)) M hM (by
    have := joined_tree ok d (k + 67 - d) M hd
    rw [show k + 67 - d + 1 + d = k + 65 + 3 by omega] at this
    exact this) (fun S a p h => by
    have := L_num_tree ok a p d (k + 65 - d) S hd h
    rw [show k + 65 - d + 2 + d = k + 65 + 2 by omega] at this
    exact this)
  have e3 : ∃ ds, treeT B d = .tuple ds := by
    cases d with
    | zero => exact ⟨_, rfl⟩
    | succ d => exact ⟨_, rfl⟩
  obtain ⟨ds, e3⟩ := e3
  rw [e3] at e1 e2
  rw [c_code_from]
  simp [b_code_from, runFn, env0, e1, e2, endD]
theorem code_one (ok : B.Ok) (k x g : Nat) (M : Sto) (hM : Cl M) (hx : x < B.n) (hg : g < B.n) : CP (k + 70) i_code_from [.d B.book, .d (ND [x]), .d (iD g)] M = dR (.tuple [cureT B x]) M := by
  have e1 := tree_one ok (k + 66) x g M hx hg
  have e2 := L_coded (k + 65) (cureT B x) [cureT B x] (iD (idR (addR [] (cureT B x)) (cureT B x))) M hM (joined_cure ok _ x M) (fun S a p h => by
    have := L_num_cure ok (k + 66) a p x [] S h (by simp) (by simp)
    have e : addR [] (cureT B x) = [cureT B x] := by unfold addR; simp
    rw [e] at this ⊢
    exact this)
  rw [c_code_from]
  unfold cureT at e1 e2 ⊢
  simp [b_code_from, runFn, env0, e1, e2, endD]
/-- the code from the lot j.., at j + 1 -/
theorem code_gone (ok : B.Ok) (k j : Nat) (M : Sto) (hM : Cl M) (hj : j + 1 < B.n) : CP (k + 70) i_code_from [.d B.book, .d (ND (B.lot j)), .d (iD (j + 1))] M = dR (.tuple (codeW B [] j (codeL B (B.n - 2 - j)))) M := by
  have hn := ok.n24
  have hd : B.n - 1 - (B.n - 2 - j) = j + 1 := by omega
  have e0 := tree_lot ok (B.n - 2 - j) (k + 57 - 2 * (B.n - 2 - j)) M hM (by omega)
  rw [hd, show k + 57 - 2 * (B.n - 2 - j) + 10 + 2 * (B.n - 2 - j) = k + 60 + 7 by omega] at e0
  have e1 := L_look ok (k + 60) j (j + 1) [] M hM hj (.inl ⟨rfl, rfl⟩) (tree_pl ok (B.n - 2 - j) (by omega)) e0 (by
    have := tree_one ok (k + 64) j (j + 1) M (by omega) (by omega)
    exact this)
  have e2 := one_lot1 ok (k + 66) M hj
  have e3 : CP (k + 69) i_tree_from [.d B.book, .d (ND (B.lot j)), .d (iD (j + 1))] M = dR (lookT B (ND []) j (treeT B (B.n - 2 - j))) M := by
    rw [c_tree_from]
    simp [b_tree_from, runFn, env0, e1, e2, endD]
  have e4 := L_coded (k + 65) (lookT B (ND []) j (treeT B (B.n - 2 - j))) (codeW B [] j (codeL B (B.n - 2 - j))) (iD ((codeW B [] j (codeL B (B.n - 2 - j))).length - 1)) M hM (by
    have h1 := joined_tree ok (B.n - 2 - j) (k + 66 - (B.n - 2 - j)) M (by omega)
    rw [show k + 66 - (B.n - 2 - j) + 1 + (B.n - 2 - j) = k + 66 + 1 by omega] at h1
    have h2 := tree_ne ok (B.n - 2 - j) (by omega)
    rw [show B.n - 2 - (B.n - 2 - j) = j by omega] at h2
    exact joined_look ok (k + 66) (B.n - 2 - j) j (ND []) M (by omega) (tree_pl ok _ (by omega)) h2 h1) (fun S a p h => by
    have h1 := L_num_tree ok a p (B.n - 2 - j) (k + 64 - (B.n - 2 - j)) S (by omega) h
    rw [show k + 64 - (B.n - 2 - j) + 2 + (B.n - 2 - j) = k + 65 + 1 by omega] at h1
    have h2 := L_num_look ok (k + 65) a p [] (.inl rfl) j (by omega) (treeT B (B.n - 2 - j)) (codeL B (B.n - 2 - j)) S (S.set p (.lst (codeL B (B.n - 2 - j)))) (2 * (B.n - 2 - j) + 1) (by omega) (codeL_ok ok _ (by omega)) h.set h.ins (by simp) h1
    rw [List.set_set] at h2
    exact h2)
  rw [c_code_from]
  unfold lookT at e3 e4
  simp [b_code_from, runFn, env0, e3, e4, endD]
end
end PV

set_option maxRecDepth 100000
set_option maxHeartbeats 1000000
/-! starts; the check of codes -/
namespace PV
open PySem
abbrev stD (B : Bk) : PyData := .tuple [ND (List.range B.n), .int 0]
section
variable {B : Bk}
theorem L_is_start (ok : B.Ok) (k : Nat) (M : Sto) : CP (k + 6) i_is_start [.d B.rig, .d (stD B)] M = dR (.bool true) M := by
  have h2 := ok.n2
  have hn := ok.n24
  have e1 : CP (k + 5) i_is_tuple_of [.d (stD B), .d (.int 2), .d (.int 2)] M = dR (.bool true) M := L_is_tuple _ _ _ _ _ (by simp) (by simp)
  have e2 := L_is_lot (B := B) k (List.range B.n) M (by simp; omega) (by simp) List.pairwise_lt_range
  have e3 := (fNeE (l := List.range B.n) (by simp; omega)).1
  have e4 : (List.range B.n).isEmpty = false := by
    rw [List.isEmpty_eq_false_iff]
    intro h
    have := congrArg List.length h
    rw [List.length_range] at this
    simp at this
    omega
  rw [e4] at e3
  have e5 : CP (k + 5) i_is_setting [.d B.rig, .d (.int 0)] M = dR (.bool true) M := L_is_setting (k + 2) 0 M (by omega)
  rw [c_is_start]
  simp [b_is_start, runFn, env0, e1, e2, at0, at1, e3, e5, endD]
theorem L_want_start (ok : B.Ok) (k : Nat) (M : Sto) : CP (k + 7) i_want_start [.d B.rig, .d (stD B)] M = dR .none M := by
  rw [c_want_start]
  simp [b_want_start, runFn, env0, L_is_start ok, endD]
theorem L_made_start (ok : B.Ok) (k : Nat) (M : Sto) : CP (k + 8) i_made_start [.d B.rig, .d (stD B)] M = dR (stD B) M := by
  rw [c_made_start]
  simp [b_made_start, runFn, env0, L_made_rig ok, L_want_start ok, endD]
theorem L_want_fault_in (ok : B.Ok) (k x : Nat) (M : Sto) (hx : x < B.n) : CP (k + 5) i_want_fault_in [.d B.rig, .d (ND (List.range B.n)), .d (iD x)] M = dR .none M := by
  have hn := ok.n24
  have e1 := (fInN (a := x) (l := List.range B.n) (by omega) (by simp; omega)).2.1
  have e2 : decide (x ∈ List.range B.n) = true := by simp [hx]
  rw [e2] at e1
  rw [c_want_fault_in]
  simp [b_want_fault_in, runFn, env0, L_want_fault k x M hx, e1, endD]
theorem code0 (ok : B.Ok) (k : Nat) (M : Sto) (hM : Cl M) : CP (k + 70) i_code_from [.d B.book, .d (ND (List.range B.n)), .d (.int 0)] M = dR (.tuple (codeL B (B.n - 1))) M := by
  have h2 := ok.n2
  have := code_lot ok k (B.n - 1) M hM (by omega)
  rw [Nat.sub_self, lot_zero] at this
  exact this
theorem L_code_for (ok : B.Ok) (k : Nat) (M : Sto) (hM : Cl M) : CP (k + 71) i_code_for [.d B.book, .d (stD B)] M = dR (.tuple (codeL B (B.n - 1))) M := by
  rw [c_code_for]
  simp [b_code_for, runFn, env0, L_made_book ok, L_made_start ok, code0 ok k M hM, endD]
theorem tree0 (ok : B.Ok) (k : Nat) (M : Sto) (hM : Cl M) : ∃ ds, CP (k + 60) i_tree_from [.d B.book, .d (ND (List.range B.n)), .d (.int 0)] M = dR (.tuple ds) M := by
  have h2 := ok.n2
  have hn := ok.n24
  have := tree_lot ok (B.n - 1) (k + 50 - 2 * (B.n - 1)) M hM (by omega)
  rw [Nat.sub_self, lot_zero, show k + 50 - 2 * (B.n - 1) + 10 + 2 * (B.n - 1) = k + 60 by omega] at this
  have e3 : ∃ ds, treeT B (B.n - 1) = .tuple ds := by
    cases B.n - 1 with
    | zero => exact ⟨_, rfl⟩
    | succ d => exact ⟨_, rfl⟩
  obtain ⟨ds, e3⟩ := e3
  rw [e3] at this
  exact ⟨ds, this⟩
theorem L_can_end (ok : B.Ok) (k : Nat) (M : Sto) (hM : Cl M) : CP (k + 61) i_can_end [.d B.book] M = dR (.bool true) M := by
  obtain ⟨ds, e⟩ := tree0 ok k M hM
  have e2 : CP (k + 60) i_home_of [.d B.rig] M = dR (.tuple [ND (List.range B.n), .int 0]) M := L_home_of ok (k + 58) M
  rw [c_can_end]
  simp [b_can_end, runFn, env0, e2, e, endD]
theorem L_solvable (ok : B.Ok) (k : Nat) (M : Sto) (hM : Cl M) : CP (k + 62) i_solvable [.d B.book] M = dR (.bool true) M := by
  rw [c_solvable]
  simp [b_solvable, runFn, env0, L_made_book ok, L_can_end ok k M hM, endD]
theorem L_is_way (ok : B.Ok) (k : Nat) (w : List Nat) (M : Sto) (hw : w.length ≤ 2) (h : ∀ g ∈ w, g < B.n) : CP (k + 4) i_is_way [.d B.rig, .d (ND w)] M = dR (.bool true) M := by
  have e1 : dCB false fAll (dA1 (dLc (dIter (dVar 1)) (.nm 2) (dC (.bool true)) (dCall 2 (CP (k + 3) i_is_below) (dA1 (dVar 2) (dA1 (dCB true fLen (dA1 (dIdx (dVar 0) (dC (.int 3))) dA0)) dA0))) [2]) dA0) [some (.d B.rig), some (.d (ND w)), none] M = dR (.bool true) M :=
    allTrue w iD (by simp) (by omega) fun g hg => by
      have h1 := L_is_bel k M (g : Int) (B.n : Int) (by omega) (by have := h g hg; omega)
      simp [h1]
  have h2 : ¬ (2000 < (w.length : Int)) := by omega
  rw [c_is_way]
  simp [b_is_way, runFn, env0, h2, e1, endD]
theorem fNe22 : fNe (.int 2) (.int 2) = rbl false := by
  have := fNeN (a := 2) (b := 2) (by omega) (by omega)
  exact this
theorem fNe33 : fNe (.int 3) (.int 3) = rbl false := by
  have := fNeN (a := 3) (b := 3) (by omega) (by omega)
  exact this
theorem L_is_branch (k s i m : Nat) (M : Sto) (hs : s < 10) (hi : i < m) : CP (k + 4) i_is_branch [.d (.tuple [iD s, iD i]), .d (iD m)] M = dR (.bool true) M := by
  have e1 := L_is_bel k M (s : Int) 10 (by omega) (by omega)
  have e2 := L_is_bel k M (i : Int) (m : Int) (by omega) (by omega)
  rw [c_is_branch]
  simp [b_is_branch, runFn, env0, fNe22, at0, at1, e1, e2, endD]
theorem L_are_branches (k s i1 i2 m : Nat) (M : Sto) (hs : s < 10) (h0 : 0 < s) (h1 : i1 < m) (h2 : i2 < m) (hm : m < 64) : CP (k + 5) i_are_branches [.d (.tuple [.tuple [iD 0, iD i1], .tuple [iD s, iD i2]]), .d (iD m)] M = dR (.bool true) M := by
  have e1 : dCB false fAll (dA1 (dLc (dIter (dVar 0)) (.nm 2) (dC (.bool true)) (dCall 2 (CP (k + 4) i_is_branch) (dA1 (dVar 2) (dA1 (dVar 1) dA0))) [2]) dA0) [some (.d (.tuple [.tuple [iD 0, iD i1], .tuple [iD s, iD i2]])), some (.d (iD m)), none, none] M = dR (.bool true) M :=
    allTrue [(0, i1), (s, i2)] pD (by simp) (by simp) fun p hp => by
      rcases List.mem_cons.mp hp with rfl | hp
      · simp [L_is_branch k 0 i1 m M (by omega) h1]
      · rw [List.mem_singleton] at hp
        subst hp
        simp [L_is_branch k s i2 m M hs h2]
  have e2 : fEq (.tuple [.tuple [iD 0, iD i1], .tuple [iD s, iD i2]]) (.tuple []) = rbl false := by
    rw [fEq_pl (Ns := [2, 2]) (Ms := [0]) (by rw [pl2, pl2, pl2, plN _ (show 0 < 64 by omega), plN _ (show i1 < 64 by omega), plN _ (show s < 64 by omega), plN _ (show i2 < 64 by omega)]; rfl) (pl0 _ _) (by simp), eqd_ne (by simp)]
  have e3 : dCB false fAll (dA1 (dLc (dRg1 (dA1 (dBin false fSub (dCB true fLen (dA1 (dVar 0) dA0)) (dC (.int 1))) dA0)) (.nm 3) (dC (.bool true)) (dBin false fLt (dIdx (dIdx (dVar 0) (dVar 3)) (dC (.int 0))) (dIdx (dIdx (dVar 0) (dBin false fAdd (dVar 3) (dC (.int 1)))) (dC (.int 0)))) [3]) dA0)
      [some (.d (.tuple [.tuple [iD 0, iD i1], .tuple [iD s, iD i2]])), some (.d (iD m)), none, none] M = dR (.bool true) M :=
    allTrue [0] iD (by simp; exact ⟨by decide, rfl⟩) (by simp) fun p hp => by
      rw [List.mem_singleton] at hp
      subst hp
      simp [at0, at1]
      omega
  rw [c_are_branches]
  simp [b_are_branches, runFn, env0, e1, e2, e3, endD]
theorem row_cure (ok : B.Ok) (k x i : Nat) (M : Sto) : CP (k + 6) i_is_row [.d B.rig, .d (cureT B x), .d (iD i)] M = dR (.bool true) M := by
  have := ok.q2
  have e1 : CP (k + 5) i_is_way [.d B.rig, .d (.tuple [])] M = dR (.bool true) M := L_is_way ok (k + 1) [] M (by simp) (by simp)
  have e2 := L_is_bel (k + 2) M ((x % B.q : Nat) : Int) (B.q : Int) (by omega) (by have := Nat.mod_lt x (show B.q > 0 by omega); omega)
  rw [c_is_row]
  unfold cureT
  simp [b_is_row, runFn, env0, fNe33, at0, at1, at2, e1, e2, endD]
theorem row_look (ok : B.Ok) (k i : Nat) (w : List Nat) (j i1 i2 : Nat) (M : Sto) (hw : w.length ≤ 2) (h : ∀ g ∈ w, g < B.n) (h1 : i1 < i) (h2 : i2 < i) (hi : i < 64) : CP (k + 6) i_is_row [.d B.rig, .d (lookR B w j i1 i2), .d (iD i)] M = dR (.bool true) M := by
  have e1 := L_is_way ok (k + 1) w M hw h
  have ho := ok.o1 (j + 1)
  have e2 := L_are_branches k (B.o (j + 1)) i1 i2 i M (by omega) (by omega) h1 h2 hi
  rw [c_is_row]
  unfold lookR
  simp [b_is_row, runFn, env0, fNe33, at0, at1, at2, e1, e2, endD]
theorem row_ok (ok : B.Ok) (k i m : Nat) {row : PyData} (M : Sto) (hi : i < 64) (h : RowOk B m i row) : CP (k + 6) i_is_row [.d B.rig, .d row, .d (iD i)] M = dR (.bool true) M := by
  rcases h with ⟨x, _, rfl⟩ | ⟨g, j, i1, i2, _, hg, _, h1, h2, rfl⟩
  · exact row_cure ok k x i M
  · exact row_look ok k i [g] j i1 i2 M (by simp) (by simpa using hg) h1 h2 hi
theorem zipAt {α : Type} (l : List α) : ∀ (i : Nat) (x : α × Nat), (l.zipIdx 0)[i]? = some x → l[i]? = some x.1 ∧ x.2 = i := by
  intro i x h
  rw [List.getElem?_zipIdx, Option.map_eq_some_iff] at h
  obtain ⟨a, h1, rfl⟩ := h
  exact ⟨h1, by simp⟩
theorem L_first_wrong (ok : B.Ok) (k : Nat) {m N : Nat} {r : List PyData} (M : Sto) (h : RowsOk B m N r) (hN : N ≤ 60) : CP (k + 7) i_first_wrong [.d B.rig, .d (.tuple r)] M = dR .none M := by
  have hl := h.len
  obtain ⟨ρ2, M2, h1, h2⟩ := forL (g := .tp [2, 3]) (l := r.zipIdx 0) (c := fun x => (PyData.tuple [iD x.2, x.1], false)) (b := sSeq (sIf (dNot (dCall 3 (CP (k + 6) i_is_row) (dA1 (dVar 0) (dA1 (dVar 3) (dA1 (dVar 2) dA0))))) (sSeq (sRet (dVar 2)) sNil) (sNil)) sNil)
    (fun _ ρ M' => M' = M ∧ ∃ a b, ρ = [some (.d B.rig), some (.d (.tuple r)), a, b]) (ρ := [some (.d B.rig), some (.d (.tuple r)), none, none]) (M := M) (by
      rintro i x hx ρ M' ⟨rfl, y, z, rfl⟩
      obtain ⟨h3, h4⟩ := zipAt r i x hx
      have h5 := (List.getElem?_eq_some_iff.mp h3).1
      have e1 := row_ok ok k i m M' (by omega) (h.row i x.1 h3)
      refine ⟨_, _, _, rfl, ?_, rfl, some (.d (iD x.2)), some (.d x.1), rfl⟩
      rw [h4]
      simp [e1]) ⟨rfl, none, none, rfl⟩
  obtain ⟨rfl, y, z, rfl⟩ := h2
  have e2 : enumI 0 r = (r.zipIdx 0).map fun x => (PyData.tuple [iD x.2, x.1], false) := enum_eq r 0
  rw [c_first_wrong]
  simp [b_first_wrong, runFn, env0, e2]
  rw [h1]
  simp [endD]
theorem L_has_size (k : Nat) (r : List PyData) (M : Sto) (h1 : 0 < r.length) (h2 : r.length ≤ 60) : CP (k + 1) i_has_size [.d (.tuple r)] M = dR (.bool true) M := by
  have h3 : (1 : Int) ≤ (r.length : Int) := by omega
  have h4 : (r.length : Int) ≤ 2000 := by omega
  rw [c_has_size]
  simp [b_has_size, runFn, env0, h3, h4, endD]
theorem L_want_code (ok : B.Ok) (k : Nat) {m N : Nat} {r : List PyData} (M : Sto) (h : RowsOk B m N r) (hN : N ≤ 60) : CP (k + 8) i_want_code [.d B.rig, .d (.tuple r)] M = dR .none M := by
  have hl := h.len
  rw [c_want_code]
  simp [b_want_code, runFn, env0, L_has_size (k + 6) r M h.pos (by omega), L_first_wrong ok k M h hN, endD]
theorem L_tells_code (ok : B.Ok) (k : Nat) {m N : Nat} {r : List PyData} (M : Sto) (h : RowsOk B m N r) (hN : N ≤ 60) : CP (k + 8) i_tells_code [.d B.rig, .d (.tuple r)] M = dR (.bool true) M := by
  have hl := h.len
  rw [c_tells_code]
  simp [b_tells_code, runFn, env0, L_has_size (k + 6) r M h.pos (by omega), L_first_wrong ok k M h hN, endD]
end
end PV

set_option maxRecDepth 100000
set_option maxHeartbeats 1000000
/-! runs -/
namespace PV
open PySem
def runF (bk x : PyData) (p : Nat) (kn : PyData) : List (Str × Val) := [(Str.ofString "book", .d bk), (Str.ofString "x", .d x), (Str.ofString "walk", .loc p), (Str.ofString "known", .d kn)]
theorem fr_book (bk x : PyData) (p : Nat) (kn : PyData) : fget (runF bk x p kn) (Str.ofString "book") = some (.d bk) := by
  unfold fget runF
  rw [List.lookup_cons_self]
theorem fr_x (bk x : PyData) (p : Nat) (kn : PyData) : fget (runF bk x p kn) (Str.ofString "x") = some (.d x) := by
  unfold fget runF
  rw [List.lookup_cons, show ((Str.ofString "x") == (Str.ofString "book")) = false by decide +kernel]
  exact List.lookup_cons_self
theorem fr_walk (bk x : PyData) (p : Nat) (kn : PyData) : fget (runF bk x p kn) (Str.ofString "walk") = some (.loc p) := by
  unfold fget runF
  rw [List.lookup_cons, show ((Str.ofString "walk") == (Str.ofString "book")) = false by decide +kernel]
  show List.lookup _ _ = _
  rw [List.lookup_cons, show ((Str.ofString "walk") == (Str.ofString "x")) = false by decide +kernel]
  exact List.lookup_cons_self
theorem fr_known (bk x : PyData) (p : Nat) (kn : PyData) : fget (runF bk x p kn) (Str.ofString "known") = some (.d kn) := by
  unfold fget runF
  rw [List.lookup_cons, show ((Str.ofString "known") == (Str.ofString "book")) = false by decide +kernel]
  show List.lookup _ _ = _
  rw [List.lookup_cons, show ((Str.ofString "known") == (Str.ofString "x")) = false by decide +kernel]
  show List.lookup _ _ = _
  rw [List.lookup_cons, show ((Str.ofString "known") == (Str.ofString "walk")) = false by decide +kernel]
  exact List.lookup_cons_self
theorem fr_no {f : Str} (h1 : (f == Str.ofString "book") = false) (h2 : (f == Str.ofString "x") = false) (h3 : (f == Str.ofString "walk") = false) (h4 : (f == Str.ofString "known") = false) (bk x : PyData) (p : Nat) (kn : PyData) : fget (runF bk x p kn) f = none := by
  unfold fget runF
  rw [List.lookup_cons, h1]
  show List.lookup _ _ = _
  rw [List.lookup_cons, h2]
  show List.lookup _ _ = _
  rw [List.lookup_cons, h3]
  show List.lookup _ _ = _
  rw [List.lookup_cons, h4]
  rfl
theorem fr_go (bk x : PyData) (p : Nat) (kn : PyData) : fget (runF bk x p kn) (Str.ofString "go") = none := fr_no (by decide +kernel) (by decide +kernel) (by decide +kernel) (by decide +kernel) ..
theorem fr_goall (bk x : PyData) (p : Nat) (kn : PyData) : fget (runF bk x p kn) (Str.ofString "go_all") = none := fr_no (by decide +kernel) (by decide +kernel) (by decide +kernel) (by decide +kernel) ..
theorem fr_last (bk x : PyData) (p : Nat) (kn : PyData) : fget (runF bk x p kn) (Str.ofString "last") = none := fr_no (by decide +kernel) (by decide +kernel) (by decide +kernel) (by decide +kernel) ..
theorem s_bx : (Str.ofString "book" = Str.ofString "x") = False := by rw [eq_iff_iff]; exact ⟨fun h => absurd h (by decide +kernel), False.elim⟩
theorem s_bw : (Str.ofString "book" = Str.ofString "walk") = False := by rw [eq_iff_iff]; exact ⟨fun h => absurd h (by decide +kernel), False.elim⟩
theorem s_bk : (Str.ofString "book" = Str.ofString "known") = False := by rw [eq_iff_iff]; exact ⟨fun h => absurd h (by decide +kernel), False.elim⟩
theorem s_xw : (Str.ofString "x" = Str.ofString "walk") = False := by rw [eq_iff_iff]; exact ⟨fun h => absurd h (by decide +kernel), False.elim⟩
theorem s_xk : (Str.ofString "x" = Str.ofString "known") = False := by rw [eq_iff_iff]; exact ⟨fun h => absurd h (by decide +kernel), False.elim⟩
theorem s_wk : (Str.ofString "walk" = Str.ofString "known") = False := by rw [eq_iff_iff]; exact ⟨fun h => absurd h (by decide +kernel), False.elim⟩
theorem put_known (bk x : PyData) (p : Nat) (kn kn' : PyData) : fput (Str.ofString "known") (.d kn') (runF bk x p kn) = runF bk x p kn' := by
  unfold runF
  simp [fput, s_bk, s_xk, s_wk]
def RM (B : Bk) (M : Sto) (x : Nat) (w kn : List Nat) : Sto := M ++ [.ins (Str.ofString "Run") (runF B.book (iD x) (M.length + 1) (ND kn)), .lst (w.map iD)]
def knownAt (B : Bk) (x p : Nat) : List Nat := if x + 1 ≤ p then [x] else B.lot p
section
variable {B : Bk}
theorem rm_ins (M : Sto) (x : Nat) (w kn : List Nat) : (RM B M x w kn)[M.length]? = some (.ins (Str.ofString "Run") (runF B.book (iD x) (M.length + 1) (ND kn))) := by simp [RM]
theorem rm_lst (M : Sto) (x : Nat) (w kn : List Nat) : (RM B M x w kn)[M.length + 1]? = some (.lst (w.map iD)) := by simp [RM]
theorem rm_len (M : Sto) (x : Nat) (w kn : List Nat) : (RM B M x w kn).length = M.length + 2 := by simp [RM]
theorem rm_walk (M : Sto) (x : Nat) (w w' kn : List Nat) : (RM B M x w kn).set (M.length + 1) (.lst (w'.map iD)) = RM B M x w' kn := by simp [RM]
theorem rm_known (M : Sto) (x : Nat) (w kn kn' : List Nat) : (RM B M x w kn).set M.length (.ins (Str.ofString "Run") (runF B.book (iD x) (M.length + 1) (ND kn'))) = RM B M x w kn' := by simp [RM]
theorem rm_take (M : Sto) (x : Nat) (w kn : List Nat) : (RM B M x w kn).take M.length = M := by simp [RM]
theorem init_Run (ok : B.Ok) (k x g : Nat) (l : List Nat) (M : Sto) (hz : l.length ≤ 1000) (hl : ∀ y ∈ l, y < B.n) (hx : x < B.n) (hg : g < B.n) :
    CP (k + 2) i_Run_init [.loc M.length, .d B.book, .d (ND l), .d (iD g), .d (iD x)] (M ++ [.ins (Str.ofString "Run") []]) = some (.v (.d .none), RM B M x [g] (l.filter fun y => [g].all fun h => decide (B.sg h y = B.sg h x))) := by
  have h3 : endFn (M ++ [Cell.ins (Str.ofString "Run") []]).length (.v (.d .none)) (RM B M x [g] (l.filter fun y => [g].all fun h => decide (B.sg h y = B.sg h x))) = some (.v (.d .none), RM B M x [g] (l.filter fun y => [g].all fun h => decide (B.sg h y = B.sg h x))) := by
    have hc : clean (M ++ [Cell.ins (Str.ofString "Run") []]).length (RM B M x [g] (l.filter fun y => [g].all fun h => decide (B.sg h y = B.sg h x))) = false := by
      unfold clean
      rw [List.all_eq_false]
      refine ⟨.ins (Str.ofString "Run") (runF B.book (iD x) (M.length + 1) (ND (l.filter fun y => [g].all fun h => decide (B.sg h y = B.sg h x)))), ?_, by simp [celIn, locIn, runF]⟩
      have : ((RM B M x [g] (l.filter fun y => [g].all fun h => decide (B.sg h y = B.sg h x))).take (M ++ [Cell.ins (Str.ofString "Run") []]).length)[M.length]? = some (.ins (Str.ofString "Run") (runF B.book (iD x) (M.length + 1) (ND (l.filter fun y => [g].all fun h => decide (B.sg h y = B.sg h x))))) := by
        rw [List.getElem?_take_of_lt (by simp)]
        exact rm_ins _ _ _ _
      exact List.mem_of_getElem? this
    unfold endFn
    rw [if_neg (by rw [hc]; exact Bool.false_ne_true)]
  have e1 : ∀ M : Sto, CP (k + 1) i_agreeing_in [.d B.rig, .d (ND l), .d (iD x), .d (.tuple [iD g])] M = dR (ND (l.filter fun y => decide (B.sg g y = B.sg g x))) M := fun M => by
    have := L_agreeing_in ok k l [g] x M hz hl (by simp) (by simpa using hg) hx
    simp at this
    exact this
  have g1 : (M ++ [Cell.ins (Str.ofString "Run") []])[M.length]? = some (.ins (Str.ofString "Run") []) := by simp
  have g2 : (M ++ [Cell.ins (Str.ofString "Run") [(Str.ofString "book", .d B.book)]])[M.length]? = some (.ins (Str.ofString "Run") [(Str.ofString "book", .d B.book)]) := by simp
  have g3 : (M ++ [Cell.ins (Str.ofString "Run") [(Str.ofString "book", .d B.book), (Str.ofString "x", .d (iD x))], .lst [iD g]])[M.length]? = some (.ins (Str.ofString "Run") [(Str.ofString "book", .d B.book), (Str.ofString "x", .d (iD x))]) := by simp
  have g4 : (M ++ [Cell.ins (Str.ofString "Run") [(Str.ofString "book", .d B.book), (Str.ofString "x", .d (iD x)), (Str.ofString "walk", .loc (M.length + 1))], .lst [iD g]])[M.length]? = some (.ins (Str.ofString "Run") [(Str.ofString "book", .d B.book), (Str.ofString "x", .d (iD x)), (Str.ofString "walk", .loc (M.length + 1))]) := by simp
  unfold RM runF at *
  rw [c_Run_init]
  simp at h3
  simp [b_Run_init, runFn, env0, x_insOf g1, x_insOf g2, x_insOf g3, x_insOf g4, fput, s_bx, s_bw, s_xw, s_bk, s_xk, s_wk, e1, h3]
theorem movesSplit {N g : Nat} (h : g < N) : (List.range N).map Bk.moveD = (List.range g).map Bk.moveD ++ Bk.moveD g :: (List.range' (g + 1) (N - g - 1)).map Bk.moveD := by
  rw [show Bk.moveD g :: (List.range' (g + 1) (N - g - 1)).map Bk.moveD = (g :: List.range' (g + 1) (N - g - 1)).map Bk.moveD from rfl, ← List.map_append]
  congr 1
  rw [show g :: List.range' (g + 1) (N - g - 1) = List.range' g (N - g) by rw [show N - g = (N - g - 1) + 1 by omega, List.range'_succ]; rfl]
  rw [List.range_eq_range', List.range_eq_range']
  have := List.range'_append (s := 0) (m := g) (n := N - g) (step := 1)
  rw [show 0 + 1 * g = g by omega, show g + (N - g) = N by omega] at this
  exact this.symm
theorem move_pl {g : Nat} (h : g < 62) : PL [2] (Bk.moveD g) = true := by
  rw [Bk.moveD, pl2, plN _ (by omega), plN _ (by omega)]
  rfl
theorem L_move_between (ok : B.Ok) (k g : Nat) (M : Sto) (hg : g + 1 < B.n) : CP (k + 1) i_move_between [.d B.rig, .d (iD g), .d (iD (g + 1))] M = dR (iD g) M := by
  have hn := ok.n24
  have h1 : ∀ N, N ≤ 24 → ∀ d ∈ (List.range N).map Bk.moveD, PL [2] d = true := by
    intro N hN d hd
    simp only [List.mem_map, List.mem_range] at hd
    obtain ⟨i, hi, rfl⟩ := hd
    exact move_pl (by omega)
  have h2 := placeOf_pl (Ns := [2]) (Ms := [2]) (d := Bk.moveD g) (pre := (List.range g).map Bk.moveD) (post := (List.range' (g + 1) (B.n - 1 - g - 1)).map Bk.moveD) (move_pl (by omega)) (h1 g (by omega)) (by
    simp only [List.mem_map, List.mem_range, not_exists, not_and]
    intro i hi e
    unfold Bk.moveD at e
    simp only [PyData.tuple.injEq, List.cons.injEq] at e
    have := iD_inj.mp e.1
    omega)
  rw [← movesSplit (show g < B.n - 1 by omega), List.length_map, List.length_range] at h2
  have h3 := inOk_pl (Ns := [2]) (Ms := [2]) (d := Bk.moveD g) (xs := (List.range (B.n - 1)).map Bk.moveD) (move_pl (by omega)) (h1 _ (by omega)) (by decide)
  have h4 : (((List.range (B.n - 1)).map Bk.moveD).any fun y => PyData.eqv y (Bk.moveD g)) = true := by
    rw [List.any_eq_true]
    exact ⟨Bk.moveD g, by rw [List.mem_map]; exact ⟨g, by rw [List.mem_range]; omega, rfl⟩, eqv_self (move_pl (by omega))⟩
  have h5 : fIn false (Bk.moveD g) B.movesD = rbl true := by
    show (if inOk _ _ then rbl _ else none) = _
    rw [if_pos h3.1]
    show rbl (((List.range (B.n - 1)).map Bk.moveD).any fun y => PyData.eqv y (Bk.moveD g)) = _
    rw [h4]
  have h6 : SeqAt.shaped (.list ((List.range (B.n - 1)).map Bk.moveD)) = true := shapedL_pl (Ns := [2]) (h1 _ (by omega)) (by decide)
  have h7 : SeqAt.shaped (Bk.moveD g) = true := shaped_pl (Ns := [2]) (move_pl (by omega)) (by decide)
  have h8 : ¬ (((g + 1 : Nat) : Int) < (g : Int)) := by omega
  have h9 : ((g : Int) < ((g + 1 : Nat) : Int)) := by omega
  have e1 : dTup (dA1 (dCB false fMin (dA1 (dVar 1) (dA1 (dVar 2) dA0))) (dA1 (dCB false fMax (dA1 (dVar 1) (dA1 (dVar 2) dA0))) dA0)) [some (.d B.rig), some (.d (iD g)), some (.d (iD (g + 1))), none] M = dR (Bk.moveD g) M := by
    simp [-Int.natCast_add, h8, h9]
  rw [c_move_between]
  simp [b_move_between, runFn, env0, e1, h5, mIndexT, h6, h7, h2, endD]
theorem known_step (ok : B.Ok) {x p : Nat} (hx : x < B.n) (hp : p ≤ x) (hn : p + 1 < B.n) : ((B.lot p).filter fun y => [p + 1].all fun h => decide (B.sg h y = B.sg h x)) = knownAt B x (p + 1) := by
  have ho := (ok.o1 (p + 1)).1
  unfold knownAt
  simp only [List.all_cons, List.all_nil, Bool.and_true]
  by_cases h : x = p
  · subst h
    rw [if_pos (by omega), lot_cons (by omega), List.filter_cons, if_pos (by simp)]
    congr 1
    rw [List.filter_eq_nil_iff]
    intro y hy
    rw [sg0 (lot_mem.mp hy).1, sgo]
    simp
    omega
  · rw [if_neg (by omega), lot_cons (by omega), List.filter_cons, if_neg (by rw [sgo, sg0 (by omega)]; simp; omega)]
    rw [List.filter_eq_self]
    intro y hy
    rw [sg0 (lot_mem.mp hy).1, sg0 (by omega)]
    rfl
theorem L_go (ok : B.Ok) (k x p : Nat) (M : Sto) (hx : x < B.n) (hp : p ≤ x) (hn : p + 1 < B.n) : CP (k + 3) i_Run_go [.loc M.length, .d (iD (p + 1))] (RM B M x (List.range (p + 1)) (B.lot p)) = some (.v (.d .none), RM B M x (List.range (p + 2)) (knownAt B x (p + 1))) := by
  have h24 := ok.n24
  have e1 := L_move_between ok (k + 1) p (RM B M x (List.range (p + 1)) (B.lot p)) hn
  have e2 := L_bar_none ok k (B.lot p) p (RM B M x (List.range (p + 1)) (B.lot p)) lot_lt (by omega) (by
    by_cases h0 : p = 0
    · exact .inl h0
    · exact .inr fun e => by have := lot_mem.mp e; omega)
  have e3 := L_agreeing_in ok (k + 1) (B.lot p) [p + 1] x (RM B M x (List.range (p + 2)) (B.lot p)) (Nat.le_trans (lot_len ok p) (by omega)) lot_lt (by simp) (by simpa using hn) hx
  rw [known_step ok hx hp hn] at e3
  have e4 : L2.atI ((List.range (p + 1)).map iD) (-1) = some (iD p) := by
    rw [List.range_succ, List.map_append]
    exact at_last _ _
  have g1 := rm_ins (B := B) M x (List.range (p + 1)) (B.lot p)
  have g2 := rm_lst (B := B) M x (List.range (p + 1)) (B.lot p)
  have g3 := rm_ins (B := B) M x (List.range (p + 2)) (B.lot p)
  have e5 : (RM B M x (List.range (p + 1)) (B.lot p)).set (M.length + 1) (.lst ((List.range (p + 1)).map iD ++ [iD (p + 1)])) = RM B M x (List.range (p + 2)) (B.lot p) := by
    rw [← rm_walk M x (List.range (p + 1)) (List.range (p + 2)) (B.lot p)]
    congr 2
    rw [show p + 2 = (p + 1) + 1 from rfl, List.range_succ (n := p + 1), List.map_append]
    rfl
  have e6 : p + 1 < 100000 := by omega
  have e7 : (runF B.book (iD x) (M.length + 1) (ND (B.lot p))).length < 900 := by simp [runF]
  have e8 : ∀ W : PyData, dCall 4 (CP (k + 2) i_agreeing_in) (dA1 (dIdx (dFld (Str.ofString "Run") (Str.ofString "book") (dVar 0)) (dC (.int 0))) (dA1 (dFld (Str.ofString "Run") (Str.ofString "known") (dVar 0)) (dA1 (dFld (Str.ofString "Run") (Str.ofString "x") (dVar 0)) (dA1 (dTup (dA1 (dVar 1) dA0)) dA0))))
      [some (.loc M.length), some (.d (iD (p + 1))), some (.d W), some (.d .none)] (RM B M x (List.range (p + 2)) (B.lot p)) = dR (ND (knownAt B x (p + 1))) (RM B M x (List.range (p + 2)) (B.lot p)) := by
    intro W
    have e3' : CP (k + 2) i_agreeing_in [.d B.rig, .d (ND (B.lot p)), .d (iD x), .d (.tuple [iD (p + 1)])] (RM B M x (List.range (p + 2)) (B.lot p)) = dR (ND (knownAt B x (p + 1))) (RM B M x (List.range (p + 2)) (B.lot p)) := e3
    simp [x_insOf g3, fr_book, fr_known, fr_x, e3']
  rw [c_Run_go]
  simp [b_Run_go, runFn, env0, x_insOf g1, fr_book, fr_known, fr_walk, x_dct4 g2, x_rd2 g2, e4, e1, e2, x_isloc g2, x_append g2, e6, e5, x_insOf g3, e8, e7, put_known, rm_known]
  rw [rm_len, ← rm_len (B := B) M x (List.range (p + 2)) (knownAt B x (p + 1))]
  exact endSame rfl _
end
end PV

set_option maxRecDepth 100000
set_option maxHeartbeats 1000000
/-! runs of codes -/
namespace PV
open PySem
section
variable {B : Bk}
theorem L_goall0 (k : Nat) (x : Nat) (w kn : List Nat) (M : Sto) : CP (k + 1) i_Run_go_all [.loc M.length, .d (.tuple [])] (RM B M x w kn) = some (.v (.d .none), RM B M x w kn) := by
  rw [c_Run_go_all]
  simp [b_Run_go_all, runFn, env0, okI, forGo, endD]
theorem L_goall1 (ok : B.Ok) (k x p : Nat) (M : Sto) (hx : x < B.n) (hp : p ≤ x) (hn : p + 1 < B.n) : CP (k + 4) i_Run_go_all [.loc M.length, .d (.tuple [iD (p + 1)])] (RM B M x (List.range (p + 1)) (B.lot p)) = some (.v (.d .none), RM B M x (List.range (p + 2)) (knownAt B x (p + 1))) := by
  have e1 := L_go ok k x p M hx hp hn
  have g1 := rm_ins (B := B) M x (List.range (p + 1)) (B.lot p)
  rw [c_Run_go_all]
  simp [b_Run_go_all, runFn, env0, okI, forGo, x_insOf g1, fr_go, e1]
  rw [rm_len, ← rm_len (B := B) M x (List.range (p + 2)) (knownAt B x (p + 1))]
  exact endSame rfl _
def bodyL (k : Nat) : DenS := sSeq (sUnp [3, 4, 5] (dIdx (dVar 1) (dVar 2)))
  (sSeq (sSet 6 false (dMethI (Str.ofString "Run") (Str.ofString "go_all") 2 (CP k i_Run_go_all) (dVar 0) (dA1 (dVar 4) dA0)))
  (sSeq (sIf (dBin false (fIs true) (dVar 6) (dC .none)) (sSeq (sRet (dVar 6)) sNil) (sNil))
  (sSeq (sIf (dBin true fEq (dVar 3) (dC (.str (Str.ofString "cure")))) (sSeq (sRet (dTup (dA1 (dVar 3) (dA1 (dVar 5) dA0)))) sNil) (sNil))
  (sSeq (sSet 7 false (dIdx (dIdx (dIdx (dIdx (dFld (Str.ofString "Run") (Str.ofString "book") (dVar 0)) (dC (.int 0))) (dC (.int 3))) (dIdx (dFld (Str.ofString "Run") (Str.ofString "walk") (dVar 0)) (dUn fNeg (dC (.int 1))))) (dFld (Str.ofString "Run") (Str.ofString "x") (dVar 0))))
  (sSeq (sSet 8 false (dLc (dIter (dVar 5)) (.tp [9, 10]) (dBin true fEq (dVar 9) (dVar 7)) (dVar 10) [9, 10]))
  (sSeq (sIf (dBin true fEq (dVar 8) (dLst (dA0))) (sSeq (sRet (dTup (dA1 (dC (.str (Str.ofString "nosign"))) (dA1 (dVar 7) dA0)))) sNil) (sNil))
  (sSeq (sSet 2 false (dIdx (dVar 8) (dC (.int 0)))) sNil)))))))
theorem last_cure (k x y a : Nat) (w kn : List Nat) (C : List PyData) (M : Sto) (hC : C[a]? = some (cureT B y)) (e3 e4 e5 e6 e7 e8 e9 e10 : Option Val) :
    bodyL (k + 1) [some (.loc M.length), some (.d (.tuple C)), some (.d (iD a)), e3, e4, e5, e6, e7, e8, e9, e10] (RM B M x w kn) = some (.ret (.v (.d (.tuple [.str (Str.ofString "cure"), iD (y % B.q)]))) (RM B M x w kn)) := by
  have h1 := atN hC
  have h2 := L_goall0 (B := B) k x w kn M
  have g1 := rm_ins (B := B) M x w kn
  unfold cureT at h1
  simp [bodyL, h1, x_insOf g1, fr_goall, h2]
theorem last_look (ok : B.Ok) (k x t a i1 i2 : Nat) (C : List PyData) (M : Sto) (hx : x < B.n) (ht : t ≤ x) (hn : t + 1 < B.n) (h1 : i1 < 64) (h2 : i2 < 64) (hC : C[a]? = some (lookR B [t + 1] t i1 i2)) (e3 e4 e5 e6 e7 e8 e9 e10 : Option Val) :
    ∃ f3 f4 f5 f6 f7 f8 f9 f10, bodyL (k + 4) [some (.loc M.length), some (.d (.tuple C)), some (.d (iD a)), e3, e4, e5, e6, e7, e8, e9, e10] (RM B M x (List.range (t + 1)) (B.lot t)) =
      some (.nx [some (.loc M.length), some (.d (.tuple C)), some (.d (iD (if x = t then i2 else i1))), f3, f4, f5, f6, f7, f8, f9, f10] (RM B M x (List.range (t + 2)) (knownAt B x (t + 1)))) := by
  have h24 := ok.n24
  have h3 : L2.atI C (a : Int) = some (.tuple [.str (Str.ofString "look"), .tuple [iD (t + 1)], .tuple [.tuple [.int 0, iD i1], .tuple [iD (B.o (t + 1)), iD i2]]]) := atN hC
  have h4 := L_goall1 ok k x t M hx ht hn
  have g1 := rm_ins (B := B) M x (List.range (t + 1)) (B.lot t)
  have g2 := rm_ins (B := B) M x (List.range (t + 2)) (knownAt B x (t + 1))
  have g3 := rm_lst (B := B) M x (List.range (t + 2)) (knownAt B x (t + 1))
  have e4' : L2.atI ((List.range (t + 2)).map iD) (-1) = some (iD (t + 1)) := by
    rw [List.range_succ, List.map_append]
    exact at_last _ _
  obtain ⟨s1, s2⟩ := signAt ok (g := t + 1) (x := x) hn hx
  have ho := o_lt ok (t + 1)
  have ho1 := (ok.o1 (t + 1)).1
  by_cases hxt : x = t
  · have s3 : B.sg (t + 1) x = B.o (t + 1) := by rw [hxt, sgo]
    rw [s3] at s2
    have q1 : fEq (.int 0) (iD (B.o (t + 1))) = rbl false := by
      have := fEqN (a := 0) (b := B.o (t + 1)) (by omega) ho
      rw [show decide (0 = B.o (t + 1)) = false by simp; omega] at this
      exact this
    have q2 : fEq (iD (B.o (t + 1))) (iD (B.o (t + 1))) = rbl true := by
      rw [fEqN ho ho]
      simp
    have q3 := (fNeE (l := [i2]) (by simpa using h2)).2.2.2
    refine ⟨some (.d (.str (Str.ofString "look"))), some (.d (.tuple [iD (t + 1)])), some (.d (.tuple [.tuple [.int 0, iD i1], .tuple [iD (B.o (t + 1)), iD i2]])), some (.d .none), some (.d (iD (B.o (t + 1)))), some (.d (.list [iD i2])), e9, e10, ?_⟩
    have r1 : ∀ e9 e10 : Option Val, dLc (dIter (dVar 5)) (.tp [9, 10]) (dBin true fEq (dVar 9) (dVar 7)) (dVar 10) [9, 10] [some (.loc M.length), some (.d (.tuple C)), some (.d (iD a)), some (.d (.str (Str.ofString "look"))), some (.d (.tuple [iD (t + 1)])), some (.d (.tuple [.tuple [.int 0, iD i1], .tuple [iD (B.o (t + 1)), iD i2]])), some (.d .none), some (.d (iD (B.o (t + 1)))), e8, e9, e10] (RM B M x (List.range (t + 2)) (knownAt B x (t + 1))) = some (.nl [iD i2], RM B M x (List.range (t + 2)) (knownAt B x (t + 1))) := by
      intro e9 e10
      simp [dLc, okI, compGo, q1, q2]
    have q3' : fEq (.list [iD i2]) (.list []) = rbl false := q3
    rw [if_pos hxt]
    simp [bodyL, h3, x_insOf g1, fr_goall, h4, x_insOf g2, fr_book, fr_walk, fr_x, x_dct4 g3, x_rd2 g3, e4', s1, s2, r1, q3', at0]
  · have s3 : B.sg (t + 1) x = 0 := sg0 (by omega)
    rw [s3] at s2
    have q1 : fEq (.int 0) (.int 0) = rbl true := by
      have := fEqN (a := 0) (b := 0) (by omega) (by omega)
      exact this
    have q2 : fEq (iD (B.o (t + 1))) (.int 0) = rbl false := by
      have := fEqN (a := B.o (t + 1)) (b := 0) ho (by omega)
      rw [show decide (B.o (t + 1) = 0) = false by simp; omega] at this
      exact this
    have q3 := (fNeE (l := [i1]) (by simpa using h1)).2.2.2
    have s2' : fIdx (B.signD (t + 1)) (iD x) = dv (.int 0) := s2
    have r1 : ∀ e9 e10 : Option Val, dLc (dIter (dVar 5)) (.tp [9, 10]) (dBin true fEq (dVar 9) (dVar 7)) (dVar 10) [9, 10] [some (.loc M.length), some (.d (.tuple C)), some (.d (iD a)), some (.d (.str (Str.ofString "look"))), some (.d (.tuple [iD (t + 1)])), some (.d (.tuple [.tuple [.int 0, iD i1], .tuple [iD (B.o (t + 1)), iD i2]])), some (.d .none), some (.d (.int 0)), e8, e9, e10] (RM B M x (List.range (t + 2)) (knownAt B x (t + 1))) = some (.nl [iD i1], RM B M x (List.range (t + 2)) (knownAt B x (t + 1))) := by
      intro e9 e10
      simp [dLc, okI, compGo, q1, q2]
    have q3' : fEq (.list [iD i1]) (.list []) = rbl false := q3
    refine ⟨some (.d (.str (Str.ofString "look"))), some (.d (.tuple [iD (t + 1)])), some (.d (.tuple [.tuple [.int 0, iD i1], .tuple [iD (B.o (t + 1)), iD i2]])), some (.d .none), some (.d (.int 0)), some (.d (.list [iD i1])), e9, e10, ?_⟩
    rw [if_neg hxt]
    simp [bodyL, h3, x_insOf g1, fr_goall, h4, x_insOf g2, fr_book, fr_walk, fr_x, x_dct4 g3, x_rd2 g3, e4', s1, s2', r1, q3', at0]
end
end PV

set_option maxRecDepth 100000
set_option maxHeartbeats 1000000
/-! runs of the due code -/
namespace PV
open PySem
theorem whileRet {c : Den} {b : DenS} {n : Nat} {ρ : Env} {M M1 M2 : Sto} {r : Res} (h1 : c ρ M = dR (.bool true) M1) (h2 : b ρ M1 = some (.ret r M2)) : whileGo c b (n + 1) ρ M = some (.ret r M2) := by
  unfold whileGo
  rw [h1]
  show ((b ρ M1).bind _) = _
  rw [h2]
  rfl
def posL (B : Bk) (d : Nat) : Nat := (codeL B d).length - 1
def idL (B : Bk) (d : Nat) : Nat := idR (addR (codeL B d) (cureT B (B.n - 2 - d))) (cureT B (B.n - 2 - d))
section
variable {B : Bk}
theorem pre_add (d : Nat) : addR (codeL B d) (cureT B (B.n - 2 - d)) <+: codeL B (d + 1) := ⟨_, rfl⟩
theorem pre_succ (d : Nat) : codeL B d <+: codeL B (d + 1) := by
  obtain ⟨t, e, _⟩ := addR_pre (codeL B d) (cureT B (B.n - 2 - d))
  exact List.IsPrefix.trans ⟨t, e.symm⟩ (pre_add d)
theorem pre_le {d D : Nat} (h : d ≤ D) : codeL B d <+: codeL B D := by
  induction D with
  | zero => rw [Nat.le_zero.mp h]; exact List.prefix_refl _
  | succ D ih =>
    by_cases e : d = D + 1
    · rw [e]; exact List.prefix_refl _
    · exact (ih (by omega)).trans (pre_succ D)
theorem pfx_get {α : Type} {l L : List α} (h : l <+: L) {i : Nat} {a : α} (e : l[i]? = some a) : L[i]? = some a := by
  obtain ⟨t, rfl⟩ := h
  rw [List.getElem?_append_left (List.getElem?_eq_some_iff.mp e).1]
  exact e
theorem look_top {w : List Nat} {j : Nat} {r : List PyData} : (codeW B w j r)[(codeW B w j r).length - 1]? = some (lookR B w j (r.length - 1) (idR (addR r (cureT B j)) (cureT B j))) := by
  unfold codeW
  simp
theorem lookAt {d D : Nat} (h : d + 1 ≤ D) : (codeL B D)[posL B (d + 1)]? = some (lookR B [B.n - 1 - d] (B.n - 2 - d) (posL B d) (idL B d)) := pfx_get (pre_le h) look_top
theorem idR_at (ok : B.Ok) {m N : Nat} {r : List PyData} (h : RowsOk B m N r) (hN : N ≤ 50) {j : Nat} (hj : j < B.n) : (addR r (cureT B j))[idR (addR r (cureT B j)) (cureT B j)]? = some (cureT B j) := by
  obtain ⟨z, h1, h2, _⟩ := placeOf_at (idR_lt ok (r := r) (j := j)).1
  have h3 := (h.add ok hj).pl ok (by omega)
  have h4 := (eqv_pl rN rN z _ (h3 z (List.mem_of_getElem? h1)) (cureR_pl ok j)).mp h2
  rw [← h4]
  rw [h4]
  rw [h4] at h1
  exact h1
theorem cureAt (ok : B.Ok) {d D : Nat} (h : d + 1 ≤ D) (hd : d + 1 < B.n) : (codeL B D)[idL B d]? = some (cureT B (B.n - 2 - d)) := by
  have hn := ok.n24
  exact pfx_get ((pre_add d).trans (pre_le h)) (idR_at ok (codeL_ok ok d (by omega)) (by omega) (by omega))
theorem pos_lt (ok : B.Ok) {d : Nat} (hd : d < B.n) : posL B d < 50 := by
  have := (codeL_ok ok d hd).len
  have hn := ok.n24
  unfold posL
  omega
theorem id_lt (ok : B.Ok) {d : Nat} (hd : d + 1 < B.n) : idL B d < 60 := by
  have h1 := (codeL_ok ok d (by omega)).len
  have hn := ok.n24
  have h2 := (idR_lt ok (r := codeL B d) (j := B.n - 2 - d)).2
  obtain ⟨t, e, h3, _⟩ := addR_pre (codeL B d) (cureT B (B.n - 2 - d))
  have h4 := congrArg List.length e
  rw [List.length_append] at h4
  unfold idL
  omega
theorem last_run (ok : B.Ok) (k x : Nat) (M : Sto) (hx : x < B.n) : ∀ (r t fuel : Nat), t + r = B.n - 1 → t ≤ x → r + 1 < fuel → ∀ (e3 e4 e5 e6 e7 e8 e9 e10 : Option Val),
    ∃ kn, whileGo (dC (.bool true)) (bodyL (k + 4)) fuel [some (.loc M.length), some (.d (.tuple (codeL B (B.n - 1)))), some (.d (iD (posL B r))), e3, e4, e5, e6, e7, e8, e9, e10] (RM B M x (List.range (t + 1)) (B.lot t)) =
      some (.ret (.v (.d (.tuple [.str (Str.ofString "cure"), iD (x % B.q)]))) (RM B M x (List.range (min (x + 2) B.n)) kn)) := by
  intro r
  have hn := ok.n24
  have h2n := ok.n2
  induction r with
  | zero =>
    intro t fuel ht htx hf e3 e4 e5 e6 e7 e8 e9 e10
    obtain ⟨m, rfl⟩ : ∃ m, fuel = m + 1 := ⟨fuel - 1, by omega⟩
    have hxt : x = t := by omega
    have h0 : (codeL B (B.n - 1))[posL B 0]? = some (cureT B (B.n - 1)) := pfx_get (pre_le (Nat.zero_le _)) (by simp [posL, codeL])
    refine ⟨B.lot t, whileRet rfl ?_⟩
    have := last_cure (B := B) (k + 3) x (B.n - 1) (posL B 0) (List.range (t + 1)) (B.lot t) (codeL B (B.n - 1)) M h0 e3 e4 e5 e6 e7 e8 e9 e10
    rw [show min (x + 2) B.n = t + 1 by omega, show x % B.q = (B.n - 1) % B.q by rw [show x = B.n - 1 by omega]]
    exact this
  | succ r ih =>
    intro t fuel ht htx hf e3 e4 e5 e6 e7 e8 e9 e10
    obtain ⟨m, rfl⟩ : ∃ m, fuel = m + 1 + 1 := ⟨fuel - 2, by omega⟩
    have h0 := lookAt (B := B) (d := r) (D := B.n - 1) (by omega)
    rw [show B.n - 1 - r = t + 1 by omega, show B.n - 2 - r = t by omega] at h0
    obtain ⟨f3, f4, f5, f6, f7, f8, f9, f10, h1⟩ := last_look ok k x t (posL B (r + 1)) (posL B r) (idL B r) (codeL B (B.n - 1)) M hx htx (by omega) (by have := pos_lt ok (d := r) (by omega); omega) (by have := id_lt ok (d := r) (by omega); omega) h0 e3 e4 e5 e6 e7 e8 e9 e10
    by_cases hxt : x = t
    · rw [if_pos hxt] at h1
      have h2 := cureAt ok (d := r) (D := B.n - 1) (by omega) (by omega)
      rw [show B.n - 2 - r = x by omega] at h2
      refine ⟨knownAt B x (t + 1), whileStep (n := m + 1) rfl h1 (whileRet rfl ?_)⟩
      have := last_cure (B := B) (k + 3) x x (idL B r) (List.range (t + 2)) (knownAt B x (t + 1)) (codeL B (B.n - 1)) M h2 f3 f4 f5 f6 f7 f8 f9 f10
      rw [show min (x + 2) B.n = t + 2 by omega]
      exact this
    · rw [if_neg hxt] at h1
      rw [show knownAt B x (t + 1) = B.lot (t + 1) by unfold knownAt; rw [if_neg (by omega)]] at h1
      obtain ⟨kn, h3⟩ := ih (t + 1) (m + 1) (by omega) (by omega) (by omega) f3 f4 f5 f6 f7 f8 f9 f10
      exact ⟨kn, whileStep rfl h1 h3⟩
theorem L_last (ok : B.Ok) (k x : Nat) (M : Sto) (hx : x < B.n) : ∃ kn, CP (k + 5) i_Run_last [.loc M.length, .d (.tuple (codeL B (B.n - 1)))] (RM B M x [0] (B.lot 0)) = some (.v (.d (.tuple [.str (Str.ofString "cure"), iD (x % B.q)])), RM B M x (List.range (min (x + 2) B.n)) kn) := by
  have hn := ok.n24
  have h2n := ok.n2
  obtain ⟨kn, h⟩ := last_run ok k x M hx (B.n - 1) 0 1000 (by omega) (by omega) (by omega) none none none none none none none none
  refine ⟨kn, ?_⟩
  have h' : sWhile (dC (.bool true)) (bodyL (k + 4)) [some (.loc M.length), some (.d (.tuple (codeL B (B.n - 1)))), some (.d (iD (posL B (B.n - 1)))), none, none, none, none, none, none, none, none] (RM B M x [0] (B.lot 0)) = some (.ret (.v (.d (.tuple [.str (Str.ofString "cure"), iD (x % B.q)]))) (RM B M x (List.range (min (x + 2) B.n)) kn)) := h
  have e1 : ((codeL B (B.n - 1)).length : Int) - 1 = (posL B (B.n - 1) : Int) := by
    have := (codeL_ok ok (B.n - 1) (by omega)).pos
    unfold posL
    omega
  have e2 : endFn (RM B M x [0] (B.lot 0)).length (.v (.d (.tuple [.str (Str.ofString "cure"), iD (x % B.q)]))) (RM B M x (List.range (min (x + 2) B.n)) kn) = some (.v (.d (.tuple [.str (Str.ofString "cure"), iD (x % B.q)])), RM B M x (List.range (min (x + 2) B.n)) kn) := endSame (by rw [rm_len, rm_len]) _
  unfold bodyL at h'
  rw [c_Run_last]
  simp [b_Run_last, runFn, env0, e1, -x_sWhile]
  rw [h']
  simp [e2]
theorem L_run_from (ok : B.Ok) (k x : Nat) (M : Sto) (hM : Cl M) (hx : x < B.n) : CP (k + 6) i_run_from [.d B.book, .d (.tuple (codeL B (B.n - 1))), .d (ND (List.range B.n)), .d (.int 0), .d (iD x)] M = dR (.tuple [ND (List.range (min (x + 2) B.n)), .tuple [.str (Str.ofString "cure"), iD (x % B.q)]]) M := by
  have hn := ok.n24
  have h2n := ok.n2
  obtain ⟨kn, e1⟩ := L_last ok k x M hx
  have e2 : CM (k + 5) i_Run_init = CP (k + 4) i_Run_init := by rw [CM_succ]
  have e3 : CP (k + 4) i_Run_init [.loc M.length, .d B.book, .d (ND (List.range B.n)), .d (.int 0), .d (iD x)] (M ++ [.ins (Str.ofString "Run") []]) = some (.v (.d .none), RM B M x [0] (B.lot 0)) := by
    have := init_Run ok (k + 2) x 0 (List.range B.n) M (by simp; omega) (by simp) hx (by omega)
    have e : ((List.range B.n).filter fun y => [0].all fun h => decide (B.sg h y = B.sg h x)) = B.lot 0 := by
      rw [lot_zero, List.filter_eq_self]
      intro y _
      simp [sg0]
    rw [e] at this
    exact this
  have g1 := rm_ins (B := B) M x [0] (B.lot 0)
  have g2 := rm_ins (B := B) M x (List.range (min (x + 2) B.n)) kn
  have g3 := rm_lst (B := B) M x (List.range (min (x + 2) B.n)) kn
  rw [c_run_from]
  simp [b_run_from, runFn, env0, e2, e3, noneR, x_insOf g1, fr_last, e1, x_insOf g2, fr_walk, x_rd2 g3, endT hM (rm_take _ _ _ _)]
theorem fInS {a : Nat} (h : a < 64) : fIn false (iD a) (.tuple [iD a]) = rbl true := by
  have := (fInN (a := a) (l := [a]) h (by simpa using h)).1
  simp at this
  exact this
theorem L_cures (ok : B.Ok) (k x : Nat) (M : Sto) (hx : x < B.n) : CP (k + 1) i_cures [.d B.rig, .d (.tuple [.str (Str.ofString "cure"), iD (x % B.q)]), .d (iD x)] M = dR (.bool true) M := by
  have h3 : fIdx B.curesD (iD x) = dv (B.cureD x) := fIdxR _ hx
  have h4 : fIn false (iD (x % B.q)) (B.cureD x) = rbl true := fInS (mod_lt ok x)
  rw [c_cures]
  simp [b_cures, runFn, env0, at0, at1, h3, h4, endD]
theorem L_right (ok : B.Ok) (k : Nat) (M : Sto) (hM : Cl M) : CP (k + 7) i_is_right_code [.d B.book, .d (.tuple (codeL B (B.n - 1))), .d (ND (List.range B.n)), .d (.int 0)] M = dR (.bool true) M := by
  have hn := ok.n24
  have e1 : dCB false fAll (dA1 (dLc (dIter (dVar 2)) (.nm 4) (dC (.bool true)) (dCall 3 (CP (k + 6) i_cures) (dA1 (dIdx (dVar 0) (dC (.int 0))) (dA1 (dIdx (dCall 5 (CP (k + 6) i_run_from) (dA1 (dVar 0) (dA1 (dVar 1) (dA1 (dVar 2) (dA1 (dVar 3) (dA1 (dVar 4) dA0)))))) (dC (.int 1))) (dA1 (dVar 4) dA0)))) [4]) dA0)
      [some (.d B.book), some (.d (.tuple (codeL B (B.n - 1)))), some (.d (ND (List.range B.n))), some (.d (.int 0)), none] M = dR (.bool true) M :=
    allTrue (List.range B.n) iD (by simp) (by simp; omega) fun x hx => by
      rw [List.mem_range] at hx
      simp [L_run_from ok k x M hM hx, at1, L_cures ok (k + 5) x M hx]
  rw [c_is_right_code]
  simp [b_is_right_code, runFn, env0, e1, endD]
theorem L_code_right (ok : B.Ok) (k : Nat) (M : Sto) (hM : Cl M) : CP (k + 10) i_code_right [.d B.book, .d (.tuple (codeL B (B.n - 1))), .d (stD B)] M = dR (.bool true) M := by
  have hn := ok.n24
  have h2n := ok.n2
  have e1 := L_tells_code ok (k + 1) M (codeL_ok ok (B.n - 1) (by omega)) (by omega)
  rw [c_code_right]
  simp [b_code_right, runFn, env0, L_is_book ok, e1, L_is_start ok, L_right ok (k + 2) M hM, endD]
theorem L_run_code (ok : B.Ok) (k x : Nat) (M : Sto) (hM : Cl M) (hx : x < B.n) : CP (k + 10) i_run_code [.d B.book, .d (.tuple (codeL B (B.n - 1))), .d (stD B), .d (iD x)] M = dR (.tuple [ND (List.range (min (x + 2) B.n)), .tuple [.str (Str.ofString "cure"), iD (x % B.q)]]) M := by
  have hn := ok.n24
  have h2n := ok.n2
  have e1 := L_want_code ok (k + 1) M (codeL_ok ok (B.n - 1) (by omega)) (by omega)
  rw [c_run_code]
  simp [b_run_code, runFn, env0, L_made_book ok, e1, L_made_start ok, L_want_fault_in ok (k + 4) x M hx, L_run_from ok (k + 3) x M hM hx, endD]
end
end PV

set_option maxRecDepth 100000
set_option maxHeartbeats 1000000
/-! courses -/
namespace PV
open PySem
def lotsL (B : Bk) (t : Nat) : List PyData := (List.range t).map fun j => ND (B.lot j)
def courseL (B : Bk) (x : Nat) : List PyData := lotsL B (min x (B.n - 2) + 1) ++ [ND [x]]
section
variable {B : Bk}
theorem lotsL_succ (t : Nat) : lotsL B (t + 1) = lotsL B t ++ [ND (B.lot t)] := by
  unfold lotsL
  rw [List.range_succ, List.map_append]
  rfl
theorem lot_pl (ok : B.Ok) {l : List Nat} (hz : l.length ≤ 24) (hl : ∀ y ∈ l, y < B.n) (Ns : List Nat) : PL (24 :: Ns) (ND l) = true := by
  have := ok.n24
  exact plND Ns hz fun y hy => by have := hl y hy; omega
theorem known_le (ok : B.Ok) {x p : Nat} (hx : x < B.n) : (knownAt B x p).length ≤ 24 ∧ ∀ y ∈ knownAt B x p, y < B.n := by
  unfold knownAt
  split
  · exact ⟨by simp, by simpa using hx⟩
  · exact ⟨lot_len ok p, lot_lt⟩
theorem known_ne (ok : B.Ok) {x t : Nat} (hn : t + 1 < B.n) : ND (knownAt B x (t + 1)) ≠ ND (B.lot t) := by
  intro e
  simp only [PyData.tuple.injEq] at e
  have h1 := congrArg List.length e
  rw [List.length_map, List.length_map] at h1
  unfold knownAt at h1
  have h2 : (B.lot t).length = B.n - t := by unfold Bk.lot; rw [List.length_range']
  split at h1
  · rw [h2] at h1
    simp at h1
    omega
  · have h3 : (B.lot (t + 1)).length = B.n - (t + 1) := by unfold Bk.lot; rw [List.length_range']
    omega
theorem known_course (ok : B.Ok) {x t : Nat} (hx : x < B.n) (ht : t ≤ x) (hn : t + 1 < B.n) : ((B.lot t).filter fun y => (List.range (min (t + 1) (B.n - 1) + 1)).all fun g => decide (B.sg g y = B.sg g x)) = knownAt B x (t + 1) := by
  rw [← known_step ok hx ht hn]
  apply List.filter_congr
  intro y hy
  have hy := (lot_mem.mp hy).1
  rw [show min (t + 1) (B.n - 1) + 1 = t + 1 + 1 by omega, List.range_succ, List.all_append]
  have : ((List.range (t + 1)).all fun g => decide (B.sg g y = B.sg g x)) = true := by
    rw [List.all_eq_true]
    intro g hg
    rw [List.mem_range] at hg
    rw [sg0 (by omega), sg0 (by omega)]
    rfl
  rw [this, Bool.true_and]
theorem done_lot (ok : B.Ok) (k t : Nat) (M : Sto) (hn : t + 1 < B.n) : CP (k + 2) i_is_done [.d B.rig, .d (ND (B.lot t))] M = dR (.bool false) M := by
  rw [L_is_done ok k _ M (Nat.le_trans (lot_len ok t) (by omega)) lot_lt, cures_two ok hn]
  rfl
theorem done_one (ok : B.Ok) (k x : Nat) (M : Sto) (hx : x < B.n) : CP (k + 2) i_is_done [.d B.rig, .d (ND [x])] M = dR (.bool true) M := by
  rw [L_is_done ok k [x] M (by simp) (by simpa using hx), cures_one ok]
  rfl
def condC (k : Nat) : Den := dAnd (dVar 4) (dNot (dCall 2 (CP k i_is_done) (dA1 (dVar 2) (dA1 (dIdx (dVar 3) (dUn fNeg (dC (.int 1)))) dA0))))
def bodyC (k : Nat) : DenS := sSeq (sSet 5 false (dCall 4 (CP k i_agreeing_in) (dA1 (dVar 2) (dA1 (dIdx (dVar 3) (dUn fNeg (dC (.int 1)))) (dA1 (dVar 1) (dA1 (dCall 3 (CP k i_region_of) (dA1 (dVar 0) (dA1 (dIdx (dVar 3) (dUn fNeg (dC (.int 1)))) (dA1 (dC (.int 0)) dA0)))) dA0))))))
  (sSeq (sSet 4 false (dBin true fNe (dVar 5) (dIdx (dVar 3) (dUn fNeg (dC (.int 1))))))
  (sSeq (sIf (dVar 4) (sSeq (sExpr (dMeth isLoc mAppend (dVar 3) (dA1 (dVar 5) dA0))) sNil) (sNil)) sNil))
theorem cl_lst {M : Sto} (hM : Cl M) (l : List PyData) : Cl (M ++ [.lst l]) := cl_app hM (by simp [celIn])
theorem stepC (ok : B.Ok) (k x t : Nat) (M : Sto) (hM : Cl M) (hx : x < B.n) (ht : t ≤ x) (hn : t + 1 < B.n) (e5 : Option Val) :
    condC (k + 6) [some (.d B.book), some (.d (iD x)), some (.d B.rig), some (.loc M.length), some (.d (.bool true)), e5] (M ++ [.lst (lotsL B (t + 1))]) = dR (.bool true) (M ++ [.lst (lotsL B (t + 1))]) ∧
    bodyC (k + 6) [some (.d B.book), some (.d (iD x)), some (.d B.rig), some (.loc M.length), some (.d (.bool true)), e5] (M ++ [.lst (lotsL B (t + 1))]) =
      some (.nx [some (.d B.book), some (.d (iD x)), some (.d B.rig), some (.loc M.length), some (.d (.bool true)), some (.d (ND (knownAt B x (t + 1))))] (M ++ [.lst (lotsL B (t + 1) ++ [ND (knownAt B x (t + 1))])])) := by
  have h24 := ok.n24
  have g1 : (M ++ [Cell.lst (lotsL B (t + 1))])[M.length]? = some (.lst (lotsL B (t + 1))) := by simp
  have e1 : L2.atI (lotsL B (t + 1)) (-1) = some (ND (B.lot t)) := by rw [lotsL_succ]; exact at_last _ _
  have e2 := done_lot ok (k + 4) t (M ++ [.lst (lotsL B (t + 1))]) hn
  have e3 := L_region ok k t (M ++ [.lst (lotsL B (t + 1))]) (cl_lst hM _) (by omega)
  have e4 := L_agreeing_in ok (k + 5) (B.lot t) (List.range (min (t + 1) (B.n - 1) + 1)) x (M ++ [.lst (lotsL B (t + 1))]) (Nat.le_trans (lot_len ok t) (by omega)) lot_lt (by simp; omega) (by simp; omega) hx
  rw [known_course ok hx ht hn] at e4
  have hk := known_le ok (p := t + 1) hx
  have e6 : fNe (ND (knownAt B x (t + 1))) (ND (B.lot t)) = rbl true := by
    rw [fNe_pl (lot_pl ok hk.1 hk.2 []) (lot_pl ok (lot_len ok t) lot_lt []) (by simp), eqd_ne (known_ne ok hn)]
    rfl
  have e7 : (lotsL B (t + 1)).length < 100000 := by unfold lotsL; rw [List.length_map, List.length_range]; omega
  have e8 : (M ++ [Cell.lst (lotsL B (t + 1))]).set M.length (.lst (lotsL B (t + 1) ++ [ND (knownAt B x (t + 1))])) = M ++ [.lst (lotsL B (t + 1) ++ [ND (knownAt B x (t + 1))])] := by simp
  constructor
  · simp [condC, x_dct4 g1, x_rd2 g1, e1, e2]
  · simp [bodyC, x_dct4 g1, x_rd2 g1, e1, e3, e4, e6, x_isloc g1, x_append g1, e7, e8]
theorem stopC (ok : B.Ok) (k x : Nat) (l : List PyData) (M : Sto) (hx : x < B.n) (e5 : Option Val) :
    condC (k + 6) [some (.d B.book), some (.d (iD x)), some (.d B.rig), some (.loc M.length), some (.d (.bool true)), e5] (M ++ [.lst (l ++ [ND [x]])]) = dR (.bool false) (M ++ [.lst (l ++ [ND [x]])]) := by
  have g1 : (M ++ [Cell.lst (l ++ [ND [x]])])[M.length]? = some (.lst (l ++ [ND [x]])) := by simp
  have e1 : L2.atI (l ++ [ND [x]]) (-1) = some (ND [x]) := at_last _ _
  have e2 := done_one ok (k + 4) x (M ++ [.lst (l ++ [ND [x]])]) hx
  simp [condC, x_dct4 g1, x_rd2 g1, e1, e2]
theorem loopC (ok : B.Ok) (k x : Nat) (M : Sto) (hM : Cl M) (hx : x < B.n) : ∀ (r t fuel : Nat), t + r = min x (B.n - 2) → r + 1 < fuel → ∀ e5 : Option Val,
    ∃ ρ', whileGo (condC (k + 6)) (bodyC (k + 6)) fuel [some (.d B.book), some (.d (iD x)), some (.d B.rig), some (.loc M.length), some (.d (.bool true)), e5] (M ++ [.lst (lotsL B (t + 1))]) = some (.nx ρ' (M ++ [.lst (courseL B x)])) ∧ ρ'[3]? = some (some (.loc M.length)) := by
  have h24 := ok.n24
  have h2n := ok.n2
  intro r
  induction r with
  | zero =>
    intro t fuel ht hf e5
    obtain ⟨m, rfl⟩ : ∃ m, fuel = m + 1 + 1 := ⟨fuel - 2, by omega⟩
    obtain ⟨h1, h2⟩ := stepC ok k x t M hM hx (by omega) (by omega) e5
    have h3 : knownAt B x (t + 1) = [x] := by
      unfold knownAt
      split
      · rfl
      · rw [show t + 1 = B.n - 1 by omega, lot_end (by omega), show x = B.n - 1 by omega]
    rw [h3] at h2
    have h4 : lotsL B (t + 1) ++ [ND [x]] = courseL B x := by unfold courseL; rw [show min x (B.n - 2) = t by omega]
    rw [h4] at h2
    have h5 := stopC ok k x (lotsL B (t + 1)) M hx (some (.d (ND [x])))
    rw [h4] at h5
    exact ⟨_, whileStep h1 h2 (whileStop h5), rfl⟩
  | succ r ih =>
    intro t fuel ht hf e5
    obtain ⟨m, rfl⟩ : ∃ m, fuel = m + 1 := ⟨fuel - 1, by omega⟩
    obtain ⟨h1, h2⟩ := stepC ok k x t M hM hx (by omega) (by omega) e5
    have h3 : knownAt B x (t + 1) = B.lot (t + 1) := by
      unfold knownAt
      rw [if_neg (by omega)]
    rw [h3, ← lotsL_succ] at h2
    obtain ⟨ρ', h4, h5⟩ := ih (t + 1) m (by omega) (by omega) (some (.d (ND (B.lot (t + 1)))))
    exact ⟨ρ', whileStep h1 h2 h4, h5⟩
theorem L_course_of (ok : B.Ok) (k x : Nat) (M : Sto) (hM : Cl M) (hx : x < B.n) : CP (k + 7) i_course_of [.d B.book, .d (iD x)] M = dR (.tuple (courseL B x)) M := by
  have h24 := ok.n24
  have h2n := ok.n2
  obtain ⟨ρ', h1, h2⟩ := loopC ok k x M hM hx (min x (B.n - 2)) 0 1000 (by omega) (by omega) none
  have e0 : lotsL B (0 + 1) = [ND (List.range B.n)] := by rw [lotsL_succ, lot_zero]; rfl
  rw [e0] at h1
  have h1' : sWhile (condC (k + 6)) (bodyC (k + 6)) [some (.d B.book), some (.d (iD x)), some (.d B.rig), some (.loc M.length), some (.d (.bool true)), none] (M ++ [.lst [ND (List.range B.n)]]) = some (.nx ρ' (M ++ [.lst (courseL B x)])) := h1
  unfold condC bodyC at h1'
  have g1 : (M ++ [Cell.lst (courseL B x)])[M.length]? = some (.lst (courseL B x)) := by simp
  rw [c_course_of]
  simp [b_course_of, runFn, env0, L_every_fault ok, -x_sWhile]
  rw [h1']
  simp [h2, x_rd2 g1, endT hM]
theorem L_course (ok : B.Ok) (k x : Nat) (M : Sto) (hM : Cl M) (hx : x < B.n) : CP (k + 10) i_course [.d B.book, .d (iD x)] M = dR (.tuple (courseL B x)) M := by
  rw [c_course]
  simp [b_course, runFn, env0, L_made_book ok, L_want_fault (k + 5) x M hx, L_course_of ok (k + 2) x M hM hx, endD]
theorem course_len (x : Nat) : (courseL B x).length = min x (B.n - 2) + 2 := by
  unfold courseL lotsL
  simp
theorem L_all_courses (ok : B.Ok) (k : Nat) (M : Sto) (hM : Cl M) : CP (k + 8) i_all_courses [.d B.book] M = dR (.list ((List.range B.n).map fun x => .tuple (courseL B x))) M := by
  have h24 := ok.n24
  have hs := small_nat (n := B.n) (by omega)
  have e1 : dLc (dRg1 (dA1 (dIdx (dVar 1) (dC (.int 0))) dA0)) (.nm 3) (dC (.bool true)) (dCall 2 (CP (k + 7) i_course_of) (dA1 (dVar 0) (dA1 (dVar 3) dA0))) [3] [some (.d B.book), some (.d B.rig), none, none, none] M = some (.nl ((List.range B.n).map fun x => .tuple (courseL B x)), M) :=
    lcM (List.range B.n) iD _ (by simp [hs, rg0]) (by rw [List.length_range]; exact Nat.le_trans h24 (by decide)) fun x hx => by
      rw [List.mem_range] at hx
      simp [L_course_of ok k x M hM hx]
  have e2 : ∀ X : PyData, dCB false fAll (dA1 (dLc (dIter (dVar 2)) (.nm 4) (dC (.bool true)) (dCall 2 (CP (k + 7) i_is_done) (dA1 (dVar 1) (dA1 (dIdx (dVar 4) (dUn fNeg (dC (.int 1)))) dA0))) [4]) dA0)
      [some (.d X), some (.d B.rig), some (.d (.list ((List.range B.n).map fun x => .tuple (courseL B x)))), none, none] M = dR (.bool true) M := fun X =>
    allTrue (List.range B.n) (fun x => .tuple (courseL B x)) (by simp) (by rw [List.length_range]; omega) fun x hx => by
      rw [List.mem_range] at hx
      have h1 : L2.atI (courseL B x) (-1) = some (ND [x]) := at_last _ _
      simp [h1, done_one ok (k + 5) x M hx]
  rw [c_all_courses]
  simp [b_all_courses, runFn, env0, e1, e2, endD]
end
theorem max_all : ∀ n, n < 25 → 2 ≤ n → (match (List.range n).map (fun x => ((min x (n - 2) + 2 : Nat) : Int)) with
  | [] => none
  | a :: r => some (r.foldl max a)) = some (n : Int) := by decide +kernel
theorem long_all : ∀ n, n < 25 → 2 ≤ n → (List.range n).filter (fun x => decide (min x (n - 2) + 2 = n)) = [n - 2, n - 1] := by decide +kernel
section
variable {B : Bk}
theorem max_course (ok : B.Ok) (k i : Nat) (M : Sto) (hi : i = i) : fMax [.list ((List.range B.n).map fun x => .int ((courseL B x).length : Int))] = rint B.n := by
  have h1 : ((List.range B.n).map fun x => PyData.int ((courseL B x).length : Int)) = (List.range B.n).map fun x => PyData.int ((min x (B.n - 2) + 2 : Nat) : Int) := by
    apply List.map_congr_left
    intro x _
    rw [course_len]
  have h2 := max_all B.n (by have := ok.n24; omega) ok.n2
  rw [h1]
  unfold fMax
  simp only [intsM, Option.bind_some]
  cases hm : (List.range B.n).map (fun x => ((min x (B.n - 2) + 2 : Nat) : Int)) with
  | nil => rw [hm] at h2; cases h2
  | cons a r =>
    rw [hm] at h2
    simp only [Option.some.injEq] at h2
    simp only [h2]
theorem L_trips (ok : B.Ok) (k : Nat) (M : Sto) (hM : Cl M) : CP (k + 10) i_trips [.d B.book] M = dR (.int ((B.n : Int) - 1)) M := by
  have h24 := ok.n24
  have e1 : ∀ X : PyData, dCB false fMax (dA1 (dLc (dIter (dVar 1)) (.nm 2) (dC (.bool true)) (dCB true fLen (dA1 (dVar 2) dA0)) [2]) dA0) [some (.d X), some (.d (.list ((List.range B.n).map fun x => .tuple (courseL B x)))), none] M = some (.v (.d (iD B.n)), M) := by
    intro X
    rw [cbA (lcM (M' := M) (List.range B.n) (fun x => .tuple (courseL B x)) (fun x => .int ((courseL B x).length : Int)) (by simp) (by rw [List.length_range]; exact Nat.le_trans h24 (by decide)) fun x hx => by simp), max_course ok k 0 M rfl]
    rfl
  rw [c_trips]
  simp [b_trips, runFn, env0, L_made_book ok, L_all_courses ok (k + 1) M hM, e1, isNone, endD]

theorem lots_take (ok : B.Ok) : courseL B (B.n - 2) = lotsL B (B.n - 1) ++ [ND [B.n - 2]] := by
  have := ok.n2
  unfold courseL
  rw [Nat.min_self, show B.n - 2 + 1 = B.n - 1 by omega]
theorem L_chain (ok : B.Ok) (k : Nat) (M : Sto) (hM : Cl M) : CP (k + 10) i_chain [.d B.book] M = dR (.tuple (lotsL B (B.n - 1)).reverse) M := by
  have h24 := ok.n24
  have h2 := ok.n2
  have e1 : ∀ X Y Z : Option Val, dCB false fMax (dA1 (dLc (dIter (dVar 1)) (.nm 3) (dC (.bool true)) (dCB true fLen (dA1 (dVar 3) dA0)) [3]) dA0) [X, some (.d (.list ((List.range B.n).map fun x => .tuple (courseL B x)))), Y, none, Z] M = some (.v (.d (iD B.n)), M) := by
    intro X Y Z
    rw [cbA (lcM (M' := M) (List.range B.n) (fun x => .tuple (courseL B x)) (fun x => .int ((courseL B x).length : Int)) (by simp) (by rw [List.length_range]; exact Nat.le_trans h24 (by decide)) fun x hx => by simp), max_course ok k 0 M rfl]
    rfl
  have e2 : ∀ X Z : Option Val, dLc (dIter (dVar 1)) (.nm 3) (dBin true fEq (dCB true fLen (dA1 (dVar 3) dA0)) (dVar 2)) (dVar 3) [3] [X, some (.d (.list ((List.range B.n).map fun x => .tuple (courseL B x)))), some (.d (iD B.n)), none, Z] M = some (.nl [.tuple (courseL B (B.n - 2)), .tuple (courseL B (B.n - 1))], M) := by
    intro X Z
    rw [lcF (M' := M) (List.range B.n) (fun x => .tuple (courseL B x)) (fun x => decide (min x (B.n - 2) + 2 = B.n)) (fun x => .tuple (courseL B x)) (by simp) (by rw [List.length_range]; exact Nat.le_trans h24 (by decide)) (fun x hx => by
      have h3 := fEqN (a := min x (B.n - 2) + 2) (b := B.n) (by omega) (by omega)
      simp [course_len, -Int.natCast_add, h3]) (fun x hx _ => by simp), long_all B.n (by omega) h2]
    rfl
  have e3 : cutD (courseL B (B.n - 2)) none (some (-1)) = lotsL B (B.n - 1) := by
    rw [lots_take ok]
    unfold cutD HT.sIx
    simp only [List.drop_zero, Nat.sub_zero, List.length_append, List.length_singleton]
    rw [if_pos (by omega), show ((-1 : Int) + (((lotsL B (B.n - 1)).length + 1 : Nat) : Int)).toNat = (lotsL B (B.n - 1)).length by omega]
    exact List.take_left
  rw [c_chain]
  simp [b_chain, runFn, env0, L_made_book ok, L_all_courses ok (k + 1) M hM, isNone, e1, e2, at0, e3, endD]
theorem L_due_walk (ok : B.Ok) (k x : Nat) (M : Sto) (hx : x < B.n) : CP (k + 1) i_law_due_walk [.d B.rig, .d (iD x)] M = dR (ND (List.range (min (x + 2) B.n))) M := by
  have h24 := ok.n24
  have h1 : (if (B.n : Int) < (x : Int) + 2 then (B.n : Int) else (x : Int) + 2) = ((min (x + 2) B.n : Nat) : Int) := by
    split <;> omega
  have hs := small_nat (n := min (x + 2) B.n) (by omega)
  have e1 : dCB false fTuple (dA1 (dLc (dRg1 (dA1 (dCB false fMin (dA1 (dBin false fAdd (dVar 1) (dC (.int 2))) (dA1 (dIdx (dVar 0) (dC (.int 0))) dA0))) dA0)) (.nm 2) (dC (.bool true)) (dVar 2) [2]) dA0) [some (.d B.rig), some (.d (iD x)), none] M = dR (ND (List.range (min (x + 2) B.n))) M :=
    cbTup (lcM (List.range (min (x + 2) B.n)) iD iD (by
      simp [h1]
      simp [hs, rg0]) (by rw [List.length_range]; exact Nat.le_trans (show min (x + 2) B.n ≤ 24 by omega) (by decide)) (by simp))
  rw [c_law_due_walk]
  simp [b_law_due_walk, runFn, env0, e1, endD]
end
end PV

set_option maxRecDepth 100000
set_option maxHeartbeats 1000000
namespace PV
open PySem
section
variable {B : Bk}
theorem L_due_course (ok : B.Ok) (k x : Nat) (M : Sto) (hM : Cl M) (hx : x < B.n) : CP (k + 1) i_law_due_course [.d B.rig, .d (iD x)] M = dR (.tuple (courseL B x)) M := by
  have h24 := ok.n24
  have h2 := ok.n2
  have h1 : (if (B.n : Int) - 2 < (x : Int) then (B.n : Int) - 2 else (x : Int)) + 1 = ((min x (B.n - 2) + 1 : Nat) : Int) := by
    split <;> omega
  have hs := small_nat (n := min x (B.n - 2) + 1) (by omega)
  have hsn := small_nat (n := B.n) (by omega)
  obtain ⟨ρ2, M2, f1, f2⟩ := forL (g := .nm 4) (l := List.range (min x (B.n - 2) + 1)) (c := fun i => (iD i, true)) (b := sSeq (sExpr (dMeth isLoc mAppend (dVar 3) (dA1 (dCB false fTuple (dA1 (dLc (dRg2 (dA1 (dVar 4) (dA1 (dVar 2) dA0))) (.nm 5) (dC (.bool true)) (dVar 5) [5]) dA0)) dA0))) sNil)
    (fun i ρ M' => M' = M ++ [.lst (lotsL B i)] ∧ ∃ a, ρ = [some (.d B.rig), some (.d (iD x)), some (.d (iD B.n)), some (.loc M.length), a, none]) (ρ := [some (.d B.rig), some (.d (iD x)), some (.d (iD B.n)), some (.loc M.length), none, none]) (M := M ++ [.lst []]) (by
      rintro i a ha ρ M' ⟨rfl, y, rfl⟩
      obtain ⟨rfl, hi⟩ := rangeAt ha
      have g1 : (M ++ [Cell.lst (lotsL B a)])[M.length]? = some (.lst (lotsL B a)) := by simp
      have hsa := small_nat (n := a) (by omega)
      have e1 : dCB false fTuple (dA1 (dLc (dRg2 (dA1 (dVar 4) (dA1 (dVar 2) dA0))) (.nm 5) (dC (.bool true)) (dVar 5) [5]) dA0) [some (.d B.rig), some (.d (iD x)), some (.d (iD B.n)), some (.loc M.length), some (.d (iD a)), none] (M ++ [.lst (lotsL B a)]) = dR (ND (B.lot a)) (M ++ [.lst (lotsL B a)]) :=
        cbTup (lcM (B.lot a) iD iD (by
          simp [hsa, hsn]
          exact rgA a _) (Nat.le_trans (lot_len ok a) (by decide)) (by simp))
      have e7 : (lotsL B a).length < 100000 := by unfold lotsL; rw [List.length_map, List.length_range]; omega
      refine ⟨_, _, _, rfl, ?_, rfl, some (.d (iD a)), rfl⟩
      simp [x_isloc g1, e1, x_append g1, e7, lotsL_succ]) ⟨by simp [lotsL], none, rfl⟩
  obtain ⟨rfl, y, rfl⟩ := f2
  rw [List.length_range] at f1
  have g1 : (M ++ [Cell.lst (lotsL B (min x (B.n - 2) + 1))])[M.length]? = some (.lst (lotsL B (min x (B.n - 2) + 1))) := by simp
  have e9 : (lotsL B (min x (B.n - 2) + 1)).length < 100000 := by unfold lotsL; rw [List.length_map, List.length_range]; omega
  have e10 : okI ((List.range (min x (B.n - 2) + 1)).map iD) = (List.range (min x (B.n - 2) + 1)).map fun i => (iD i, true) := by unfold okI; rw [List.map_map]; rfl
  have e11 : dRg1 (dA1 (dBin false fAdd (dCB false fMin (dA1 (dVar 1) (dA1 (dBin false fSub (dVar 2) (dC (.int 2))) dA0))) (dC (.int 1))) dA0) [some (.d B.rig), some (.d (iD x)), some (.d (iD B.n)), some (.loc M.length), none, none] (M ++ [.lst []]) = some ((List.range (min x (B.n - 2) + 1)).map fun i => (iD i, true), M ++ [.lst []]) := by
    rw [← e10, ← rg0]
    have h3 : ((if (B.n : Int) - 2 < (x : Int) then (B.n : Int) - 2 else (x : Int)) + 1).toNat = min x (B.n - 2) + 1 := by rw [h1]; rfl
    rw [← h1] at hs
    simp only [x_dRg1, x_dA1, x_dA0, x_val, x_dBin, x_dCB, x_dVar, x_dC, List.getElem?_cons_succ, List.getElem?_cons_zero, obs, x_settle1, x_lkf, x_rds1, x_rds0, x_rd1, x_fSub, x_rint, x_fMin2, x_fAddI, hs, if_true, h3]
  have e12 : sFor (dRg1 (dA1 (dBin false fAdd (dCB false fMin (dA1 (dVar 1) (dA1 (dBin false fSub (dVar 2) (dC (.int 2))) dA0))) (dC (.int 1))) dA0)) (.nm 4) (sSeq (sExpr (dMeth isLoc mAppend (dVar 3) (dA1 (dCB false fTuple (dA1 (dLc (dRg2 (dA1 (dVar 4) (dA1 (dVar 2) dA0))) (.nm 5) (dC (.bool true)) (dVar 5) [5]) dA0)) dA0))) sNil) [some (.d B.rig), some (.d (iD x)), some (.d (iD B.n)), some (.loc M.length), none, none] (M ++ [.lst []]) = some (.nx [some (.d B.rig), some (.d (iD x)), some (.d (iD B.n)), some (.loc M.length), y, none] (M ++ [.lst (lotsL B (min x (B.n - 2) + 1))])) := by
    rw [x_sFor, e11]
    exact f1
  have e13 : dCB false fTuple (dA1 (dBin false fAdd (dVar 3) (dLst (dA1 (dTup (dA1 (dVar 1) dA0)) dA0))) dA0) [some (.d B.rig), some (.d (iD x)), some (.d (iD B.n)), some (.loc M.length), y, none] (M ++ [.lst (lotsL B (min x (B.n - 2) + 1))]) = dR (.tuple (courseL B x)) (M ++ [.lst (lotsL B (min x (B.n - 2) + 1))]) := by
    have e14 : (lotsL B (min x (B.n - 2) + 1)).length + 1 ≤ 100000 := by omega
    simp [x_rd2 g1, e14, courseL]
  rw [c_law_due_course]
  simp [b_law_due_course, runFn, env0, -x_sFor]
  rw [e12]
  simp [e13, endT hM]
end
end PV

set_option maxRecDepth 100000
set_option maxHeartbeats 1000000
/-! drawing -/
namespace PV
open PySem
/-- a pool of two numbers stands at p -/
def Pool (S : Sto) (p : Nat) : Prop := ∃ a b : Int, S[p]? = some (.lst [.int a, .int b])
/-- nothing but the pool at p has changed -/
def Same (p : Nat) (S S' : Sto) : Prop := ∃ a b : Int, S' = S.set p (.lst [.int a, .int b])
theorem Same.trans {p : Nat} {S T U : Sto} (h1 : Same p S T) (h2 : Same p T U) : Same p S U := by
  obtain ⟨a, b, rfl⟩ := h1
  obtain ⟨c, d, rfl⟩ := h2
  exact ⟨c, d, by rw [List.set_set]⟩
theorem Same.pool {p : Nat} {S T : Sto} (h : Pool S p) (h1 : Same p S T) : Pool T p := by
  obtain ⟨a, b, h⟩ := h
  obtain ⟨c, d, rfl⟩ := h1
  exact ⟨c, d, get_set h⟩
theorem Same.refl {p : Nat} {S : Sto} (h : Pool S p) : Same p S S := by
  obtain ⟨a, b, h⟩ := h
  exact ⟨a, b, (set_same h).symm⟩
theorem Same.get {p q : Nat} {S T : Sto} (h1 : Same p S T) (hq : p ≠ q) : T[q]? = S[q]? := by
  obtain ⟨c, d, rfl⟩ := h1
  exact get_set_ne hq
theorem Same.len {p : Nat} {S T : Sto} (h1 : Same p S T) : T.length = S.length := by
  obtain ⟨c, d, rfl⟩ := h1
  simp
theorem ixn0 (n : Nat) (h : 0 < n) : L2.ixN n 0 = some 0 := by
  unfold L2.ixN
  rw [if_pos (by omega), if_pos (by omega)]
  rfl
theorem ixn1 (n : Nat) (h : 1 < n) : L2.ixN n 1 = some 1 := by
  unfold L2.ixN
  rw [if_pos (by omega), if_pos (by omega)]
  rfl
theorem fMod_t {a : Int} {t : Nat} (ht : 1 ≤ t) : fMod (.int a) (iD t) = rint (a % (t : Int)) := by
  show (if decide (0 < (t : Int)) = true then _ else _) = _
  rw [if_pos (decide_eq_true (by omega))]
theorem fFdiv_t {a : Int} {t : Nat} (ht : 1 ≤ t) (ht2 : t < 1000000) : fFdiv (.int a) (iD t) = rint (a / (t : Int)) := by
  show (if (decide (0 < (t : Int)) && decide ((t : Int) < 1073741824)) = true then _ else _) = _
  rw [if_pos]
  rw [Bool.and_eq_true, decide_eq_true_eq, decide_eq_true_eq]
  constructor <;> omega
theorem fMod_c {a j : Int} (h : decide (0 < j) = true) : fMod (.int a) (.int j) = rint (a % j) := by
  show (if decide (0 < j) = true then _ else _) = _
  rw [if_pos h]
theorem fFdiv_c {a j : Int} (h : (decide (0 < j) && decide (j < 1073741824)) = true) : fFdiv (.int a) (.int j) = rint (a / j) := by
  show (if (decide (0 < j) && decide (j < 1073741824)) = true then _ else _) = _
  rw [if_pos h]
theorem take_pos (k : Nat) {S : Sto} {p t : Nat} {a b : Int} (h : S[p]? = some (.lst [.int a, .int b])) (ha : 0 < a) (ht : 1 ≤ t) (ht2 : t < 1000000) (h2 : putAt (.loc p) (.d (.int 0)) (.d (.int (a / (t : Int)))) S = some (S.set p (.lst [.int (a / (t : Int)), .int b]))) : b_law_take (CP k) (CM k) [some (.loc p), some (.d (iD t)), none] S = some (.ret (.v (.d (.int (a % (t : Int))))) (S.set p (.lst [.int (a / (t : Int)), .int b]))) := by
  have d1 : dctOf (.loc p) S = none := x_dct4 h
  have d2 : rd (.loc p) S = some (.list [.int a, .int b]) := x_rd2 h
  have d3 : L2.atI [PyData.int a, PyData.int b] 0 = some (.int a) := at0 _ _
  simp only [b_law_take, x_sSeq, x_sIf, x_dBin, x_dIdx, x_val, x_dVar, x_dC, List.getElem?_cons_zero, List.getElem?_cons_succ, obs, Option.bind_some, x_settle1, d1, d2, x_rdw2, x_rd1, x_fIdxL, d3, x_dv, x_lkf, x_fGt, ha, decide_true, x_rbl, x_asB, if_true, x_sSet, x_valm, x_dCB, x_dA1, x_dA0, x_rds1, x_rds0, x_fInt, x_rint, fMod_t ht, x_stl1, x_seqK1, x_seqK2, x_sPut, fFdiv_t ht ht2, h2, x_sRet, x_sNil, List.set_cons_zero, List.set_cons_succ]
theorem take_neg (k : Nat) {S : Sto} {p t : Nat} {a b b' : Int} (h : S[p]? = some (.lst [.int a, .int b])) (ha : ¬ 0 < a) (ht : 1 ≤ t) (m1 : mulOk 39373 = true) (m2 : mulOk b' = true) (hb' : (b * 39373 + 7) % 2147483647 = b') (f1 : fMod (.int (b * 39373 + 7)) (.int 2147483647) = rint ((b * 39373 + 7) % 2147483647)) (f2 : fMod (.int (b' * b')) (.int 2147483629) = rint (b' * b' % 2147483629)) (f3 : fFdiv (.int (b' * b' % 2147483629)) (.int 32) = rint (b' * b' % 2147483629 / 32))
    (h2 : putAt (.loc p) (.d (.int 1)) (.d (.int b')) S = some (S.set p (.lst [.int a, .int b']))) : b_law_take (CP k) (CM k) [some (.loc p), some (.d (iD t)), none] S = some (.ret (.v (.d (.int (b' * b' % 2147483629 / 32 % (t : Int))))) (S.set p (.lst [.int a, .int b']))) := by
  have d1 : dctOf (.loc p) S = none := x_dct4 h
  have d2 : rd (.loc p) S = some (.list [.int a, .int b]) := x_rd2 h
  have d3 : L2.atI [PyData.int a, PyData.int b] 0 = some (.int a) := at0 _ _
  have d4 : L2.atI [PyData.int a, PyData.int b] 1 = some (.int b) := at1 _ _ _
  have g2 : (S.set p (.lst [.int a, .int b']))[p]? = some (.lst [.int a, .int b']) := get_set h
  have d5 : dctOf (.loc p) (S.set p (.lst [.int a, .int b'])) = none := x_dct4 g2
  have d6 : rd (.loc p) (S.set p (.lst [.int a, .int b'])) = some (.list [.int a, .int b']) := x_rd2 g2
  have d7 : L2.atI [PyData.int a, PyData.int b'] 1 = some (.int b') := at1 _ _ _
  simp only [b_law_take, x_sSeq, x_sIf, x_dBin, x_dIdx, x_val, x_dVar, x_dC, List.getElem?_cons_zero, List.getElem?_cons_succ, obs, Option.bind_some, x_settle1, d1, d2, d4, d5, d6, d7, x_rdw2, x_rd1, x_fIdxL, d3, x_dv, x_lkf, x_fGt, ha, decide_false, x_rbl, x_asB, Bool.false_eq_true, if_false, x_sSet, x_valm, x_dCB, x_dA1, x_dA0, x_rds1, x_rds0, x_fInt, x_rint, fMod_t ht, x_stl1, x_seqK1, x_seqK2, x_sPut, h2, x_sRet, x_sNil, List.set_cons_zero, List.set_cons_succ, x_fMul, m1, m2, Bool.or_true, if_true, x_fAddI, f1, f2, f3, hb']
theorem L_take (k t p : Nat) (S : Sto) (h : Pool S p) (ht : 1 ≤ t) (ht2 : t < 1000000) : ∃ r S', r < t ∧ Same p S S' ∧ CP (k + 1) i_law_take [.loc p, .d (iD t)] S = dR (iD r) S' := by
  obtain ⟨a, b, h⟩ := h
  have g1 : S[p]? = some (.lst [.int a, .int b]) := h
  have ht3 : (0 : Int) < (t : Int) := by omega
  have ht4 : (t : Int) < 1073741824 := by omega
  have ht5 : 0 < t := ht
  by_cases ha : 0 < a
  · refine ⟨(a % (t : Int)).toNat, S.set p (.lst [.int (a / (t : Int)), .int b]), by have := Int.emod_lt_of_pos a ht3; have := Int.emod_nonneg a (show (t : Int) ≠ 0 by omega); omega, ⟨_, _, rfl⟩, ?_⟩
    have h1 : ((a % (t : Int)).toNat : Int) = a % (t : Int) := Int.toNat_of_nonneg (Int.emod_nonneg a (by omega))
    have h2 : putAt (.loc p) (.d (.int 0)) (.d (.int (a / (t : Int)))) S = some (S.set p (.lst [.int (a / (t : Int)), .int b])) := by
      simp [putAt, h, ixn0]
    rw [show iD (a % (t : Int)).toNat = .int (a % (t : Int)) from congrArg PyData.int h1, c_law_take]
    show ((b_law_take (CP k) (CM k) [some (.loc p), some (.d (iD t)), none] S).bind _) = _
    rw [take_pos k h ha ht ht2 h2]
    exact endSame (by simp) _
  · have hb : 0 ≤ (b * 39373 + 7) % 2147483647 := Int.emod_nonneg _ (by decide)
    have hb2 : (b * 39373 + 7) % 2147483647 < 2147483647 := Int.emod_lt_of_pos _ (by decide)
    have h2 : putAt (.loc p) (.d (.int 1)) (.d (.int ((b * 39373 + 7) % 2147483647))) S = some (S.set p (.lst [.int a, .int ((b * 39373 + 7) % 2147483647)])) := by
      simp [putAt, h, ixn1]
    have g2 : (S.set p (.lst [.int a, .int ((b * 39373 + 7) % 2147483647)]))[p]? = some (.lst [.int a, .int ((b * 39373 + 7) % 2147483647)]) := get_set h
    have m1 : mulOk 39373 = true := by decide +kernel
    have m2 : mulOk ((b * 39373 + 7) % 2147483647) = true := by
      unfold mulOk
      rw [decide_eq_true_eq]
      constructor <;> omega
    generalize hb' : (b * 39373 + 7) % 2147483647 = b' at *
    refine ⟨((b' * b' % 2147483629 / 32) % (t : Int)).toNat, S.set p (.lst [.int a, .int b']), by have := Int.emod_lt_of_pos (b' * b' % 2147483629 / 32) ht3; have := Int.emod_nonneg (b' * b' % 2147483629 / 32) (show (t : Int) ≠ 0 by omega); omega, ⟨_, _, rfl⟩, ?_⟩
    have h1 : (((b' * b' % 2147483629 / 32) % (t : Int)).toNat : Int) = (b' * b' % 2147483629 / 32) % (t : Int) := Int.toNat_of_nonneg (Int.emod_nonneg _ (by omega))
    rw [show iD ((b' * b' % 2147483629 / 32) % (t : Int)).toNat = .int ((b' * b' % 2147483629 / 32) % (t : Int)) from congrArg PyData.int h1, c_law_take]
    show ((b_law_take (CP k) (CM k) [some (.loc p), some (.d (iD t)), none] S).bind _) = _
    rw [take_neg k h ha ht m1 m2 hb' (fMod_c (by decide)) (fMod_c (by decide)) (fFdiv_c (by decide)) h2]
    exact endSame (by simp) _
end PV

set_option maxRecDepth 100000
set_option maxHeartbeats 1000000
/-! drawing lists -/
namespace PV
open PySem
theorem L_one (k p : Nat) (S : Sto) (h : Pool S p) (l : List PyData) (hl : 1 ≤ l.length) (hl2 : l.length < 1000000) : ∃ r S', ∃ hr : r < l.length, Same p S S' ∧ CP (k + 2) i_law_one [.loc p, .d (.list l)] S = dR l[r] S' := by
  obtain ⟨r, S', hr, h1, h2⟩ := L_take k l.length p S h hl hl2
  refine ⟨r, S', hr, h1, ?_⟩
  have h3 : L2.atI l (r : Int) = some l[r] := atI_nat _ _ hr
  have h4 : endFn S.length (.v (.d l[r])) S' = some (.v (.d l[r]), S') := endSame h1.len _
  rw [c_law_one]
  simp [b_law_one, runFn, env0, h2, h3, h4]
end PV

set_option maxRecDepth 100000
set_option maxHeartbeats 1000000
/-! shuffles -/
namespace PV
open PySem
theorem x_pop {k : Nat} {S : Sto} {xs : List PyData} {r : Nat} (h : S[k]? = some (.lst xs)) (hr : r < xs.length) (hz : r < 1000000) : mPop (.loc k) [.d (iD r)] S = some (.v (.d xs[r]), S.set k (.lst (xs.eraseIdx r))) := by
  have h1 : ((r : Int)).toNat = r := rfl
  have h2 : (decide (0 ≤ (r : Int)) && decide ((r : Int) < 1000000)) = true := by
    rw [Bool.and_eq_true, decide_eq_true_eq, decide_eq_true_eq]
    constructor <;> omega
  simp only [mPop, h, h2, if_true, h1, List.getElem?_eq_getElem hr]
theorem erase_map (l : List Nat) (r : Nat) : (l.map iD).eraseIdx r = (l.eraseIdx r).map iD := by
  rw [List.eraseIdx_eq_take_drop_succ, List.eraseIdx_eq_take_drop_succ, List.map_append, List.map_take, List.map_drop]
theorem erase_perm {l : List Nat} {r : Nat} (h : r < l.length) : (l[r] :: l.eraseIdx r).Perm l := by
  have h1 : l = l.take r ++ l[r] :: l.drop (r + 1) := by
    rw [← List.drop_eq_getElem_cons h, List.take_append_drop]
  rw [List.eraseIdx_eq_take_drop_succ]
  refine (List.perm_middle.symm).trans ?_
  rw [← h1]
def bodyM (k : Nat) : DenS := sSeq (sExpr (dMeth isLoc mAppend (dVar 3) (dA1 (dMeth isLoc mPop (dVar 2) (dA1 (dCall 2 (CP k i_law_take) (dA1 (dVar 0) (dA1 (dCB true fLen (dA1 (dVar 2) dA0)) dA0))) dA0)) dA0))) sNil
/-- the store while a list is shuffled -/
structure MX (M : Sto) (p : Nat) (l l1 l2 : List Nat) (i : Nat) (S : Sto) : Prop where
  same : ∃ T, Same p M T ∧ S = T ++ [.lst (l1.map iD), .lst (l2.map iD)]
  perm : (l2 ++ l1).Perm l
  len : l1.length + i = l.length
theorem mix_step (k p : Nat) {M : Sto} (hp : Pool M p) {l l1 l2 : List Nat} {i : Nat} {S : Sto} (h : MX M p l l1 l2 i S) (hi : i < l.length) (hl : l.length < 1000) (a1 a4 : Option Val) :
    ∃ l1' l2' S', bodyM (k + 1) [some (.loc p), a1, some (.loc M.length), some (.loc (M.length + 1)), a4] S = some (.nx [some (.loc p), a1, some (.loc M.length), some (.loc (M.length + 1)), a4] S') ∧ MX M p l l1' l2' (i + 1) S' := by
  obtain ⟨T, hs, rfl⟩ := h.same
  have hT : T.length = M.length := hs.len
  obtain ⟨a, b, hpool⟩ := hs.pool hp
  have hpl : p < T.length := (List.getElem?_eq_some_iff.mp hpool).1
  have hz : l1.length ≤ l.length := by have := h.len; omega
  have hz1 : 1 ≤ l1.length := by have := h.len; omega
  obtain ⟨r, S', hr, ⟨c, d, rfl⟩, h2⟩ := L_take k l1.length p (T ++ [.lst (l1.map iD), .lst (l2.map iD)]) ⟨a, b, by rw [List.getElem?_append_left hpl]; exact hpool⟩ hz1 (by omega)
  rw [List.set_append_left _ _ hpl] at h2
  have hU : (T.set p (.lst [.int c, .int d])).length = M.length := by simp [hT]
  generalize hUe : T.set p (.lst [.int c, .int d]) = U at h2 hU
  have q0 : (T ++ [Cell.lst (l1.map iD), .lst (l2.map iD)])[M.length]? = some (.lst (l1.map iD)) := by rw [← hT]; simp
  have q1 : (U ++ [Cell.lst (l1.map iD), .lst (l2.map iD)])[M.length]? = some (.lst (l1.map iD)) := by rw [← hU]; simp
  have q2 : (U ++ [Cell.lst ((l1.eraseIdx r).map iD), .lst (l2.map iD)])[M.length + 1]? = some (.lst (l2.map iD)) := by rw [← hU]; simp
  have hr' : r < (l1.map iD).length := by simpa using hr
  have q3 := x_pop q1 hr' (by omega)
  have q4 : (U ++ [Cell.lst (l1.map iD), .lst (l2.map iD)]).set M.length (.lst ((l1.map iD).eraseIdx r)) = U ++ [.lst ((l1.eraseIdx r).map iD), .lst (l2.map iD)] := by
    rw [← hU, erase_map]
    simp
  rw [q4, List.getElem_map] at q3
  have q5 : (U ++ [Cell.lst ((l1.eraseIdx r).map iD), .lst (l2.map iD)]).set (M.length + 1) (.lst (l2.map iD ++ [iD l1[r]])) = U ++ [.lst ((l1.eraseIdx r).map iD), .lst ((l2 ++ [l1[r]]).map iD)] := by
    rw [← hU]
    simp
  have q6 : (U ++ [Cell.lst (l1.map iD), .lst (l2.map iD)])[M.length + 1]? = some (.lst (l2.map iD)) := by rw [← hU]; simp
  have q7 : (T ++ [Cell.lst (l1.map iD), .lst (l2.map iD)])[M.length + 1]? = some (.lst (l2.map iD)) := by rw [← hT]; simp
  have hp2 : l2.length + l1.length = l.length := by have := h.perm.length_eq; rwa [List.length_append] at this
  have hz2 : l2.length < 100000 := by omega
  refine ⟨l1.eraseIdx r, l2 ++ [l1[r]], U ++ [.lst ((l1.eraseIdx r).map iD), .lst ((l2 ++ [l1[r]]).map iD)], ?_, ⟨U, ⟨?_, rfl⟩⟩, ?_, ?_⟩
  · simp [bodyM, x_isloc q7, x_isloc q0, x_dct4 q0, x_rd2 q0, h2, q3, x_append q2, hz2, q5]
  · obtain ⟨e, f, rfl⟩ := hs
    exact ⟨c, d, by rw [← hUe, List.set_set]⟩
  · have := erase_perm hr
    rw [List.append_assoc]
    exact (List.Perm.append_left l2 this).trans h.perm
  · have := h.len
    rw [List.length_eraseIdx_of_lt hr]
    omega
end PV

set_option maxRecDepth 100000
set_option maxHeartbeats 1000000
namespace PV
open PySem
theorem Same.cl {p : Nat} {S T : Sto} (h : Cl S) (h1 : Same p S T) : Cl T := by
  obtain ⟨a, b, rfl⟩ := h1
  unfold Cl clean at *
  rw [List.take_length] at h ⊢
  rw [List.length_set]
  rw [List.all_eq_true] at h ⊢
  intro c hc
  rcases List.mem_or_eq_of_mem_set hc with hc | rfl
  · exact h c hc
  · rfl
theorem L_mixed (k p : Nat) (M : Sto) (hM : Cl M) (hp : Pool M p) (l : List Nat) (hl : l.length < 1000) : ∃ (l' : List Nat) (M' : Sto), l'.Perm l ∧ Same p M M' ∧ CP (k + 2) i_law_mixed [.loc p, .d (.list (l.map iD))] M = some (.nl (l'.map iD), M') := by
  obtain ⟨ρ2, M2, f1, f2⟩ := forL (g := .nm 4) (l := List.range l.length) (c := fun i => (iD i, true)) (b := bodyM (k + 1))
    (fun i ρ M' => (∃ l1 l2, MX M p l l1 l2 i M') ∧ ∃ a, ρ = [some (.loc p), some (.d (.list (l.map iD))), some (.loc M.length), some (.loc (M.length + 1)), a]) (ρ := [some (.loc p), some (.d (.list (l.map iD))), some (.loc M.length), some (.loc (M.length + 1)), none]) (M := M ++ [.lst (l.map iD), .lst []]) (by
      rintro i a ha ρ M' ⟨⟨l1, l2, h⟩, y, rfl⟩
      obtain ⟨rfl, hi⟩ := rangeAt ha
      obtain ⟨l1', l2', S', h1, h2⟩ := mix_step k p hp h hi hl (some (.d (.list (l.map iD)))) (some (.d (iD a)))
      exact ⟨_, _, _, rfl, h1, ⟨l1', l2', h2⟩, some (.d (iD a)), rfl⟩) ⟨⟨l, [], ⟨M, Same.refl hp, rfl⟩, by simp, by simp⟩, none, rfl⟩
  obtain ⟨⟨l1, l2, h⟩, y, rfl⟩ := f2
  obtain ⟨T, hs, rfl⟩ := h.same
  have hT : T.length = M.length := hs.len
  have h1 : l1 = [] := List.length_eq_zero_iff.mp (by have := h.len; rw [List.length_range] at this; omega)
  subst h1
  have h2 := h.perm
  rw [List.append_nil] at h2
  have q1 : (T ++ [Cell.lst (List.map iD []), .lst (l2.map iD)])[M.length + 1]? = some (.lst (l2.map iD)) := by rw [← hT]; simp
  have q2 : (T ++ [Cell.lst (List.map iD []), .lst (l2.map iD)]).take M.length = T := by rw [← hT]; simp
  have q3 : endFn M.length (.v (.loc (M.length + 1))) (T ++ [Cell.lst (List.map iD []), .lst (l2.map iD)]) = some (.nl (l2.map iD), T) := by
    have hc := hs.cl hM
    unfold Cl clean at hc
    rw [List.take_length, hT] at hc
    unfold endFn clean
    rw [q2, if_pos hc]
    unfold endRes
    simp only [show ¬ (M.length + 1 < M.length) by omega, if_false, q1, Option.bind_some]
  have hsm := small_nat (n := l.length) (by omega)
  have q4 : sFor (dRg1 (dA1 (dCB true fLen (dA1 (dVar 1) dA0)) dA0)) (.nm 4) (bodyM (k + 1)) [some (.loc p), some (.d (.list (l.map iD))), some (.loc M.length), some (.loc (M.length + 1)), none] (M ++ [.lst (l.map iD), .lst []]) = some (.nx [some (.loc p), some (.d (.list (l.map iD))), some (.loc M.length), some (.loc (M.length + 1)), y] (T ++ [Cell.lst (List.map iD []), .lst (l2.map iD)])) := by
    have e1 : dRg1 (dA1 (dCB true fLen (dA1 (dVar 1) dA0)) dA0) [some (.loc p), some (.d (.list (l.map iD))), some (.loc M.length), some (.loc (M.length + 1)), none] (M ++ [.lst (l.map iD), .lst []]) = some ((List.range l.length).map fun i => (iD i, true), M ++ [.lst (l.map iD), .lst []]) := by
      simp [hsm, rg0, okI]
    rw [x_sFor, e1]
    exact f1
  unfold bodyM at q4
  simp only [List.map_nil] at q3 q4
  refine ⟨l2, T, h2, hs, ?_⟩
  rw [c_law_mixed]
  simp [b_law_mixed, runFn, env0, -x_sFor]
  rw [q4]
  simp [q3]
end PV

set_option maxRecDepth 100000
set_option maxHeartbeats 1000000
/-! the pools -/
namespace PV
open PySem
theorem fMul_c {i j : Int} (h : (mulOk i || mulOk j) = true) : fMul (.int i) (.int j) = rint (i * j) := by
  show (if (mulOk i || mulOk j) = true then _ else _) = _
  rw [if_pos h]
theorem fPow_c : fPow (.int 10) (.int 18) = rint (10 ^ 18) := by
  show (if (decide ((0 : Int) ≤ 18) && decide ((18 : Int) ≤ 1000000) && decide ((10 : Int).natAbs < 2 ^ 64)) = true then rint ((10 : Int) ^ (18 : Int).toNat) else none) = _
  rw [if_pos (by decide +kernel)]
  rfl
theorem intsLay (xs : List Int) : PyData.canLayAll0 (xs.map .int) = true ∧ PyData.depthAll (xs.map .int) = 0 := by
  induction xs with
  | nil => exact ⟨rfl, rfl⟩
  | cons a r ih => exact ⟨by simp [PyData.canLayAll0, PyData.canLay0, ih.1], by simp [PyData.depthAll, PyData.depth, ih.2]⟩
theorem fNe_ints (xs : List Int) : fNe (.list (xs.map .int)) (.list []) = rbl (!xs.isEmpty) := by
  have h : eqOk (.list (xs.map .int)) (.list []) = true := by
    unfold eqOk
    simp only [Bool.and_eq_true, decide_eq_true_eq]
    exact ⟨⟨(intsLay xs).1, rfl⟩, Nat.le_trans (Nat.min_le_right _ _) (by decide)⟩
  show (if eqOk _ _ = true then _ else _) = _
  rw [if_pos h]
  congr 1
  cases xs <;> simp [PyData.eqv, PyData.eqvAll]
theorem pool_cell (cp : Nat → Fun) (xs : List Int) (kk : Nat) (M : Sto) (a3 a4 : Option Val) : ∃ c : Int, sIf (dBin false fLt (dVar 1) (dCB true fLen (dA1 (dVar 0) dA0))) (sSeq (sSet 2 false (dIdx (dVar 0) (dVar 1))) sNil) (sSeq (sIf (dBin true fNe (dVar 0) (dLst (dA0))) (sSeq (sSet 2 false (dIdx (dVar 0) (dC (.int 0)))) sNil) (sNil)) sNil)
    [some (.scr (xs.map .int)), some (.d (iD kk)), some (.d (.int 0)), a3, a4] M = some (.nx [some (.scr (xs.map .int)), some (.d (iD kk)), some (.d (.int c)), a3, a4] M) := by
  by_cases h : kk < xs.length
  · refine ⟨xs[kk], ?_⟩
    have h1 : L2.atI (xs.map PyData.int) (kk : Int) = some (.int xs[kk]) := by
      rw [atI_nat _ _ (by simpa using h)]
      simp
    simp [h, h1]
  · cases xs with
    | nil =>
      refine ⟨0, ?_⟩
      have := fNe_ints []
      simp at this
      simp [h, this]
      intro h3
      omega
    | cons a r =>
      refine ⟨a, ?_⟩
      have := fNe_ints (a :: r)
      simp at this
      simp at h
      simp [h, this, at0]
      omega
theorem and_c {f g : Den} {ρ : Env} {M : Sto} {x y : Bool} (h1 : f ρ M = dR (.bool x) M) (h2 : g ρ M = dR (.bool y) M) : dAnd f g ρ M = dR (.bool (x && y)) M := by
  rw [x_dAnd, h1]
  cases x
  · rfl
  · exact h2
theorem pool_tail (cp cpm : Nat → Fun) (xs : List Int) (kk : Nat) (hk : kk ≤ 1) (c : Int) (M : Sto) : ∃ a b : Int, (sSeq (sSet 3 false (dCB false fMax (dA1 (dCB false fInt (dA1 (dVar 2) dA0)) (dA1 (dCB false fInt (dA1 (dBin false fSub (dUn fNeg (dC (.int 1))) (dVar 2)) dA0)) dA0))))
  (sSeq (sSet 4 false (dBin false fMod (dCB false fInt (dA1 (dBin false fMul (dBin false fAdd (dBin false fAdd (dBin false fAdd (dBin false fMod (dCB false fInt (dA1 (dVar 3) dA0)) (dC (.int 2147483629))) (dBin false fMul (dBin false fMul (dC (.int 7919)) (dVar 1)) (dVar 1))) (dBin false fMul (dC (.int 31)) (dVar 1))) (dC (.int 17))) (dC (.int 48271))) dA0)) (dC (.int 2147483647))))
  (sSeq (sRet (dLst (dA1 (dBin false fMul (dVar 3) (dCB false fInt (dA1 (dAnd (dBin false fGe (dVar 3) (dBin false fPow (dC (.int 10)) (dC (.int 18)))) (dBin false fLt (dVar 1) (dCB true fLen (dA1 (dVar 0) dA0)))) dA0))) (dA1 (dVar 4) dA0)))) sNil)))
    [some (.scr (xs.map .int)), some (.d (iD kk)), some (.d (.int c)), none, none] M = some (.ret (.nl [.int a, .int b]) M) := by
  have m1 : (mulOk 7919 || mulOk (kk : Int)) = true := by rw [show mulOk 7919 = true by decide +kernel]; rfl
  have m2 : (mulOk (7919 * (kk : Int)) || mulOk (kk : Int)) = true := by
    have : mulOk (kk : Int) = true := by
      unfold mulOk
      rw [decide_eq_true_eq]
      constructor <;> omega
    rw [this, Bool.or_true]
  have m3 : (mulOk 31 || mulOk (kk : Int)) = true := by rw [show mulOk 31 = true by decide +kernel]; rfl
  have m4 : ∀ z : Int, (mulOk z || mulOk 48271) = true := fun z => by rw [show mulOk 48271 = true by decide +kernel, Bool.or_true]
  have m5 : ∀ (z : Int) (b : Bool), (mulOk z || mulOk (if b then 1 else 0)) = true := fun z b => by
    have : mulOk (if b then 1 else 0) = true := by cases b <;> decide +kernel
    rw [this, Bool.or_true]
  have hj : decide ((0 : Int) < 2147483647) = true := by decide
  have hj2 : decide ((0 : Int) < 2147483629) = true := by decide
  generalize hb : (if -1 - c > c then -1 - c else c) = big'
  have a1 : ∀ (e : Int), dAnd (dBin false fGe (dVar 3) (dBin false fPow (dC (.int 10)) (dC (.int 18)))) (dBin false fLt (dVar 1) (dCB true fLen (dA1 (dVar 0) dA0))) [some (.scr (xs.map .int)), some (.d (iD kk)), some (.d (.int c)), some (.d (.int big')), some (.d (.int e))] M = dR (.bool (decide ((10 : Int) ^ 18 ≤ big') && decide ((kk : Int) < ((xs.map PyData.int).length : Int)))) M := by
    intro e
    refine and_c ?_ ?_
    · simp only [x_dBin, x_val, x_dVar, x_dC, List.getElem?_cons_zero, List.getElem?_cons_succ, obs, x_settle1, x_lkf, x_rd1, fPow_c, x_rint, x_fGe, x_rbl]
    · simp only [x_dBin, x_val, x_dVar, x_dC, x_dCB, x_dA1, x_dA0, List.getElem?_cons_zero, List.getElem?_cons_succ, obs, x_settle1, x_lkf, x_lkt, x_rds1, x_rds0, x_rdw3, x_rd1, x_fLenL, x_rint, x_fLt, x_rbl]
  refine ⟨big' * (if (decide ((10 : Int) ^ 18 ≤ big') && decide ((kk : Int) < ((xs.map PyData.int).length : Int))) then 1 else 0), ((big' % 2147483629 + 7919 * (kk : Int) * (kk : Int) + 31 * (kk : Int) + 17) * 48271) % 2147483647, ?_⟩
  simp only [x_sSeq, x_sSet, x_valm, x_dCB, x_dA1, x_dA0, x_val, x_dVar, x_dC, x_dBin, x_dUn, List.getElem?_cons_zero, List.getElem?_cons_succ, obs, x_settle1, x_lkf, x_rds1, x_rds0, x_rd1, x_fInt, x_rint, x_fNeg, x_fSub, x_fMax2, hb, x_stl1, x_seqK1, x_seqK2, List.set_cons_zero, List.set_cons_succ, fMod_c hj2, fMod_c hj, fMul_c m1, fMul_c m2, fMul_c m3, fMul_c (m4 _), fMul_c (m5 _ _), x_fAddI, x_sRet, x_dLst, a1, x_fIntB, x_allD0, x_allD1, x_sNil]
  rfl
theorem L_pool (k : Nat) (xs : List Int) (kk : Nat) (hk : kk ≤ 1) (M : Sto) : ∃ a b : Int, CP (k + 1) i_law_pool [.scr (xs.map .int), .d (iD kk)] M = some (.nl [.int a, .int b], M) := by
  obtain ⟨c, h1⟩ := pool_cell (CP k) xs kk M none none
  obtain ⟨a, b, h2⟩ := pool_tail (CP k) (CM k) xs kk hk c M
  refine ⟨a, b, ?_⟩
  rw [c_law_pool]
  unfold runFn b_law_pool
  rw [show env0 5 [.scr (xs.map PyData.int), .d (iD kk)] = [some (.scr (xs.map PyData.int)), some (.d (iD kk)), none, none, none] from rfl]
  rw [x_sSeq]
  rw [show sSet 2 false (dC (.int 0)) [some (.scr (xs.map PyData.int)), some (.d (iD kk)), none, none, none] M = some (.nx [some (.scr (xs.map PyData.int)), some (.d (iD kk)), some (.d (.int 0)), none, none] M) from rfl]
  rw [obs, x_seqK1, x_sSeq, h1, obs, x_seqK1, h2, Option.bind_some]
  exact endNl M _
end PV

set_option maxRecDepth 100000
set_option maxHeartbeats 1000000
/-! the bars drawn -/
namespace PV
open PySem
theorem cut_take (ds : List PyData) (r : Nat) : cutD ds none (some (r : Int)) = ds.take r := by
  unfold cutD
  have h0 : HT.sIx ds.length 0 none = 0 := rfl
  rw [h0]
  rw [HT.sIx_nat, List.drop_zero, Nat.sub_zero]
  rcases Nat.le_total r ds.length with h | h
  · rw [Nat.min_eq_left h]
  · rw [Nat.min_eq_right h, List.take_length, List.take_of_length_le h]
theorem Same.app {p : Nat} {T cs S : Sto} (h : Same p (T ++ cs) S) (hp : p < T.length) : ∃ T', Same p T T' ∧ S = T' ++ cs := by
  obtain ⟨a, b, rfl⟩ := h
  exact ⟨T.set p (.lst [.int a, .int b]), ⟨a, b, rfl⟩, List.set_append_left _ _ hp⟩
theorem Pool.app {p : Nat} {T cs : Sto} (h : Pool T p) : Pool (T ++ cs) p := by
  obtain ⟨a, b, h⟩ := h
  exact ⟨a, b, by rw [List.getElem?_append_left (List.getElem?_eq_some_iff.mp h).1]; exact h⟩
theorem Pool.lt {p : Nat} {T : Sto} (h : Pool T p) : p < T.length := by
  obtain ⟨a, b, h⟩ := h
  exact (List.getElem?_eq_some_iff.mp h).1
theorem sort_nat (l : List Nat) (h : l.Nodup) : ∃ l' : List Nat, l'.Perm l ∧ l'.Pairwise (· < ·) ∧ fSorted [.list (l.map iD)] = some (.nl (l'.map iD)) := by
  have h1 : intsOf (l.map iD) = some (l.map fun i : Nat => (i : Int)) := intsM l fun i => (i : Int)
  have h2 := isort_perm (l.map fun i : Nat => (i : Int))
  have h3 : ((isort (l.map fun i : Nat => (i : Int))).map Int.toNat).map (fun i : Nat => (i : Int)) = isort (l.map fun i : Nat => (i : Int)) := by
    rw [List.map_map]
    refine (List.map_congr_left fun a ha => ?_).trans (List.map_id _)
    obtain ⟨b, _, rfl⟩ := List.mem_map.mp (h2.mem_iff.mp ha)
    rfl
  have h4 : ((isort (l.map fun i : Nat => (i : Int))).map Int.toNat).Perm l := by
    have := h2.map Int.toNat
    rwa [List.map_map, show (Int.toNat ∘ fun i : Nat => (i : Int)) = id from rfl, List.map_id] at this
  generalize hl' : (isort (l.map fun i : Nat => (i : Int))).map Int.toNat = l' at h3 h4
  have h5 : l'.Pairwise (· ≤ ·) := by
    have := isort_srt (l.map fun i : Nat => (i : Int))
    rw [← h3, List.pairwise_map] at this
    exact this.imp fun h => by omega
  have h6 : l'.Nodup := h4.nodup_iff.mpr h
  refine ⟨l', h4, ?_, ?_⟩
  · exact (h5.and h6).imp fun ⟨a, b⟩ => by omega
  · unfold fSorted
    simp only [h1]
    rw [← h3, List.map_map]
    rfl
/-- a move's bars, by what is drawn -/
def barL (lt : Nat → List Nat) (m : Nat) : PyData := if m = 0 then .tuple [] else .tuple [ND ((m - 1) :: lt m)]
def LtOk (n m : Nat) (l : List Nat) : Prop := l.length ≤ 2 ∧ l.Pairwise (· < ·) ∧ ∀ y ∈ l, m ≤ y ∧ y < n
def bodyR (k : Nat) : DenS := sSeq (sSet 4 false (dCB false fSorted (dA1 (dSlice (dCall 2 (CP k i_law_mixed) (dA1 (dVar 0) (dA1 (dLc (dRg2 (dA1 (dVar 3) (dA1 (dVar 1) dA0))) (.nm 5) (dC (.bool true)) (dVar 5) [5]) dA0))) none (some (dCall 2 (CP k i_law_take) (dA1 (dVar 0) (dA1 (dC (.int 3)) dA0))))) dA0)))
  (sSeq (sExpr (dMeth isLoc mAppend (dVar 2) (dA1 (dTup (dA1 (dBin false fAdd (dTup (dA1 (dBin false fSub (dVar 3) (dC (.int 1))) dA0)) (dCB false fTuple (dA1 (dVar 4) dA0))) dA0)) dA0))) sNil)
theorem bar_step (k p n i N : Nat) (T : Sto) (hN : T.length = N) (hT : Cl T) (hp : Pool T p) (hn : n ≤ 24) (hi : i + 2 < n) (lt : Nat → List Nat) (a4 : Option Val) :
    ∃ T' l a4', LtOk n (i + 1) l ∧ Same p T T' ∧ bodyR (k + 2) [some (.loc p), some (.d (iD n)), some (.loc N), some (.d (iD (i + 1))), a4, none] (T ++ [.lst ((List.range (i + 1)).map (barL lt))]) =
      some (.nx [some (.loc p), some (.d (iD n)), some (.loc N), some (.d (iD (i + 1))), a4', none] (T' ++ [.lst ((List.range (i + 1)).map (barL lt) ++ [.tuple [ND (i :: l)]])])) := by
  subst hN
  have hsn := small_nat (n := n) (by omega)
  have hsi := small_nat (n := i + 1) (by omega)
  have cl1 : Cl (T ++ [Cell.lst ((List.range (i + 1)).map (barL lt))]) := cl_lst hT _
  obtain ⟨l1, S1, hperm, s1, e1⟩ := L_mixed k p _ cl1 hp.app (List.range' (i + 1) (n - (i + 1))) (by simp; omega)
  obtain ⟨T1, t1, rfl⟩ := s1.app hp.lt
  have hp1 := t1.pool hp
  obtain ⟨r, S2, hr, s2, e2⟩ := L_take (k + 1) 3 p (T1 ++ [Cell.lst ((List.range (i + 1)).map (barL lt))]) hp1.app (by omega) (by omega)
  obtain ⟨T2, t2, rfl⟩ := s2.app hp1.lt
  have hnd : l1.Nodup := hperm.nodup_iff.mpr List.nodup_range'
  obtain ⟨l, hlp, hls, e3⟩ := sort_nat (l1.take r) (hnd.sublist (List.take_sublist _ _))
  have hll : l.length ≤ 2 := by
    rw [hlp.length_eq, List.length_take]
    omega
  have f1 : dLc (dRg2 (dA1 (dVar 3) (dA1 (dVar 1) dA0))) (.nm 5) (dC (.bool true)) (dVar 5) [5] [some (.loc p), some (.d (iD n)), some (.loc T.length), some (.d (iD (i + 1))), a4, none] (T ++ [.lst ((List.range (i + 1)).map (barL lt))]) = some (.nl ((List.range' (i + 1) (n - (i + 1))).map iD), T ++ [.lst ((List.range (i + 1)).map (barL lt))]) :=
    lcM (List.range' (i + 1) (n - (i + 1))) iD iD (by
      simp only [x_dRg2, x_dA1, x_dA0, x_val, x_dVar, List.getElem?_cons_succ, List.getElem?_cons_zero, obs, x_settle1, hsn, hsi, Bool.and_self, if_true]
      rw [show ((n : Int) - ((i + 1 : Nat) : Int)).toNat = n - (i + 1) by omega, rgA (i + 1) _]) (by rw [List.length_range']; exact Nat.le_trans (by omega : n - (i + 1) ≤ 24) (by decide)) (by simp)
  have len2 : T2.length = T.length := t2.len.trans t1.len
  have g2 : (T2 ++ [Cell.lst ((List.range (i + 1)).map (barL lt))])[T.length]? = some (.lst ((List.range (i + 1)).map (barL lt))) := by rw [← len2]; simp
  have g3 : (T2 ++ [Cell.lst ((List.range (i + 1)).map (barL lt))]).set T.length (.lst ((List.range (i + 1)).map (barL lt) ++ [.tuple [.tuple (.int (i : Int) :: l.map iD)]])) = T2 ++ [.lst ((List.range (i + 1)).map (barL lt) ++ [.tuple [ND (i :: l)]])] := by rw [← len2]; simp
  have g4 : i + 1 < 100000 := by omega
  have h5 : ((i + 1 : Nat) : Int) - 1 = (i : Int) := by omega
  have h6 : 1 + l.length ≤ 100000 := by omega
  refine ⟨T2, l, some (.d (.list (l.map iD))), ⟨hll, hls, fun y hy => ?_⟩, t1.trans t2, ?_⟩
  · have h1 : y ∈ l1 := List.mem_of_mem_take (hlp.mem_iff.mp hy)
    have h2 := hperm.mem_iff.mp h1
    rw [List.mem_range'_1] at h2
    omega
  · have e4 : dSlice (dCall 2 (CP (k + 2) i_law_mixed) (dA1 (dVar 0) (dA1 (dLc (dRg2 (dA1 (dVar 3) (dA1 (dVar 1) dA0))) (.nm 5) (dC (.bool true)) (dVar 5) [5]) dA0))) none (some (dCall 2 (CP (k + 2) i_law_take) (dA1 (dVar 0) (dA1 (dC (.int 3)) dA0)))) [some (.loc p), some (.d (iD n)), some (.loc T.length), some (.d (iD (i + 1))), a4, none] (T ++ [.lst ((List.range (i + 1)).map (barL lt))]) = some (.nl ((l1.take r).map iD), T2 ++ [Cell.lst ((List.range (i + 1)).map (barL lt))]) := by
      have e2' : CP (k + 2) i_law_take [.loc p, .d (.int 3)] (T1 ++ [Cell.lst ((List.range (i + 1)).map (barL lt))]) = dR (iD r) (T2 ++ [Cell.lst ((List.range (i + 1)).map (barL lt))]) := e2
      have e5 := cut_take (l1.map iD) r
      simp [f1, e1, e2', e5, List.map_take]
    have e6 : fSorted [.list ((l1.map iD).take r)] = some (.nl (l.map iD)) := by rw [← List.map_take]; exact e3
    unfold bodyR
    simp [e4, e6, h5, x_isloc g2, x_append g2, g4, g3, h6]
theorem bars_succ (lt : Nat → List Nat) (l : List Nat) (a : Nat) : (List.range (a + 1)).map (barL lt) ++ [.tuple [ND (a :: l)]] = (List.range (a + 1 + 1)).map (barL fun m => if m = a + 1 then l else lt m) := by
  rw [List.range_succ (n := a + 1), List.map_append, List.map_singleton]
  have h1 : (List.range (a + 1)).map (barL lt) = (List.range (a + 1)).map (barL fun m => if m = a + 1 then l else lt m) := List.map_congr_left fun m hm => by
    have := List.mem_range.mp hm
    unfold barL
    by_cases h : m = 0
    · rw [if_pos h, if_pos h]
    · rw [if_neg h, if_neg h]
      show _ = PyData.tuple [ND ((m - 1) :: if m = a + 1 then l else lt m)]
      rw [if_neg (show m ≠ a + 1 by omega)]
  rw [h1]
  have h2 : barL (fun m => if m = a + 1 then l else lt m) (a + 1) = .tuple [ND (a :: l)] := by
    unfold barL
    rw [if_neg (by omega)]
    show PyData.tuple [ND ((a + 1 - 1) :: if a + 1 = a + 1 then l else lt (a + 1))] = _
    rw [if_pos rfl, Nat.add_sub_cancel]
  rw [h2]
theorem rg1_map (k : Nat) : rgUp 1 k = (List.range k).map fun i => (iD (i + 1), true) := by
  unfold rgUp
  refine List.map_congr_left fun i _ => ?_
  have : (1 : Int) + (i : Int) = ((i + 1 : Nat) : Int) := by omega
  rw [this]
theorem fMul_one : fMul (.list [.tuple []]) (.int 1) = some (.nl [.tuple []]) := by
  simp [fMul]
theorem L_row_bars (k p n : Nat) (T : Sto) (hT : Cl T) (hp : Pool T p) (hn2 : 2 ≤ n) (hn : n ≤ 24) : ∃ (lt : Nat → List Nat) (T' : Sto), (∀ m, 1 ≤ m → m + 1 < n → LtOk n m (lt m)) ∧ Same p T T' ∧ CP (k + 3) i_law_row_bars [.loc p, .d (iD n)] T = dR (.tuple ((List.range (n - 1)).map (barL lt))) T' := by
  obtain ⟨ρ2, M2, f1, f2⟩ := forL (g := .nm 3) (l := List.range (n - 2)) (c := fun i => (iD (i + 1), true)) (b := bodyR (k + 2))
    (fun i ρ M' => ∃ T' lt, (∀ m, 1 ≤ m → m ≤ i → LtOk n m (lt m)) ∧ Same p T T' ∧ M' = T' ++ [.lst ((List.range (i + 1)).map (barL lt))] ∧ ∃ a b, ρ = [some (.loc p), some (.d (iD n)), some (.loc T.length), a, b, none]) (ρ := [some (.loc p), some (.d (iD n)), some (.loc T.length), none, none, none]) (M := T ++ [.lst [.tuple []]]) (by
      rintro i a ha ρ M' ⟨T', lt, hlt, hs, rfl, x, y, rfl⟩
      obtain ⟨rfl, hi⟩ := rangeAt ha
      obtain ⟨T2, l, a4', hl, hs2, e⟩ := bar_step k p n a T.length T' hs.len (hs.cl hT) (hs.pool hp) hn (by omega) lt y
      rw [bars_succ] at e
      refine ⟨_, _, _, rfl, e, T2, fun m => if m = a + 1 then l else lt m, fun m h1 h2 => ?_, hs.trans hs2, rfl, _, _, rfl⟩
      show LtOk n m (if m = a + 1 then l else lt m)
      by_cases hm : m = a + 1
      · rw [if_pos hm, hm]
        exact hl
      · rw [if_neg hm]
        exact hlt m h1 (by omega)) ⟨T, fun _ => [], fun m h1 h2 => by omega, Same.refl hp, rfl, none, none, rfl⟩
  obtain ⟨T', lt, hlt, hs, rfl, x, y, rfl⟩ := f2
  rw [List.length_range] at hlt f1
  rw [show n - 2 + 1 = n - 1 by omega] at f1
  have hsm := small_nat (n := n - 1) (by omega)
  have h1 : (1 : Int) < (n : Int) := by omega
  have h2 : (n : Int) - 1 = ((n - 1 : Nat) : Int) := by omega
  have h3 : (((n - 1 : Nat) : Int) - 1).toNat = n - 2 := by omega
  have hs1 : small 1 = true := small_nat (n := 1) (by omega)
  have e1 : sSet 2 true (dBin false fMul (dLst (dA1 (dTup (dA0)) dA0)) (dCB false fInt (dA1 (dBin false fGt (dVar 1) (dC (.int 1))) dA0))) [some (.loc p), some (.d (iD n)), none, none, none, none] T = some (.nx [some (.loc p), some (.d (iD n)), some (.loc T.length), none, none, none] (T ++ [.lst [.tuple []]])) := by
    simp [h1, fMul_one]
  have e2 : dRg2 (dA1 (dC (.int 1)) (dA1 (dBin false fSub (dVar 1) (dC (.int 1))) dA0)) [some (.loc p), some (.d (iD n)), some (.loc T.length), none, none, none] (T ++ [.lst [.tuple []]]) = some ((List.range (n - 2)).map fun i => (iD (i + 1), true), T ++ [.lst [.tuple []]]) := by
    rw [← rg1_map]
    simp only [x_dRg2, x_dA1, x_dA0, x_val, x_dBin, x_dVar, x_dC, List.getElem?_cons_succ, List.getElem?_cons_zero, obs, x_settle1, x_lkf, x_rd1, x_fSub, x_rint, h2, hs1, hsm, Bool.and_self, if_true, h3]
  have e3 : sFor (dRg2 (dA1 (dC (.int 1)) (dA1 (dBin false fSub (dVar 1) (dC (.int 1))) dA0))) (.nm 3) (bodyR (k + 2)) [some (.loc p), some (.d (iD n)), some (.loc T.length), none, none, none] (T ++ [.lst [.tuple []]]) = some (.nx [some (.loc p), some (.d (iD n)), some (.loc T.length), x, y, none] (T' ++ [.lst ((List.range (n - 1)).map (barL lt))])) := by
    rw [x_sFor, e2]
    exact f1
  have hlen : T'.length = T.length := hs.len
  have g1 : (T' ++ [Cell.lst ((List.range (n - 1)).map (barL lt))])[T.length]? = some (.lst ((List.range (n - 1)).map (barL lt))) := by rw [← hlen]; simp
  have e4 : endFn T.length (.v (.d (.tuple ((List.range (n - 1)).map (barL lt))))) (T' ++ [Cell.lst ((List.range (n - 1)).map (barL lt))]) = dR (.tuple ((List.range (n - 1)).map (barL lt))) T' := by
    rw [← hlen]
    exact endT (hs.cl hT) (by simp) _
  unfold bodyR at e3
  refine ⟨lt, T', fun m a b => hlt m a (by omega), hs, ?_⟩
  rw [c_law_row_bars]
  simp [b_law_row_bars, runFn, env0, -x_sFor, -x_sSet]
  rw [e1]
  simp [-x_sFor]
  rw [e3]
  simp [x_rd2 g1, e4]
end PV

set_option maxRecDepth 100000
set_option maxHeartbeats 1000000
/-! the book drawn -/
namespace PV
open PySem
def signL (n : Nat) (o : Nat → Nat) (g : Nat) : PyData := .tuple ((List.range n).map fun x => iD (if x + 1 = g then o g else 0))
def sbA (k : Nat) : DenS := sSet 1 false (dCall 2 (CP k i_law_one) (dA1 (dVar 0) (dA1 (dLst (dA1 (dC (.int 2)) (dA1 (dC (.int 3)) (dA1 (dC (.int 4)) (dA1 (dC (.int 5)) (dA1 (dBin false fAdd (dC (.int 6)) (dCall 2 (CP k i_law_take) (dA1 (dVar 0) (dA1 (dC (.int 5)) dA0)))) (dA1 (dBin false fAdd (dC (.int 2)) (dCall 2 (CP k i_law_take) (dA1 (dVar 0) (dA1 (dC (.int 6)) dA0)))) dA0))))))) dA0)))
theorem bookA (k p : Nat) (T : Sto) (hp : Pool T p) : ∃ (n : Nat) (T' : Sto), 2 ≤ n ∧ n ≤ 10 ∧ Same p T T' ∧ sbA (k + 2) [some (.loc p), none, none, none, none, none, none, none, none] T = some (.nx [some (.loc p), some (.d (iD n)), none, none, none, none, none, none, none] T') := by
  obtain ⟨r1, T1, h1, s1, e1⟩ := L_take (k + 1) 5 p T hp (by omega) (by omega)
  obtain ⟨r2, T2, h2, s2, e2⟩ := L_take (k + 1) 6 p T1 (s1.pool hp) (by omega) (by omega)
  obtain ⟨r, T3, h3, s3, e3⟩ := L_one k p T2 (s2.pool (s1.pool hp)) [.int 2, .int 3, .int 4, .int 5, iD (6 + r1), iD (2 + r2)] (by simp) (by simp)
  have e1' : CP (k + 2) i_law_take [.loc p, .d (.int 5)] T = dR (iD r1) T1 := e1
  have e2' : CP (k + 2) i_law_take [.loc p, .d (.int 6)] T1 = dR (iD r2) T2 := e2
  have e3' : CP (k + 2) i_law_one [.loc p, .d (.list [.int 2, .int 3, .int 4, .int 5, .int (6 + (r1 : Int)), .int (2 + (r2 : Int))])] T2 = dR ([PyData.int 2, .int 3, .int 4, .int 5, iD (6 + r1), iD (2 + r2)][r]) T3 := by
    rw [← e3]
    have h4 : (6 : Int) + (r1 : Int) = ((6 + r1 : Nat) : Int) := by omega
    have h5 : (2 : Int) + (r2 : Int) = ((2 + r2 : Nat) : Int) := by omega
    rw [h4, h5]
  have h6 : ∃ n : Nat, 2 ≤ n ∧ n ≤ 10 ∧ [PyData.int 2, .int 3, .int 4, .int 5, iD (6 + r1), iD (2 + r2)][r] = iD n := by
    have h7 : r = 0 ∨ r = 1 ∨ r = 2 ∨ r = 3 ∨ r = 4 ∨ r = 5 := by simp at h3; omega
    rcases h7 with rfl | rfl | rfl | rfl | rfl | rfl
    · exact ⟨2, by omega, by omega, rfl⟩
    · exact ⟨3, by omega, by omega, rfl⟩
    · exact ⟨4, by omega, by omega, rfl⟩
    · exact ⟨5, by omega, by omega, rfl⟩
    · exact ⟨6 + r1, by omega, by omega, rfl⟩
    · exact ⟨2 + r2, by omega, by omega, rfl⟩
  obtain ⟨n, n1, n2, hn⟩ := h6
  rw [hn] at e3'
  refine ⟨n, T3, n1, n2, (s1.trans s2).trans s3, ?_⟩
  unfold sbA
  simp [e1', e2', e3']
def sbB (k : Nat) : DenS := sIf (dBin true fEq (dCall 2 (CP k i_law_take) (dA1 (dVar 0) (dA1 (dC (.int 24)) dA0))) (dC (.int 0))) (sSeq (sSet 1 false (dC (.int 24))) sNil) (sNil)
theorem bookB (k p n0 : Nat) (T : Sto) (hp : Pool T p) (h1 : 2 ≤ n0) (h2 : n0 ≤ 10) : ∃ (n : Nat) (T' : Sto), 2 ≤ n ∧ n ≤ 24 ∧ Same p T T' ∧ sbB (k + 1) [some (.loc p), some (.d (iD n0)), none, none, none, none, none, none, none] T = some (.nx [some (.loc p), some (.d (iD n)), none, none, none, none, none, none, none] T') := by
  obtain ⟨r, T1, h3, s1, e1⟩ := L_take k 24 p T hp (by omega) (by omega)
  have e1' : CP (k + 1) i_law_take [.loc p, .d (.int 24)] T = dR (iD r) T1 := e1
  have e2 : fEq (.int (r : Int)) (.int 0) = rbl (decide (r = 0)) := fEqN (b := 0) (by omega) (by omega)
  by_cases h : r = 0
  · refine ⟨24, T1, by omega, by omega, s1, ?_⟩
    subst h
    have e3 : fEq (iD 0) (.int 0) = rbl true := fEqN (a := 0) (b := 0) (by omega) (by omega)
    unfold sbB
    simp [e1', e3]
  · refine ⟨n0, T1, h1, by omega, s1, ?_⟩
    unfold sbB
    simp [e1', e2, h]
theorem zeros (n : Nat) : (List.replicate n [PyData.int 0]).flatten = (List.range n).map fun _ => iD 0 := by
  induction n with
  | zero => rfl
  | succ n ih =>
    rw [List.replicate_succ', List.flatten_append, ih, List.range_succ, List.map_append]
    rfl
theorem fMulT {n : Nat} (h1 : 2 ≤ n) (h2 : n ≤ 24) (o : Nat → Nat) : fMul (.tuple [.int 0]) (iD n) = dv (signL n o 0) := by
  show (if (decide ([PyData.int 0] ≠ []) && decide (2 ≤ (n : Int)) && decide ((n : Int) ≤ 1000) && decide ([PyData.int 0].length ≤ 1000)) = true then dv (.tuple (List.replicate (n : Int).toNat [PyData.int 0]).flatten) else none) = _
  rw [if_pos]
  · rw [show ((n : Int)).toNat = n from rfl, zeros]
    unfold signL
    congr 2
  · simp only [Bool.and_eq_true, decide_eq_true_eq]
    refine ⟨⟨⟨by simp, by omega⟩, by omega⟩, by simp⟩
def sbC (k : Nat) : DenS := sPar 2 3 false true (dBin false fAdd (dC (.int 2)) (dCall 2 (CP k i_law_take) (dA1 (dVar 0) (dA1 (dCB false fMin (dA1 (dC (.int 15)) (dA1 (dVar 1) dA0))) dA0)))) (dLst (dA1 (dBin false fMul (dTup (dA1 (dC (.int 0)) dA0)) (dVar 1)) dA0))
theorem bookC (k p n : Nat) (T : Sto) (hp : Pool T p) (h1 : 2 ≤ n) (h2 : n ≤ 24) : ∃ (q : Nat) (T' : Sto), 2 ≤ q ∧ q ≤ 16 ∧ Same p T T' ∧ sbC (k + 1) [some (.loc p), some (.d (iD n)), none, none, none, none, none, none, none] T = some (.nx [some (.loc p), some (.d (iD n)), some (.d (iD q)), some (.loc T.length), none, none, none, none, none] (T' ++ [.lst [signL n (fun _ => 1) 0]])) := by
  obtain ⟨r, T1, h3, s1, e1⟩ := L_take k (min 15 n) p T hp (by omega) (by omega)
  have h4 : (if (n : Int) < 15 then (n : Int) else 15) = ((min 15 n : Nat) : Int) := by split <;> omega
  have h5 : (2 : Int) + (r : Int) = ((2 + r : Nat) : Int) := by omega
  have h6 : T1.length = T.length := s1.len
  have h7 := fMulT h1 h2 fun _ => 1
  refine ⟨2 + r, T1, by omega, by omega, s1, ?_⟩
  have eA : dBin false fAdd (dC (.int 2)) (dCall 2 (CP (k + 1) i_law_take) (dA1 (dVar 0) (dA1 (dCB false fMin (dA1 (dC (.int 15)) (dA1 (dVar 1) dA0))) dA0))) [some (.loc p), some (.d (iD n)), none, none, none, none, none, none, none] T = dR (iD (2 + r)) T1 := by
    simp only [x_dBin, x_val, x_dC, x_dCall, x_dA1, x_dA0, x_dVar, x_dCB, List.getElem?_cons_zero, List.getElem?_cons_succ, List.length_cons, List.length_nil, obs, x_settle1, x_lkf, x_rds1, x_rds0, x_rd1, x_fMin2, h4, x_rint, e1, if_true, x_fAddI, h5]
  have eB : dLst (dA1 (dBin false fMul (dTup (dA1 (dC (.int 0)) dA0)) (dVar 1)) dA0) [some (.loc p), some (.d (iD n)), none, none, none, none, none, none, none] T1 = some (.nl [signL n (fun _ => 1) 0], T1) := by
    have hb : [PyData.int 0].length ≤ big := by decide
    have hb2 : [signL n (fun _ => 1) 0].length ≤ big := by
      show 1 ≤ big
      decide
    simp only [x_dLst, x_dA1, x_dA0, x_val, x_dBin, x_dTup, x_dC, x_dVar, List.getElem?_cons_zero, List.getElem?_cons_succ, obs, x_settle1, x_allD1, x_allD0]
    rw [if_pos hb]
    simp only [obs, x_val, x_dA0, x_dVar, List.getElem?_cons_zero, List.getElem?_cons_succ, x_settle1, x_lkf, x_rd1, h7, x_dv, x_allD1, x_allD0]
    rw [if_pos hb2]
  unfold sbC
  simp only [x_sPar, x_valm, eA, eB, obs, x_stl1, x_stl2t, h6, List.set_cons_zero, List.set_cons_succ]
def sbD (k : Nat) : DenS := sSeq (sSet 5 false (dBin false fAdd (dC (.int 1)) (dCall 2 (CP k i_law_take) (dA1 (dVar 0) (dA1 (dC (.int 9)) dA0)))))
  (sSeq (sExpr (dMeth isLoc mAppend (dVar 3) (dA1 (dCB false fTuple (dA1 (dLc (dRg1 (dA1 (dVar 1) dA0)) (.nm 6) (dC (.bool true)) (dIf (dBin true fEq (dVar 6) (dBin false fSub (dVar 4) (dC (.int 1)))) (dVar 5) (dC (.int 0))) [6]) dA0)) dA0))) sNil)
theorem sign_row (n i odd : Nat) (M : Sto) (hn : n ≤ 24) (a0 a2 a3 : Option Val) (hi : i < n) (ho : odd ≤ 9) : dCB false fTuple (dA1 (dLc (dRg1 (dA1 (dVar 1) dA0)) (.nm 6) (dC (.bool true)) (dIf (dBin true fEq (dVar 6) (dBin false fSub (dVar 4) (dC (.int 1)))) (dVar 5) (dC (.int 0))) [6]) dA0)
    [a0, some (.d (iD n)), a2, a3, some (.d (iD (i + 1))), some (.d (iD odd)), none, none, none] M = dR (.tuple ((List.range n).map fun x => iD (if x + 1 = i + 1 then odd else 0))) M := by
  have hs := small_nat (n := n) (by omega)
  refine cbTup (lcM (List.range n) iD (fun x => iD (if x + 1 = i + 1 then odd else 0)) (by simp [hs, rg0]) (by rw [List.length_range]; exact Nat.le_trans hn (by decide)) fun x hx => ?_)
  have hx' := List.mem_range.mp hx
  have h5 : ((i + 1 : Nat) : Int) - 1 = (i : Int) := by omega
  have h6 : fEq (.int (x : Int)) (.int (i : Int)) = rbl (decide (x = i)) := fEqN (by omega) (by omega)
  by_cases h : x = i
  · subst h
    have h7 : fEq (iD x) (.int (x : Int)) = rbl true := by
      have := fEqN (a := x) (b := x) (by omega) (by omega)
      rwa [decide_eq_true rfl] at this
    simp [h5, h7]
  · simp [h5, h6, h]
theorem sign_step (k p n i N : Nat) (T : Sto) (hN : T.length = N) (hp : Pool T p) (hn : n ≤ 24) (hi : i + 1 < n) (o : Nat → Nat) (a2 a5 : Option Val) :
    ∃ T' odd, 1 ≤ odd ∧ odd ≤ 9 ∧ Same p T T' ∧ sbD (k + 1) [some (.loc p), some (.d (iD n)), a2, some (.loc N), some (.d (iD (i + 1))), a5, none, none, none] (T ++ [.lst ((List.range (i + 1)).map (signL n o))]) =
      some (.nx [some (.loc p), some (.d (iD n)), a2, some (.loc N), some (.d (iD (i + 1))), some (.d (iD odd)), none, none, none] (T' ++ [.lst ((List.range (i + 1)).map (signL n o) ++ [.tuple ((List.range n).map fun x => iD (if x + 1 = i + 1 then odd else 0))])])) := by
  subst hN
  obtain ⟨r, S1, hr, s1, e1⟩ := L_take k 9 p (T ++ [Cell.lst ((List.range (i + 1)).map (signL n o))]) hp.app (by omega) (by omega)
  obtain ⟨T1, t1, rfl⟩ := s1.app hp.lt
  have e1' : CP (k + 1) i_law_take [.loc p, .d (.int 9)] (T ++ [Cell.lst ((List.range (i + 1)).map (signL n o))]) = dR (iD r) (T1 ++ [Cell.lst ((List.range (i + 1)).map (signL n o))]) := e1
  have h5 : (1 : Int) + (r : Int) = ((1 + r : Nat) : Int) := by omega
  have e2 := sign_row n i (1 + r) (T1 ++ [Cell.lst ((List.range (i + 1)).map (signL n o))]) hn (some (.loc p)) a2 (some (.loc T.length)) (by omega) (by omega)
  have len1 : T1.length = T.length := t1.len
  have g2 : (T1 ++ [Cell.lst ((List.range (i + 1)).map (signL n o))])[T.length]? = some (.lst ((List.range (i + 1)).map (signL n o))) := by rw [← len1]; simp
  have g3 : ∀ d, (T1 ++ [Cell.lst ((List.range (i + 1)).map (signL n o))]).set T.length (.lst ((List.range (i + 1)).map (signL n o) ++ [d])) = T1 ++ [.lst ((List.range (i + 1)).map (signL n o) ++ [d])] := fun d => by rw [← len1]; simp
  have g4 : i + 1 < 100000 := by omega
  refine ⟨T1, 1 + r, by omega, by omega, t1, ?_⟩
  have g5 := x_append g2 (y := .tuple ((List.range n).map fun x => iD (if x + 1 = i + 1 then 1 + r else 0)))
  rw [if_pos (by rw [List.length_map, List.length_range]; exact Nat.lt_of_lt_of_le g4 (by decide)), g3] at g5
  unfold sbD
  simp only [x_sSeq, x_sSet, x_valm, x_dBin, x_val, x_dVar, x_dC, x_dCall, x_dA1, x_dA0, x_sExpr, x_dMeth, List.getElem?_cons_zero, List.getElem?_cons_succ, List.length_cons, List.length_nil, obs, x_settle1, x_lkf, x_rd1, if_true, e1', x_fAddI, h5, x_rint, x_stl1, List.set_cons_zero, List.set_cons_succ, x_seqK1, x_isloc g2, e2, g5, x_sNil]
theorem signs_succ (n : Nat) (o : Nat → Nat) (odd a : Nat) : (List.range (a + 1)).map (signL n o) ++ [.tuple ((List.range n).map fun x => iD (if x + 1 = a + 1 then odd else 0))] = (List.range (a + 1 + 1)).map (signL n fun g => if g = a + 1 then odd else o g) := by
  rw [List.range_succ (n := a + 1), List.map_append, List.map_singleton]
  have h1 : (List.range (a + 1)).map (signL n o) = (List.range (a + 1)).map (signL n fun g => if g = a + 1 then odd else o g) := List.map_congr_left fun m hm => by
    have := List.mem_range.mp hm
    show PyData.tuple ((List.range n).map fun x => iD (if x + 1 = m then o m else 0)) = PyData.tuple ((List.range n).map fun x => iD (if x + 1 = m then (if m = a + 1 then odd else o m) else 0))
    rw [if_neg (show m ≠ a + 1 by omega)]
  have h2 : signL n (fun g => if g = a + 1 then odd else o g) (a + 1) = .tuple ((List.range n).map fun x => iD (if x + 1 = a + 1 then odd else 0)) := by
    show PyData.tuple ((List.range n).map fun x => iD (if x + 1 = a + 1 then (if a + 1 = a + 1 then odd else o (a + 1)) else 0)) = _
    rw [if_pos rfl]
  rw [h1, h2]
theorem bookD (k p n : Nat) (T T0 : Sto) (hT0 : T0.length = T.length) (hp : Pool T p) (h1 : 2 ≤ n) (h2 : n ≤ 24) (a2 : Option Val) : ∃ (o : Nat → Nat) (T' : Sto) (b4 b5 : Option Val), (∀ g, 1 ≤ o g ∧ o g ≤ 9) ∧ Same p T T' ∧
    sFor (dRg2 (dA1 (dC (.int 1)) (dA1 (dVar 1) dA0))) (.nm 4) (sbD (k + 1)) [some (.loc p), some (.d (iD n)), a2, some (.loc T0.length), none, none, none, none, none] (T ++ [.lst [signL n (fun _ => 1) 0]]) = some (.nx [some (.loc p), some (.d (iD n)), a2, some (.loc T0.length), b4, b5, none, none, none] (T' ++ [.lst ((List.range n).map (signL n o))])) := by
  obtain ⟨ρ2, M2, f1, f2⟩ := forL (g := .nm 4) (l := List.range (n - 1)) (c := fun i => (iD (i + 1), true)) (b := sbD (k + 1))
    (fun i ρ M' => ∃ T' o, (∀ g, 1 ≤ o g ∧ o g ≤ 9) ∧ Same p T T' ∧ M' = T' ++ [.lst ((List.range (i + 1)).map (signL n o))] ∧ ∃ a b, ρ = [some (.loc p), some (.d (iD n)), a2, some (.loc T0.length), a, b, none, none, none]) (ρ := [some (.loc p), some (.d (iD n)), a2, some (.loc T0.length), none, none, none, none, none]) (M := T ++ [.lst [signL n (fun _ => 1) 0]]) (by
      rintro i a ha ρ M' ⟨T', o, ho, hs, rfl, x, y, rfl⟩
      obtain ⟨rfl, hi⟩ := rangeAt ha
      obtain ⟨T2, odd, o1, o2, hs2, e⟩ := sign_step k p n a T0.length T' (hs.len.trans hT0.symm) (hs.pool hp) h2 (by omega) o a2 y
      rw [signs_succ] at e
      refine ⟨_, _, _, rfl, e, T2, fun g => if g = a + 1 then odd else o g, fun g => ?_, hs.trans hs2, rfl, _, _, rfl⟩
      show 1 ≤ (if g = a + 1 then odd else o g) ∧ (if g = a + 1 then odd else o g) ≤ 9
      by_cases hg : g = a + 1
      · rw [if_pos hg]; exact ⟨o1, o2⟩
      · rw [if_neg hg]; exact ho g) ⟨T, fun _ => 1, fun g => (show 1 ≤ 1 ∧ 1 ≤ 9 from ⟨by omega, by omega⟩), Same.refl hp, rfl, none, none, rfl⟩
  obtain ⟨T', o, ho, hs, rfl, x, y, rfl⟩ := f2
  rw [List.length_range] at f1
  rw [show n - 1 + 1 = n by omega] at f1
  have hsn := small_nat (n := n) (by omega)
  have hs1 : small 1 = true := small_nat (n := 1) (by omega)
  have h3 : ((n : Int) - 1).toNat = n - 1 := by omega
  refine ⟨o, T', x, y, ho, hs, ?_⟩
  rw [x_sFor]
  have e2 : dRg2 (dA1 (dC (.int 1)) (dA1 (dVar 1) dA0)) [some (.loc p), some (.d (iD n)), a2, some (.loc T0.length), none, none, none, none, none] (T ++ [.lst [signL n (fun _ => 1) 0]]) = some ((List.range (n - 1)).map fun i => (iD (i + 1), true), T ++ [.lst [signL n (fun _ => 1) 0]]) := by
    rw [← rg1_map]
    simp only [x_dRg2, x_dA1, x_dA0, x_val, x_dVar, x_dC, List.getElem?_cons_succ, List.getElem?_cons_zero, obs, x_settle1, hs1, hsn, Bool.and_self, if_true, h3]
  rw [e2]
  exact f1
def sbE : Den := dCB false fTuple (dA1 (dLc (dRg1 (dA1 (dVar 1) dA0)) (.nm 6) (dC (.bool true)) (dTup (dA1 (dBin false fMod (dCB false fInt (dA1 (dVar 6) dA0)) (dVar 2)) dA0)) [6]) dA0)
theorem bookE (n q : Nat) (M : Sto) (h2 : n ≤ 24) (hq : 1 ≤ q) (a0 a3 a4 a5 a7 a8 : Option Val) : sbE [a0, some (.d (iD n)), some (.d (iD q)), a3, a4, a5, none, a7, a8] M = dR (.tuple ((List.range n).map fun x => .tuple [iD (x % q)])) M := by
  have hs := small_nat (n := n) (by omega)
  refine cbTup (lcM (List.range n) iD (fun x => .tuple [iD (x % q)]) (by simp [hs, rg0]) (by rw [List.length_range]; exact Nat.le_trans h2 (by decide)) fun x hx => ?_)
  have h3 : fMod (.int (x : Int)) (.int (q : Int)) = rint (((x % q : Nat)) : Int) := fMod_t (a := (x : Int)) hq
  simp [h3]
def sbF : Den := dCB false fTuple (dA1 (dLc (dRg1 (dA1 (dBin false fSub (dVar 1) (dC (.int 1))) dA0)) (.nm 4) (dC (.bool true)) (dTup (dA1 (dVar 4) (dA1 (dBin false fAdd (dVar 4) (dC (.int 1))) dA0))) [4]) dA0)
theorem bookF (n : Nat) (M : Sto) (h1 : 1 ≤ n) (h2 : n ≤ 24) (a0 a2 a3 a4 a5 a6 a7 a8 : Option Val) : sbF [a0, some (.d (iD n)), a2, a3, a4, a5, a6, a7, a8] M = dR (.tuple ((List.range (n - 1)).map Bk.moveD)) M := by
  have hs := small_nat (n := n - 1) (by omega)
  have h3 : (n : Int) - 1 = ((n - 1 : Nat) : Int) := by omega
  refine cbTup (lcM (List.range (n - 1)) iD Bk.moveD (by simp [h3, hs, rg0]) (by rw [List.length_range]; exact Nat.le_trans (by omega : n - 1 ≤ 24) (by decide)) fun x hx => ?_)
  simp
end PV

set_option maxRecDepth 100000
set_option maxHeartbeats 1000000
namespace PV
open PySem
theorem L_row_book (k p : Nat) (T : Sto) (hT : Cl T) (hp : Pool T p) : ∃ (B : Bk) (T' : Sto), B.Ok ∧ Same p T T' ∧ CP (k + 4) i_law_row_book [.loc p] T = dR B.book T' := by
  obtain ⟨n0, T1, n1, n2, s1, eA⟩ := bookA (k + 1) p T hp
  have p1 := s1.pool hp
  obtain ⟨n, T2, m1, m2, s2, eB⟩ := bookB (k + 2) p n0 T1 p1 n1 n2
  have p2 := s2.pool p1
  obtain ⟨q, T3, q1, q2, s3, eC⟩ := bookC (k + 2) p n T2 p2 m1 m2
  have p3 := s3.pool p2
  obtain ⟨o, T4, b4, b5, ho, s4, eD⟩ := bookD (k + 2) p n T3 T2 s3.len.symm p3 m1 m2 (some (.d (iD q)))
  have p4 := s4.pool p3
  have s14 := ((s1.trans s2).trans s3).trans s4
  have c4 : Cl T4 := s14.cl hT
  obtain ⟨lt, S5, hlt, s5, eG⟩ := L_row_bars k p n (T4 ++ [.lst ((List.range n).map (signL n o))]) (cl_lst c4 _) p4.app m1 m2
  obtain ⟨T5, t5, rfl⟩ := s5.app p4.lt
  have eE := bookE n q (T4 ++ [.lst ((List.range n).map (signL n o))]) m2 (by omega) (some (.loc p)) (some (.loc T2.length)) b4 b5 none none
  have eF := bookF n (T4 ++ [.lst ((List.range n).map (signL n o))]) (by omega) m2 (some (.loc p)) (some (.d (iD q))) (some (.loc T2.length)) b4 b5 none (some (.d (.tuple ((List.range n).map fun x => .tuple [iD (x % q)])))) none
  have len4 : T4.length = T2.length := s4.len.trans s3.len
  have len0 : T5.length = T.length := (s14.trans t5).len
  have g1 : (T4 ++ [Cell.lst ((List.range n).map (signL n o))])[T2.length]? = some (.lst ((List.range n).map (signL n o))) := by rw [← len4]; simp
  have eH : dCB false fTuple (dA1 (dVar 3) dA0) [some (.loc p), some (.d (iD n)), some (.d (iD q)), some (.loc T2.length), b4, b5, none, some (.d (.tuple ((List.range n).map fun x => .tuple [iD (x % q)]))), some (.d (.tuple ((List.range (n - 1)).map Bk.moveD)))] (T4 ++ [.lst ((List.range n).map (signL n o))]) = dR (.tuple ((List.range n).map (signL n o))) (T4 ++ [.lst ((List.range n).map (signL n o))]) := by
    simp [x_rd2 g1]
  have hbars : (List.range (n - 1)).map (barL lt) = (List.range (n - 1)).map (barL fun m => if 1 ≤ m ∧ m + 1 < n then lt m else []) := List.map_congr_left fun m hm => by
    have hm' := List.mem_range.mp hm
    by_cases h : m = 0
    · subst h; rfl
    · show (if m = 0 then _ else PyData.tuple [ND ((m - 1) :: lt m)]) = (if m = 0 then _ else PyData.tuple [ND ((m - 1) :: if 1 ≤ m ∧ m + 1 < n then lt m else [])])
      rw [if_neg h, if_neg h, if_pos ⟨by omega, by omega⟩]
  rw [hbars] at eG
  let B : Bk := ⟨n, q, o, fun m => if 1 ≤ m ∧ m + 1 < n then lt m else []⟩
  have hrig : B.rig = .tuple [iD n, iD q, .tuple ((List.range n).map fun x => .tuple [iD (x % q)]), .tuple ((List.range n).map (signL n o)), .tuple ((List.range (n - 1)).map Bk.moveD)] := rfl
  have hbook : B.book = .tuple [B.rig, .tuple ((List.range (n - 1)).map (barL fun m => if 1 ≤ m ∧ m + 1 < n then lt m else []))] := rfl
  refine ⟨B, T5, ⟨m1, m2, q1, q2, ho, fun m => ?_, fun m a b => ?_⟩, s14.trans t5, ?_⟩
  · show (if 1 ≤ m ∧ m + 1 < n then lt m else []).length ≤ 2
    by_cases h : 1 ≤ m ∧ m + 1 < n
    · rw [if_pos h]; exact (hlt m h.1 h.2).1
    · rw [if_neg h]; simp
  · show (if 1 ≤ m ∧ m + 1 < n then lt m else []).Pairwise (· < ·) ∧ ∀ y ∈ (if 1 ≤ m ∧ m + 1 < n then lt m else []), m ≤ y ∧ y < n
    rw [if_pos ⟨a, b⟩]
    exact (hlt m a b).2
  have eR : dTup (dA1 (dTup (dA1 (dVar 1) (dA1 (dVar 2) (dA1 (dVar 7) (dA1 (dCB false fTuple (dA1 (dVar 3) dA0)) (dA1 (dVar 8) dA0)))))) (dA1 (dCall 2 (CP (k + 3) i_law_row_bars) (dA1 (dVar 0) (dA1 (dVar 1) dA0))) dA0)) [some (.loc p), some (.d (iD n)), some (.d (iD q)), some (.loc T2.length), b4, b5, none, some (.d (.tuple ((List.range n).map fun x => .tuple [iD (x % q)]))), some (.d (.tuple ((List.range (n - 1)).map Bk.moveD)))] (T4 ++ [.lst ((List.range n).map (signL n o))]) = dR B.book (T5 ++ [.lst ((List.range n).map (signL n o))]) := by
    have hb5 : ∀ a b c d e : PyData, [a, b, c, d, e].length ≤ big := fun _ _ _ _ _ => by
      show 5 ≤ big
      decide
    have hb2 : 0 + 1 + 1 ≤ big := by
      show 2 ≤ big
      decide
    rw [hbook, hrig]
    simp only [x_dTup, x_dA1, x_dA0, x_val, x_dVar, List.getElem?_cons_zero, List.getElem?_cons_succ, obs, x_settle1, eH, x_allD1, x_allD0]
    rw [if_pos (hb5 _ _ _ _ _)]
    simp only [obs, x_settle1, x_val, x_dCall, x_dA1, x_dA0, x_dVar, List.getElem?_cons_zero, List.getElem?_cons_succ, List.length_cons, List.length_nil, if_true, eG, x_allD1, x_allD0]
    rw [if_pos hb2]
  have e0 : b_law_row_book (CP (k + 3)) (CM (k + 3)) = sSeq (sbA (k + 3)) (sSeq (sbB (k + 3)) (sSeq (sbC (k + 3)) (sSeq (sFor (dRg2 (dA1 (dC (.int 1)) (dA1 (dVar 1) dA0))) (.nm 4) (sbD (k + 3))) (sSeq (sSet 7 false sbE) (sSeq (sSet 8 false sbF) (sSeq (sRet (dTup (dA1 (dTup (dA1 (dVar 1) (dA1 (dVar 2) (dA1 (dVar 7) (dA1 (dCB false fTuple (dA1 (dVar 3) dA0)) (dA1 (dVar 8) dA0)))))) (dA1 (dCall 2 (CP (k + 3) i_law_row_bars) (dA1 (dVar 0) (dA1 (dVar 1) dA0))) dA0)))) sNil)))))) := rfl
  have e9 : endFn T.length (.v (.d B.book)) (T5 ++ [Cell.lst ((List.range n).map (signL n o))]) = dR B.book T5 := by
    rw [← len0]
    exact endT ((s14.trans t5).cl hT) (by simp) _
  rw [c_law_row_book]
  unfold runFn
  rw [e0, show env0 9 [Val.loc p] = [some (.loc p), none, none, none, none, none, none, none, none] from rfl]
  have eEs : sSet 7 false sbE [some (.loc p), some (.d (iD n)), some (.d (iD q)), some (.loc T2.length), b4, b5, none, none, none] (T4 ++ [.lst ((List.range n).map (signL n o))]) = some (.nx [some (.loc p), some (.d (iD n)), some (.d (iD q)), some (.loc T2.length), b4, b5, none, some (.d (.tuple ((List.range n).map fun x => .tuple [iD (x % q)]))), none] (T4 ++ [.lst ((List.range n).map (signL n o))])) := by
    rw [x_sSet, x_valm, eE]
    rfl
  have eFs : sSet 8 false sbF [some (.loc p), some (.d (iD n)), some (.d (iD q)), some (.loc T2.length), b4, b5, none, some (.d (.tuple ((List.range n).map fun x => .tuple [iD (x % q)]))), none] (T4 ++ [.lst ((List.range n).map (signL n o))]) = some (.nx [some (.loc p), some (.d (iD n)), some (.d (iD q)), some (.loc T2.length), b4, b5, none, some (.d (.tuple ((List.range n).map fun x => .tuple [iD (x % q)]))), some (.d (.tuple ((List.range (n - 1)).map Bk.moveD)))] (T4 ++ [.lst ((List.range n).map (signL n o))])) := by
    rw [x_sSet, x_valm, eF]
    rfl
  rw [x_sSeq, eA, obs, x_seqK1, x_sSeq, eB, obs, x_seqK1, x_sSeq, eC, obs, x_seqK1, x_sSeq, eD, obs, x_seqK1, x_sSeq, eEs, obs, x_seqK1, x_sSeq, eFs, obs, x_seqK1, x_sSeq, x_sRet, eR, obs, obs, x_seqK2]
  exact e9
end PV

set_option maxRecDepth 100000
set_option maxHeartbeats 1000000
/-! the code that the law builds by hand -/
namespace PV
open PySem
section
variable {B : Bk}
def uA : Den := dTup (dA1 (dC (.str "cure")) (dA1 (dTup (dA0)) (dA1 (dIdx (dIdx (dIdx (dVar 0) (dC (.int 2))) (dBin false fSub (dVar 3) (dC (.int 1)))) (dC (.int 0))) dA0)))
def uB : DenS := sIf (dInD true (fIn true) (dVar 4) (dVar 1)) (sSeq (sExpr (dMeth isLoc mAppend (dVar 1) (dA1 (dVar 4) dA0))) sNil) (sNil)
def uL : Den := dTup (dA1 (dC (.str "look")) (dA1 (dTup (dA1 (dVar 3) dA0)) (dA1 (dTup (dA1 (dTup (dA1 (dC (.int 0)) (dA1 (dVar 2) dA0))) (dA1 (dTup (dA1 (dIdx (dIdx (dIdx (dVar 0) (dC (.int 3))) (dVar 3)) (dBin false fSub (dVar 3) (dC (.int 1)))) (dA1 (dIndex (dVar 1) (dA1 (dVar 4) dA0)) dA0))) dA0))) dA0)))
def bodyU : DenS := sSeq (sSet 4 false uA) (sSeq uB (sSeq (sExpr (dMeth isLoc mAppend (dVar 1) (dA1 uL dA0))) (sSeq (sSet 2 false (dBin false fSub (dCB true fLen (dA1 (dVar 1) dA0)) (dC (.int 1)))) sNil)))
theorem cureIdx (ok : B.Ok) {j : Nat} (hj : j < B.n) : fIdx B.curesD (.int (j : Int)) = dv (B.cureD j) ∧ fIdx (B.cureD j) (.int 0) = dv (iD (j % B.q)) := by
  refine ⟨fIdxR _ hj, ?_⟩
  simp [at0]
theorem uA_ok (ok : B.Ok) (j : Nat) (hj : j < B.n) (M : Sto) (a1 a2 a4 : Option Val) : uA [some (.d B.rig), a1, a2, some (.d (iD (j + 1))), a4] M = dR (cureT B j) M := by
  obtain ⟨h1, h2⟩ := cureIdx ok hj
  have h5 : ((j + 1 : Nat) : Int) - 1 = (j : Int) := by omega
  have e1 : dIdx (dIdx (dIdx (dVar 0) (dC (.int 2))) (dBin false fSub (dVar 3) (dC (.int 1)))) (dC (.int 0)) [some (.d B.rig), a1, a2, some (.d (iD (j + 1))), a4] M = dR (iD (j % B.q)) M := by
    simp [h5, h1, h2, -x_fIdxT]
  unfold uA cureT
  simp [e1]
theorem uB_ok (ok : B.Ok) (j p : Nat) (rows : List PyData) (hr : ∀ y ∈ rows, PL rN y = true) (hl : rows.length ≤ 60) (M : Sto) (hM : M[p]? = some (.lst rows)) (a2 a3 : Option Val) : uB [some (.d B.rig), some (.loc p), a2, a3, some (.d (cureT B j))] M = some (.nx [some (.d B.rig), some (.loc p), a2, a3, some (.d (cureT B j))] (M.set p (.lst (addR rows (cureT B j))))) := by
  have e1 := (fIn_add hr (cureR_pl ok j)).1
  have hl' : rows.length < 100000 := by omega
  by_cases hin : (rows.any fun y => PyData.eqv y (cureT B j)) = true
  · have e4 : addR rows (cureT B j) = rows := by unfold addR; rw [if_pos hin]
    rw [hin] at e1
    rw [e4, set_same hM]
    unfold uB
    simp [x_dct4 hM, x_rd2 hM, e1]
  · have hin' : (rows.any fun y => PyData.eqv y (cureT B j)) = false := by simpa using hin
    have e4 : addR rows (cureT B j) = rows ++ [cureT B j] := by unfold addR; rw [if_neg hin]
    rw [hin'] at e1
    rw [e4]
    unfold uB
    simp [x_dct4 hM, x_rd2 hM, e1, x_isloc hM, x_append hM, hl']
theorem uL_ok (ok : B.Ok) (j p h : Nat) (rows : List PyData) (hj : j + 1 < B.n) (hr : ∀ y ∈ addR rows (cureT B j), PL rN y = true) (M : Sto) (hM : M[p]? = some (.lst (addR rows (cureT B j)))) : uL [some (.d B.rig), some (.loc p), some (.d (iD h)), some (.d (iD (j + 1))), some (.d (cureT B j))] M = dR (lookR B [j + 1] j h (idR (addR rows (cureT B j)) (cureT B j))) M := by
  obtain ⟨h1, h2⟩ := signAt ok hj (show j < B.n by omega)
  have h5 : ((j + 1 : Nat) : Int) - 1 = (j : Int) := by omega
  rw [sgo] at h2
  have e1 : dIdx (dIdx (dIdx (dVar 0) (dC (.int 3))) (dVar 3)) (dBin false fSub (dVar 3) (dC (.int 1))) [some (.d B.rig), some (.loc p), some (.d (iD h)), some (.d (iD (j + 1))), some (.d (cureT B j))] M = dR (iD (B.o (j + 1))) M := by
    simp [h5, h1, h2, -x_fIdxT]
  have e2 := (idR_lt ok (r := rows) (j := j)).1
  have e3 := shaped_row hr (cureR_pl ok j)
  have e4 : dIndex (dVar 1) (dA1 (dVar 4) dA0) [some (.d B.rig), some (.loc p), some (.d (iD h)), some (.d (iD (j + 1))), some (.d (cureT B j))] M = dR (iD (idR (addR rows (cureT B j)) (cureT B j))) M := by
    simp [x_isl5 hM, mIndexL, x_rd2 hM, e2, e3]
  unfold uL lookR
  simp [e1, e4]
theorem due_step (ok : B.Ok) (i p : Nat) (hi : i + 1 < B.n) (M : Sto) (hM : M[p]? = some (.lst (codeL B i))) (a4 : Option Val) : ∃ a4', bodyU [some (.d B.rig), some (.loc p), some (.d (iD ((codeL B i).length - 1))), some (.d (iD (B.n - 1 - i))), a4] M =
    some (.nx [some (.d B.rig), some (.loc p), some (.d (iD ((codeL B (i + 1)).length - 1))), some (.d (iD (B.n - 1 - i))), a4'] (M.set p (.lst (codeL B (i + 1))))) := by
  have h24 := ok.n24
  have hok := codeL_ok ok i (by omega)
  have hrp := hok.pl ok (by omega)
  have hrl := hok.len
  have hj : B.n - 1 - i = (B.n - 2 - i) + 1 := by omega
  have ha := hok.add ok (j := B.n - 2 - i) (by omega)
  have hap := ha.pl ok (by omega)
  have hal := ha.len
  have e1 := uA_ok ok (B.n - 2 - i) (by omega) M (some (.loc p)) (some (.d (iD ((codeL B i).length - 1)))) a4
  have e2 := uB_ok ok (B.n - 2 - i) p (codeL B i) hrp (by omega) M hM (some (.d (iD ((codeL B i).length - 1)))) (some (.d (iD (B.n - 2 - i + 1))))
  have hM2 : (M.set p (.lst (addR (codeL B i) (cureT B (B.n - 2 - i)))))[p]? = some (.lst (addR (codeL B i) (cureT B (B.n - 2 - i)))) := get_set hM
  have e3 := uL_ok ok (B.n - 2 - i) p ((codeL B i).length - 1) (codeL B i) (by omega) hap _ hM2
  have hM3 : (M.set p (.lst (codeL B (i + 1))))[p]? = some (.lst (codeL B (i + 1))) := get_set hM
  have e5 : codeL B (i + 1) = addR (codeL B i) (cureT B (B.n - 2 - i)) ++ [lookR B [B.n - 2 - i + 1] (B.n - 2 - i) ((codeL B i).length - 1) (idR (addR (codeL B i) (cureT B (B.n - 2 - i))) (cureT B (B.n - 2 - i)))] := by
    rw [← hj]
    rfl
  have e4 := x_append hM2 (y := lookR B [B.n - 2 - i + 1] (B.n - 2 - i) ((codeL B i).length - 1) (idR (addR (codeL B i) (cureT B (B.n - 2 - i))) (cureT B (B.n - 2 - i))))
  rw [if_pos (Nat.lt_of_le_of_lt hal (Nat.lt_of_lt_of_le (by omega : 2 * i + 1 + 1 < 100) (by decide))), List.set_set, ← e5] at e4
  have e6 : ((codeL B (i + 1)).length : Int) - 1 = (((codeL B (i + 1)).length - 1 : Nat) : Int) := by
    rw [e5]
    simp
  rw [hj]
  refine ⟨some (.d (cureT B (B.n - 2 - i))), ?_⟩
  unfold bodyU
  rw [x_sSeq, x_sSet, x_valm, e1]
  simp only [obs, x_stl1, List.set_cons_zero, List.set_cons_succ, x_seqK1]
  rw [x_sSeq, e2]
  simp only [obs, x_seqK1]
  have e7 : sExpr (dMeth isLoc mAppend (dVar 1) (dA1 uL dA0)) [some (.d B.rig), some (.loc p), some (.d (iD ((codeL B i).length - 1))), some (.d (iD (B.n - 2 - i + 1))), some (.d (cureT B (B.n - 2 - i)))] (M.set p (.lst (addR (codeL B i) (cureT B (B.n - 2 - i))))) = some (.nx [some (.d B.rig), some (.loc p), some (.d (iD ((codeL B i).length - 1))), some (.d (iD (B.n - 2 - i + 1))), some (.d (cureT B (B.n - 2 - i)))] (M.set p (.lst (codeL B (i + 1))))) := by
    simp only [x_sExpr, x_dMeth, x_dA1, x_dA0, x_val, x_dVar, List.getElem?_cons_zero, List.getElem?_cons_succ, obs, x_settle1, x_isloc hM2, if_true, e3, e4]
  rw [x_sSeq, e7]
  simp only [obs, x_seqK1]
  have e8 : dBin false fSub (dCB true fLen (dA1 (dVar 1) dA0)) (dC (.int 1)) [some (.d B.rig), some (.loc p), some (.d (iD ((codeL B i).length - 1))), some (.d (iD (B.n - 2 - i + 1))), some (.d (cureT B (B.n - 2 - i)))] (M.set p (.lst (codeL B (i + 1)))) = dR (iD ((codeL B (i + 1)).length - 1)) (M.set p (.lst (codeL B (i + 1)))) := by
    simp only [x_dBin, x_val, x_dCB, x_dA1, x_dA0, x_dVar, x_dC, List.getElem?_cons_zero, List.getElem?_cons_succ, obs, x_settle1, x_lkf, x_lkt, x_rds1, x_rds0, x_rdw2, x_rd2 hM3, x_rd1, x_fLenL, x_rint, x_fSub, e6]
  rw [x_sSeq, x_sSet, x_valm, e8]
  simp only [obs, x_stl1, List.set_cons_zero, List.set_cons_succ, x_seqK1, x_sNil]
theorem L_due_code (ok : B.Ok) (k : Nat) (M : Sto) (hM : Cl M) : CP (k + 1) i_law_due_code [.d B.rig] M = dR (.tuple (codeL B (B.n - 1))) M := by
  have h24 := ok.n24
  have h2 := ok.n2
  obtain ⟨ρ2, M2, f1, f2⟩ := forL (g := .nm 3) (l := List.range (B.n - 1)) (c := fun i => (iD (B.n - 1 - i), true)) (b := bodyU)
    (fun i ρ M' => M' = M ++ [.lst (codeL B i)] ∧ ∃ a b, ρ = [some (.d B.rig), some (.loc M.length), some (.d (iD ((codeL B i).length - 1))), a, b]) (ρ := [some (.d B.rig), some (.loc M.length), some (.d (iD 0)), none, none]) (M := M ++ [.lst (codeL B 0)]) (by
      rintro i a ha ρ M' ⟨rfl, x, y, rfl⟩
      obtain ⟨rfl, hi⟩ := rangeAt ha
      obtain ⟨a4', e⟩ := due_step ok a M.length (by omega) (M ++ [.lst (codeL B a)]) (by simp) y
      refine ⟨_, _, _, rfl, e, by simp, _, _, rfl⟩) ⟨rfl, none, none, rfl⟩
  obtain ⟨rfl, x, y, rfl⟩ := f2
  rw [List.length_range] at f1
  have hsn := small_nat (n := B.n - 1) (by omega)
  have hs0 : small 0 = true := small_nat (n := 0) (by omega)
  have h3 : (B.n : Int) - 1 = ((B.n - 1 : Nat) : Int) := by omega
  obtain ⟨c1, c2⟩ := cureIdx ok (j := B.n - 1) (by omega)
  have e1 : dTup (dA1 (dC (.str "cure")) (dA1 (dTup (dA0)) (dA1 (dIdx (dIdx (dIdx (dVar 0) (dC (.int 2))) (dBin false fSub (dIdx (dVar 0) (dC (.int 0))) (dC (.int 1)))) (dC (.int 0))) dA0))) [some (.d B.rig), none, none, none, none] M = dR (cureT B (B.n - 1)) M := by
    have e0 : dIdx (dIdx (dIdx (dVar 0) (dC (.int 2))) (dBin false fSub (dIdx (dVar 0) (dC (.int 0))) (dC (.int 1)))) (dC (.int 0)) [some (.d B.rig), none, none, none, none] M = dR (iD ((B.n - 1) % B.q)) M := by
      simp [h3, c1, c2, -x_fIdxT]
    unfold cureT
    simp [e0]
  have e2 : dRg3 (dA1 (dBin false fSub (dIdx (dVar 0) (dC (.int 0))) (dC (.int 1))) (dA1 (dC (.int 0)) (dA1 (dUn fNeg (dC (.int 1))) dA0))) [some (.d B.rig), some (.loc M.length), some (.d (iD 0)), none, none] (M ++ [.lst (codeL B 0)]) = some ((List.range (B.n - 1)).map fun i => (iD (B.n - 1 - i), true), M ++ [.lst (codeL B 0)]) := by
    have e0 : rgDn ((B.n - 1 : Nat) : Int) (B.n - 1) = (List.range (B.n - 1)).map fun i => (iD (B.n - 1 - i), true) := by
      unfold rgDn
      refine List.map_congr_left fun i hi => ?_
      have := List.mem_range.mp hi
      have h5 : ((B.n - 1 : Nat) : Int) + (i : Int) * (-1) = ((B.n - 1 - i : Nat) : Int) := by omega
      rw [h5]
    rw [← e0]
    have hd : decide ((-1 : Int) = -1) = true := rfl
    have h6 : (((B.n - 1 : Nat) : Int) - 0).toNat = B.n - 1 := by omega
    simp only [x_dRg3, x_dA1, x_dA0, x_val, x_dBin, x_dUn, x_dIdx, x_dVar, x_dC, List.getElem?_cons_succ, List.getElem?_cons_zero, obs, x_settle1, x_dct1, x_rdw1, x_lkf, x_rd1, rigI0, x_dv, x_fSub, x_fNeg, x_rint, h3, hs0, hsn, hd, Bool.and_self, if_true, h6]
    rfl
  have e3 : sFor (dRg3 (dA1 (dBin false fSub (dIdx (dVar 0) (dC (.int 0))) (dC (.int 1))) (dA1 (dC (.int 0)) (dA1 (dUn fNeg (dC (.int 1))) dA0)))) (.nm 3) bodyU [some (.d B.rig), some (.loc M.length), some (.d (iD 0)), none, none] (M ++ [.lst (codeL B 0)]) = some (.nx [some (.d B.rig), some (.loc M.length), some (.d (iD ((codeL B (B.n - 1)).length - 1))), x, y] (M ++ [.lst (codeL B (B.n - 1))])) := by
    rw [x_sFor, e2]
    exact f1
  have g1 : (M ++ [Cell.lst (codeL B (B.n - 1))])[M.length]? = some (.lst (codeL B (B.n - 1))) := by simp
  have e4 : dCB false fTuple (dA1 (dVar 1) dA0) [some (.d B.rig), some (.loc M.length), some (.d (iD ((codeL B (B.n - 1)).length - 1))), x, y] (M ++ [.lst (codeL B (B.n - 1))]) = dR (.tuple (codeL B (B.n - 1))) (M ++ [.lst (codeL B (B.n - 1))]) := by
    simp [x_rd2 g1]
  have e5 : sPar 1 2 true false (dLst (dA1 (dTup (dA1 (dC (.str "cure")) (dA1 (dTup (dA0)) (dA1 (dIdx (dIdx (dIdx (dVar 0) (dC (.int 2))) (dBin false fSub (dIdx (dVar 0) (dC (.int 0))) (dC (.int 1)))) (dC (.int 0))) dA0)))) dA0)) (dC (.int 0)) [some (.d B.rig), none, none, none, none] M = some (.nx [some (.d B.rig), some (.loc M.length), some (.d (iD 0)), none, none] (M ++ [.lst (codeL B 0)])) := by
    have e6 : dLst (dA1 (dTup (dA1 (dC (.str "cure")) (dA1 (dTup (dA0)) (dA1 (dIdx (dIdx (dIdx (dVar 0) (dC (.int 2))) (dBin false fSub (dIdx (dVar 0) (dC (.int 0))) (dC (.int 1)))) (dC (.int 0))) dA0)))) dA0) [some (.d B.rig), none, none, none, none] M = some (.nl [cureT B (B.n - 1)], M) := by
      simp [e1]
    simp only [x_sPar, x_valm, e6, obs, x_stl2t, x_stl1, x_dC, List.set_cons_zero, List.set_cons_succ]
    rfl
  have e0 : b_law_due_code (CP k) (CM k) = sSeq (sPar 1 2 true false (dLst (dA1 (dTup (dA1 (dC (.str "cure")) (dA1 (dTup (dA0)) (dA1 (dIdx (dIdx (dIdx (dVar 0) (dC (.int 2))) (dBin false fSub (dIdx (dVar 0) (dC (.int 0))) (dC (.int 1)))) (dC (.int 0))) dA0)))) dA0)) (dC (.int 0))) (sSeq (sFor (dRg3 (dA1 (dBin false fSub (dIdx (dVar 0) (dC (.int 0))) (dC (.int 1))) (dA1 (dC (.int 0)) (dA1 (dUn fNeg (dC (.int 1))) dA0)))) (.nm 3) bodyU) (sSeq (sRet (dCB false fTuple (dA1 (dVar 1) dA0))) sNil)) := rfl
  rw [c_law_due_code]
  unfold runFn
  rw [e0, show env0 5 [Val.d B.rig] = [some (.d B.rig), none, none, none, none] from rfl, x_sSeq, e5, obs, x_seqK1, x_sSeq, e3, obs, x_seqK1, x_sSeq, x_sRet, e4, obs, obs, x_seqK2]
  exact endT hM (by simp) _
end
end PV

set_option maxRecDepth 100000
set_option maxHeartbeats 1000000
/-! what the law asks under one fault -/
namespace PV
open PySem
section
variable {Ns : List Nat} {f g : Den} {ρ : Env} {M M1 M2 : Sto} {ds : List PyData}
theorem repr_of (hf : f ρ M = dR (.tuple ds) M1) (hp : PL Ns (.tuple ds) = true) (hn : Ns.length ≤ 60) (hw : wb Ns ≤ 16777216) : dCB false fRepr (dA1 f dA0) ρ M = dR (.str (PyData.shown (.tuple ds))) M1 := by
  have h := fRepr_pl hp hn hw
  simp only [x_dCB, x_dA1, x_dA0, x_val, hf, obs, x_settle1, x_lkf, x_rds1, x_rds0, x_rd1, h, x_dv]
theorem strNe (s : Str) : fNe (.str s) (.str s) = rbl false := by
  rw [x_fNeS]
  simp
theorem strEq (s : Str) : fEq (.str s) (.str s) = rbl true := by
  rw [x_fEqS]
  simp
theorem bin_str {F : PyData → PyData → Option Res} {s t : Str} (hf : f ρ M = dR (.str s) M1) (hg : g ρ M1 = dR (.str t) M2) : dBin true F f g ρ M = (F (.str s) (.str t)).bind fun r => some (r, M2) := by
  unfold dBin val
  rw [hf]
  simp only [Option.bind_some, settle, hg, lk, rdw, rd, if_true]
theorem reprNe (hf : f ρ M = dR (.tuple ds) M1) (hg : g ρ M1 = dR (.tuple ds) M2) (hp : PL Ns (.tuple ds) = true) (hn : Ns.length ≤ 60) (hw : wb Ns ≤ 16777216) : dBin true fNe (dCB false fRepr (dA1 f dA0)) (dCB false fRepr (dA1 g dA0)) ρ M = dR (.bool false) M2 := by
  rw [bin_str (repr_of hf hp hn hw) (repr_of hg hp hn hw), strNe]
  rfl
theorem reprEq (hf : f ρ M = dR (.tuple ds) M1) (hg : g ρ M1 = dR (.tuple ds) M2) (hp : PL Ns (.tuple ds) = true) (hn : Ns.length ≤ 60) (hw : wb Ns ≤ 16777216) : dBin true fEq (dCB false fRepr (dA1 f dA0)) (dCB false fRepr (dA1 g dA0)) ρ M = dR (.bool true) M2 := by
  rw [bin_str (repr_of hf hp hn hw) (repr_of hg hp hn hw), strEq]
  rfl
end
section
variable {B : Bk}
theorem plP {N : Nat} {Ns : List Nat} {a b : PyData} (h : 2 ≤ N) (ha : PL Ns a = true) (hb : PL Ns b = true) : PL (N :: Ns) (.tuple [a, b]) = true := by
  simp [PL, h, ha, hb]
theorem walk_pl (ok : B.Ok) (x : Nat) : PL [2, 24] (.tuple [ND (List.range (min (x + 2) B.n)), .tuple [.str "cure", iD (x % B.q)]]) = true := by
  have h24 := ok.n24
  have h1 : PL [24] (ND (List.range (min (x + 2) B.n))) = true := plND [] (by rw [List.length_range]; omega) fun y hy => by have := List.mem_range.mp hy; omega
  have h2 := plN (a := x % B.q) [] (mod_lt ok x)
  have h3 := plS [] wk_c
  rw [pl2, h1, plP (by omega) h3 h2]
  rfl
theorem courseL_pl (ok : B.Ok) (x : Nat) (hx : x < B.n) : PL [30, 24] (.tuple (courseL B x)) = true := by
  have h24 := ok.n24
  have h1 : ∀ d ∈ courseL B x, PL [24] d = true := fun d hd => by
    unfold courseL lotsL at hd
    rcases List.mem_append.mp hd with hd | hd
    · obtain ⟨j, _, rfl⟩ := List.mem_map.mp hd
      exact lot_pl ok (lot_len ok j) lot_lt []
    · rw [List.mem_singleton] at hd
      subst hd
      exact lot_pl ok (by simp) (by simp; exact hx) []
  have h2 := course_len (B := B) x
  unfold PL
  rw [Bool.and_eq_true, decide_eq_true_eq, List.all_eq_true]
  exact ⟨by rw [h2]; omega, h1⟩
theorem L_fault_right (ok : B.Ok) (k x : Nat) (M : Sto) (hM : Cl M) (hx : x < B.n) : CP (k + 11) i_law_fault_right [.d B.book, .d (.tuple (codeL B (B.n - 1))), .d (iD x)] M = dR (.bool true) M := by
  have e1 := L_run_code ok k x M hM hx
  have e2 := L_course ok k x M hM hx
  have e3 := L_due_course ok (k + 9) x M hM hx
  have e4 := L_due_walk ok (k + 9) x M hx
  have e5 := L_law_all ok (k + 9) M
  obtain ⟨c1, c2⟩ := cureIdx ok hx
  have f1 : dTup (dA1 (dCall 2 (CP (k + 10) i_law_due_walk) (dA1 (dVar 3) (dA1 (dVar 2) dA0))) (dA1 (dTup (dA1 (dC (.str "cure")) (dA1 (dIdx (dIdx (dIdx (dVar 3) (dC (.int 2))) (dVar 2)) (dC (.int 0))) dA0))) dA0)) [some (.d B.book), some (.d (.tuple (codeL B (B.n - 1)))), some (.d (iD x)), some (.d B.rig), none] M = dR (.tuple [ND (List.range (min (x + 2) B.n)), .tuple [.str "cure", iD (x % B.q)]]) M := by
    have f0 : dIdx (dIdx (dIdx (dVar 3) (dC (.int 2))) (dVar 2)) (dC (.int 0)) [some (.d B.book), some (.d (.tuple (codeL B (B.n - 1)))), some (.d (iD x)), some (.d B.rig), none] M = dR (iD (x % B.q)) M := by
      simp [c1, c2, -x_fIdxT]
    simp [e4, f0]
  have f2 : dCall 4 (CP (k + 10) i_run_code) (dA1 (dVar 0) (dA1 (dVar 1) (dA1 (dTup (dA1 (dCall 1 (CP (k + 10) i_law_all) (dA1 (dVar 3) dA0)) (dA1 (dC (.int 0)) dA0))) (dA1 (dVar 2) dA0)))) [some (.d B.book), some (.d (.tuple (codeL B (B.n - 1)))), some (.d (iD x)), some (.d B.rig), some (.d (.tuple [ND (List.range (min (x + 2) B.n)), .tuple [.str "cure", iD (x % B.q)]]))] M = dR (.tuple [ND (List.range (min (x + 2) B.n)), .tuple [.str "cure", iD (x % B.q)]]) M := by
    unfold stD at e1
    simp [e5, e1]
  have f3 := reprNe (f := dCall 4 (CP (k + 10) i_run_code) (dA1 (dVar 0) (dA1 (dVar 1) (dA1 (dTup (dA1 (dCall 1 (CP (k + 10) i_law_all) (dA1 (dVar 3) dA0)) (dA1 (dC (.int 0)) dA0))) (dA1 (dVar 2) dA0))))) (g := dVar 4) (M2 := M) f2 (by simp) (walk_pl ok x) (by decide) (by decide)
  have f4 := reprEq (f := dCall 2 (CP (k + 10) i_course) (dA1 (dVar 0) (dA1 (dVar 2) dA0))) (g := dCall 2 (CP (k + 10) i_law_due_course) (dA1 (dVar 3) (dA1 (dVar 2) dA0))) (ρ := [some (.d B.book), some (.d (.tuple (codeL B (B.n - 1)))), some (.d (iD x)), some (.d B.rig), some (.d (.tuple [ND (List.range (min (x + 2) B.n)), .tuple [.str "cure", iD (x % B.q)]]))]) (M := M) (M1 := M) (M2 := M) (ds := courseL B x) (by simp [e2]) (by simp [e3]) (courseL_pl ok x hx) (by decide) (by decide)
  have e0 : b_law_fault_right (CP (k + 10)) (CM (k + 10)) = sSeq (sSet 3 false (dIdx (dVar 0) (dC (.int 0)))) (sSeq (sSet 4 false (dTup (dA1 (dCall 2 (CP (k + 10) i_law_due_walk) (dA1 (dVar 3) (dA1 (dVar 2) dA0))) (dA1 (dTup (dA1 (dC (.str "cure")) (dA1 (dIdx (dIdx (dIdx (dVar 3) (dC (.int 2))) (dVar 2)) (dC (.int 0))) dA0))) dA0))))
    (sSeq (sIf (dBin true fNe (dCB false fRepr (dA1 (dCall 4 (CP (k + 10) i_run_code) (dA1 (dVar 0) (dA1 (dVar 1) (dA1 (dTup (dA1 (dCall 1 (CP (k + 10) i_law_all) (dA1 (dVar 3) dA0)) (dA1 (dC (.int 0)) dA0))) (dA1 (dVar 2) dA0))))) dA0)) (dCB false fRepr (dA1 (dVar 4) dA0))) (sSeq (sRet (dC (.bool false))) sNil) (sNil))
    (sSeq (sRet (dBin true fEq (dCB false fRepr (dA1 (dCall 2 (CP (k + 10) i_course) (dA1 (dVar 0) (dA1 (dVar 2) dA0))) dA0)) (dCB false fRepr (dA1 (dCall 2 (CP (k + 10) i_law_due_course) (dA1 (dVar 3) (dA1 (dVar 2) dA0))) dA0)))) sNil))) := rfl
  have f5 : dIdx (dVar 0) (dC (.int 0)) [some (.d B.book), some (.d (.tuple (codeL B (B.n - 1)))), some (.d (iD x)), none, none] M = dR B.rig M := by simp
  rw [c_law_fault_right]
  unfold runFn
  rw [e0, show env0 5 [Val.d B.book, .d (.tuple (codeL B (B.n - 1))), .d (iD x)] = [some (.d B.book), some (.d (.tuple (codeL B (B.n - 1)))), some (.d (iD x)), none, none] from rfl]
  rw [x_sSeq, x_sSet, x_valm, f5]
  simp only [obs, x_stl1, List.set_cons_zero, List.set_cons_succ, x_seqK1]
  rw [x_sSeq, x_sSet, x_valm, f1]
  simp only [obs, x_stl1, List.set_cons_zero, List.set_cons_succ, x_seqK1]
  rw [x_sSeq, x_sIf, f3]
  simp only [obs, x_asB, Bool.false_eq_true, if_false, x_sNil, x_seqK1]
  rw [x_sSeq, x_sRet, f4]
  simp only [obs, x_seqK2, Option.bind_some]
  exact endD M _
end
end PV

set_option maxRecDepth 100000
set_option maxHeartbeats 1000000
/-! deeds -/
namespace PV
open PySem
inductive Deed where
  | see (g : Nat)
  | go (g : Nat)
  | cure
def deedD (B : Bk) (x : Nat) : Deed → PyData
  | .see g => .tuple [.str "see", iD g, iD (B.sg g x)]
  | .go g => .tuple [.str "go", iD g]
  | .cure => .tuple [.str "cure", iD (x % B.q)]
/-- what is left behind a see at p, to p + r -/
def tailD : Nat → Nat → List Deed
  | _, 0 => []
  | p, r + 1 => .go (p + 1) :: .see (p + 1) :: tailD (p + 1) r
def deedsD (p r : Nat) : List Deed := .see p :: (tailD p r ++ [.cure])
theorem endLoc {M S : Sto} (hM : Cl M) (h : S.take M.length = M) {xs : List PyData} (g : S[M.length]? = some (.lst xs)) : endFn M.length (.v (.loc M.length)) S = some (.nl xs, M) := by
  unfold Cl clean at hM
  rw [List.take_length] at hM
  unfold endFn clean
  rw [h, if_pos hM]
  unfold endRes
  simp only [show ¬ (M.length < M.length) by omega, if_false, g, Option.bind_some]
section
variable {B : Bk}
theorem signN (ok : B.Ok) {g x : Nat} (hg : g < B.n) (hx : x < B.n) (M : Sto) {f1 f2 : Den} {ρ : Env} (h0 : ρ[0]? = some (some (.d B.rig))) (e1 : val f1 ρ M = some (.d (iD g), M)) (e2 : val f2 ρ M = some (.d (iD x), M)) : dIdx (dIdx (dIdx (dVar 0) (dC (.int 3))) f1) f2 ρ M = dR (iD (B.sg g x)) M := by
  obtain ⟨h1, h2⟩ := signAt ok hg hx
  have g1 : dIdx (dVar 0) (dC (.int 3)) ρ M = dR B.signsD M := by
    simp only [x_dIdx, x_val, x_dVar, x_dC, h0, obs, x_settle1, x_dct1, x_rdw1, x_rd1, rigI3, x_dv]
  have g2 : dIdx (dIdx (dVar 0) (dC (.int 3))) f1 ρ M = dR (B.signD g) M := by
    rw [x_dIdx, x_val, g1]
    simp only [obs, x_settle1, e1, x_dct1, x_rdw1, x_rd1, h1, x_dv]
  rw [x_dIdx, x_val, g2]
  simp only [obs, x_settle1, e2, x_dct1, x_rdw1, x_rd1, h2, x_dv]
theorem L_way0 (k x : Nat) (M : Sto) (hM : Cl M) : CP (k + 1) i_way_deeds [.d B.rig, .d (.tuple []), .d (iD x)] M = some (.nl [], M) := by
  have h := endLoc hM (S := M ++ [.lst []]) (by simp) (xs := []) (by simp)
  rw [c_way_deeds]
  simp [b_way_deeds, runFn, env0, okI, forGo, h]
theorem L_way1 (ok : B.Ok) (k g x : Nat) (M : Sto) (hM : Cl M) (hg : g < B.n) (hx : x < B.n) : CP (k + 1) i_way_deeds [.d B.rig, .d (.tuple [iD g]), .d (iD x)] M = some (.nl [deedD B x (.go g), deedD B x (.see g)], M) := by
  have h := endLoc hM (S := M ++ [.lst [deedD B x (.go g), deedD B x (.see g)]]) (by simp) (xs := [deedD B x (.go g), deedD B x (.see g)]) (by simp)
  have g0 : (M ++ [Cell.lst []])[M.length]? = some (.lst []) := by simp
  have g1 : (M ++ [Cell.lst [deedD B x (.go g)]])[M.length]? = some (.lst [deedD B x (.go g)]) := by simp
  have s0 : (M ++ [Cell.lst []]).set M.length (.lst [deedD B x (.go g)]) = M ++ [.lst [deedD B x (.go g)]] := by simp
  have s1 : (M ++ [Cell.lst [deedD B x (.go g)]]).set M.length (.lst [deedD B x (.go g), deedD B x (.see g)]) = M ++ [.lst [deedD B x (.go g), deedD B x (.see g)]] := by simp
  have t1 : dTup (dA1 (dC (.str "go")) (dA1 (dVar 4) dA0)) [some (.d B.rig), some (.d (.tuple [iD g])), some (.d (iD x)), some (.loc M.length), some (.d (iD g))] (M ++ [Cell.lst []]) = dR (deedD B x (.go g)) (M ++ [Cell.lst []]) := by
    simp [deedD]
  have t2 : dTup (dA1 (dC (.str "see")) (dA1 (dVar 4) (dA1 (dIdx (dIdx (dIdx (dVar 0) (dC (.int 3))) (dVar 4)) (dVar 2)) dA0))) [some (.d B.rig), some (.d (.tuple [iD g])), some (.d (iD x)), some (.loc M.length), some (.d (iD g))] (M ++ [Cell.lst [deedD B x (.go g)]]) = dR (deedD B x (.see g)) (M ++ [Cell.lst [deedD B x (.go g)]]) := by
    generalize M ++ [Cell.lst [deedD B x (.go g)]] = M1
    have := signN ok hg hx M1 (f1 := dVar 4) (f2 := dVar 2) (ρ := [some (.d B.rig), some (.d (.tuple [iD g])), some (.d (iD x)), some (.loc M.length), some (.d (iD g))]) rfl rfl rfl
    simp [this, deedD]
  have a1 := x_append g0 (y := deedD B x (.go g))
  have a2 := x_append g1 (y := deedD B x (.see g))
  rw [if_pos (show ([] : List PyData).length < big by decide), List.nil_append, s0] at a1
  rw [if_pos (show [deedD B x (.go g)].length < big from (show 1 < big by decide)), List.singleton_append, s1] at a2
  rw [c_way_deeds]
  simp [b_way_deeds, runFn, env0, okI, forGo, t1, t2, x_isloc g0, x_isloc g1, a1, a2, h]
def condD : Den := dBin true fEq (dIdx (dVar 5) (dC (.int 0))) (dC (.str "look"))
def bodyDd (k : Nat) : DenS := sSeq (sExpr (dMeth isLoc mExtend (dVar 4) (dA1 (dCall 3 (CP k i_way_deeds) (dA1 (dVar 0) (dA1 (dIdx (dVar 5) (dC (.int 1))) (dA1 (dVar 3) dA0)))) dA0)))
  (sSeq (sSet 6 false (dIdx (dVar 4) (dUn fNeg (dC (.int 1)))))
  (sSeq (sSet 5 false (dIdx (dVar 1) (dIdx (dCB false fDictOf (dA1 (dIdx (dVar 5) (dC (.int 2))) dA0)) (dIdx (dVar 6) (dC (.int 2)))))) sNil))
theorem dict2 {a b c : Nat} (h : 1 ≤ b) : fDictOf [.tuple [.tuple [iD 0, iD a], .tuple [iD b, iD c]]] = some (.nd [((0 : Int), (a : Int)), ((b : Int), (c : Int))]) := by
  have h1 : (b : Int) ≠ 0 := by omega
  have h2 : ¬ (0 : Int) = (b : Int) := by omega
  simp [fDictOf, pairsOf, mrgI, putI, h1, h2]
theorem look2 {a b c s i : Nat} (h : 1 ≤ b) (hs : (s = 0 ∧ i = a) ∨ (s = b ∧ i = c)) : look [((0 : Int), (a : Int)), ((b : Int), (c : Int))] (s : Int) = some (i : Int) := by
  rcases hs with ⟨rfl, rfl⟩ | ⟨rfl, rfl⟩
  · simp [look]
  · have h2 : ¬ (0 : Int) = (s : Int) := by omega
    simp [look, h2]
/-- one turn of the loop -/
theorem deed_turn (ok : B.Ok) (k x j p i1 i2 i : Nat) (w : List Nat) (C F F' : List PyData) (row' : PyData) (S : Sto) (hS : Cl S) (hx : x < B.n) (hj : j + 1 < B.n) (hp : S[p]? = some (.lst F)) (hF : F.length ≤ 100)
    (hw : (w = [] ∧ F = F') ∨ (w = [j + 1] ∧ F' = F ++ [deedD B x (.go (j + 1)), deedD B x (.see (j + 1))])) (hlast : ∃ F0, F' = F0 ++ [deedD B x (.see (j + 1))]) (hi : (x ≠ j ∧ i = i1) ∨ (x = j ∧ i = i2)) (hC : C[i]? = some row') (a2 a6 : Option Val) :
    ∃ a6' S', bodyDd (k + 1) [some (.d B.rig), some (.d (.tuple C)), a2, some (.d (iD x)), some (.loc p), some (.d (lookR B w j i1 i2)), a6] S = some (.nx [some (.d B.rig), some (.d (.tuple C)), a2, some (.d (iD x)), some (.loc p), some (.d row'), a6'] S') ∧ S' = S.set p (.lst F') ++ [.dct [((0 : Int), (i1 : Int)), ((B.o (j + 1) : Int), (i2 : Int))]] := by
  have hb := ok.o1 (j + 1)
  refine ⟨some (.d (deedD B x (.see (j + 1)))), _, ?_, rfl⟩
  have r1 : fIdx (lookR B w j i1 i2) (.int 1) = dv (ND w) := by simp [lookR, at1]
  have r2 : fIdx (lookR B w j i1 i2) (.int 2) = dv (.tuple [.tuple [iD 0, iD i1], .tuple [iD (B.o (j + 1)), iD i2]]) := by simp [lookR, at2]
  -- the way
  have e1 : sExpr (dMeth isLoc mExtend (dVar 4) (dA1 (dCall 3 (CP (k + 1) i_way_deeds) (dA1 (dVar 0) (dA1 (dIdx (dVar 5) (dC (.int 1))) (dA1 (dVar 3) dA0)))) dA0)) [some (.d B.rig), some (.d (.tuple C)), a2, some (.d (iD x)), some (.loc p), some (.d (lookR B w j i1 i2)), a6] S = some (.nx [some (.d B.rig), some (.d (.tuple C)), a2, some (.d (iD x)), some (.loc p), some (.d (lookR B w j i1 i2)), a6] (S.set p (.lst F'))) := by
    rcases hw with ⟨rfl, rfl⟩ | ⟨rfl, rfl⟩
    · have c1 : CP (k + 1) i_way_deeds [.d B.rig, .d (ND []), .d (iD x)] S = some (.nl [], S) := L_way0 (B := B) k x S hS
      have c2 := x_extend hp (ys := [])
      rw [if_pos (by simp; exact Nat.le_trans hF (by decide)), List.append_nil] at c2
      simp only [x_sExpr, x_dMeth, x_val, x_dVar, List.getElem?_cons_zero, List.getElem?_cons_succ, obs, x_settle1, x_isloc hp, if_true, x_dA1, x_dA0, x_dCall, x_dIdx, x_dC, x_dct1, x_rdw1, x_rd1, r1, x_dv, List.length_cons, List.length_nil]
      simp only [c1, obs, x_dA0, x_settle2, c2]
    · have c1 : CP (k + 1) i_way_deeds [.d B.rig, .d (ND [j + 1]), .d (iD x)] S = some (.nl [deedD B x (.go (j + 1)), deedD B x (.see (j + 1))], S) := L_way1 ok k (j + 1) x S hS hj hx
      have c2 := x_extend hp (ys := [deedD B x (.go (j + 1)), deedD B x (.see (j + 1))])
      rw [if_pos (by simp only [List.length_cons, List.length_nil]; exact Nat.le_trans (by omega : F.length + (0 + 1 + 1) ≤ 200) (by decide))] at c2
      simp only [x_sExpr, x_dMeth, x_val, x_dVar, List.getElem?_cons_zero, List.getElem?_cons_succ, obs, x_settle1, x_isloc hp, if_true, x_dA1, x_dA0, x_dCall, x_dIdx, x_dC, x_dct1, x_rdw1, x_rd1, r1, x_dv, List.length_cons, List.length_nil]
      simp only [c1, obs, x_dA0, x_settle2, c2]
  obtain ⟨F0, rfl⟩ := hlast
  have hp' : (S.set p (.lst (F0 ++ [deedD B x (.see (j + 1))])))[p]? = some (.lst (F0 ++ [deedD B x (.see (j + 1))])) := get_set hp
  generalize hS1 : S.set p (.lst (F0 ++ [deedD B x (.see (j + 1))])) = S1 at e1 hp' ⊢
  have e2 : dIdx (dVar 4) (dUn fNeg (dC (.int 1))) [some (.d B.rig), some (.d (.tuple C)), a2, some (.d (iD x)), some (.loc p), some (.d (lookR B w j i1 i2)), a6] S1 = dR (deedD B x (.see (j + 1))) S1 := by
    simp only [x_dIdx, x_val, x_dVar, x_dUn, x_dC, List.getElem?_cons_zero, List.getElem?_cons_succ, obs, x_settle1, x_rd1, x_fNeg, x_rint, x_dct4 hp', x_rdw2, x_rd2 hp', x_fIdxL, at_last, Option.bind_some, x_dv]
  have hs : B.sg (j + 1) x = 0 ∧ i = i1 ∨ B.sg (j + 1) x = B.o (j + 1) ∧ i = i2 := by
    unfold Bk.sg
    rcases hi with ⟨h1, h2⟩ | ⟨h1, h2⟩
    · rw [if_neg (by omega)]; exact .inl ⟨rfl, h2⟩
    · rw [if_pos (by omega)]; exact .inr ⟨rfl, h2⟩
  have h3 := look2 (a := i1) (b := B.o (j + 1)) (c := i2) hb.1 hs
  have h4 := dict2 (a := i1) (b := B.o (j + 1)) (c := i2) hb.1
  have r3 : fIdx (deedD B x (.see (j + 1))) (.int 2) = dv (iD (B.sg (j + 1) x)) := by simp [deedD, at2]
  have hd : (S1 ++ [Cell.dct [((0 : Int), (i1 : Int)), ((B.o (j + 1) : Int), (i2 : Int))]])[S1.length]? = some (.dct [((0 : Int), (i1 : Int)), ((B.o (j + 1) : Int), (i2 : Int))]) := by simp
  have e3 : dIdx (dVar 1) (dIdx (dCB false fDictOf (dA1 (dIdx (dVar 5) (dC (.int 2))) dA0)) (dIdx (dVar 6) (dC (.int 2)))) [some (.d B.rig), some (.d (.tuple C)), a2, some (.d (iD x)), some (.loc p), some (.d (lookR B w j i1 i2)), some (.d (deedD B x (.see (j + 1))))] S1 = dR row' (S1 ++ [.dct [((0 : Int), (i1 : Int)), ((B.o (j + 1) : Int), (i2 : Int))]]) := by
    simp only [x_dIdx, x_val, x_dVar, x_dC, x_dCB, x_dA1, x_dA0, List.getElem?_cons_zero, List.getElem?_cons_succ, obs, x_settle1, x_dct1, x_rdw1, x_rd1, r2, x_dv, x_lkf, x_rds1, x_rds0, h4, x_settle3, r3, x_dct3 hd, x_asI, h3, x_fIdxT, atN hC, Option.bind_some]
  unfold bodyDd
  rw [x_sSeq, e1]
  simp only [obs, x_seqK1]
  rw [x_sSeq, x_sSet, x_valm, e2]
  simp only [obs, x_stl1, List.set_cons_zero, List.set_cons_succ, x_seqK1]
  rw [x_sSeq, x_sSet, x_valm, e3]
  simp only [obs, x_stl1, List.set_cons_zero, List.set_cons_succ, x_seqK1, x_sNil]
end
end PV

set_option maxRecDepth 100000
set_option maxHeartbeats 1000000
/-! all deeds of a code that begins at a lot -/
namespace PV
open PySem
section
variable {B : Bk}
/-- how far one goes under x -/
def endE (B : Bk) (x : Nat) : Nat := min (x + 1) (B.n - 1)
/-- the row at a place, in the told code's rows -/
def rowAt (B : Bk) (x t : Nat) : PyData := if t = endE B x then cureT B x else lookR B [t + 1] t (posL B (B.n - 2 - t)) (idL B (B.n - 2 - t))
/-- the row of the code from lot t, where the fault is x: its last one -/
theorem rowTop (ok : B.Ok) {x t D : Nat} {C : List PyData} (hC : codeL B D <+: C) (hx : x < B.n) (ht : t ≤ endE B x) (hD : B.n - 1 - t ≤ D) (htx : t ≤ x) : C[posL B (B.n - 1 - t)]? = some (rowAt B x t) := by
  have h2 := ok.n2
  unfold endE at ht
  unfold rowAt endE
  by_cases h : t = min (x + 1) (B.n - 1)
  · rw [if_pos h]
    have h3 : t = B.n - 1 := by omega
    have h4 : x = B.n - 1 := by omega
    rw [h3, Nat.sub_self, h4]
    refine pfx_get hC (pfx_get (pre_le (Nat.zero_le D)) ?_)
    rfl
  · rw [if_neg h]
    have h3 : B.n - 1 - t = (B.n - 2 - t) + 1 := by omega
    have := lookAt (B := B) (d := B.n - 2 - t) (D := D) (by omega)
    rw [show B.n - 1 - (B.n - 2 - t) = t + 1 by omega, show B.n - 2 - (B.n - 2 - t) = t by omega] at this
    rw [h3]
    exact pfx_get hC this
/-- the row that comes next -/
theorem rowNext (ok : B.Ok) {x t D : Nat} {C : List PyData} (hC : codeL B D <+: C) (hx : x < B.n) (htx : t ≤ x) (hn : t + 1 < B.n) (hD : B.n - 1 - t ≤ D) : ∃ i, ((x ≠ t ∧ i = posL B (B.n - 2 - t)) ∨ (x = t ∧ i = idL B (B.n - 2 - t))) ∧ C[i]? = some (rowAt B x (t + 1)) := by
  by_cases h : x = t
  · refine ⟨_, .inr ⟨h, rfl⟩, ?_⟩
    have := cureAt ok (d := B.n - 2 - t) (D := D) (by omega) (by omega)
    rw [show B.n - 2 - (B.n - 2 - t) = t by omega] at this
    unfold rowAt endE
    rw [if_pos (by omega), h]
    exact pfx_get hC this
  · refine ⟨_, .inl ⟨h, rfl⟩, ?_⟩
    have := rowTop ok (t := t + 1) hC hx (by unfold endE; omega) (by omega) (by omega)
    rw [show B.n - 1 - (t + 1) = B.n - 2 - t by omega] at this
    exact this
theorem cond_true (x p : Nat) (w : List Nat) (j i1 i2 : Nat) (S : Sto) (a1 a2 a3 a6 : Option Val) : condD [some (.d B.rig), a1, a2, a3, some (.loc p), some (.d (lookR B w j i1 i2)), a6] S = dR (.bool true) S := by
  have r0 : fIdx (lookR B w j i1 i2) (.int 0) = dv (.str "look") := by simp [lookR, at0]
  unfold condD
  simp [r0]
theorem cond_false (ok : B.Ok) (x p : Nat) (S : Sto) (a1 a2 a3 a6 : Option Val) : condD [some (.d B.rig), a1, a2, a3, some (.loc p), some (.d (cureT B x)), a6] S = dR (.bool false) S := by
  have r0 : fIdx (cureT B x) (.int 0) = dv (.str "cure") := by simp [cureT, at0]
  unfold condD
  simp [r0]
theorem tailD_len : ∀ r p : Nat, (tailD p r).length = 2 * r
  | 0, _ => rfl
  | r + 1, p => by
    unfold tailD
    rw [List.length_cons, List.length_cons, tailD_len r (p + 1)]
    omega
/-- the loop, from place t on -/
theorem deed_loop (ok : B.Ok) (k x D : Nat) (M : Sto) (hM : Cl M) {C : List PyData} (hC : codeL B D <+: C) (hx : x < B.n) : ∀ (r t fuel : Nat) (F : List PyData) (cs : Sto) (a2 a6 : Option Val), t + r = endE B x → B.n - 1 - t ≤ D → r < fuel → F.length + 2 * r ≤ 100 → cs.all (celIn 0) = true →
    ∃ a6' cs', whileGo condD (bodyDd (k + 1)) fuel [some (.d B.rig), some (.d (.tuple C)), a2, some (.d (iD x)), some (.loc M.length), some (.d (rowAt B x t)), a6] (M ++ .lst F :: cs) =
      some (.nx [some (.d B.rig), some (.d (.tuple C)), a2, some (.d (iD x)), some (.loc M.length), some (.d (cureT B x)), a6'] (M ++ .lst (F ++ (tailD t r).map (deedD B x)) :: cs')) ∧ cs'.all (celIn 0) = true
  | 0, t, fuel, F, cs, a2, a6, ht, hD, hf, hz, hc => by
    obtain ⟨n, rfl⟩ : ∃ n, fuel = n + 1 := ⟨fuel - 1, by omega⟩
    have h1 : rowAt B x t = cureT B x := by unfold rowAt; rw [if_pos (by omega)]
    rw [h1]
    refine ⟨a6, cs, ?_, hc⟩
    rw [whileStop (cond_false ok x M.length _ _ _ _ _)]
    simp [tailD]
  | r + 1, t, fuel, F, cs, a2, a6, ht, hD, hf, hz, hc => by
    obtain ⟨n, rfl⟩ : ∃ n, fuel = n + 1 := ⟨fuel - 1, by omega⟩
    unfold endE at ht
    have h1 : rowAt B x t = lookR B [t + 1] t (posL B (B.n - 2 - t)) (idL B (B.n - 2 - t)) := by unfold rowAt endE; rw [if_neg (by omega)]
    obtain ⟨i, hi, hrow⟩ := rowNext ok (t := t) hC hx (by omega) (by omega) hD
    have hclS : Cl (M ++ .lst F :: cs) := cl_app hM (by
      rw [List.all_cons]
      rw [Bool.and_eq_true]
      refine ⟨rfl, ?_⟩
      rw [List.all_eq_true] at hc ⊢
      intro c hcm
      have := hc c hcm
      cases c with
      | ins cn fs =>
        unfold celIn at this ⊢
        rw [List.all_eq_true] at this ⊢
        intro q hq
        have h3 := this q hq
        cases hv : q.2 with
        | loc a => rw [hv] at h3; simp [locIn] at h3
        | _ => rfl
      | _ => rfl)
    obtain ⟨a6', S', e1, e2⟩ := deed_turn ok k x t M.length (posL B (B.n - 2 - t)) (idL B (B.n - 2 - t)) i [t + 1] C F (F ++ [deedD B x (.go (t + 1)), deedD B x (.see (t + 1))]) (rowAt B x (t + 1)) (M ++ .lst F :: cs) hclS hx (by omega) (by simp) (by omega) (.inr ⟨rfl, rfl⟩) ⟨F ++ [deedD B x (.go (t + 1))], by simp⟩ hi hrow a2 a6
    have e3 : S' = M ++ .lst (F ++ [deedD B x (.go (t + 1)), deedD B x (.see (t + 1))]) :: (cs ++ [.dct [((0 : Int), (posL B (B.n - 2 - t) : Int)), ((B.o (t + 1) : Int), (idL B (B.n - 2 - t) : Int))]]) := by
      rw [e2]
      simp
    rw [e3] at e1
    obtain ⟨a7, cs', e4, e5⟩ := deed_loop ok k x D M hM hC hx r (t + 1) n (F ++ [deedD B x (.go (t + 1)), deedD B x (.see (t + 1))]) (cs ++ [.dct [((0 : Int), (posL B (B.n - 2 - t) : Int)), ((B.o (t + 1) : Int), (idL B (B.n - 2 - t) : Int))]]) a2 a6' (by unfold endE; omega) (by omega) (by omega) (by simp; omega) (by rw [List.all_append, hc]; rfl)
    refine ⟨a7, cs', ?_, e5⟩
    rw [h1, whileStep (cond_true x M.length _ _ _ _ _ _ _ _ _) e1 e4]
    congr 3
    simp [tailD]
end
end PV

set_option maxRecDepth 100000
set_option maxHeartbeats 1000000
namespace PV
open PySem
section
variable {B : Bk}
theorem cl_more {M : Sto} (hM : Cl M) {l : List PyData} {cs : Sto} (hc : cs.all (celIn 0) = true) : Cl (M ++ .lst l :: cs) := cl_app hM (by
  rw [List.all_cons, Bool.and_eq_true]
  refine ⟨rfl, ?_⟩
  rw [List.all_eq_true] at hc ⊢
  intro c hcm
  have := hc c hcm
  cases c with
  | ins cn fs =>
    unfold celIn at this ⊢
    rw [List.all_eq_true] at this ⊢
    intro q hq
    have h3 := this q hq
    cases hv : q.2 with
    | loc a => rw [hv] at h3; simp [locIn] at h3
    | _ => rfl
  | _ => rfl)
theorem deeds_fin (ok : B.Ok) (k x g r : Nat) (M : Sto) (hM : Cl M) (C : List PyData) (row0 : PyData) (hg : g < B.n) (hx : x < B.n) (hr : r ≤ 24) (hrow : L2.atI C (-1) = some row0)
    (hloop : ∃ a6' cs', whileGo condD (bodyDd (k + 1)) 1000 [some (.d B.rig), some (.d (.tuple C)), some (.d (iD g)), some (.d (iD x)), some (.loc M.length), some (.d row0), none] (M ++ .lst [deedD B x (.see g)] :: []) =
      some (.nx [some (.d B.rig), some (.d (.tuple C)), some (.d (iD g)), some (.d (iD x)), some (.loc M.length), some (.d (cureT B x)), a6'] (M ++ .lst ([deedD B x (.see g)] ++ (tailD g r).map (deedD B x)) :: cs')) ∧ cs'.all (celIn 0) = true) :
    CP (k + 2) i_deeds_from [.d B.rig, .d (.tuple C), .d (iD g), .d (iD x)] M = some (.nl ((deedsD g r).map (deedD B x)), M) := by
  obtain ⟨a6', cs', e1, hc⟩ := hloop
  have s0 := signN ok hg hx M (f1 := dVar 2) (f2 := dVar 3) (ρ := [some (.d B.rig), some (.d (.tuple C)), some (.d (iD g)), some (.d (iD x)), none, none, none]) rfl rfl rfl
  have e2 : sSet 4 true (dLst (dA1 (dTup (dA1 (dC (.str "see")) (dA1 (dVar 2) (dA1 (dIdx (dIdx (dIdx (dVar 0) (dC (.int 3))) (dVar 2)) (dVar 3)) dA0)))) dA0)) [some (.d B.rig), some (.d (.tuple C)), some (.d (iD g)), some (.d (iD x)), none, none, none] M = some (.nx [some (.d B.rig), some (.d (.tuple C)), some (.d (iD g)), some (.d (iD x)), some (.loc M.length), none, none] (M ++ [.lst [deedD B x (.see g)]])) := by
    have t0 : dTup (dA1 (dC (.str "see")) (dA1 (dVar 2) (dA1 (dIdx (dIdx (dIdx (dVar 0) (dC (.int 3))) (dVar 2)) (dVar 3)) dA0))) [some (.d B.rig), some (.d (.tuple C)), some (.d (iD g)), some (.d (iD x)), none, none, none] M = dR (deedD B x (.see g)) M := by
      simp [s0, deedD]
    have t1 : dLst (dA1 (dTup (dA1 (dC (.str "see")) (dA1 (dVar 2) (dA1 (dIdx (dIdx (dIdx (dVar 0) (dC (.int 3))) (dVar 2)) (dVar 3)) dA0)))) dA0) [some (.d B.rig), some (.d (.tuple C)), some (.d (iD g)), some (.d (iD x)), none, none, none] M = some (.nl [deedD B x (.see g)], M) := by
      simp [t0]
    rw [x_sSet, x_valm, t1]
    rfl
  have e3 : dIdx (dVar 1) (dUn fNeg (dC (.int 1))) [some (.d B.rig), some (.d (.tuple C)), some (.d (iD g)), some (.d (iD x)), some (.loc M.length), none, none] (M ++ [.lst [deedD B x (.see g)]]) = dR row0 (M ++ [.lst [deedD B x (.see g)]]) := by
    simp only [x_dIdx, x_val, x_dVar, x_dUn, x_dC, List.getElem?_cons_zero, List.getElem?_cons_succ, obs, x_settle1, x_rd1, x_fNeg, x_rint, x_dct1, x_rdw1, x_fIdxT, hrow, Option.bind_some, x_dv]
  generalize hF : [deedD B x (.see g)] ++ (tailD g r).map (deedD B x) = F at e1
  have hFl : F.length ≤ 60 := by
    rw [← hF, List.length_append, List.length_map, tailD_len, List.length_singleton]
    omega
  have hcl : Cl (M ++ .lst F :: cs') := cl_more hM hc
  have g1 : (M ++ Cell.lst F :: cs')[M.length]? = some (.lst F) := by simp
  have w0 := L_way0 (B := B) k x (M ++ .lst F :: cs') hcl
  have r1 : fIdx (cureT B x) (.int 1) = dv (.tuple []) := by simp [cureT, at1]
  have r2 : fIdx (cureT B x) (.int 2) = dv (iD (x % B.q)) := by simp [cureT, at2]
  have e4 : dBin false fAdd (dBin false fAdd (dVar 4) (dCall 3 (CP (k + 1) i_way_deeds) (dA1 (dVar 0) (dA1 (dIdx (dVar 5) (dC (.int 1))) (dA1 (dVar 3) dA0))))) (dLst (dA1 (dTup (dA1 (dC (.str "cure")) (dA1 (dIdx (dVar 5) (dC (.int 2))) dA0))) dA0)) [some (.d B.rig), some (.d (.tuple C)), some (.d (iD g)), some (.d (iD x)), some (.loc M.length), some (.d (cureT B x)), a6'] (M ++ .lst F :: cs') = some (.nl (F ++ [deedD B x .cure]), M ++ .lst F :: cs') := by
    have hl1 : F.length + 0 ≤ big := Nat.le_trans (by simpa using hFl) (show 60 ≤ big by decide)
    have hl2 : (F ++ []).length + [deedD B x .cure].length ≤ big := by
      rw [List.append_nil]
      exact Nat.le_trans (Nat.add_le_add_right hFl _) (show 60 + 1 ≤ big by decide)
    have t1 : dBin false fAdd (dVar 4) (dCall 3 (CP (k + 1) i_way_deeds) (dA1 (dVar 0) (dA1 (dIdx (dVar 5) (dC (.int 1))) (dA1 (dVar 3) dA0)))) [some (.d B.rig), some (.d (.tuple C)), some (.d (iD g)), some (.d (iD x)), some (.loc M.length), some (.d (cureT B x)), a6'] (M ++ .lst F :: cs') = some (.nl (F ++ []), M ++ .lst F :: cs') := by
      simp only [x_dBin, x_val, x_dVar, x_dCall, x_dA1, x_dA0, x_dIdx, x_dC, List.getElem?_cons_zero, List.getElem?_cons_succ, obs, x_settle1, x_dct1, x_rdw1, x_rd1, r1, x_dv, List.length_cons, List.length_nil, if_true, w0, x_settle2, x_lkf, x_rd2 g1, x_fAddL]
      rw [if_pos hl1]
      rfl
    have t2 : dLst (dA1 (dTup (dA1 (dC (.str "cure")) (dA1 (dIdx (dVar 5) (dC (.int 2))) dA0))) dA0) [some (.d B.rig), some (.d (.tuple C)), some (.d (iD g)), some (.d (iD x)), some (.loc M.length), some (.d (cureT B x)), a6'] (M ++ .lst F :: cs') = some (.nl [deedD B x .cure], M ++ .lst F :: cs') := by
      simp [r2, deedD]
    rw [x_dBin, x_val, t1]
    simp only [obs, x_settle2, x_val, t2, x_lkf, x_rd1, x_fAddL]
    rw [if_pos hl2]
    simp only [obs, List.append_nil]
  have e0 : b_deeds_from (CP (k + 1)) (CM (k + 1)) = sSeq (sSet 4 true (dLst (dA1 (dTup (dA1 (dC (.str "see")) (dA1 (dVar 2) (dA1 (dIdx (dIdx (dIdx (dVar 0) (dC (.int 3))) (dVar 2)) (dVar 3)) dA0)))) dA0))) (sSeq (sSet 5 false (dIdx (dVar 1) (dUn fNeg (dC (.int 1))))) (sSeq (sWhile condD (bodyDd (k + 1)))
    (sSeq (sRet (dBin false fAdd (dBin false fAdd (dVar 4) (dCall 3 (CP (k + 1) i_way_deeds) (dA1 (dVar 0) (dA1 (dIdx (dVar 5) (dC (.int 1))) (dA1 (dVar 3) dA0))))) (dLst (dA1 (dTup (dA1 (dC (.str "cure")) (dA1 (dIdx (dVar 5) (dC (.int 2))) dA0))) dA0)))) sNil))) := rfl
  have hfin : F ++ [deedD B x .cure] = (deedsD g r).map (deedD B x) := by
    rw [← hF]
    simp [deedsD]
  rw [c_deeds_from]
  unfold runFn
  rw [e0, show env0 7 [Val.d B.rig, .d (.tuple C), .d (iD g), .d (iD x)] = [some (.d B.rig), some (.d (.tuple C)), some (.d (iD g)), some (.d (iD x)), none, none, none] from rfl, x_sSeq, e2, obs, x_seqK1, x_sSeq, x_sSet, x_valm, e3]
  simp only [obs, x_stl1, List.set_cons_zero, List.set_cons_succ, x_seqK1]
  rw [x_sSeq, x_sWhile, e1, obs, x_seqK1, x_sSeq, x_sRet, e4, obs, obs, x_seqK2, ← hfin]
  exact endTn hM (by simp) _
theorem L_deeds_lot (ok : B.Ok) (k t x : Nat) (M : Sto) (hM : Cl M) (hx : x < B.n) (htx : t ≤ x) : CP (k + 2) i_deeds_from [.d B.rig, .d (.tuple (codeL B (B.n - 1 - t))), .d (iD t), .d (iD x)] M = some (.nl ((deedsD t (endE B x - t)).map (deedD B x)), M) := by
  have h24 := ok.n24
  have hE : t ≤ endE B x := by unfold endE; omega
  have hE2 : endE B x ≤ 23 := by unfold endE; omega
  have hrow := rowTop ok (t := t) (List.prefix_refl (codeL B (B.n - 1 - t))) hx hE (Nat.le_refl _) htx
  have hpos := (codeL_ok ok (B.n - 1 - t) (by omega)).pos
  refine deeds_fin ok k x t _ M hM _ (rowAt B x t) (by omega) hx (by omega) (by rw [atI_last _ hpos]; exact hrow) ?_
  exact deed_loop ok k x (B.n - 1 - t) M hM (List.prefix_refl _) hx (endE B x - t) t 1000 _ [] _ none (by omega) (Nat.le_refl _) (by omega) (by simp; omega) rfl
theorem L_deeds_one (ok : B.Ok) (k g x : Nat) (M : Sto) (hM : Cl M) (hx : x < B.n) (hg : g < B.n) : CP (k + 2) i_deeds_from [.d B.rig, .d (.tuple [cureT B x]), .d (iD g), .d (iD x)] M = some (.nl ((deedsD g 0).map (deedD B x)), M) := by
  refine deeds_fin ok k x g 0 M hM _ (cureT B x) hg hx (by omega) (by rw [atI_last _ (by simp)]; rfl) ⟨none, [], ?_, rfl⟩
  rw [show (1000 : Nat) = 999 + 1 from rfl, whileStop (cond_false ok x M.length _ _ _ _ _)]
  simp [tailD]
theorem L_deeds_gone (ok : B.Ok) (k j x : Nat) (M : Sto) (hM : Cl M) (hx : x < B.n) (hj : j ≤ x) (hn : j + 1 < B.n) : CP (k + 2) i_deeds_from [.d B.rig, .d (.tuple (codeW B [] j (codeL B (B.n - 2 - j)))), .d (iD (j + 1)), .d (iD x)] M = some (.nl ((deedsD (j + 1) (endE B x - (j + 1))).map (deedD B x)), M) := by
  have h24 := ok.n24
  have hE : j + 1 ≤ endE B x := by unfold endE; omega
  have hE2 : endE B x ≤ 23 := by unfold endE; omega
  have hok := codeL_ok ok (B.n - 2 - j) (by omega)
  have hpre : codeL B (B.n - 2 - j) <+: codeW B [] j (codeL B (B.n - 2 - j)) := by
    obtain ⟨t, e, _, _⟩ := addR_pre (codeL B (B.n - 2 - j)) (cureT B j)
    unfold codeW
    rw [e, List.append_assoc]
    exact List.prefix_append _ _
  have hi : ∃ i, ((x ≠ j ∧ i = posL B (B.n - 2 - j)) ∨ (x = j ∧ i = idR (addR (codeL B (B.n - 2 - j)) (cureT B j)) (cureT B j))) ∧ (codeW B [] j (codeL B (B.n - 2 - j)))[i]? = some (rowAt B x (j + 1)) := by
    by_cases h : x = j
    · refine ⟨_, .inr ⟨h, rfl⟩, ?_⟩
      have h1 := idR_at ok hok (by omega) (j := j) (by omega)
      unfold rowAt endE
      rw [if_pos (by omega), h]
      unfold codeW
      exact pfx_get (List.prefix_append _ _) h1
    · refine ⟨_, .inl ⟨h, rfl⟩, ?_⟩
      have := rowTop ok (t := j + 1) hpre hx hE (by omega) (by omega)
      rw [show B.n - 1 - (j + 1) = B.n - 2 - j by omega] at this
      exact this
  obtain ⟨i, hi1, hi2⟩ := hi
  have hlast : L2.atI (codeW B [] j (codeL B (B.n - 2 - j))) (-1) = some (lookR B [] j (posL B (B.n - 2 - j)) (idR (addR (codeL B (B.n - 2 - j)) (cureT B j)) (cureT B j))) := by
    unfold codeW
    exact at_last _ _
  refine deeds_fin ok k x (j + 1) _ M hM _ _ hn hx (by omega) hlast ?_
  obtain ⟨a6', S', e1, e2⟩ := deed_turn ok k x j M.length (posL B (B.n - 2 - j)) (idR (addR (codeL B (B.n - 2 - j)) (cureT B j)) (cureT B j)) i [] (codeW B [] j (codeL B (B.n - 2 - j))) [deedD B x (.see (j + 1))] [deedD B x (.see (j + 1))] (rowAt B x (j + 1)) (M ++ .lst [deedD B x (.see (j + 1))] :: []) (cl_more hM rfl) hx hn (by simp) (by simp) (.inl ⟨rfl, rfl⟩) ⟨[], rfl⟩ hi1 hi2 (some (.d (iD (j + 1)))) none
  have e3 : S' = M ++ .lst [deedD B x (.see (j + 1))] :: [.dct [((0 : Int), (posL B (B.n - 2 - j) : Int)), ((B.o (j + 1) : Int), (idR (addR (codeL B (B.n - 2 - j)) (cureT B j)) (cureT B j) : Int))]] := by
    rw [e2]
    simp
  rw [e3] at e1
  obtain ⟨a7, cs', e4, e5⟩ := deed_loop ok k x (B.n - 2 - j) M hM hpre hx (endE B x - (j + 1)) (j + 1) 999 [deedD B x (.see (j + 1))] [.dct [((0 : Int), (posL B (B.n - 2 - j) : Int)), ((B.o (j + 1) : Int), (idR (addR (codeL B (B.n - 2 - j)) (cureT B j)) (cureT B j) : Int))]] (some (.d (iD (j + 1)))) a6' (by omega) (by omega) (by omega) (by simp; omega) rfl
  refine ⟨a7, cs', ?_, e5⟩
  rw [show (1000 : Nat) = 999 + 1 from rfl]
  exact whileStep (cond_true x M.length _ _ _ _ _ _ _ _ _) e1 e4
end
end PV

set_option maxRecDepth 100000
set_option maxHeartbeats 1000000
/-! what deeds tell -/
namespace PV
open PySem
def Deed.isGo : Deed → Bool
  | .go _ => true
  | _ => false
def Deed.isSee : Deed → Bool
  | .see _ => true
  | _ => false
def Deed.at_ : Deed → Nat
  | .see g => g
  | .go g => g
  | .cure => 0
def goS (l : List Deed) : List Nat := (l.filter Deed.isGo).map Deed.at_
def seeS (l : List Deed) : List Nat := (l.filter Deed.isSee).map Deed.at_
theorem goS_app (a b : List Deed) : goS (a ++ b) = goS a ++ goS b := by simp [goS]
theorem seeS_app (a b : List Deed) : seeS (a ++ b) = seeS a ++ seeS b := by simp [seeS]
section
variable {B : Bk}
abbrev pairS (B : Bk) (x g : Nat) : PyData := .tuple [iD g, iD (B.sg g x)]
abbrev jourD (B : Bk) (x : Nat) (S : List Nat) : PyData := .tuple (S.map (pairS B x))
theorem go_list (x j i : Nat) (l : List Deed) (hz : l.length ≤ 1000) (ρ : Env) (M : Sto) (hρ : ρ[j]? = some (some (.d (.list (l.map (deedD B x)))))) (hi : i < ρ.length) : dLc (dIter (dVar j)) (.nm i) (dBin true fEq (dIdx (dVar i) (dC (.int 0))) (dC (.str "go"))) (dIdx (dVar i) (dC (.int 1))) [i] ρ M = some (.nl ((goS l).map iD), M) := by
  have hgi : ∀ v : Option Val, ((wipeE ρ [i]).set i v)[i]? = some v := fun v => by simp [hi]
  have h := lcF (it := dIter (dVar j)) (i := i) (vs := [i]) (ρ := ρ) (M := M) (M' := M) (tt := dBin true fEq (dIdx (dVar i) (dC (.int 0))) (dC (.str "go"))) (te := dIdx (dVar i) (dC (.int 1))) l (deedD B x) Deed.isGo (fun d => iD d.at_) (by simp [hρ]) (Nat.le_trans hz (by decide)) (fun d hd => by
    have := hgi (some (.d (deedD B x d)))
    generalize (wipeE ρ [i]).set i (some (.d (deedD B x d))) = ρ1 at this
    cases d <;> simp [this, deedD, Deed.isGo, at0]) (fun d hd hp => by
    have := hgi (some (.d (deedD B x d)))
    generalize (wipeE ρ [i]).set i (some (.d (deedD B x d))) = ρ1 at this
    cases d with
    | see g => cases hp
    | cure => cases hp
    | go g => simp [this, deedD, at1, Deed.at_])
  rw [h]
  simp [goS]
theorem see_list (x j i : Nat) (l : List Deed) (hz : l.length ≤ 1000) (ρ : Env) (M : Sto) (hρ : ρ[j]? = some (some (.d (.list (l.map (deedD B x)))))) (hi : i < ρ.length) : dLc (dIter (dVar j)) (.nm i) (dBin true fEq (dIdx (dVar i) (dC (.int 0))) (dC (.str "see"))) (dTup (dA1 (dIdx (dVar i) (dC (.int 1))) (dA1 (dIdx (dVar i) (dC (.int 2))) dA0))) [i] ρ M = some (.nl ((seeS l).map (pairS B x)), M) := by
  have hgi : ∀ v : Option Val, ((wipeE ρ [i]).set i v)[i]? = some v := fun v => by simp [hi]
  have h := lcF (it := dIter (dVar j)) (i := i) (vs := [i]) (ρ := ρ) (M := M) (M' := M) (tt := dBin true fEq (dIdx (dVar i) (dC (.int 0))) (dC (.str "see"))) (te := dTup (dA1 (dIdx (dVar i) (dC (.int 1))) (dA1 (dIdx (dVar i) (dC (.int 2))) dA0))) l (deedD B x) Deed.isSee (fun d => pairS B x d.at_) (by simp [hρ]) (Nat.le_trans hz (by decide)) (fun d hd => by
    have := hgi (some (.d (deedD B x d)))
    generalize (wipeE ρ [i]).set i (some (.d (deedD B x d))) = ρ1 at this
    cases d <;> simp [this, deedD, Deed.isSee, at0]) (fun d hd hp => by
    have := hgi (some (.d (deedD B x d)))
    generalize (wipeE ρ [i]).set i (some (.d (deedD B x d))) = ρ1 at this
    cases d with
    | go g => cases hp
    | cure => cases hp
    | see g => simp [this, deedD, at1, at2, Deed.at_])
  rw [h]
  simp [seeS]
theorem L_walk_of (k x : Nat) (l : List Deed) (hz : l.length ≤ 1000) (M : Sto) : CP (k + 1) i_walk_of [.d (.list (l.map (deedD B x)))] M = dR (ND (0 :: goS l)) M := by
  have h := cbTup (go_list (B := B) x 0 1 l hz [some (.d (.list (l.map (deedD B x)))), none] M rfl (by simp))
  have hgl : (goS l).length ≤ l.length := by
    unfold goS
    rw [List.length_map]
    exact List.length_filter_le _ _
  have hl : 1 + (goS l).length ≤ 100000 := by omega
  rw [c_walk_of]
  simp [b_walk_of, runFn, env0, h, hl, endD]
theorem L_journal_of (k x : Nat) (l : List Deed) (hz : l.length ≤ 1000) (M : Sto) : CP (k + 1) i_journal_of [.d (.list (l.map (deedD B x)))] M = dR (jourD B x (seeS l)) M := by
  have h := cbTup (see_list (B := B) x 0 1 l hz [some (.d (.list (l.map (deedD B x)))), none] M rfl (by simp))
  rw [c_journal_of]
  simp [b_journal_of, runFn, env0, h, endD]
theorem L_setting_behind (k x : Nat) (l : List Deed) (hz : l.length ≤ 1000) (M : Sto) (hb : ∀ g ∈ goS l, g < 64) : CP (k + 1) i_setting_behind [.d (.list (l.map (deedD B x))), .d (.int 0)] M = dR (iD ((goS l).getLast?.getD 0)) M := by
  have h := go_list (B := B) x 0 3 l hz [some (.d (.list (l.map (deedD B x)))), some (.d (.int 0)), none, none] M rfl (by simp)
  have h2 := (fNeE hb).2.2.1
  rw [c_setting_behind]
  rcases List.eq_nil_or_concat (goS l) with e | ⟨a, b, e⟩
  · rw [e] at h h2 ⊢
    simp [b_setting_behind, runFn, env0, h, endD]
    simp at h2
    simp [h2, endD]
  · rw [List.concat_eq_append] at e
    rw [e] at h h2 ⊢
    rw [List.map_append] at h h2
    have h3 : L2.atI (a.map iD ++ [iD b]) (-1) = some (iD b) := at_last _ _
    simp at h2 h
    simp [b_setting_behind, runFn, env0, h, h2, h3, endD]
theorem L_unlike (ok : B.Ok) (k x y : Nat) (S : List Nat) (hz : S.length ≤ 1000) (hS : ∀ g ∈ S, g < B.n) (hx : x < B.n) (hy : y < B.n) (M : Sto) : CP (k + 1) i_unlike_entries [.d B.rig, .d (iD y), .d (jourD B x S)] M = dR (iD (S.filter fun g => !decide (B.sg g y = B.sg g x)).length) M := by
  have h := lcF2 (it := dIter (dVar 2)) (i := 3) (j := 4) (bt := true) (vs := [3, 4]) (ρ := [some (.d B.rig), some (.d (iD y)), some (.d (jourD B x S)), none, none]) (M := M) (M' := M) (tt := dBin true fNe (dIdx (dIdx (dIdx (dVar 0) (dC (.int 3))) (dVar 3)) (dVar 1)) (dVar 4)) (te := dC (.int 1)) S iD (fun g => iD (B.sg g x)) (fun g => !decide (B.sg g y = B.sg g x)) (fun _ => .int 1) (by simp [okI]) (Nat.le_trans hz (by decide)) (fun g hg => by
    have hgn := hS g hg
    have s1 := signN ok hgn hy M (f1 := dVar 3) (f2 := dVar 1) (ρ := [some (.d B.rig), some (.d (iD y)), some (.d (jourD B x S)), some (.d (iD g)), some (.d (iD (B.sg g x)))]) rfl rfl rfl
    have h24 := ok.n24
    have h1 := fNeN (a := B.sg g y) (b := B.sg g x) (by have := sg_le ok g y; omega) (by have := sg_le ok g x; omega)
    simp [s1, h1]) (fun g hg hp => by simp)
  rw [c_unlike_entries]
  simp [b_unlike_entries, runFn, env0, h, endD]
theorem fEq0 {a : Nat} (h : a ≤ 1000) : fEq (iD a) (.int 0) = rbl (decide (a = 0)) := by
  have h1 : eqOk (iD a) (.int 0) = true := by
    unfold eqOk
    simp [PyData.canLay0, PyData.depth]
  have h2 : PyData.eqv (iD a) (.int 0) = decide (a = 0) := by
    simp [PyData.eqv]
    by_cases h3 : a = 0
    · simp [h3]
    · have : ¬ (a : Int) = 0 := by omega
      simp [h3]
  show (if eqOk (iD a) (.int 0) = true then rbl (PyData.eqv (iD a) (.int 0)) else none) = _
  rw [if_pos h1, h2]
theorem L_faults_left (ok : B.Ok) (k x : Nat) (S : List Nat) (hz : S.length ≤ 1000) (hS : ∀ g ∈ S, g < B.n) (hx : x < B.n) (M : Sto) : CP (k + 2) i_faults_left [.d B.rig, .d (ND (List.range B.n)), .d (jourD B x S)] M = dR (ND ((List.range B.n).filter fun y => S.all fun g => decide (B.sg g y = B.sg g x))) M := by
  have h24 := ok.n24
  have h := cbTup (lcF (it := dIter (dVar 1)) (i := 3) (vs := [3]) (ρ := [some (.d B.rig), some (.d (ND (List.range B.n))), some (.d (jourD B x S)), none]) (M := M) (M' := M) (tt := dBin true fEq (dCall 3 (CP (k + 1) i_unlike_entries) (dA1 (dVar 0) (dA1 (dVar 3) (dA1 (dVar 2) dA0)))) (dC (.int 0))) (te := dVar 3) (List.range B.n) iD (fun y => S.all fun g => decide (B.sg g y = B.sg g x)) iD (by simp) (by rw [List.length_range]; exact Nat.le_trans h24 (by decide)) (fun y hy => by
    have hy' := List.mem_range.mp hy
    have e1 := L_unlike ok k x y S hz hS hx hy' M
    have hl : (S.filter fun g => !decide (B.sg g y = B.sg g x)).length ≤ 1000 := Nat.le_trans (List.length_filter_le _ _) hz
    have e2 := fEq0 hl
    have e3 : decide ((S.filter fun g => !decide (B.sg g y = B.sg g x)).length = 0) = S.all fun g => decide (B.sg g y = B.sg g x) := by
      rw [Bool.eq_iff_iff, decide_eq_true_eq, List.length_eq_zero_iff, List.filter_eq_nil_iff, List.all_eq_true]
      constructor
      · intro h g hg
        have := h g hg
        simpa using this
      · intro h g hg
        have := h g hg
        simpa using this
    rw [e3] at e2
    generalize (S.filter fun g => !decide (B.sg g y = B.sg g x)).length = N at e1 e2
    simp only [x_dBin, x_val, x_dCall, x_dA1, x_dA0, x_dVar, x_dC, x_wipe0, x_wipe1, List.set_cons_zero, List.set_cons_succ, List.getElem?_cons_zero, List.getElem?_cons_succ, obs, x_settle1, List.length_cons, List.length_nil, if_true, e1, x_lkt, x_rdw1, x_rd1, e2, x_rbl]) (fun y hy hp => by simp))
  rw [c_faults_left]
  simp [b_faults_left, runFn, env0, h, endD]
theorem known_all : ∀ n, n < 25 → ∀ x, x < n → ∀ m, m < n → (List.range n).filter (fun y => if x + 1 ≤ m then decide (y = x) else decide (m ≤ y)) = if x + 1 ≤ m then [x] else List.range' m (n - m) := by decide +kernel
/-- what the journal leaves -/
theorem known_jour (ok : B.Ok) {x m : Nat} {S : List Nat} (hx : x < B.n) (hm : m < B.n) (h1 : ∀ g, 1 ≤ g → g ≤ m → g ∈ S) (h2 : ∀ g ∈ S, g ≤ m) : ((List.range B.n).filter fun y => S.all fun g => decide (B.sg g y = B.sg g x)) = knownAt B x m := by
  have h24 := ok.n24
  have h3 : ((List.range B.n).filter fun y => S.all fun g => decide (B.sg g y = B.sg g x)) = (List.range B.n).filter (fun y => if x + 1 ≤ m then decide (y = x) else decide (m ≤ y)) := by
    refine List.filter_congr fun y hy => ?_
    have hy' := List.mem_range.mp hy
    rw [Bool.eq_iff_iff, List.all_eq_true]
    by_cases h : x + 1 ≤ m
    · rw [if_pos h, decide_eq_true_eq]
      constructor
      · intro q
        have := of_decide_eq_true (q (x + 1) (h1 _ (by omega) h))
        rw [sgo] at this
        have ho := ok.o1 (x + 1)
        unfold Bk.sg at this
        by_cases h4 : y + 1 = x + 1
        · omega
        · rw [if_neg h4] at this; omega
      · intro q g _
        rw [q]
        exact decide_eq_true rfl
    · rw [if_neg h, decide_eq_true_eq]
      constructor
      · intro q
        refine Classical.byContradiction fun z => ?_
        have := of_decide_eq_true (q (y + 1) (h1 _ (by omega) (by omega)))
        rw [sgo] at this
        have ho := ok.o1 (y + 1)
        unfold Bk.sg at this
        rw [if_neg (by omega)] at this
        omega
      · intro q g hg
        have := h2 g hg
        refine decide_eq_true ?_
        unfold Bk.sg
        rw [if_neg (by omega), if_neg (by omega)]
  rw [h3, known_all B.n (by omega) x hx m hm]
  rfl
end
end PV

set_option maxRecDepth 100000
set_option maxHeartbeats 1000000
/-! a run that is cut -/
namespace PV
open PySem
theorem take_deeds : ∀ (c r p : Nat), c ≤ 2 * r + 1 → goS ((deedsD p r).take c) = List.range' (p + 1) (c / 2) ∧ seeS ((deedsD p r).take c) = List.range' p ((c + 1) / 2)
  | 0, r, p, _ => ⟨rfl, rfl⟩
  | 1, r, p, _ => by
    cases r <;> exact ⟨rfl, rfl⟩
  | c + 2, 0, p, h => by omega
  | c + 2, r + 1, p, h => by
    obtain ⟨h1, h2⟩ := take_deeds c r (p + 1) (by omega)
    have e : (deedsD p (r + 1)).take (c + 2) = .see p :: .go (p + 1) :: (deedsD (p + 1) r).take c := rfl
    rw [e]
    have g1 : goS (.see p :: .go (p + 1) :: (deedsD (p + 1) r).take c) = (p + 1) :: goS ((deedsD (p + 1) r).take c) := rfl
    have g2 : seeS (.see p :: .go (p + 1) :: (deedsD (p + 1) r).take c) = p :: seeS ((deedsD (p + 1) r).take c) := rfl
    rw [g1, g2, h1, h2, show (c + 2) / 2 = c / 2 + 1 by omega, show (c + 2 + 1) / 2 = (c + 1) / 2 + 1 by omega]
    exact ⟨rfl, rfl⟩
theorem all_deeds : ∀ (r p : Nat), goS (deedsD p r) = List.range' (p + 1) r ∧ seeS (deedsD p r) = List.range' p (r + 1) ∧ (deedsD p r).length = 2 * r + 2 ∧ ∃ l, deedsD p r = l ++ [.cure]
  | 0, p => ⟨rfl, rfl, rfl, [.see p], rfl⟩
  | r + 1, p => by
    obtain ⟨h1, h2, h3, l, h4⟩ := all_deeds r (p + 1)
    have e : deedsD p (r + 1) = .see p :: .go (p + 1) :: deedsD (p + 1) r := rfl
    rw [e]
    have g1 : goS (.see p :: .go (p + 1) :: deedsD (p + 1) r) = (p + 1) :: goS (deedsD (p + 1) r) := rfl
    have g2 : seeS (.see p :: .go (p + 1) :: deedsD (p + 1) r) = p :: seeS (deedsD (p + 1) r) := rfl
    rw [g1, g2, h1, h2]
    refine ⟨rfl, rfl, ?_, .see p :: .go (p + 1) :: l, by rw [h4]; rfl⟩
    rw [List.length_cons, List.length_cons, h3]
    omega
/-- the settings seen from place p on -/
def pureS (E : Nat) : Nat → List Nat → List Nat
  | p, [] => List.range' p (E - p + 1)
  | p, c :: cs => if c < 2 * (E - p) + 2 then List.range' p ((c + 1) / 2) ++ pureS E (p + c / 2) cs else List.range' p (E - p + 1)
theorem pureS_cons (E p c : Nat) (cs : List Nat) : pureS E p (c :: cs) = if c < 2 * (E - p) + 2 then List.range' p ((c + 1) / 2) ++ pureS E (p + c / 2) cs else List.range' p (E - p + 1) := rfl
section
variable {B : Bk}
/-- some deeds are done, one stands at p -/
structure DSt (B : Bk) (x : Nat) (l : List Deed) (p : Nat) : Prop where
  go : goS l = List.range' 1 p
  le : p ≤ endE B x
  s1 : ∀ g, 1 ≤ g → g + 1 ≤ p → g ∈ seeS l
  s2 : ∀ g ∈ seeS l, g ≤ p
theorem DSt.step {x p c : Nat} {l : List Deed} (d : DSt B x l p) (hc : c < 2 * (endE B x - p) + 2) : DSt B x (l ++ (deedsD p (endE B x - p)).take c) (p + c / 2) := by
  obtain ⟨h1, h2⟩ := take_deeds c (endE B x - p) p (by omega)
  have hle := d.le
  refine ⟨?_, by omega, fun g a b => ?_, fun g hg => ?_⟩
  · rw [goS_app, d.go, h1, Nat.add_comm p 1, List.range'_append_1]
  · rw [seeS_app, h2, List.mem_append]
    by_cases h : g + 1 ≤ p
    · exact .inl (d.s1 g a h)
    · refine .inr ?_
      rw [List.mem_range'_1]
      omega
  · rw [seeS_app, h2, List.mem_append, List.mem_range'_1] at hg
    rcases hg with hg | hg
    · have := d.s2 g hg; omega
    · omega
theorem last_range (p : Nat) : (List.range' 1 p).getLast?.getD 0 = p := by
  cases p with
  | zero => rfl
  | succ p =>
    rw [List.range'_concat]
    simp
    omega
/-- the deeds from where one stands, by the journal -/
theorem again (ok : B.Ok) (k x p : Nat) (l : List Deed) (M : Sto) (hM : Cl M) (hx : x < B.n) (d : DSt B x l p) (hz : l.length ≤ 1000) : ∃ lot C, CP (k + 70) i_faults_left [.d B.rig, .d (ND (List.range B.n)), .d (jourD B x (seeS l))] M = dR (ND lot) M ∧ CP (k + 70) i_code_from [.d B.book, .d (ND lot), .d (iD p)] M = dR C M ∧
    CP (k + 70) i_deeds_from [.d B.rig, .d C, .d (iD p), .d (iD x)] M = some (.nl ((deedsD p (endE B x - p)).map (deedD B x)), M) := by
  have h2 := ok.n2
  have hle := d.le
  unfold endE at hle
  have hsl : (seeS l).length ≤ 1000 := by
    unfold seeS
    rw [List.length_map]
    exact Nat.le_trans (List.length_filter_le _ _) hz
  have hsb : ∀ g ∈ seeS l, g < B.n := fun g hg => by have := d.s2 g hg; omega
  have e1 := L_faults_left ok (k + 68) x (seeS l) hsl hsb hx M
  by_cases hp : p = 0 ∨ p ∈ seeS l
  · rw [known_jour ok (m := p) hx (by omega) (fun g a b => by
      by_cases h : g = p
      · subst h
        rcases hp with hp | hp
        · omega
        · exact hp
      · exact d.s1 g a (by omega)) d.s2] at e1
    by_cases h : x + 1 ≤ p
    · have h3 : knownAt B x p = [x] := by unfold knownAt; rw [if_pos h]
      rw [h3] at e1
      refine ⟨[x], _, e1, code_one ok k x p M hM hx (by omega), ?_⟩
      have h4 : endE B x - p = 0 := by unfold endE; omega
      rw [h4]
      exact L_deeds_one ok (k + 68) p x M hM hx (by omega)
    · have h3 : knownAt B x p = B.lot p := by unfold knownAt; rw [if_neg h]
      rw [h3] at e1
      have c := code_lot ok k (B.n - 1 - p) M hM (by omega)
      rw [show B.n - 1 - (B.n - 1 - p) = p by omega] at c
      exact ⟨_, _, e1, c, L_deeds_lot ok (k + 68) p x M hM hx (by omega)⟩
  · have hp0 : p ≠ 0 := fun z => hp (.inl z)
    have hps : p ∉ seeS l := fun z => hp (.inr z)
    obtain ⟨j, rfl⟩ : ∃ j, p = j + 1 := ⟨p - 1, by omega⟩
    rw [known_jour ok (m := j) hx (by omega) (fun g a b => d.s1 g a (by omega)) (fun g hg => by
      have h3 := d.s2 g hg
      have h4 : g ≠ j + 1 := fun z => hps (by rw [← z]; exact hg)
      omega)] at e1
    have h3 : knownAt B x j = B.lot j := by unfold knownAt; rw [if_neg (by omega)]
    rw [h3] at e1
    exact ⟨_, _, e1, code_gone ok k j M hM (by omega), L_deeds_gone ok (k + 68) j x M hM hx (by omega) (by omega)⟩
def bodyRC (k : Nat) : DenS := sSeq (sIf (dBin false fLt (dVar 7) (dCB true fLen (dA1 (dVar 6) dA0))) (sSeq (sSet 5 false (dBin false fAdd (dVar 5) (dSlice (dVar 6) none (some (dVar 7)))))
  (sSeq (sSet 8 false (dCall 2 (CP k i_setting_behind) (dA1 (dVar 5) (dA1 (dC (.int 0)) dA0))))
  (sSeq (sSet 9 false (dCall 3 (CP k i_faults_left) (dA1 (dVar 4) (dA1 (dCall 1 (CP k i_every_fault) (dA1 (dVar 4) dA0)) (dA1 (dCall 1 (CP k i_journal_of) (dA1 (dVar 5) dA0)) dA0)))))
  (sSeq (sSet 6 false (dCall 4 (CP k i_deeds_from) (dA1 (dVar 4) (dA1 (dCall 3 (CP k i_code_from) (dA1 (dVar 0) (dA1 (dVar 9) (dA1 (dVar 8) dA0)))) (dA1 (dVar 8) (dA1 (dVar 2) dA0)))))) sNil)))) (sSeq (sBrk) sNil)) sNil
theorem cut_brk (k x c : Nat) (coming : List Deed) (M : Sto) (h : coming.length ≤ c) (a0 a1 a2 a3 a4 a5 a8 a9 : Option Val) : bodyRC k [a0, a1, a2, a3, a4, a5, some (.d (.list (coming.map (deedD B x)))), some (.d (iD c)), a8, a9] M = some (.brk [a0, a1, a2, a3, a4, a5, some (.d (.list (coming.map (deedD B x)))), some (.d (iD c)), a8, a9] M) := by
  have h1 : ¬ (c : Int) < (coming.length : Int) := by omega
  unfold bodyRC
  simp [h1]
theorem cut_on (ok : B.Ok) (k x p c : Nat) (l : List Deed) (M : Sto) (hM : Cl M) (hx : x < B.n) (d : DSt B x l p) (hz : l.length ≤ 500) (hc : c < 2 * (endE B x - p) + 2) (a1 a3 a8 a9 : Option Val) : ∃ b8 b9, bodyRC (k + 70) [some (.d B.book), a1, some (.d (iD x)), a3, some (.d B.rig), some (.d (.list (l.map (deedD B x)))), some (.d (.list ((deedsD p (endE B x - p)).map (deedD B x)))), some (.d (iD c)), a8, a9] M =
    some (.nx [some (.d B.book), a1, some (.d (iD x)), a3, some (.d B.rig), some (.d (.list ((l ++ (deedsD p (endE B x - p)).take c).map (deedD B x)))), some (.d (.list ((deedsD (p + c / 2) (endE B x - (p + c / 2))).map (deedD B x)))), some (.d (iD c)), b8, b9] M) := by
  have h24 := ok.n24
  have hE : endE B x ≤ 23 := by unfold endE; omega
  have hlen := (all_deeds (endE B x - p) p).2.2.1
  have d2 := d.step hc
  have hz2 : (l ++ (deedsD p (endE B x - p)).take c).length ≤ 1000 := by
    rw [List.length_append, List.length_take, hlen]
    omega
  obtain ⟨lot, C, e1, e2, e3⟩ := again ok k x (p + c / 2) (l ++ (deedsD p (endE B x - p)).take c) M hM hx d2 hz2
  have e4 := L_setting_behind (B := B) (k + 69) x (l ++ (deedsD p (endE B x - p)).take c) hz2 M (fun g hg => by
    rw [d2.go, List.mem_range'_1] at hg
    have := d2.le
    omega)
  rw [d2.go, last_range] at e4
  have e5 := L_journal_of (B := B) (k + 69) x (l ++ (deedsD p (endE B x - p)).take c) hz2 M
  have e6 := L_every_fault ok (k + 69) M
  have h1 : (c : Int) < (((deedsD p (endE B x - p)).map (deedD B x)).length : Int) := by
    rw [List.length_map, hlen]
    omega
  have h2 := cut_take ((deedsD p (endE B x - p)).map (deedD B x)) c
  rw [← List.map_take] at h2
  have h3 : (l.map (deedD B x)).length + (((deedsD p (endE B x - p)).take c).map (deedD B x)).length ≤ big := by
    rw [List.length_map, List.length_map, ← List.length_append]
    exact Nat.le_trans hz2 (by decide)
  refine ⟨some (.d (iD (p + c / 2))), some (.d (ND lot)), ?_⟩
  generalize hD : (deedsD p (endE B x - p)).map (deedD B x) = D at h1 h2
  generalize hT : ((deedsD p (endE B x - p)).take c).map (deedD B x) = T at h2 h3
  have hLT : (l ++ (deedsD p (endE B x - p)).take c).map (deedD B x) = l.map (deedD B x) ++ T := by rw [List.map_append, hT]
  rw [hLT] at e4 e5 ⊢
  have f1 : dBin false fLt (dVar 7) (dCB true fLen (dA1 (dVar 6) dA0)) [some (.d B.book), a1, some (.d (iD x)), a3, some (.d B.rig), some (.d (.list (l.map (deedD B x)))), some (.d (.list D)), some (.d (iD c)), a8, a9] M = dR (.bool true) M := by
    simp only [x_dBin, x_val, x_dCB, x_dA1, x_dA0, x_dVar, List.getElem?_cons_zero, List.getElem?_cons_succ, obs, x_settle1, x_lkf, x_lkt, x_rds1, x_rds0, x_rdw1, x_rd1, x_fLenL, x_rint, x_fLt, h1, decide_true, x_rbl]
  have f2 : dBin false fAdd (dVar 5) (dSlice (dVar 6) none (some (dVar 7))) [some (.d B.book), a1, some (.d (iD x)), a3, some (.d B.rig), some (.d (.list (l.map (deedD B x)))), some (.d (.list D)), some (.d (iD c)), a8, a9] M = some (.nl (l.map (deedD B x) ++ T), M) := by
    simp only [x_dBin, x_val, x_dSlice, x_dPart0, x_dPart1, x_dVar, List.getElem?_cons_zero, List.getElem?_cons_succ, obs, x_settle1, x_lkf, x_rd1, x_asI, h2, x_settle2, x_fAddL]
    rw [if_pos h3]
    rfl
  have f3 : dCall 2 (CP (k + 70) i_setting_behind) (dA1 (dVar 5) (dA1 (dC (.int 0)) dA0)) [some (.d B.book), a1, some (.d (iD x)), a3, some (.d B.rig), some (.d (.list (l.map (deedD B x) ++ T))), some (.d (.list D)), some (.d (iD c)), a8, a9] M = dR (iD (p + c / 2)) M := by
    simp only [x_dCall, x_dA1, x_dA0, x_val, x_dVar, x_dC, List.getElem?_cons_zero, List.getElem?_cons_succ, obs, x_settle1, List.length_cons, List.length_nil, if_true, e4]
  have f4 : dCall 3 (CP (k + 70) i_faults_left) (dA1 (dVar 4) (dA1 (dCall 1 (CP (k + 70) i_every_fault) (dA1 (dVar 4) dA0)) (dA1 (dCall 1 (CP (k + 70) i_journal_of) (dA1 (dVar 5) dA0)) dA0))) [some (.d B.book), a1, some (.d (iD x)), a3, some (.d B.rig), some (.d (.list (l.map (deedD B x) ++ T))), some (.d (.list D)), some (.d (iD c)), some (.d (iD (p + c / 2))), a9] M = dR (ND lot) M := by
    simp only [x_dCall, x_dA1, x_dA0, x_val, x_dVar, x_dC, List.getElem?_cons_zero, List.getElem?_cons_succ, obs, x_settle1, List.length_cons, List.length_nil, if_true, e5, e6, e1]
  have f5 : dCall 4 (CP (k + 70) i_deeds_from) (dA1 (dVar 4) (dA1 (dCall 3 (CP (k + 70) i_code_from) (dA1 (dVar 0) (dA1 (dVar 9) (dA1 (dVar 8) dA0)))) (dA1 (dVar 8) (dA1 (dVar 2) dA0)))) [some (.d B.book), a1, some (.d (iD x)), a3, some (.d B.rig), some (.d (.list (l.map (deedD B x) ++ T))), some (.d (.list D)), some (.d (iD c)), some (.d (iD (p + c / 2))), some (.d (ND lot))] M = some (.nl ((deedsD (p + c / 2) (endE B x - (p + c / 2))).map (deedD B x)), M) := by
    simp only [x_dCall, x_dA1, x_dA0, x_val, x_dVar, x_dC, List.getElem?_cons_zero, List.getElem?_cons_succ, obs, x_settle1, List.length_cons, List.length_nil, if_true, e2, e3]
  unfold bodyRC
  rw [x_sSeq, x_sIf, f1]
  simp only [obs, x_asB, if_true]
  rw [x_sSeq, x_sSet, x_valm, f2]
  simp only [obs, x_stl2, List.set_cons_zero, List.set_cons_succ, x_seqK1]
  rw [x_sSeq, x_sSet, x_valm, f3]
  simp only [obs, x_stl1, List.set_cons_zero, List.set_cons_succ, x_seqK1]
  rw [x_sSeq, x_sSet, x_valm, f4]
  simp only [obs, x_stl1, List.set_cons_zero, List.set_cons_succ, x_seqK1]
  rw [x_sSeq, x_sSet, x_valm, f5]
  simp only [obs, x_stl2, List.set_cons_zero, List.set_cons_succ, x_seqK1, x_sNil]
theorem cut_loop (ok : B.Ok) (k x : Nat) (M : Sto) (hM : Cl M) (hx : x < B.n) (a1 a3 : Option Val) : ∀ (cs : List Nat) (l : List Deed) (p : Nat) (a7 a8 a9 : Option Val), DSt B x l p → l.length + 60 * cs.length ≤ 400 → ∃ (l' m' : List Deed) (b7 b8 b9 : Option Val),
    forGo (.nm 7) (bodyRC (k + 70)) (okI (cs.map iD)) [some (.d B.book), a1, some (.d (iD x)), a3, some (.d B.rig), some (.d (.list (l.map (deedD B x)))), some (.d (.list ((deedsD p (endE B x - p)).map (deedD B x)))), a7, a8, a9] M =
      some (.nx [some (.d B.book), a1, some (.d (iD x)), a3, some (.d B.rig), some (.d (.list (l'.map (deedD B x)))), some (.d (.list (m'.map (deedD B x)))), b7, b8, b9] M) ∧ goS (l' ++ m') = List.range' 1 (endE B x) ∧ seeS (l' ++ m') = seeS l ++ pureS (endE B x) p cs ∧ (∃ f, l' ++ m' = f ++ [.cure]) ∧ l'.length + m'.length ≤ 500
  | [], l, p, a7, a8, a9, d, hz => by
    have h24 := ok.n24
    have hE : endE B x ≤ 23 := by unfold endE; omega
    have hle := d.le
    obtain ⟨h1, h2, h3, f, h4⟩ := all_deeds (endE B x - p) p
    refine ⟨l, deedsD p (endE B x - p), a7, a8, a9, rfl, ?_, ?_, ⟨l ++ f, by rw [h4, List.append_assoc]⟩, by rw [h3]; simp at hz; omega⟩
    · rw [goS_app, d.go, h1, Nat.add_comm p 1, List.range'_append_1, show p + (endE B x - p) = endE B x by omega]
    · rw [seeS_app, h2]
      rfl
  | c :: cs, l, p, a7, a8, a9, d, hz => by
    have h24 := ok.n24
    have hE : endE B x ≤ 23 := by unfold endE; omega
    have hle := d.le
    obtain ⟨h1, h2, h3, f, h4⟩ := all_deeds (endE B x - p) p
    rw [List.length_cons] at hz
    by_cases hc : c < 2 * (endE B x - p) + 2
    · obtain ⟨b8, b9, e1⟩ := cut_on ok k x p c l M hM hx d (by omega) hc a1 a3 a8 a9
      have d2 := d.step hc
      obtain ⟨l', m', c7, c8, c9, e2, g1, g2, g3, g4⟩ := cut_loop ok k x M hM hx a1 a3 cs _ _ (some (.d (iD c))) b8 b9 d2 (by
        rw [List.length_append, List.length_take, h3]
        omega)
      refine ⟨l', m', c7, c8, c9, ?_, g1, ?_, g3, g4⟩
      · rw [← e2]
        show ((bodyRC (k + 70) [some (.d B.book), a1, some (.d (iD x)), a3, some (.d B.rig), some (.d (.list (l.map (deedD B x)))), some (.d (.list ((deedsD p (endE B x - p)).map (deedD B x)))), some (.d (iD c)), a8, a9] M).bind _) = _
        rw [e1]
        rfl
      · rw [g2, seeS_app, (take_deeds c (endE B x - p) p (by omega)).2]
        rw [pureS_cons, if_pos hc, List.append_assoc]
    · refine ⟨l, deedsD p (endE B x - p), some (.d (iD c)), a8, a9, ?_, ?_, ?_, ⟨l ++ f, by rw [h4, List.append_assoc]⟩, by rw [h3]; omega⟩
      · show ((bodyRC (k + 70) [some (.d B.book), a1, some (.d (iD x)), a3, some (.d B.rig), some (.d (.list (l.map (deedD B x)))), some (.d (.list ((deedsD p (endE B x - p)).map (deedD B x)))), some (.d (iD c)), a8, a9] M).bind _) = _
        rw [cut_brk (B := B) (k + 70) x c (deedsD p (endE B x - p)) M (by rw [h3]; omega)]
        rfl
      · rw [goS_app, d.go, h1, Nat.add_comm p 1, List.range'_append_1, show p + (endE B x - p) = endE B x by omega]
      · rw [seeS_app, h2]
        rw [pureS_cons, if_neg hc]
end
end PV

set_option maxRecDepth 100000
set_option maxHeartbeats 1000000
/-! run_cut -/
namespace PV
open PySem
theorem L_first_bad_cut (k : Nat) (cs : List Nat) (M : Sto) (h : ∀ c ∈ cs, c ≤ 5000) : CP (k + 3) i_first_bad_cut [.d (ND cs)] M = dR .none M := by
  obtain ⟨ρ2, M2, h1, h2⟩ := forL (g := .tp [1, 2]) (l := (cs.map iD).zipIdx 0) (c := fun x => (PyData.tuple [iD x.2, x.1], false)) (b := sSeq (sIf (dNot (dCall 3 (CP (k + 2) i_is_between) (dA1 (dVar 2) (dA1 (dC (.int 0)) (dA1 (dC (.int 5000)) dA0))))) (sSeq (sRet (dVar 1)) sNil) (sNil)) sNil)
    (fun _ ρ M' => M' = M ∧ ∃ a b, ρ = [some (.d (ND cs)), a, b]) (ρ := [some (.d (ND cs)), none, none]) (M := M) (by
      rintro i x hx ρ M' ⟨rfl, y, z, rfl⟩
      obtain ⟨h3, h4⟩ := zipAt (cs.map iD) i x hx
      obtain ⟨c, hc, hx1⟩ := List.mem_map.mp (List.mem_of_getElem? h3)
      have h5 := h c hc
      have e1 := L_is_betw k M' (c : Int) 0 5000 (by omega) (by omega)
      refine ⟨_, _, _, rfl, ?_, rfl, some (.d (iD x.2)), some (.d x.1), rfl⟩
      rw [← hx1]
      simp [e1]) ⟨rfl, none, none, rfl⟩
  obtain ⟨rfl, y, z, rfl⟩ := h2
  have e2 : enumI 0 (cs.map iD) = ((cs.map iD).zipIdx 0).map fun x => (PyData.tuple [iD x.2, x.1], false) := enum_eq (cs.map iD) 0
  have e3 : dEnum (dA1 (dVar 0) dA0) [some (.d (ND cs)), none, none] M2 = some (((cs.map iD).zipIdx 0).map fun x => (PyData.tuple [iD x.2, x.1], false), M2) := by
    rw [← e2]
    rfl
  rw [c_first_bad_cut]
  show ((b_first_bad_cut (CP (k + 2)) (CM (k + 2)) [some (.d (ND cs)), none, none] M2).bind _) = _
  unfold b_first_bad_cut
  rw [x_sSeq, x_sFor, e3, obs, h1, obs, x_seqK1]
  simp [endD]
theorem L_want_cuts (k : Nat) (cs : List Nat) (M : Sto) (hz : cs.length ≤ 20) (h : ∀ c ∈ cs, c ≤ 5000) : CP (k + 4) i_want_cuts [.d (ND cs)] M = dR .none M := by
  have e1 := L_first_bad_cut k cs M h
  have h1 : ¬ (20 : Int) < (cs.length : Int) := by omega
  rw [c_want_cuts]
  simp [b_want_cuts, runFn, env0, e1, h1, endD]
section
variable {B : Bk}
theorem L_want_run (ok : B.Ok) (k x : Nat) (cs : List Nat) (M : Sto) (hM : Cl M) (hx : x < B.n) (hz : cs.length ≤ 20) (h : ∀ c ∈ cs, c ≤ 5000) : CP (k + 10) i_want_run [.d B.book, .d (.tuple (codeL B (B.n - 1))), .d (iD x), .d (ND cs)] M = dR .none M := by
  have h24 := ok.n24
  have h2 := ok.n2
  have e1 := L_made_book ok k M
  have e2 := L_want_code ok (k + 1) M (codeL_ok ok (B.n - 1) (by omega)) (by omega)
  have e3 := L_want_fault (B := B) (k + 5) x M hx
  have e4 := L_want_cuts (k + 5) cs M hz h
  have e5 := L_right ok (k + 2) M hM
  have e6 := L_every_fault ok (k + 8) M
  rw [c_want_run]
  simp [b_want_run, runFn, env0, e1, e2, e3, e4, e5, e6, endD]
theorem range_one (E : Nat) : 0 :: List.range' 1 E = List.range (E + 1) := by
  rw [List.range_eq_range', List.range'_succ]
theorem L_run_cut (ok : B.Ok) (k x : Nat) (cs : List Nat) (M : Sto) (hM : Cl M) (hx : x < B.n) (hz : cs.length ≤ 5) (h : ∀ c ∈ cs, c ≤ 5000) : CP (k + 71) i_run_cut [.d B.book, .d (.tuple (codeL B (B.n - 1))), .d (iD x), .d (ND cs)] M = dR (.tuple [ND (List.range (endE B x + 1)), iD (x % B.q), jourD B x (pureS (endE B x) 0 cs)]) M := by
  have h2 := ok.n2
  have h24 := ok.n24
  have e1 := L_want_run ok (k + 60) x cs M hM hx (by omega) h
  have e2 : CP (k + 70) i_deeds_from [.d B.rig, .d (.tuple (codeL B (B.n - 1))), .d (.int 0), .d (iD x)] M = some (.nl ((deedsD 0 (endE B x - 0)).map (deedD B x)), M) := L_deeds_lot ok (k + 68) 0 x M hM hx (by omega)
  obtain ⟨l', m', b7, b8, b9, e3, g1, g2, ⟨f, g3⟩, g4⟩ := cut_loop ok k x M hM hx (some (.d (.tuple (codeL B (B.n - 1))))) (some (.d (ND cs))) cs [] 0 none none none ⟨rfl, Nat.zero_le _, fun g a b => by omega, fun g hg => by cases hg⟩ (by simp; omega)
  have hl : (l' ++ m').length ≤ 1000 := by rw [List.length_append]; omega
  have e4 := L_walk_of (B := B) (k + 69) x (l' ++ m') hl M
  have e5 := L_journal_of (B := B) (k + 69) x (l' ++ m') hl M
  rw [g1, range_one] at e4
  rw [g2, show seeS [] = [] from rfl, List.nil_append] at e5
  have hlast : L2.atI ((l' ++ m').map (deedD B x)) (-1) = some (deedD B x .cure) := by
    rw [g3, List.map_append]
    exact at_last _ _
  rw [List.map_append] at e4 e5 hlast
  have hadd : (l'.map (deedD B x)).length + (m'.map (deedD B x)).length ≤ big := by
    rw [List.length_map, List.length_map]
    exact Nat.le_trans g4 (by decide)
  have r1 : fIdx (deedD B x .cure) (.int 1) = dv (iD (x % B.q)) := by simp [deedD, at1]
  generalize hL : l'.map (deedD B x) = L at *
  generalize hR : m'.map (deedD B x) = R at *
  have e0 : b_run_cut (CP (k + 70)) (CM (k + 70)) = sSeq (sExpr (dCall 4 (CP (k + 70) i_want_run) (dA1 (dVar 0) (dA1 (dVar 1) (dA1 (dVar 2) (dA1 (dVar 3) dA0)))))) (sSeq (sSet 4 false (dIdx (dVar 0) (dC (.int 0)))) (sSeq (sPar 5 6 false false (dLst (dA0)) (dCall 4 (CP (k + 70) i_deeds_from) (dA1 (dVar 4) (dA1 (dVar 1) (dA1 (dC (.int 0)) (dA1 (dVar 2) dA0))))))
    (sSeq (sFor (dIter (dVar 3)) (.nm 7) (bodyRC (k + 70))) (sSeq (sSet 5 false (dBin false fAdd (dVar 5) (dVar 6))) (sSeq (sRet (dTup (dA1 (dCall 1 (CP (k + 70) i_walk_of) (dA1 (dVar 5) dA0)) (dA1 (dIdx (dIdx (dVar 5) (dUn fNeg (dC (.int 1)))) (dC (.int 1))) (dA1 (dCall 1 (CP (k + 70) i_journal_of) (dA1 (dVar 5) dA0)) dA0))))) sNil))))) := rfl
  have s1 : sExpr (dCall 4 (CP (k + 70) i_want_run) (dA1 (dVar 0) (dA1 (dVar 1) (dA1 (dVar 2) (dA1 (dVar 3) dA0))))) [some (.d B.book), some (.d (.tuple (codeL B (B.n - 1)))), some (.d (iD x)), some (.d (ND cs)), none, none, none, none, none, none] M = some (.nx [some (.d B.book), some (.d (.tuple (codeL B (B.n - 1)))), some (.d (iD x)), some (.d (ND cs)), none, none, none, none, none, none] M) := by
    simp only [x_sExpr, x_dCall, x_dA1, x_dA0, x_val, x_dVar, List.getElem?_cons_zero, List.getElem?_cons_succ, obs, x_settle1, List.length_cons, List.length_nil, if_true, e1]
  have s2 : dIdx (dVar 0) (dC (.int 0)) [some (.d B.book), some (.d (.tuple (codeL B (B.n - 1)))), some (.d (iD x)), some (.d (ND cs)), none, none, none, none, none, none] M = dR B.rig M := by simp
  have s3 : sPar 5 6 false false (dLst (dA0)) (dCall 4 (CP (k + 70) i_deeds_from) (dA1 (dVar 4) (dA1 (dVar 1) (dA1 (dC (.int 0)) (dA1 (dVar 2) dA0))))) [some (.d B.book), some (.d (.tuple (codeL B (B.n - 1)))), some (.d (iD x)), some (.d (ND cs)), some (.d B.rig), none, none, none, none, none] M = some (.nx [some (.d B.book), some (.d (.tuple (codeL B (B.n - 1)))), some (.d (iD x)), some (.d (ND cs)), some (.d B.rig), some (.d (.list [])), some (.d (.list ((deedsD 0 (endE B x - 0)).map (deedD B x)))), none, none, none] M) := by
    have t1 : dLst dA0 [some (.d B.book), some (.d (.tuple (codeL B (B.n - 1)))), some (.d (iD x)), some (.d (ND cs)), some (.d B.rig), none, none, none, none, none] M = some (.nl [], M) := by
      simp only [x_dLst, x_dA0, obs, x_allD0]
      rfl
    simp only [x_sPar, x_valm, t1, obs, x_stl2, x_dCall, x_dA1, x_dA0, x_val, x_dVar, x_dC, List.getElem?_cons_zero, List.getElem?_cons_succ, x_settle1, List.length_cons, List.length_nil, if_true, e2, List.set_cons_zero, List.set_cons_succ]
  have s4 : sFor (dIter (dVar 3)) (.nm 7) (bodyRC (k + 70)) [some (.d B.book), some (.d (.tuple (codeL B (B.n - 1)))), some (.d (iD x)), some (.d (ND cs)), some (.d B.rig), some (.d (.list [])), some (.d (.list ((deedsD 0 (endE B x - 0)).map (deedD B x)))), none, none, none] M = some (.nx [some (.d B.book), some (.d (.tuple (codeL B (B.n - 1)))), some (.d (iD x)), some (.d (ND cs)), some (.d B.rig), some (.d (.list L)), some (.d (.list R)), b7, b8, b9] M) := by
    rw [x_sFor, x_dIter, x_val, x_dVar]
    simp only [List.getElem?_cons_zero, List.getElem?_cons_succ, obs, x_settle1]
    rw [show iterOf (.d (ND cs)) M = some (okI (cs.map iD), M) from rfl, obs]
    exact e3
  have s5 : dBin false fAdd (dVar 5) (dVar 6) [some (.d B.book), some (.d (.tuple (codeL B (B.n - 1)))), some (.d (iD x)), some (.d (ND cs)), some (.d B.rig), some (.d (.list L)), some (.d (.list R)), b7, b8, b9] M = some (.nl (L ++ R), M) := by
    simp only [x_dBin, x_val, x_dVar, List.getElem?_cons_zero, List.getElem?_cons_succ, obs, x_settle1, x_lkf, x_rd1, x_fAddL]
    rw [if_pos hadd]
    rfl
  have s6 : dTup (dA1 (dCall 1 (CP (k + 70) i_walk_of) (dA1 (dVar 5) dA0)) (dA1 (dIdx (dIdx (dVar 5) (dUn fNeg (dC (.int 1)))) (dC (.int 1))) (dA1 (dCall 1 (CP (k + 70) i_journal_of) (dA1 (dVar 5) dA0)) dA0))) [some (.d B.book), some (.d (.tuple (codeL B (B.n - 1)))), some (.d (iD x)), some (.d (ND cs)), some (.d B.rig), some (.d (.list (L ++ R))), some (.d (.list R)), b7, b8, b9] M = dR (.tuple [ND (List.range (endE B x + 1)), iD (x % B.q), jourD B x (pureS (endE B x) 0 cs)]) M := by
    have hb3 : 0 + 1 + 1 + 1 ≤ big := by
      show 3 ≤ big
      decide
    simp only [x_dTup, x_dCall, x_dA1, x_dA0, x_val, x_dVar, x_dIdx, x_dUn, x_dC, List.getElem?_cons_zero, List.getElem?_cons_succ, obs, x_settle1, List.length_cons, List.length_nil, if_true, e4, x_dct1, x_rdw1, x_rd1, x_fNeg, x_rint, x_fIdxL, hlast, Option.bind_some, x_dv, r1, e5, x_allD1, x_allD0]
    rw [if_pos hb3]
  rw [c_run_cut]
  unfold runFn
  rw [e0, show env0 10 [Val.d B.book, .d (.tuple (codeL B (B.n - 1))), .d (iD x), .d (ND cs)] = [some (.d B.book), some (.d (.tuple (codeL B (B.n - 1)))), some (.d (iD x)), some (.d (ND cs)), none, none, none, none, none, none] from rfl]
  rw [x_sSeq, s1, obs, x_seqK1, x_sSeq, x_sSet, x_valm, s2]
  simp only [obs, x_stl1, List.set_cons_zero, List.set_cons_succ, x_seqK1]
  rw [x_sSeq, s3, obs, x_seqK1, x_sSeq, s4, obs, x_seqK1, x_sSeq, x_sSet, x_valm, s5]
  simp only [obs, x_stl2, List.set_cons_zero, List.set_cons_succ, x_seqK1]
  rw [x_sSeq, x_sRet, s6, obs, obs, x_seqK2]
  exact endD M _
end
end PV

set_option maxRecDepth 100000
set_option maxHeartbeats 1000000
/-! the journal that the law tells by hand -/
namespace PV
open PySem
section
variable {B : Bk}
def seeV : Den := dTup (dA1 (dIdx (dVar 3) (dVar 5)) (dA1 (dIdx (dIdx (dIdx (dVar 0) (dC (.int 3))) (dIdx (dVar 3) (dVar 5))) (dVar 1)) dA0))
def addV : DenS := sExpr (dMeth isLoc mAppend (dVar 4) (dA1 seeV dA0))
def decV : DenS := sSet 7 false (dBin false fSub (dVar 7) (dC (.int 1)))
def isV : DenS := sSet 8 false (dBin false fGt (dVar 7) (dC (.int 0)))
def condV : Den := dAnd (dBin false fGt (dVar 7) (dC (.int 0))) (dBin false fLt (dVar 5) (dBin false fSub (dCB true fLen (dA1 (dVar 3) dA0)) (dC (.int 1))))
def ifV : DenS := sIf (dVar 8) (sSeq addV (sSeq decV sNil)) (sNil)
def bodyV : DenS := sSeq (sPar 5 7 false false (dBin false fAdd (dVar 5) (dC (.int 1))) (dBin false fSub (dVar 7) (dC (.int 1)))) (sSeq isV (sSeq ifV sNil))
def endV : DenS := sIf (dAnd (dBin false fGt (dVar 7) (dC (.int 0))) (dVar 8)) (sSeq (sRet (dCB false fTuple (dA1 (dVar 4) dA0))) sNil) (sNil)
def turnV : DenS := sSeq (sSet 7 false (dIf (dBin false fLt (dVar 6) (dCB true fLen (dA1 (dVar 2) dA0))) (dIdx (dVar 2) (dVar 6)) (dC (.int 5000)))) (sSeq isV (sSeq ifV (sSeq (sWhile condV bodyV) (sSeq endV sNil))))
/-- the slots -/
abbrev enV (B : Bk) (x : Nat) (cs : List Nat) (N p : Nat) (a6 : Option Val) (s : Nat) (a8 : Option Val) : Env := [some (.d B.rig), some (.d (iD x)), some (.d (ND cs)), some (.d (ND (List.range (endE B x + 1)))), some (.loc N), some (.d (iD p)), a6, some (.d (iD s)), a8]
abbrev stV (B : Bk) (x : Nat) (M : Sto) (F : List Nat) : Sto := M ++ [.lst (F.map (pairS B x))]
theorem addV_ok (ok : B.Ok) (x : Nat) (cs : List Nat) (M : Sto) (p s : Nat) (F : List Nat) (hx : x < B.n) (hp : p ≤ endE B x) (hF : F.length ≤ 1000) (a6 a8 : Option Val) : addV (enV B x cs M.length p a6 s a8) (stV B x M F) = some (.nx (enV B x cs M.length p a6 s a8) (stV B x M (F ++ [p]))) := by
  have h2 := ok.n2
  have hpn : p < B.n := by unfold endE at hp; omega
  have g1 : (stV B x M F)[M.length]? = some (.lst (F.map (pairS B x))) := by simp
  have e1 : ∀ S : Sto, dIdx (dVar 3) (dVar 5) (enV B x cs M.length p a6 s a8) S = dR (iD p) S := fun S => by
    have h3 : fIdx (ND (List.range (endE B x + 1))) (iD p) = dv (iD p) := fIdxR iD (by omega)
    simp only [x_dIdx, x_val, x_dVar, List.getElem?_cons_zero, List.getElem?_cons_succ, obs, x_settle1, x_dct1, x_rdw1, x_rd1, h3, x_dv]
  have e2 : val (dIdx (dVar 3) (dVar 5)) (enV B x cs M.length p a6 s a8) (stV B x M F) = some (.d (iD p), stV B x M F) := by
    rw [x_val, e1]
    rfl
  have e3 := signN ok hpn hx (stV B x M F) (f1 := dIdx (dVar 3) (dVar 5)) (f2 := dVar 1) (ρ := enV B x cs M.length p a6 s a8) rfl e2 rfl
  have e4 : seeV (enV B x cs M.length p a6 s a8) (stV B x M F) = dR (pairS B x p) (stV B x M F) := by
    have hb2 : 0 + 1 + 1 ≤ big := by
      show 2 ≤ big
      decide
    unfold seeV
    simp only [x_dTup, x_dA1, x_dA0, e2, x_val, e3, obs, x_settle1, x_allD1, x_allD0, List.length_cons, List.length_nil]
    rw [if_pos hb2]
  have e5 := x_append g1 (y := pairS B x p)
  rw [if_pos (by rw [List.length_map]; exact Nat.lt_of_le_of_lt hF (by decide))] at e5
  have e6 : (stV B x M F).set M.length (.lst (F.map (pairS B x) ++ [pairS B x p])) = stV B x M (F ++ [p]) := by simp
  rw [e6] at e5
  unfold addV
  simp only [x_sExpr, x_dMeth, x_dA1, x_dA0, x_val, x_dVar, List.getElem?_cons_zero, List.getElem?_cons_succ, obs, x_settle1, x_isloc g1, if_true, e4, e5]
theorem decV_ok (x : Nat) (cs : List Nat) (N p s : Nat) (S : Sto) (a6 a8 : Option Val) : decV (enV B x cs N p a6 (s + 1) a8) S = some (.nx (enV B x cs N p a6 s a8) S) := by
  have h1 : ((s + 1 : Nat) : Int) - 1 = (s : Int) := by omega
  unfold decV
  simp only [x_sSet, x_valm, x_dBin, x_val, x_dVar, x_dC, List.getElem?_cons_zero, List.getElem?_cons_succ, obs, x_settle1, x_lkf, x_rd1, x_fSub, x_rint, h1, x_stl1, List.set_cons_zero, List.set_cons_succ]
theorem isV_ok (x : Nat) (cs : List Nat) (N p s : Nat) (S : Sto) (a6 a8 : Option Val) : isV (enV B x cs N p a6 s a8) S = some (.nx (enV B x cs N p a6 s (some (.d (.bool (decide (0 < s)))))) S) := by
  have h1 : decide ((0 : Int) < (s : Int)) = decide (0 < s) := by
    by_cases h : 0 < s
    · rw [decide_eq_true h]; exact decide_eq_true (by omega)
    · rw [decide_eq_false h]; exact decide_eq_false (by omega)
  unfold isV
  simp only [x_sSet, x_valm, x_dBin, x_val, x_dVar, x_dC, List.getElem?_cons_zero, List.getElem?_cons_succ, obs, x_settle1, x_lkf, x_rd1, x_fGt, x_rbl, h1, x_stl1, List.set_cons_zero, List.set_cons_succ]
theorem ifV_yes (ok : B.Ok) (x : Nat) (cs : List Nat) (M : Sto) (p s : Nat) (F : List Nat) (hx : x < B.n) (hp : p ≤ endE B x) (hF : F.length ≤ 1000) (a6 : Option Val) : ifV (enV B x cs M.length p a6 (s + 1) (some (.d (.bool true)))) (stV B x M F) = some (.nx (enV B x cs M.length p a6 s (some (.d (.bool true)))) (stV B x M (F ++ [p]))) := by
  unfold ifV
  rw [x_sIf, x_dVar]
  simp only [List.getElem?_cons_zero, List.getElem?_cons_succ, obs, x_asB, if_true]
  rw [x_sSeq, addV_ok ok x cs M p (s + 1) F hx hp hF a6 _]
  simp only [obs, x_seqK1]
  rw [x_sSeq, decV_ok]
  simp only [obs, x_seqK1, x_sNil]
theorem ifV_no (x : Nat) (cs : List Nat) (N p s : Nat) (S : Sto) (a6 : Option Val) : ifV (enV B x cs N p a6 s (some (.d (.bool false)))) S = some (.nx (enV B x cs N p a6 s (some (.d (.bool false)))) S) := by
  unfold ifV
  rw [x_sIf, x_dVar]
  simp only [List.getElem?_cons_zero, List.getElem?_cons_succ, obs, x_asB, Bool.false_eq_true, if_false, x_sNil]
theorem condV_ok (x : Nat) (cs : List Nat) (N p s : Nat) (S : Sto) (a6 a8 : Option Val) : condV (enV B x cs N p a6 s a8) S = dR (.bool (decide (0 < s) && decide (p < endE B x))) S := by
  have h1 : decide ((0 : Int) < (s : Int)) = decide (0 < s) := by
    by_cases h : 0 < s
    · rw [decide_eq_true h]; exact decide_eq_true (by omega)
    · rw [decide_eq_false h]; exact decide_eq_false (by omega)
  have h2 : decide ((p : Int) < (((List.range (endE B x + 1)).map iD).length : Int) - 1) = decide (p < endE B x) := by
    rw [List.length_map, List.length_range]
    by_cases h : p < endE B x
    · rw [decide_eq_true h]; exact decide_eq_true (by omega)
    · rw [decide_eq_false h]; exact decide_eq_false (by omega)
  unfold condV
  refine and_c ?_ ?_
  · simp only [x_dBin, x_val, x_dVar, x_dC, List.getElem?_cons_zero, List.getElem?_cons_succ, obs, x_settle1, x_lkf, x_rd1, x_fGt, x_rbl, h1]
  · have h3 : dCB true fLen (dA1 (dVar 3) dA0) (enV B x cs N p a6 s a8) S = dR (.int (((List.range (endE B x + 1)).map iD).length : Int)) S := rfl
    simp only [x_dBin, x_val, x_dVar, x_dC, h3, List.getElem?_cons_zero, List.getElem?_cons_succ, obs, x_settle1, x_lkf, x_rd1, x_fSub, x_rint, x_fLt, x_rbl, h2]
theorem parV_ok (x : Nat) (cs : List Nat) (N p s : Nat) (S : Sto) (a6 a8 : Option Val) : sPar 5 7 false false (dBin false fAdd (dVar 5) (dC (.int 1))) (dBin false fSub (dVar 7) (dC (.int 1))) (enV B x cs N p a6 (s + 1) a8) S = some (.nx (enV B x cs N (p + 1) a6 s a8) S) := by
  have h1 : ((s + 1 : Nat) : Int) - 1 = (s : Int) := by omega
  have h2 : (p : Int) + 1 = ((p + 1 : Nat) : Int) := by omega
  simp only [x_sPar, x_valm, x_dBin, x_val, x_dVar, x_dC, List.getElem?_cons_zero, List.getElem?_cons_succ, obs, x_settle1, x_lkf, x_rd1, x_fSub, x_fAddI, x_rint, h1, h2, x_stl1, List.set_cons_zero, List.set_cons_succ]
/-- the inner loop -/
theorem sees_while (ok : B.Ok) (x : Nat) (cs : List Nat) (M : Sto) (hx : x < B.n) (a6 : Option Val) : ∀ (d p s fuel : Nat) (F : List Nat), p + d = endE B x → d < fuel → F.length + d ≤ 900 → ∃ (p' s' : Nat) (b' : Bool) (A : List Nat), (s ≤ 2 * d → p' = p + (s + 1) / 2 ∧ s' = 0 ∧ A = List.range' (p + 1) (s / 2)) ∧ (2 * d < s → p' = p + d ∧ 0 < s' ∧ b' = true ∧ A = List.range' (p + 1) d) ∧
    whileGo condV bodyV fuel (enV B x cs M.length p a6 s (some (.d (.bool true)))) (stV B x M F) = some (.nx (enV B x cs M.length p' a6 s' (some (.d (.bool b')))) (stV B x M (F ++ A)))
  | 0, p, s, fuel, F, hd, hf, hz => by
    obtain ⟨n, rfl⟩ : ∃ n, fuel = n + 1 := ⟨fuel - 1, by omega⟩
    refine ⟨p, s, true, [], fun h => ?_, fun h => ?_, ?_⟩
    · have : s = 0 := by omega
      subst this
      exact ⟨rfl, rfl, rfl⟩
    · exact ⟨rfl, by omega, rfl, rfl⟩
    · have h1 := condV_ok (B := B) x cs M.length p s (stV B x M F) a6 (some (.d (.bool true)))
      rw [decide_eq_false (show ¬ p < endE B x by omega), Bool.and_false] at h1
      rw [whileStop h1, List.append_nil]
  | d + 1, p, 0, fuel, F, hd, hf, hz => by
    obtain ⟨n, rfl⟩ : ∃ n, fuel = n + 1 := ⟨fuel - 1, by omega⟩
    refine ⟨p, 0, true, [], fun h => ⟨rfl, rfl, rfl⟩, fun h => by omega, ?_⟩
    have h1 := condV_ok (B := B) x cs M.length p 0 (stV B x M F) a6 (some (.d (.bool true)))
    rw [decide_eq_false (show ¬ 0 < 0 by omega), Bool.false_and] at h1
    rw [whileStop h1, List.append_nil]
  | d + 1, p, 1, fuel, F, hd, hf, hz => by
    obtain ⟨n, rfl⟩ : ∃ n, fuel = n + 2 := ⟨fuel - 2, by omega⟩
    refine ⟨p + 1, 0, false, [], fun h => ⟨rfl, rfl, rfl⟩, fun h => by omega, ?_⟩
    have h1 := condV_ok (B := B) x cs M.length p 1 (stV B x M F) a6 (some (.d (.bool true)))
    rw [decide_eq_true (show 0 < 1 by omega), decide_eq_true (show p < endE B x by omega)] at h1
    have h2 : bodyV (enV B x cs M.length p a6 1 (some (.d (.bool true)))) (stV B x M F) = some (.nx (enV B x cs M.length (p + 1) a6 0 (some (.d (.bool false)))) (stV B x M F)) := by
      unfold bodyV
      rw [x_sSeq, parV_ok (B := B) x cs M.length p 0]
      simp only [obs, x_seqK1]
      rw [x_sSeq, isV_ok]
      simp only [obs, x_seqK1]
      rw [x_sSeq, decide_eq_false (show ¬ 0 < 0 by omega), ifV_no]
      simp only [obs, x_seqK1, x_sNil]
    have h3 := condV_ok (B := B) x cs M.length (p + 1) 0 (stV B x M F) a6 (some (.d (.bool false)))
    rw [decide_eq_false (show ¬ 0 < 0 by omega), Bool.false_and] at h3
    rw [List.append_nil]
    exact whileStep (n := n + 1) h1 h2 (whileStop h3)
  | d + 1, p, s + 2, fuel, F, hd, hf, hz => by
    obtain ⟨n, rfl⟩ : ∃ n, fuel = n + 1 := ⟨fuel - 1, by omega⟩
    obtain ⟨p', s', b', A, k1, k2, k3⟩ := sees_while ok x cs M hx a6 d (p + 1) s n (F ++ [p + 1]) (by omega) (by omega) (by rw [List.length_append, List.length_singleton]; omega)
    refine ⟨p', s', b', (p + 1) :: A, fun h => ?_, fun h => ?_, ?_⟩
    · obtain ⟨q1, q2, q3⟩ := k1 (by omega)
      refine ⟨by omega, q2, ?_⟩
      rw [q3, show (s + 2) / 2 = s / 2 + 1 by omega, List.range'_succ]
    · obtain ⟨q1, q2, q3, q4⟩ := k2 (by omega)
      refine ⟨by omega, q2, q3, ?_⟩
      rw [q4, List.range'_succ]
    · have h1 := condV_ok (B := B) x cs M.length p (s + 2) (stV B x M F) a6 (some (.d (.bool true)))
      rw [decide_eq_true (show 0 < s + 2 by omega), decide_eq_true (show p < endE B x by omega)] at h1
      have h2 : bodyV (enV B x cs M.length p a6 (s + 2) (some (.d (.bool true)))) (stV B x M F) = some (.nx (enV B x cs M.length (p + 1) a6 s (some (.d (.bool true)))) (stV B x M (F ++ [p + 1]))) := by
        unfold bodyV
        rw [x_sSeq, parV_ok (B := B) x cs M.length p (s + 1)]
        simp only [obs, x_seqK1]
        rw [x_sSeq, isV_ok]
        simp only [obs, x_seqK1]
        rw [x_sSeq, decide_eq_true (show 0 < s + 1 by omega), ifV_yes ok x cs M (p + 1) s F hx (by omega) (by omega)]
        simp only [obs, x_seqK1, x_sNil]
      rw [show F ++ (p + 1) :: A = F ++ [p + 1] ++ A by simp]
      exact whileStep h1 h2 k3
theorem endV_no (x : Nat) (cs : List Nat) (N p : Nat) (S : Sto) (a6 : Option Val) (b : Bool) : endV (enV B x cs N p a6 0 (some (.d (.bool b)))) S = some (.nx (enV B x cs N p a6 0 (some (.d (.bool b)))) S) := by
  have h1 : dAnd (dBin false fGt (dVar 7) (dC (.int 0))) (dVar 8) (enV B x cs N p a6 0 (some (.d (.bool b)))) S = dR (.bool (false && b)) S := and_c rfl rfl
  unfold endV
  rw [x_sIf, h1]
  simp only [obs, x_asB, Bool.false_and, Bool.false_eq_true, if_false, x_sNil]
theorem endV_yes (x : Nat) (cs : List Nat) (M : Sto) (p s : Nat) (F : List Nat) (a6 : Option Val) (hs : 0 < s) : endV (enV B x cs M.length p a6 s (some (.d (.bool true)))) (stV B x M F) = some (.ret (.v (.d (jourD B x F))) (stV B x M F)) := by
  have h0 : decide ((0 : Int) < (s : Int)) = true := decide_eq_true (by omega)
  have h1 : dAnd (dBin false fGt (dVar 7) (dC (.int 0))) (dVar 8) (enV B x cs M.length p a6 s (some (.d (.bool true)))) (stV B x M F) = dR (.bool (true && true)) (stV B x M F) := and_c (by
    simp only [x_dBin, x_val, x_dVar, x_dC, List.getElem?_cons_zero, List.getElem?_cons_succ, obs, x_settle1, x_lkf, x_rd1, x_fGt, x_rbl, h0]) rfl
  have g1 : (stV B x M F)[M.length]? = some (.lst (F.map (pairS B x))) := by simp
  have h2 : dCB false fTuple (dA1 (dVar 4) dA0) (enV B x cs M.length p a6 s (some (.d (.bool true)))) (stV B x M F) = dR (jourD B x F) (stV B x M F) := by
    simp only [x_dCB, x_dA1, x_dA0, x_val, x_dVar, List.getElem?_cons_zero, List.getElem?_cons_succ, obs, x_settle1, x_lkf, x_rds1, x_rds0, x_rd2 g1]
    rfl
  unfold endV
  rw [x_sIf, h1]
  simp only [obs, x_asB, Bool.and_self, if_true]
  rw [x_sSeq, x_sRet, h2]
  simp only [obs, x_seqK2]
/-- behind the number of deeds that are let -/
def restV : DenS := sSeq isV (sSeq ifV (sSeq (sWhile condV bodyV) (sSeq endV sNil)))
theorem rest_ok (ok : B.Ok) (x : Nat) (cs : List Nat) (M : Sto) (hx : x < B.n) (a6 a8 : Option Val) (p c : Nat) (F : List Nat) (hp : p ≤ endE B x) (hF : F.length ≤ 500) :
    (c < 2 * (endE B x - p) + 2 → ∃ s' b8, restV (enV B x cs M.length p a6 c a8) (stV B x M F) = some (.nx (enV B x cs M.length (p + c / 2) a6 s' b8) (stV B x M (F ++ List.range' p ((c + 1) / 2))))) ∧
    (2 * (endE B x - p) + 2 ≤ c → ∃ S', restV (enV B x cs M.length p a6 c a8) (stV B x M F) = some (.ret (.v (.d (jourD B x (F ++ List.range' p (endE B x - p + 1))))) S') ∧ S'.take M.length = M) := by
  have h24 := ok.n24
  have hE : endE B x ≤ 23 := by unfold endE; omega
  cases c with
  | zero =>
    refine ⟨fun _ => ⟨0, some (.d (.bool false)), ?_⟩, fun h => by omega⟩
    have h3 := condV_ok (B := B) x cs M.length p 0 (stV B x M F) a6 (some (.d (.bool false)))
    rw [decide_eq_false (show ¬ 0 < 0 by omega), Bool.false_and] at h3
    unfold restV
    rw [x_sSeq, isV_ok]
    simp only [obs, x_seqK1]
    rw [x_sSeq, decide_eq_false (show ¬ 0 < 0 by omega), ifV_no]
    simp only [obs, x_seqK1]
    rw [x_sSeq, x_sWhile, show (1000 : Nat) = 999 + 1 from rfl, whileStop h3]
    simp only [obs, x_seqK1]
    rw [x_sSeq, endV_no]
    simp only [obs, x_seqK1, x_sNil]
    rw [show F ++ List.range' p ((0 + 1) / 2) = F from List.append_nil F, show p + 0 / 2 = p from rfl]
  | succ s =>
    obtain ⟨p', s', b', A, k1, k2, k3⟩ := sees_while ok x cs M hx a6 (endE B x - p) p s 1000 (F ++ [p]) (by omega) (by omega) (by rw [List.length_append, List.length_singleton]; omega)
    have key : restV (enV B x cs M.length p a6 (s + 1) a8) (stV B x M F) = @bI _ _ (endV (enV B x cs M.length p' a6 s' (some (.d (.bool b')))) (stV B x M (F ++ [p] ++ A))) ⟨seqK sNil⟩ := by
      unfold restV
      rw [x_sSeq, isV_ok]
      simp only [obs, x_seqK1]
      rw [x_sSeq, decide_eq_true (show 0 < s + 1 by omega), ifV_yes ok x cs M p s F hx hp (by omega)]
      simp only [obs, x_seqK1]
      rw [x_sSeq, x_sWhile, k3]
      simp only [obs, x_seqK1]
      rw [x_sSeq]
    refine ⟨fun h => ?_, fun h => ?_⟩
    · obtain ⟨q1, q2, q3⟩ := k1 (by omega)
      refine ⟨0, some (.d (.bool b')), ?_⟩
      subst q2
      rw [key, endV_no]
      simp only [obs, x_seqK1, x_sNil]
      rw [q1, q3, List.append_assoc, List.singleton_append, ← List.range'_succ, show s / 2 + 1 = (s + 1 + 1) / 2 by omega]
    · obtain ⟨q1, q2, q3, q4⟩ := k2 (by omega)
      subst q3
      refine ⟨stV B x M (F ++ List.range' p (endE B x - p + 1)), ?_, by simp⟩
      have e : F ++ [p] ++ A = F ++ List.range' p (endE B x - p + 1) := by rw [q4, List.append_assoc, List.singleton_append, ← List.range'_succ]
      rw [e] at key
      rw [key, endV_yes (B := B) x cs M p' s' _ a6 q2]
      simp only [obs, x_seqK2]
/-- one turn -/
theorem turn_ok (ok : B.Ok) (x t c : Nat) (cs : List Nat) (M : Sto) (hx : x < B.n) (hc : (t < cs.length ∧ cs[t]? = some c) ∨ (cs.length ≤ t ∧ c = 5000)) (p s : Nat) (a7 a8 : Option Val) (F : List Nat) :
    turnV [some (.d B.rig), some (.d (iD x)), some (.d (ND cs)), some (.d (ND (List.range (endE B x + 1)))), some (.loc M.length), some (.d (iD p)), some (.d (iD t)), a7, a8] (stV B x M F) = restV (enV B x cs M.length p (some (.d (iD t))) c a8) (stV B x M F) := by
  have e1 : dIf (dBin false fLt (dVar 6) (dCB true fLen (dA1 (dVar 2) dA0))) (dIdx (dVar 2) (dVar 6)) (dC (.int 5000)) [some (.d B.rig), some (.d (iD x)), some (.d (ND cs)), some (.d (ND (List.range (endE B x + 1)))), some (.loc M.length), some (.d (iD p)), some (.d (iD t)), a7, a8] (stV B x M F) = dR (iD c) (stV B x M F) := by
    have h0 : dCB true fLen (dA1 (dVar 2) dA0) [some (.d B.rig), some (.d (iD x)), some (.d (ND cs)), some (.d (ND (List.range (endE B x + 1)))), some (.loc M.length), some (.d (iD p)), some (.d (iD t)), a7, a8] (stV B x M F) = dR (.int ((cs.map iD).length : Int)) (stV B x M F) := rfl
    rcases hc with ⟨h1, h2⟩ | ⟨h1, h2⟩
    · have h3 : decide ((t : Int) < ((cs.map iD).length : Int)) = true := decide_eq_true (by rw [List.length_map]; omega)
      have h4 : fIdx (ND cs) (iD t) = dv (iD c) := by
        rw [x_fIdxT, atN (l := cs.map iD) (a := iD c) (by rw [List.getElem?_map, h2]; rfl)]
        rfl
      simp only [x_dIf, x_dBin, x_val, x_dVar, h0, List.getElem?_cons_zero, List.getElem?_cons_succ, obs, x_settle1, x_lkf, x_rd1, x_fLt, h3, x_rbl, x_asB, if_true, x_dIdx, x_dct1, x_rdw1, h4, x_dv]
    · have h3 : decide ((t : Int) < ((cs.map iD).length : Int)) = false := decide_eq_false (by rw [List.length_map]; omega)
      subst h2
      simp only [x_dIf, x_dBin, x_val, x_dVar, h0, List.getElem?_cons_zero, List.getElem?_cons_succ, obs, x_settle1, x_lkf, x_rd1, x_fLt, h3, x_rbl, x_asB, Bool.false_eq_true, if_false, x_dC]
      rfl
  have e2 : turnV = sSeq (sSet 7 false (dIf (dBin false fLt (dVar 6) (dCB true fLen (dA1 (dVar 2) dA0))) (dIdx (dVar 2) (dVar 6)) (dC (.int 5000)))) restV := rfl
  rw [e2, x_sSeq, x_sSet, x_valm, e1]
  simp only [obs, x_stl1, List.set_cons_zero, List.set_cons_succ, x_seqK1]
theorem turns_ok (ok : B.Ok) (x : Nat) (cs : List Nat) (M : Sto) (hx : x < B.n) (hz : cs.length ≤ 5) : ∀ (d t p : Nat) (F : List Nat) (a6 a7 a8 : Option Val), t + d = cs.length → p ≤ endE B x → F.length + 30 * d ≤ 300 → ∃ S', forGo (.nm 6) turnV ((List.range' t (d + 1)).map fun i => (iD i, true)) [some (.d B.rig), some (.d (iD x)), some (.d (ND cs)), some (.d (ND (List.range (endE B x + 1)))), some (.loc M.length), some (.d (iD p)), a6, a7, a8] (stV B x M F) =
    some (.ret (.v (.d (jourD B x (F ++ pureS (endE B x) p (cs.drop t))))) S') ∧ S'.take M.length = M
  | 0, t, p, F, a6, a7, a8, ht, hp, hF => by
    have h24 := ok.n24
    have hE : endE B x ≤ 23 := by unfold endE; omega
    have e1 := turn_ok ok x t 5000 cs M hx (.inr ⟨by omega, rfl⟩) p 0 a7 a8 F
    obtain ⟨S', e2, e3⟩ := (rest_ok ok x cs M hx (some (.d (iD t))) a8 p 5000 F hp (by omega)).2 (by omega)
    refine ⟨S', ?_, e3⟩
    show ((turnV [some (.d B.rig), some (.d (iD x)), some (.d (ND cs)), some (.d (ND (List.range (endE B x + 1)))), some (.loc M.length), some (.d (iD p)), some (.d (iD t)), a7, a8] (stV B x M F)).bind _) = _
    rw [e1, e2, List.drop_eq_nil_of_le (by omega)]
    rfl
  | d + 1, t, p, F, a6, a7, a8, ht, hp, hF => by
    have h24 := ok.n24
    have hE : endE B x ≤ 23 := by unfold endE; omega
    have hlt : t < cs.length := by omega
    have e1 := turn_ok ok x t cs[t] cs M hx (.inl ⟨hlt, List.getElem?_eq_getElem hlt⟩) p 0 a7 a8 F
    have hr := rest_ok ok x cs M hx (some (.d (iD t))) a8 p cs[t] F hp (by omega)
    rw [List.drop_eq_getElem_cons hlt, pureS_cons]
    by_cases hc : cs[t] < 2 * (endE B x - p) + 2
    · obtain ⟨s', b8, e2⟩ := hr.1 hc
      obtain ⟨S', e3, e4⟩ := turns_ok ok x cs M hx hz d (t + 1) (p + cs[t] / 2) (F ++ List.range' p ((cs[t] + 1) / 2)) (some (.d (iD t))) (some (.d (iD s'))) b8 (by omega) (by omega) (by rw [List.length_append, List.length_range']; omega)
      refine ⟨S', ?_, e4⟩
      rw [if_pos hc, ← List.append_assoc, ← e3]
      show ((turnV [some (.d B.rig), some (.d (iD x)), some (.d (ND cs)), some (.d (ND (List.range (endE B x + 1)))), some (.loc M.length), some (.d (iD p)), some (.d (iD t)), a7, a8] (stV B x M F)).bind _) = _
      rw [e1, e2]
      rfl
    · obtain ⟨S', e2, e3⟩ := hr.2 (by omega)
      refine ⟨S', ?_, e3⟩
      rw [if_neg hc]
      show ((turnV [some (.d B.rig), some (.d (iD x)), some (.d (ND cs)), some (.d (ND (List.range (endE B x + 1)))), some (.loc M.length), some (.d (iD p)), some (.d (iD t)), a7, a8] (stV B x M F)).bind _) = _
      rw [e1, e2]
      rfl
theorem L_sees (ok : B.Ok) (k x : Nat) (cs : List Nat) (M : Sto) (hM : Cl M) (hx : x < B.n) (hz : cs.length ≤ 5) : CP (k + 2) i_law_sees [.d B.rig, .d (iD x), .d (ND cs)] M = dR (jourD B x (pureS (endE B x) 0 cs)) M := by
  have h2 := ok.n2
  have e1 := L_due_walk ok k x M hx
  have h3 : min (x + 2) B.n = endE B x + 1 := by unfold endE; omega
  rw [h3] at e1
  obtain ⟨S', e2, e3⟩ := turns_ok ok x cs M hx hz cs.length 0 0 [] none none none (by omega) (Nat.zero_le _) (by simp; omega)
  rw [List.drop_zero, List.nil_append] at e2
  have hs := small_nat (n := cs.length + 1) (by omega)
  have h4 : ((cs.map iD).length : Int) + 1 = ((cs.length + 1 : Nat) : Int) := by rw [List.length_map]; omega
  have s1 : sPar 3 4 false true (dCall 2 (CP (k + 1) i_law_due_walk) (dA1 (dVar 0) (dA1 (dVar 1) dA0))) (dLst (dA0)) [some (.d B.rig), some (.d (iD x)), some (.d (ND cs)), none, none, none, none, none, none] M = some (.nx [some (.d B.rig), some (.d (iD x)), some (.d (ND cs)), some (.d (ND (List.range (endE B x + 1)))), some (.loc M.length), none, none, none, none] (stV B x M [])) := by
    have t1 : dLst dA0 [some (.d B.rig), some (.d (iD x)), some (.d (ND cs)), none, none, none, none, none, none] M = some (.nl [], M) := by
      simp only [x_dLst, x_dA0, obs, x_allD0]
      rfl
    simp only [x_sPar, x_valm, x_dCall, x_dA1, x_dA0, x_val, x_dVar, List.getElem?_cons_zero, List.getElem?_cons_succ, obs, x_settle1, List.length_cons, List.length_nil, if_true, e1, x_stl1, t1, x_stl2t, List.set_cons_zero, List.set_cons_succ]
    rfl
  have s2 : dRg1 (dA1 (dBin false fAdd (dCB true fLen (dA1 (dVar 2) dA0)) (dC (.int 1))) dA0) [some (.d B.rig), some (.d (iD x)), some (.d (ND cs)), some (.d (ND (List.range (endE B x + 1)))), some (.loc M.length), some (.d (iD 0)), none, none, none] (stV B x M []) = some ((List.range' 0 (cs.length + 1)).map fun i => (iD i, true), stV B x M []) := by
    have t0 : dCB true fLen (dA1 (dVar 2) dA0) [some (.d B.rig), some (.d (iD x)), some (.d (ND cs)), some (.d (ND (List.range (endE B x + 1)))), some (.loc M.length), some (.d (iD 0)), none, none, none] (stV B x M []) = dR (.int ((cs.map iD).length : Int)) (stV B x M []) := rfl
    have t1 : rgUp 0 (cs.length + 1) = (List.range' 0 (cs.length + 1)).map fun i => (iD i, true) := by
      rw [rg0, List.range_eq_range']
      unfold okI
      rw [List.map_map]
      rfl
    rw [← t1]
    simp only [x_dRg1, x_dA1, x_dA0, x_val, x_dBin, x_dC, t0, obs, x_settle1, x_lkf, x_rd1, x_fAddI, x_rint, h4, hs, if_true]
    rfl
  have e0 : b_law_sees (CP (k + 1)) (CM (k + 1)) = sSeq (sPar 3 4 false true (dCall 2 (CP (k + 1) i_law_due_walk) (dA1 (dVar 0) (dA1 (dVar 1) dA0))) (dLst (dA0))) (sSeq (sSet 5 false (dC (.int 0))) (sSeq (sFor (dRg1 (dA1 (dBin false fAdd (dCB true fLen (dA1 (dVar 2) dA0)) (dC (.int 1))) dA0)) (.nm 6) turnV) (sSeq (sRet (dCB false fTuple (dA1 (dVar 4) dA0))) sNil))) := rfl
  rw [c_law_sees]
  unfold runFn
  rw [e0, show env0 9 [Val.d B.rig, .d (iD x), .d (ND cs)] = [some (.d B.rig), some (.d (iD x)), some (.d (ND cs)), none, none, none, none, none, none] from rfl]
  rw [x_sSeq, s1, obs, x_seqK1, x_sSeq]
  rw [show sSet 5 false (dC (.int 0)) [some (.d B.rig), some (.d (iD x)), some (.d (ND cs)), some (.d (ND (List.range (endE B x + 1)))), some (.loc M.length), none, none, none, none] (stV B x M []) = some (.nx [some (.d B.rig), some (.d (iD x)), some (.d (ND cs)), some (.d (ND (List.range (endE B x + 1)))), some (.loc M.length), some (.d (iD 0)), none, none, none] (stV B x M [])) from rfl]
  rw [obs, x_seqK1, x_sSeq, x_sFor, s2, obs, e2, obs, x_seqK2]
  exact endT hM e3 _
end
end PV

set_option maxRecDepth 100000
set_option maxHeartbeats 1000000
/-! the parts of the law itself -/
namespace PV
open PySem
/-- drawn numbers in a row -/
theorem comp_take (k t p : Nat) (ht : 1 ≤ t) (ht2 : t < 1000000) (tt te : Den) (ρ : Env) (i : Nat) (h1 : ∀ v S, tt (ρ.set i v) S = dR (.bool true) S) (h2 : ∀ v S, te (ρ.set i v) S = CP (k + 1) i_law_take [.loc p, .d (iD t)] S) : ∀ (l : List Nat) (S : Sto) (acc : List Nat), Pool S p → acc.length + l.length ≤ 1000 →
    ∃ (cs : List Nat) (S' : Sto), cs.length = l.length ∧ (∀ c ∈ cs, c < t) ∧ Same p S S' ∧ compGo (.nm i) tt te ρ (okI (l.map iD)) S (acc.map iD) = some ((acc ++ cs).map iD, S')
  | [], S, acc, hp, _ => ⟨[], S, rfl, by simp, Same.refl hp, by simp [okI, compGo]⟩
  | a :: l, S, acc, hp, hz => by
    rw [List.length_cons] at hz
    obtain ⟨r, S1, hr, s1, e1⟩ := L_take k t p S hp ht ht2
    obtain ⟨cs, S2, g1, g2, s2, e2⟩ := comp_take k t p ht ht2 tt te ρ i h1 h2 l S1 (acc ++ [r]) (s1.pool hp) (by rw [List.length_append, List.length_singleton]; omega)
    refine ⟨r :: cs, S2, by simp [g1], fun c hc => ?_, s1.trans s2, ?_⟩
    · rcases List.mem_cons.mp hc with rfl | hc
      · exact hr
      · exact g2 c hc
    · show ((tt (ρ.set i (some (.d (iD a)))) S).bind _) = _
      rw [h1]
      show ((val te (ρ.set i (some (.d (iD a)))) S).bind _) = _
      unfold val
      rw [h2, e1]
      show (if (acc.map iD).length < big then compGo (.nm i) tt te ρ (okI (l.map iD)) S1 (acc.map iD ++ [iD r]) else none) = _
      rw [if_pos (by rw [List.length_map]; exact Nat.lt_of_le_of_lt (by omega : acc.length ≤ 1000) (by decide))]
      rw [List.map_append] at e2
      rw [show (acc ++ r :: cs) = acc ++ [r] ++ cs by simp]
      exact e2
section
variable {B : Bk}
theorem pureS_len (E : Nat) : ∀ (cs : List Nat) (p : Nat), p ≤ E → (pureS E p cs).length ≤ (cs.length + 1) * (E + 1) ∧ ∀ g ∈ pureS E p cs, g ≤ E
  | [], p, h => by
    refine ⟨?_, fun g hg => ?_⟩
    · show (List.range' p (E - p + 1)).length ≤ _
      rw [List.length_range']
      simp
    · have hg' : g ∈ List.range' p (E - p + 1) := hg
      rw [List.mem_range'_1] at hg'
      omega
  | c :: cs, p, h => by
    rw [pureS_cons]
    by_cases hc : c < 2 * (E - p) + 2
    · rw [if_pos hc]
      obtain ⟨h1, h2⟩ := pureS_len E cs (p + c / 2) (by omega)
      refine ⟨?_, fun g hg => ?_⟩
      · rw [List.length_append, List.length_range', List.length_cons, Nat.add_mul (cs.length + 1) 1 (E + 1)]
        omega
      · rcases List.mem_append.mp hg with hg | hg
        · rw [List.mem_range'_1] at hg; omega
        · exact h2 g hg
    · rw [if_neg hc]
      refine ⟨?_, fun g hg => ?_⟩
      · rw [List.length_range', List.length_cons, Nat.add_mul (cs.length + 1) 1 (E + 1)]
        omega
      · rw [List.mem_range'_1] at hg
        omega
theorem cut_pl (ok : B.Ok) (x : Nat) (cs : List Nat) (hz : cs.length ≤ 2) : PL [3, 200, 2] (.tuple [ND (List.range (endE B x + 1)), iD (x % B.q), jourD B x (pureS (endE B x) 0 cs)]) = true := by
  have h24 := ok.n24
  have hE : endE B x ≤ 23 := by unfold endE; omega
  obtain ⟨h1, h2⟩ := pureS_len (endE B x) cs 0 (Nat.zero_le _)
  have h3 : (cs.length + 1) * (endE B x + 1) ≤ 3 * 24 := Nat.mul_le_mul (by omega) (by omega)
  rw [pl3, plND [2] (by rw [List.length_range]; omega) (fun y hy => by have := List.mem_range.mp hy; omega), plN [200, 2] (mod_lt ok x)]
  show (PL [200, 2] (jourD B x (pureS (endE B x) 0 cs))) = true
  unfold PL
  rw [Bool.and_eq_true, decide_eq_true_eq, List.all_eq_true]
  refine ⟨by rw [List.length_map]; omega, fun d hd => ?_⟩
  obtain ⟨g, hg, rfl⟩ := List.mem_map.mp hd
  have := h2 g hg
  exact plP (Nat.le_refl _) (plN [] (by omega)) (plN [] (by have := sg_le ok g x; omega))
theorem lots_pl (ok : B.Ok) : PL [30, 24] (.tuple (lotsL B (B.n - 1)).reverse) = true := by
  have h24 := ok.n24
  unfold PL
  rw [Bool.and_eq_true, decide_eq_true_eq, List.all_eq_true]
  unfold lotsL
  refine ⟨by rw [List.length_reverse, List.length_map, List.length_range]; omega, fun d hd => ?_⟩
  rw [List.mem_reverse] at hd
  obtain ⟨j, _, rfl⟩ := List.mem_map.mp hd
  exact lot_pl ok (lot_len ok j) lot_lt []
theorem code_pl (ok : B.Ok) : PL (100 :: rN) (.tuple (codeL B (B.n - 1))) = true := by
  have h24 := ok.n24
  have h2 := ok.n2
  have h := codeL_ok ok (B.n - 1) (by omega)
  have h1 := h.len
  have h3 := h.pl ok (by omega)
  unfold PL
  rw [Bool.and_eq_true, decide_eq_true_eq, List.all_eq_true]
  exact ⟨by omega, h3⟩
end
end PV

set_option maxRecDepth 100000
set_option maxHeartbeats 1000000
/-! the law -/
namespace PV
open PySem
section
variable {f g c : Den} {b : DenS} {ρ : Env} {M M1 M2 : Sto}
theorem or_ff (h1 : f ρ M = dR (.bool false) M1) (h2 : g ρ M1 = dR (.bool false) M2) : dOr f g ρ M = dR (.bool false) M2 := by
  rw [x_dOr, h1]
  exact h2
theorem if_ff (h : c ρ M = dR (.bool false) M1) : sIf c b sNil ρ M = some (.nx ρ M1) := by
  rw [x_sIf, h]
  rfl
theorem is_true (h : f ρ M = dR (.bool true) M1) : dBin false (fIs true) f (dC (.bool true)) ρ M = dR (.bool false) M1 := by
  simp [h]
theorem reprInt {i : Int} (hf : f ρ M = dR (.int i) M1) (hi : decide (i.natAbs.log2 < 1920) = true) : dCB false fRepr (dA1 f dA0) ρ M = dR (.str (toString i)) M1 := by
  have h : fRepr [.int i] = dv (.str (toString i)) := by
    show (if decide (i.natAbs.log2 < 1920) = true then dv (.str (toString i)) else none) = _
    rw [if_pos hi]
  simp only [x_dCB, x_dA1, x_dA0, x_val, hf, obs, x_settle1, x_lkf, x_rds1, x_rds0, x_rd1, h, x_dv]
theorem reprIntNe {i : Int} (hf : f ρ M = dR (.int i) M1) (hg : g ρ M1 = dR (.int i) M2) (hi : decide (i.natAbs.log2 < 1920) = true) : dBin true fNe (dCB false fRepr (dA1 f dA0)) (dCB false fRepr (dA1 g dA0)) ρ M = dR (.bool false) M2 := by
  rw [bin_str (reprInt hf hi) (reprInt hg hi), strNe]
  rfl
theorem call1 {cp : Fun} {x : Val} {r : PyData} (h1 : val f ρ M = some (x, M1)) (h : cp [x] M1 = dR r M2) : dCall 1 cp (dA1 f dA0) ρ M = dR r M2 := by
  simp only [x_dCall, x_dA1, x_dA0, h1, obs, List.length_cons, List.length_nil, if_true, h]
end
section
variable {B : Bk}
abbrev eL (B : Bk) (s : Val) (a8 a9 a10 a11 a12 : Option Val) : Env := [some s, some (.loc 0), some (.loc 1), some (.d B.book), some (.d B.rig), some (.d (stD B)), some (.d (iD B.n)), some (.d (.tuple (codeL B (B.n - 1)))), a8, a9, a10, a11, a12]
def l1 (K : Nat) : DenS := sPar 1 2 true true (dCall 2 (CP K i_law_pool) (dA1 (dVar 0) (dA1 (dC (.int 0)) dA0))) (dCall 2 (CP K i_law_pool) (dA1 (dVar 0) (dA1 (dC (.int 1)) dA0)))
def l2 (K : Nat) : DenS := sSet 3 false (dCall 1 (CP K i_law_row_book) (dA1 (dVar 1) dA0))
def l3 (K : Nat) : DenS := sPar 4 5 false false (dIdx (dVar 3) (dC (.int 0))) (dTup (dA1 (dCall 1 (CP K i_law_all) (dA1 (dIdx (dVar 3) (dC (.int 0))) dA0)) (dA1 (dC (.int 0)) dA0)))
def l4 (K : Nat) : DenS := sPar 6 7 false false (dIdx (dVar 4) (dC (.int 0))) (dCall 1 (CP K i_law_due_code) (dA1 (dVar 4) dA0))
def rF : DenS := sSeq (sRet (dC (.bool false))) sNil
def l5 (K : Nat) : DenS := sIf (dOr (dBin true fNe (dCB false fRepr (dA1 (dCall 2 (CP K i_code_for) (dA1 (dVar 3) (dA1 (dVar 5) dA0))) dA0)) (dCB false fRepr (dA1 (dVar 7) dA0))) (dBin false (fIs true) (dCall 1 (CP K i_solvable) (dA1 (dVar 3) dA0)) (dC (.bool true)))) rF sNil
def l6 (K : Nat) : DenS := sIf (dOr (dBin false (fIs true) (dCall 3 (CP K i_code_right) (dA1 (dVar 3) (dA1 (dVar 7) (dA1 (dVar 5) dA0)))) (dC (.bool true))) (dBin true fNe (dCB false fRepr (dA1 (dCall 1 (CP K i_trips) (dA1 (dVar 3) dA0)) dA0)) (dCB false fRepr (dA1 (dBin false fSub (dVar 6) (dC (.int 1))) dA0)))) rF sNil
def l7 (K : Nat) : DenS := sIf (dBin true fNe (dCB false fRepr (dA1 (dCall 1 (CP K i_chain) (dA1 (dVar 3) dA0)) dA0)) (dCB false fRepr (dA1 (dRev (dSlice (dCall 2 (CP K i_law_due_course) (dA1 (dVar 4) (dA1 (dBin false fSub (dVar 6) (dC (.int 2))) dA0))) none (some (dBin false fSub (dVar 6) (dC (.int 1)))))) dA0))) rF sNil
def l8 (K : Nat) : DenS := sSet 8 false (dIf (dBin false fLt (dVar 6) (dC (.int 12))) (dLc (dRg1 (dA1 (dVar 6) dA0)) (.nm 9) (dC (.bool true)) (dVar 9) [9]) (dSlice (dCall 2 (CP K i_law_mixed) (dA1 (dVar 1) (dA1 (dLc (dRg1 (dA1 (dVar 6) dA0)) (.nm 9) (dC (.bool true)) (dVar 9) [9]) dA0))) none (some (dC (.int 4)))))
def l9 (K : Nat) : DenS := sIf (dBin true fNe (dLc (dIter (dVar 8)) (.nm 9) (dNot (dCall 3 (CP K i_law_fault_right) (dA1 (dVar 3) (dA1 (dVar 7) (dA1 (dVar 9) dA0))))) (dVar 9) [9]) (dLst (dA0))) rF sNil
def l10 (K : Nat) : DenS := sSet 9 false (dCall 2 (CP K i_law_one) (dA1 (dVar 1) (dA1 (dVar 8) dA0)))
def l11 (K : Nat) : DenS := sSet 10 false (dCB false fTuple (dA1 (dLc (dRg1 (dA1 (dCall 2 (CP K i_law_take) (dA1 (dVar 2) (dA1 (dC (.int 3)) dA0))) dA0)) (.nm 11) (dC (.bool true)) (dCall 2 (CP K i_law_take) (dA1 (dVar 2) (dA1 (dBin false fAdd (dBin false fMul (dC (.int 2)) (dVar 6)) (dC (.int 2))) dA0))) [11]) dA0))
def l12 (K : Nat) : DenS := sSet 12 false (dTup (dA1 (dCall 2 (CP K i_law_due_walk) (dA1 (dVar 4) (dA1 (dVar 9) dA0))) (dA1 (dIdx (dIdx (dIdx (dVar 4) (dC (.int 2))) (dVar 9)) (dC (.int 0))) (dA1 (dCall 3 (CP K i_law_sees) (dA1 (dVar 4) (dA1 (dVar 9) (dA1 (dVar 10) dA0)))) dA0))))
def l13 (K : Nat) : DenS := sRet (dBin true fEq (dCB false fRepr (dA1 (dCall 4 (CP K i_run_cut) (dA1 (dVar 3) (dA1 (dVar 7) (dA1 (dVar 9) (dA1 (dVar 10) dA0))))) dA0)) (dCB false fRepr (dA1 (dVar 12) dA0)))
theorem e_l (K : Nat) : b_law (CP K) (CM K) = sSeq (l1 K) (sSeq (l2 K) (sSeq (l3 K) (sSeq (l4 K) (sSeq (l5 K) (sSeq (l6 K) (sSeq (l7 K) (sSeq (l8 K) (sSeq (l9 K) (sSeq (l10 K) (sSeq (l11 K) (sSeq (l12 K) (sSeq (l13 K) sNil)))))))))))) := rfl
theorem l5_ok (ok : B.Ok) (k : Nat) (s : Val) (M : Sto) (hM : Cl M) (a8 a9 a10 a11 a12 : Option Val) : l5 (k + 74) (eL B s a8 a9 a10 a11 a12) M = some (.nx (eL B s a8 a9 a10 a11 a12) M) := by
  have e1 := L_code_for ok (k + 3) M hM
  have e2 := L_solvable ok (k + 12) M hM
  have f1 : dCall 2 (CP (k + 74) i_code_for) (dA1 (dVar 3) (dA1 (dVar 5) dA0)) (eL B s a8 a9 a10 a11 a12) M = dR (.tuple (codeL B (B.n - 1))) M := by
    simp only [x_dCall, x_dA1, x_dA0, x_val, x_dVar, List.getElem?_cons_zero, List.getElem?_cons_succ, obs, x_settle1, List.length_cons, List.length_nil, if_true, e1]
  have f2 : dVar 7 (eL B s a8 a9 a10 a11 a12) M = dR (.tuple (codeL B (B.n - 1))) M := rfl
  have f3 : dCall 1 (CP (k + 74) i_solvable) (dA1 (dVar 3) dA0) (eL B s a8 a9 a10 a11 a12) M = dR (.bool true) M := call1 (x := .d B.book) (M1 := M) rfl e2
  exact if_ff (or_ff (reprNe f1 f2 (code_pl ok) (by decide) (by decide)) (is_true f3))
theorem l6_ok (ok : B.Ok) (k : Nat) (s : Val) (M : Sto) (hM : Cl M) (a8 a9 a10 a11 a12 : Option Val) : l6 (k + 74) (eL B s a8 a9 a10 a11 a12) M = some (.nx (eL B s a8 a9 a10 a11 a12) M) := by
  have h24 := ok.n24
  have h2 := ok.n2
  have e1 := L_code_right ok (k + 64) M hM
  have e2 := L_trips ok (k + 64) M hM
  have f1 : dCall 3 (CP (k + 74) i_code_right) (dA1 (dVar 3) (dA1 (dVar 7) (dA1 (dVar 5) dA0))) (eL B s a8 a9 a10 a11 a12) M = dR (.bool true) M := by
    simp only [x_dCall, x_dA1, x_dA0, x_val, x_dVar, List.getElem?_cons_zero, List.getElem?_cons_succ, obs, x_settle1, List.length_cons, List.length_nil, if_true, e1]
  have f2 : dCall 1 (CP (k + 74) i_trips) (dA1 (dVar 3) dA0) (eL B s a8 a9 a10 a11 a12) M = dR (.int ((B.n : Int) - 1)) M := call1 (x := .d B.book) (M1 := M) rfl e2
  have f3 : dBin false fSub (dVar 6) (dC (.int 1)) (eL B s a8 a9 a10 a11 a12) M = dR (.int ((B.n : Int) - 1)) M := by
    simp only [x_dBin, x_val, x_dVar, x_dC, List.getElem?_cons_zero, List.getElem?_cons_succ, obs, x_settle1, x_lkf, x_rd1, x_fSub, x_rint]
  have hi : decide (((B.n : Int) - 1).natAbs.log2 < 1920) = true := by
    rw [show (B.n : Int) - 1 = ((B.n - 1 : Nat) : Int) by omega]
    exact (int_len (B.n - 1) (by omega)).2
  exact if_ff (or_ff (is_true f1) (reprIntNe f2 f3 hi))
theorem l7_ok (ok : B.Ok) (k : Nat) (s : Val) (M : Sto) (hM : Cl M) (a8 a9 a10 a11 a12 : Option Val) : l7 (k + 74) (eL B s a8 a9 a10 a11 a12) M = some (.nx (eL B s a8 a9 a10 a11 a12) M) := by
  have h24 := ok.n24
  have h2 := ok.n2
  have e1 := L_chain ok (k + 64) M hM
  have e2 := L_due_course ok (k + 73) (B.n - 2) M hM (by omega)
  have h3 : (B.n : Int) - 2 = ((B.n - 2 : Nat) : Int) := by omega
  have h4 : (B.n : Int) - 1 = ((B.n - 1 : Nat) : Int) := by omega
  have f1 : dCall 1 (CP (k + 74) i_chain) (dA1 (dVar 3) dA0) (eL B s a8 a9 a10 a11 a12) M = dR (.tuple (lotsL B (B.n - 1)).reverse) M := call1 (x := .d B.book) (M1 := M) rfl e1
  have f2 : dCall 2 (CP (k + 74) i_law_due_course) (dA1 (dVar 4) (dA1 (dBin false fSub (dVar 6) (dC (.int 2))) dA0)) (eL B s a8 a9 a10 a11 a12) M = dR (.tuple (courseL B (B.n - 2))) M := by
    simp only [x_dCall, x_dA1, x_dA0, x_val, x_dBin, x_dVar, x_dC, List.getElem?_cons_zero, List.getElem?_cons_succ, obs, x_settle1, x_lkf, x_rd1, x_fSub, x_rint, h3, List.length_cons, List.length_nil, if_true, e2]
  have f3 : dSlice (dCall 2 (CP (k + 74) i_law_due_course) (dA1 (dVar 4) (dA1 (dBin false fSub (dVar 6) (dC (.int 2))) dA0))) none (some (dBin false fSub (dVar 6) (dC (.int 1)))) (eL B s a8 a9 a10 a11 a12) M = dR (.tuple (lotsL B (B.n - 1))) M := by
    have h5 : cutD (courseL B (B.n - 2)) none (some ((B.n - 1 : Nat) : Int)) = lotsL B (B.n - 1) := by
      rw [cut_take, lots_take ok, List.take_left' (by unfold lotsL; rw [List.length_map, List.length_range])]
    rw [x_dSlice, x_val, f2]
    simp only [obs, x_settle1, x_dPart0, x_dPart1, x_val, x_dBin, x_dVar, x_dC, List.getElem?_cons_zero, List.getElem?_cons_succ, x_lkf, x_rd1, x_fSub, x_rint, h4, x_asI, h5]
  have f4 : dRev (dSlice (dCall 2 (CP (k + 74) i_law_due_course) (dA1 (dVar 4) (dA1 (dBin false fSub (dVar 6) (dC (.int 2))) dA0))) none (some (dBin false fSub (dVar 6) (dC (.int 1))))) (eL B s a8 a9 a10 a11 a12) M = dR (.tuple (lotsL B (B.n - 1)).reverse) M := by
    rw [x_dRev, x_val, f3]
    simp only [obs, x_settle1, x_rd1]
  exact if_ff (reprNe f1 f4 (lots_pl ok) (by decide) (by decide))
theorem l8_ok (ok : B.Ok) (k : Nat) (s : Val) (M : Sto) (hM : Cl M) (hp : Pool M 0) (a8 a9 a10 a11 a12 : Option Val) : ∃ (fs : List Nat) (M' : Sto), Same 0 M M' ∧ 1 ≤ fs.length ∧ fs.length ≤ 100 ∧ (∀ x ∈ fs, x < B.n) ∧ l8 (k + 74) (eL B s a8 a9 a10 a11 a12) M = some (.nx (eL B s (some (.d (.list (fs.map iD)))) a9 a10 a11 a12) M') := by
  have h24 := ok.n24
  have h2 := ok.n2
  have hs := small_nat (n := B.n) (by omega)
  have f1 : dLc (dRg1 (dA1 (dVar 6) dA0)) (.nm 9) (dC (.bool true)) (dVar 9) [9] (eL B s a8 a9 a10 a11 a12) M = some (.nl ((List.range B.n).map iD), M) := lcM (List.range B.n) iD iD (by
    simp only [x_dRg1, x_dA1, x_dA0, x_val, x_dVar, List.getElem?_cons_zero, List.getElem?_cons_succ, obs, x_settle1, hs, if_true]
    rw [show ((B.n : Int)).toNat = B.n from rfl, rg0]) (by rw [List.length_range]; exact Nat.le_trans h24 (by decide)) (fun x hx => by simp)
  by_cases h : B.n < 12
  · refine ⟨List.range B.n, M, Same.refl hp, by rw [List.length_range]; omega, by rw [List.length_range]; omega, fun x hx => List.mem_range.mp hx, ?_⟩
    have h3 : decide ((B.n : Int) < 12) = true := decide_eq_true (by omega)
    have f2 : dIf (dBin false fLt (dVar 6) (dC (.int 12))) (dLc (dRg1 (dA1 (dVar 6) dA0)) (.nm 9) (dC (.bool true)) (dVar 9) [9]) (dSlice (dCall 2 (CP (k + 74) i_law_mixed) (dA1 (dVar 1) (dA1 (dLc (dRg1 (dA1 (dVar 6) dA0)) (.nm 9) (dC (.bool true)) (dVar 9) [9]) dA0))) none (some (dC (.int 4)))) (eL B s a8 a9 a10 a11 a12) M = some (.nl ((List.range B.n).map iD), M) := by
      simp only [x_dIf, x_dBin, x_val, x_dVar, x_dC, List.getElem?_cons_zero, List.getElem?_cons_succ, obs, x_settle1, x_lkf, x_rd1, x_fLt, h3, x_rbl, x_asB, if_true, f1]
    unfold l8
    rw [x_sSet, x_valm, f2]
    rfl
  · obtain ⟨l', M', hperm, hsame, e1⟩ := L_mixed (k + 72) 0 M hM hp (List.range B.n) (by rw [List.length_range]; omega)
    have hlen : l'.length = B.n := by rw [hperm.length_eq, List.length_range]
    refine ⟨l'.take 4, M', hsame, by rw [List.length_take]; omega, by rw [List.length_take]; omega, fun x hx => List.mem_range.mp (hperm.mem_iff.mp (List.mem_of_mem_take hx)), ?_⟩
    have h3 : decide ((B.n : Int) < 12) = false := decide_eq_false (by omega)
    have h4 : cutD (l'.map iD) none (some (4 : Int)) = (l'.take 4).map iD := by
      have := cut_take (l'.map iD) 4
      rw [List.map_take]
      exact this
    have f2 : dIf (dBin false fLt (dVar 6) (dC (.int 12))) (dLc (dRg1 (dA1 (dVar 6) dA0)) (.nm 9) (dC (.bool true)) (dVar 9) [9]) (dSlice (dCall 2 (CP (k + 74) i_law_mixed) (dA1 (dVar 1) (dA1 (dLc (dRg1 (dA1 (dVar 6) dA0)) (.nm 9) (dC (.bool true)) (dVar 9) [9]) dA0))) none (some (dC (.int 4)))) (eL B s a8 a9 a10 a11 a12) M = some (.nl ((l'.take 4).map iD), M') := by
      simp only [x_dIf, x_dBin, x_dSlice, x_dPart0, x_dPart1, x_dCall, x_dA1, x_dA0, x_val, x_dVar, x_dC, List.getElem?_cons_zero, List.getElem?_cons_succ, obs, x_settle1, x_settle2, x_lkf, x_rd1, x_fLt, h3, x_rbl, x_asB, Bool.false_eq_true, if_false, f1, List.length_cons, List.length_nil, if_true, e1, x_asI, h4]
    unfold l8
    rw [x_sSet, x_valm, f2]
    rfl
theorem l9_ok (ok : B.Ok) (k : Nat) (s : Val) (M : Sto) (hM : Cl M) (fs : List Nat) (hz : fs.length ≤ 100) (hfs : ∀ x ∈ fs, x < B.n) (a9 a10 a11 a12 : Option Val) : l9 (k + 74) (eL B s (some (.d (.list (fs.map iD)))) a9 a10 a11 a12) M = some (.nx (eL B s (some (.d (.list (fs.map iD)))) a9 a10 a11 a12) M) := by
  have f1 : dLc (dIter (dVar 8)) (.nm 9) (dNot (dCall 3 (CP (k + 74) i_law_fault_right) (dA1 (dVar 3) (dA1 (dVar 7) (dA1 (dVar 9) dA0))))) (dVar 9) [9] (eL B s (some (.d (.list (fs.map iD)))) a9 a10 a11 a12) M = some (.nl ((fs.filter fun _ => false).map iD), M) := lcF fs iD (fun _ => false) iD (by
    simp only [x_dIter, x_val, x_dVar, List.getElem?_cons_zero, List.getElem?_cons_succ, obs, x_settle1, x_iter1]) (Nat.le_trans hz (by decide)) (fun x hx => by
    have e1 := L_fault_right ok (k + 63) x M hM (hfs x hx)
    simp only [x_dNot, x_dCall, x_dA1, x_dA0, x_val, x_dVar, x_wipe0, x_wipe1, List.set_cons_zero, List.set_cons_succ, List.getElem?_cons_zero, List.getElem?_cons_succ, obs, x_settle1, List.length_cons, List.length_nil, if_true, e1, x_asB]
    rfl) (fun x hx hp => by cases hp)
  have h0 : fs.filter (fun _ => false) = [] := by simp
  rw [h0] at f1
  have f2 : dLst dA0 (eL B s (some (.d (.list (fs.map iD)))) a9 a10 a11 a12) M = some (.nl [], M) := by
    simp only [x_dLst, x_dA0, obs, x_allD0]
    rfl
  have f3 := (fNeE (l := []) (by simp)).2.2.1
  have f4 : dBin true fNe (dLc (dIter (dVar 8)) (.nm 9) (dNot (dCall 3 (CP (k + 74) i_law_fault_right) (dA1 (dVar 3) (dA1 (dVar 7) (dA1 (dVar 9) dA0))))) (dVar 9) [9]) (dLst (dA0)) (eL B s (some (.d (.list (fs.map iD)))) a9 a10 a11 a12) M = dR (.bool false) M := by
    simp only [x_dBin, x_val, f1, f2, obs, x_settle2, x_lkt, x_rdw1, x_rd1, f3]
    rfl
  exact if_ff f4
theorem l10_ok (ok : B.Ok) (k : Nat) (s : Val) (M : Sto) (hp : Pool M 0) (fs : List Nat) (h1 : 1 ≤ fs.length) (hz : fs.length ≤ 100) (hfs : ∀ x ∈ fs, x < B.n) (a9 a10 a11 a12 : Option Val) : ∃ (x : Nat) (M' : Sto), x < B.n ∧ Same 0 M M' ∧ l10 (k + 74) (eL B s (some (.d (.list (fs.map iD)))) a9 a10 a11 a12) M = some (.nx (eL B s (some (.d (.list (fs.map iD)))) (some (.d (iD x))) a10 a11 a12) M') := by
  obtain ⟨r, M', hr, hs, e1⟩ := L_one (k + 72) 0 M hp (fs.map iD) (by rw [List.length_map]; exact h1) (by rw [List.length_map]; omega)
  have hr' : r < fs.length := by rwa [List.length_map] at hr
  rw [List.getElem_map] at e1
  refine ⟨fs[r], M', hfs _ (List.getElem_mem _), hs, ?_⟩
  unfold l10
  simp only [x_sSet, x_valm, x_dCall, x_dA1, x_dA0, x_val, x_dVar, List.getElem?_cons_zero, List.getElem?_cons_succ, obs, x_settle1, List.length_cons, List.length_nil, if_true, e1, x_stl1, List.set_cons_zero, List.set_cons_succ]
theorem l11_ok (ok : B.Ok) (k : Nat) (s : Val) (M : Sto) (hp : Pool M 1) (a8 a9 a10 a12 : Option Val) : ∃ (cs : List Nat) (M' : Sto), cs.length ≤ 2 ∧ (∀ c ∈ cs, c ≤ 5000) ∧ Same 1 M M' ∧ l11 (k + 74) (eL B s a8 a9 a10 none a12) M = some (.nx (eL B s a8 a9 (some (.d (ND cs))) none a12) M') := by
  have h24 := ok.n24
  obtain ⟨r, M1, hr, s1, e1⟩ := L_take (k + 73) 3 1 M hp (by omega) (by omega)
  have e1' : CP (k + 74) i_law_take [.loc 1, .d (.int 3)] M = dR (iD r) M1 := e1
  have hsr := small_nat (n := r) (by omega)
  have m2 : (mulOk 2 || mulOk (B.n : Int)) = true := by rw [show mulOk 2 = true by decide +kernel]; rfl
  have h3 : 2 * (B.n : Int) + 2 = ((2 * B.n + 2 : Nat) : Int) := by omega
  obtain ⟨cs, M2, g1, g2, s2, e2⟩ := comp_take (k + 73) (2 * B.n + 2) 1 (by omega) (by omega) (dC (.bool true)) (dCall 2 (CP (k + 74) i_law_take) (dA1 (dVar 2) (dA1 (dBin false fAdd (dBin false fMul (dC (.int 2)) (dVar 6)) (dC (.int 2))) dA0))) (eL B s a8 a9 a10 none a12) 11 (fun v S => rfl) (fun v S => by
    simp only [x_dCall, x_dA1, x_dA0, x_val, x_dBin, x_dVar, x_dC, List.set_cons_zero, List.set_cons_succ, List.getElem?_cons_zero, List.getElem?_cons_succ, obs, x_settle1, x_lkf, x_rd1, fMul_c m2, x_rint, x_fAddI, h3, List.length_cons, List.length_nil, if_true]) (List.range r) M1 [] (s1.pool hp) (by simp; omega)
  refine ⟨cs, M2, by rw [g1, List.length_range]; omega, fun c hc => by have := g2 c hc; omega, s1.trans s2, ?_⟩
  have f0 : dRg1 (dA1 (dCall 2 (CP (k + 74) i_law_take) (dA1 (dVar 2) (dA1 (dC (.int 3)) dA0))) dA0) (eL B s a8 a9 a10 none a12) M = some (okI ((List.range r).map iD), M1) := by
    rw [← rg0]
    simp only [x_dRg1, x_dCall, x_dA1, x_dA0, x_val, x_dVar, x_dC, List.getElem?_cons_zero, List.getElem?_cons_succ, obs, x_settle1, List.length_cons, List.length_nil, if_true, e1', hsr]
    rfl
  have f1 : dLc (dRg1 (dA1 (dCall 2 (CP (k + 74) i_law_take) (dA1 (dVar 2) (dA1 (dC (.int 3)) dA0))) dA0)) (.nm 11) (dC (.bool true)) (dCall 2 (CP (k + 74) i_law_take) (dA1 (dVar 2) (dA1 (dBin false fAdd (dBin false fMul (dC (.int 2)) (dVar 6)) (dC (.int 2))) dA0))) [11] (eL B s a8 a9 a10 none a12) M = some (.nl (cs.map iD), M2) := by
    unfold dLc
    rw [f0]
    show ((compGo (.nm 11) _ _ (wipeE (eL B s a8 a9 a10 none a12) [11]) (okI ((List.range r).map iD)) M1 []).bind _) = _
    rw [show wipeE (eL B s a8 a9 a10 none a12) [11] = eL B s a8 a9 a10 none a12 from rfl, show ([] : List PyData) = ([] : List Nat).map iD from rfl, e2]
    rfl
  unfold l11
  rw [x_sSet, x_valm, cbTup f1]
  rfl
theorem l12_ok (ok : B.Ok) (k x : Nat) (cs : List Nat) (hz : cs.length ≤ 2) (s : Val) (M : Sto) (hM : Cl M) (hx : x < B.n) (a8 a11 a12 : Option Val) : l12 (k + 74) (eL B s a8 (some (.d (iD x))) (some (.d (ND cs))) a11 a12) M = some (.nx (eL B s a8 (some (.d (iD x))) (some (.d (ND cs))) a11 (some (.d (.tuple [ND (List.range (endE B x + 1)), iD (x % B.q), jourD B x (pureS (endE B x) 0 cs)])))) M) := by
  have h2 := ok.n2
  have e1 := L_due_walk ok (k + 73) x M hx
  rw [show min (x + 2) B.n = endE B x + 1 by unfold endE; omega] at e1
  have e2 := L_sees ok (k + 72) x cs M hM hx (by omega)
  obtain ⟨c1, c2⟩ := cureIdx ok hx
  have f0 : dIdx (dIdx (dIdx (dVar 4) (dC (.int 2))) (dVar 9)) (dC (.int 0)) (eL B s a8 (some (.d (iD x))) (some (.d (ND cs))) a11 a12) M = dR (iD (x % B.q)) M := by
    simp only [x_dIdx, x_val, x_dVar, x_dC, List.getElem?_cons_zero, List.getElem?_cons_succ, obs, x_settle1, x_dct1, x_rdw1, x_rd1, rigI2, x_dv, c1, c2]
  have hb3 : 0 + 1 + 1 + 1 ≤ big := by
    show 3 ≤ big
    decide
  have f1 : dTup (dA1 (dCall 2 (CP (k + 74) i_law_due_walk) (dA1 (dVar 4) (dA1 (dVar 9) dA0))) (dA1 (dIdx (dIdx (dIdx (dVar 4) (dC (.int 2))) (dVar 9)) (dC (.int 0))) (dA1 (dCall 3 (CP (k + 74) i_law_sees) (dA1 (dVar 4) (dA1 (dVar 9) (dA1 (dVar 10) dA0)))) dA0))) (eL B s a8 (some (.d (iD x))) (some (.d (ND cs))) a11 a12) M = dR (.tuple [ND (List.range (endE B x + 1)), iD (x % B.q), jourD B x (pureS (endE B x) 0 cs)]) M := by
    simp only [x_dTup, x_dCall, x_dA1, x_dA0, x_val, x_dVar, f0, List.getElem?_cons_zero, List.getElem?_cons_succ, obs, x_settle1, List.length_cons, List.length_nil, if_true, e1, e2, x_allD1, x_allD0]
    rw [if_pos hb3]
  unfold l12
  rw [x_sSet, x_valm, f1]
  rfl
theorem l13_ok (ok : B.Ok) (k x : Nat) (cs : List Nat) (hz : cs.length ≤ 2) (hc : ∀ c ∈ cs, c ≤ 5000) (s : Val) (M : Sto) (hM : Cl M) (hx : x < B.n) (a8 a11 : Option Val) : l13 (k + 74) (eL B s a8 (some (.d (iD x))) (some (.d (ND cs))) a11 (some (.d (.tuple [ND (List.range (endE B x + 1)), iD (x % B.q), jourD B x (pureS (endE B x) 0 cs)])))) M = some (.ret (.v (.d (.bool true))) M) := by
  have e1 := L_run_cut ok (k + 3) x cs M hM hx (by omega) hc
  have f1 : dCall 4 (CP (k + 74) i_run_cut) (dA1 (dVar 3) (dA1 (dVar 7) (dA1 (dVar 9) (dA1 (dVar 10) dA0)))) (eL B s a8 (some (.d (iD x))) (some (.d (ND cs))) a11 (some (.d (.tuple [ND (List.range (endE B x + 1)), iD (x % B.q), jourD B x (pureS (endE B x) 0 cs)])))) M = dR (.tuple [ND (List.range (endE B x + 1)), iD (x % B.q), jourD B x (pureS (endE B x) 0 cs)]) M := by
    simp only [x_dCall, x_dA1, x_dA0, x_val, x_dVar, List.getElem?_cons_zero, List.getElem?_cons_succ, obs, x_settle1, List.length_cons, List.length_nil, if_true, e1]
  unfold l13
  rw [x_sRet, reprEq f1 (g := dVar 12) (M2 := M) rfl (cut_pl ok x cs hz) (by decide) (by decide)]
  rfl
end
theorem law_true (k : Nat) (xs : List Int) : CP (k + 75) i_law [.scr (xs.map .int)] [] = dR (.bool true) [] := by
  obtain ⟨a, b, e1⟩ := L_pool (k + 73) xs 0 (by omega) []
  obtain ⟨c, d, e2⟩ := L_pool (k + 73) xs 1 (by omega) [.lst [.int a, .int b]]
  have e1' : CP (k + 74) i_law_pool [.scr (xs.map .int), .d (.int 0)] [] = some (.nl [.int a, .int b], []) := e1
  have e2' : CP (k + 74) i_law_pool [.scr (xs.map .int), .d (.int 1)] [.lst [.int a, .int b]] = some (.nl [.int c, .int d], [.lst [.int a, .int b]]) := e2
  have c0 : Cl [Cell.lst [.int a, .int b], .lst [.int c, .int d]] := cl_lst (M := [.lst [.int a, .int b]]) (cl_lst (M := []) cl_nil _) _
  have p0 : Pool [Cell.lst [.int a, .int b], .lst [.int c, .int d]] 0 := ⟨a, b, rfl⟩
  have p1 : Pool [Cell.lst [.int a, .int b], .lst [.int c, .int d]] 1 := ⟨c, d, rfl⟩
  have s1 : l1 (k + 74) [some (.scr (xs.map .int)), none, none, none, none, none, none, none, none, none, none, none, none] [] = some (.nx [some (.scr (xs.map .int)), some (.loc 0), some (.loc 1), none, none, none, none, none, none, none, none, none, none] [.lst [.int a, .int b], .lst [.int c, .int d]]) := by
    unfold l1
    simp only [x_sPar, x_valm, x_dCall, x_dA1, x_dA0, x_val, x_dVar, x_dC, List.getElem?_cons_zero, List.getElem?_cons_succ, obs, x_settle1, List.length_cons, List.length_nil, if_true, e1', x_stl2t, List.nil_append, e2', List.set_cons_zero, List.set_cons_succ]
    rfl
  obtain ⟨B, T1, ok, t1, e3⟩ := L_row_book (k + 70) 0 _ c0 p0
  have c1 := t1.cl c0
  have q0 := t1.pool p0
  have q1 : Pool T1 1 := by
    obtain ⟨u, v, h⟩ := p1
    exact ⟨u, v, by rw [t1.get (by omega)]; exact h⟩
  have s2 : l2 (k + 74) [some (.scr (xs.map .int)), some (.loc 0), some (.loc 1), none, none, none, none, none, none, none, none, none, none] [.lst [.int a, .int b], .lst [.int c, .int d]] = some (.nx [some (.scr (xs.map .int)), some (.loc 0), some (.loc 1), some (.d B.book), none, none, none, none, none, none, none, none, none] T1) := by
    unfold l2
    rw [x_sSet, x_valm, call1 (x := .loc 0) (M1 := [.lst [.int a, .int b], .lst [.int c, .int d]]) rfl e3]
    rfl
  have e4 := L_law_all ok (k + 73) T1
  have s3 : l3 (k + 74) [some (.scr (xs.map .int)), some (.loc 0), some (.loc 1), some (.d B.book), none, none, none, none, none, none, none, none, none] T1 = some (.nx [some (.scr (xs.map .int)), some (.loc 0), some (.loc 1), some (.d B.book), some (.d B.rig), some (.d (stD B)), none, none, none, none, none, none, none] T1) := by
    have hb2 : 0 + 1 + 1 ≤ big := by
      show 2 ≤ big
      decide
    have f1 : ∀ a4 : Option Val, dIdx (dVar 3) (dC (.int 0)) [some (.scr (xs.map .int)), some (.loc 0), some (.loc 1), some (.d B.book), a4, none, none, none, none, none, none, none, none] T1 = dR B.rig T1 := fun a4 => by simp only [x_dIdx, x_val, x_dVar, x_dC, List.getElem?_cons_zero, List.getElem?_cons_succ, obs, x_settle1, x_dct1, x_rdw1, x_rd1, bookI0, x_dv]
    have f2 : dTup (dA1 (dCall 1 (CP (k + 74) i_law_all) (dA1 (dIdx (dVar 3) (dC (.int 0))) dA0)) (dA1 (dC (.int 0)) dA0)) [some (.scr (xs.map .int)), some (.loc 0), some (.loc 1), some (.d B.book), none, none, none, none, none, none, none, none, none] T1 = dR (stD B) T1 := by
      simp only [x_dTup, x_dCall, x_dA1, x_dA0, x_val, f1, x_dC, obs, x_settle1, List.length_cons, List.length_nil, if_true, e4, x_allD1, x_allD0]
      rw [if_pos hb2]
    unfold l3
    rw [x_sPar, x_valm, f1]
    simp only [obs, x_stl1, x_valm, f2, List.set_cons_zero, List.set_cons_succ]
  have e5 := L_due_code ok (k + 73) T1 c1
  have s4 : l4 (k + 74) [some (.scr (xs.map .int)), some (.loc 0), some (.loc 1), some (.d B.book), some (.d B.rig), some (.d (stD B)), none, none, none, none, none, none, none] T1 = some (.nx (eL B (.scr (xs.map .int)) none none none none none) T1) := by
    unfold l4
    simp only [x_sPar, x_valm, x_dIdx, x_dCall, x_dA1, x_dA0, x_val, x_dVar, x_dC, List.getElem?_cons_zero, List.getElem?_cons_succ, obs, x_settle1, x_dct1, x_rdw1, x_rd1, rigI0, x_dv, List.length_cons, List.length_nil, if_true, e5, x_stl1, List.set_cons_zero, List.set_cons_succ]
  have s5 := l5_ok ok k (.scr (xs.map .int)) T1 c1 none none none none none
  have s6 := l6_ok ok k (.scr (xs.map .int)) T1 c1 none none none none none
  have s7 := l7_ok ok k (.scr (xs.map .int)) T1 c1 none none none none none
  obtain ⟨fs, T2, t2, g1, g2, g3, s8⟩ := l8_ok ok k (.scr (xs.map .int)) T1 c1 q0 none none none none none
  have c2 := t2.cl c1
  have q0' := t2.pool q0
  have q1' : Pool T2 1 := by
    obtain ⟨u, v, h⟩ := q1
    exact ⟨u, v, by rw [t2.get (by omega)]; exact h⟩
  have s9 := l9_ok ok k (.scr (xs.map .int)) T2 c2 fs g2 g3 none none none none
  obtain ⟨x, T3, hx, t3, s10⟩ := l10_ok ok k (.scr (xs.map .int)) T2 q0' fs g1 g2 g3 none none none none
  have c3 := t3.cl c2
  have q1'' : Pool T3 1 := by
    obtain ⟨u, v, h⟩ := q1'
    exact ⟨u, v, by rw [t3.get (by omega)]; exact h⟩
  obtain ⟨cs, T4, h1, h2, t4, s11⟩ := l11_ok ok k (.scr (xs.map .int)) T3 q1'' (some (.d (.list (fs.map iD)))) (some (.d (iD x))) none none
  have c4 := t4.cl c3
  have s12 := l12_ok ok k x cs h1 (.scr (xs.map .int)) T4 c4 hx (some (.d (.list (fs.map iD)))) none none
  have s13 := l13_ok ok k x cs h1 h2 (.scr (xs.map .int)) T4 c4 hx (some (.d (.list (fs.map iD)))) none
  rw [c_law]
  unfold runFn
  rw [e_l, show env0 13 [Val.scr (xs.map .int)] = [some (.scr (xs.map .int)), none, none, none, none, none, none, none, none, none, none, none, none] from rfl]
  rw [x_sSeq, s1, obs, x_seqK1, x_sSeq, s2, obs, x_seqK1, x_sSeq, s3, obs, x_seqK1, x_sSeq, s4, obs, x_seqK1, x_sSeq, s5, obs, x_seqK1, x_sSeq, s6, obs, x_seqK1, x_sSeq, s7, obs, x_seqK1, x_sSeq, s8, obs, x_seqK1, x_sSeq, s9, obs, x_seqK1, x_sSeq, s10, obs, x_seqK1, x_sSeq, s11, obs, x_seqK1, x_sSeq, s12, obs, x_seqK1, x_sSeq, s13, obs, x_seqK2]
  exact endT (M := []) cl_nil (by simp) _
end PV

set_option maxRecDepth 100000
set_option maxHeartbeats 0
namespace PV
open PySem PySem.Spec PyProof.Rows L2
theorem run (w : World) : HandSHeadRun.RunEq R0 (PySem.W.view R0.prog [131]) hk ob 8000 looseL w := by
  intro os
  kernel_rfl
end PV

set_option maxRecDepth 100000
set_option maxHeartbeats 2000000
/-! the law's def, called -/
namespace PV
open PySem PySem.Spec PyProof.Rows L2
abbrev cW (K : PySem.W.Frag) : Addr := (He.cT K ("wrong_part", none)).1
abbrev pW (K : PySem.W.Frag) : Addr := (He.cT K ("wrong_part", none)).2
abbrev qW : Str := "wrong_part.<locals>.<lambda>"
abbrev spLaw (K : PySem.W.Frag) : Sp := spG K (caOf K) (TIz (pW K) qW []) 1 (CP 75 i_law)
theorem cW_eq (K : PySem.W.Frag) : cdOf K "wrong_part" = cW K := by
  show _ = He.codeOf K ("wrong_part", none)
  unfold cdOf He.codeOf
  rfl
section
variable {P : Program} {w : World} {h : Heap} {K : PySem.W.Frag} {mg : Str → Option Value}
theorem law_fn (X : K.In h) (G : h.Ns mainGlobals mg) (c : He.SaysD hfa hfn K) : mg ("law" : Str) = some (.ref (faOf K i_law)) ∧ ∃ fd : FuncData, (∀ (s : Shared) (u : Value), BindsTo s fd ⟨[u], []⟩ [(("_law_script" : Str), u)]) ∧
    ∀ base : Heap, K.In base → base.Ns mainGlobals mg → LamX.TabB base mg (cW K) (pW K) → FnG P w K mg base noCX 75 (faOf K i_law) fd [("_law_script" : Str)] (spLaw K) := by
  obtain ⟨ft, hft⟩ := ft_ex c
  have T : ∀ z : { Z : ZS // ∀ z ∈ Z, isZ z }, TabOk K mg tab defs (faOf K) ft (caOf K) (TIz (pW K) qW z.1) := fun z => tab_ok X G c hft z.2
  have z0 : { Z : ZS // ∀ z ∈ Z, isZ z } := ⟨[], fun z hz => nomatch hz⟩
  have hl := (T z0).fns ("law" : Str) 100 1 rfl
  have hw := (T z0).fns ("wrong_in" : Str) 6 3 rfl
  obtain ⟨_, _, _, _, ml, _⟩ := hl
  obtain ⟨_, _, _, _, mw, kw⟩ := hw
  have hbd : ∀ (s : Shared) (u : Value), BindsTo s (ft i_law) ⟨[u], []⟩ [(("_law_script" : Str), u)] := by
    obtain ⟨e, he, hm, ⟨h1, h2, h3, h4⟩, ho⟩ := hf_at (i := i_law) (d := d_law) rfl
    obtain ⟨o1, ho⟩ := He.ba ho
    obtain ⟨name, qual, params, dV, kV, doc, pm, cdv, ct, oc, an, od, osl, q1, q2, q3, q4⟩ := (hft i_law d_law rfl).obj
    obtain ⟨fd, F⟩ := c.defs hm
    have e1 : e.dvs K = [] := by
      unfold He.DefD.dvs
      rw [h3]
      rfl
    have e2 : e.kws K = [] := by
      unfold He.DefD.kws
      rw [h4]
      rfl
    rw [e1, e2] at F
    have hfa : faOf K i_law = He.fAd K e.at_ := by
      unfold faOf atOf
      rw [he]
    have efd : fd = ft i_law := by
      obtain ⟨oc', od', dV', kV', doc', pm', an', cdv', ct', osl', f1, f2, _, _, _⟩ := F.ex
      rw [hfa] at q2
      rw [q2] at f2
      rw [q1]
      cases f2
      rfl
    rw [← efd]
    intro s u
    exact F.bindsA (ps := [("_law_script" : Str)]) (fun kV doc pm an cdv ct us hl => bind_plain o1 (by decide) hl) s [u] rfl
  refine ⟨ml, ft i_law, hbd, fun base XB GB TB => ?_⟩
  have r := (all_fns (P := P) (w := w) (base := base) T (fun k cp cpm GL z => spc_ok (hft 6 d_wrong_in rfl) mw kw (by rw [cW_eq]; exact TB) k cp cpm GL z) 75 ⟨[], fun z hz => nomatch hz⟩).1 i_law d_law rfl
  exact r
theorem law_sp {a : Addr} {ns : List Int} (H : Hp) (h1 : H (pW K) = some (.tbl #[])) (h2 : SqL K H a (ns.map V.int)) : spLaw K [.ref a] H (fun v _ => v = .bl true) fun _ _ _ => False := by
  let G : Hp := fun b => match H b with
    | some o => if isF o then none else some o
    | none => none
  have gs : ∀ {b o}, H b = some o → isF o = false → G b = some o := fun {b o} e f => by
    show (match H b with
      | some o => if isF o then none else some o
      | none => none) = _
    rw [e]
    simp [f]
  have gn : ∀ {b o}, H b = some o → isF o = true → G b = none := fun {b o} e f => by
    show (match H b with
      | some o => if isF o then none else some o
      | none => none) = _
    rw [e]
    simp [f]
  have gx : ∀ b o, G b = some o → H b = some o := fun b o e => by
    cases q : H b with
    | none =>
      have e' : (match H b with
        | some o => if isF o then none else some o
        | none => none) = some o := e
      rw [q] at e'
      cases e'
    | some o' =>
      cases f : isF o' with
      | true =>
        rw [gn q f] at e
        cases e
      | false =>
        rw [gs q f] at e
        exact e
  have st : ST K (caOf K) (TIz (pW K) qW []) G H [] [] := {
    ex := gx
    fr := fun i a c h => by simp at h
    nd := List.nodup_nil
    len := rfl
    here := fun a h => nomatch h
    at_ := fun i a c h => by simp at h
    ti := ⟨LamX.TabS.nil h1, fun z hz => nomatch hz⟩
    kt := fun a o e f => ⟨fun z => (nomatch z), gn e f⟩ }
  have hs : SqL K G a (ns.map V.int) := by
    rcases h2 with (h | ⟨o, h⟩) | h
    · exact .inl (.inl (gs h rfl))
    · exact .inl (.inr ⟨o, gs h rfl⟩)
    · exact .inr h
  refine ⟨rfl, G, [], [], [.scr (ns.map .int)], .v (.d (.bool true)), [], st, .cons ⟨a, _, rfl, hs, dpa_ints ns⟩ .nil, law_true 0 ns, fun G' H' L' v _ _ rr => ?_⟩
  have rr' : DQ G' v (.bool true) := rr
  cases rr'
  rfl
end
end PV

set_option maxRecDepth 100000
set_option maxHeartbeats 0
/-! the end -/
namespace PV
open PySem PySem.Spec PySem.W PySem.Calls PyProof.Rows L2
abbrev dLw : DefRec := HandSHeadRun.topDef R0.prog 131
theorem dLw_name : dLw.name = ("law" : Str) := by kernel_rfl
theorem room75 : Room 75 callerA := ⟨rfl, by decide, by decide⟩
theorem law_walk : PySem.W.WalkO (PySem.W.view R0.prog [131]) looseL (PySem.W.XL (PySem.W.view R0.prog [131]) []) hk.says R0.toRowW dLw [] (fun f vs => PySem.call f vs) := by
  refine Att.attach_callB (l := PySem.Challenge.rw_waryrig_k83_whole_a_row_of_faults_told_o) (n := 63) rfl (by kernel_rfl) fun w s₀ s₁ mg mb fa o pm cd doc a vs ns G Y ho hd hcd hmg hobj hints hlen hbits hg => ?_
  obtain ⟨K, KX, c⟩ := Y
  obtain ⟨ml, fd, hbind, hF⟩ := law_fn (P := R0.prog) (w := w) KX G.T.g c.d
  rw [dLw_name] at hmg
  have e := hmg.symm.trans ml
  cases e
  exact law_callG KX G.T.g G.T.b G.T.builtins G.T.nolimit hg c.empty c.out (PySem.W.codeHd_of_K KX c.hd) G.T.bmain hobj hints (Nat.le_trans hlen (by decide)) room75 hF hbind fun H h1 h2 => law_sp H h1 h2
end PV

set_option maxRecDepth 100000
set_option maxHeartbeats 0
/-! the statement -/
open PySem PySem.W PySem.Calls PyProof.Rows
theorem PySem.Challenge.cw_waryrig_k83_whole_a_row_of_faults_told_o_holds : PySem.Challenge.rw_waryrig_k83_whole_a_row_of_faults_told_o.Holds := by
  w_on; o_law
  refine HandSHeadRun.head_any (r := PV.R0) (q := view PV.R0.prog [131]) (H := PV.hk) (ob := PV.ob) (M := 8000) (loose := PV.looseL) (d := HandSHeadRun.topDef PV.R0.prog 131) (kwd := []) PV.ob_eq
    (by kernel_rfl) (fun s => by kernel_rfl) PV.run (by kernel_rfl) (by kernel_rfl) (by kernel_rfl) (by rfl) (by first | assumption | decide +kernel) (by decide +kernel) ⟨rfl, rfl, rfl, rfl, rfl, by decide +kernel⟩ ?hw PV.law_walk
  case hw => w_witness2

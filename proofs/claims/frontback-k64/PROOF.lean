import PyProof.Rows.All
import Wide.All
import OpenK.AllK
import Wide.FinOn
import PyProof.TupleOfStr
import HandS.Base
import HandS.Call
import HandS.List
import HandS.TupAny
import HandS.Style
import HandS.Strs
import HandS.ForMost
import HandS.ForExc
import HandS.Wide
import HandS.TupMul
import HandS.Deep
import HandS.IsInst
import HandS.Zip
import HandS.Rev
import HandS.Steps
import PyProof.StrOps2
import HandS.Dict
import HandS.DictComp
import HandS.More
import KE.GoesMore
import KE.GoesEnum
import PyProof.EnumMake
import HandS.Iter
import HandS.WordsExc
import HandS.Defaults
import HandS.WideBits
import HandS.HeadEnd
import HandS.Exc
import HandS.ExcIs
import HandS.ExcOwn
import HandS.HeadHook2
import HandS.Sort
import HandS.SortRule
import HandS.SortOrd
import HandS.TryOnly
import HandS.HeadHook1
import PySem.Challenge.RW_frontback_k64_whole_two_rows_are_enough
import HandS.Head0
import HandS.Head1
import HandS.Head2
import KE.KStateDown
set_option Elab.async false
set_option linter.all false
set_option maxRecDepth 100000
set_option maxHeartbeats 4000000
/-! FBT: tuples of which it is known that they carry no attributes (so their methods can be called). -/
namespace FB
open PySem PySem.Spec PyProof.Rows L2 HT
/-- a tuple is laid -/
def NewT (H : Hp) (xs : List V) (Q : VK) : Prop := ∀ p o, H p = none → o.dict = none → Q (.ref p) (upd H p (.frz o (.tup xs)))
section
variable {X : Cx} {e : Expr} {es : List Expr} {te : TE} {t : TA} {pos : Pos}
theorem newT_end {pins : List (Addr × Obj)} {σ : L2.St} {H : Hp} {s : Shared} {xs : List V} {its : List Value} {Q : VK} {h' : Heap} {tk : Nat} (I : Inv X pins σ H s) (k : ∀ b u, s.heap.get? b = some u → h'.get? b = some u) (hle : s.heap.objs.size ≤ h'.objs.size)
    (r : Vals xs its) (hz : xs.length ≤ sizeLine) (q : NewT H xs Q) : EP X pins σ Q (.ref h'.objs.size) { s with heap := h'.push { cls := .type "tuple", data := .seq its.toArray }, toks := tk } := by
  refine ⟨.ref h'.objs.size, upd H h'.objs.size (.frz { cls := .type "tuple", data := .seq its.toArray } (.tup xs)), I.laid (t' := tk) (fun b u e => Heap.get?_push_of_some _ (k b u e)) hle ?_, rfl, q _ _ (I.hok.fresh hle) rfl⟩
  exact ⟨Heap.get?_push_size _ rfl, hz, its, r, ⟨_, Heap.get?_push_size _ rfl, rfl, _, rfl⟩⟩
theorem size_kept {h h' : Heap} (k : ∀ b u, h.get? b = some u → h'.get? b = some u) (F : h.objs.size ≤ h'.objs.size) : h.objs.size ≤ h'.objs.size := F
def tTupX (t : TA) : TE := fun σ H Q => t σ H fun xs H1 => xs.length ≤ sizeLine ∧ NewT H1 xs Q
theorem pe_tupX {x1} (h : PA X es t) : PE X (.Tuple es x1 pos) (tTupX t) := by
  refine ⟨fun pins s σ H Q I hq => ?_⟩
  refine wpAny_Tuple_spliced (thn (h.run pos pins s σ H _ I hq) fun us s1 ⟨xs, H1, I1, r, z, q⟩ => ⟨by rw [← r.length]; exact z, ?_⟩)
  exact newT_end (tk := s1.toks) I1 (fun _ _ e => e) (Nat.le_refl _) r z q
def rCatX (K : PySem.W.Frag) : R2 := fun x y H Q => ∃ a b xs ys, x = .ref a ∧ y = .ref b ∧ SqT K H a xs ∧ SqT K H b ys ∧ xs.length + ys.length ≤ sizeLine ∧
  (xs = [] → Q (.ref b) H) ∧ (xs ≠ [] → ys = [] → Q (.ref a) H) ∧ (xs ≠ [] → ys ≠ [] → NewT H (xs ++ ys) Q)
theorem op_catX : OpR X (binaryOp .Add) (rCatX X.K) := by
  intro pins s σ H x y v u Q I rx ry h
  obtain ⟨a, b, xs, ys, rfl, rfl, ha, hb, hz, q0, q1, q2⟩ := h
  cases rx
  cases ry
  obtain ⟨its, r1, p1, _⟩ := I.tuple ha
  obtain ⟨its2, r2, p2, _⟩ := I.tuple hb
  by_cases hx : xs = []
  · subst hx
    cases r1
    exact cat_tup0 p1 p2 ⟨.ref b, H, I, rfl, q0 rfl⟩
  · refine HT.cat_tup p1 p2 (fun z => hx (r1.nil_iff.mp z)) (fun z => ⟨.ref a, H, I, rfl, q1 hx (r2.nil_iff.mp z)⟩) (fun z => ?_) (by rw [← r1.length, ← r2.length]; exact hz)
    exact newT_end (tk := s.toks) I (fun _ _ e => e) (Nat.le_refl _) (r1.append r2) (by rw [List.length_append]; exact hz) (q2 hx (fun w => z (r2.nil_iff.mpr w)))
def rSlX (K : PySem.W.Frag) : V → Option Int → Option Int → Hp → VK → Prop := fun x lo hi H Q => ∃ a xs, x = .ref a ∧ SqT K H a xs ∧
  (HT.sIx xs.length 0 lo = 0 ∧ HT.sIx xs.length xs.length hi = xs.length → Q (.ref a) H) ∧ (¬ (HT.sIx xs.length 0 lo = 0 ∧ HT.sIx xs.length xs.length hi = xs.length) → NewT H (cutV xs lo hi) Q)
theorem sl_tupX : SlR X (rSlX X.K) := by
  intro pins s σ H x v vl vu lo hi sl Q I rx hs pl pu h
  obtain ⟨a, xs, rfl, hx, q1, q2⟩ := h
  cases rx
  obtain ⟨its, r, ht, hz⟩ := I.tuple hx
  have hlen : its.toArray.size = xs.length := by rw [List.size_toArray]; exact r.length.symm
  refine ⟨"tuple", _, PyProof.Rows.slot_tuple_getitem.lookup, ht.typeIs, ?_⟩
  by_cases hw : HT.sIx xs.length 0 lo = 0 ∧ HT.sIx xs.length xs.length hi = xs.length
  · exact getItem_tuple_whole ht hs pl pu (by rw [hlen]; exact hw) ⟨.ref a, H, I, rfl, q1 hw⟩
  · refine HT.getItem_tuple_cut ht hs pl pu (by rw [hlen]; exact hw) ?_ (by rw [hlen]; exact hz)
    rw [hlen]
    exact newT_end (tk := s.toks) I (fun _ _ e => e) (Nat.le_refl _) ((r.drop (HT.sIx xs.length 0 lo)).take (HT.sIx xs.length xs.length hi - HT.sIx xs.length 0 lo)) (Nat.le_trans (cutV_length xs lo hi) hz) (q2 hw)
/-- tuple(x): a list, a tuple, a text -/
def rTupX (K : PySem.W.Frag) : List V → Hp → VK → Prop := fun xs H Q => (∃ p ys, xs = [.ref p] ∧ ((SqL K H p ys ∧ NewT H ys Q) ∨ (SqT K H p ys ∧ Q (.ref p) H))) ∨ ∃ z : Str, xs = [.str z] ∧ z.length ≤ sizeLine ∧ NewT H (z.cps.toList.map fun c => V.str ⟨#[c]⟩) Q
theorem vals_get : ∀ {xs : List V} {us : List Value}, xs.length = us.length → (∀ (j : Nat) (x : V) (u : Value), xs[j]? = some x → us[j]? = some u → RelV x u) → Vals xs us
  | [], [], _, _ => .nil
  | x :: xs, u :: us, h, f => .cons (f 0 x u rfl rfl) (vals_get (by simpa using h) fun j y w h1 h2 => f (j + 1) y w (by simpa using h1) (by simpa using h2))
theorem call_tupX (hc : X.calm = true) : CallR X (.type "tuple") (rTupX X.K) := by
  intro pins s σ H xs us Q I r h
  rcases h with ⟨p, ys, rfl, h⟩ | ⟨z, rfl, hz, q⟩
  · obtain ⟨u, rfl, rx⟩ := vals1 r
    cases rx
    rcases h with ⟨hq, q⟩ | ⟨hq, q⟩
    · obtain ⟨its, r', pl, hz⟩ := I.list hq
      have hlen := r'.length
      refine call_tuple_list pl.isList (fun h' kp => ?_) (by simp only [List.size_toArray] <;> omega)
      have I1 : Inv X pins σ H { s with heap := h' } := I.kept (t' := s.toks) kp
      exact newT_end (s := { s with heap := h' }) (tk := s.toks) I1 (fun _ _ e => e) (Nat.le_refl _) r' hz q
    · obtain ⟨its, r', pl, hz⟩ := I.tuple hq
      exact call_tuple_same pl ⟨.ref p, H, I, rfl, q⟩
  · obtain ⟨u, rfl, t, rfl⟩ := vals1 r
    refine call_tuple_str (I.ok.hd hc) z t (fun h' tk acc kp hacc => ?_) hz
    have I1 : Inv X pins σ H { s with heap := h', toks := tk } := I.kept kp
    have e : acc = acc.toList.toArray := by simp
    rw [e]
    refine newT_end (s := { s with heap := h', toks := tk }) (tk := tk) I1 (fun _ _ e => e) (Nat.le_refl _) (vals_get (by simp [hacc.1]) fun j x u h1 h2 => ?_) (by rw [List.length_map]; exact hz) q
    rw [Array.getElem?_toList] at h2
    obtain ⟨c, t', h3, h4⟩ := hacc.2 j u h2
    rw [List.getElem?_map, Array.getElem?_toList, h3] at h1
    cases h1
    exact ⟨t', h4⟩

/-! ### t[::-1] -/
theorem adjust_rev (n : Nat) : Builtin.Slice.sliceAdjust none none (-1) (n : Int) = ((n : Int) - 1, -1) := by
  unfold Builtin.Slice.sliceAdjust
  simp
theorem places_rev (n : Nat) : Builtin.Slice.slicePlaces ((n : Int) - 1) (-1) (-1) = n := by
  unfold Builtin.Slice.slicePlaces
  simp
  split <;> omega
theorem fm_some {α β : Type} {f : α → Option β} {g : α → β} : ∀ {l : List α}, (∀ a ∈ l, f a = some (g a)) → l.filterMap f = l.map g
  | [], _ => rfl
  | a :: l, h => by
    rw [List.filterMap_cons, h a List.mem_cons_self, List.map_cons, fm_some fun b hb => h b (List.mem_cons_of_mem _ hb)]
theorem pick_rev (its : List Value) : ((List.range its.length).filterMap fun (k : Nat) => its.toArray[(((its.length : Int) - 1) + (k : Int) * (-1)).toNat]?) = its.reverse := by
  rw [fm_some (g := fun k => its.getD (its.length - 1 - k) .none) fun k hk => ?_]
  · apply List.ext_getElem?
    intro i
    by_cases h : i < its.length
    · rw [List.getElem?_reverse h, List.getElem?_map, List.getElem?_range h]
      show some (its.getD (its.length - 1 - i) .none) = _
      rw [List.getD_eq_getElem?_getD, List.getElem?_eq_getElem (by omega)]
      rfl
    · rw [List.getElem?_eq_none (by simpa using h), List.getElem?_eq_none (by simpa using h)]
  · have hk := List.mem_range.mp hk
    have e1 : (((its.length : Int) - 1) + ((k : Nat) : Int) * (-1)).toNat = its.length - 1 - k := by omega
    rw [e1, List.getElem?_toArray, List.getD_eq_getElem?_getD, List.getElem?_eq_getElem (by omega)]
    rfl
section
variable {prog : Program} {w : World} {A : Around} {E : Value → Shared → Prop} {s : Shared}
theorem sliceApplied_rev {sl : Addr} {t : Tok} {n : Nat} {Q : Int × Int × Nat → Shared → Prop} (hs : s.heap.IsSliceOf sl .none .none (.int (-1) t)) (h : Q ((n : Int) - 1, -1, n) s) : wpAny (model prog w) A (Builtin.Slice.sliceApplied (.ref sl) (pure (n : Int))) Q E s := by
  obtain ⟨os, hos, hcs, hds⟩ := id hs
  unfold Builtin.Slice.sliceApplied Builtin.Slice.sliceFields
  refine wpAny_bind (wpAny_bind (wpAny_field hos hds (x := .none) rfl (wpAny_bind (wpAny_field hos hds (x := .none) rfl (wpAny_bind (wpAny_field hos hds (x := .int (-1) t) rfl (wpAny_pure ?_)))))))
  refine wpAny_bind (slicePart_int ?_)
  show wpAny _ _ (if ((-1 : Int) == 0) = true then _ else _) _ _ s
  rw [if_neg (by decide)]
  refine wpAny_bind (slicePart_none (wpAny_bind (slicePart_none (wpAny_bind (wpAny_pure ?_)))))
  show wpAny _ _ (match Builtin.Slice.sliceAdjust none none (-1) (n : Int) with | (lo, hi) => pure (lo, (-1 : Int), Builtin.Slice.slicePlaces lo hi (-1))) _ _ s
  rw [adjust_rev n]
  show wpAny _ _ (pure ((n : Int) - 1, (-1 : Int), Builtin.Slice.slicePlaces ((n : Int) - 1) (-1) (-1))) _ _ s
  rw [places_rev]
  exact wpAny_pure h
theorem getItem_tuple_rev {t sl : Addr} {its : List Value} {k : Tok} {Q : Value → Shared → Prop} (ht : IsTup s.heap t its.toArray) (hs : s.heap.IsSliceOf sl .none .none (.int (-1) k))
    (h : Q (.ref s.heap.objs.size) { s with heap := s.heap.push { cls := .type "tuple", data := .seq its.reverse.toArray } })
    (hsz : its.length ≤ sizeLine) : wpAny (model prog w) A (getItem (.ref t) (.ref sl)) Q E s := by
  have htake : sizeOk (.seq its.reverse.toArray) := by
    show its.reverse.toArray.size ≤ sizeLine
    rw [List.size_toArray, List.length_reverse]
    exact hsz
  obtain ⟨os, hos, hcs, hds⟩ := id hs
  have hTs : s.TypeIs (.ref sl) "slice" := ⟨os, hos, hcs⟩
  unfold getItem
  try with_reducible refine wpAny_holding ?_
  first | refine wpAny_bind (wpAny_pure ?_) | skip
  refine wpAny_bind (wpAny_sequenceKey ht.typeIs (by decide) ?_)
  refine wpAny_bind (wpAny_callSpecial?_slot (name := Str.ofString "__getitem__") ht.typeIs PyProof.Rows.slot_tuple_getitem
    (wpAny_call_entry PyProof.Rows.slot_tuple_getitem ht.typeIs entry_tuple_getitem ?_ (args_tuple_getitem _ _)))
  show wpAny _ _ (Builtin.Tuple.tupleItemsOf (.ref t) >>= _) _ _ s
  refine wpAny_bind (tupleItemsOf_ ht ?_)
  refine wpAny_bind (wpAny_typeOf hTs ?_)
  rw [if_pos (by decide)]
  refine wpAny_bind (sliceApplied_rev hs ?_)
  have hno : ¬ ((((its.toArray.size : Int) - 1) == 0 && (-1 : Int) == 1 && its.toArray.size == its.toArray.size) = true) := by simp
  show wpAny _ _ (if (((its.toArray.size : Int) - 1) == 0 && (-1 : Int) == 1 && its.toArray.size == its.toArray.size) = true then _ else _) _ _ s
  rw [if_neg hno]
  have e : ((List.range its.toArray.size).filterMap fun (k : Nat) => its.toArray[(((its.toArray.size : Int) - 1) + (k : Int) * (-1)).toNat]?).toArray = its.reverse.toArray := by
    rw [List.size_toArray, pick_rev]
  rw [e]
  first
    | exact wpAny_bind (m := Builtin.Tuple.tupleExact _) (wpAny_newObj_type (wpAny_pure ⟨_, rfl, wpAny_pure h⟩) htake)
    | exact wpAny_bind (m := Builtin.Tuple.tupleExact _) (wpAny_newObj_type (wpAny_bind (wpAny_pure (wpAny_pure ⟨_, rfl, wpAny_pure h⟩))) htake)
    | exact wpAny_bind (wpAny_bind (m := Builtin.Tuple.tupleExact _) (wpAny_newObj_type (wpAny_pure (wpAny_pure ⟨_, rfl, wpAny_pure h⟩)) htake))
    | exact wpAny_bind (wpAny_bind (m := Builtin.Tuple.tupleExact _) (wpAny_newObj_type (wpAny_pure ⟨_, rfl, wpAny_pure h⟩) htake))
end
/-- x[::-1]: a list, a tuple -/
def tRev (K : PySem.W.Frag) (te : TE) : TE := fun σ H Q => te σ H fun x H1 => ∃ a xs, x = .ref a ∧ ((SqL K H1 a xs ∧ ∀ p, H1 p = none → Q (.ref p) (upd H1 p (.lst xs.reverse))) ∨ (SqT K H1 a xs ∧ NewT H1 xs.reverse Q))
theorem pe_rev {k : Nat} {p1 p2 p3 : Pos} (he : PE X e te) : PE X (.Subscript e (.Slice none none (some (.UnaryOp .USub (.Constant (.int 1) k p1) p2)) p3) pos) (tRev X.K te) := by
  refine ⟨fun pins s σ H Q I h => ?_⟩
  refine Subscript_ (thn (he.run pins s σ H _ I h) fun v s1 ⟨x, H1, I1, r1, q1⟩ => ?_)
  obtain ⟨a, xs, ex, q⟩ := q1
  subst ex
  cases r1
  have hst : PO X (some (.UnaryOp .USub (.Constant (.int 1) k p1) p2)) (tPart (tUn (rU fun i => .int (-i)) (tC (.int 1)))) := po_some (pe_un un_neg pe_int)
  refine wpAny_Slice (thn (po_none.run pins s1 σ H1 (fun o H2 => o = none ∧ H2 = H1) I1 ⟨rfl, rfl⟩) fun vl s2 ⟨l, H2, I2, pl, el, e2⟩ => ?_)
  subst el e2
  refine thn (po_none.run pins s2 σ H2 (fun o H3 => o = none ∧ H3 = H2) I2 ⟨rfl, rfl⟩) fun vu s3 ⟨u, H3, I3, pu, eu, e3⟩ => ?_
  subst eu e3
  refine thn (hst.run pins s3 σ H3 (fun o H4 => o = some (-1) ∧ H4 = H3) I3 ⟨1, rfl, -1, rfl, rfl, rfl⟩) fun vs s4 ⟨o, H4, I4, ps, eo, e4⟩ => ?_
  subst eo e4
  have I5 : Inv X pins σ H4 { s4 with heap := s4.heap.push { cls := .type "slice", data := .fields #[vl, vu, vs] } } := I4.kept (t' := s4.toks) fun b ob q => Heap.get?_push_of_some _ q
  rcases q with ⟨hx, q⟩ | ⟨hx, q⟩
  · obtain ⟨its, r, ht, hz⟩ := I5.list hx
    have hlen := r.length
    show wpAny (model X.prog X.w) X.A (subscriptTail e (.Slice none none (some (.UnaryOp .USub (.Constant (.int 1) k p1) p2)) p3) (.ref a) (.ref s4.heap.objs.size)) (EP X pins σ Q) X.xe { s4 with heap := s4.heap.push { cls := .type "slice", data := .fields #[vl, vu, vs] } }
    refine tail_any (ops := [.ref a, .ref s4.heap.objs.size]) ht.isList.typeIs (PySem.slot_list_getitem.lookup) ?_ (by with_unfolding_all rfl)
    refine wpAny_getItem_list_slice ht.isList (Heap.IsSliceOf.new _ vl vu vs) pl pu ps (by decide) ?_ (by rw [List.size_toArray]; omega)
    rw [PySem.W.krv_pick]
    refine ⟨.ref _, _, I5.laid (t' := s4.toks) (o := .lst xs.reverse) (fun b ob q => Heap.get?_push_of_some _ q) (Nat.le_refl _) ?_, rfl, q _ (I5.hok.fresh (Nat.le_refl _))⟩
    exact ⟨by rw [List.length_reverse]; exact hz, _, 0, r.reverse, Heap.get?_push_size _ rfl⟩
  · obtain ⟨its, r, ht, hz⟩ := I5.tuple hx
    show wpAny (model X.prog X.w) X.A (subscriptTail e (.Slice none none (some (.UnaryOp .USub (.Constant (.int 1) k p1) p2)) p3) (.ref a) (.ref s4.heap.objs.size)) (EP X pins σ Q) X.xe { s4 with heap := s4.heap.push { cls := .type "slice", data := .fields #[vl, vu, vs] } }
    cases pl
    cases pu
    cases ps with
    | int _ tk =>
    refine tail_any (ops := [.ref a, .ref s4.heap.objs.size]) ht.typeIs PyProof.Rows.slot_tuple_getitem.lookup ?_ (by with_unfolding_all rfl)
    refine getItem_tuple_rev ht (Heap.IsSliceOf.new _ _ _ _) ?_ (by rw [← r.length]; exact hz)
    exact newT_end (tk := s4.toks) I5 (fun _ _ e => e) (Nat.le_refl _) r.reverse (by rw [List.length_reverse]; exact hz) q

/-! ### a tuple's method -/
/-- a tuple without attributes -/
def TupM (K : PySem.W.Frag) (H : Hp) (p : Addr) (xs : List V) : Prop := (∃ o, o.dict = none ∧ H p = some (.frz o (.tup xs))) ∨
  ∃ (o : Obj) (its : Array Value) (n : Nat), K.lookup p = some o ∧ o.cls = .type "tuple" ∧ o.data = .seq its n ∧ its.size ≤ sizeLine ∧ Vals xs its.toList ∧ o.dict = none
def tTM (K : PySem.W.Frag) (r : V → List V → Hp → VK → Prop) (to : TE) (t : TA) : TE := fun σ H Q => to σ H fun x H1 => (∃ p xs, x = .ref p ∧ TupM K H1 p xs) ∧ t σ H1 fun xs H2 => r x xs H2 Q
variable {o : Expr} {to : TE} {name : Str} {apos cpos : Pos} {id : String} {r : V → List V → Hp → VK → Prop}
theorem pe_tm (pa : PlainAttrs "tuple") (slot : Slot "tuple" name id) (hty : typeOf (.builtin id) = pure (.type "method_descriptor")) (hm : MtR X id r) (ho : PE X o to) (ha : PA X (e :: es) t)
    (hbase : attributeBase o name X.env (eval o X.env) = eval o X.env := by rfl)
    (hfew : ((backTo cpos (starEach (e :: es) X.env)).all (fun x => !x.1) && (backToKw cpos (keywordEach [] X.env)).all (fun x => x.1.isSome)
      && decide ((e :: es).length + ([] : List Keyword).length + (if ([] : List Keyword).isEmpty then 0 else 1) < 30)) = true := by rfl)
    (hline : (apos.endLine == cpos.line) = true := by rfl) (hs : starEach (e :: es) X.env = (false, eval e X.env) :: starEach es X.env := by rfl) (hplain : (backTo cpos (starEach es X.env)).any (·.1) = false := by rfl) :
    PE X (.Call (.Attribute o name apos) (e :: es) [] cpos) (tTM X.K r to t) := by
  refine ⟨fun pins s σ H Q I h => ?_⟩
  refine wpAny_Call_method_late hbase hfew hline rfl (thn (ho.run pins s σ H _ I h) fun v s1 ⟨x, H1, I1, r1, ty, q1⟩ => ?_)
  have h12 : s1.TypeIs v "tuple" ∧ ∀ a, v = .ref a → ∃ ob, s1.heap.get? a = some ob ∧ ob.dict = none := by
    obtain ⟨p, xs, rfl, ⟨ob, hd, e⟩ | ⟨ob, its, n, hk, hc, hdt, hz, r, hd⟩⟩ := ty
    · cases r1
      obtain ⟨h1, h2, its, r, hT⟩ := (show ObjOk X.prog X.w H1 s1.heap p (.frz ob (.tup xs)) from I1.hok p _ e)
      obtain ⟨ob', h3, h4, _⟩ := hT
      rw [h1] at h3
      cases h3
      exact ⟨⟨ob, h1, h4⟩, fun a e => by cases e; exact ⟨ob, h1, hd⟩⟩
    · cases r1
      exact ⟨⟨ob, I1.kIn p ob hk, hc⟩, fun a e => by cases e; exact ⟨ob, I1.kIn _ ob hk, hd⟩⟩
  obtain ⟨h1, h2⟩ := h12
  refine ⟨"tuple", id, pa, slot, hty, h1, h2, ?_⟩
  have hA := ha.run cpos pins s1 σ H1 _ I1 q1
  rw [hs] at hA ⊢
  refine Calls.callWith_builtin (by show (false || (backTo cpos (starEach es X.env)).any (·.1)) = false; rw [hplain] <;> rfl) (Calls.evalArgs_plain ?_)
  exact thn hA fun us s2 ⟨vs, H2, I2, r2, q2⟩ => hm pins s2 σ H2 x vs v us Q I2 r1 r2 q2
end
end FB
set_option Elab.async false
set_option linter.all false
set_option maxRecDepth 100000
set_option maxHeartbeats 4000000
/-! FB0: values as data, a store of mutable cells, what represents what. -/
namespace FB
open PySem PySem.Spec PyProof.Rows L2

/-- a value: pure data, a mutable cell of the store, sequences of such, an exception -/
inductive Dv where
  | p (x : PyData)
  | ref (i : Nat)
  | tupD (xs : List Dv)
  | lstD (xs : List Dv)
  | exc (c : Str) (fs : List (Str × PyData))
  | frz (ns : List Int)
  deriving Inhabited

inductive Cl where
  | lst (xs : List Dv)
  | dK (kvs : List (Key × Dv))
  | dT (kvs : List (List Key × Dv))
  | dead
  deriving Inhabited

abbrev So := List Cl
abbrev Sl := List (Option Dv)

inductive Rs (α : Type) where
  | ok (a : α) (st : So)
  | exc (c : Str) (fs : List (Str × PyData)) (st : So)
  | stuck

inductive Ss where
  | nx (ρ : Sl) (st : So)
  | ret (d : Dv) (st : So)
  | brk (ρ : Sl) (st : So)
  | cnt (ρ : Sl) (st : So)
  | exc (c : Str) (fs : List (Str × PyData)) (ρ : Sl) (st : So)
  | stuck

def Rs.bind {α β : Type} : Rs α → (α → So → Rs β) → Rs β
  | .ok a st, f => f a st
  | .exc c fs st, _ => .exc c fs st
  | .stuck, _ => .stuck

abbrev FE := Sl → So → Rs Dv
abbrev FT := Sl → So → Rs Bool
abbrev FA := Sl → So → Rs (List Dv)
abbrev FS := Sl → So → Ss
abbrev FG := Dv → Sl → So → Rs Sl
abbrev FD := List Dv → So → Rs Dv

/-- where the cells stand; which addresses stay as they are -/
structure Wd where
  m : Nat → Addr
  I : Addr → Prop
  /-- what is neither data nor a cell, and stays (a list in the making) -/
  F : Addr → Prop

def KTup (K : PySem.W.Frag) (a : Addr) (xs : List V) : Prop :=
  ∃ (o : Obj) (its : Array Value) (n : Nat), K.lookup a = some o ∧ o.cls = .type "tuple" ∧ o.data = .seq its n ∧ its.size ≤ sizeLine ∧ Vals xs its.toList ∧ o.dict = none
def SL (I : Addr → Prop) (H : Hp) (a : Addr) (xs : List V) : Prop := I a ∧ H a = some (.lst xs)
/-- a tuple without attributes -/
def ST (K : PySem.W.Frag) (I : Addr → Prop) (H : Hp) (a : Addr) (xs : List V) : Prop := (I a ∧ ∃ o, o.dict = none ∧ H a = some (.frz o (.tup xs))) ∨ KTup K a xs
/-- any tuple -/
def SU (K : PySem.W.Frag) (I : Addr → Prop) (H : Hp) (a : Addr) (xs : List V) : Prop := (I a ∧ H a = some (.tup xs)) ∨ ST K I H a xs
theorem SL.sq {K : PySem.W.Frag} {I : Addr → Prop} {H : Hp} {a : Addr} {xs : List V} (h : SL I H a xs) : SqL K H a xs := .of h.2
theorem ST.sq {K : PySem.W.Frag} {I : Addr → Prop} {H : Hp} {a : Addr} {xs : List V} (h : ST K I H a xs) : SqT K H a xs := h.elim (fun ⟨_, o, _, e⟩ => .inl (.inr ⟨o, e⟩)) fun ⟨o, its, n, h1, h2, h3, h4, h5, _⟩ => .inr ⟨o, its, n, h1, h2, h3, h4, h5⟩
theorem ST.tm {K : PySem.W.Frag} {I : Addr → Prop} {H : Hp} {a : Addr} {xs : List V} (h : ST K I H a xs) : TupM K H a xs := h.elim (fun ⟨_, o, d, e⟩ => .inl ⟨o, d, e⟩) .inr
theorem SU.sq {K : PySem.W.Frag} {I : Addr → Prop} {H : Hp} {a : Addr} {xs : List V} (h : SU K I H a xs) : SqT K H a xs := h.elim (fun z => .of z.2) ST.sq

/-- the script: a list that is only read -/
def FZ (K : PySem.W.Frag) (I : Addr → Prop) (H : Hp) (a : Addr) (xs : List V) : Prop := (I a ∧ ∃ o, H a = some (.frz o (.lst xs))) ∨
  ∃ (o : Obj) (its : Array Value) (n : Nat), K.lookup a = some o ∧ o.cls = .type "list" ∧ o.dict = none ∧ o.data = .seq its n ∧ its.size ≤ sizeLine ∧ Vals xs its.toList
theorem FZ.sq {K : PySem.W.Frag} {I : Addr → Prop} {H : Hp} {a : Addr} {xs : List V} (h : FZ K I H a xs) : SqL K H a xs := h.elim (fun ⟨_, o, e⟩ => .inl (.inr ⟨o, e⟩)) .inr
/-- a key of a dict, as data -/
def keyP : Key → PyData
  | .inl i => .int i
  | .inr x => .str x

mutual
inductive RP (K : PySem.W.Frag) (I : Addr → Prop) (H : Hp) : PyData → V → Prop
  | non : RP K I H .none .non
  | bl (b : Bool) : RP K I H (.bool b) (.bl b)
  | int (i : Int) : RP K I H (.int i) (.int i)
  | str (x : Str) : RP K I H (.str x) (.str x)
  | lst {a : Addr} {vs : List V} {ds : List PyData} : SL I H a vs → RPs K I H ds vs → RP K I H (.list ds) (.ref a)
  | tup {a : Addr} {vs : List V} {ds : List PyData} : ST K I H a vs → RPs K I H ds vs → RP K I H (.tuple ds) (.ref a)
  | dct {a : Addr} {kvs : List (Key × V)} {ds : List (PyData × PyData)} : I a → H a = some (.dK kvs) → RPk K I H ds kvs → RP K I H (.dict ds) (.ref a)
inductive RPs (K : PySem.W.Frag) (I : Addr → Prop) (H : Hp) : List PyData → List V → Prop
  | nil : RPs K I H [] []
  | cons {d : PyData} {v : V} {ds : List PyData} {vs : List V} : RP K I H d v → RPs K I H ds vs → RPs K I H (d :: ds) (v :: vs)
inductive RPk (K : PySem.W.Frag) (I : Addr → Prop) (H : Hp) : List (PyData × PyData) → List (Key × V) → Prop
  | nil : RPk K I H [] []
  | cons {k : Key} {d : PyData} {v : V} {ds : List (PyData × PyData)} {kvs : List (Key × V)} : RP K I H d v → RPk K I H ds kvs → RPk K I H ((keyP k, d) :: ds) ((k, v) :: kvs)
end

/-- I and what is readable there only grows -/
structure Gro (I : Addr → Prop) (H : Hp) (I' : Addr → Prop) (H' : Hp) : Prop where
  inc : ∀ a, I a → I' a
  imm : ∀ a u, I a → H a = some u → H' a = some u
theorem Gro.refl {I : Addr → Prop} {H : Hp} : Gro I H I H := ⟨fun _ h => h, fun _ _ _ h => h⟩
theorem Gro.trans {I I1 I2 : Addr → Prop} {H H1 H2 : Hp} (a : Gro I H I1 H1) (b : Gro I1 H1 I2 H2) : Gro I H I2 H2 := ⟨fun x h => b.inc x (a.inc x h), fun x u h r => b.imm x u (a.inc x h) (a.imm x u h r)⟩

section
variable {K : PySem.W.Frag} {I I' : Addr → Prop} {H H' : Hp}
theorem SL.mono (g : Gro I H I' H') {a : Addr} {xs : List V} (h : SL I H a xs) : SL I' H' a xs := ⟨g.inc _ h.1, g.imm _ _ h.1 h.2⟩
theorem ST.mono (g : Gro I H I' H') {a : Addr} {xs : List V} (h : ST K I H a xs) : ST K I' H' a xs := h.elim (fun ⟨i, o, d, e⟩ => .inl ⟨g.inc _ i, o, d, g.imm _ _ i e⟩) .inr
theorem SU.mono (g : Gro I H I' H') {a : Addr} {xs : List V} (h : SU K I H a xs) : SU K I' H' a xs := h.elim (fun z => .inl ⟨g.inc _ z.1, g.imm _ _ z.1 z.2⟩) fun z => .inr (z.mono g)
theorem FZ.mono (g : Gro I H I' H') {a : Addr} {xs : List V} (h : FZ K I H a xs) : FZ K I' H' a xs := h.elim (fun ⟨i, o, e⟩ => .inl ⟨g.inc _ i, o, g.imm _ _ i e⟩) .inr
mutual
theorem RP.mono (g : Gro I H I' H') : ∀ {d : PyData} {v : V}, RP K I H d v → RP K I' H' d v
  | _, _, .non => .non
  | _, _, .bl b => .bl b
  | _, _, .int i => .int i
  | _, _, .str x => .str x
  | _, _, .lst h hs => .lst (h.mono g) (RPs.mono g hs)
  | _, _, .tup h hs => .tup (h.mono g) (RPs.mono g hs)
  | _, _, .dct h r hs => .dct (g.inc _ h) (g.imm _ _ h r) (RPk.mono g hs)
theorem RPs.mono (g : Gro I H I' H') : ∀ {ds : List PyData} {vs : List V}, RPs K I H ds vs → RPs K I' H' ds vs
  | _, _, .nil => .nil
  | _, _, .cons h hs => .cons (RP.mono g h) (RPs.mono g hs)
theorem RPk.mono (g : Gro I H I' H') : ∀ {ds : List (PyData × PyData)} {vs : List (Key × V)}, RPk K I H ds vs → RPk K I' H' ds vs
  | _, _, .nil => .nil
  | _, _, .cons h hs => .cons (RP.mono g h) (RPk.mono g hs)
end
theorem RPs.length : ∀ {ds : List PyData} {vs : List V}, RPs K I H ds vs → ds.length = vs.length
  | _, _, .nil => rfl
  | _, _, .cons _ hs => by simp only [List.length_cons, RPs.length hs]
theorem RPs.append : ∀ {ds es : List PyData} {vs us : List V}, RPs K I H ds vs → RPs K I H es us → RPs K I H (ds ++ es) (vs ++ us)
  | _, _, _, _, .nil, h => h
  | _, _, _, _, .cons h hs, h' => .cons h (RPs.append hs h')
theorem RPs.get : ∀ {ds : List PyData} {vs : List V} {i : Nat} {d : PyData}, RPs K I H ds vs → ds[i]? = some d → ∃ v, vs[i]? = some v ∧ RP K I H d v
  | _, _, _, _, .nil, h => by simp at h
  | _, _, 0, _, .cons h _, e => by
    simp only [List.getElem?_cons_zero, Option.some.injEq] at e
    subst e
    exact ⟨_, rfl, h⟩
  | _, _, i + 1, d, .cons _ hs, e => by
    obtain ⟨v, h1, h2⟩ := RPs.get (i := i) (d := d) hs (by simpa using e)
    exact ⟨v, by simpa using h1, h2⟩
theorem RPs.take : ∀ {ds : List PyData} {vs : List V} (n : Nat), RPs K I H ds vs → RPs K I H (ds.take n) (vs.take n)
  | _, _, 0, _ => by simpa using RPs.nil
  | _, _, _ + 1, .nil => .nil
  | _, _, n + 1, .cons h hs => .cons h (RPs.take n hs)
theorem RPs.drop : ∀ {ds : List PyData} {vs : List V} (n : Nat), RPs K I H ds vs → RPs K I H (ds.drop n) (vs.drop n)
  | _, _, 0, h => h
  | _, _, _ + 1, .nil => .nil
  | _, _, n + 1, .cons _ hs => RPs.drop n hs
theorem RPs.reverse : ∀ {ds : List PyData} {vs : List V}, RPs K I H ds vs → RPs K I H ds.reverse vs.reverse
  | _, _, .nil => .nil
  | _, _, .cons h hs => by
    rw [List.reverse_cons, List.reverse_cons]
    exact (RPs.reverse hs).append (.cons h .nil)
mutual
theorem RP.dp : ∀ {d : PyData} {v : V}, RP K I H d v → d.canLay0 = true → Dp K H v d
  | _, _, .non, _ => .non
  | _, _, .bl b, _ => .bl b
  | _, _, .int i, _ => .int i
  | _, _, .str x, _ => .str x
  | _, _, .lst h hs, e => .lst h.sq (RPs.dp hs (by simpa [PyData.canLay0] using e))
  | _, _, .tup h hs, e => .tup h.sq (RPs.dp hs (by simpa [PyData.canLay0] using e))
  | _, _, .dct _ _ _, e => by simp [PyData.canLay0] at e
theorem RPs.dp : ∀ {ds : List PyData} {vs : List V}, RPs K I H ds vs → PyData.canLayAll0 ds = true → DpAll K H vs ds
  | _, _, .nil, _ => .nil
  | _, _, .cons h hs, e => by
    simp only [PyData.canLayAll0, Bool.and_eq_true] at e
    exact .cons (RP.dp h e.1) (RPs.dp hs e.2)
end
end

/-- an exception without attributes: its class -/
def excT (a C : Addr) : HO := .ext fun h => ∃ o, h.get? a = some o ∧ o.cls = .ref C ∧ o.dict = none ∧ ∃ vs, o.data = .fields vs
mutual
inductive RD (K : PySem.W.Frag) (mg : Str → Option Value) (n : Nat) (w : Wd) (H : Hp) : Dv → V → Prop
  | p {x : PyData} {v : V} : RP K w.I H x v → RD K mg n w H (.p x) v
  | ref {i : Nat} : i < n → RD K mg n w H (.ref i) (.ref (w.m i))
  | tupD {a : Addr} {vs : List V} {ds : List Dv} : SU K w.I H a vs → RDs K mg n w H ds vs → RD K mg n w H (.tupD ds) (.ref a)
  | lstD {a : Addr} {vs : List V} {ds : List Dv} : SL w.I H a vs → RDs K mg n w H ds vs → RD K mg n w H (.lstD ds) (.ref a)
  | frz {a : Addr} {ns : List Int} : FZ K w.I H a (ns.map V.int) → RD K mg n w H (.frz ns) (.ref a)
  | exc {a C : Addr} {c : Str} : mg c = some (.ref C) → w.I a → H a = some (excT a C) → RD K mg n w H (.exc c []) (.ref a)
inductive RDs (K : PySem.W.Frag) (mg : Str → Option Value) (n : Nat) (w : Wd) (H : Hp) : List Dv → List V → Prop
  | nil : RDs K mg n w H [] []
  | cons {d : Dv} {v : V} {ds : List Dv} {vs : List V} : RD K mg n w H d v → RDs K mg n w H ds vs → RDs K mg n w H (d :: ds) (v :: vs)
end

/-- from one state to a later one -/
structure Stp (n : Nat) (w : Wd) (H : Hp) (n' : Nat) (w' : Wd) (H' : Hp) : Prop where
  le : n ≤ n'
  ext : ∀ i, i < n → w'.m i = w.m i
  gro : Gro w.I H w'.I H'
  frm : Gro w.F H w'.F H'
theorem Stp.refl {n : Nat} {w : Wd} {H : Hp} : Stp n w H n w H := ⟨Nat.le_refl _, fun _ _ => rfl, .refl, .refl⟩
theorem Stp.trans {n n1 n2 : Nat} {w w1 w2 : Wd} {H H1 H2 : Hp} (a : Stp n w H n1 w1 H1) (b : Stp n1 w1 H1 n2 w2 H2) : Stp n w H n2 w2 H2 :=
  ⟨Nat.le_trans a.le b.le, fun i h => (b.ext i (Nat.lt_of_lt_of_le h a.le)).trans (a.ext i h), a.gro.trans b.gro, a.frm.trans b.frm⟩

section
variable {K : PySem.W.Frag} {mg : Str → Option Value} {n n' : Nat} {w w' : Wd} {H H' : Hp}
mutual
theorem RD.mono (g : Stp n w H n' w' H') : ∀ {d : Dv} {v : V}, RD K mg n w H d v → RD K mg n' w' H' d v
  | _, _, .p h => .p (h.mono g.gro)
  | _, _, .ref h => by
    rw [← g.ext _ h]
    exact .ref (Nat.lt_of_lt_of_le h g.le)
  | _, _, .tupD h hs => .tupD (h.mono g.gro) (RDs.mono g hs)
  | _, _, .lstD h hs => .lstD (h.mono g.gro) (RDs.mono g hs)
  | _, _, .frz h => .frz (h.mono g.gro)
  | _, _, .exc m i e => .exc m (g.gro.inc _ i) (g.gro.imm _ _ i e)
theorem RDs.mono (g : Stp n w H n' w' H') : ∀ {ds : List Dv} {vs : List V}, RDs K mg n w H ds vs → RDs K mg n' w' H' ds vs
  | _, _, .nil => .nil
  | _, _, .cons h hs => .cons (RD.mono g h) (RDs.mono g hs)
end
theorem RDs.length : ∀ {ds : List Dv} {vs : List V}, RDs K mg n w H ds vs → ds.length = vs.length
  | _, _, .nil => rfl
  | _, _, .cons _ hs => by simp only [List.length_cons, RDs.length hs]
theorem RDs.append : ∀ {ds es : List Dv} {vs us : List V}, RDs K mg n w H ds vs → RDs K mg n w H es us → RDs K mg n w H (ds ++ es) (vs ++ us)
  | _, _, _, _, .nil, h => h
  | _, _, _, _, .cons h hs, h' => .cons h (RDs.append hs h')
theorem RDs.get : ∀ {ds : List Dv} {vs : List V} {i : Nat} {d : Dv}, RDs K mg n w H ds vs → ds[i]? = some d → ∃ v, vs[i]? = some v ∧ RD K mg n w H d v
  | _, _, _, _, .nil, h => by simp at h
  | _, _, 0, _, .cons h _, e => by
    simp only [List.getElem?_cons_zero, Option.some.injEq] at e
    subst e
    exact ⟨_, rfl, h⟩
  | _, _, i + 1, d, .cons _ hs, e => by
    obtain ⟨v, h1, h2⟩ := RDs.get (i := i) (d := d) hs (by simpa using e)
    exact ⟨v, by simpa using h1, h2⟩
theorem RDs.set {d : Dv} {v : V} (h : RD K mg n w H d v) : ∀ {ds : List Dv} {vs : List V} (i : Nat), RDs K mg n w H ds vs → RDs K mg n w H (ds.set i d) (vs.set i v)
  | _, _, _, .nil => .nil
  | _, _, 0, .cons _ hs => .cons h hs
  | _, _, i + 1, .cons q hs => .cons q (RDs.set h i hs)
theorem RDs.take : ∀ {ds : List Dv} {vs : List V} (k : Nat), RDs K mg n w H ds vs → RDs K mg n w H (ds.take k) (vs.take k)
  | _, _, 0, _ => by simpa using RDs.nil
  | _, _, _ + 1, .nil => .nil
  | _, _, k + 1, .cons h hs => .cons h (RDs.take k hs)
theorem RDs.drop : ∀ {ds : List Dv} {vs : List V} (k : Nat), RDs K mg n w H ds vs → RDs K mg n w H (ds.drop k) (vs.drop k)
  | _, _, 0, h => h
  | _, _, _ + 1, .nil => .nil
  | _, _, k + 1, .cons _ hs => RDs.drop k hs
theorem RDs.eraseIdx : ∀ {ds : List Dv} {vs : List V} (k : Nat), RDs K mg n w H ds vs → RDs K mg n w H (ds.eraseIdx k) (vs.eraseIdx k)
  | _, _, _, .nil => .nil
  | _, _, 0, .cons _ hs => hs
  | _, _, k + 1, .cons h hs => .cons h (RDs.eraseIdx k hs)
theorem RDs.ofP : ∀ {ds : List PyData} {vs : List V}, RPs K w.I H ds vs → RDs K mg n w H (ds.map Dv.p) vs
  | _, _, .nil => .nil
  | _, _, .cons h hs => .cons (.p h) (RDs.ofP hs)
/-- all of them pure data -/
def pures : List Dv → Option (List PyData)
  | [] => some []
  | .p x :: r => (pures r).map (x :: ·)
  | _ :: _ => none
theorem pures_map : ∀ ds : List PyData, pures (ds.map Dv.p) = some ds
  | [] => rfl
  | d :: ds => by
    show (pures (ds.map Dv.p)).map (d :: ·) = some (d :: ds)
    rw [pures_map ds]; rfl
theorem pures_eq : ∀ {ds : List Dv} {xs : List PyData}, pures ds = some xs → ds = xs.map Dv.p
  | [], xs, h => by cases h; rfl
  | .p x :: r, xs, h => by
    have h' : (pures r).map (x :: ·) = some xs := h
    cases e : pures r with
    | none => rw [e] at h'; cases h'
    | some ys =>
      rw [e] at h'
      cases h'
      rw [pures_eq e]; rfl
  | .ref _ :: _, _, h => by cases h
  | .tupD _ :: _, _, h => by cases h
  | .lstD _ :: _, _, h => by cases h
  | .exc _ _ :: _, _, h => by cases h
  | .frz _ :: _, _, h => by cases h
theorem RDs.toP : ∀ {ds : List Dv} {xs : List PyData} {vs : List V}, RDs K mg n w H ds vs → pures ds = some xs → RPs K w.I H xs vs
  | _, _, _, h, e => by
    rw [pures_eq e] at h
    exact go h
where go : ∀ {xs : List PyData} {vs : List V}, RDs K mg n w H (xs.map Dv.p) vs → RPs K w.I H xs vs
  | [], _, h => by cases h; exact .nil
  | x :: xs, _, h => by
    cases h with
    | cons h1 h2 =>
      cases h1 with
      | p q => exact .cons q (go h2)
end

/-! ### the store -/
def live (st : So) (i : Nat) : Prop := ∃ c, st[i]? = some c ∧ c ≠ .dead
def CellOk (K : PySem.W.Frag) (mg : Str → Option Value) (n : Nat) (w : Wd) (H : Hp) (a : Addr) : Cl → Prop
  | .lst xs => ∃ vs, H a = some (.lst vs) ∧ RDs K mg n w H xs vs ∧ ¬ w.I a
  | .dK kvs => ∃ kws, H a = some (.dK kws) ∧ Paired (fun (p : Key × Dv) (q : Key × V) => p.1 = q.1 ∧ RD K mg n w H p.2 q.2) kvs kws ∧ ¬ w.I a
  | .dT kvs => ∃ kws, H a = some (.dT kws) ∧ Paired (fun (p : List Key × Dv) (q : List Key × V) => p.1 = q.1 ∧ RD K mg n w H p.2 q.2) kvs kws ∧ ¬ w.I a
  | .dead => True
structure Sim (K : PySem.W.Frag) (mg : Str → Option Value) (w : Wd) (st : So) (H : Hp) : Prop where
  cell : ∀ i c, st[i]? = some c → CellOk K mg st.length w H (w.m i) c
  inj : ∀ i j, live st i → live st j → w.m i = w.m j → i = j
  trk : ∀ a, w.I a → ∃ o, H a = some o
  fr : ∀ a, w.F a → (∃ o, H a = some o) ∧ ¬ w.I a ∧ ∀ i, live st i → w.m i ≠ a
section
variable {K : PySem.W.Frag} {mg : Str → Option Value} {n n' : Nat} {w w' : Wd} {st : So} {H H' : Hp} {a p : Addr} {c : Cl} {o : HO}
theorem Paired.imp {α β : Type} {F G : α → β → Prop} (f : ∀ a b, F a b → G a b) : ∀ {l : List α} {m : List β}, Paired F l m → Paired G l m
  | _, _, .nil => .nil
  | _, _, .cons h t => .cons (f _ _ h) (Paired.imp f t)
theorem CellOk.mono (g : Stp n w H n' w' H') (hH : c ≠ .dead → H' a = H a ∧ (w'.I a → w.I a)) (h : CellOk K mg n w H a c) : CellOk K mg n' w' H' a c := by
  cases c with
  | lst xs =>
    obtain ⟨vs, e, r, ni⟩ := h
    obtain ⟨e1, e2⟩ := hH (by simp)
    exact ⟨vs, by rw [e1, e], r.mono g, fun z => ni (e2 z)⟩
  | dK kvs =>
    obtain ⟨vs, e, r, ni⟩ := h
    obtain ⟨e1, e2⟩ := hH (by simp)
    exact ⟨vs, by rw [e1, e], Paired.imp (fun _ _ z => ⟨z.1, z.2.mono g⟩) r, fun z => ni (e2 z)⟩
  | dT kvs =>
    obtain ⟨vs, e, r, ni⟩ := h
    obtain ⟨e1, e2⟩ := hH (by simp)
    exact ⟨vs, by rw [e1, e], Paired.imp (fun _ _ z => ⟨z.1, z.2.mono g⟩) r, fun z => ni (e2 z)⟩
  | dead => trivial
theorem CellOk.tracked (h : CellOk K mg n w H a c) (hc : c ≠ .dead) : (∃ o, H a = some o) ∧ ¬ w.I a := by
  cases c with
  | lst xs => obtain ⟨_, e, _, ni⟩ := h; exact ⟨⟨_, e⟩, ni⟩
  | dK kvs => obtain ⟨_, e, _, ni⟩ := h; exact ⟨⟨_, e⟩, ni⟩
  | dT kvs => obtain ⟨_, e, _, ni⟩ := h; exact ⟨⟨_, e⟩, ni⟩
  | dead => exact absurd rfl hc
mutual
theorem RD.noF {F : Addr → Prop} : ∀ {d : Dv} {v : V}, RD K mg n w H d v → RD K mg n { w with F := F } H d v
  | _, _, .p h => .p h
  | _, _, .ref h => .ref (w := { w with F := F }) h
  | _, _, .tupD h hs => .tupD h (RDs.noF hs)
  | _, _, .lstD h hs => .lstD h (RDs.noF hs)
  | _, _, .frz h => .frz h
  | _, _, .exc m i e => .exc m i e
theorem RDs.noF {F : Addr → Prop} : ∀ {ds : List Dv} {vs : List V}, RDs K mg n w H ds vs → RDs K mg n { w with F := F } H ds vs
  | _, _, .nil => .nil
  | _, _, .cons h hs => .cons (RD.noF h) (RDs.noF hs)
end
theorem CellOk.noF (h : CellOk K mg n w H a c) : CellOk K mg n { w with F := fun _ => False } H a c := by
  cases c with
  | lst xs =>
    obtain ⟨vs, e, r, ni⟩ := h
    exact ⟨vs, e, r.noF, ni⟩
  | dK kvs =>
    obtain ⟨vs, e, r, ni⟩ := h
    exact ⟨vs, e, Paired.imp (fun _ _ z => ⟨z.1, z.2.noF⟩) r, ni⟩
  | dT kvs =>
    obtain ⟨vs, e, r, ni⟩ := h
    exact ⟨vs, e, Paired.imp (fun _ _ z => ⟨z.1, z.2.noF⟩) r, ni⟩
  | dead => trivial
theorem Sim.tracked (s : Sim K mg w st H) {i : Nat} (h : live st i) : (∃ o, H (w.m i) = some o) ∧ ¬ w.I (w.m i) := by
  obtain ⟨c, e, hc⟩ := h
  exact (s.cell i c e).tracked hc
/-- I with one more -/
def Wd.imm (w : Wd) (p : Addr) : Wd := { w with I := fun a => a = p ∨ w.I a }
/-- m with one more -/
def Wd.cel (w : Wd) (n : Nat) (p : Addr) : Wd := { w with m := fun i => if i = n then p else w.m i }
theorem rd_upd (hp : H p = none) {u : HO} (h : H a = some u) : upd H p o a = some u := by
  rw [upd_ne (ne_of_none h hp)]; exact h
/-- a new object that stays: a tuple, a list, a dict that nothing changes -/
theorem Sim.newP (s : Sim K mg w st H) (hp : H p = none) : Stp st.length w H st.length (w.imm p) (upd H p o) ∧ Sim K mg (w.imm p) st (upd H p o) := by
  have g : Stp st.length w H st.length (w.imm p) (upd H p o) := ⟨Nat.le_refl _, fun _ _ => rfl, ⟨fun a h => .inr h, fun a u _ r => rd_upd hp r⟩, ⟨fun a h => h, fun a u _ r => rd_upd hp r⟩⟩
  refine ⟨g, fun i c e => ?_, s.inj, fun a h => ?_, fun a h => ?_⟩
  · refine (s.cell i c e).mono g fun hc => ?_
    obtain ⟨⟨z, hz⟩, _⟩ := (s.cell i c e).tracked hc
    have ne : w.m i ≠ p := ne_of_none hz hp
    exact ⟨upd_ne ne, fun q => q.elim (fun q => absurd q ne) id⟩
  · rcases h with h | h
    · exact ⟨o, by rw [h, upd_same]⟩
    · obtain ⟨z, hz⟩ := s.trk a h
      exact ⟨z, by rw [upd_ne (ne_of_none hz hp)]; exact hz⟩
  · obtain ⟨⟨z, hz⟩, h2, h3⟩ := s.fr a h
    exact ⟨⟨z, rd_upd hp hz⟩, fun q => q.elim (fun q => ne_of_none hz hp q) h2, h3⟩
theorem live_append {st : So} {c : Cl} {i : Nat} (h : live (st ++ [c]) i) : live st i ∨ i = st.length := by
  obtain ⟨d, e, hd⟩ := h
  by_cases hi : i < st.length
  · rw [List.getElem?_append_left hi] at e
    exact .inl ⟨d, e, hd⟩
  · have : i < (st ++ [c]).length := (List.getElem?_eq_some_iff.mp e).1
    rw [List.length_append, List.length_singleton] at this
    exact .inr (by omega)
theorem live_lt {st : So} {i : Nat} (h : live st i) : i < st.length := by
  obtain ⟨c, e, _⟩ := h
  exact (List.getElem?_eq_some_iff.mp e).1
/-- a new cell -/
theorem Sim.newC (s : Sim K mg w st H) (hp : H p = none) (hc : ∀ {n' w' H'}, Stp st.length w H n' w' H' → H' p = some o → ¬ w'.I p → CellOk K mg n' w' H' p c) :
    Stp st.length w H (st.length + 1) (w.cel st.length p) (upd H p o) ∧ Sim K mg (w.cel st.length p) (st ++ [c]) (upd H p o) := by
  have g : Stp st.length w H (st.length + 1) (w.cel st.length p) (upd H p o) := by
    refine ⟨Nat.le_succ _, fun i hi => ?_, ⟨fun a h => h, fun a u _ r => rd_upd hp r⟩, ⟨fun a h => h, fun a u _ r => rd_upd hp r⟩⟩
    show (if i = st.length then p else w.m i) = w.m i
    rw [if_neg (Nat.ne_of_lt hi)]
  have nI : ¬ w.I p := fun z => by
    obtain ⟨q, e⟩ := s.trk p z
    rw [hp] at e; cases e
  have mi : ∀ i, i < st.length → (w.cel st.length p).m i = w.m i := fun i hi => g.ext i hi
  have ml : (w.cel st.length p).m st.length = p := by
    show (if st.length = st.length then p else _) = p
    rw [if_pos rfl]
  refine ⟨g, fun i d e => ?_, fun i j hi hj e => ?_, fun a h => ?_, fun a h => ?_⟩
  · rw [List.length_append, List.length_singleton]
    by_cases hi : i < st.length
    · rw [List.getElem?_append_left hi] at e
      rw [mi i hi]
      refine (s.cell i d e).mono g fun hd => ?_
      obtain ⟨⟨z, hz⟩, _⟩ := (s.cell i d e).tracked hd
      exact ⟨upd_ne (ne_of_none hz hp), id⟩
    · have hl : i < (st ++ [c]).length := (List.getElem?_eq_some_iff.mp e).1
      rw [List.length_append, List.length_singleton] at hl
      have ei : i = st.length := by omega
      subst ei
      rw [List.getElem?_append_right (Nat.le_refl _), Nat.sub_self] at e
      simp only [List.getElem?_cons_zero, Option.some.injEq] at e
      subst e
      rw [ml]
      exact hc g upd_same nI
  · rcases live_append hi with li | ei <;> rcases live_append hj with lj | ej
    · rw [mi i (live_lt li), mi j (live_lt lj)] at e
      exact s.inj i j li lj e
    · subst ej
      rw [mi i (live_lt li), ml] at e
      obtain ⟨⟨z, hz⟩, _⟩ := s.tracked li
      exact absurd e (ne_of_none hz hp)
    · subst ei
      rw [mi j (live_lt lj), ml] at e
      obtain ⟨⟨z, hz⟩, _⟩ := s.tracked lj
      exact absurd e.symm (ne_of_none hz hp)
    · rw [ei, ej]
  · obtain ⟨z, hz⟩ := s.trk a h
    exact ⟨z, by rw [upd_ne (ne_of_none hz hp)]; exact hz⟩
  · obtain ⟨⟨z, hz⟩, h2, h3⟩ := s.fr a h
    refine ⟨⟨z, rd_upd hp hz⟩, h2, fun i hi => ?_⟩
    rcases live_append hi with li | ei
    · rw [mi i (live_lt li)]
      exact h3 i li
    · subst ei
      rw [ml]
      exact (ne_of_none hz hp).symm
theorem live_set {st : So} {c : Cl} {i j : Nat} (hj : live st j) (h : live (st.set j c) i) : live st i := by
  obtain ⟨d, e, hd⟩ := h
  by_cases hij : j = i
  · subst hij; exact hj
  · rw [List.getElem?_set_ne hij] at e
    exact ⟨d, e, hd⟩
/-- a cell is written -/
theorem Sim.wr (s : Sim K mg w st H) {j : Nat} (hj : live st j) (hc : ∀ {w' H'}, Stp st.length w H st.length w' H' → H' (w.m j) = some o → ¬ w'.I (w.m j) → CellOk K mg st.length w' H' (w.m j) c) :
    Stp st.length w H st.length w (upd H (w.m j) o) ∧ Sim K mg w (st.set j c) (upd H (w.m j) o) := by
  obtain ⟨⟨oj, hoj⟩, nI⟩ := s.tracked hj
  have g : Stp st.length w H st.length w (upd H (w.m j) o) := by
    refine ⟨Nat.le_refl _, fun i hi => rfl, ⟨fun a h => h, fun a u ia r => ?_⟩, ⟨fun a h => h, fun a u ia r => ?_⟩⟩
    · have ne : a ≠ w.m j := fun z => nI (z ▸ ia)
      rw [upd_ne ne]; exact r
    · rw [upd_ne ((s.fr a ia).2.2 j hj).symm]; exact r
  refine ⟨g, fun i d e => ?_, fun i k hi hk e => s.inj i k (live_set hj hi) (live_set hj hk) e, fun a h => ?_, fun a h => ?_⟩
  · rw [List.length_set]
    by_cases hij : j = i
    · subst hij
      rw [List.getElem?_set_self (live_lt hj)] at e
      simp only [Option.some.injEq] at e
      subst e
      exact hc g upd_same nI
    · rw [List.getElem?_set_ne hij] at e
      refine (s.cell i d e).mono g fun hd => ?_
      have ne : w.m i ≠ w.m j := fun z => hij (s.inj i j ⟨d, e, hd⟩ hj z).symm
      exact ⟨upd_ne ne, id⟩
  · by_cases e : a = w.m j
    · exact ⟨o, by rw [e, upd_same]⟩
    · obtain ⟨z, hz⟩ := s.trk a h
      exact ⟨z, by rw [upd_ne e]; exact hz⟩
  · obtain ⟨⟨z, hz⟩, h2, h3⟩ := s.fr a h
    exact ⟨⟨z, by rw [upd_ne (h3 j hj).symm]; exact hz⟩, h2, fun i hi => h3 i (live_set hj hi)⟩
/-- a cell that is not changed any more becomes data -/
theorem Sim.frz (s : Sim K mg w st H) {j : Nat} (hj : live st j) : Stp st.length w H st.length (w.imm (w.m j)) H ∧ Sim K mg (w.imm (w.m j)) (st.set j .dead) H := by
  obtain ⟨⟨oj, hoj⟩, nI⟩ := s.tracked hj
  have g : Stp st.length w H st.length (w.imm (w.m j)) H := ⟨Nat.le_refl _, fun _ _ => rfl, ⟨fun a h => .inr h, fun _ _ _ r => r⟩, .refl⟩
  refine ⟨g, fun i d e => ?_, fun i k hi hk e => s.inj i k (live_set hj hi) (live_set hj hk) e, fun a h => ?_, fun a h => ?_⟩
  · rw [List.length_set]
    by_cases hij : j = i
    · subst hij
      rw [List.getElem?_set_self (live_lt hj)] at e
      simp only [Option.some.injEq] at e
      subst e
      trivial
    · rw [List.getElem?_set_ne hij] at e
      refine (s.cell i d e).mono g fun hd => ⟨rfl, fun q => q.elim (fun q => ?_) id⟩
      exact absurd (s.inj i j ⟨d, e, hd⟩ hj q).symm hij
  · rcases h with h | h
    · exact ⟨oj, by rw [h]; exact hoj⟩
    · exact s.trk a h
  · obtain ⟨h1, h2, h3⟩ := s.fr a h
    exact ⟨h1, fun q => q.elim (fun q => h3 j hj q.symm) h2, fun i hi => h3 i (live_set hj hi)⟩
/-- something is set aside: neither data nor a cell -/
def Wd.aside (w : Wd) (p : Addr) : Wd := { w with F := fun a => a = p ∨ w.F a }
theorem Sim.put (s : Sim K mg w st H) (hp : H p = none) : Stp st.length w H st.length (w.aside p) (upd H p o) ∧ Sim K mg (w.aside p) st (upd H p o) := by
  have g : Stp st.length w H st.length (w.aside p) (upd H p o) := ⟨Nat.le_refl _, fun _ _ => rfl, ⟨fun a h => h, fun a u _ r => rd_upd hp r⟩, ⟨fun a h => .inr h, fun a u _ r => rd_upd hp r⟩⟩
  refine ⟨g, fun i c e => ?_, s.inj, fun a h => ?_, fun a h => ?_⟩
  · refine (s.cell i c e).mono g fun hc => ?_
    obtain ⟨⟨z, hz⟩, _⟩ := (s.cell i c e).tracked hc
    exact ⟨upd_ne (ne_of_none hz hp), id⟩
  · obtain ⟨z, hz⟩ := s.trk a h
    exact ⟨z, rd_upd hp hz⟩
  · rcases h with h | h
    · subst h
      refine ⟨⟨o, upd_same⟩, fun q => ?_, fun i hi => ?_⟩
      · obtain ⟨z, hz⟩ := s.trk a q
        rw [hp] at hz; cases hz
      · obtain ⟨⟨z, hz⟩, _⟩ := s.tracked hi
        exact ne_of_none hz hp
    · obtain ⟨⟨z, hz⟩, h2, h3⟩ := s.fr a h
      exact ⟨⟨z, rd_upd hp hz⟩, h2, h3⟩
/-- it is no longer set aside, and gone -/
def Wd.back (w : Wd) (F : Addr → Prop) : Wd := { w with F := F }
def era (H : Hp) (p : Addr) : Hp := fun b => if b = p then none else H b
theorem era_same : era H p p = none := by unfold era; rw [if_pos rfl]
theorem era_ne {b : Addr} (h : b ≠ p) : era H p b = H b := by unfold era; rw [if_neg h]
theorem upd_era : upd (era H p) p o = upd H p o := by
  funext b
  by_cases h : b = p
  · subst h; rw [upd_same, upd_same]
  · rw [upd_ne h, upd_ne h, era_ne h]
theorem era_upd (hp : H p = none) : era (upd H p o) p = H := by
  funext b
  by_cases h : b = p
  · subst h; rw [era_same, hp]
  · rw [era_ne h, upd_ne h]
theorem Sim.drop {F : Addr → Prop} (s : Sim K mg w st H) (hp : w.F p) (hF : ∀ a, F a → w.F a ∧ a ≠ p) : Sim K mg (w.back F) st (era H p) ∧
    (∀ {n0 w0 H0}, Stp n0 w0 H0 st.length w H → (∀ a, w0.F a → F a) → Stp n0 w0 H0 st.length (w.back F) (era H p)) ∧
    Stp st.length { w with F := fun _ => False } H st.length (w.back F) (era H p) := by
  obtain ⟨⟨z, hz⟩, h2, h3⟩ := s.fr p hp
  have nI : ∀ a, w.I a → a ≠ p := fun a h q => by rw [q] at h; exact h2 h
  have g0 : Stp st.length { w with F := fun _ => False } H st.length (w.back F) (era H p) :=
    ⟨Nat.le_refl _, fun _ _ => rfl, ⟨fun _ h => h, fun a u ia r => by rw [era_ne (nI a ia)]; exact r⟩, ⟨fun _ h => h.elim, fun _ _ h => h.elim⟩⟩
  refine ⟨⟨fun i c e => ?_, s.inj, fun a h => ?_, fun a h => ?_⟩, fun {n0 w0 H0} g hF0 => ⟨g.le, g.ext, ⟨g.gro.inc, fun a u ha e => ?_⟩, ⟨hF0, fun a u ha e => ?_⟩⟩, g0⟩
  · have hc := s.cell i c e
    by_cases hd : c = .dead
    · subst hd; trivial
    · have ne : w.m i ≠ p := h3 i ⟨c, e, hd⟩
      exact CellOk.mono g0 (fun _ => ⟨era_ne ne, id⟩) (CellOk.noF hc)
  · obtain ⟨y, hy⟩ := s.trk a h
    exact ⟨y, by rw [era_ne (nI a h)]; exact hy⟩
  · obtain ⟨ha, hne⟩ := hF a h
    obtain ⟨⟨y, hy⟩, q2, q3⟩ := s.fr a ha
    exact ⟨⟨y, by rw [era_ne hne]; exact hy⟩, q2, q3⟩
  · rw [era_ne (nI a (g.gro.inc a ha))]
    exact g.gro.imm a u ha e
  · rw [era_ne (hF a (hF0 a ha)).2]
    exact g.frm.imm a u ha e
theorem RD.back {d : Dv} {v : V} (g : Stp n { w with F := fun _ => False } H n' w' H') (h : RD K mg n w H d v) : RD K mg n' w' H' d v := h.noF.mono g
theorem RDs.back {d : List Dv} {v : List V} (g : Stp n { w with F := fun _ => False } H n' w' H') (h : RDs K mg n w H d v) : RDs K mg n' w' H' d v := h.noF.mono g
end
end FB
set_option Elab.async false
set_option linter.all false
set_option maxRecDepth 100000
set_option maxHeartbeats 4000000
/-! FB1: functions over data and store as readings; the rules of expressions, tests, arguments, statements. -/
namespace FB
open PySem PySem.Spec PyProof.Rows L2

def EnvR (K : PySem.W.Frag) (mg : Str → Option Value) (n : Nat) (w : Wd) (H : Hp) (ρ : Sl) (σ : L2.St) : Prop :=
  ρ.length = σ.length ∧ ∀ (i : Nat) (d : Dv), ρ[i]? = some (some d) → ∃ v, σ[i]? = some (some v) ∧ RD K mg n w H d v
def ExR (K : PySem.W.Frag) (mg : Str → Option Value) (w : Wd) (H : Hp) (c : Str) (fs : List (Str × PyData)) (cv : Value) (dd : Option Addr) : Prop :=
  ∃ C, mg c = some (.ref C) ∧ cv = .ref C ∧ ((fs = [] ∧ dd = none) ∨ ∃ d vs, fs ≠ [] ∧ dd = some d ∧ w.I d ∧ H d = some (.xd vs) ∧ Paired (fun (p : Str × PyData) (q : Str × V) => p.1 = q.1 ∧ RP K w.I H p.2 q.2) fs vs)

def Good {α β : Type} (Rel : Nat → Wd → Hp → α → β → Prop) (K : PySem.W.Frag) (mg : Str → Option Value) (W : WX) (σ : L2.St) (n : Nat) (w : Wd) (H : Hp) (Q : β → Hp → Prop) : Rs α → Prop
  | .ok a st' => ∀ w' H' b, Stp n w H st'.length w' H' → Sim K mg w' st' H' → Rel st'.length w' H' a b → Q b H'
  | .exc c fs st' => ∀ w' H' cv dd, Stp n w H st'.length w' H' → Sim K mg w' st' H' → ExR K mg w' H' c fs cv dd → W cv dd σ H'
  | .stuck => False
def RelB : Nat → Wd → Hp → Bool → Bool → Prop := fun _ _ _ a b => a = b

section
variable {K : PySem.W.Frag} {mg : Str → Option Value} {W : WX} {σ : L2.St} {n n' : Nat} {w w' : Wd} {H H' : Hp} {ρ : Sl} {st : So}
theorem EnvR.mono (g : Stp n w H n' w' H') (h : EnvR K mg n w H ρ σ) : EnvR K mg n' w' H' ρ σ := ⟨h.1, fun i d e => by
  obtain ⟨v, e1, r⟩ := h.2 i d e
  exact ⟨v, e1, r.mono g⟩⟩
theorem EnvR.set {d : Dv} {v : V} (h : EnvR K mg n w H ρ σ) (r : RD K mg n w H d v) (i : Nat) : EnvR K mg n w H (ρ.set i (some d)) (σ.set i (some v)) := by
  refine ⟨by rw [List.length_set, List.length_set, h.1], fun j e he => ?_⟩
  by_cases hij : i = j
  · subst hij
    by_cases hi : i < ρ.length
    · rw [List.getElem?_set_self hi] at he
      cases he
      exact ⟨v, List.getElem?_set_self (by rw [← h.1]; exact hi), r⟩
    · rw [List.getElem?_eq_none (by rw [List.length_set]; omega)] at he
      cases he
  · rw [List.getElem?_set_ne hij] at he
    rw [List.getElem?_set_ne hij]
    exact h.2 j e he
theorem EnvR.setN (h : EnvR K mg n w H ρ σ) (i : Nat) : EnvR K mg n w H (ρ.set i none) (σ.set i none) := by
  refine ⟨by rw [List.length_set, List.length_set, h.1], fun j e he => ?_⟩
  by_cases hij : i = j
  · subst hij
    by_cases hi : i < ρ.length
    · rw [List.getElem?_set_self hi] at he
      cases he
    · rw [List.getElem?_eq_none (by rw [List.length_set]; omega)] at he
      cases he
  · rw [List.getElem?_set_ne hij] at he
    rw [List.getElem?_set_ne hij]
    exact h.2 j e he
theorem Good.later {α β : Type} {Rel : Nat → Wd → Hp → α → β → Prop} {Q : β → Hp → Prop} {r : Rs α} (g : Stp n w H n' w' H') (h : Good Rel K mg W σ n w H Q r) : Good Rel K mg W σ n' w' H' Q r := by
  cases r with
  | ok a st' => exact fun w2 H2 b s => h w2 H2 b (g.trans s)
  | exc c fs st' => exact fun w2 H2 cv dd s => h w2 H2 cv dd (g.trans s)
  | stuck => exact h
theorem Good.imp {α β : Type} {Rel : Nat → Wd → Hp → α → β → Prop} {Q Q' : β → Hp → Prop} {r : Rs α} (hq : ∀ b H', Q b H' → Q' b H') (h : Good Rel K mg W σ n w H Q r) : Good Rel K mg W σ n w H Q' r := by
  cases r with
  | ok a st' => exact fun w2 H2 b s s' q => hq _ _ (h w2 H2 b s s' q)
  | exc c fs st' => exact h
  | stuck => exact h
theorem Good.bind {α β γ δ : Type} {Rel : Nat → Wd → Hp → α → β → Prop} {Rel' : Nat → Wd → Hp → γ → δ → Prop} {Q : δ → Hp → Prop} {r : Rs α} {f : α → So → Rs γ} (h : Good Rel' K mg W σ n w H Q (r.bind f)) :
    Good Rel K mg W σ n w H (fun b H1 => ∃ st1 w1 a, Sim K mg w1 st1 H1 ∧ Stp n w H st1.length w1 H1 ∧ Rel st1.length w1 H1 a b ∧ Good Rel' K mg W σ st1.length w1 H1 Q (f a st1)) r := by
  cases r with
  | ok a st' =>
    intro w1 H1 b s sim rel
    exact ⟨st', w1, a, sim, s, rel, Good.later s h⟩
  | exc c fs st' => exact h
  | stuck => exact h
end

/-- readings of functions over data -/
def TF (K : PySem.W.Frag) (mg : Str → Option Value) (W : WX) (f : FE) : TE := fun σ H Q => ∃ ρ st w, Sim K mg w st H ∧ EnvR K mg st.length w H ρ σ ∧ Good (RD K mg) K mg W σ st.length w H Q (f ρ st)
def TFT (K : PySem.W.Frag) (mg : Str → Option Value) (W : WX) (f : FT) : TT := fun σ H Q => ∃ ρ st w, Sim K mg w st H ∧ EnvR K mg st.length w H ρ σ ∧ Good RelB K mg W σ st.length w H Q (f ρ st)
def TFA (K : PySem.W.Frag) (mg : Str → Option Value) (W : WX) (f : FA) : TA := fun σ H Q => ∃ ρ st w, Sim K mg w st H ∧ EnvR K mg st.length w H ρ σ ∧ Good (RDs K mg) K mg W σ st.length w H Q (f ρ st)
/-- a new list that nothing else holds: its items -/
def TFL (K : PySem.W.Frag) (mg : Str → Option Value) (W : WX) (f : FA) : TE := fun σ H Q => ∃ ρ st w, Sim K mg w st H ∧ EnvR K mg st.length w H ρ σ ∧
  Good (RDs K mg) K mg W σ st.length w H (fun vs H' => ∀ p, H' p = none → vs.length ≤ sizeLine → Q (.ref p) (upd H' p (.lst vs))) (f ρ st)
def GoodS (K : PySem.W.Frag) (mg : Str → Option Value) (W : WX) (n : Nat) (w : Wd) (H : Hp) (D : Ends) : Ss → Prop
  | .nx ρ' st' => ∀ w' H' σ', Stp n w H st'.length w' H' → Sim K mg w' st' H' → EnvR K mg st'.length w' H' ρ' σ' → D.nx σ' H'
  | .ret d st' => ∀ w' H' v, Stp n w H st'.length w' H' → Sim K mg w' st' H' → RD K mg st'.length w' H' d v → D.rt v H'
  | .brk ρ' st' => ∀ w' H' σ', Stp n w H st'.length w' H' → Sim K mg w' st' H' → EnvR K mg st'.length w' H' ρ' σ' → D.bk σ' H'
  | .cnt ρ' st' => ∀ w' H' σ', Stp n w H st'.length w' H' → Sim K mg w' st' H' → EnvR K mg st'.length w' H' ρ' σ' → D.ct σ' H'
  | .exc c fs ρ' st' => ∀ w' H' σ' cv dd, Stp n w H st'.length w' H' → Sim K mg w' st' H' → EnvR K mg st'.length w' H' ρ' σ' → ExR K mg w' H' c fs cv dd → W cv dd σ' H'
  | .stuck => False
def TFS (K : PySem.W.Frag) (mg : Str → Option Value) (W : WX) (f : FS) : TS := fun D σ H => ∃ ρ st w, Sim K mg w st H ∧ EnvR K mg st.length w H ρ σ ∧ GoodS K mg W st.length w H D (f ρ st)

def PF (X : Cx) (W : WX) (e : Expr) (f : FE) : Prop := PE X e (TF X.K X.mg W f)
def PFT (X : Cx) (W : WX) (e : Expr) (f : FT) : Prop := PT X e (TFT X.K X.mg W f)
def PFA (X : Cx) (W : WX) (es : List Expr) (f : FA) : Prop := PA X es (TFA X.K X.mg W f)
def PFL (X : Cx) (W : WX) (e : Expr) (f : FA) : Prop := PE X e (TFL X.K X.mg W f)
def PFS (X : Cx) (W : WX) (st : Stmt) (f : FS) : Prop := PS X st (TFS X.K X.mg W f)
def PFSs (X : Cx) (W : WX) (st : List Stmt) (f : FS) : Prop := PSs X st (TFS X.K X.mg W f)

section
variable {X : Cx} {W : WX} {e a b : Expr} {es : List Expr} {fa fb : FE} {f : FE} {pos : Pos}
theorem PE_imp {t t' : TE} (h : PE X e t) (hi : ∀ σ H Q, t' σ H Q → t σ H Q) : PE X e t' := ⟨fun pins s σ H Q I q => h.run pins s σ H Q I (hi σ H Q q)⟩
theorem PT_imp {t t' : TT} (h : PT X e t) (hi : ∀ σ H Q, t' σ H Q → t σ H Q) : PT X e t' := ⟨fun pins s σ H Q I q => h.run pins s σ H Q I (hi σ H Q q)⟩
theorem PA_imp {t t' : TA} (h : PA X es t) (hi : ∀ σ H Q, t' σ H Q → t σ H Q) : PA X es t' := ⟨fun po pins s σ H Q I q => h.run po pins s σ H Q I (hi σ H Q q)⟩
theorem PS_imp {s : Stmt} {t t' : TS} (h : PS X s t) (hi : ∀ D σ H, t' D σ H → t D σ H) : PS X s t' := ⟨fun pins s σ H D I q => h.run pins s σ H D I (hi D σ H q)⟩
theorem PSs_imp {s : List Stmt} {t t' : TS} (h : PSs X s t) (hi : ∀ D σ H, t' D σ H → t D σ H) : PSs X s t' := ⟨fun pins s σ H D I q => h.run pins s σ H D I (hi D σ H q)⟩

/-! ### names, constants -/
def fVar (i : Nat) : FE := fun ρ st => match ρ[i]? with
  | some (some d) => .ok d st
  | _ => .stuck
def fC (d : PyData) : FE := fun _ st => .ok (.p d) st
theorem pf_of_var (i : Nat) (h : PE X e (tVar i)) : PF X W e (fVar i) := PE_imp h fun σ H Q ⟨ρ, st, w, sim, er, g⟩ => by
  unfold fVar at g
  split at g
  · rename_i d hd
    obtain ⟨v, e1, r⟩ := er.2 i d hd
    exact ⟨v, e1, g w H v .refl sim r⟩
  · exact g.elim
theorem pf_of_c {v : V} {d : PyData} (h : PE X e (tC v)) (r : ∀ I H, RP X.K I H d v) : PF X W e (fC d) := PE_imp h fun σ H Q ⟨ρ, st, w, sim, er, g⟩ => g w H v .refl sim (.p (r w.I H))
theorem pf_var (i : Nat) {x : Str} {pos : Pos} (hN : X.N[i]? = some x := by rfl) (hv : Vis X.env.scope x := by first | exact Or.inl rfl | exact Or.inr (Or.inl rfl) | exact Or.inr (Or.inr rfl)) (hd : (x == ("__debug__" : Str)) = false := by decide)
    (hcd : (x == ("__classdict__" : Str)) = false := by decide) : PF X W (.Name x pos) (fVar i) := pf_of_var i (pe_var hN hv hd hcd)
theorem pf_int {i : Int} {j : Nat} {pos : Pos} : PF X W (.Constant (.int i) j pos) (fC (.int i)) := pf_of_c pe_int fun _ _ => .int i
theorem pf_bl {i : Bool} {j : Nat} {pos : Pos} : PF X W (.Constant (.bool i) j pos) (fC (.bool i)) := pf_of_c pe_bl fun _ _ => .bl i
theorem pf_non {j : Nat} {pos : Pos} : PF X W (.Constant .none j pos) (fC .none) := pf_of_c pe_non fun _ _ => .non
theorem pf_str {x : Str} {j : Nat} {pos : Pos} : PF X W (.Constant (.str x) j pos) (fC (.str x)) := pf_of_c pe_str fun _ _ => .str x
/-- a module's constant that is data -/
theorem pf_glob {x : Str} {u : Value} {v : V} {d : PyData} {pos : Pos} (hg : Gl X x) (hm : X.mg x = some u) (r : RelV v u) (rp : ∀ I H, RP X.K I H d v) (hd : (x == ("__debug__" : Str)) = false := by decide) : PF X W (.Name x pos) (fC d) := pf_of_c (pe_glob hg hm r hd) rp

/-! ### two-place operations, one-place ones -/
abbrev G2 := Dv → Dv → So → Option Dv
abbrev G1 := Dv → So → Option Dv
abbrev GA := List Dv → So → Option Dv
def toR (st : So) : Option Dv → Rs Dv
  | some d => .ok d st
  | none => .stuck
def fOp (g : G2) (fa fb : FE) : FE := fun ρ st => (fa ρ st).bind fun x st1 => (fb ρ st1).bind fun y st2 => toR st2 (g x y st2)
def fUn (g : G1) (fa : FE) : FE := fun ρ st => (fa ρ st).bind fun x st1 => toR st1 (g x st1)
/-- what is given lies well: the goal of a rule by values -/
def Lies (K : PySem.W.Frag) (mg : Str → Option Value) (st : So) (w : Wd) (H : Hp) (Q : VK) (d : Dv) : Prop :=
  ∀ w' H' v, Stp st.length w H st.length w' H' → Sim K mg w' st H' → RD K mg st.length w' H' d v → Q v H'
def Im2 (X : Cx) (r : R2) (g : G2) : Prop := ∀ (st : So) (w : Wd) (H : Hp) (x y : Dv) (vx vy : V) (Q : VK) (d : Dv), Sim X.K X.mg w st H → RD X.K X.mg st.length w H x vx → RD X.K X.mg st.length w H y vy →
  g x y st = some d → Lies X.K X.mg st w H Q d → r vx vy H Q
def Im1 (X : Cx) (r : V → Hp → VK → Prop) (g : G1) : Prop := ∀ (st : So) (w : Wd) (H : Hp) (x : Dv) (vx : V) (Q : VK) (d : Dv), Sim X.K X.mg w st H → RD X.K X.mg st.length w H x vx →
  g x st = some d → Lies X.K X.mg st w H Q d → r vx H Q
def ImA (X : Cx) (r : List V → Hp → VK → Prop) (g : GA) : Prop := ∀ (st : So) (w : Wd) (H : Hp) (xs : List Dv) (vs : List V) (Q : VK) (d : Dv), Sim X.K X.mg w st H → RDs X.K X.mg st.length w H xs vs →
  g xs st = some d → Lies X.K X.mg st w H Q d → r vs H Q
theorem lies_of {K : PySem.W.Frag} {mg : Str → Option Value} {σ : L2.St} {st : So} {w : Wd} {H : Hp} {Q : VK} {o : Option Dv} (g : Good (RD K mg) K mg W σ st.length w H Q (toR st o)) : ∃ d, o = some d ∧ Lies K mg st w H Q d := by
  cases o with
  | none => exact g.elim
  | some d => exact ⟨d, rfl, g⟩
theorem tf_op {r : R2} {g : G2} (hi : Im2 X r g) (σ : L2.St) (H : Hp) (Q : VK) (h : TF X.K X.mg W (fOp g fa fb) σ H Q) : tOp r (TF X.K X.mg W fa) (TF X.K X.mg W fb) σ H Q := by
  obtain ⟨ρ, st, w, sim, er, gd⟩ := h
  refine ⟨ρ, st, w, sim, er, Good.imp (fun x H1 q => ?_) (Good.bind gd)⟩
  obtain ⟨st1, w1, d1, sim1, s1, r1, gd1⟩ := q
  refine ⟨ρ, st1, w1, sim1, er.mono s1, Good.imp (fun y H2 q => ?_) (Good.bind gd1)⟩
  obtain ⟨st2, w2, d2, sim2, s2, r2, gd2⟩ := q
  obtain ⟨d, e, l⟩ := lies_of gd2
  exact hi st2 w2 H2 d1 d2 x y Q d sim2 (r1.mono s2) r2 e l
theorem tf_un {r : V → Hp → VK → Prop} {g : G1} (hi : Im1 X r g) (σ : L2.St) (H : Hp) (Q : VK) (h : TF X.K X.mg W (fUn g fa) σ H Q) : tUn r (TF X.K X.mg W fa) σ H Q := by
  obtain ⟨ρ, st, w, sim, er, gd⟩ := h
  refine ⟨ρ, st, w, sim, er, Good.imp (fun x H1 q => ?_) (Good.bind gd)⟩
  obtain ⟨st1, w1, d1, sim1, s1, r1, gd1⟩ := q
  obtain ⟨d, e, l⟩ := lies_of gd1
  exact hi st1 w1 H1 d1 x Q d sim1 r1 e l
theorem pf_op {op : Operator} {r : R2} {g : G2} (ho : OpR X (binaryOp op) r) (hi : Im2 X r g) (ha : PF X W a fa) (hb : PF X W b fb) : PF X W (.BinOp a op b pos) (fOp g fa fb) := PE_imp (pe_op ho ha hb) (tf_op hi)
theorem pf_un {op : UnaryOp} {r : V → Hp → VK → Prop} {g : G1} (ho : UnR X (unaryOp op) r) (hi : Im1 X r g) (ha : PF X W a fa) : PF X W (.UnaryOp op a pos) (fUn g fa) := PE_imp (pe_un ho ha) (tf_un hi)
theorem pf_cmp {op : CmpOp} {r : R2} {g : G2} (ho : OpR X (compareOp op) r) (hi : Im2 X r g) (ha : PF X W a fa) (hb : PF X W b fb) (hm : behindInMarks op b = false := by first | exact nomark _ | rfl) : PF X W (.Compare a [op] [b] pos) (fOp g fa fb) := PE_imp (pe_cmpR ho ha hb hm) (tf_op hi)
theorem pf_ix {r : R2} {g : G2} (ho : IxR X r) (hi : Im2 X r g) (ha : PF X W a fa) (hb : PF X W b fb) (hs : PlainIx b := by intro _ _; rfl) : PF X W (.Subscript a b pos) (fOp g fa fb) := PE_imp (pe_ix ho ha hb hs) (tf_op hi)

/-! ### tests -/
def asB (d : Dv) (st : So) : Rs Bool := match d with
  | .p (.bool b) => .ok b st
  | _ => .stuck
/-- an expression that gives a bool, as a test -/
def fTB (fa : FE) : FT := fun ρ st => (fa ρ st).bind asB
theorem tft_of (σ : L2.St) (H : Hp) (Q : Bool → Hp → Prop) (h : TFT X.K X.mg W (fTB fa) σ H Q) : TF X.K X.mg W fa σ H (fun x H' => ∃ k, x = .bl k ∧ Q k H') := by
  obtain ⟨ρ, st, w, sim, er, gd⟩ := h
  refine ⟨ρ, st, w, sim, er, Good.imp (fun x H1 q => ?_) (Good.bind gd)⟩
  obtain ⟨st1, w1, d1, sim1, s1, r1, gd1⟩ := q
  unfold asB at gd1
  split at gd1
  · rename_i b
    cases r1 with
    | p h1 =>
      cases h1
      exact ⟨b, rfl, gd1 w1 H1 b .refl sim1 rfl⟩
  · exact gd1.elim
theorem pft_cmp {op : CmpOp} {r : R2} {g : G2} (ho : OpR X (compareOp op) r) (hi : Im2 X r g) (ha : PF X W a fa) (hb : PF X W b fb) (hm : behindInMarks op b = false := by first | exact nomark _ | rfl) : PFT X W (.Compare a [op] [b] pos) (fTB (fOp g fa fb)) :=
  PT_imp (pt_cmpR ho ha hb hm) fun σ H Q h => tf_op hi σ H _ (tft_of σ H Q h)
theorem pft_val (ha : PF X W a fa) (he : ∀ whole, isTrue a X.env whole = (do let v ← whole; standAt a.pos; holding [v] (truthy v)) := by intro _; rfl) : PFT X W a (fTB fa) :=
  PT_imp (pt_val ha he) fun σ H Q h => tft_of σ H Q h
def fTNot (t : FT) : FT := fun ρ st => (t ρ st).bind fun b st1 => .ok (!b) st1
def fTAnd (t u : FT) : FT := fun ρ st => (t ρ st).bind fun b st1 => if b then u ρ st1 else .ok false st1
def fTOr (t u : FT) : FT := fun ρ st => (t ρ st).bind fun b st1 => if b then .ok true st1 else u ρ st1
variable {t u : FT} {rest : List Expr}
theorem pft_not (ha : PFT X W a t) : PFT X W (.UnaryOp .Not a pos) (fTNot t) := PT_imp (pt_not ha) fun σ H Q h => by
  obtain ⟨ρ, st, w, sim, er, gd⟩ := h
  refine ⟨ρ, st, w, sim, er, Good.imp (fun x H1 q => ?_) (Good.bind gd)⟩
  obtain ⟨st1, w1, d1, sim1, s1, r1, gd1⟩ := q
  obtain rfl : d1 = x := r1
  exact gd1 w1 H1 (!d1) .refl sim1 rfl
def PFW (X : Cx) (W : WX) (e : Expr) (f : FT) : Prop := PW X e (TFT X.K X.mg W f)
theorem PW_imp {t t' : TT} (h : PW X e t) (hi : ∀ σ H Q, t' σ H Q → t σ H Q) : PW X e t' := ⟨fun wh pins s σ H Q I q => h.run wh pins s σ H Q I (hi σ H Q q)⟩
theorem PFW.pt {f : FT} (h : PFW X W e f) : PFT X W e f := PW.pt h
theorem pfw_and1 (ha : PFT X W a t) : PFW X W (.BoolOp .And [a] pos) t := pw_and1 ha
theorem pfw_or1 (ha : PFT X W a t) : PFW X W (.BoolOp .Or [a] pos) t := pw_or1 ha
theorem tft_and (σ : L2.St) (H : Hp) (Q : Bool → Hp → Prop) (h : TFT X.K X.mg W (fTAnd t u) σ H Q) : tAnd (TFT X.K X.mg W t) (TFT X.K X.mg W u) σ H Q := by
  obtain ⟨ρ, st, w, sim, er, gd⟩ := h
  refine ⟨ρ, st, w, sim, er, Good.imp (fun x H1 q => ?_) (Good.bind gd)⟩
  obtain ⟨st1, w1, d1, sim1, s1, r1, gd1⟩ := q
  obtain rfl : d1 = x := r1
  cases d1 with
  | true => exact ⟨ρ, st1, w1, sim1, er.mono s1, gd1⟩
  | false => exact gd1 w1 H1 false .refl sim1 rfl
theorem tft_or (σ : L2.St) (H : Hp) (Q : Bool → Hp → Prop) (h : TFT X.K X.mg W (fTOr t u) σ H Q) : tOr (TFT X.K X.mg W t) (TFT X.K X.mg W u) σ H Q := by
  obtain ⟨ρ, st, w, sim, er, gd⟩ := h
  refine ⟨ρ, st, w, sim, er, Good.imp (fun x H1 q => ?_) (Good.bind gd)⟩
  obtain ⟨st1, w1, d1, sim1, s1, r1, gd1⟩ := q
  obtain rfl : d1 = x := r1
  cases d1 with
  | true => exact gd1 w1 H1 true .refl sim1 rfl
  | false => exact ⟨ρ, st1, w1, sim1, er.mono s1, gd1⟩
theorem pfw_and (ha : PFT X W a t) (hb : PFW X W (.BoolOp .And (b :: rest) pos) u) : PFW X W (.BoolOp .And (a :: b :: rest) pos) (fTAnd t u) := PW_imp (pw_and ha hb) tft_and
theorem pfw_or (ha : PFT X W a t) (hb : PFW X W (.BoolOp .Or (b :: rest) pos) u) : PFW X W (.BoolOp .Or (a :: b :: rest) pos) (fTOr t u) := PW_imp (pw_or ha hb) tft_or
/-- as values, all but the last bools -/
def fAnd (fa fb : FE) : FE := fun ρ st => (fTB fa ρ st).bind fun b st1 => if b then fb ρ st1 else .ok (.p (.bool false)) st1
def fOr (fa fb : FE) : FE := fun ρ st => (fTB fa ρ st).bind fun b st1 => if b then .ok (.p (.bool true)) st1 else fb ρ st1
def fNot (fa : FE) : FE := fun ρ st => (fTB fa ρ st).bind fun b st1 => .ok (.p (.bool (!b))) st1
theorem tft_ofK {α β : Type} {Rel : Nat → Wd → Hp → α → β → Prop} {k : Bool → So → Rs α} {Q : β → Hp → Prop} {ρ : Sl} {st : So} {w : Wd} {σ : L2.St} {H : Hp} (sim : Sim X.K X.mg w st H) (er : EnvR X.K X.mg st.length w H ρ σ)
    (gd : Good Rel X.K X.mg W σ st.length w H Q ((fTB fa ρ st).bind k)) : TF X.K X.mg W fa σ H (fun x H' => ∃ c, x = .bl c ∧ ∃ st1 w1, Sim X.K X.mg w1 st1 H' ∧ EnvR X.K X.mg st1.length w1 H' ρ σ ∧ Good Rel X.K X.mg W σ st1.length w1 H' Q (k c st1)) := by
  have gd2 := Good.bind (Rel := RelB) gd
  refine ⟨ρ, st, w, sim, er, Good.imp (fun x H1 q => ?_) (Good.bind gd2)⟩
  obtain ⟨st1, w1, d1, sim1, s1, r1, gd1⟩ := q
  unfold asB at gd1
  split at gd1
  · rename_i b
    cases r1 with
    | p h1 =>
      cases h1
      obtain ⟨st2, w2, c, sim2, s2, rfl, gd3⟩ := gd1 w1 H1 b .refl sim1 rfl
      exact ⟨_, rfl, st2, w2, sim2, er.mono s2, gd3⟩
  · exact gd1.elim
theorem pf_and (ha : PF X W a fa) (hb : PF X W (.BoolOp .And (b :: rest) pos) fb) : PF X W (.BoolOp .And (a :: b :: rest) pos) (fAnd fa fb) := PE_imp (pe_and ha hb) fun σ H Q h => by
  obtain ⟨ρ, st, w, sim, er, gd⟩ := h
  obtain ⟨ρ', st', w', s', er', g'⟩ := tft_ofK sim er gd
  refine ⟨ρ', st', w', s', er', Good.imp (fun x H1 q => ?_) g'⟩
  obtain ⟨c, rfl, st1, w1, sim1, er1, gd1⟩ := q
  refine ⟨c, rfl, ?_⟩
  cases c with
  | true => exact ⟨ρ, st1, w1, sim1, er1, gd1⟩
  | false => exact gd1 w1 H1 _ .refl sim1 (.p (.bl false))
theorem pf_or (ha : PF X W a fa) (hb : PF X W (.BoolOp .Or (b :: rest) pos) fb) : PF X W (.BoolOp .Or (a :: b :: rest) pos) (fOr fa fb) := PE_imp (pe_or ha hb) fun σ H Q h => by
  obtain ⟨ρ, st, w, sim, er, gd⟩ := h
  obtain ⟨ρ', st', w', s', er', g'⟩ := tft_ofK sim er gd
  refine ⟨ρ', st', w', s', er', Good.imp (fun x H1 q => ?_) g'⟩
  obtain ⟨c, rfl, st1, w1, sim1, er1, gd1⟩ := q
  refine ⟨c, rfl, ?_⟩
  cases c with
  | true => exact gd1 w1 H1 _ .refl sim1 (.p (.bl true))
  | false => exact ⟨ρ, st1, w1, sim1, er1, gd1⟩
theorem pf_one {op : BoolOp} (ha : PF X W a fa) : PF X W (.BoolOp op [a] pos) fa := pe_one ha
theorem pf_not (ha : PF X W a fa) : PF X W (.UnaryOp .Not a pos) (fNot fa) := PE_imp (pe_not ha) fun σ H Q h => by
  obtain ⟨ρ, st, w, sim, er, gd⟩ := h
  obtain ⟨ρ', st', w', s', er', g'⟩ := tft_ofK sim er gd
  refine ⟨ρ', st', w', s', er', Good.imp (fun x H1 q => ?_) g'⟩
  obtain ⟨c, rfl, st1, w1, sim1, er1, gd1⟩ := q
  exact ⟨c, rfl, gd1 w1 H1 _ .refl sim1 (.p (.bl _))⟩
def fIf (t : FT) (fa fb : FE) : FE := fun ρ st => (t ρ st).bind fun b st1 => if b then fa ρ st1 else fb ρ st1
theorem pf_if {c : Expr} (hc : PFT X W c t) (ha : PF X W a fa) (hb : PF X W b fb) : PF X W (.IfExp c a b pos) (fIf t fa fb) := PE_imp (pe_ifExp hc ha hb) fun σ H Q h => by
  obtain ⟨ρ, st, w, sim, er, gd⟩ := h
  refine ⟨ρ, st, w, sim, er, Good.imp (fun x H1 q => ?_) (Good.bind gd)⟩
  obtain ⟨st1, w1, d1, sim1, s1, r1, gd1⟩ := q
  obtain rfl : d1 = x := r1
  cases d1 with
  | true => exact ⟨ρ, st1, w1, sim1, er.mono s1, gd1⟩
  | false => exact ⟨ρ, st1, w1, sim1, er.mono s1, gd1⟩

/-! ### arguments, displays -/
def fNil : FA := fun _ st => .ok [] st
def fCons (fa : FE) (fr : FA) : FA := fun ρ st => (fa ρ st).bind fun x st1 => (fr ρ st1).bind fun xs st2 => .ok (x :: xs) st2
theorem pfa_nil : PFA X W [] fNil := PA_imp pa_nil fun σ H Q ⟨ρ, st, w, sim, er, g⟩ => g w H [] .refl sim .nil
theorem pfa_cons {fr : FA} (ha : PF X W a fa) (hr : PFA X W es fr) (hs : starEach (a :: es) X.env = (false, eval a X.env) :: starEach es X.env := by rfl) : PFA X W (a :: es) (fCons fa fr) := PA_imp (pa_cons ha hr hs) fun σ H Q h => by
  obtain ⟨ρ, st, w, sim, er, gd⟩ := h
  refine ⟨ρ, st, w, sim, er, Good.imp (fun x H1 q => ?_) (Good.bind gd)⟩
  obtain ⟨st1, w1, d1, sim1, s1, r1, gd1⟩ := q
  refine ⟨ρ, st1, w1, sim1, er.mono s1, Good.imp (fun y H2 q => ?_) (Good.bind gd1)⟩
  obtain ⟨st2, w2, d2, sim2, s2, r2, gd2⟩ := q
  exact gd2 w2 H2 _ .refl sim2 (.cons (r1.mono s2) r2)
def mkT (ds : List Dv) : Dv := match pures ds with
  | some xs => .p (.tuple xs)
  | none => .tupD ds
def mkL (ds : List Dv) : Dv := match pures ds with
  | some xs => .p (.list xs)
  | none => .lstD ds
theorem rd_mkT {K : PySem.W.Frag} {mg : Str → Option Value} {n : Nat} {w : Wd} {H : Hp} {ds : List Dv} {vs : List V} {p : Addr} (h : ST K w.I H p vs) (r : RDs K mg n w H ds vs) : RD K mg n w H (mkT ds) (.ref p) := by
  unfold mkT
  split
  · rename_i xs e
    exact .p (.tup h (r.toP e))
  · exact .tupD (.inr h) r
theorem rd_mkL {K : PySem.W.Frag} {mg : Str → Option Value} {n : Nat} {w : Wd} {H : Hp} {ds : List Dv} {vs : List V} {p : Addr} (h : SL w.I H p vs) (r : RDs K mg n w H ds vs) : RD K mg n w H (mkL ds) (.ref p) := by
  unfold mkL
  split
  · rename_i xs e
    exact .p (.lst h (r.toP e))
  · exact .lstD h r
def small (ds : List Dv) : Bool := decide (ds.length ≤ 100000)
theorem small_ok {ds : List Dv} (h : small ds = true) : ds.length ≤ sizeLine := Nat.le_trans (of_decide_eq_true h) (by decide)
/-- (a, b, ..) -/
def fTup (fr : FA) : FE := fun ρ st => (fr ρ st).bind fun xs st1 => if small xs then .ok (mkT xs) st1 else .stuck
theorem pf_tup {fr : FA} {x1 : _} (h : PFA X W es fr) : PF X W (.Tuple es x1 pos) (fTup fr) := PE_imp (pe_tupX h) fun σ H Q hh => by
  obtain ⟨ρ, st, w, sim, er, gd⟩ := hh
  refine ⟨ρ, st, w, sim, er, Good.imp (fun vs H1 q => ?_) (Good.bind gd)⟩
  obtain ⟨st1, w1, ds, sim1, s1, r1, gd1⟩ := q
  by_cases hs : small ds = true
  · rw [if_pos hs] at gd1
    refine ⟨by rw [← r1.length]; exact small_ok hs, fun p o hp ho => ?_⟩
    obtain ⟨s2, sim2⟩ := sim1.newP (o := .frz o (.tup vs)) hp
    exact gd1 _ _ _ s2 sim2 (rd_mkT (.inl ⟨.inl rfl, o, ho, upd_same⟩) (r1.mono s2))
  · rw [if_neg hs] at gd1
    exact gd1.elim
/-- [a, b, ..]: a new list -/
theorem pfl_lst {fr : FA} (h : PFA X W es fr) (hn : es.length ≤ 100000 := by decide) : PFL X W (.List es pos) (fun ρ st => (fr ρ st).bind fun xs st1 => if small xs then .ok xs st1 else .stuck) := PE_imp (pe_lst h) fun σ H Q hh => by
  obtain ⟨ρ, st, w, sim, er, gd⟩ := hh
  refine ⟨ρ, st, w, sim, er, Good.imp (fun vs H1 q => ?_) (Good.bind gd)⟩
  obtain ⟨st1, w1, ds, sim1, s1, r1, gd1⟩ := q
  by_cases hs : small ds = true
  · rw [if_pos hs] at gd1
    have hl : vs.length ≤ sizeLine := by rw [← r1.length]; exact small_ok hs
    exact ⟨hl, fun p hp => gd1 w1 H1 vs .refl sim1 r1 p hp hl⟩
  · rw [if_neg hs] at gd1
    exact gd1.elim
/-- a new list, as data | as a cell -/
def fPure (fr : FA) : FE := fun ρ st => (fr ρ st).bind fun xs st1 => if small xs then .ok (mkL xs) st1 else .stuck
def fCell (fr : FA) : FE := fun ρ st => (fr ρ st).bind fun xs st1 => if small xs then .ok (.ref st1.length) (st1 ++ [.lst xs]) else .stuck
theorem pf_pure {fr : FA} (h : PFL X W e fr) : PF X W e (fPure fr) := PE_imp h fun σ H Q hh => by
  obtain ⟨ρ, st, w, sim, er, gd⟩ := hh
  refine ⟨ρ, st, w, sim, er, Good.imp (fun vs H1 q => ?_) (Good.bind gd)⟩
  obtain ⟨st1, w1, ds, sim1, s1, r1, gd1⟩ := q
  intro p hp hl
  by_cases hs : small ds = true
  · rw [if_pos hs] at gd1
    obtain ⟨s2, sim2⟩ := sim1.newP (o := .lst vs) hp
    exact gd1 _ _ _ s2 sim2 (rd_mkL ⟨.inl rfl, upd_same⟩ (r1.mono s2))
  · rw [if_neg hs] at gd1
    exact gd1.elim
theorem pf_cell {fr : FA} (h : PFL X W e fr) : PF X W e (fCell fr) := PE_imp h fun σ H Q hh => by
  obtain ⟨ρ, st, w, sim, er, gd⟩ := hh
  refine ⟨ρ, st, w, sim, er, Good.imp (fun vs H1 q => ?_) (Good.bind gd)⟩
  obtain ⟨st1, w1, ds, sim1, s1, r1, gd1⟩ := q
  intro p hp hl
  by_cases hs : small ds = true
  · rw [if_pos hs] at gd1
    obtain ⟨s2, sim2⟩ := sim1.newC (o := .lst vs) (c := .lst ds) hp fun {n' w' H'} g e nI => ⟨vs, e, r1.mono g, nI⟩
    have hm : V.ref p = V.ref ((w1.cel st1.length p).m st1.length) := by
      show V.ref p = V.ref (if st1.length = st1.length then p else _)
      rw [if_pos rfl]
    rw [hm]
    refine gd1 _ _ _ ?_ sim2 (.ref ?_)
    · rw [List.length_append, List.length_singleton]; exact s2
    · rw [List.length_append, List.length_singleton]; exact Nat.lt_succ_self _
  · rw [if_neg hs] at gd1
    exact gd1.elim
/-- what a name holds, no longer changed: as data -/
def fFrz (fa : FE) : FE := fun ρ st => (fa ρ st).bind fun x st1 => match x with
  | .ref i => match st1[i]? with
    | some (.lst xs) => .ok (mkL xs) (st1.set i .dead)
    | _ => .stuck
  | _ => .stuck
theorem pf_frz (h : PF X W e fa) : PF X W e (fFrz fa) := PE_imp h fun σ H Q hh => by
  obtain ⟨ρ, st, w, sim, er, gd⟩ := hh
  refine ⟨ρ, st, w, sim, er, Good.imp (fun v H1 q => ?_) (Good.bind gd)⟩
  obtain ⟨st1, w1, d, sim1, s1, r1, gd1⟩ := q
  split at gd1
  · rename_i i
    split at gd1
    · rename_i xs hx
      have lv : live st1 i := ⟨_, hx, by simp⟩
      obtain ⟨s2, sim2⟩ := sim1.frz lv
      obtain ⟨vs, e1, r2, nI⟩ := sim1.cell i _ hx
      cases r1
      refine gd1 _ _ _ ?_ sim2 (rd_mkL ⟨.inl rfl, e1⟩ ?_)
      · rw [List.length_set]; exact s2
      · rw [List.length_set]; exact r2.mono s2
    · exact gd1.elim
  · exact gd1.elim

/-! ### built-ins by values -/
def fCB (g : GA) (fr : FA) : FE := fun ρ st => (fr ρ st).bind fun xs st1 => toR st1 (g xs st1)
theorem tf_cb {r : List V → Hp → VK → Prop} {g : GA} {fr : FA} (hi : ImA X r g) (σ : L2.St) (H : Hp) (Q : VK) (h : TF X.K X.mg W (fCB g fr) σ H Q) : tCB r (TFA X.K X.mg W fr) σ H Q := by
  obtain ⟨ρ, st, w, sim, er, gd⟩ := h
  refine ⟨ρ, st, w, sim, er, Good.imp (fun vs H1 q => ?_) (Good.bind gd)⟩
  obtain ⟨st1, w1, ds, sim1, s1, r1, gd1⟩ := q
  obtain ⟨d, e, l⟩ := lies_of gd1
  exact hi st1 w1 H1 ds vs Q d sim1 r1 e l
variable {x : Str} {p : Pos} {id T : String}
theorem pf_callB {r : List V → Hp → VK → Prop} {g : GA} {fr : FA} (hc : CallR X (.builtin id) r) (hi : ImA X r g) (hg : Gl X x) (hm : X.mg x = none) (hv : bootBuiltins x = some (.builtin id)) (ha : PFA X W (e :: es) fr)
    (hn : x ≠ "__name__" := by decide) (hdb : (x == ("__debug__" : Str)) = false := by decide) (he : starEach (e :: es) X.env = (false, eval e X.env) :: starEach es X.env := by rfl) (hpl : (backTo pos (starEach es X.env)).any (·.1) = false := by rfl) :
    PF X W (.Call (.Name x p) (e :: es) [] pos) (fCB g fr) := PE_imp (pe_callB hc hg hm hv ha hn hdb he hpl) (tf_cb hi)
theorem pf_callTy {r : List V → Hp → VK → Prop} {g : GA} {fr : FA} (hc : CallR X (.type T) r) (hi : ImA X r g) (hg : Gl X x) (hm : X.mg x = none) (hv : bootBuiltins x = some (.type T)) (ha : PFA X W (e :: es) fr)
    (hn : x ≠ "__name__" := by decide) (hdb : (x == ("__debug__" : Str)) = false := by decide) (he : starEach (e :: es) X.env = (false, eval e X.env) :: starEach es X.env := by rfl) (hpl : (backTo pos (starEach es X.env)).any (·.1) = false := by rfl) :
    PF X W (.Call (.Name x p) (e :: es) [] pos) (fCB g fr) := PE_imp (pe_callTy hc hg hm hv ha hn hdb he hpl) (tf_cb hi)

/-! ### statements -/
variable {sa : Stmt} {ss : List Stmt} {ga gb : FS}
def Rs.st {α : Type} (r : Rs α) (ρ : Sl) (f : α → So → Ss) : Ss := match r with
  | .ok a st => f a st
  | .exc c fs st => .exc c fs ρ st
  | .stuck => .stuck
def sNext : FS := fun ρ st => .nx ρ st
def sSeq (g h : FS) : FS := fun ρ st => match g ρ st with
  | .nx ρ' st' => h ρ' st'
  | r => r
theorem GoodS.later {K : PySem.W.Frag} {mg : Str → Option Value} {n n' : Nat} {w w' : Wd} {H H' : Hp} {D : Ends} {r : Ss} (g : Stp n w H n' w' H') (h : GoodS K mg W n w H D r) : GoodS K mg W n' w' H' D r := by
  cases r with
  | nx ρ st => exact fun w2 H2 σ s => h w2 H2 σ (g.trans s)
  | ret d st => exact fun w2 H2 σ s => h w2 H2 σ (g.trans s)
  | brk ρ st => exact fun w2 H2 σ s => h w2 H2 σ (g.trans s)
  | cnt ρ st => exact fun w2 H2 σ s => h w2 H2 σ (g.trans s)
  | exc c fs ρ st => exact fun w2 H2 σ cv dd s => h w2 H2 σ cv dd (g.trans s)
  | stuck => exact h
theorem pfss_nil : PFSs X W [] sNext := PSs_imp pss_nil fun D σ H ⟨ρ, st, w, sim, er, g⟩ => g w H σ .refl sim er
theorem tfs_seq {g h : FS} {D : Ends} {σ : L2.St} {H : Hp} (q : TFS X.K X.mg W (sSeq g h) D σ H) : tSeq (TFS X.K X.mg W g) (TFS X.K X.mg W h) D σ H := by
  obtain ⟨ρ, st, w, sim, er, gd⟩ := q
  refine ⟨ρ, st, w, sim, er, ?_⟩
  unfold sSeq at gd
  cases e : g ρ st with
  | nx ρ' st' =>
    rw [e] at gd
    exact fun w' H' σ' s sim' er' => ⟨ρ', st', w', sim', er', gd.later s⟩
  | ret d st' => rw [e] at gd; exact gd
  | brk ρ' st' => rw [e] at gd; exact gd
  | cnt ρ' st' => rw [e] at gd; exact gd
  | exc c fs ρ' st' => rw [e] at gd; exact gd
  | stuck => rw [e] at gd; exact gd
theorem pfss_cons (h1 : PFS X W sa ga) (h2 : PFSs X W ss gb) : PFSs X W (sa :: ss) (sSeq ga gb) := PSs_imp (pss_cons h1 h2) fun D σ H q => tfs_seq q
theorem pfss_one (h1 : PFS X W sa ga) : PFSs X W [sa] ga := pss_one h1
def sPass : FS := sNext
theorem pfs_pass : PFS X W (.Pass pos) sPass := PS_imp ps_pass fun D σ H ⟨ρ, st, w, sim, er, g⟩ => g w H σ .refl sim er
def sBreak : FS := fun ρ st => .brk ρ st
def sCont : FS := fun ρ st => .cnt ρ st
theorem pfs_break : PFS X W (.Break pos) sBreak := PS_imp ps_break fun D σ H ⟨ρ, st, w, sim, er, g⟩ => g w H σ .refl sim er
theorem pfs_cont : PFS X W (.Continue pos) sCont := PS_imp ps_continue fun D σ H ⟨ρ, st, w, sim, er, g⟩ => g w H σ .refl sim er
def sDrop (fa : FE) : FS := fun ρ st => (fa ρ st).st ρ fun _ st1 => .nx ρ st1
/-- an expression's end, then a statement's -/
theorem good_st {α β : Type} {Rel : Nat → Wd → Hp → α → β → Prop} {K : PySem.W.Frag} {mg : Str → Option Value} {σ : L2.St} {w : Wd} {H : Hp} {st : So} {D : Ends} {r : Rs α} {ρ : Sl} {f : α → So → Ss} (er : EnvR K mg st.length w H ρ σ)
    (gd : GoodS K mg W st.length w H D (r.st ρ f)) : Good Rel K mg W σ st.length w H (fun b H1 => ∃ st1 w1 a, Sim K mg w1 st1 H1 ∧ Stp st.length w H st1.length w1 H1 ∧ Rel st1.length w1 H1 a b ∧ EnvR K mg st1.length w1 H1 ρ σ ∧ GoodS K mg W st1.length w1 H1 D (f a st1)) r := by
  cases r with
  | ok a st' => exact fun w1 H1 b s sim rel => ⟨st', w1, a, sim, s, rel, er.mono s, gd.later s⟩
  | exc c fs st' => exact fun w1 H1 cv dd s sim ex => gd w1 H1 σ cv dd s sim (er.mono s) ex
  | stuck => exact gd
theorem pfs_expr (he : PF X W e fa) (hs : swapsWith e none pos.line X.env = pure false := by rfl) : PFS X W (.Expr e pos) (sDrop fa) := PS_imp (ps_expr he hs) fun D σ H q => by
  obtain ⟨ρ, st, w, sim, er, gd⟩ := q
  refine ⟨ρ, st, w, sim, er, Good.imp (fun v H1 q => ?_) (good_st er gd)⟩
  obtain ⟨st1, w1, d, sim1, s1, r1, er1, gd1⟩ := q
  exact gd1 w1 H1 σ .refl sim1 er1
def sRet (fa : FE) : FS := fun ρ st => (fa ρ st).st ρ fun d st1 => .ret d st1
theorem pfs_ret (he : PF X W e fa) : PFS X W (.Return (some e) pos) (sRet fa) := PS_imp (ps_ret he) fun D σ H q => by
  obtain ⟨ρ, st, w, sim, er, gd⟩ := q
  refine ⟨ρ, st, w, sim, er, Good.imp (fun v H1 q => ?_) (good_st er gd)⟩
  obtain ⟨st1, w1, d, sim1, s1, r1, er1, gd1⟩ := q
  exact gd1 w1 H1 v .refl sim1 r1
def sRetN : FS := fun _ st => .ret (.p .none) st
theorem pfs_retN : PFS X W (.Return none pos) sRetN := PS_imp ps_retN fun D σ H ⟨ρ, st, w, sim, er, g⟩ => g w H .non .refl sim (.p .non)
def sIf (t : FT) (g h : FS) : FS := fun ρ st => (t ρ st).st ρ fun b st1 => if b then g ρ st1 else h ρ st1
theorem pfs_if {c : Expr} {as bs : List Stmt} (hc : PFT X W c t) (ha : PFSs X W as ga) (hb : PFSs X W bs gb) : PFS X W (.If c as bs pos) (sIf t ga gb) := PS_imp (ps_if hc ha hb) fun D σ H q => by
  obtain ⟨ρ, st, w, sim, er, gd⟩ := q
  refine ⟨ρ, st, w, sim, er, Good.imp (fun b H1 q => ?_) (good_st er gd)⟩
  obtain ⟨st1, w1, d, sim1, s1, r1, er1, gd1⟩ := q
  obtain rfl : d = b := r1
  cases d with
  | true => exact ⟨ρ, st1, w1, sim1, er1, gd1⟩
  | false => exact ⟨ρ, st1, w1, sim1, er1, gd1⟩

/-! ### targets: names, tuples of them -/
inductive Tg where
  | nm (i : Nat)
  | tp (ts : List Tg)
/-- the items that a value is unpacked to -/
def unT : Dv → Option (List Dv)
  | .p (.tuple xs) => some (xs.map Dv.p)
  | .tupD xs => some xs
  | _ => none
mutual
def tgF : Tg → Dv → Sl → Option Sl
  | .nm i, d, ρ => some (ρ.set i (some d))
  | .tp ts, d, ρ => match unT d with
    | some xs => if xs.length = ts.length then tgFs ts xs ρ else none
    | none => none
def tgFs : List Tg → List Dv → Sl → Option Sl
  | [], [], ρ => some ρ
  | t :: ts, d :: ds, ρ => match tgF t d ρ with
    | some ρ' => tgFs ts ds ρ'
    | none => none
  | _, _, _ => none
end
mutual
def tgG (K : PySem.W.Frag) : Tg → TG
  | .nm i => gName i
  | .tp ts => gTup K ts.length (tgGs K ts)
def tgGs (K : PySem.W.Frag) : List Tg → TGs
  | [] => gNil
  | t :: ts => gCons (tgG K t) (tgGs K ts)
end
mutual
def tgS : Tg → List Nat
  | .nm i => [i]
  | .tp ts => tgSs ts
def tgSs : List Tg → List Nat
  | [] => []
  | t :: ts => tgS t ++ tgSs ts
end
theorem wipe_set {σ : L2.St} {i : Nat} {o : Option V} : ∀ {vs : List Nat}, i ∈ vs → wipe (σ.set i o) vs = wipe σ vs
  | [], h => by cases h
  | v :: vs, h => by
    unfold wipe
    by_cases hv : i = v
    · subst hv
      by_cases hm : i ∈ vs
      · rw [wipe_set hm]
      · rw [wipe_comm hm, List.set_set]
    · have hm : i ∈ vs := (List.mem_cons.mp h).resolve_left hv
      rw [wipe_set hm]
where wipe_comm {σ : L2.St} {i : Nat} {o : Option V} : ∀ {vs : List Nat}, i ∉ vs → wipe (σ.set i o) vs = (wipe σ vs).set i o
  | [], _ => rfl
  | v :: vs, h => by
    unfold wipe
    rw [wipe_comm (fun z => h (List.mem_cons_of_mem _ z)), List.set_comm _ _ (fun e => h (by rw [e]; exact List.mem_cons_self))]
theorem unT_rd {K : PySem.W.Frag} {mg : Str → Option Value} {n : Nat} {w : Wd} {H : Hp} {d : Dv} {v : V} {xs : List Dv} (r : RD K mg n w H d v) (h : unT d = some xs) : ∃ a vs, v = .ref a ∧ SU K w.I H a vs ∧ RDs K mg n w H xs vs := by
  unfold unT at h
  split at h
  · cases h
    cases r with
    | p q => cases q with
      | tup hs hr => exact ⟨_, _, rfl, .inr hs, RDs.ofP hr⟩
  · cases h
    cases r with
    | tupD hs hr => exact ⟨_, _, rfl, hs, hr⟩
  · cases h
section
variable {K : PySem.W.Frag} {mg : Str → Option Value} {n : Nat} {w : Wd} {H : Hp} {vs : List Nat}
mutual
theorem tg_ok : ∀ (t : Tg) (d : Dv) (v : V) (ρ ρ' : Sl) (σ σ0 : L2.St) (Q : L2.St → Hp → Prop), RD K mg n w H d v → EnvR K mg n w H ρ σ → tgF t d ρ = some ρ' → (∀ i ∈ tgS t, i ∈ vs) → wipe σ vs = wipe σ0 vs →
    (∀ σ', EnvR K mg n w H ρ' σ' → wipe σ' vs = wipe σ0 vs → Q σ' H) → tgG K t v σ H Q
  | .nm i, d, v, ρ, ρ', σ, σ0, Q, r, er, h, hv, hw, q => by
    unfold tgF at h
    cases h
    unfold tgG
    exact q _ (er.set r i) (by rw [wipe_set (hv i (by simp [tgS])), hw])
  | .tp ts, d, v, ρ, ρ', σ, σ0, Q, r, er, h, hv, hw, q => by
    unfold tgF at h
    split at h
    · rename_i xs hx
      split at h
      · rename_i hl
        obtain ⟨a, us, rfl, hs, rs⟩ := unT_rd r hx
        unfold tgG
        exact ⟨a, us, rfl, hs.sq, by rw [← rs.length, hl], tgs_ok ts xs us ρ ρ' σ σ0 Q rs er h (fun i hi => hv i (by simpa [tgS] using hi)) hw q⟩
      · cases h
    · cases h
theorem tgs_ok : ∀ (ts : List Tg) (ds : List Dv) (us : List V) (ρ ρ' : Sl) (σ σ0 : L2.St) (Q : L2.St → Hp → Prop), RDs K mg n w H ds us → EnvR K mg n w H ρ σ → tgFs ts ds ρ = some ρ' → (∀ i ∈ tgSs ts, i ∈ vs) → wipe σ vs = wipe σ0 vs →
    (∀ σ', EnvR K mg n w H ρ' σ' → wipe σ' vs = wipe σ0 vs → Q σ' H) → tgGs K ts us σ H Q
  | [], [], us, ρ, ρ', σ, σ0, Q, r, er, h, hv, hw, q => by
    unfold tgFs at h
    cases h
    cases r
    unfold tgGs
    exact ⟨rfl, q _ er hw⟩
  | t :: ts, d :: ds, us, ρ, ρ', σ, σ0, Q, r, er, h, hv, hw, q => by
    unfold tgFs at h
    split at h
    · rename_i ρ1 h1
      cases r with
      | cons r1 r2 =>
        rename_i v1 vs1
        unfold tgGs
        refine ⟨v1, vs1, rfl, ?_⟩
        exact tg_ok t d v1 ρ ρ1 σ σ0 _ r1 er h1 (fun i hi => hv i (by simp [tgSs, hi])) hw fun σ1 er1 hw1 =>
          tgs_ok ts ds vs1 ρ1 ρ' σ1 σ0 Q r2 er1 h (fun i hi => hv i (by simp [tgSs, hi])) hw1 q
    · cases h
  | [], _ :: _, us, ρ, ρ', σ, σ0, Q, r, er, h, hv, hw, q => by simp [tgFs] at h
  | _ :: _, [], us, ρ, ρ', σ, σ0, Q, r, er, h, hv, hw, q => by simp [tgFs] at h
end
end
def toE (o : Option Sl) (f : Sl → Ss) : Ss := match o with
  | some ρ => f ρ
  | none => .stuck
def sAsg (fa : FE) (tg : Tg) : FS := fun ρ st => (fa ρ st).st ρ fun d st1 => toE (tgF tg d ρ) fun ρ' => .nx ρ' st1
theorem tfs_asg {tg : Tg} {D : Ends} {σ : L2.St} {H : Hp} (q : TFS X.K X.mg W (sAsg fa tg) D σ H) : tAsg (TF X.K X.mg W fa) (tgG X.K tg) D σ H := by
  obtain ⟨ρ, st, w, sim, er, gd⟩ := q
  refine ⟨ρ, st, w, sim, er, Good.imp (fun v H1 q => ?_) (good_st er gd)⟩
  obtain ⟨st1, w1, d, sim1, s1, r1, er1, gd1⟩ := q
  unfold toE at gd1
  split at gd1
  · rename_i ρ' he
    exact tg_ok (vs := tgS tg) tg d v ρ ρ' σ σ _ r1 er1 he (fun _ h => h) rfl fun σ' er' _ => gd1 w1 H1 σ' .refl sim1 er'
  · exact gd1.elim
theorem pfs_asg {tg : Tg} {te : Expr} (he : PF X W e fa) (hg : PG X te (tgG X.K tg)) (hs : swapsWithSole [te] e pos.line X.env = pure false := by rfl) (hw : swappedStores [te] e X.env = pure none := by rfl)
    (h1 : (assignEach [te] X.env).map (·.2) = [assign te X.env] := by rfl) : PFS X W (.Assign [te] e pos) (sAsg fa tg) := PS_imp (ps_asg he hg hs hw h1) fun D σ H q => tfs_asg q
theorem pfs_set {i : Nat} {x : Str} {pos' : Pos} (hN : X.N.Nodup) (he : PF X W e fa) (hi : X.N[i]? = some x := by rfl) (hx : Loc X.env.scope x := by first | exact .inl rfl | exact .inr rfl) (hs : swapsWith e (some (.Name x pos')) pos.line X.env = pure false := by rfl)
    (hf : X.fn x = true ∨ X.env.scope.names.lookup x = some .local := by first | exact .inl rfl | exact .inr rfl) : PFS X W (.Assign [.Name x pos'] e pos) (sAsg fa (.nm i)) := PS_imp (ps_set hN hi hx he hs hf) fun D σ H q => tfs_asg q
end
end FB
set_option Elab.async false
set_option linter.all false
set_option maxRecDepth 100000
set_option maxHeartbeats 4000000
/-! FB2: loops, comprehensions, calls of defs, errors, methods of cells. -/
namespace FB
open PySem PySem.Spec PyProof.Rows L2

/-! ### what is walked -/
structure ItOk (K : PySem.W.Frag) (mg : Str → Option Value) (n : Nat) (w : Wd) (H : Hp) (items : List Dv) (J : It) : Prop where
  stop : ∀ n' w' H', Stp n w H n' w' H' → J.stop items.length H'
  go : ∀ (k : Nat) d w' H' (st' : So), items[k]? = some d → Stp n w H st'.length w' H' → Sim K mg w' st' H' → J.go k H' ∧ ∀ x H'', J.yld k H' x H'' → ∃ w'', Stp st'.length w' H' st'.length w'' H'' ∧ Sim K mg w'' st' H'' ∧ RD K mg st'.length w'' H'' d x
theorem ItOk.later {K : PySem.W.Frag} {mg : Str → Option Value} {n n' : Nat} {w w' : Wd} {H H' : Hp} {items : List Dv} {J : It} (g : Stp n w H n' w' H') (h : ItOk K mg n w H items J) : ItOk K mg n' w' H' items J :=
  ⟨fun n2 w2 H2 s => h.stop n2 w2 H2 (g.trans s), fun k d w2 H2 st2 e s sim => h.go k d w2 H2 st2 e (g.trans s) sim⟩
def RelI (K : PySem.W.Frag) (mg : Str → Option Value) : Nat → Wd → Hp → List Dv → It → Prop := fun n w H items J => ItOk K mg n w H items J
def TFI (K : PySem.W.Frag) (mg : Str → Option Value) (W : WX) (f : FA) : TI := fun σ H R => ∃ ρ st w, Sim K mg w st H ∧ EnvR K mg st.length w H ρ σ ∧ Good (RelI K mg) K mg W σ st.length w H R (f ρ st)
def PFI (X : Cx) (W : WX) (tg iter : Expr) (f : FA) : Prop := PI X tg iter (TFI X.K X.mg W f)
theorem PI_imp {X : Cx} {tg iter : Expr} {t t' : TI} (h : PI X tg iter t) (hi : ∀ σ H R, t' σ H R → t σ H R) : PI X tg iter t' := ⟨fun pins s σ H R I q => h.run pins s σ H R I (hi σ H R q)⟩

/-! ### for -/
def sForL (tg : Tg) (body : FS) : List Dv → FS
  | [], ρ, st => .nx ρ st
  | d :: ds, ρ, st => toE (tgF tg d ρ) fun ρ' => match body ρ' st with
    | .nx ρ2 st2 => sForL tg body ds ρ2 st2
    | .cnt ρ2 st2 => sForL tg body ds ρ2 st2
    | .brk ρ2 st2 => .nx ρ2 st2
    | r => r
def sFor (fi : FA) (tg : Tg) (body : FS) : FS := fun ρ st => (fi ρ st).st ρ fun items st1 => sForL tg body items ρ st1
section
variable {X : Cx} {W : WX} {pos : Pos}
theorem tfs_forL {K : PySem.W.Frag} {mg : Str → Option Value} {tg : Tg} {body : FS} {D : Ends} {σ : L2.St} {J : It} {items : List Dv} {st1 : So} {w1 : Wd} {H1 : Hp} {ρ : Sl} (it : ItOk K mg st1.length w1 H1 items J) (sim1 : Sim K mg w1 st1 H1) (er1 : EnvR K mg st1.length w1 H1 ρ σ) (gd1 : GoodS K mg W st1.length w1 H1 D (sForL tg body items ρ st1)) :
    ∃ Wn : Nat → Nat → L2.St → Hp → Prop, (∃ m, Wn 0 m σ H1) ∧ ∀ i m σ H, Wn i m σ H → (J.stop i H ∧ D.nx σ H) ∨ (J.go i H ∧ ∃ N : L2.St → Hp → Prop, (∀ σ' H', N σ' H' → ∃ m', m' < m ∧ Wn (i + 1) m' σ' H') ∧ ∀ x H', J.yld i H x H' → tgG K tg x σ H' fun σ2 H2 => TFS K mg W body { D with nx := N, ct := N, bk := D.nx } σ2 H2) := by
  refine ⟨fun i m σ2 H2 => ∃ ρ2 st2 w2, Sim K mg w2 st2 H2 ∧ EnvR K mg st2.length w2 H2 ρ2 σ2 ∧ Stp st1.length w1 H1 st2.length w2 H2 ∧ m = items.length - i ∧ i ≤ items.length ∧ GoodS K mg W st2.length w2 H2 D (sForL tg body (items.drop i) ρ2 st2),
    ⟨items.length, ρ, st1, w1, sim1, er1, .refl, rfl, Nat.zero_le _, gd1⟩, ?_⟩
  rintro i m σ2 H2 ⟨ρ2, st2, w2, sim2, er2, s2, rfl, hi, gd2⟩
  by_cases hlt : i < items.length
  · have e0 : items[i]? = some items[i] := List.getElem?_eq_getElem hlt
    obtain ⟨go, yl⟩ := it.go i _ w2 H2 st2 e0 s2 sim2
    refine .inr ⟨go, fun σ' H' => ∃ ρ3 st3 w3, Sim K mg w3 st3 H' ∧ EnvR K mg st3.length w3 H' ρ3 σ' ∧ Stp st1.length w1 H1 st3.length w3 H' ∧ GoodS K mg W st3.length w3 H' D (sForL tg body (items.drop (i + 1)) ρ3 st3), ?_, ?_⟩
    · rintro σ' H' ⟨ρ3, st3, w3, sim3, er3, s3, gd3⟩
      exact ⟨items.length - (i + 1), by omega, ρ3, st3, w3, sim3, er3, s3, rfl, hlt, gd3⟩
    · intro x H3 hy
      obtain ⟨w3, s3, sim3, r3⟩ := yl x H3 hy
      rw [List.drop_eq_getElem_cons hlt] at gd2
      have gd3 := gd2.later s3
      unfold sForL toE at gd3
      split at gd3
      · rename_i ρ' hρ
        dsimp only at gd3
        refine tg_ok (vs := tgS tg) tg _ x ρ2 ρ' σ2 σ2 _ r3 (er2.mono s3) hρ (fun _ h => h) rfl fun σ4 er4 _ => ⟨ρ', st2, w3, sim3, er4, ?_⟩
        cases eb : body ρ' st2 with
        | nx ρ5 st5 =>
          rw [eb] at gd3
          exact fun w5 H5 σ5 s5 sim5 er5 => ⟨ρ5, st5, w5, sim5, er5, (s2.trans s3).trans s5, gd3.later s5⟩
        | cnt ρ5 st5 =>
          rw [eb] at gd3
          exact fun w5 H5 σ5 s5 sim5 er5 => ⟨ρ5, st5, w5, sim5, er5, (s2.trans s3).trans s5, gd3.later s5⟩
        | brk ρ5 st5 => rw [eb] at gd3; exact gd3
        | ret d st5 => rw [eb] at gd3; exact gd3
        | exc c fs ρ5 st5 => rw [eb] at gd3; exact gd3
        | stuck => rw [eb] at gd3; exact gd3.elim
      · exact gd3.elim
  · have e : i = items.length := by omega
    subst e
    rw [List.drop_length] at gd2
    exact .inl ⟨it.stop _ _ _ s2, gd2 w2 H2 σ2 .refl sim2 er2⟩
theorem tfs_for {K : PySem.W.Frag} {mg : Str → Option Value} {fi : FA} {tg : Tg} {body : FS} {D : Ends} {σ : L2.St} {H : Hp} (h : TFS K mg W (sFor fi tg body) D σ H) : tFor (TFI K mg W fi) (tgG K tg) (TFS K mg W body) D σ H := by
  obtain ⟨ρ, st, w, sim, er, gd⟩ := h
  refine ⟨ρ, st, w, sim, er, Good.imp (fun J H1 q => ?_) (good_st er gd)⟩
  obtain ⟨st1, w1, items, sim1, s1, it, er1, gd1⟩ := q
  exact tfs_forL it sim1 er1 gd1
theorem pfs_for {te iter : Expr} {bs : List Stmt} {fi : FA} {tg : Tg} {body : FS} (hp : PassesOwn (model X.prog X.w) X.A X.env X.xe) (hc : X.calm = true) (hi : PFI X W te iter fi) (hg : PG X te (tgG X.K tg)) (hb : PFSs X W bs body)
    (hs : ∀ x, foldedSetIterable iter X.env x = pure x := by intro _; rfl) : PFS X W (.For te iter bs [] pos) (sFor fi tg body) := PS_imp (ps_for hp hc hi hg hb hs) fun D σ H q => tfs_for q
/-! ### while -/
def sWhN (t : FT) (body : FS) : Nat → FS
  | 0, _, _ => .stuck
  | k + 1, ρ, st => (t ρ st).st ρ fun b st1 => if b then match body ρ st1 with
      | .nx ρ2 st2 => sWhN t body k ρ2 st2
      | .cnt ρ2 st2 => sWhN t body k ρ2 st2
      | .brk ρ2 st2 => .nx ρ2 st2
      | r => r
    else .nx ρ st1
def sWh (t : FT) (body : FS) (fuel : Nat) : FS := sWhN t body fuel
theorem tfs_while {K : PySem.W.Frag} {mg : Str → Option Value} {t : FT} {body : FS} {fuel : Nat} {D : Ends} {σ : L2.St} {H : Hp} (h : TFS K mg W (sWh t body fuel) D σ H) : tWhile (TFT K mg W t) (TFS K mg W body) D σ H := by
  obtain ⟨ρ, st, w, sim, er, gd⟩ := h
  refine ⟨fun m σ2 H2 => ∃ ρ2 st2 w2, Sim K mg w2 st2 H2 ∧ EnvR K mg st2.length w2 H2 ρ2 σ2 ∧ GoodS K mg W st2.length w2 H2 D (sWhN t body m ρ2 st2), ⟨fuel, ρ, st, w, sim, er, gd⟩, ?_⟩
  rintro m σ2 H2 ⟨ρ2, st2, w2, sim2, er2, gd2⟩
  cases m with
  | zero => exact gd2.elim
  | succ k =>
    unfold sWhN at gd2
    refine ⟨ρ2, st2, w2, sim2, er2, Good.imp (fun b H3 q => ?_) (good_st er2 gd2)⟩
    obtain ⟨st3, w3, d, sim3, s3, r3, er3, gd3⟩ := q
    obtain rfl : d = b := r3
    cases d with
    | false => exact gd3 w3 H3 σ2 .refl sim3 er3
    | true =>
      refine ⟨fun σ' H' => ∃ ρ4 st4 w4, Sim K mg w4 st4 H' ∧ EnvR K mg st4.length w4 H' ρ4 σ' ∧ GoodS K mg W st4.length w4 H' D (sWhN t body k ρ4 st4), fun σ' H' q => ⟨k, Nat.lt_succ_self _, q⟩, ρ2, st3, w3, sim3, er3, ?_⟩
      simp only [if_true] at gd3
      cases eb : body ρ2 st3 with
      | nx ρ5 st5 =>
        rw [eb] at gd3
        exact fun w5 H5 σ5 s5 sim5 er5 => ⟨ρ5, st5, w5, sim5, er5, gd3.later s5⟩
      | cnt ρ5 st5 =>
        rw [eb] at gd3
        exact fun w5 H5 σ5 s5 sim5 er5 => ⟨ρ5, st5, w5, sim5, er5, gd3.later s5⟩
      | brk ρ5 st5 => rw [eb] at gd3; exact gd3
      | ret d st5 => rw [eb] at gd3; exact gd3
      | exc c fs ρ5 st5 => rw [eb] at gd3; exact gd3
      | stuck => rw [eb] at gd3; exact gd3.elim
theorem pfs_while {c : Expr} {bs : List Stmt} {t : FT} {body : FS} (fuel : Nat) (hp : PassesOwn (model X.prog X.w) X.A X.env X.xe) (hc : PFT X W c t) (hb : PFSs X W bs body) : PFS X W (.While c bs [] pos) (sWh t body fuel) := PS_imp (ps_while hp hc hb) fun D σ H q => tfs_while q

/-! ### comprehensions -/
/-- no error leaves a comprehension -/
abbrev W0 : WX := fun _ _ _ _ => False
def Rs.bindN {α β : Type} : Rs α → (α → So → Rs β) → Rs β
  | .ok a st, f => f a st
  | _, _ => .stuck
def cmpL (tg : Tg) (tt : FT) (fe : FE) (ρ : Sl) : List Dv → List Dv → So → Rs (List Dv)
  | [], acc, st => .ok acc st
  | d :: ds, acc, st => match tgF tg d ρ with
    | none => .stuck
    | some ρ' => (tt ρ' st).bindN fun b st1 => if b then (fe ρ' st1).bindN fun y st2 => cmpL tg tt fe ρ ds (acc ++ [y]) st2 else cmpL tg tt fe ρ ds acc st1
def rhoW (ρ : Sl) : List Nat → Sl
  | [] => ρ
  | v :: vs => (rhoW ρ vs).set v none
/-- [elt for tg in iter if ..]: the new list's items -/
def fLc (fi : FA) (tg : Tg) (tt : FT) (fe : FE) : FA := fun ρ st => (fi ρ st).bind fun items st1 => if items.length ≤ 100000 then cmpL tg tt fe (rhoW ρ (tgS tg)) items [] st1 else .stuck
def tYesF : FT := fun _ st => .ok true st
theorem envW {K : PySem.W.Frag} {mg : Str → Option Value} {n : Nat} {w : Wd} {H : Hp} {ρ : Sl} {σ : L2.St} (h : EnvR K mg n w H ρ σ) : ∀ vs : List Nat, EnvR K mg n w H (rhoW ρ vs) (wipe σ vs)
  | [] => h
  | v :: vs => (envW h vs).setN v
theorem wipe_idem {σ : L2.St} {ws : List Nat} : ∀ {vs : List Nat}, (∀ v ∈ vs, v ∈ ws) → wipe (wipe σ vs) ws = wipe σ ws
  | [], _ => rfl
  | v :: vs, h => by
    show wipe ((wipe σ vs).set v none) ws = wipe σ ws
    rw [wipe_set (h v List.mem_cons_self), wipe_idem fun u hu => h u (List.mem_cons_of_mem _ hu)]
/-- the making of a comprehension: the items so far, the new list put away -/
theorem cmp_ok {K : PySem.W.Frag} {mg : Str → Option Value} {Wc : WX} {σ : L2.St} {st1 : So} {w1 : Wd} {H1 : Hp} {J : It} {items : List Dv} {tg : Tg} {tt : FT} {fe : FE} {ρ : Sl} {D : Addr} {Q : VK}
    (it : ItOk K mg st1.length w1 H1 items J) (hn : items.length ≤ 100000) (er : EnvR K mg st1.length w1 H1 ρ (wipe σ (tgS tg))) (sim1 : Sim K mg w1 st1 H1) (hD : H1 D = none)
    (gd : Good (RDs K mg) K mg Wc σ st1.length w1 H1 (fun vs H' => ∀ p, H' p = none → vs.length ≤ sizeLine → Q (.ref p) (upd H' p (.lst vs))) (cmpL tg tt fe ρ items [] st1)) :
    ∃ Wn : Nat → Nat → Hp → Prop, (∃ m, Wn 0 m (upd H1 D (.lst []))) ∧ ∀ i m H, Wn i m H →
      (J.stop i H ∧ Q (.ref D) H) ∨ (J.go i H ∧ ∃ Nx : Hp → Prop, (∀ H', Nx H' → ∃ m', m' < m ∧ Wn (i + 1) m' H') ∧ ∀ x H', J.yld i H x H' → tgG K tg x (wipe σ (tgS tg)) H' fun σ2 H2 => wipe σ2 (tgS tg) = wipe σ (tgS tg) ∧ TFT K mg W0 tt σ2 H2 fun b H3 =>
        if b = true then TF K mg W0 fe σ2 H3 fun y H4 => ∃ acc, H4 D = some (.lst acc) ∧ acc.length < sizeLine ∧ Nx (upd H4 D (.lst (acc ++ [y]))) else Nx H3) := by
  have big : ∀ {k : Nat}, k ≤ 100000 → k < sizeLine := fun h => Nat.lt_of_le_of_lt h (by decide)
  refine ⟨fun i m H => m = items.length - i ∧ i ≤ items.length ∧ ∃ st w Hb acc vs, Sim K mg w st Hb ∧ Hb D = none ∧ H = upd Hb D (.lst vs) ∧ RDs K mg st.length w Hb acc vs ∧ Stp st1.length w1 H1 st.length w Hb ∧ acc.length ≤ i ∧
    Good (RDs K mg) K mg Wc σ st.length w Hb (fun vs H' => ∀ p, H' p = none → vs.length ≤ sizeLine → Q (.ref p) (upd H' p (.lst vs))) (cmpL tg tt fe ρ (items.drop i) acc st),
    ⟨items.length, rfl, Nat.zero_le _, st1, w1, H1, [], [], sim1, hD, rfl, .nil, .refl, Nat.le_refl _, gd⟩, ?_⟩
  rintro i m H ⟨rfl, hi, st, w, Hb, acc, vs, sim, hDb, rfl, racc, s0, hacc, gd0⟩
  obtain ⟨s2, sim2⟩ := sim.put (o := .lst vs) hDb
  by_cases hlt : i < items.length
  · have e0 : items[i]? = some items[i] := List.getElem?_eq_getElem hlt
    obtain ⟨go, yl⟩ := it.go i _ (w.aside D) _ st e0 (s0.trans s2) sim2
    refine .inr ⟨go, fun H' => ∃ st' w' Hb' acc' vs', Sim K mg w' st' Hb' ∧ Hb' D = none ∧ H' = upd Hb' D (.lst vs') ∧ RDs K mg st'.length w' Hb' acc' vs' ∧ Stp st1.length w1 H1 st'.length w' Hb' ∧ acc'.length ≤ i + 1 ∧
      Good (RDs K mg) K mg Wc σ st'.length w' Hb' (fun vs H' => ∀ p, H' p = none → vs.length ≤ sizeLine → Q (.ref p) (upd H' p (.lst vs))) (cmpL tg tt fe ρ (items.drop (i + 1)) acc' st'), ?_, ?_⟩
    · rintro H' ⟨st', w', Hb', acc', vs', q⟩
      exact ⟨items.length - (i + 1), by omega, rfl, hlt, st', w', Hb', acc', vs', q⟩
    · intro x H3 hy
      obtain ⟨w3, s3, sim3, r3⟩ := yl x H3 hy
      rw [List.drop_eq_getElem_cons hlt] at gd0
      unfold cmpL at gd0
      split at gd0
      · exact gd0.elim
      · rename_i ρ' hρ
        have s23 := s2.trans s3
        have fD : ∀ {n' w' H'}, Stp st.length w3 H3 n' w' H' → w'.F D ∧ H' D = some (.lst vs) := fun {n' w' H'} g =>
          ⟨g.frm.inc D (s3.frm.inc D (.inl rfl)), g.frm.imm D _ (s3.frm.inc D (.inl rfl)) (s3.frm.imm D _ (.inl rfl) upd_same)⟩
        have hFF : ∀ {n' w' H'}, Stp st.length w3 H3 n' w' H' → ∀ a, w.F a → w'.F a ∧ a ≠ D := fun {n' w' H'} g a ha => by
          obtain ⟨⟨z, hz⟩, _⟩ := sim.fr a ha
          exact ⟨g.frm.inc a (s23.frm.inc a ha), ne_of_none hz hDb⟩
        -- back on the ground
        have land : ∀ {st' w' H'}, Stp st.length w3 H3 (List.length st') w' H' → Sim K mg w' st' H' → Sim K mg (w'.back w.F) st' (era H' D) ∧ Stp st.length w Hb st'.length (w'.back w.F) (era H' D) ∧
            Stp st'.length { w' with F := fun _ => False } H' st'.length (w'.back w.F) (era H' D) := fun {st' w' H'} g sm => by
          obtain ⟨a1, a2, a3⟩ := sm.drop (F := w.F) (fD g).1 (hFF g)
          exact ⟨a1, a2 (s23.trans g) fun _ h => h, a3⟩
        refine tg_ok (vs := tgS tg) tg _ x ρ ρ' _ (wipe σ (tgS tg)) _ r3 (er.mono ((s0.trans s2).trans s3)) hρ (fun _ h => h) rfl fun σ4 er4 hw4 => ⟨hw4.trans (wipe_idem fun _ h => h), ρ', st, w3, sim3, er4, ?_⟩
        cases et : tt ρ' st with
        | stuck => rw [et] at gd0; exact gd0.elim
        | exc c fs st' => rw [et] at gd0; exact gd0.elim
        | ok b st4 =>
          rw [et] at gd0
          intro w4 H4 b' s4 sim4 eb
          obtain rfl : b = b' := eb
          have gd0 : Good (RDs K mg) K mg Wc σ st.length w Hb (fun vs H' => ∀ p, H' p = none → vs.length ≤ sizeLine → Q (.ref p) (upd H' p (.lst vs))) (if b = true then (fe ρ' st4).bindN fun y st2 => cmpL tg tt fe ρ (items.drop (i + 1)) (acc ++ [y]) st2 else cmpL tg tt fe ρ (items.drop (i + 1)) acc st4) := gd0
          cases b with
          | false =>
            rw [if_neg Bool.false_ne_true] at gd0 ⊢
            obtain ⟨a1, a2, a3⟩ := land s4 sim4
            refine ⟨st4, w4.back w.F, era H4 D, acc, vs, a1, era_same, ?_, racc.mono a2, s0.trans a2, Nat.le_succ_of_le hacc, gd0.later a2⟩
            rw [upd_era]
            funext c
            by_cases hc : c = D
            · subst hc; rw [upd_same]; exact (fD s4).2
            · rw [upd_ne hc]
          | true =>
            rw [if_pos rfl] at gd0 ⊢
            refine ⟨ρ', st4, w4, sim4, er4.mono s4, ?_⟩
            cases ef : fe ρ' st4 with
            | stuck => rw [ef] at gd0; exact gd0.elim
            | exc c fs st' => rw [ef] at gd0; exact gd0.elim
            | ok y st5 =>
              rw [ef] at gd0
              intro w5 H5 v s5 sim5 r5
              have s45 := s4.trans s5
              obtain ⟨a1, a2, a3⟩ := land s45 sim5
              have lv : vs.length < sizeLine := by rw [← racc.length]; exact big (by omega)
              refine ⟨vs, (fD s45).2, lv, st5, w5.back w.F, era H5 D, acc ++ [y], vs ++ [v], a1, era_same, by rw [upd_era], (racc.mono a2).append (.cons (r5.back a3) .nil), s0.trans a2, ?_, ?_⟩
              · rw [List.length_append, List.length_singleton]; omega
              · exact Good.later a2 gd0
  · have e : i = items.length := by omega
    subst e
    rw [List.drop_length] at gd0
    refine .inl ⟨it.stop _ _ _ (s0.trans s2), ?_⟩
    exact gd0 w Hb vs .refl sim racc D hDb (by rw [← racc.length]; exact Nat.le_of_lt (big (by omega)))
theorem tfl_lc {K : PySem.W.Frag} {mg : Str → Option Value} {fi : FA} {tg : Tg} {tt : FT} {fe : FE} {σ : L2.St} {H : Hp} {Q : VK} (h : TFL K mg W (fLc fi tg tt fe) σ H Q) : tLc (TFI K mg W fi) (tgG K tg) (TFT K mg W0 tt) (TF K mg W0 fe) (tgS tg) σ H Q := by
  obtain ⟨ρ, st, w, sim, er, gd⟩ := h
  refine ⟨ρ, st, w, sim, er, Good.imp (fun J H1 q => ?_) (Good.bind gd)⟩
  obtain ⟨st1, w1, items, sim1, s1, it, gd1⟩ := q
  intro D hD
  by_cases hn : items.length ≤ 100000
  · rw [if_pos hn] at gd1
    exact cmp_ok it hn (envW (er.mono s1) _) sim1 hD gd1
  · rw [if_neg hn] at gd1
    exact gd1.elim
theorem pfl_lc {elt te iter : Expr} {ifs : List Expr} {scope : Scope} {own : List (Str × Nat)} {fi : FA} {tg : Tg} {tt : FT} {fe : FE} (hc : X.calm = true) (hN : X.N.Nodup) (hi : PFI X W te iter fi) (ok : BlkOk X.N X.env.scope scope own) (ho : own.map (·.2) = tgS tg)
    (hg : ∀ (s : Shared) (H : Hp) (C : Addr) (cl : List (Str × Addr)) (fp : List Addr), PG (X.blk s H scope (compEnvC scope cl C X.env) fp) te (tgG X.K tg)) (ht : ∀ (s : Shared) (H : Hp) (C : Addr) (cl : List (Str × Addr)) (fp : List Addr), PTs (X.blk s H scope (compEnvC scope cl C X.env) fp) ifs (TFT X.K X.mg W0 tt))
    (he : ∀ (s : Shared) (H : Hp) (C : Addr) (cl : List (Str × Addr)) (fp : List Addr), PF (X.blk s H scope (compEnvC scope cl C X.env) fp) W0 elt fe) (hs : ∀ x, foldedSetIterable iter X.env x = pure x := by intro _; rfl) :
    PFL X W (.ListComp elt [⟨te, iter, ifs, 0⟩] scope pos) (fLc fi tg tt fe) := PE_imp (pe_lc (te := TF X.K X.mg W0 fe) hc hN hi ok hg ht he hs) fun σ H Q h => by
  rw [ho]
  exact tfl_lc h
theorem pts_yes {Y : Cx} {K : PySem.W.Frag} {mg : Str → Option Value} : PTs Y [] (TFT K mg W0 tYesF) := ⟨fun pins s σ H Q I h => pts_nil.run pins s σ H Q I (by
  obtain ⟨ρ, st, w, sim, er, g⟩ := h
  exact g w H true .refl sim rfl)⟩
theorem pts_if {Y : Cx} {c : Expr} {t : FT} (h : PFT Y W0 c t) : PTs Y [c] (TFT Y.K Y.mg W0 t) := pts_one h
/-- name = [..], as data | as a cell -/
theorem pfs_setLc {i : Nat} {y : Str} {py spos : Pos} {elt te iter : Expr} {ifs : List Expr} {scope : Scope} {own : List (Str × Nat)} {fi : FA} {tg : Tg} {tt : FT} {fe : FE} {fr : FE} (hc : X.calm = true) (hN : X.N.Nodup) (hi : PFI X W te iter fi) (ok : BlkOk X.N X.env.scope scope own) (ho : own.map (·.2) = tgS tg)
    (hg : ∀ (s : Shared) (H : Hp) (C : Addr) (cl : List (Str × Addr)) (fp : List Addr), PG (X.blk s H scope (compEnvC scope cl C X.env) fp) te (tgG X.K tg)) (ht : ∀ (s : Shared) (H : Hp) (C : Addr) (cl : List (Str × Addr)) (fp : List Addr), PTs (X.blk s H scope (compEnvC scope cl C X.env) fp) ifs (TFT X.K X.mg W0 tt))
    (he : ∀ (s : Shared) (H : Hp) (C : Addr) (cl : List (Str × Addr)) (fp : List Addr), PF (X.blk s H scope (compEnvC scope cl C X.env) fp) W0 elt fe)
    (hsw : swapsWith (.ListComp elt [⟨te, iter, ifs, 0⟩] scope pos) (some (.Name y py)) spos.line X.env = pure true) (hfr : ∀ σ H Q, TF X.K X.mg W fr σ H Q → TFL X.K X.mg W (fLc fi tg tt fe) σ H Q)
    (hy : X.N[i]? = some y := by rfl) (hyl : X.env.scope.names.lookup y = some .local := by rfl) (hs : ∀ x, foldedSetIterable iter X.env x = pure x := by intro _; rfl) :
    PFS X W (.Assign [.Name y py] (.ListComp elt [⟨te, iter, ifs, 0⟩] scope pos) spos) (sAsg fr (.nm i)) := PS_imp (ps_setLc (te := TF X.K X.mg W0 fe) hc hN hy hyl hsw hi ok hg ht he hs) fun D σ H h => by
  have h2 := tfs_asg h
  rw [ho]
  exact tfl_lc (hfr σ H _ h2)
theorem tf_pure {K : PySem.W.Frag} {mg : Str → Option Value} {fr : FA} (σ : L2.St) (H : Hp) (Q : VK) (hh : TF K mg W (fPure fr) σ H Q) : TFL K mg W fr σ H Q := by
  obtain ⟨ρ, st, w, sim, er, gd⟩ := hh
  refine ⟨ρ, st, w, sim, er, Good.imp (fun vs H1 q => ?_) (Good.bind gd)⟩
  obtain ⟨st1, w1, ds, sim1, s1, r1, gd1⟩ := q
  intro p hp hl
  by_cases hs : small ds = true
  · rw [if_pos hs] at gd1
    obtain ⟨s2, sim2⟩ := sim1.newP (o := .lst vs) hp
    exact gd1 _ _ _ s2 sim2 (rd_mkL ⟨.inl rfl, upd_same⟩ (r1.mono s2))
  · rw [if_neg hs] at gd1
    exact gd1.elim
theorem tf_cell {K : PySem.W.Frag} {mg : Str → Option Value} {fr : FA} (σ : L2.St) (H : Hp) (Q : VK) (hh : TF K mg W (fCell fr) σ H Q) : TFL K mg W fr σ H Q := by
  obtain ⟨ρ, st, w, sim, er, gd⟩ := hh
  refine ⟨ρ, st, w, sim, er, Good.imp (fun vs H1 q => ?_) (Good.bind gd)⟩
  obtain ⟨st1, w1, ds, sim1, s1, r1, gd1⟩ := q
  intro p hp hl
  by_cases hs : small ds = true
  · rw [if_pos hs] at gd1
    obtain ⟨s2, sim2⟩ := sim1.newC (o := .lst vs) (c := .lst ds) hp fun {n' w' H'} g e nI => ⟨vs, e, r1.mono g, nI⟩
    have hm : V.ref p = V.ref ((w1.cel st1.length p).m st1.length) := by
      show V.ref p = V.ref (if st1.length = st1.length then p else _)
      rw [if_pos rfl]
    rw [hm]
    refine gd1 _ _ _ ?_ sim2 (.ref ?_)
    · rw [List.length_append, List.length_singleton]; exact s2
    · rw [List.length_append, List.length_singleton]; exact Nat.lt_succ_self _
  · rw [if_neg hs] at gd1
    exact gd1.elim

/-! ### calls of defs -/
def lowD (n : Nat) : Dv → Bool
  | .ref i => decide (i < n)
  | .tupD xs => go xs
  | .lstD xs => go xs
  | _ => true
where go : List Dv → Bool
  | [] => true
  | x :: xs => lowD n x && go xs
def lowC (n : Nat) : Cl → Bool
  | .lst xs => lowD.go n xs
  | .dK kvs => kvs.all fun p => lowD n p.2
  | .dT kvs => kvs.all fun p => lowD n p.2
  | .dead => true
def trim (n : Nat) (d : Dv) (st : So) : So := if lowD n d && (st.take n).all (lowC n) then st.take n else st
def runD (N : Nat) (body : FS) : FD := fun args st => match body (args.map some ++ List.replicate (N - args.length) none) st with
  | .nx _ st' => .ok (.p .none) (trim st.length (.p .none) st')
  | .ret d st' => .ok d (trim st.length d st')
  | .exc c fs _ st' => .exc c fs (trim st.length (.p .none) st')
  | _ => .stuck
def spD (K : PySem.W.Frag) (mg : Str → Option Value) (n : Nat) (F : FD) : Sp := fun vs H Q E => vs.length = n ∧ ∃ ds st w, Sim K mg w st H ∧ RDs K mg st.length w H ds vs ∧ Good (RD K mg) K mg (fun cv dd _ H' => E cv dd H') [] st.length w H Q (F ds st)
section
variable {K : PySem.W.Frag} {mg : Str → Option Value} {n m : Nat} {w : Wd} {H : Hp} {st : So}
mutual
theorem RD.low (hm : n ≤ m) : ∀ {d : Dv} {v : V}, RD K mg m w H d v → lowD n d = true → RD K mg n w H d v
  | _, _, .p h, _ => .p h
  | _, _, .ref h, e => .ref (of_decide_eq_true e)
  | _, _, .tupD h hs, e => .tupD h (RDs.low hm hs e)
  | _, _, .lstD h hs, e => .lstD h (RDs.low hm hs e)
  | _, _, .frz h, _ => .frz h
  | _, _, .exc m i e, _ => .exc m i e
theorem RDs.low (hm : n ≤ m) : ∀ {ds : List Dv} {vs : List V}, RDs K mg m w H ds vs → lowD.go n ds = true → RDs K mg n w H ds vs
  | _, _, .nil, _ => .nil
  | _, _, .cons h hs, e => by
    have e' : (lowD n _ && lowD.go n _) = true := e
    rw [Bool.and_eq_true] at e'
    exact .cons (RD.low hm h e'.1) (RDs.low hm hs e'.2)
end
theorem paired_low {κ : Type} (hm : n ≤ m) : ∀ {kvs : List (κ × Dv)} {kws : List (κ × V)}, Paired (fun p q => p.1 = q.1 ∧ RD K mg m w H p.2 q.2) kvs kws → (kvs.all fun p => lowD n p.2) = true → Paired (fun p q => p.1 = q.1 ∧ RD K mg n w H p.2 q.2) kvs kws
  | _, _, .nil, _ => .nil
  | _, _, .cons h t, e => by
    rw [List.all_cons, Bool.and_eq_true] at e
    exact .cons ⟨h.1, h.2.low hm e.1⟩ (paired_low hm t e.2)
theorem CellOk.low {a : Addr} {c : Cl} (hm : n ≤ m) (h : CellOk K mg m w H a c) (e : lowC n c = true) : CellOk K mg n w H a c := by
  cases c with
  | lst xs => obtain ⟨vs, e1, r, ni⟩ := h; exact ⟨vs, e1, r.low hm e, ni⟩
  | dK kvs => obtain ⟨vs, e1, r, ni⟩ := h; exact ⟨vs, e1, paired_low hm r e, ni⟩
  | dT kvs => obtain ⟨vs, e1, r, ni⟩ := h; exact ⟨vs, e1, paired_low hm r e, ni⟩
  | dead => trivial
theorem live_take {i : Nat} (h : live (st.take n) i) : live st i := by
  obtain ⟨c, e, hc⟩ := h
  rw [List.getElem?_take] at e
  split at e
  · exact ⟨c, e, hc⟩
  · cases e
/-- behind the trimming -/
theorem Sim.trim (s : Sim K mg w st H) {d : Dv} {n0 : Nat} {w0 : Wd} {H0 : Hp} (g : Stp n0 w0 H0 st.length w H) : Sim K mg w (trim n0 d st) H ∧ Stp n0 w0 H0 (trim n0 d st).length w H ∧ ∀ v, RD K mg st.length w H d v → RD K mg (trim n0 d st).length w H d v := by
  unfold FB.trim
  split
  · rename_i h
    rw [Bool.and_eq_true] at h
    obtain ⟨h1, h2⟩ := h
    have hl : (st.take n0).length = n0 := by rw [List.length_take]; exact Nat.min_eq_left g.le
    rw [hl]
    refine ⟨⟨fun i c e => ?_, fun i j hi hj => s.inj i j (live_take hi) (live_take hj), s.trk, fun a h => ?_⟩, ⟨Nat.le_refl _, g.ext, g.gro, g.frm⟩, fun v r => r.low g.le h1⟩
    · rw [hl]
      have hc := List.all_eq_true.mp h2 c (List.mem_of_getElem? e)
      rw [List.getElem?_take] at e
      split at e
      · exact (s.cell i c e).low g.le hc
      · cases e
    · obtain ⟨q1, q2, q3⟩ := s.fr a h
      exact ⟨q1, q2, fun i hi => q3 i (live_take hi)⟩
  · exact ⟨s, g, fun _ r => r⟩
end
theorem envStart {K : PySem.W.Frag} {mg : Str → Option Value} {n : Nat} {w : Wd} {H : Hp} {ds : List Dv} {vs : List V} {N : List Str} (r : RDs K mg n w H ds vs) : EnvR K mg n w H (ds.map some ++ List.replicate (N.length - ds.length) none) (L2.start N vs) := by
  unfold L2.start
  rw [r.length]
  refine ⟨by rw [List.length_append, List.length_append, List.length_map, List.length_map, List.length_replicate, List.length_replicate, r.length], fun i d e => ?_⟩
  by_cases hi : i < ds.length
  · rw [List.getElem?_append_left (by rw [List.length_map]; exact hi), List.getElem?_map] at e
    cases e1 : ds[i]? with
    | none => rw [e1] at e; cases e
    | some d' =>
      rw [e1] at e
      cases e
      obtain ⟨v, h1, h2⟩ := r.get e1
      refine ⟨v, ?_, h2⟩
      rw [List.getElem?_append_left (by rw [List.length_map, ← r.length]; exact hi), List.getElem?_map, h1]
      rfl
  · rw [List.getElem?_append_right (by rw [List.length_map]; omega), List.getElem?_replicate] at e
    split at e <;> cases e
/-- a def's body keeps the def's promise -/
theorem body_ok {K : PySem.W.Frag} {mg : Str → Option Value} {N : List Str} {a : Nat} {body : FS} {vs : List V} {H : Hp} {Q : VK} {E : XK} (h : spD K mg a (runD N.length body) vs H Q E) :
    TFS K mg (fun cv dd _ H' => E cv dd H') body { nx := fun _ H' => Q .non H', rt := Q } (L2.start N vs) H := by
  obtain ⟨_, ds, st, w, sim, r, gd⟩ := h
  refine ⟨_, st, w, sim, envStart r, ?_⟩
  unfold runD at gd
  generalize body (ds.map some ++ List.replicate (N.length - ds.length) none) st = res at gd ⊢
  cases res with
  | nx ρ' st' =>
    intro w' H' σ' s sim' er'
    obtain ⟨a1, a2, a3⟩ := sim'.trim (d := .p .none) s
    exact gd w' H' .non a2 a1 (.p .non)
  | ret d st' =>
    intro w' H' v s sim' rv
    obtain ⟨a1, a2, a3⟩ := sim'.trim (d := d) s
    exact gd w' H' v a2 a1 (a3 v rv)
  | exc c fs ρ' st' =>
    intro w' H' σ' cv dd s sim' er' ex
    obtain ⟨a1, a2, a3⟩ := sim'.trim (d := .p .none) s
    exact gd w' H' cv dd a2 a1 ex
  | brk ρ' st' => exact gd.elim
  | cnt ρ' st' => exact gd.elim
  | stuck => exact gd.elim
section
variable {P : Program} {w : World} {K : PySem.W.Frag} {mg : Str → Option Value} {base : Heap}
theorem fn_ok {x qual : Str} {st : Stmt} {f : Addr} {fd : FuncData} {N ps : List Str} {k : Nat} {body : FS} (F : Fun K x qual st f fd) (S : FnScope N ps (defScope st))
    (hbody : ∀ (cdv : Value) (A : Around) (outer : List Env) (s : Shared) (H : Hp) (E : XK), Room k (A.deeper (envOfC qual (defScope st) s.heap.objs.size f cdv)) →
      PFSs (cxOf (L2.CX P w) P w K mg base N qual (defScope st) f cdv A outer s H E) (fun cv dd _ H' => E cv dd H') (defBody st) body) : FnOk P w K mg base (L2.CX P w) (k + 1) f fd ps (spD K mg ps.length (runD N.length body)) :=
  F.okX S (fun vs H Q E h => h.1) fun cdv A outer s H vs Q E hr h => ⟨_, hbody cdv A outer s H E hr, body_ok h⟩
end
def fCall (F : FD) (fr : FA) : FE := fun ρ st => (fr ρ st).bind F
theorem pf_call {k a : Nat} {f : Addr} {fd : FuncData} {ps : List Str} {F : FD} {x : Str} {p : Pos} {e : Expr} {es : List Expr} {fr : FA} (G : FnOk X.prog X.w X.K X.mg X.base (L2.CX X.prog X.w) k f fd ps (spD X.K X.mg a F)) (hr : Room k X.A) (hg : Gl X x) (hm : X.mg x = some (.ref f))
    (hk : PySem.W.keepIn X.K (.ref f) = true) (hb : Binds X.K fd ps []) (tk : Takes X W) (ha : PFA X W (e :: es) fr) (hlen : ((e :: es).length == a) = true := by rfl) (hdb : (x == ("__debug__" : Str)) = false := by decide) (he : starEach (e :: es) X.env = (false, eval e X.env) :: starEach es X.env := by rfl) (hpl : (backTo pos (starEach es X.env)).any (·.1) = false := by rfl)
    (hfl : ∀ ρ st, ∀ xs st', fr ρ st = .ok xs st' → xs.length = (e :: es).length) :
    PF X W (.Call (.Name x p) (e :: es) [] pos) (fCall F fr) := PE_imp (pe_callS G hr hg hm hk hb (fun σ => passAt tk σ) ha hdb he hpl) fun σ H Q h => by
  obtain ⟨ρ, st, w, sim, er, gd⟩ := h
  have key := Good.bind (Rel := RDs X.K X.mg) gd
  refine ⟨ρ, st, w, sim, er, ?_⟩
  cases ef : fr ρ st with
  | stuck => rw [ef] at key; exact key
  | exc c fs st' => rw [ef] at key; exact key
  | ok xs st' =>
    rw [ef] at key
    intro w1 H1 vs s sim' rv
    obtain ⟨st1, w2, ds, sim1, s1, r1, gd1⟩ := key w1 H1 vs s sim' rv
    refine ⟨?_, ds, st1, w2, sim1, r1, ?_⟩
    · rw [← rv.length, hfl ρ st xs st' ef]
      exact beq_iff_eq.mp hlen
    · cases eF : F ds st1 with
      | ok d st2 => rw [eF] at gd1; exact gd1
      | exc c fs st2 => rw [eF] at gd1; exact gd1
      | stuck => rw [eF] at gd1; exact gd1
/-- how many arguments -/
theorem fnil_len : ∀ (ρ : Sl) (st : So) (xs : List Dv) (st' : So), fNil ρ st = .ok xs st' → xs.length = 0 := fun _ _ _ _ h => by cases h; rfl
theorem fcons_len {fa : FE} {fr : FA} {k : Nat} (h : ∀ (ρ : Sl) (st : So) (xs : List Dv) (st' : So), fr ρ st = .ok xs st' → xs.length = k) : ∀ (ρ : Sl) (st : So) (xs : List Dv) (st' : So), fCons fa fr ρ st = .ok xs st' → xs.length = k + 1 := fun ρ st xs st' e => by
  unfold fCons at e
  cases e1 : fa ρ st with
  | stuck => rw [e1] at e; cases e
  | exc c fs st2 => rw [e1] at e; cases e
  | ok x st2 =>
    rw [e1] at e
    have e : (fr ρ st2).bind (fun xs st2 => Rs.ok (x :: xs) st2) = .ok xs st' := e
    cases e2 : fr ρ st2 with
    | stuck => rw [e2] at e; cases e
    | exc c fs st3 => rw [e2] at e; cases e
    | ok ys st3 =>
      rw [e2] at e
      cases e
      rw [List.length_cons, h ρ st2 ys _ e2]
/-! ### raise -/
def sRaise (c : Str) : FS := fun ρ st => .exc c [] ρ st
theorem pfs_raise {x m : Str} {C : Addr} {j : Nat} {p p2 pos' : Pos} (hc : X.calm = true) (tk : Takes X W) (q : PySem.W.excIn X.K C [Value.type "ValueError", Value.type "Exception", Value.type "BaseException", Value.type "object"] "ValueError.__new__" = true) (gC : X.mg x = some (.ref C)) (kC : PySem.W.keepIn X.K (.ref C) = true) (r : Raises X (.ref C)) (hg : Gl X x)
    (hdb : (x == ("__debug__" : Str)) = false := by decide) : PFS X W (.Raise (some (.Call (.Name x p) [.Constant (.str m) j p2] [] pos)) none pos') (sRaise x) :=
  PS_imp (ps_raise hc tk (pmk_own PySem.F.excBase_ValueError q gC kC r hg hdb)) fun D σ H ⟨ρ, st, w, sim, er, g⟩ => g w H σ (.ref C) none .refl sim er ⟨C, gC, rfl, .inl ⟨rfl, rfl⟩⟩
end
end FB
set_option Elab.async false
set_option linter.all false
set_option maxRecDepth 100000
set_option maxHeartbeats 4000000
/-! FB3: operators and built-ins over data. -/
namespace FB
open PySem PySem.Spec PyProof.Rows L2

/-! ### reading values -/
def lstOf (d : Dv) (st : So) : Option (List Dv) := match d with
  | .p (.list xs) => some (xs.map Dv.p)
  | .lstD xs => some xs
  | .ref i => match st[i]? with
    | some (.lst xs) => some xs
    | _ => none
  | _ => none
def tupOf (d : Dv) : Option (List Dv) := match d with
  | .p (.tuple xs) => some (xs.map Dv.p)
  | .tupD xs => some xs
  | _ => none
/-- a list (the script too) or a tuple -/
def seqOf (d : Dv) (st : So) : Option (List Dv) := match d with
  | .frz ns => some (ns.map fun n => .p (.int n))
  | d => match tupOf d with
    | some xs => some xs
    | none => lstOf d st
def datOf (d : Dv) (st : So) : Option PyData := match d with
  | .p x => some x
  | .ref i => match st[i]? with
    | some (.lst xs) => (pures xs).map PyData.list
    | _ => none
  | .frz ns => some (.list (ns.map PyData.int))
  | _ => none
section
variable {K : PySem.W.Frag} {mg : Str → Option Value} {st : So} {w : Wd} {H : Hp} {d : Dv} {v : V} {xs : List Dv}
theorem lst_rd (s : Sim K mg w st H) (r : RD K mg st.length w H d v) (h : lstOf d st = some xs) : ∃ a vs, v = .ref a ∧ RDs K mg st.length w H xs vs ∧ H a = some (.lst vs) := by
  unfold lstOf at h
  split at h
  · cases h
    cases r with
    | p q => cases q with
      | lst hs hr => exact ⟨_, _, rfl, RDs.ofP hr, hs.2⟩
  · cases h
    cases r with
    | lstD hs hr => exact ⟨_, _, rfl, hr, hs.2⟩
  · rename_i i
    split at h
    · rename_i ys e
      cases h
      cases r
      obtain ⟨vs, e1, r1, _⟩ := s.cell i _ e
      exact ⟨_, vs, rfl, r1, e1⟩
    · cases h
  · cases h
theorem tup_rd (r : RD K mg st.length w H d v) (h : tupOf d = some xs) : ∃ a vs, v = .ref a ∧ RDs K mg st.length w H xs vs ∧ SU K w.I H a vs := by
  unfold tupOf at h
  split at h
  · cases h
    cases r with
    | p q => cases q with
      | tup hs hr => exact ⟨_, _, rfl, RDs.ofP hr, .inr hs⟩
  · cases h
    cases r with
    | tupD hs hr => exact ⟨_, _, rfl, hr, hs⟩
  · cases h
theorem frz_rds {ns : List Int} : RDs K mg st.length w H (ns.map fun n => Dv.p (.int n)) (ns.map V.int) := by
  induction ns with
  | nil => exact .nil
  | cons n ns ih => exact .cons (.p (.int n)) ih
theorem seq_rd (s : Sim K mg w st H) (r : RD K mg st.length w H d v) (h : seqOf d st = some xs) : ∃ a vs, v = .ref a ∧ RDs K mg st.length w H xs vs ∧ (SqL K H a vs ∨ SqT K H a vs) := by
  unfold seqOf at h
  split at h
  · cases h
    cases r with
    | frz e => exact ⟨_, _, rfl, frz_rds, .inl e.sq⟩
  · split at h
    · rename_i ys e
      cases h
      obtain ⟨a, vs, h1, h2, h3⟩ := tup_rd r e
      exact ⟨a, vs, h1, h2, .inr h3.sq⟩
    · obtain ⟨a, vs, h1, h2, h3⟩ := lst_rd s r h
      exact ⟨a, vs, h1, h2, .inl (.of h3)⟩
theorem dat_dp (s : Sim K mg w st H) (r : RD K mg st.length w H d v) {x : PyData} (h : datOf d st = some x) (e : x.canLay0 = true) : Dp K H v x := by
  unfold datOf at h
  split at h
  · cases h
    cases r with
    | p q => exact q.dp e
  · rename_i i
    split at h
    · rename_i ys e1
      cases e2 : pures ys with
      | none => rw [e2] at h; cases h
      | some zs =>
        rw [e2] at h
        cases h
        cases r
        obtain ⟨vs, e3, r1, _⟩ := s.cell i _ e1
        exact .lst (.of e3) ((r1.toP e2).dp (by simpa [PyData.canLay0] using e))
    · cases h
  · rename_i ns
    cases h
    cases r with
    | frz e1 =>
      refine .lst e1.sq ?_
      clear e e1
      induction ns with
      | nil => exact .nil
      | cons n ns ih => exact .cons (.int n) ih
  · cases h
end

/-! ### equality -/
def eqD (x y : Dv) (st : So) : Option Bool := match x, y with
  | .p (.str a), .p (.str b) => some (decide (a = b))
  | .p (.int a), .p (.int b) => some (decide (a = b))
  | .p (.bool a), .p (.bool b) => some (decide (a = b))
  | x, y => match datOf x st, datOf y st with
    | some a, some b => if SeqAt.shaped a && SeqAt.shaped b then some (PyData.eqv a b) else none
    | _, _ => none
def gEq : G2 := fun x y st => (eqD x y st).map fun b => .p (.bool b)
def gNe : G2 := fun x y st => (eqD x y st).map fun b => .p (.bool (!b))
def rEqA (K : PySem.W.Frag) : R2 := fun x y H Q => rEq x y H Q ∨ rEqD K x y H Q
def rNeA (K : PySem.W.Frag) : R2 := fun x y H Q => rNe x y H Q ∨ rNeD K x y H Q
section
variable {X : Cx}
theorem op_eqA (hu : X.A.units + 64 < cLine) : OpR X (compareOp .Eq) (rEqA X.K) := op_eq.or (op_eqD hu)
theorem op_neA (hu : X.A.units + 64 < cLine) : OpR X (compareOp .NotEq) (rNeA X.K) := op_ne.or (op_neD hu)
theorem eq_core {st : So} {w : Wd} {H : Hp} {x y : Dv} {vx vy : V} {b : Bool} (sim : Sim X.K X.mg w st H) (rx : RD X.K X.mg st.length w H x vx) (ry : RD X.K X.mg st.length w H y vy) (h : eqD x y st = some b) :
    (scal vx vy = true ∧ decide (vx = vy) = b) ∨ ∃ d e, Dp X.K H vx d ∧ Dp X.K H vy e ∧ SeqAt.shaped d = true ∧ SeqAt.shaped e = true ∧ PyData.eqv d e = b := by
  unfold eqD at h
  split at h
  · cases h
    cases rx with | p qx => cases qx; cases ry with | p qy => cases qy; exact .inl ⟨rfl, by simp⟩
  · cases h
    cases rx with | p qx => cases qx; cases ry with | p qy => cases qy; exact .inl ⟨rfl, by simp⟩
  · cases h
    cases rx with | p qx => cases qx; cases ry with | p qy => cases qy; exact .inl ⟨rfl, by simp⟩
  · split at h
    · rename_i a b' ea eb
      split at h
      · rename_i hs
        cases h
        rw [Bool.and_eq_true] at hs
        exact .inr ⟨a, b', dat_dp sim rx ea (SeqAt.canLay_of_shaped hs.1), dat_dp sim ry eb (SeqAt.canLay_of_shaped hs.2), hs.1, hs.2, rfl⟩
      · cases h
    · cases h
theorem im_eq : Im2 X (rEqA X.K) gEq := fun st w H x y vx vy Q d sim rx ry h l => by
  unfold gEq at h
  cases e : eqD x y st with
  | none => rw [e] at h; cases h
  | some b =>
    rw [e] at h
    cases h
    have q : Q (.bl b) H := l w H _ .refl sim (.p (.bl b))
    rcases eq_core sim rx ry e with ⟨h1, h2⟩ | ⟨d, e', h1, h2, h3, h4, h5⟩
    · exact .inl ⟨h1, by rw [h2]; exact q⟩
    · exact .inr ⟨d, e', h1, h2, h3, h4, by rw [h5]; exact q⟩
theorem im_ne : Im2 X (rNeA X.K) gNe := fun st w H x y vx vy Q d sim rx ry h l => by
  unfold gNe at h
  cases e : eqD x y st with
  | none => rw [e] at h; cases h
  | some b =>
    rw [e] at h
    cases h
    have q : Q (.bl (!b)) H := l w H _ .refl sim (.p (.bl (!b)))
    rcases eq_core sim rx ry e with ⟨h1, h2⟩ | ⟨d, e', h1, h2, h3, h4, h5⟩
    · exact .inl ⟨h1, by rw [h2]; exact q⟩
    · exact .inr ⟨d, e', h1, h2, h3, h4, by rw [h5]; exact q⟩
end

/-! ### numbers, texts, lists, tuples: + - * // % ** << -/
def gAdd : G2 := fun x y st => match x, y with
  | .p (.int i), .p (.int j) => some (.p (.int (i + j)))
  | .p (.str a), .p (.str b) => if a.length + b.length ≤ 100000 then some (.p (.str (a ++ b))) else none
  | x, y => match tupOf x, tupOf y with
    | some xs, some ys => if xs.length + ys.length ≤ 100000 then some (if xs.isEmpty then y else if ys.isEmpty then x else mkT (xs ++ ys)) else none
    | _, _ => match lstOf x st, lstOf y st with
      | some xs, some ys => if xs.length + ys.length ≤ 100000 then some (mkL (xs ++ ys)) else none
      | _, _ => none
def rAddStr : R2 := fun x y H Q => ∃ i j : Str, x = .str i ∧ y = .str j ∧ i.length + j.length ≤ sizeLine ∧ Q (.str (i ++ j)) H
def rAddI : R2 := rI0 fun i j => .int (i + j)
def rAddA (K : PySem.W.Frag) : R2 := fun x y H Q => rAddI x y H Q ∨ rAddStr x y H Q ∨ rCatX K x y H Q ∨ rCat x y H Q
theorem le_line {n : Nat} (h : n ≤ 100000) : n ≤ sizeLine := Nat.le_trans h (by decide)
section
variable {X : Cx}
theorem op_addA : OpR X (binaryOp .Add) (rAddA X.K) := OpR.or (r := rAddI) op_add (OpR.or (r := rAddStr) op_add_str (OpR.or op_catX op_cat))
theorem im_add : Im2 X (rAddA X.K) gAdd := fun st w H x y vx vy Q d sim rx ry h l => by
  unfold gAdd at h
  split at h
  · cases h
    cases rx with | p qx => cases qx; cases ry with | p qy => cases qy; exact .inl ⟨_, _, rfl, rfl, l w H _ .refl sim (.p (.int _))⟩
  · split at h
    · rename_i hl
      cases h
      cases rx with | p qx => cases qx; cases ry with | p qy => cases qy; exact .inr (.inl ⟨_, _, rfl, rfl, le_line hl, l w H _ .refl sim (.p (.str _))⟩)
    · cases h
  · split at h
    · rename_i xs ys ex ey
      split at h
      · rename_i hl
        cases h
        obtain ⟨a, vs, rfl, r1, t1⟩ := tup_rd rx ex
        obtain ⟨b, us, rfl, r2, t2⟩ := tup_rd ry ey
        refine .inr (.inr (.inl ⟨a, b, vs, us, rfl, rfl, t1.sq, t2.sq, by rw [← r1.length, ← r2.length]; exact le_line hl, fun e => ?_, fun e1 e2 => ?_, fun e1 e2 p o hp ho => ?_⟩))
        · subst e
          cases r1
          exact l w H _ .refl sim ry
        · subst e2
          cases r2
          cases r1 with
          | nil => exact absurd rfl e1
          | cons h1 h2 => exact l w H _ .refl sim rx
        · obtain ⟨s2, sim2⟩ := sim.newP (o := .frz o (.tup (vs ++ us))) hp
          cases r1 with
          | nil => exact absurd rfl e1
          | cons h1 h2 =>
            cases r2 with
            | nil => exact absurd rfl e2
            | cons h3 h4 => exact l _ _ _ s2 sim2 (rd_mkT (.inl ⟨.inl rfl, o, ho, upd_same⟩) (((RDs.cons h1 h2).append (.cons h3 h4)).mono s2))
      · cases h
    · split at h
      · rename_i xs ys ex ey
        split at h
        · rename_i hl
          cases h
          obtain ⟨a, vs, rfl, r1, t1⟩ := lst_rd sim rx ex
          obtain ⟨b, us, rfl, r2, t2⟩ := lst_rd sim ry ey
          refine .inr (.inr (.inr ⟨a, b, vs, us, rfl, rfl, t1, t2, by rw [← r1.length, ← r2.length]; exact le_line hl, fun p hp => ?_⟩))
          obtain ⟨s2, sim2⟩ := sim.newP (o := .lst (vs ++ us)) hp
          exact l _ _ _ s2 sim2 (rd_mkL ⟨.inl rfl, upd_same⟩ ((r1.append r2).mono s2))
        · cases h
      · cases h
end
def gI (C : Int → Int → Bool) (f : Int → Int → PyData) : G2 := fun x y _ => match x, y with
  | .p (.int i), .p (.int j) => if C i j then some (.p (f i j)) else none
  | _, _ => none
def gI0 (f : Int → Int → PyData) : G2 := fun x y _ => match x, y with
  | .p (.int i), .p (.int j) => some (.p (f i j))
  | _, _ => none
section
variable {X : Cx}
theorem im_I {C : Int → Int → Prop} {c : Int → Int → Bool} {g : Int → Int → V} {f : Int → Int → PyData} (hc : ∀ i j, c i j = true → C i j) (hf : ∀ i j I H, RP X.K I H (f i j) (g i j)) : Im2 X (rI C g) (gI c f) := fun st w H x y vx vy Q d sim rx ry h l => by
  unfold gI at h
  split at h
  · rename_i i j
    split at h
    · rename_i e
      cases h
      cases rx with | p qx => cases qx; cases ry with | p qy => cases qy; exact ⟨i, j, rfl, rfl, hc i j e, l w H _ .refl sim (.p (hf i j _ _))⟩
    · cases h
  · cases h
theorem im_I0 {g : Int → Int → V} {f : Int → Int → PyData} (hf : ∀ i j I H, RP X.K I H (f i j) (g i j)) : Im2 X (rI0 g) (gI0 f) := fun st w H x y vx vy Q d sim rx ry h l => by
  unfold gI0 at h
  split at h
  · rename_i i j
    cases h
    cases rx with | p qx => cases qx; cases ry with | p qy => cases qy; exact ⟨i, j, rfl, rfl, l w H _ .refl sim (.p (hf i j _ _))⟩
  · cases h
abbrev gSub : G2 := gI0 fun i j => .int (i - j)
abbrev gLt : G2 := gI0 fun i j => .bool (decide (i < j))
abbrev gLe : G2 := gI0 fun i j => .bool (decide (i ≤ j))
abbrev gGt : G2 := gI0 fun i j => .bool (decide (j < i))
abbrev gGe : G2 := gI0 fun i j => .bool (decide (j ≤ i))
theorem im_sub : Im2 X (rI0 fun i j => .int (i - j)) gSub := im_I0 fun _ _ _ _ => .int _
theorem im_lt : Im2 X (rI0 fun i j => .bl (decide (i < j))) gLt := im_I0 fun _ _ _ _ => .bl _
theorem im_le : Im2 X (rI0 fun i j => .bl (decide (i ≤ j))) gLe := im_I0 fun _ _ _ _ => .bl _
theorem im_gt : Im2 X (rI0 fun i j => .bl (decide (j < i))) gGt := im_I0 fun _ _ _ _ => .bl _
theorem im_ge : Im2 X (rI0 fun i j => .bl (decide (j ≤ i))) gGe := im_I0 fun _ _ _ _ => .bl _
abbrev gMod : G2 := gI (fun _ j => decide (0 < j)) fun i j => .int (i % j)
theorem im_mod : Im2 X (rI (fun _ j => 0 < j) fun i j => .int (i % j)) gMod := im_I (fun _ _ h => of_decide_eq_true h) fun _ _ _ _ => .int _
/-- // by a positive divisor -/
abbrev gDiv : G2 := gI (fun _ j => decide (0 < j) && decide (j < 2 ^ 8000)) fun i j => .int (i / j)
theorem im_div : Im2 X (rI CDivW fun i j => .int (i / j)) gDiv := im_I (fun i j h => by
  rw [Bool.and_eq_true] at h
  have h1 := of_decide_eq_true h.1
  have h2 := of_decide_eq_true h.2
  exact wide_div (b := 8000) h1 (by omega) (by decide) (by decide)) fun _ _ _ _ => .int _
abbrev gPow : G2 := gI (fun i j => decide (0 ≤ j) && decide (j ≤ 1000000) && decide (i.natAbs < 2 ^ 64)) fun i j => .int (i ^ j.toNat)
theorem im_pow : Im2 X (rI CPow fun i j => .int (i ^ j.toNat)) gPow := im_I (fun i j h => by
  rw [Bool.and_eq_true, Bool.and_eq_true] at h
  exact ⟨of_decide_eq_true h.1.1, of_decide_eq_true h.1.2, of_decide_eq_true h.2⟩) fun _ _ _ _ => .int _
abbrev gShl : G2 := gI (fun i j => decide (0 ≤ j) && decide (j ≤ 1000000) && decide (i.natAbs < 2 ^ 64)) fun i j => .int (i * 2 ^ j.toNat)
theorem im_shl : Im2 X (rI CPow fun i j => .int (i * 2 ^ j.toNat)) gShl := im_I (fun i j h => by
  rw [Bool.and_eq_true, Bool.and_eq_true] at h
  exact ⟨of_decide_eq_true h.1.1, of_decide_eq_true h.1.2, of_decide_eq_true h.2⟩) fun _ _ _ _ => .int _
/-- << of a number below 2 ^ 1000 -/
def gMul : G2 := fun x y st => match x, y with
  | .p (.int i), .p (.int j) => if decide (i.natAbs < 2 ^ 64) || decide (j.natAbs < 2 ^ 64) then some (.p (.int (i * j)))
      else if decide (i.natAbs < 2 ^ 4000) && decide (j.natAbs < 2 ^ 4000) then some (.p (.int (i * j))) else none
  | .p (.str a), .p (.int k) => if decide (0 ≤ k) && decide (k < 10000) && decide (a.length < 1000) then some (.p (.str ⟨(List.replicate k.toNat a.cps.toList).flatten.toArray⟩)) else none
  | x, .p (.int k) => match tupOf x with
    | some xs => if decide (2 ≤ k) && decide (k ≤ 1000) && decide (xs.length ≤ 1000) && !xs.isEmpty then some (mkT (List.replicate k.toNat xs).flatten) else none
    | none => match lstOf x st with
      | some xs => if decide (0 ≤ k) && decide (k < 2 ^ 62) && decide (xs.length * k.toNat ≤ 100000) then some (mkL (List.replicate k.toNat xs).flatten) else none
      | none => none
  | _, _ => none
end
end FB
set_option Elab.async false
set_option linter.all false
set_option maxRecDepth 100000
set_option maxHeartbeats 4000000
/-! FB4: what is walked; subscripts, slices, membership, built-ins. -/
namespace FB
open PySem PySem.Spec PyProof.Rows L2 RZ

/-! ### what a loop walks -/
def optR {α : Type} (st : So) : Option α → Rs α
  | some a => .ok a st
  | none => .stuck
/-- a value that is walked: a list, a tuple, a text -/
def itemsOf (d : Dv) (st : So) : Option (List Dv) := match d with
  | .p (.str x) => some (x.cps.toList.map fun c => .p (.str ⟨#[c]⟩))
  | .ref _ => none
  | d => seqOf d st
def fIter (fa : FE) : FA := fun ρ st => (fa ρ st).bind fun d st1 => optR st1 (itemsOf d st1)
/-- a seq that stands: not a cell -/
theorem stays_rd {K : PySem.W.Frag} {mg : Str → Option Value} {st : So} {w : Wd} {H : Hp} {d : Dv} {v : V} {xs : List Dv} (s : Sim K mg w st H) (r : RD K mg st.length w H d v) (hn : ∀ i, d ≠ .ref i) (h : seqOf d st = some xs) :
    ∃ a vs, v = .ref a ∧ RDs K mg st.length w H xs vs ∧ ((∀ n' w' H', Stp st.length w H n' w' H' → SqL K H' a vs) ∨ (∀ n' w' H', Stp st.length w H n' w' H' → SqT K H' a vs)) := by
  unfold seqOf at h
  split at h
  · cases h
    cases r with
    | frz e => exact ⟨_, _, rfl, frz_rds, .inl fun _ _ _ g => (e.mono g.gro).sq⟩
  · split at h
    · rename_i ys e
      cases h
      obtain ⟨a, vs, h1, h2, h3⟩ := tup_rd r e
      exact ⟨a, vs, h1, h2, .inr fun _ _ _ g => (h3.mono g.gro).sq⟩
    · unfold lstOf at h
      split at h
      · cases h
        cases r with
        | p q => cases q with
          | lst hs hr => exact ⟨_, _, rfl, RDs.ofP hr, .inl fun _ _ _ g => (hs.mono g.gro).sq⟩
      · cases h
        cases r with
        | lstD hs hr => exact ⟨_, _, rfl, hr, .inl fun _ _ _ g => (hs.mono g.gro).sq⟩
      · exact absurd rfl (hn _)
      · cases h
section
variable {X : Cx} {W : WX} {tg : Expr}
def iSeq (K : PySem.W.Frag) (te : TE) : TI := fun σ H R => te σ H fun x H1 => (∃ a, x = .ref a ∧ (∃ xs, SqL K H1 a xs) ∧ R (Itl K a) H1) ∨ (∃ a, x = .ref a ∧ (∃ xs, SqT K H1 a xs) ∧ R (Itt K a) H1) ∨ ∃ z, x = .str z ∧ R (Its z) H1
theorem pi_seq {e : Expr} {te : TE} (he : PE X e te) : PI X tg e (iSeq X.K te) := by
  refine ⟨fun pins s σ H R I h => ?_⟩
  refine thn (he.run pins s σ H _ I h) fun v s1 ⟨x, H1, I1, r1, q1⟩ => ?_
  rcases q1 with ⟨a, ex, ⟨xs, hq⟩, q⟩ | ⟨a, ex, ⟨xs, hq⟩, q⟩ | ⟨z, ex, q⟩
  · subst ex
    cases r1
    obtain ⟨its, rv, p, hz⟩ := I1.list hq
    exact wpAny_pyIter_list p.isList (pi_one (tk := s1.toks) I1 _ (turn_list a _) ⟨_, Heap.get?_push_size _ rfl, rfl, rfl⟩ q)
  · subst ex
    cases r1
    obtain ⟨its, rv, p, hz⟩ := I1.tuple hq
    exact wpAny_pyIter_tuple (show s1.heap.IsTuple a its.toArray from p) (pi_one (tk := s1.toks) I1 _ (turn_tuple a _) ⟨_, Heap.get?_push_size _ rfl, rfl, rfl⟩ q)
  · subst ex
    obtain ⟨t, rfl⟩ := r1
    cases ha : z.cps.all (· < 128)
    · exact wpAny_pyIter_wide ha (pi_one (tk := s1.toks) I1 _ (turn_str _ z t "str_iterator" (.inr rfl)) ⟨_, Heap.get?_push_size _ rfl, rfl, rfl⟩ q)
    · exact wpAny_pyIter_ascii ha (pi_one (tk := s1.toks) I1 _ (turn_str _ z t "str_ascii_iterator" (.inl rfl)) ⟨_, Heap.get?_push_size _ rfl, rfl, rfl⟩ q)
variable {K : PySem.W.Frag} {mg : Str → Option Value} {n : Nat} {w : Wd} {H : Hp} {st : So} {items : List Dv}
theorem it_list {a : Addr} {vs : List V} (r : RDs K mg n w H items vs) (h : ∀ n' w' H', Stp n w H n' w' H' → SqL K H' a vs) : ItOk K mg n w H items (Itl K a) where
  stop := fun n' w' H' g => ⟨vs, h _ _ _ g, by rw [r.length]; exact Nat.le_refl _⟩
  go := fun k d w' H' st' e g sim => by
    obtain ⟨v, e1, r1⟩ := r.get e
    refine ⟨⟨vs, v, h _ _ _ g, e1⟩, fun x H'' y => ?_⟩
    obtain ⟨rfl, y⟩ := y
    have e2 := y vs (h _ _ _ g)
    rw [e1] at e2
    cases e2
    exact ⟨w', .refl, sim, r1.mono g⟩
theorem it_tup {a : Addr} {vs : List V} (r : RDs K mg n w H items vs) (h : ∀ n' w' H', Stp n w H n' w' H' → SqT K H' a vs) : ItOk K mg n w H items (Itt K a) where
  stop := fun n' w' H' g => ⟨vs, h _ _ _ g, by rw [r.length]; exact Nat.le_refl _⟩
  go := fun k d w' H' st' e g sim => by
    obtain ⟨v, e1, r1⟩ := r.get e
    refine ⟨⟨vs, v, h _ _ _ g, e1⟩, fun x H'' y => ?_⟩
    obtain ⟨rfl, y⟩ := y
    have e2 := y vs (h _ _ _ g)
    rw [e1] at e2
    cases e2
    exact ⟨w', .refl, sim, r1.mono g⟩
theorem it_str {z : Str} : ItOk K mg n w H (z.cps.toList.map fun c => Dv.p (.str ⟨#[c]⟩)) (Its z) where
  stop := fun n' w' H' g => by
    show z.cps.size ≤ _
    rw [List.length_map, Array.length_toList]
    exact Nat.le_refl _
  go := fun k d w' H' st' e g sim => by
    rw [List.getElem?_map] at e
    cases e1 : z.cps.toList[k]? with
    | none => rw [e1] at e; cases e
    | some c =>
      rw [e1] at e
      cases e
      rw [Array.getElem?_toList] at e1
      refine ⟨(Array.getElem?_eq_some_iff.mp e1).1, fun x H'' y => ?_⟩
      obtain ⟨rfl, c', e2, rfl⟩ := y
      rw [e1] at e2
      cases e2
      exact ⟨w', .refl, sim, .p (.str _)⟩
def rngL (lo : Int) (n : Nat) : List Dv := (List.range n).map fun (k : Nat) => .p (.int (lo + k))
theorem it_rng {lo : Int} {m : Nat} : ItOk K mg n w H (rngL lo m) (Itr lo m) where
  stop := fun n' w' H' g => by
    show m ≤ _
    rw [rngL, List.length_map, List.length_range]
    exact Nat.le_refl _
  go := fun k d w' H' st' e g sim => by
    rw [rngL, List.getElem?_map] at e
    cases e1 : (List.range m)[k]? with
    | none => rw [e1] at e; cases e
    | some c =>
      rw [e1] at e
      cases e
      obtain ⟨h1, h2⟩ := List.getElem?_eq_some_iff.mp e1
      rw [List.getElem_range] at h2
      subst h2
      rw [List.length_range] at h1
      refine ⟨h1, fun x H'' y => ?_⟩
      obtain ⟨rfl, rfl⟩ := y
      exact ⟨w', .refl, sim, .p (.int _)⟩
def rngLC (lo c : Int) (n : Nat) : List Dv := (List.range n).map fun (k : Nat) => .p (.int (lo + k * c))
theorem it_rngC {lo c : Int} {m : Nat} : ItOk K mg n w H (rngLC lo c m) (Itc lo c m) where
  stop := fun n' w' H' g => by
    show m ≤ _
    rw [rngLC, List.length_map, List.length_range]
    exact Nat.le_refl _
  go := fun k d w' H' st' e g sim => by
    rw [rngLC, List.getElem?_map] at e
    cases e1 : (List.range m)[k]? with
    | none => rw [e1] at e; cases e
    | some c =>
      rw [e1] at e
      cases e
      obtain ⟨h1, h2⟩ := List.getElem?_eq_some_iff.mp e1
      rw [List.getElem_range] at h2
      subst h2
      rw [List.length_range] at h1
      refine ⟨h1, fun x H'' y => ?_⟩
      obtain ⟨rfl, rfl⟩ := y
      exact ⟨w', .refl, sim, .p (.int _)⟩
/-- pairs that are made on the way -/
def pairL (xs ys : List Dv) : List Dv := (xs.zip ys).map fun p => .tupD [p.1, p.2]
theorem pair_turn {w' : Wd} {H' : Hp} {st' : So} {T : Addr} {x y : Dv} {vx vy : V} (sim : Sim K mg w' st' H') (hT : H' T = none) (rx : RD K mg st'.length w' H' x vx) (ry : RD K mg st'.length w' H' y vy) :
    ∃ w'', Stp st'.length w' H' st'.length w'' (upd H' T (.tup [vx, vy])) ∧ Sim K mg w'' st' (upd H' T (.tup [vx, vy])) ∧ RD K mg st'.length w'' (upd H' T (.tup [vx, vy])) (.tupD [x, y]) (.ref T) := by
  obtain ⟨s2, sim2⟩ := sim.newP (o := .tup [vx, vy]) hT
  exact ⟨_, s2, sim2, .tupD (.inl ⟨.inl rfl, upd_same⟩) (.cons (rx.mono s2) (.cons (ry.mono s2) .nil))⟩
theorem zip_get {xs ys : List Dv} {k : Nat} {d : Dv} (e : (pairL xs ys)[k]? = some d) : ∃ x y, xs[k]? = some x ∧ ys[k]? = some y ∧ d = .tupD [x, y] := by
  unfold pairL at e
  rw [List.getElem?_map] at e
  cases e1 : (xs.zip ys)[k]? with
  | none => rw [e1] at e; cases e
  | some p =>
    rw [e1] at e
    cases e
    rw [List.getElem?_zip_eq_some] at e1
    exact ⟨p.1, p.2, e1.1, e1.2, rfl⟩
theorem it_enum {a : Addr} {vs : List V} (r : RDs K mg n w H items vs) (h : ∀ n' w' H', Stp n w H n' w' H' → SqL K H' a vs) : ItOk K mg n w H (pairL (rngL 0 items.length) items) (Ite K a) where
  stop := fun n' w' H' g => ⟨vs, h _ _ _ g, by
    rw [pairL, List.length_map, List.length_zip, rngL, List.length_map, List.length_range, r.length]
    omega⟩
  go := fun k d w' H' st' e g sim => by
    obtain ⟨x, y, ex, ey, rfl⟩ := zip_get e
    obtain ⟨v, e1, r1⟩ := r.get ey
    refine ⟨⟨vs, v, h _ _ _ g, e1⟩, fun z H'' y' => ?_⟩
    obtain ⟨T, u, rfl, hT, rfl, hu⟩ := y'
    have e2 := hu vs (h _ _ _ g)
    rw [e1] at e2
    cases e2
    rw [rngL, List.getElem?_map] at ex
    cases e3 : (List.range items.length)[k]? with
    | none => rw [e3] at ex; cases ex
    | some c =>
      rw [e3] at ex
      cases ex
      obtain ⟨h1, h2⟩ := List.getElem?_eq_some_iff.mp e3
      rw [List.getElem_range] at h2
      subst h2
      refine pair_turn sim hT (.p ?_) (r1.mono g)
      rw [Int.zero_add]
      exact .int _
theorem it_zip {a b : Addr} {xs ys : List Dv} {vs us : List V} (r : RDs K mg n w H xs vs) (r' : RDs K mg n w H ys us) (h : ∀ n' w' H', Stp n w H n' w' H' → SqL K H' a vs) (h' : ∀ n' w' H', Stp n w H n' w' H' → SqL K H' b us) :
    ItOk K mg n w H (pairL xs ys) (Itz K a b) where
  stop := fun n' w' H' g => ⟨vs, us, h _ _ _ g, h' _ _ _ g, by
    rw [pairL, List.length_map, List.length_zip, ← r.length, ← r'.length]
    omega⟩
  go := fun k d w' H' st' e g sim => by
    obtain ⟨x, y, ex, ey, rfl⟩ := zip_get e
    obtain ⟨v, e1, r1⟩ := r.get ex
    obtain ⟨u, e2, r2⟩ := r'.get ey
    refine ⟨⟨vs, us, v, u, h _ _ _ g, h' _ _ _ g, e1, e2⟩, fun z H'' y' => ?_⟩
    obtain ⟨T, p, q, rfl, hT, rfl, hp, hq⟩ := y'
    have e3 := hp vs (h _ _ _ g)
    have e4 := hq us (h' _ _ _ g)
    rw [e1] at e3
    rw [e2] at e4
    cases e3
    cases e4
    exact pair_turn sim hT (r1.mono g) (r2.mono g)
theorem it_zipT {a b : Addr} {xs ys : List Dv} {vs us : List V} (r : RDs K mg n w H xs vs) (r' : RDs K mg n w H ys us) (h : ∀ n' w' H', Stp n w H n' w' H' → SqT K H' a vs) (h' : ∀ n' w' H', Stp n w H n' w' H' → SqT K H' b us) :
    ItOk K mg n w H (pairL xs ys) (ItzT K a b) where
  stop := fun n' w' H' g => ⟨vs, us, h _ _ _ g, h' _ _ _ g, by
    rw [pairL, List.length_map, List.length_zip, ← r.length, ← r'.length]
    omega⟩
  go := fun k d w' H' st' e g sim => by
    obtain ⟨x, y, ex, ey, rfl⟩ := zip_get e
    obtain ⟨v, e1, r1⟩ := r.get ex
    obtain ⟨u, e2, r2⟩ := r'.get ey
    refine ⟨⟨vs, us, v, u, h _ _ _ g, h' _ _ _ g, e1, e2⟩, fun z H'' y' => ?_⟩
    obtain ⟨T, p, q, rfl, hT, rfl, hp, hq⟩ := y'
    have e3 := hp vs (h _ _ _ g)
    have e4 := hq us (h' _ _ _ g)
    rw [e1] at e3
    rw [e2] at e4
    cases e3
    cases e4
    exact pair_turn sim hT (r1.mono g) (r2.mono g)
theorem pfi_seq {e : Expr} {fa : FE} (h : PF X W e fa) : PFI X W tg e (fIter fa) := PI_imp (pi_seq h) fun σ H R q => by
  obtain ⟨ρ, st, w, sim, er, gd⟩ := q
  refine ⟨ρ, st, w, sim, er, Good.imp (fun v H1 q => ?_) (Good.bind gd)⟩
  obtain ⟨st1, w1, d, sim1, s1, r1, gd1⟩ := q
  have key : ∀ xs, itemsOf d st1 = some xs → ∀ J, ItOk X.K X.mg st1.length w1 H1 xs J → R J H1 := fun xs e J it => by
    rw [e] at gd1
    exact gd1 w1 H1 J .refl sim1 it
  cases e : itemsOf d st1 with
  | none => rw [e] at gd1; exact gd1.elim
  | some xs =>
    have e' := e
    unfold itemsOf at e'
    split at e'
    · cases e'
      cases r1 with
      | p q =>
        cases q
        exact .inr (.inr ⟨_, rfl, key _ e _ it_str⟩)
    · cases e'
    · rename_i hn1 hn2
      obtain ⟨a, vs, rfl, rv, hs | hs⟩ := stays_rd sim1 r1 (fun i hi => hn2 i hi) e'
      · exact .inl ⟨a, rfl, ⟨vs, hs _ _ _ .refl⟩, key _ e _ (it_list rv hs)⟩
      · exact .inr (.inl ⟨a, rfl, ⟨vs, hs _ _ _ .refl⟩, key _ e _ (it_tup rv hs)⟩)
/-- range(n), range(a, b), range(a, b, -1) -/
def okR (i : Int) : Bool := decide (-(2 ^ 40) ≤ i) && decide (i < 2 ^ 40)
theorem okR_ok {i : Int} (h : okR i = true) : -(2 ^ 62) ≤ i ∧ i < 2 ^ 62 := by
  unfold okR at h
  rw [Bool.and_eq_true] at h
  have h1 := of_decide_eq_true h.1
  have h2 := of_decide_eq_true h.2
  omega
def rng1 (xs : List Dv) : Option (List Dv) := match xs with
  | [.p (.int j)] => if okR j then some (rngL 0 j.toNat) else none
  | _ => none
def rng2 (xs : List Dv) : Option (List Dv) := match xs with
  | [.p (.int i), .p (.int j)] => if okR i && okR j then some (rngL i (j - i).toNat) else none
  | _ => none
def rng3 (xs : List Dv) : Option (List Dv) := match xs with
  | [.p (.int i), .p (.int j), .p (.int c)] => if okR i && okR j && decide (c = -1) then some (rngLC i (-1) (i - j).toNat) else none
  | _ => none
def fRng (g : List Dv → Option (List Dv)) (fr : FA) : FA := fun ρ st => (fr ρ st).bind fun xs st1 => optR st1 (g xs)
theorem rds1 {x : Dv} {vs : List V} (r : RDs K mg n w H [x] vs) : ∃ v, vs = [v] ∧ RD K mg n w H x v := by
  cases r with | cons h t => cases t; exact ⟨_, rfl, h⟩
theorem rds2 {x y : Dv} {vs : List V} (r : RDs K mg n w H [x, y] vs) : ∃ v u, vs = [v, u] ∧ RD K mg n w H x v ∧ RD K mg n w H y u := by
  cases r with | cons h t => cases t with | cons h2 t => cases t; exact ⟨_, _, rfl, h, h2⟩
theorem rd_int {i : Int} {v : V} (r : RD K mg n w H (.p (.int i)) v) : v = .int i := by
  cases r with | p q => cases q; rfl
theorem rd_str {i : Str} {v : V} (r : RD K mg n w H (.p (.str i)) v) : v = .str i := by
  cases r with | p q => cases q; rfl
theorem rd_bl {i : Bool} {v : V} (r : RD K mg n w H (.p (.bool i)) v) : v = .bl i := by
  cases r with | p q => cases q; rfl
theorem rd_non {v : V} (r : RD K mg n w H (.p .none) v) : v = .non := by
  cases r with | p q => cases q; rfl
variable {a b c : Expr} {fr : FA} {p pos : Pos}
theorem pfi_rng1 (hm : X.mg "range" = none) (h : PFA X W [a] fr) (hg : Gl X "range" := by rfl) (hs : starEach [a] X.env = [(false, eval a X.env)] := by rfl) : PFI X W tg (.Call (.Name "range" p) [a] [] pos) (fRng rng1 fr) := PI_imp (pi_range1 hg hm h hs) fun σ H R q => by
  obtain ⟨ρ, st, w, sim, er, gd⟩ := q
  refine ⟨ρ, st, w, sim, er, Good.imp (fun v H1 q => ?_) (Good.bind gd)⟩
  obtain ⟨st1, w1, d, sim1, s1, r1, gd1⟩ := q
  unfold rng1 at gd1
  split at gd1
  · rename_i j
    split at gd1
    · rename_i hj
      obtain ⟨v, rfl, rv⟩ := rds1 r1
      obtain rfl := rd_int rv
      obtain ⟨h1, h2⟩ := okR_ok hj
      exact ⟨j, rfl, h1, h2, gd1 w1 H1 _ .refl sim1 it_rng⟩
    · exact gd1.elim
  · exact gd1.elim
theorem pfi_rng2 (hm : X.mg "range" = none) (h : PFA X W [a, b] fr) (hg : Gl X "range" := by rfl) (hs : starEach [a, b] X.env = [(false, eval a X.env), (false, eval b X.env)] := by rfl) (hs2 : starEach [b] X.env = [(false, eval b X.env)] := by rfl) :
    PFI X W tg (.Call (.Name "range" p) [a, b] [] pos) (fRng rng2 fr) := PI_imp (pi_range2 hg hm h hs hs2) fun σ H R q => by
  obtain ⟨ρ, st, w, sim, er, gd⟩ := q
  refine ⟨ρ, st, w, sim, er, Good.imp (fun v H1 q => ?_) (Good.bind gd)⟩
  obtain ⟨st1, w1, d, sim1, s1, r1, gd1⟩ := q
  unfold rng2 at gd1
  split at gd1
  · rename_i i j
    split at gd1
    · rename_i hj
      rw [Bool.and_eq_true] at hj
      obtain ⟨v, u, rfl, rv, ru⟩ := rds2 r1
      obtain rfl := rd_int rv
      obtain rfl := rd_int ru
      obtain ⟨h1, h2⟩ := okR_ok hj.1
      obtain ⟨h3, h4⟩ := okR_ok hj.2
      exact ⟨i, j, rfl, ⟨h1, h2, h3, h4⟩, gd1 w1 H1 _ .refl sim1 it_rng⟩
    · exact gd1.elim
  · exact gd1.elim
theorem pfi_rng3 (hm : X.mg "range" = none) (h : PFA X W [a, b, c] fr) (hg : Gl X "range" := by rfl) (hs : starEach [a, b, c] X.env = (false, eval a X.env) :: starEach [b, c] X.env := by rfl) (hpl : (backTo pos (starEach [b, c] X.env)).any (·.1) = false := by rfl) :
    PFI X W tg (.Call (.Name "range" p) [a, b, c] [] pos) (fRng rng3 fr) := PI_imp (pi_range3 hg hm h hs hpl) fun σ H R q => by
  obtain ⟨ρ, st, w, sim, er, gd⟩ := q
  refine ⟨ρ, st, w, sim, er, Good.imp (fun v H1 q => ?_) (Good.bind gd)⟩
  obtain ⟨st1, w1, d, sim1, s1, r1, gd1⟩ := q
  unfold rng3 at gd1
  split at gd1
  · rename_i i j c
    split at gd1
    · rename_i hj
      rw [Bool.and_eq_true, Bool.and_eq_true] at hj
      cases r1 with | cons ra t => cases t with | cons rb t => cases t with | cons rc t => 
      cases t
      obtain rfl := rd_int ra
      obtain rfl := rd_int rb
      obtain rfl := rd_int rc
      obtain rfl : c = -1 := of_decide_eq_true hj.2
      obtain ⟨h1, h2⟩ := okR_ok hj.1.1
      obtain ⟨h3, h4⟩ := okR_ok hj.1.2
      exact ⟨i, j, -1, _, rfl, RgC.neg h1 h2 h3 h4, gd1 w1 H1 _ .refl sim1 it_rngC⟩
    · exact gd1.elim
  · exact gd1.elim
/-- enumerate(a list that stands) -/
def isRef : Dv → Bool
  | .ref _ => true
  | _ => false
theorem notRef {d : Dv} (h : ¬ isRef d = true) : ∀ i, d ≠ .ref i := fun i e => by
  subst e
  exact h rfl
def enumOf (xs : List Dv) (st : So) : Option (List Dv) := match xs with
  | [d] => if isRef d then none else match tupOf d with
    | some _ => none
    | none => (seqOf d st).map fun ys => pairL (rngL 0 ys.length) ys
  | _ => none
def zipOf (xs : List Dv) (st : So) : Option (List Dv) := match xs with
  | [d, e] => if isRef d || isRef e then none else match tupOf d, tupOf e with
    | some ys, some zs => some (pairL ys zs)
    | none, none => match seqOf d st, seqOf e st with
      | some ys, some zs => some (pairL ys zs)
      | _, _ => none
    | _, _ => none
  | _ => none
def fSt (g : List Dv → So → Option (List Dv)) (fr : FA) : FA := fun ρ st => (fr ρ st).bind fun xs st1 => optR st1 (g xs st1)
theorem lst_stays {st : So} {d : Dv} {v : V} {xs : List Dv} (r : RD K mg st.length w H d v) (hn : ∀ i, d ≠ .ref i) (ht : tupOf d = none) (h : seqOf d st = some xs) :
    ∃ a vs, v = .ref a ∧ RDs K mg st.length w H xs vs ∧ ∀ n' w' H', Stp st.length w H n' w' H' → SqL K H' a vs := by
  unfold seqOf at h
  split at h
  · cases h
    cases r with
    | frz e => exact ⟨_, _, rfl, frz_rds, fun _ _ _ g => (e.mono g.gro).sq⟩
  · rw [ht] at h
    unfold lstOf at h
    dsimp only at h
    split at h
    · cases h
      cases r with
      | p q => cases q with
        | lst hs hr => exact ⟨_, _, rfl, RDs.ofP hr, fun _ _ _ g => (hs.mono g.gro).sq⟩
    · cases h
      cases r with
      | lstD hs hr => exact ⟨_, _, rfl, hr, fun _ _ _ g => (hs.mono g.gro).sq⟩
    · exact absurd rfl (hn _)
    · cases h
variable {elts : List Expr} {kk : _} {tpos : Pos}
theorem pfi_enum (hm : X.mg "enumerate" = none) (h : PFA X W [a] fr) (hg : Gl X "enumerate" := by rfl) (hs : starEach [a] X.env = [(false, eval a X.env)] := by rfl) : PFI X W (.Tuple elts kk tpos) (.Call (.Name "enumerate" p) [a] [] pos) (fSt enumOf fr) := PI_imp (pi_enum hg hm h hs) fun σ H R q => by
  obtain ⟨ρ, st, w, sim, er, gd⟩ := q
  refine ⟨ρ, st, w, sim, er, Good.imp (fun v H1 q => ?_) (Good.bind gd)⟩
  obtain ⟨st1, w1, d, sim1, s1, r1, gd1⟩ := q
  unfold enumOf at gd1
  split at gd1
  · rename_i d
    split at gd1
    · exact gd1.elim
    rename_i hn
    split at gd1
    · exact gd1.elim
    · rename_i ht
      cases e : seqOf d st1 with
      | none => rw [e] at gd1; exact gd1.elim
      | some ys =>
        rw [e] at gd1
        obtain ⟨v, rfl, rv⟩ := rds1 r1
        obtain ⟨a', vs, rfl, rr, hs⟩ := lst_stays rv (notRef hn) ht e
        exact ⟨a', vs, rfl, hs _ _ _ .refl, gd1 w1 H1 _ .refl sim1 (it_enum rr hs)⟩
  · exact gd1.elim
theorem pfi_zip (hm : X.mg "zip" = none) (h : PFA X W [a, b] fr) (hg : Gl X "zip" := by rfl) (hs : starEach [a, b] X.env = (false, eval a X.env) :: starEach [b] X.env := by rfl) (hpl : (backTo pos (starEach [b] X.env)).any (·.1) = false := by rfl) :
    PFI X W (.Tuple elts kk tpos) (.Call (.Name "zip" p) [a, b] [] pos) (fSt zipOf fr) := PI_imp (pi_zipA hg hm h hs hpl) fun σ H R q => by
  obtain ⟨ρ, st, w, sim, er, gd⟩ := q
  refine ⟨ρ, st, w, sim, er, Good.imp (fun v H1 q => ?_) (Good.bind gd)⟩
  obtain ⟨st1, w1, d, sim1, s1, r1, gd1⟩ := q
  unfold zipOf at gd1
  split at gd1
  · rename_i d e
    obtain ⟨v, u, rfl, rv, ru⟩ := rds2 r1
    split at gd1
    · exact gd1.elim
    rename_i hn
    rw [Bool.or_eq_true, not_or] at hn
    split at gd1
    · rename_i ys zs e1 e2
      obtain ⟨a', vs, rfl, rr, hs⟩ := tup_rd rv e1
      obtain ⟨b', us, rfl, rr', hs'⟩ := tup_rd ru e2
      exact ⟨a', b', vs, us, rfl, .inr ⟨hs.sq, hs'.sq, gd1 w1 H1 _ .refl sim1 (it_zipT rr rr' (fun _ _ _ g => (hs.mono g.gro).sq) fun _ _ _ g => (hs'.mono g.gro).sq)⟩⟩
    · rename_i t1 t2
      cases e1 : seqOf d st1 with
      | none => rw [e1] at gd1; exact gd1.elim
      | some ys =>
        cases e2 : seqOf e st1 with
        | none => rw [e1, e2] at gd1; exact gd1.elim
        | some zs =>
          rw [e1, e2] at gd1
          obtain ⟨a', vs, rfl, rr, hs⟩ := lst_stays rv (notRef hn.1) t1 e1
          obtain ⟨b', us, rfl, rr', hs'⟩ := lst_stays ru (notRef hn.2) t2 e2
          exact ⟨a', b', vs, us, rfl, .inl ⟨hs _ _ _ .refl, hs' _ _ _ .refl, gd1 w1 H1 _ .refl sim1 (it_zip rr rr' hs hs')⟩⟩
    · exact gd1.elim
  · exact gd1.elim

/-! ### subscripts -/
def gIx : G2 := fun x y st => match x, y with
  | .p (.str z), .p (.int i) => if z.length ≤ 100000 then (atI z.cps.toList i).map fun c => .p (.str ⟨#[c]⟩) else none
  | x, .p (.int i) => match seqOf x st with
    | some xs => atI xs i
    | none => none
  | _, _ => none
theorem rds_at {xs : List Dv} {vs : List V} {i : Int} {d : Dv} (r : RDs K mg n w H xs vs) (h : atI xs i = some d) : ∃ v, atI vs i = some v ∧ RD K mg n w H d v := by
  unfold atI at h ⊢
  rw [← r.length]
  cases e : ixN xs.length i with
  | none => rw [e] at h; cases h
  | some j =>
    rw [e] at h
    exact r.get h
theorem im_ix : Im2 X (rIx X.K) gIx := fun st w H x y vx vy Q d sim rx ry h l => by
  unfold gIx at h
  split at h
  · rename_i z i
    split at h
    · rename_i hz
      cases e : atI z.cps.toList i with
      | none => rw [e] at h; cases h
      | some c =>
        rw [e] at h
        cases h
        obtain rfl := rd_str rx
        obtain rfl := rd_int ry
        exact .inr (.inr ⟨z, i, c, rfl, rfl, le_line hz, e, l w H _ .refl sim (.p (.str _))⟩)
    · cases h
  · rename_i i hn
    split at h
    · rename_i xs e
      obtain ⟨a, vs, rfl, r1, hs⟩ := seq_rd sim rx e
      obtain rfl := rd_int ry
      obtain ⟨v, e1, r2⟩ := rds_at r1 h
      rcases hs with hs | hs
      · exact .inl ⟨a, vs, i, v, rfl, rfl, hs, e1, l w H _ .refl sim r2⟩
      · exact .inr (.inl ⟨a, vs, i, v, rfl, rfl, hs, e1, l w H _ .refl sim r2⟩)
    · cases h
  · cases h

/-! ### len, truth, list, tuple -/
def gLen : GA := fun xs st => match xs with
  | [.p (.str z)] => if z.length ≤ 100000 then some (.p (.int z.length)) else none
  | [d] => (seqOf d st).map fun ys => .p (.int ys.length)
  | _ => none
def rLenA (K : PySem.W.Frag) : List V → Hp → VK → Prop := fun xs H Q => (∃ p ys, xs = [.ref p] ∧ (SqL K H p ys ∨ SqT K H p ys) ∧ Q (.int (ys.length : Nat)) H) ∨ ∃ z : Str, xs = [.str z] ∧ z.length ≤ sizeLine ∧ Q (.int (z.length : Nat)) H
theorem call_lenA : CallR X (.builtin "len") (rLenA X.K) := CallR.or call_len_seq call_len_str
theorem im_len : ImA X (rLenA X.K) gLen := fun st w H xs vs Q d sim r h l => by
  unfold gLen at h
  split at h
  · rename_i z
    split at h
    · rename_i hz
      cases h
      obtain ⟨v, rfl, rv⟩ := rds1 r
      obtain rfl := rd_str rv
      exact .inr ⟨z, rfl, le_line hz, l w H _ .refl sim (.p (.int _))⟩
    · cases h
  · rename_i d' hn
    cases e : seqOf d' st with
    | none => rw [e] at h; cases h
    | some ys =>
      rw [e] at h
      cases h
      obtain ⟨v, rfl, rv⟩ := rds1 r
      obtain ⟨a, us, rfl, r1, hs⟩ := seq_rd sim rv e
      refine .inl ⟨a, us, rfl, hs, l w H _ .refl sim ?_⟩
      rw [← r1.length]
      exact .p (.int _)
  · cases h
/-- list(x): a new list -/
def fListOf (fa : FE) : FA := fun ρ st => (fa ρ st).bind fun d st1 => match seqOf d st1 with
  | some ys => if small ys then .ok ys st1 else .stuck
  | none => .stuck
theorem pfl_list {e : Expr} {fa : FE} (hm : X.mg "list" = none) (h : PF X W e fa) (hg : Gl X "list" := by rfl) (he : starEach [e] X.env = (false, eval e X.env) :: starEach [] X.env := by rfl) (hpl : (backTo pos (starEach [] X.env)).any (·.1) = false := by rfl) :
    PFL X W (.Call (.Name "list" p) [e] [] pos) (fListOf fa) := PE_imp (pe_callTy call_list_of hg hm (by decide +kernel) (pa_cons h pa_nil he) (by decide) (by decide) he hpl) fun σ H Q q => by
  obtain ⟨ρ, st, w, sim, er, gd⟩ := q
  refine ⟨ρ, st, w, sim, er, Good.imp (fun v H1 q => ?_) (Good.bind gd)⟩
  obtain ⟨st1, w1, d, sim1, s1, r1, gd1⟩ := q
  cases e : seqOf d st1 with
  | none => rw [e] at gd1; exact gd1.elim
  | some ys =>
    rw [e] at gd1
    by_cases hy : small ys = true
    · simp only [hy, if_true] at gd1
      obtain ⟨a, us, rfl, r2, hs⟩ := seq_rd sim1 r1 e
      refine ⟨a, us, rfl, hs, fun p hp => gd1 w1 H1 us .refl sim1 r2 p hp ?_⟩
      rw [← r2.length]
      exact small_ok hy
    · simp only [hy] at gd1
      exact gd1.elim
/-- tuple(x): a list, a tuple, a text -/
def gTuple : GA := fun xs st => match xs with
  | [.p (.str z)] => if z.length ≤ 100000 then some (mkT (z.cps.toList.map fun c => .p (.str ⟨#[c]⟩))) else none
  | [d] => match tupOf d with
    | some _ => some d
    | none => match lstOf d st with
      | some ys => if small ys then some (mkT ys) else none
      | none => none
  | _ => none
theorem rds_signs (w : Wd) (H : Hp) : ∀ cs : List Nat, RDs K mg n w H (cs.map fun c => Dv.p (.str ⟨#[c]⟩)) (cs.map fun c => V.str ⟨#[c]⟩)
  | [] => .nil
  | c :: cs => .cons (.p (.str _)) (rds_signs w H cs)
theorem im_tuple : ImA X (rTupX X.K) gTuple := fun st w H xs vs Q d sim r h l => by
  unfold gTuple at h
  split at h
  · rename_i z
    split at h
    · rename_i hz
      cases h
      obtain ⟨v, rfl, rv⟩ := rds1 r
      obtain rfl := rd_str rv
      refine .inr ⟨z, rfl, le_line hz, fun p o hp ho => ?_⟩
      obtain ⟨s2, sim2⟩ := sim.newP (o := .frz o (.tup (z.cps.toList.map fun c => V.str ⟨#[c]⟩))) hp
      exact l _ _ _ s2 sim2 (rd_mkT (.inl ⟨.inl rfl, o, ho, upd_same⟩) (rds_signs _ _ _))
    · cases h
  · rename_i d' _
    obtain ⟨v, rfl, rv⟩ := rds1 r
    split at h
    · rename_i ys e
      cases h
      obtain ⟨a, us, rfl, r1, hs⟩ := tup_rd rv e
      exact .inl ⟨a, us, rfl, .inr ⟨hs.sq, l w H _ .refl sim rv⟩⟩
    · split at h
      · rename_i ys e
        split at h
        · cases h
          obtain ⟨a, us, rfl, r1, hs⟩ := lst_rd sim rv e
          refine .inl ⟨a, us, rfl, .inl ⟨.of hs, fun p o hp ho => ?_⟩⟩
          obtain ⟨s2, sim2⟩ := sim.newP (o := .frz o (.tup us)) hp
          exact l _ _ _ s2 sim2 (rd_mkT (.inl ⟨.inl rfl, o, ho, upd_same⟩) (r1.mono s2))
        · cases h
      · cases h
  · cases h
/-- bools of a list -/
def bools : List Dv → Option (List Bool)
  | [] => some []
  | .p (.bool b) :: r => (bools r).map (b :: ·)
  | _ :: _ => none
theorem bools_rd : ∀ {xs : List Dv} {vs : List V} {bs : List Bool}, RDs K mg n w H xs vs → bools xs = some bs → vs = bs.map V.bl
  | [], _, _, r, h => by cases h; cases r; rfl
  | x :: xs, _, bs, r, h => by
    cases r with
    | cons r1 r2 =>
      unfold bools at h
      split at h
      · rename_i e; cases e
      · rename_i b r' e
        cases e
        cases e2 : bools xs with
        | none => rw [e2] at h; cases h
        | some cs =>
          rw [e2] at h
          cases h
          rw [rd_bl r1, bools_rd r2 e2]
          rfl
      · cases h
def gAll : GA := fun xs st => match xs with
  | [d] => match lstOf d st with
    | some ys => (bools ys).map fun bs => .p (.bool (bs.all id))
    | none => none
  | _ => none
def gAny : GA := fun xs st => match xs with
  | [d] => match lstOf d st with
    | some ys => (bools ys).map fun bs => .p (.bool (bs.any id))
    | none => none
  | _ => none
theorem im_all : ImA X (rAll X.K) gAll := fun st w H xs vs Q d sim r h l => by
  unfold gAll at h
  split at h
  · rename_i d'
    obtain ⟨v, rfl, rv⟩ := rds1 r
    split at h
    · rename_i ys e
      cases e2 : bools ys with
      | none => rw [e2] at h; cases h
      | some bs =>
        rw [e2] at h
        cases h
        obtain ⟨a, us, rfl, r1, hs⟩ := lst_rd sim rv e
        obtain rfl := bools_rd r1 e2
        exact ⟨a, bs, rfl, .of hs, l w H _ .refl sim (.p (.bl _))⟩
    · cases h
  · cases h
theorem im_any : ImA X (rAny X.K) gAny := fun st w H xs vs Q d sim r h l => by
  unfold gAny at h
  split at h
  · rename_i d'
    obtain ⟨v, rfl, rv⟩ := rds1 r
    split at h
    · rename_i ys e
      cases e2 : bools ys with
      | none => rw [e2] at h; cases h
      | some bs =>
        rw [e2] at h
        cases h
        obtain ⟨a, us, rfl, r1, hs⟩ := lst_rd sim rv e
        obtain rfl := bools_rd r1 e2
        exact ⟨a, bs, rfl, .of hs, l w H _ .refl sim (.p (.bl _))⟩
    · cases h
  · cases h
def intsD : List Dv → Option (List Int)
  | [] => some []
  | .p (.int b) :: r => (intsD r).map (b :: ·)
  | _ :: _ => none
theorem intsD_rd : ∀ {xs : List Dv} {vs : List V} {bs : List Int}, RDs K mg n w H xs vs → intsD xs = some bs → vs = bs.map V.int
  | [], _, _, r, h => by cases h; cases r; rfl
  | x :: xs, _, bs, r, h => by
    cases r with
    | cons r1 r2 =>
      unfold intsD at h
      split at h
      · rename_i e; cases e
      · rename_i b r' e
        cases e
        cases e2 : intsD xs with
        | none => rw [e2] at h; cases h
        | some cs =>
          rw [e2] at h
          cases h
          rw [rd_int r1, intsD_rd r2 e2]
          rfl
      · cases h
/-- the greatest of a list of intsD -/
def maxL : List Int → Int
  | [] => 0
  | x :: xs => xs.foldl (fun m y => if m < y then y else m) x
theorem maxL_go : ∀ (xs : List Int) (x m : Int), (m = x ∨ m ∈ xs) → (x ≤ m ∧ ∀ y ∈ xs, y ≤ m) → xs.foldl (fun m y => if m < y then y else m) x = m
  | [], x, m, h, hm => by
    rcases h with h | h
    · exact h.symm
    · cases h
  | y :: ys, x, m, h, hm => by
    rw [List.foldl_cons]
    have hy := hm.2 y List.mem_cons_self
    by_cases hxy : x < y
    · rw [if_pos hxy]
      refine maxL_go ys y m ?_ ⟨hy, fun z hz => hm.2 z (List.mem_cons_of_mem _ hz)⟩
      rcases h with h | h
      · exfalso; omega
      · exact List.mem_cons.mp h
    · rw [if_neg hxy]
      refine maxL_go ys x m ?_ ⟨hm.1, fun z hz => hm.2 z (List.mem_cons_of_mem _ hz)⟩
      rcases h with h | h
      · exact .inl h
      · rcases List.mem_cons.mp h with e | e
        · left; omega
        · exact .inr e
theorem maxL_eq {xs : List Int} {m : Int} (h : m ∈ xs) (hm : ∀ y ∈ xs, y ≤ m) : maxL xs = m := by
  cases xs with
  | nil => cases h
  | cons x xs => exact maxL_go xs x m (List.mem_cons.mp h) ⟨hm x List.mem_cons_self, fun y hy => hm y (List.mem_cons_of_mem _ hy)⟩
/-- max(xs); max(i, j); min(i, j) -/
def gMax : GA := fun xs st => match xs with
  | [.p (.int i), .p (.int j)] => some (.p (.int (if j > i then j else i)))
  | [d] => match lstOf d st with
    | some ys => match intsD ys with
      | some (x :: r) => some (.p (.int (maxL (x :: r))))
      | _ => none
    | none => none
  | _ => none
def rMaxA (K : PySem.W.Frag) : List V → Hp → VK → Prop := fun xs H Q => (∃ i j, xs = [.int i, .int j] ∧ Q (.int (if j > i then j else i)) H) ∨ rMax K xs H Q
theorem call_maxA (hc : X.calm = true) : CallR X (.builtin "max") (rMaxA X.K) := CallR.or (call_max2 hc) (cr_max hc)
theorem im_max : ImA X (rMaxA X.K) gMax := fun st w H xs vs Q d sim r h l => by
  unfold gMax at h
  split at h
  · rename_i i j
    cases h
    obtain ⟨v, u, rfl, rv, ru⟩ := rds2 r
    obtain rfl := rd_int rv
    obtain rfl := rd_int ru
    exact .inl ⟨i, j, rfl, l w H _ .refl sim (.p (.int _))⟩
  · rename_i d' hn
    obtain ⟨v, rfl, rv⟩ := rds1 r
    split at h
    · rename_i ys e
      split at h
      · rename_i x t e2
        cases h
        obtain ⟨a, us, rfl, r1, hs⟩ := lst_rd sim rv e
        obtain rfl := intsD_rd r1 e2
        refine .inr ⟨a, x :: t, rfl, .of hs, Nat.zero_lt_succ _, fun m hm hle => ?_⟩
        rw [← maxL_eq hm hle]
        exact l w H _ .refl sim (.p (.int _))
      · cases h
    · cases h
  · cases h
def gMin : GA := fun xs _ => match xs with
  | [.p (.int i), .p (.int j)] => some (.p (.int (if j < i then j else i)))
  | _ => none
theorem im_min : ImA X (fun xs H Q => ∃ i j, xs = [.int i, .int j] ∧ Q (.int (if j < i then j else i)) H) gMin := fun st w H xs vs Q d sim r h l => by
  unfold gMin at h
  split at h
  · rename_i i j
    cases h
    obtain ⟨v, u, rfl, rv, ru⟩ := rds2 r
    obtain rfl := rd_int rv
    obtain rfl := rd_int ru
    exact ⟨i, j, rfl, l w H _ .refl sim (.p (.int _))⟩
  · cases h
/-- int(n), int(flag) -/
def gInt : GA := fun xs _ => match xs with
  | [.p (.int i)] => some (.p (.int i))
  | [.p (.bool b)] => some (.p (.int (if b then 1 else 0)))
  | _ => none
theorem im_int : ImA X (fun xs H Q => (∃ i, xs = [.int i] ∧ Q (.int i) H) ∨ ∃ k, xs = [.bl k] ∧ Q (.int (if k then 1 else 0)) H) gInt := fun st w H xs vs Q d sim r h l => by
  unfold gInt at h
  split at h
  · cases h
    obtain ⟨v, rfl, rv⟩ := rds1 r
    obtain rfl := rd_int rv
    exact .inl ⟨_, rfl, l w H _ .refl sim (.p (.int _))⟩
  · cases h
    obtain ⟨v, rfl, rv⟩ := rds1 r
    obtain rfl := rd_bl rv
    exact .inr ⟨_, rfl, l w H _ .refl sim (.p (.int _))⟩
  · cases h

/-! ### isinstance of a built-in type -/
def tyOf (d : Dv) (st : So) : Option String := match d with
  | .p .none => some "NoneType"
  | .p (.bool _) => some "bool"
  | .p (.int _) => some "int"
  | .p (.str _) => some "str"
  | .p (.list _) => some "list"
  | .p (.tuple _) => some "tuple"
  | .p (.dict _) => some "dict"
  | .tupD _ => some "tuple"
  | .lstD _ => some "list"
  | .frz _ => some "list"
  | .ref i => match st[i]? with
    | some (.lst _) => some "list"
    | some (.dK _) => some "dict"
    | some (.dT _) => some "dict"
    | _ => none
  | .exc _ _ => none
def fIsT (T : String) (fa : FE) : FE := fun ρ st => (fa ρ st).bind fun d st1 => match tyOf d st1 with
  | some n => match kitB n T with
    | some b => .ok (.p (.bool b)) st1
    | none => .stuck
  | none => .stuck
theorem ktup_ty {a : Addr} {vs : List V} (h : SU K w.I H a vs) : TyX K H (.ref a) (.type "tuple") := by
  rcases h with h | ⟨_, o, _, h⟩ | ⟨o, its, n, e, c, _⟩
  · exact .base (.tup h.2)
  · exact .fTuple h
  · exact .kTuple e c
theorem ty_rd {st : So} {d : Dv} {v : V} {T : String} (s : Sim K mg w st H) (r : RD K mg st.length w H d v) (h : tyOf d st = some T) : TyX K H v (.type T) := by
  cases r with
  | p q =>
    cases q with
    | non => cases h; exact .base .non
    | bl b => cases h; exact .base (.bl b)
    | int i => cases h; exact .base (.int i)
    | str x => cases h; exact .base (.str x)
    | lst hs hr => cases h; exact .base (.lst hs.2)
    | tup hs hr => cases h; exact ktup_ty (.inr hs)
    | dct ia e hr => cases h; exact .base (.dK e)
  | tupD hs hr => cases h; exact ktup_ty hs
  | lstD hs hr => cases h; exact .base (.lst hs.2)
  | frz e =>
    cases h
    rcases e with ⟨_, o, e⟩ | ⟨o, its, n, e, c, _⟩
    · exact .base (.frz e)
    · exact .kList e c
  | exc m i e => cases h
  | ref hi =>
    rename_i i
    unfold tyOf at h
    dsimp only at h
    split at h
    · rename_i xs e
      cases h
      obtain ⟨vs, e1, _⟩ := s.cell i _ e
      exact .base (.lst e1)
    · rename_i xs e
      cases h
      obtain ⟨vs, e1, _⟩ := s.cell i _ e
      exact .base (.dK e1)
    · rename_i xs e
      cases h
      obtain ⟨vs, e1, _⟩ := s.cell i _ e
      exact .base (.dT e1)
    · cases h
theorem pf_isT {T : String} {x : Str} {e : Expr} {fa : FE} {pt : Pos} (hm : X.mg "isinstance" = none) (hx : X.mg x = none) (hv : bootBuiltins x = some (.type T)) (h : PF X W e fa) (hg : Gl X "isinstance" := by rfl) (hgx : Gl X x := by rfl) (hnx : x ≠ "__name__" := by decide) (hdx : (x == ("__debug__" : Str)) = false := by decide)
    (he : starEach [e, .Name x pt] X.env = (false, eval e X.env) :: starEach [.Name x pt] X.env := by rfl) (he2 : starEach [.Name x pt] X.env = (false, eval (.Name x pt) X.env) :: starEach [] X.env := by rfl) (hpl : (backTo pos (starEach [.Name x pt] X.env)).any (·.1) = false := by rfl) :
    PF X W (.Call (.Name "isinstance" p) [e, .Name x pt] [] pos) (fIsT T fa) :=
  PE_imp (pe_callB call_isi hg hm (by decide +kernel) (pa_cons h (pa_cons (pe_bltn (v := .ty T) hgx hx hv rfl hnx hdx) pa_nil he2) he) (by decide) (by decide) he hpl) fun σ H Q q => by
    obtain ⟨ρ, st, w, sim, er, gd⟩ := q
    refine ⟨ρ, st, w, sim, er, Good.imp (fun v H1 q => ?_) (Good.bind gd)⟩
    obtain ⟨st1, w1, d, sim1, s1, r1, gd1⟩ := q
    split at gd1
    · rename_i nm e1
      split at gd1
      · rename_i b e2
        exact ⟨v, .ty T, .type nm, .type T, b, rfl, .ty T, ty_rd sim1 r1 e1, kit_ty e2, gd1 w1 H1 _ .refl sim1 (.p (.bl b))⟩
      · exact gd1.elim
    · exact gd1.elim
end
end FB
set_option Elab.async false
set_option linter.all false
set_option maxRecDepth 100000
set_option maxHeartbeats 4000000
/-! FB5: in, is, chains, slices, products. -/
namespace FB
open PySem PySem.Spec PyProof.Rows L2 RZ

/-! ### in, not in -/
def flV : Dv → Option V
  | .p .none => some .non
  | .p (.bool b) => some (.bl b)
  | .p (.int i) => some (.int i)
  | .p (.str x) => some (.str x)
  | _ => none
def flVs : List Dv → Option (List V)
  | [] => some []
  | d :: r => match flV d, flVs r with
    | some v, some vs => some (v :: vs)
    | _, _ => none
def memD (x y : Dv) (st : So) : Option Bool := match x, y with
  | .p (.str a), .p (.str z) => match a.cps with
    | ⟨[c]⟩ => some (decide (c ∈ z.cps.toList))
    | _ => none
  | x, y => match seqOf y st with
    | none => none
    | some ys => match flV x, flVs ys with
      | some v, some vs => some (inV v vs)
      | _, _ => match datOf x st, datOf y st with
        | some a, some (.list ds) => if SeqAt.shaped a && SeqAt.shaped (.list ds) then some (ds.any fun z => PyData.eqv z a) else none
        | _, _ => none
def gIn : G2 := fun x y st => (memD x y st).map fun b => .p (.bool b)
def gNotIn : G2 := fun x y st => (memD x y st).map fun b => .p (.bool (!b))
def rInA (K : PySem.W.Frag) : R2 := fun x y H Q => rInS x y H Q ∨ rIn K false x y H Q ∨ rInD K x y H Q
def rNotInA (K : PySem.W.Frag) : R2 := fun x y H Q => rNotInS x y H Q ∨ rIn K true x y H Q ∨ rNotInD K x y H Q
section
variable {X : Cx} {K : PySem.W.Frag} {mg : Str → Option Value} {n : Nat} {w : Wd} {H : Hp}
theorem op_inA (hu : X.A.units + 65 < cLine) : OpR X (compareOp .In) (rInA X.K) := op_inS.or (op_in_seq.or (op_inD hu))
theorem op_notInA (hu : X.A.units + 65 < cLine) : OpR X (compareOp .NotIn) (rNotInA X.K) := op_notInS.or (op_notIn_seq.or (op_notInD hu))
theorem flV_rd {d : Dv} {v u : V} (r : RD K mg n w H d v) (h : flV d = some u) : v = u ∧ flatV u = true := by
  unfold flV at h
  split at h
  · cases h; exact ⟨rd_non r, rfl⟩
  · cases h; exact ⟨rd_bl r, rfl⟩
  · cases h; exact ⟨rd_int r, rfl⟩
  · cases h; exact ⟨rd_str r, rfl⟩
  · cases h
theorem flVs_rd : ∀ {ds : List Dv} {vs us : List V}, RDs K mg n w H ds vs → flVs ds = some us → vs = us ∧ us.all flatV = true
  | _, _, _, .nil, h => by cases h; exact ⟨rfl, rfl⟩
  | d :: ds, _, us, .cons r rs, h => by
    unfold flVs at h
    cases e1 : flV d with
    | none => rw [e1] at h; cases h
    | some a =>
      cases e2 : flVs ds with
      | none => rw [e1, e2] at h; cases h
      | some as =>
        rw [e1, e2] at h
        cases h
        obtain ⟨rfl, f1⟩ := flV_rd r e1
        obtain ⟨rfl, f2⟩ := flVs_rd rs e2
        exact ⟨rfl, by rw [List.all_cons, f1, f2]; rfl⟩
theorem mem_core {st : So} {x y : Dv} {vx vy : V} {b : Bool} (sim : Sim X.K X.mg w st H) (rx : RD X.K X.mg st.length w H x vx) (ry : RD X.K X.mg st.length w H y vy) (h : memD x y st = some b) :
    (∃ (c : Nat) (z : Str), vx = .str ⟨#[c]⟩ ∧ vy = .str z ∧ decide (c ∈ z.cps.toList) = b) ∨ (∃ p xs, vy = .ref p ∧ (SqL X.K H p xs ∨ SqT X.K H p xs) ∧ flatV vx = true ∧ xs.all flatV = true ∧ inV vx xs = b) ∨
    ∃ d ds, Dp X.K H vx d ∧ Dp X.K H vy (.list ds) ∧ SeqAt.shaped d = true ∧ SeqAt.shaped (.list ds) = true ∧ (ds.any fun z => PyData.eqv z d) = b := by
  unfold memD at h
  split at h
  · rename_i a z
    split at h
    · rename_i c e
      cases h
      obtain rfl := rd_str rx
      obtain rfl := rd_str ry
      refine .inl ⟨c, z, ?_, rfl, rfl⟩
      cases a
      simp only at e
      subst e
      rfl
    · cases h
  · split at h
    · cases h
    · rename_i ys e
      split at h
      · rename_i v vs e1 e2
        cases h
        obtain ⟨a, us, rfl, r1, hs⟩ := seq_rd sim ry e
        obtain ⟨rfl, f1⟩ := flV_rd rx e1
        obtain ⟨rfl, f2⟩ := flVs_rd r1 e2
        exact .inr (.inl ⟨a, _, rfl, hs, f1, f2, rfl⟩)
      · split at h
        · rename_i a ds ea eb
          split at h
          · rename_i hs
            cases h
            rw [Bool.and_eq_true] at hs
            exact .inr (.inr ⟨a, ds, dat_dp sim rx ea (SeqAt.canLay_of_shaped hs.1), dat_dp sim ry eb (SeqAt.canLay_of_shaped hs.2), hs.1, hs.2, rfl⟩)
          · cases h
        · cases h
theorem im_in : Im2 X (rInA X.K) gIn := fun st w H x y vx vy Q d sim rx ry h l => by
  unfold gIn at h
  cases e : memD x y st with
  | none => rw [e] at h; cases h
  | some b =>
    rw [e] at h
    cases h
    have q : Q (.bl b) H := l w H _ .refl sim (.p (.bl b))
    rcases mem_core sim rx ry e with ⟨c, z, h1, h2, h3⟩ | ⟨p, xs, h1, h2, h3, h4, h5⟩ | ⟨d, ds, h1, h2, h3, h4, h5⟩
    · exact .inl ⟨c, z, h1, h2, by rw [h3]; exact q⟩
    · exact .inr (.inl ⟨p, xs, h1, h2, h3, h4, by rw [if_neg Bool.false_ne_true, h5]; exact q⟩)
    · exact .inr (.inr ⟨d, ds, h1, h2, h3, h4, by rw [h5]; exact q⟩)
theorem im_notIn : Im2 X (rNotInA X.K) gNotIn := fun st w H x y vx vy Q d sim rx ry h l => by
  unfold gNotIn at h
  cases e : memD x y st with
  | none => rw [e] at h; cases h
  | some b =>
    rw [e] at h
    cases h
    have q : Q (.bl (!b)) H := l w H _ .refl sim (.p (.bl (!b)))
    rcases mem_core sim rx ry e with ⟨c, z, h1, h2, h3⟩ | ⟨p, xs, h1, h2, h3, h4, h5⟩ | ⟨d, ds, h1, h2, h3, h4, h5⟩
    · exact .inl ⟨c, z, h1, h2, by rw [h3]; exact q⟩
    · exact .inr (.inl ⟨p, xs, h1, h2, h3, h4, by rw [if_pos rfl, h5]; exact q⟩)
    · exact .inr (.inr ⟨d, ds, h1, h2, h3, h4, by rw [h5]; exact q⟩)

/-! ### is, is not -/
def isD (x y : Dv) : Option Bool := match x, y with
  | .p (.bool a), .p (.bool b) => some (decide (a = b))
  | .p .none, .p .none => some true
  | _, .p .none => some false
  | _, _ => none
def gIs : G2 := fun x y _ => (isD x y).map fun b => .p (.bool b)
def gIsNot : G2 := fun x y _ => (isD x y).map fun b => .p (.bool (!b))
def rIsA : R2 := fun x y H Q => rIsB x y H Q ∨ rIsN x y H Q
def rIsNotA : R2 := fun x y H Q => rNotB x y H Q ∨ rNotN x y H Q
theorem op_isA : OpR X (compareOp .Is) rIsA := op_isBl.or op_isN1
theorem op_isNotA : OpR X (compareOp .IsNot) rIsNotA := op_notBl.or op_notN1
theorem is_core {x y : Dv} {vx vy : V} {b : Bool} (rx : RD K mg n w H x vx) (ry : RD K mg n w H y vy) (h : isD x y = some b) : (∃ a c : Bool, vx = .bl a ∧ vy = .bl c ∧ decide (a = c) = b) ∨ (vy = .non ∧ decide (vx = .non) = b) := by
  unfold isD at h
  split at h
  · cases h
    exact .inl ⟨_, _, rd_bl rx, rd_bl ry, rfl⟩
  · cases h
    exact .inr ⟨rd_non ry, by rw [rd_non rx]; rfl⟩
  · rename_i hn
    cases h
    refine .inr ⟨rd_non ry, decide_eq_false fun e => ?_⟩
    subst e
    cases rx with
    | p q => cases q; exact hn rfl
  · cases h
theorem im_is : Im2 X rIsA gIs := fun st w H x y vx vy Q d sim rx ry h l => by
  unfold gIs at h
  cases e : isD x y with
  | none => rw [e] at h; cases h
  | some b =>
    rw [e] at h
    cases h
    have q : Q (.bl b) H := l w H _ .refl sim (.p (.bl b))
    rcases is_core rx ry e with ⟨a, c, h1, h2, h3⟩ | ⟨h1, h2⟩
    · exact .inl ⟨a, c, h1, h2, by rw [h3]; exact q⟩
    · exact .inr ⟨h1, by rw [h2]; exact q⟩
theorem im_isNot : Im2 X rIsNotA gIsNot := fun st w H x y vx vy Q d sim rx ry h l => by
  unfold gIsNot at h
  cases e : isD x y with
  | none => rw [e] at h; cases h
  | some b =>
    rw [e] at h
    cases h
    have q : Q (.bl (!b)) H := l w H _ .refl sim (.p (.bl (!b)))
    rcases is_core rx ry e with ⟨a, c, h1, h2, h3⟩ | ⟨h1, h2⟩
    · exact .inl ⟨a, c, h1, h2, by rw [h3]; exact q⟩
    · exact .inr ⟨h1, by rw [h2]; exact q⟩

/-! ### products -/
def repS (a : Str) (k : Int) : Str := ⟨(List.replicate k.toNat a.cps).foldl (· ++ ·) #[]⟩
def gMulA : G2 := fun x y st => match x, y with
  | .p (.int i), .p (.int j) => if decide (i.natAbs < 2 ^ 64) || decide (j.natAbs < 2 ^ 64) then some (.p (.int (i * j)))
      else if decide (i.natAbs < 2 ^ 4000) && decide (j.natAbs < 2 ^ 4000) then some (.p (.int (i * j))) else none
  | .p (.str a), .p (.int k) => if decide (2 ≤ k) && decide (k ≤ 1000) && decide (a.length ≤ 1000) && decide (1 ≤ a.length) && decide ((repS a k).length ≤ 1000000) then some (.p (.str (repS a k))) else none
  | x, .p (.int k) => match lstOf x st with
    | some xs => if decide (0 ≤ k) && decide (k ≤ 1000) && decide (xs.length ≤ 1000) then some (mkL (List.replicate k.toNat xs).flatten) else none
    | none => none
  | _, _ => none
def rMulS : R2 := fun x y H Q => ∃ (a : Str) (k : Int), x = .str a ∧ y = .int k ∧ 2 ≤ k ∧ k ≤ 1000 ∧ a.length ≤ 1000 ∧ 1 ≤ a.length ∧ (repS a k).length ≤ 1000000 ∧ Q (.str (repS a k)) H
def rMulA : R2 := fun x y H Q => rI CMul (fun i j => .int (i * j)) x y H Q ∨ rI CMulW (fun i j => .int (i * j)) x y H Q ∨ rMulS x y H Q ∨ rRep x y H Q
theorem op_mulS : OpR X (binaryOp .Mult) rMulS := by
  intro pins s σ H x y v u Q I rx ry h
  obtain ⟨a, k, rfl, rfl, h1, h2, h3, h4, h5, q⟩ := h
  obtain ⟨t, rfl⟩ := rx
  obtain ⟨t', rfl⟩ := ry
  have n1 : ¬ k < 1 := by omega
  have e0 : (k == 1 || a.length == 0) = false := by
    rw [Bool.or_eq_false_iff]
    exact ⟨beq_eq_false_iff_ne.mpr (by omega), beq_eq_false_iff_ne.mpr (by omega)⟩
  have hm : a.length * k.toNat ≤ 1000 * 1000 := Nat.mul_le_mul h3 (by omega)
  refine PySem.P.mul_str (by rw [decide_eq_false (by omega), decide_eq_false (by omega)]; rfl) (fun _ _ z => ?_) (fun _ _ => ?_) ?_
  · have q1 : ((2 : Int) ^ 63 - 1) / 1000 ≤ (2 ^ 63 - 1) / k := by
      rw [Int.le_ediv_iff_mul_le (by omega)]
      have : ((2 : Int) ^ 63 - 1) / 1000 * k ≤ ((2 : Int) ^ 63 - 1) / 1000 * 1000 := Int.mul_le_mul_of_nonneg_left h2 (by decide)
      omega
    omega
  · exact decide_eq_false (by rw [sizeLine_eq]; omega)
  · rw [if_neg n1, e0, if_neg Bool.false_ne_true]
    exact ⟨by show (repS a k).length ≤ sizeLine; rw [sizeLine_eq]; omega, .str (repS a k), H, I.tok _, ⟨_, rfl⟩, q⟩
theorem op_mulA : OpR X (binaryOp .Mult) rMulA := OpR.or (r := rI CMul fun i j => .int (i * j)) op_mul (OpR.or (r := rI CMulW fun i j => .int (i * j)) op_mulW (op_mulS.or op_rep))
theorem rds_rep {xs : List Dv} {vs : List V} (r : RDs K mg n w H xs vs) : ∀ k : Nat, RDs K mg n w H (List.replicate k xs).flatten (List.replicate k vs).flatten
  | 0 => .nil
  | k + 1 => by
    rw [List.replicate_succ, List.replicate_succ, List.flatten_cons, List.flatten_cons]
    exact r.append (rds_rep r k)
theorem im_mul : Im2 X rMulA gMulA := fun st w H x y vx vy Q d sim rx ry h l => by
  unfold gMulA at h
  split at h
  · rename_i i j
    obtain rfl := rd_int rx
    obtain rfl := rd_int ry
    split at h
    · rename_i e
      cases h
      rw [Bool.or_eq_true] at e
      refine .inl ⟨i, j, rfl, rfl, ?_, l w H _ .refl sim (.p (.int _))⟩
      rcases e with e | e
      · have := of_decide_eq_true e
        exact .inl (by omega)
      · have := of_decide_eq_true e
        exact .inr (by omega)
    · split at h
      · rename_i e
        cases h
        rw [Bool.and_eq_true] at e
        exact .inr (.inl ⟨i, j, rfl, rfl, wide_mul (of_decide_eq_true e.1) (of_decide_eq_true e.2) (by decide) (by decide) (by decide), l w H _ .refl sim (.p (.int _))⟩)
      · cases h
  · rename_i a k
    split at h
    · rename_i e
      cases h
      simp only [Bool.and_eq_true, decide_eq_true_eq] at e
      obtain ⟨⟨⟨⟨h1, h2⟩, h3⟩, h4⟩, h5⟩ := e
      obtain rfl := rd_str rx
      obtain rfl := rd_int ry
      exact .inr (.inr (.inl ⟨a, k, rfl, rfl, h1, h2, h3, h4, h5, l w H _ .refl sim (.p (.str _))⟩))
    · cases h
  · rename_i k _ _
    split at h
    · rename_i xs e
      split at h
      · rename_i h0
        cases h
        simp only [Bool.and_eq_true, decide_eq_true_eq] at h0
        obtain ⟨⟨h1, h2⟩, h3⟩ := h0
        obtain rfl := rd_int ry
        obtain ⟨a, vs, rfl, r1, t1⟩ := lst_rd sim rx e
        have hm : xs.length * k.toNat ≤ 1000 * 1000 := Nat.mul_le_mul h3 (by omega)
        refine .inr (.inr (.inr ⟨a, k, vs, rfl, rfl, t1, by omega, by omega, by rw [← r1.length, sizeLine_eq]; omega, fun p hp => ?_⟩))
        obtain ⟨s2, sim2⟩ := sim.newP (o := .lst (List.replicate k.toNat vs).flatten) hp
        exact l _ _ _ s2 sim2 (rd_mkL ⟨.inl rfl, upd_same⟩ ((rds_rep r1 _).mono s2))
      · cases h
    · cases h
  · cases h

/-! ### -i -/
def gNeg : G1 := fun x _ => match x with
  | .p (.int i) => some (.p (.int (-i)))
  | _ => none
theorem im_neg : Im1 X (rU fun i => .int (-i)) gNeg := fun st w H x vx Q d sim rx h l => by
  unfold gNeg at h
  split at h
  · cases h
    obtain rfl := rd_int rx
    exact ⟨_, rfl, l w H _ .refl sim (.p (.int _))⟩
  · cases h

/-! ### a op b op' c -/
variable {W : WX} {a b c e : Expr} {fa fb fc : FE} {pos p2 : Pos}
def fChain (g g' : G2) (fa fb fc : FE) : FE := fun ρ st => (fa ρ st).bind fun x st1 => (fb ρ st1).bind fun y st2 => match g x y st2 with
  | some (.p (.bool true)) => (fc ρ st2).bind fun z st3 => toR st3 (g' y z st3)
  | some (.p (.bool false)) => .ok (.p (.bool false)) st2
  | _ => .stuck
theorem pf_chain {op op' : CmpOp} {r r' : R2} {g g' : G2} (ho : OpR X (compareOp op) r) (ho' : OpR X (compareOp op') r') (hi : Im2 X r g) (hi' : Im2 X r' g') (ha : PF X W a fa) (hb : PF X W b fb) (hc : PF X W c fc)
    (hm : lastMarks [op, op'] [b, c] = false := by with_unfolding_all rfl) : PF X W (.Compare a [op, op'] [b, c] pos) (fChain g g' fa fb fc) := PE_imp (pe_chain ho ho' ha hb hc hm) fun σ H Q h => by
  obtain ⟨ρ, st, w, sim, er, gd⟩ := h
  refine ⟨ρ, st, w, sim, er, Good.imp (fun x H1 q => ?_) (Good.bind gd)⟩
  obtain ⟨st1, w1, d1, sim1, s1, r1, gd1⟩ := q
  refine ⟨ρ, st1, w1, sim1, er.mono s1, Good.imp (fun y H2 q => ?_) (Good.bind gd1)⟩
  obtain ⟨st2, w2, d2, sim2, s2, r2, gd2⟩ := q
  split at gd2
  · rename_i e
    refine hi st2 w2 H2 d1 d2 x y _ _ sim2 (r1.mono s2) r2 e fun w' H' v s' sim' rv => ?_
    obtain rfl := rd_bl rv
    refine ⟨true, rfl, ?_⟩
    rw [if_pos rfl]
    refine ⟨ρ, st2, w', sim', ((er.mono s1).mono s2).mono s', Good.imp (fun z H3 q => ?_) (Good.bind (gd2.later s'))⟩
    obtain ⟨st3, w3, d3, sim3, s3, r3, gd3⟩ := q
    obtain ⟨d, e', l⟩ := lies_of gd3
    exact hi' st3 w3 H3 d2 d3 y z Q d sim3 (r2.mono (s'.trans s3)) r3 e' l
  · rename_i e
    refine hi st2 w2 H2 d1 d2 x y _ _ sim2 (r1.mono s2) r2 e fun w' H' v s' sim' rv => ?_
    obtain rfl := rd_bl rv
    refine ⟨false, rfl, ?_⟩
    rw [if_neg Bool.false_ne_true]
    exact gd2 w' H' _ s' sim' (.p (.bl false))
  · exact gd2.elim

/-! ### slices -/
abbrev FO := Sl → So → Rs (Option Int)
def RelO2 : Nat → Wd → Hp → Option Int → Option Int → Prop := fun _ _ _ a b => a = b
def TFO (K : PySem.W.Frag) (mg : Str → Option Value) (W : WX) (fa : FO) : TO := fun σ H Q => ∃ ρ st w, Sim K mg w st H ∧ EnvR K mg st.length w H ρ σ ∧ Good RelO2 K mg W σ st.length w H Q (fa ρ st)
def PFO (X : Cx) (W : WX) (o : Option Expr) (fa : FO) : Prop := PO X o (TFO X.K X.mg W fa)
theorem PO_imp {o : Option Expr} {t t' : TO} (h : PO X o t) (hi : ∀ σ H Q, t' σ H Q → t σ H Q) : PO X o t' := ⟨fun pins s σ H Q I q => h.run pins s σ H Q I (hi σ H Q q)⟩
def fNoP : FO := fun _ st => .ok none st
def asI (d : Dv) (st : So) : Rs (Option Int) := match d with
  | .p (.int i) => .ok (some i) st
  | _ => .stuck
def fPt (fa : FE) : FO := fun ρ st => (fa ρ st).bind asI
theorem pfo_none : PFO X W none fNoP := PO_imp po_none fun σ H Q ⟨ρ, st, w, sim, er, g⟩ => g w H none .refl sim rfl
theorem pfo_some (h : PF X W e fa) : PFO X W (some e) (fPt fa) := PO_imp (po_some h) fun σ H Q q => by
  obtain ⟨ρ, st, w, sim, er, gd⟩ := q
  refine ⟨ρ, st, w, sim, er, Good.imp (fun x H1 q => ?_) (Good.bind gd)⟩
  obtain ⟨st1, w1, d1, sim1, s1, r1, gd1⟩ := q
  unfold asI at gd1
  split at gd1
  · rename_i i
    obtain rfl := rd_int r1
    exact ⟨i, rfl, gd1 w1 H1 _ .refl sim1 rfl⟩
  · exact gd1.elim
theorem seqL_rd {st : So} {d : Dv} {v : V} {xs : List Dv} (s : Sim K mg w st H) (r : RD K mg st.length w H d v) (ht : tupOf d = none) (h : seqOf d st = some xs) : ∃ a vs, v = .ref a ∧ RDs K mg st.length w H xs vs ∧ SqL K H a vs := by
  unfold seqOf at h
  split at h
  · cases h
    cases r with
    | frz e => exact ⟨_, _, rfl, frz_rds, e.sq⟩
  · rw [ht] at h
    obtain ⟨a, vs, h1, h2, h3⟩ := lst_rd s r h
    exact ⟨a, vs, h1, h2, .of h3⟩
def cutD (xs : List Dv) (lo hi : Option Int) : List Dv := (xs.drop (HT.sIx xs.length 0 lo)).take (HT.sIx xs.length xs.length hi - HT.sIx xs.length 0 lo)
theorem rds_cut {xs : List Dv} {vs : List V} {lo hi : Option Int} (r : RDs K mg n w H xs vs) : RDs K mg n w H (cutD xs lo hi) (cutV vs lo hi) := by
  unfold cutD cutV
  rw [r.length]
  exact (r.drop _).take _
def whole (n : Nat) (lo hi : Option Int) : Bool := decide (HT.sIx n 0 lo = 0) && decide (HT.sIx n n hi = n)
def gSl (x : Dv) (lo hi : Option Int) (st : So) : Option Dv := match x with
  | .p (.str z) => if z.length ≤ 100000 then some (.p (.str (cutS z lo hi))) else none
  | x => match tupOf x with
    | some xs => some (if whole xs.length lo hi then x else mkT (cutD xs lo hi))
    | none => (seqOf x st).map fun xs => mkL (cutD xs lo hi)
def rSlAny (K : PySem.W.Frag) : V → Option Int → Option Int → Hp → VK → Prop := fun x lo hi H Q => rSlS x lo hi H Q ∨ rSlX K x lo hi H Q ∨ rSlL K x lo hi H Q
theorem sl_any : SlR X (rSlAny X.K) := SlR.or sl_str (SlR.or sl_tupX sl_list)
theorem im_sl {st : So} {d : Dv} {x : V} {lo hi : Option Int} {Q : VK} {r : Dv} (sim : Sim X.K X.mg w st H) (rx : RD X.K X.mg st.length w H d x) (h : gSl d lo hi st = some r) (l : Lies X.K X.mg st w H Q r) : rSlAny X.K x lo hi H Q := by
  unfold gSl at h
  split at h
  · rename_i z
    split at h
    · rename_i hz
      cases h
      obtain rfl := rd_str rx
      exact .inl ⟨z, rfl, le_line hz, l w H _ .refl sim (.p (.str _))⟩
    · cases h
  · rename_i hn
    split at h
    · rename_i xs e
      cases h
      obtain ⟨a, vs, rfl, r1, hs⟩ := tup_rd rx e
      refine .inr (.inl ⟨a, vs, rfl, hs.sq, fun hw => ?_, fun hw p o hp ho => ?_⟩)
      · rw [← r1.length] at hw
        have e1 : whole xs.length lo hi = true := by unfold whole; rw [decide_eq_true hw.1, decide_eq_true hw.2]; rfl
        rw [e1, if_pos rfl] at l
        exact l w H _ .refl sim rx
      · rw [← r1.length] at hw
        have e1 : ¬ whole xs.length lo hi = true := fun z => by
          unfold whole at z
          rw [Bool.and_eq_true] at z
          exact hw ⟨of_decide_eq_true z.1, of_decide_eq_true z.2⟩
        rw [if_neg e1] at l
        obtain ⟨s2, sim2⟩ := sim.newP (o := .frz o (.tup (cutV vs lo hi))) hp
        exact l _ _ _ s2 sim2 (rd_mkT (.inl ⟨.inl rfl, o, ho, upd_same⟩) ((rds_cut r1).mono s2))
    · rename_i ht
      cases e : seqOf d st with
      | none => rw [e] at h; cases h
      | some xs =>
        rw [e] at h
        cases h
        obtain ⟨a, vs, rfl, r1, hs⟩ := seqL_rd sim rx ht e
        refine .inr (.inr ⟨a, vs, rfl, hs, fun p hp => ?_⟩)
        obtain ⟨s2, sim2⟩ := sim.newP (o := .lst (cutV vs lo hi)) hp
        exact l _ _ _ s2 sim2 (rd_mkL ⟨.inl rfl, upd_same⟩ ((rds_cut r1).mono s2))
def fSl (fa : FE) (fl fh : FO) : FE := fun ρ st => (fa ρ st).bind fun x st1 => (fl ρ st1).bind fun lo st2 => (fh ρ st2).bind fun hi st3 => toR st3 (gSl x lo hi st3)
theorem pf_sl {lo hi : Option Expr} {fl fh : FO} (he : PF X W e fa) (hl : PFO X W lo fl) (hh : PFO X W hi fh) : PF X W (.Subscript e (.Slice lo hi none p2) pos) (fSl fa fl fh) := PE_imp (pe_slice sl_any he hl hh) fun σ H Q h => by
  obtain ⟨ρ, st, w, sim, er, gd⟩ := h
  refine ⟨ρ, st, w, sim, er, Good.imp (fun x H1 q => ?_) (Good.bind gd)⟩
  obtain ⟨st1, w1, d1, sim1, s1, r1, gd1⟩ := q
  refine ⟨ρ, st1, w1, sim1, er.mono s1, Good.imp (fun y H2 q => ?_) (Good.bind gd1)⟩
  obtain ⟨st2, w2, d2, sim2, s2, r2, gd2⟩ := q
  obtain rfl : d2 = y := r2
  refine ⟨ρ, st2, w2, sim2, (er.mono s1).mono s2, Good.imp (fun z H3 q => ?_) (Good.bind gd2)⟩
  obtain ⟨st3, w3, d3, sim3, s3, r3, gd3⟩ := q
  obtain rfl : d3 = z := r3
  obtain ⟨d, e', l⟩ := lies_of gd3
  exact im_sl sim3 ((r1.mono s2).mono s3) e' l
/-- x[::-1] of a list, of a tuple -/
def gRev : G1 := fun x st => match tupOf x with
  | some xs => some (mkT xs.reverse)
  | none => (seqOf x st).map fun xs => mkL xs.reverse
theorem rds_rev : ∀ {xs : List Dv} {vs : List V}, RDs K mg n w H xs vs → RDs K mg n w H xs.reverse vs.reverse
  | _, _, .nil => .nil
  | _, _, .cons h hs => by
    rw [List.reverse_cons, List.reverse_cons]
    exact (rds_rev hs).append (.cons h .nil)
theorem pf_rev {k : Nat} {p1 p3 : Pos} (he : PF X W e fa) : PF X W (.Subscript e (.Slice none none (some (.UnaryOp .USub (.Constant (.int 1) k p1) p2)) p3) pos) (fUn gRev fa) := PE_imp (pe_rev he) fun σ H Q h => by
  obtain ⟨ρ, st, w, sim, er, gd⟩ := h
  refine ⟨ρ, st, w, sim, er, Good.imp (fun x H1 q => ?_) (Good.bind gd)⟩
  obtain ⟨st1, w1, d1, sim1, s1, r1, gd1⟩ := q
  obtain ⟨d, e', l⟩ := lies_of gd1
  unfold gRev at e'
  split at e'
  · rename_i xs e
    cases e'
    obtain ⟨a, vs, rfl, r2, hs⟩ := tup_rd r1 e
    refine ⟨a, vs, rfl, .inr ⟨hs.sq, fun p o hp ho => ?_⟩⟩
    obtain ⟨s2, sim2⟩ := sim1.newP (o := .frz o (.tup vs.reverse)) hp
    exact l _ _ _ s2 sim2 (rd_mkT (.inl ⟨.inl rfl, o, ho, upd_same⟩) ((rds_rev r2).mono s2))
  · rename_i ht
    cases e : seqOf d1 st1 with
    | none => rw [e] at e'; cases e'
    | some xs =>
      rw [e] at e'
      cases e'
      obtain ⟨a, vs, rfl, r2, hs⟩ := seqL_rd sim1 r1 ht e
      refine ⟨a, vs, rfl, .inl ⟨hs, fun p hp => ?_⟩⟩
      obtain ⟨s2, sim2⟩ := sim1.newP (o := .lst vs.reverse) hp
      exact l _ _ _ s2 sim2 (rd_mkL ⟨.inl rfl, upd_same⟩ ((rds_rev r2).mono s2))

/-! ### t.index(x), t a tuple of texts -/
def firstAt (z : Str) : List Dv → Nat → Option Nat
  | [], _ => none
  | .p (.str y) :: r, k => if y = z then some k else firstAt z r (k + 1)
  | _ :: _, _ => none
def txts : List Dv → Option (List Str)
  | [] => some []
  | .p (.str y) :: r => (txts r).map (y :: ·)
  | _ :: _ => none
def gIndexT (x : Dv) (xs : List Dv) : Option Dv := match x, xs with
  | .p (.tuple ds), [.p (.str z)] => match txts (ds.map Dv.p) with
    | some ys => if ys.contains z then some (.p (.int (ys.idxOf z : Nat))) else none
    | none => none
  | _, _ => none
def fIndexT (fa : FE) (fr : FA) : FE := fun ρ st => (fa ρ st).bind fun x st1 => match x with
  | .p (.tuple ds) => (fr ρ st1).bind fun xs st2 => toR st2 (gIndexT (.p (.tuple ds)) xs)
  | _ => .stuck
theorem txts_rd : ∀ {ds : List Dv} {ys : List Str} {vs : List V}, RDs K mg n w H ds vs → txts ds = some ys → vs = ys.map V.str
  | _, _, _, .nil, h => by cases h; rfl
  | d :: ds, ys, _, .cons r rs, h => by
    unfold txts at h
    split at h
    · rename_i e; cases e
    · rename_i y r' e
      cases e
      cases e2 : txts ds with
      | none => rw [e2] at h; cases h
      | some zs =>
        rw [e2] at h
        cases h
        rw [rd_str r, txts_rd rs e2]; rfl
    · cases h
theorem idx_before {ys : List Str} {z : Str} {m : Nat} (h : m < ys.idxOf z) : ys[m]? ≠ some z := fun e => by
  have h1 := List.not_of_lt_findIdx (p := (· == z)) (xs := ys) (i := m) h
  have h2 : m < ys.length := (List.getElem?_eq_some_iff.mp e).1
  rw [List.getElem?_eq_getElem h2] at e
  cases e
  simp at h1
variable {apos cpos : Pos} {es : List Expr} {fr : FA}
theorem pf_indexT (ho : PF X W a fa) (ha : PFA X W (e :: es) fr) (hbase : attributeBase a "index" X.env (eval a X.env) = eval a X.env := by rfl)
    (hfew : ((backTo cpos (starEach (e :: es) X.env)).all (fun x => !x.1) && (backToKw cpos (keywordEach [] X.env)).all (fun x => x.1.isSome)
      && decide ((e :: es).length + ([] : List Keyword).length + (if ([] : List Keyword).isEmpty then 0 else 1) < 30)) = true := by rfl)
    (hline : (apos.endLine == cpos.line) = true := by rfl) (hs : starEach (e :: es) X.env = (false, eval e X.env) :: starEach es X.env := by rfl) (hplain : (backTo cpos (starEach es X.env)).any (·.1) = false := by rfl) :
    PF X W (.Call (.Attribute a "index" apos) (e :: es) [] cpos) (fIndexT fa fr) := PE_imp (pe_tm PySem.F.plainAttrs_tuple PySem.F.slot_tuple_index PySem.F.type_tuple_index mt_tup_index ho ha hbase hfew hline hs hplain) fun σ H Q h => by
  obtain ⟨ρ, st, w, sim, er, gd⟩ := h
  refine ⟨ρ, st, w, sim, er, Good.imp (fun x H1 q => ?_) (Good.bind gd)⟩
  obtain ⟨st1, w1, d1, sim1, s1, r1, gd1⟩ := q
  split at gd1
  · rename_i ds
    cases r1 with
    | p q0 =>
    cases q0 with
    | tup hs0 hr0 =>
    rename_i p us
    refine ⟨⟨p, us, rfl, hs0.tm⟩, ρ, st1, w1, sim1, er.mono s1, Good.imp (fun vs H2 q => ?_) (Good.bind gd1)⟩
    obtain ⟨st2, w2, d2, sim2, s2, r2, gd2⟩ := q
    obtain ⟨d, e', l⟩ := lies_of gd2
    unfold gIndexT at e'
    split at e'
    · rename_i ds' z e0
      cases e0
      obtain ⟨v, rfl, rv⟩ := rds1 r2
      obtain rfl := rd_str rv
      split at e'
      · rename_i ys e1
        split at e'
        · rename_i hc
          cases e'
          have hr2 : RDs X.K X.mg st2.length w2 H2 (ds.map Dv.p) us := (RDs.ofP hr0).mono s2
          obtain rfl := txts_rd hr2 e1
          have hz : z ∈ ys := by simpa using hc
          refine ⟨p, ys, z, ys.idxOf z, rfl, rfl, (hs0.mono s2.gro).sq, ?_, fun m hm => idx_before hm, l w2 H2 _ .refl sim2 (.p (.int _))⟩
          rw [List.getElem?_eq_getElem (List.idxOf_lt_length_of_mem hz)]
          simp
        · cases e'
      · cases e'
    · cases e'
  · exact gd1.elim
end
end FB
set_option Elab.async false
set_option linter.all false
set_option maxRecDepth 100000
set_option maxHeartbeats 4000000
/-! FB6: methods of lists, dicts, stores, augmented assignment. -/
namespace FB
open PySem PySem.Spec PyProof.Rows L2 RZ

/-! ### methods that may write -/
abbrev GM := Dv → List Dv → So → Option (Dv × So)
def LiesM (K : PySem.W.Frag) (mg : Str → Option Value) (st : So) (w : Wd) (H : Hp) (Q : VK) (d : Dv) (st2 : So) : Prop :=
  ∀ w' H' v, Stp st.length w H st2.length w' H' → Sim K mg w' st2 H' → RD K mg st2.length w' H' d v → Q v H'
def ImM (X : Cx) (r : V → List V → Hp → VK → Prop) (g : GM) : Prop := ∀ (st : So) (w : Wd) (H : Hp) (x : Dv) (xs : List Dv) (vx : V) (vs : List V) (Q : VK) (d : Dv) (st2 : So), Sim X.K X.mg w st H → RD X.K X.mg st.length w H x vx → RDs X.K X.mg st.length w H xs vs →
  g x xs st = some (d, st2) → LiesM X.K X.mg st w H Q d st2 → r vx vs H Q
def isLst (d : Dv) (st : So) : Bool := match tupOf d with
  | some _ => false
  | none => (seqOf d st).isSome
def toM : Option (Dv × So) → Rs Dv
  | some (d, st) => .ok d st
  | none => .stuck
def fMth (g : GM) (fo : FE) (fr : FA) : FE := fun ρ st => (fo ρ st).bind fun x st1 => if isLst x st1 then (fr ρ st1).bind fun xs st2 => toM (g x xs st2) else .stuck
def fMth0 (g : GM) (fo : FE) : FE := fun ρ st => (fo ρ st).bind fun x st1 => if isLst x st1 then toM (g x [] st1) else .stuck
section
variable {X : Cx} {K : PySem.W.Frag} {mg : Str → Option Value} {n : Nat} {w : Wd} {H : Hp} {W : WX} {a e o : Expr} {es : List Expr} {fa fo : FE} {fr : FA} {apos cpos pos : Pos} {name : Str} {id : String} {r : V → List V → Hp → VK → Prop} {g : GM}
theorem isLst_ty {st : So} {d : Dv} {v : V} (s : Sim K mg w st H) (rd : RD K mg st.length w H d v) (h : isLst d st = true) : tyV K "list" v H := by
  unfold isLst at h
  split at h
  · cases h
  · rename_i ht
    cases e : seqOf d st with
    | none => rw [e] at h; cases h
    | some xs =>
      obtain ⟨a, vs, rfl, _, hs⟩ := seqL_rd s rd ht e
      exact .inl ⟨rfl, vs, hs⟩
theorem liesM_of {σ : L2.St} {st : So} {Q : VK} {o : Option (Dv × So)} (g : Good (RD K mg) K mg W σ st.length w H Q (toM o)) : ∃ d st2, o = some (d, st2) ∧ LiesM K mg st w H Q d st2 := by
  cases o with
  | none => exact g.elim
  | some p => exact ⟨p.1, p.2, rfl, g⟩
theorem pf_mth (slot : Slot "list" name id) (hty : typeOf (.builtin id) = pure (.type "method_descriptor")) (hm : MtR X id r) (hi : ImM X r g) (ho : PF X W o fo) (ha : PFA X W (e :: es) fr)
    (hbase : attributeBase o name X.env (eval o X.env) = eval o X.env := by rfl)
    (hfew : ((backTo cpos (starEach (e :: es) X.env)).all (fun x => !x.1) && (backToKw cpos (keywordEach [] X.env)).all (fun x => x.1.isSome)
      && decide ((e :: es).length + ([] : List Keyword).length + (if ([] : List Keyword).isEmpty then 0 else 1) < 30)) = true := by rfl)
    (hline : (apos.endLine == cpos.line) = true := by rfl) (hs : starEach (e :: es) X.env = (false, eval e X.env) :: starEach es X.env := by rfl) (hplain : (backTo cpos (starEach es X.env)).any (·.1) = false := by rfl) :
    PF X W (.Call (.Attribute o name apos) (e :: es) [] cpos) (fMth g fo fr) := PE_imp (pe_bm PySem.F.plainAttrs_list slot hty hm ho ha hbase hfew hline hs hplain) fun σ H Q h => by
  obtain ⟨ρ, st, w, sim, er, gd⟩ := h
  refine ⟨ρ, st, w, sim, er, Good.imp (fun x H1 q => ?_) (Good.bind gd)⟩
  obtain ⟨st1, w1, d1, sim1, s1, r1, gd1⟩ := q
  by_cases hl : isLst d1 st1 = true
  · rw [if_pos hl] at gd1
    refine ⟨isLst_ty sim1 r1 hl, ρ, st1, w1, sim1, er.mono s1, Good.imp (fun vs H2 q => ?_) (Good.bind gd1)⟩
    obtain ⟨st2, w2, d2, sim2, s2, r2, gd2⟩ := q
    obtain ⟨d, st3, e', l⟩ := liesM_of gd2
    exact hi st2 w2 H2 d1 d2 x vs Q d st3 sim2 (r1.mono s2) r2 e' l
  · rw [if_neg hl] at gd1
    exact gd1.elim
theorem pf_mth0 (slot : Slot "list" name id) (hty : typeOf (.builtin id) = pure (.type "method_descriptor")) (hm : MtR X id r) (hi : ImM X r g) (ho : PF X W o fo)
    (hbase : attributeBase o name X.env (eval o X.env) = eval o X.env := by rfl) (hline : (apos.endLine == cpos.line) = true := by rfl) :
    PF X W (.Call (.Attribute o name apos) [] [] cpos) (fMth0 g fo) := PE_imp (pe_bm0 PySem.F.plainAttrs_list slot hty hm ho hbase hline) fun σ H Q h => by
  obtain ⟨ρ, st, w, sim, er, gd⟩ := h
  refine ⟨ρ, st, w, sim, er, Good.imp (fun x H1 q => ?_) (Good.bind gd)⟩
  obtain ⟨st1, w1, d1, sim1, s1, r1, gd1⟩ := q
  by_cases hl : isLst d1 st1 = true
  · rw [if_pos hl] at gd1
    obtain ⟨d, st3, e', l⟩ := liesM_of gd1
    exact ⟨isLst_ty sim1 r1 hl, hi st1 w1 H1 d1 [] x [] Q d st3 sim1 r1 .nil e' l⟩
  · rw [if_neg hl] at gd1
    exact gd1.elim
/-- the list cell at d -/
def cellL (d : Dv) (st : So) : Option (Nat × List Dv) := match d with
  | .ref i => match st[i]? with
    | some (.lst xs) => some (i, xs)
    | _ => none
  | _ => none
theorem cellL_rd {st : So} {d : Dv} {v : V} {i : Nat} {xs : List Dv} (s : Sim K mg w st H) (rd : RD K mg st.length w H d v) (h : cellL d st = some (i, xs)) :
    ∃ vs, v = .ref (w.m i) ∧ H (w.m i) = some (.lst vs) ∧ RDs K mg st.length w H xs vs ∧ live st i ∧ st[i]? = some (.lst xs) := by
  unfold cellL at h
  split at h
  · rename_i j
    split at h
    · rename_i ys e
      cases h
      cases rd
      obtain ⟨vs, e1, r1, _⟩ := s.cell _ _ e
      exact ⟨vs, rfl, e1, r1, ⟨_, e, by simp⟩, e⟩
    · cases h
  · cases h
/-- a list cell rewritten -/
theorem cell_wr {st : So} {i : Nat} {ys : List Dv} {vs : List V} (s : Sim K mg w st H) (hl : live st i) (r : RDs K mg st.length w H ys vs) :
    Stp st.length w H (st.set i (.lst ys)).length w (upd H (w.m i) (.lst vs)) ∧ Sim K mg w (st.set i (.lst ys)) (upd H (w.m i) (.lst vs)) := by
  rw [List.length_set]
  exact s.wr (o := .lst vs) (c := .lst ys) hl fun {w' H'} g e nI => ⟨vs, e, r.mono g, nI⟩
def gAppend : GM := fun x xs st => match cellL x st, xs with
  | some (i, ys), [d] => if ys.length < 100000 then some (.p .none, st.set i (.lst (ys ++ [d]))) else none
  | _, _ => none
theorem im_append : ImM X rAppend gAppend := fun st w H x xs vx vs Q d st2 sim rx rs h l => by
  unfold gAppend at h
  split at h
  · rename_i i ys d' e
    split at h
    · rename_i hl
      cases h
      obtain ⟨us, rfl, e1, r1, lv, _⟩ := cellL_rd sim rx e
      obtain ⟨v, rfl, rv⟩ := rds1 rs
      obtain ⟨s2, sim2⟩ := cell_wr sim lv (r1.append (.cons rv .nil))
      refine ⟨w.m i, us, v, rfl, rfl, e1, ?_, l _ _ _ s2 sim2 (.p .non)⟩
      rw [← r1.length, sizeLine_eq]; omega
    · cases h
  · cases h
def gPop : GM := fun x xs st => match cellL x st, xs with
  | some (i, ys), [] => match ys[ys.length - 1]? with
    | some d => some (d, st.set i (.lst ys.dropLast))
    | none => none
  | _, _ => none
theorem rds_dropLast {xs : List Dv} {vs : List V} (r : RDs K mg n w H xs vs) : RDs K mg n w H xs.dropLast vs.dropLast := by
  rw [List.dropLast_eq_take, List.dropLast_eq_take, r.length]
  exact r.take _
theorem im_pop : ImM X rPop gPop := fun st w H x xs vx vs Q d st2 sim rx rs h l => by
  unfold gPop at h
  split at h
  · rename_i i ys e
    split at h
    · rename_i d' ed
      cases h
      obtain ⟨us, rfl, e1, r1, lv, _⟩ := cellL_rd sim rx e
      cases rs
      obtain ⟨v, ev, rv⟩ := r1.get ed
      obtain ⟨s2, sim2⟩ := cell_wr sim lv (rds_dropLast r1)
      refine ⟨w.m i, us, v, rfl, rfl, e1, by rw [← r1.length]; exact ev, l _ _ _ s2 sim2 (rv.mono s2)⟩
    · cases h
  · cases h
def gPopAt : GM := fun x xs st => match cellL x st, xs with
  | some (i, ys), [.p (.int k)] => match ixN ys.length k with
    | some j => match ys[j]? with
      | some d => if ys.length ≤ 100000 then some (d, st.set i (.lst (ys.eraseIdx j))) else none
      | none => none
    | none => none
  | _, _ => none
theorem line62 : sizeLine < 2 ^ 62 := by rw [sizeLine_eq]; decide
theorem im_popAt : ImM X rPopAt gPopAt := fun st w H x xs vx vs Q d st2 sim rx rs h l => by
  unfold gPopAt at h
  split at h
  · rename_i i ys k e
    split at h
    · rename_i j ej
      split at h
      · rename_i d' ed
        split at h
        · rename_i hz
          cases h
          obtain ⟨us, rfl, e1, r1, lv, _⟩ := cellL_rd sim rx e
          obtain ⟨vk, rfl, rk⟩ := rds1 rs
          obtain rfl := rd_int rk
          obtain ⟨v, ev, rv⟩ := r1.get ed
          obtain ⟨h1, h2, h3, h4⟩ := ixN_seq ej
          obtain ⟨s2, sim2⟩ := cell_wr sim lv (r1.eraseIdx j)
          have hl := r1.length
          exact ⟨w.m i, us, k, j, v, rfl, rfl, e1, by omega, by omega, by rw [← hl]; exact h1, ev, l _ _ _ s2 sim2 (rv.mono s2)⟩
        · cases h
      · cases h
    · cases h
  · cases h
def rInsert : V → List V → Hp → VK → Prop := fun x vs H Q => ∃ (l : Addr) (xs : List V) (i : Int) (y : V), x = .ref l ∧ vs = [.int i, y] ∧ H l = some (.lst xs) ∧ xs.length < sizeLine ∧ 0 ≤ i ∧ i < 2 ^ 63 ∧
    Q .non (upd H l (.lst (xs.take i.toNat ++ [y] ++ xs.drop i.toNat)))
theorem mt_insertA : MtR X "list.insert" rInsert := mt_insert
def gInsert : GM := fun x xs st => match cellL x st, xs with
  | some (i, ys), [.p (.int k), d] => if ys.length < 100000 ∧ 0 ≤ k ∧ k ≤ 100000 then some (.p .none, st.set i (.lst (ys.take k.toNat ++ [d] ++ ys.drop k.toNat))) else none
  | _, _ => none
theorem im_insert : ImM X rInsert gInsert := fun st w H x xs vx vs Q d st2 sim rx rs h l => by
  unfold gInsert at h
  split at h
  · rename_i i ys k d' e
    split at h
    · rename_i hl
      cases h
      obtain ⟨us, rfl, e1, r1, lv, _⟩ := cellL_rd sim rx e
      obtain ⟨vk, v, rfl, rk, rv⟩ := rds2 rs
      obtain rfl := rd_int rk
      obtain ⟨s2, sim2⟩ := cell_wr sim lv (((r1.take k.toNat).append (.cons rv .nil)).append (r1.drop k.toNat))
      refine ⟨w.m i, us, k, v, rfl, rfl, e1, ?_, hl.2.1, by omega, l _ _ _ s2 sim2 (.p .non)⟩
      rw [← r1.length, sizeLine_eq]; omega
    · cases h
  · cases h

/-! ### xs[k] = v, xs a list cell -/
def tgSet (fo fi : FE) : Dv → Sl → So → Rs Unit := fun d ρ st => (fo ρ st).bind fun x st1 => (fi ρ st1).bind fun y st2 => match cellL x st2, y with
  | some (i, ys), .p (.int k) => match ixN ys.length k with
    | some j => .ok () (st2.set i (.lst (ys.set j d)))
    | none => .stuck
  | _, _ => .stuck
def sSet (fa fo fi : FE) : FS := fun ρ st => (fa ρ st).st ρ fun d st1 => (tgSet fo fi d ρ st1).st ρ fun _ st2 => .nx ρ st2
variable {sa : Stmt} {i : Expr} {fi : FE} {p2 : Pos}
theorem pfs_setIx (he : PF X W e fa) (ho : PF X W o fo) (hi : PF X W i fi) (hs : swapsWithSole [.Subscript o i p2] e pos.line X.env = pure false := by rfl) (hw : swappedStores [.Subscript o i p2] e X.env = pure none := by rfl)
    (h1 : (assignEach [.Subscript o i p2] X.env).map (·.2) = [assign (.Subscript o i p2) X.env] := by rfl)
    (ha : ∀ v, assign (.Subscript o i p2) X.env v = (do
      let ov ← holding [v] (eval o X.env)
      let iv ← holding [v, ov] (eval i X.env)
      standAt p2
      holding [v, ov, iv] (setItem ov iv v)
      release [v, ov, iv] []) := by intro _; rfl) : PFS X W (.Assign [.Subscript o i p2] e pos) (sSet fa fo fi) := PS_imp (ps_asg he (pg_sub ho hi set_list ha) hs hw h1) fun D σ H q => by
  obtain ⟨ρ, st, w, sim, er, gd⟩ := q
  refine ⟨ρ, st, w, sim, er, Good.imp (fun v H1 q => ?_) (good_st er gd)⟩
  obtain ⟨st1, w1, d, sim1, s1, r1, er1, gd1⟩ := q
  unfold tgSet at gd1
  refine ⟨ρ, st1, w1, sim1, er1, ?_⟩
  have gd2 := gd1
  clear gd1 gd
  cases e1 : fo ρ st1 with
  | stuck => rw [e1] at gd2; exact gd2.elim
  | exc c fs st' => rw [e1] at gd2; exact fun w2 H2 cv dd s2 sim2 ex => gd2 w2 H2 σ cv dd s2 sim2 (er1.mono s2) ex
  | ok x st2 =>
    rw [e1] at gd2
    intro w2 H2 vx s2 sim2 rx
    refine ⟨ρ, st2, w2, sim2, er1.mono s2, ?_⟩
    have gd3 : GoodS X.K X.mg W st1.length w1 H1 D (((fi ρ st2).bind fun y st2 => match cellL x st2, y with
      | some (i, ys), .p (.int k) => match ixN ys.length k with
        | some j => Rs.ok () (st2.set i (.lst (ys.set j d)))
        | none => .stuck
      | _, _ => .stuck).st ρ fun _ st2 => .nx ρ st2) := gd2
    cases e2 : fi ρ st2 with
    | stuck => rw [e2] at gd3; exact gd3.elim
    | exc c fs st' => rw [e2] at gd3; exact fun w3 H3 cv dd s3 sim3 ex => gd3 w3 H3 σ cv dd (s2.trans s3) sim3 ((er1.mono s2).mono s3) ex
    | ok y st3 =>
      rw [e2] at gd3
      intro w3 H3 vy s3 sim3 ry
      have gd4 : GoodS X.K X.mg W st1.length w1 H1 D (Rs.st (match cellL x st3, y with
      | some (i, ys), .p (.int k) => match ixN ys.length k with
        | some j => Rs.ok () (st3.set i (.lst (ys.set j d)))
        | none => .stuck
      | _, _ => .stuck) ρ fun _ st2 => .nx ρ st2) := gd3
      split at gd4
      · rename_i j ys k ec
        split at gd4
        · rename_i j' ej
          obtain ⟨us, rfl, e5, r5, lv, _⟩ := cellL_rd sim3 (rx.mono s3) ec
          obtain rfl := rd_int ry
          obtain ⟨s4, sim4⟩ := cell_wr sim3 lv (r5.set (((r1.mono s2).mono s3)) j')
          refine ⟨_, us, k, j', rfl, rfl, e5, by rw [← r5.length]; exact ej, ?_⟩
          exact gd4 _ _ σ ((s2.trans s3).trans s4) sim4 (((er1.mono s2).mono s3).mono s4)
        · exact gd4.elim
      · exact gd4.elim

/-! ### name op= e -/
def sAug (i : Nat) (g : G2) (fe : FE) : FS := fun ρ st => match ρ[i]? with
  | some (some d) => (fe ρ st).st ρ fun y st1 => match g d y st1 with
    | some z => .nx (ρ.set i (some z)) st1
    | none => .stuck
  | _ => .stuck
theorem pfs_aug {j : Nat} {x : Str} {op : Operator} {rr : R2} {g2 : G2} (hN : X.N.Nodup) (hop : OpR X (inplaceOp op) rr) (him : Im2 X rr g2) (he : PF X W e fa) (hj : X.N[j]? = some x := by rfl) (hx : Loc X.env.scope x := by first | exact .inl rfl | exact .inr rfl)
    (hf : X.fn x = true ∨ X.env.scope.names.lookup x = some .local := by first | exact .inl rfl | exact .inr rfl) : PFS X W (.AugAssign (.Name x p2) op e pos) (sAug j g2 fa) := PS_imp (ps_aug hN hj hx he (ti := rr) hop hf) fun D σ H q => by
  obtain ⟨ρ, st, w, sim, er, gd⟩ := q
  unfold sAug at gd
  split at gd
  · rename_i d hd
    obtain ⟨v, ev, rv⟩ := er.2 j d hd
    refine ⟨v, ev, ρ, st, w, sim, er, Good.imp (fun y H1 q => ?_) (good_st er gd)⟩
    obtain ⟨st1, w1, d1, sim1, s1, r1, er1, gd1⟩ := q
    split at gd1
    · rename_i z hz
      exact him st1 w1 H1 d d1 v y _ z sim1 (rv.mono s1) r1 hz fun w' H' v' s' sim' r' => gd1 w' H' _ s' sim' ((er1.mono s').set r' j)
    · exact gd1.elim
  · exact gd.elim
theorem op_iaddI : OpR X (inplaceOp .Add) (rI0 fun i j => .int (i + j)) := iop_add
abbrev gAddI : G2 := gI0 fun i j => .int (i + j)
theorem im_addI : Im2 X (rI0 fun i j => .int (i + j)) gAddI := im_I0 fun _ _ _ _ => .int _
/-- found *= i, small factors -/
abbrev gMulI : G2 := gI (fun _ j => decide (j.natAbs < 2 ^ 64)) fun i j => .int (i * j)
theorem im_mulI : Im2 X (rI CMul fun i j => .int (i * j)) gMulI := im_I (fun i j h => by
  have := of_decide_eq_true h
  exact .inr (by omega)) fun _ _ _ _ => .int _
/-- xs += ys on a list cell: the tracked list grows -/
def sExt (i : Nat) (fe : FE) : FS := fun ρ st => match ρ[i]? with
  | some (some d) => (fe ρ st).st ρ fun y st1 => match cellL d st1, lstOf y st1 with
    | some (j, xs), some ys => if xs.length + ys.length ≤ 100000 then .nx ρ (st1.set j (.lst (xs ++ ys))) else .stuck
    | _, _ => .stuck
  | _ => .stuck
theorem pfs_ext {j : Nat} {x : Str} (hN : X.N.Nodup) (he : PF X W e fa) (hj : X.N[j]? = some x := by rfl) (hx : Loc X.env.scope x := by first | exact .inl rfl | exact .inr rfl)
    (hf : X.fn x = true ∨ X.env.scope.names.lookup x = some .local := by first | exact .inl rfl | exact .inr rfl) : PFS X W (.AugAssign (.Name x p2) .Add e pos) (sExt j fa) := PS_imp (ps_aug hN hj hx he (ti := rExt2) iop_ext hf) fun D σ H q => by
  obtain ⟨ρ, st, w, sim, er, gd⟩ := q
  unfold sExt at gd
  split at gd
  · rename_i d hd
    obtain ⟨v, ev, rv⟩ := er.2 j d hd
    refine ⟨v, ev, ρ, st, w, sim, er, Good.imp (fun y H1 q => ?_) (good_st er gd)⟩
    obtain ⟨st1, w1, d1, sim1, s1, r1, er1, gd1⟩ := q
    split at gd1
    · rename_i k xs ys ec el
      split at gd1
      · rename_i hl
        obtain ⟨us, rfl, e1, r2, lv, _⟩ := cellL_rd sim1 (rv.mono s1) ec
        obtain ⟨b, vs, rfl, r3, e3⟩ := lst_rd sim1 r1 el
        obtain ⟨s4, sim4⟩ := cell_wr sim1 lv (r2.append r3)
        refine ⟨w1.m k, b, us, vs, rfl, rfl, e1, e3, by rw [← r2.length, ← r3.length]; exact le_line hl, ?_⟩
        have hσ : σ.set j (some (V.ref (w1.m k))) = σ := by
          obtain ⟨h1, h2⟩ := List.getElem?_eq_some_iff.mp ev
          rw [← h2]
          exact List.set_getElem_self h1
        show D.nx (σ.set j (some (V.ref (w1.m k)))) _
        rw [hσ]
        exact gd1 _ _ σ s4 sim4 (er1.mono s4)
      · exact gd1.elim
    · exact gd1.elim
  · exact gd.elim

/-! ### dicts with ints and texts as keys: cells -/
def keyD : Dv → Option Key
  | .p (.int i) => some (.inl i)
  | .p (.str x) => some (.inr x)
  | _ => none
def dictOf (d : Dv) (st : So) : Option (Nat × List (Key × Dv)) := match d with
  | .ref i => match st[i]? with
    | some (.dK kvs) => some (i, kvs)
    | _ => none
  | _ => none
def atK (kvs : List (Key × Dv)) (k : Key) : Option Dv := (kvs.find? fun kv => decide (kv.1 = k)).map (·.2)
def putD (kvs : List (Key × Dv)) (k : Key) (v : Dv) : List (Key × Dv) :=
  if (kvs.any fun kv => decide (kv.1 = k)) = true then kvs.map (fun kv => if kv.1 = k then (kv.1, v) else kv) else kvs ++ [(k, v)]
abbrev PKV (K : PySem.W.Frag) (mg : Str → Option Value) (n : Nat) (w : Wd) (H : Hp) : List (Key × Dv) → List (Key × V) → Prop := Paired fun p q => p.1 = q.1 ∧ RD K mg n w H p.2 q.2
theorem keyD_rd {d : Dv} {v : V} {k : Key} (r : RD K mg n w H d v) (h : keyD d = some k) : v = kV k := by
  unfold keyD at h
  split at h
  · cases h; exact rd_int r
  · cases h; exact rd_str r
  · cases h
theorem dict_rd {st : So} {d : Dv} {v : V} {i : Nat} {kvs : List (Key × Dv)} (s : Sim K mg w st H) (rd : RD K mg st.length w H d v) (h : dictOf d st = some (i, kvs)) :
    ∃ kws, v = .ref (w.m i) ∧ H (w.m i) = some (.dK kws) ∧ PKV K mg st.length w H kvs kws ∧ live st i ∧ st[i]? = some (.dK kvs) := by
  unfold dictOf at h
  split at h
  · rename_i j
    split at h
    · rename_i ys e
      cases h
      cases rd
      obtain ⟨vs, e1, r1, _⟩ := s.cell _ _ e
      exact ⟨vs, rfl, e1, r1, ⟨_, e, by simp⟩, e⟩
    · cases h
  · cases h
theorem pkv_at {k : Key} : ∀ {kvs : List (Key × Dv)} {kws : List (Key × V)}, PKV K mg n w H kvs kws → (atK kvs k = none ∧ valV kws k = none) ∨ ∃ d v, atK kvs k = some d ∧ valV kws k = some v ∧ RD K mg n w H d v
  | _, _, .nil => .inl ⟨rfl, rfl⟩
  | p :: kvs, q :: kws, .cons h t => by
    obtain ⟨h1, h2⟩ := h
    by_cases hk : p.1 = k
    · have hq : q.1 = k := h1 ▸ hk
      refine .inr ⟨p.2, q.2, ?_, valV_pos hq, h2⟩
      unfold atK
      rw [List.find?_cons, decide_eq_true hk]; rfl
    · have hq : ¬ q.1 = k := fun z => hk (h1.trans z)
      have e1 : atK (p :: kvs) k = atK kvs k := by
        unfold atK
        rw [List.find?_cons, decide_eq_false hk]
      rw [e1, valV_neg hq]
      exact pkv_at t
theorem pkv_any {k : Key} : ∀ {kvs : List (Key × Dv)} {kws : List (Key × V)}, PKV K mg n w H kvs kws → (kvs.any fun kv => decide (kv.1 = k)) = (kws.any fun kv => decide (kv.1 = k))
  | _, _, .nil => rfl
  | _, _, .cons h t => by rw [List.any_cons, List.any_cons, pkv_any t, h.1]
theorem pkv_map {k : Key} {d : Dv} {v : V} (r : RD K mg n w H d v) : ∀ {kvs : List (Key × Dv)} {kws : List (Key × V)}, PKV K mg n w H kvs kws →
    PKV K mg n w H (kvs.map fun kv => if kv.1 = k then (kv.1, d) else kv) (kws.map fun kv => if kv.1 = k then (kv.1, v) else kv)
  | _, _, .nil => .nil
  | p :: kvs, q :: kws, .cons h t => by
    rw [List.map_cons, List.map_cons]
    refine .cons ?_ (pkv_map r t)
    by_cases hk : p.1 = k
    · rw [if_pos hk, if_pos (h.1 ▸ hk)]
      exact ⟨h.1, r⟩
    · rw [if_neg hk, if_neg (fun z => hk (h.1.trans z))]
      exact h
theorem pkv_app : ∀ {kvs kvs' : List (Key × Dv)} {kws kws' : List (Key × V)}, PKV K mg n w H kvs kws → PKV K mg n w H kvs' kws' → PKV K mg n w H (kvs ++ kvs') (kws ++ kws')
  | _, _, _, _, .nil, h => h
  | _, _, _, _, .cons h t, h' => .cons h (pkv_app t h')
theorem pkv_put {k : Key} {d : Dv} {v : V} {kvs : List (Key × Dv)} {kws : List (Key × V)} (h : PKV K mg n w H kvs kws) (r : RD K mg n w H d v) : PKV K mg n w H (putD kvs k d) (putK kws k v) := by
  unfold putD putK
  rw [pkv_any h]
  split
  · exact pkv_map r h
  · exact pkv_app h (.cons ⟨rfl, r⟩ .nil)
theorem pkv_len : ∀ {kvs : List (Key × Dv)} {kws : List (Key × V)}, PKV K mg n w H kvs kws → kvs.length = kws.length
  | _, _, .nil => rfl
  | _, _, .cons _ t => by rw [List.length_cons, List.length_cons, pkv_len t]
theorem pkv_mono {n' : Nat} {w' : Wd} {H' : Hp} {kvs : List (Key × Dv)} {kws : List (Key × V)} (g : Stp n w H n' w' H') (h : PKV K mg n w H kvs kws) : PKV K mg n' w' H' kvs kws := Paired.imp (fun _ _ z => ⟨z.1, z.2.mono g⟩) h
theorem dcell_wr {st : So} {i : Nat} {kvs : List (Key × Dv)} {kws : List (Key × V)} (s : Sim K mg w st H) (hl : live st i) (r : PKV K mg st.length w H kvs kws) :
    Stp st.length w H (st.set i (.dK kvs)).length w (upd H (w.m i) (.dK kws)) ∧ Sim K mg w (st.set i (.dK kvs)) (upd H (w.m i) (.dK kws)) := by
  rw [List.length_set]
  exact s.wr (o := .dK kws) (c := .dK kvs) hl fun {w' H'} g e nI => ⟨kws, e, pkv_mono g r, nI⟩
/-- d[k] -/
def rDix : R2 := fun x y H Q => ∃ a v, x = .ref a ∧ DGet H a y (some v) ∧ Q v H
theorem ix_dict (hu : X.A.units + 1 < cLine) : IxR X rDix := by
  intro value slice pins s σ H x y v u Q I rx ry h hs
  obtain ⟨a, z, rfl, g, q⟩ := h
  cases rx
  exact tail_any (dict_typeIs I g) PySem.F.slot_dict_getitem.lookup (d_getItem hu I g ry fun w' s3 I3 rw' => ⟨z, H, I3, rw', q⟩) hs
def gIxA : G2 := fun x y st => match dictOf x st with
  | some (_, kvs) => match keyD y with
    | some k => atK kvs k
    | none => none
  | none => gIx x y st
def rIxA (K : PySem.W.Frag) : R2 := fun x y H Q => rIx K x y H Q ∨ rDix x y H Q
theorem ix_any (hu : X.A.units + 1 < cLine) : IxR X (rIxA X.K) := IxR.or ix_seq (ix_dict hu)
theorem im_ixA : Im2 X (rIxA X.K) gIxA := fun st w H x y vx vy Q d sim rx ry h l => by
  unfold gIxA at h
  split at h
  · rename_i i kvs e
    split at h
    · rename_i k ek
      obtain ⟨kws, rfl, e1, r1, lv, _⟩ := dict_rd sim rx e
      obtain rfl := keyD_rd ry ek
      rcases pkv_at (k := k) r1 with ⟨h1, _⟩ | ⟨d', v, h1, h2, h3⟩
      · rw [h] at h1; cases h1
      · rw [h] at h1
        cases h1
        exact .inr ⟨_, v, rfl, by rw [← h2]; exact DGet.k e1, l w H _ .refl sim h3⟩
    · cases h
  · exact .inl (im_ix st w H x y vx vy Q d sim rx ry h l)
/-- d.get(k, x) -/
def fGet2 (fo fk fd : FE) : FE := fun ρ st => (fo ρ st).bind fun x st1 => match dictOf x st1 with
  | some _ => (fk ρ st1).bind fun y st2 => (fd ρ st2).bind fun z st3 => match dictOf x st3, keyD y with
    | some (_, kvs), some k => .ok ((atK kvs k).getD z) st3
    | _, _ => .stuck
  | none => .stuck
variable {k f : Expr} {fk fd : FE}
theorem pf_get2 (hu : X.A.units + 1 < cLine) (ho : PF X W o fo) (hk : PF X W k fk) (hf : PF X W f fd) (m : M2 X o "get" apos k f cpos := by exact ⟨by rfl, by rfl, by rfl, by rfl⟩) : PF X W (.Call (.Attribute o "get" apos) [k, f] [] cpos) (fGet2 fo fk fd) := PE_imp (pe_dget2 hu ho hk hf m) fun σ H Q h => by
  obtain ⟨ρ, st, w, sim, er, gd⟩ := h
  refine ⟨ρ, st, w, sim, er, Good.imp (fun x H1 q => ?_) (Good.bind gd)⟩
  obtain ⟨st1, w1, d1, sim1, s1, r1, gd1⟩ := q
  split at gd1
  · rename_i pr ex
    obtain ⟨kws, rfl, e1, _, _, _⟩ := dict_rd (i := pr.1) (kvs := pr.2) sim1 r1 ex
    refine ⟨_, rfl, .inl ⟨kws, .inl e1⟩, ρ, st1, w1, sim1, er.mono s1, Good.imp (fun y H2 q => ?_) (Good.bind gd1)⟩
    obtain ⟨st2, w2, d2, sim2, s2, r2, gd2⟩ := q
    refine ⟨ρ, st2, w2, sim2, (er.mono s1).mono s2, Good.imp (fun z H3 q => ?_) (Good.bind gd2)⟩
    obtain ⟨st3, w3, d3, sim3, s3, r3, gd3⟩ := q
    split at gd3
    · rename_i i kvs kk e3 ek
      obtain ⟨kws', e4, e5, r5, _, _⟩ := dict_rd sim3 ((r1.mono s2).mono s3) e3
      obtain rfl := keyD_rd (r2.mono s3) ek
      have ea : w1.m pr.1 = w3.m i := V.ref.inj e4
      rw [ea]
      refine ⟨_, DGet.k e5, ?_⟩
      rcases pkv_at (k := kk) r5 with ⟨h1, h2⟩ | ⟨d', v, h1, h2, h3⟩
      · rw [h1] at gd3
        rw [h2]
        exact gd3 w3 H3 _ .refl sim3 r3
      · rw [h1] at gd3
        rw [h2]
        exact gd3 w3 H3 _ .refl sim3 h3
    · exact gd3.elim
  · exact gd1.elim
end
end FB
set_option Elab.async false
set_option linter.all false
set_option maxRecDepth 100000
set_option maxHeartbeats 4000000
/-! FB7: comprehensions that make dicts. -/
namespace FB
open PySem PySem.Spec PyProof.Rows L2 RZ

def dcL (n : Nat) (tg : Tg) (tt : FT) (fk fv : FE) (ρ : Sl) : List Dv → So → Rs Dv
  | [], st => .ok (.ref n) st
  | d :: ds, st => match tgF tg d ρ with
    | none => .stuck
    | some ρ' => (tt ρ' st).bindN fun b st1 => if b then (fk ρ' st1).bindN fun y st2 => (fv ρ' st2).bindN fun z st3 => match keyD y, dictOf (.ref n) st3 with
        | some k, some (_, kvs) => if kvs.length ≤ 100000 then dcL n tg tt fk fv ρ ds (st3.set n (.dK (putD kvs k z))) else .stuck
        | _, _ => .stuck
      else dcL n tg tt fk fv ρ ds st1
/-- {k: v for tg in iter if ..}: a new cell -/
def fDc (fi : FA) (tg : Tg) (tt : FT) (fk fv : FE) : FE := fun ρ st => (fi ρ st).bind fun items st1 => dcL st1.length tg tt fk fv (rhoW ρ (tgS tg)) items (st1 ++ [.dK []])
section
variable {X : Cx} {K : PySem.W.Frag} {mg : Str → Option Value} {W : WX} {pos : Pos}
theorem dcmp_ok {Wc : WX} {σ : L2.St} {n0 : Nat} {st1 : So} {w1 : Wd} {H1 : Hp} {J : It} {items : List Dv} {tg : Tg} {tt : FT} {fk fv : FE} {ρ : Sl} {D : Addr} {Q : VK}
    (it : ItOk K mg st1.length w1 H1 items J) (er : EnvR K mg st1.length w1 H1 ρ (wipe σ (tgS tg))) (sim1 : Sim K mg w1 st1 H1) (hn0 : n0 < st1.length) (hD : w1.m n0 = D)
    (gd : Good (RD K mg) K mg Wc σ st1.length w1 H1 Q (dcL n0 tg tt fk fv ρ items st1)) :
    ∃ Wn : Nat → Nat → Hp → Prop, (∃ m, Wn 0 m H1) ∧ ∀ i m H, Wn i m H →
      (J.stop i H ∧ Q (.ref D) H) ∨ (J.go i H ∧ ∃ Nx : Hp → Prop, (∀ H', Nx H' → ∃ m', m' < m ∧ Wn (i + 1) m' H') ∧ ∀ x H', J.yld i H x H' → tgG K tg x (wipe σ (tgS tg)) H' fun σ2 H2 => wipe σ2 (tgS tg) = wipe σ (tgS tg) ∧ TFT K mg W0 tt σ2 H2 fun b H3 =>
        if b = true then TF K mg W0 fk σ2 H3 fun y H4 => TF K mg W0 fv σ2 H4 fun z H5 => ∃ kvs k, y = kV k ∧ H5 D = some (.dK kvs) ∧ kvs.length < sizeLine ∧ Nx (upd H5 D (.dK (putK kvs k z))) else Nx H3) := by
  refine ⟨fun i m H => m = items.length - i ∧ i ≤ items.length ∧ ∃ st w, Sim K mg w st H ∧ Stp st1.length w1 H1 st.length w H ∧
    Good (RD K mg) K mg Wc σ st.length w H Q (dcL n0 tg tt fk fv ρ (items.drop i) st),
    ⟨items.length, rfl, Nat.zero_le _, st1, w1, sim1, .refl, gd⟩, ?_⟩
  rintro i m H ⟨rfl, hi, st, w, sim, s0, gd0⟩
  by_cases hlt : i < items.length
  · have e0 : items[i]? = some items[i] := List.getElem?_eq_getElem hlt
    obtain ⟨go, yl⟩ := it.go i _ w _ st e0 s0 sim
    refine .inr ⟨go, fun H' => ∃ st' w', Sim K mg w' st' H' ∧ Stp st1.length w1 H1 st'.length w' H' ∧ Good (RD K mg) K mg Wc σ st'.length w' H' Q (dcL n0 tg tt fk fv ρ (items.drop (i + 1)) st'), ?_, ?_⟩
    · rintro H' ⟨st', w', q⟩
      exact ⟨items.length - (i + 1), by omega, rfl, hlt, st', w', q⟩
    · intro x H3 hy
      obtain ⟨w3, s3, sim3, r3⟩ := yl x H3 hy
      rw [List.drop_eq_getElem_cons hlt] at gd0
      unfold dcL at gd0
      split at gd0
      · exact gd0.elim
      · rename_i ρ' hρ
        refine tg_ok (vs := tgS tg) tg _ x ρ ρ' _ (wipe σ (tgS tg)) _ r3 (er.mono (s0.trans s3)) hρ (fun _ h => h) rfl fun σ4 er4 hw4 => ⟨hw4.trans (wipe_idem fun _ h => h), ρ', st, w3, sim3, er4, ?_⟩
        cases et : tt ρ' st with
        | stuck => rw [et] at gd0; exact gd0.elim
        | exc c fs st' => rw [et] at gd0; exact gd0.elim
        | ok b st4 =>
          rw [et] at gd0
          intro w4 H4 b' s4 sim4 eb
          obtain rfl : b = b' := eb
          cases b with
          | false =>
            have gd0 : Good (RD K mg) K mg Wc σ st.length w H Q (dcL n0 tg tt fk fv ρ (items.drop (i + 1)) st4) := gd0
            rw [if_neg Bool.false_ne_true]
            exact ⟨st4, w4, sim4, (s0.trans s3).trans s4, gd0.later (s3.trans s4)⟩
          | true =>
            have gd0 : Good (RD K mg) K mg Wc σ st.length w H Q ((fk ρ' st4).bindN fun y st2 => (fv ρ' st2).bindN fun z st3 => match keyD y, dictOf (.ref n0) st3 with
              | some k, some (_, kvs) => if kvs.length ≤ 100000 then dcL n0 tg tt fk fv ρ (items.drop (i + 1)) (st3.set n0 (.dK (putD kvs k z))) else .stuck
              | _, _ => .stuck) := gd0
            rw [if_pos rfl]
            refine ⟨ρ', st4, w4, sim4, er4.mono s4, ?_⟩
            cases ef : fk ρ' st4 with
            | stuck => rw [ef] at gd0; exact gd0.elim
            | exc c fs st' => rw [ef] at gd0; exact gd0.elim
            | ok y st5 =>
              rw [ef] at gd0
              intro w5 H5 vy s5 sim5 r5
              refine ⟨ρ', st5, w5, sim5, (er4.mono s4).mono s5, ?_⟩
              have gd0 : Good (RD K mg) K mg Wc σ st.length w H Q ((fv ρ' st5).bindN fun z st3 => match keyD y, dictOf (.ref n0) st3 with
                | some k, some (_, kvs) => if kvs.length ≤ 100000 then dcL n0 tg tt fk fv ρ (items.drop (i + 1)) (st3.set n0 (.dK (putD kvs k z))) else .stuck
                | _, _ => .stuck) := gd0
              cases eg : fv ρ' st5 with
              | stuck => rw [eg] at gd0; exact gd0.elim
              | exc c fs st' => rw [eg] at gd0; exact gd0.elim
              | ok z st6 =>
                rw [eg] at gd0
                intro w6 H6 vz s6 sim6 r6
                have gd0 : Good (RD K mg) K mg Wc σ st.length w H Q (match keyD y, dictOf (.ref n0) st6 with
                  | some k, some (_, kvs) => if kvs.length ≤ 100000 then dcL n0 tg tt fk fv ρ (items.drop (i + 1)) (st6.set n0 (.dK (putD kvs k z))) else .stuck
                  | _, _ => .stuck) := gd0
                have sAll : Stp st1.length w1 H1 st6.length w6 H6 := (((s0.trans s3).trans s4).trans s5).trans s6
                have rD : RD K mg st6.length w6 H6 (.ref n0) (.ref D) := by
                  rw [← hD, ← sAll.ext n0 hn0]
                  exact .ref (Nat.lt_of_lt_of_le hn0 sAll.le)
                split at gd0
                · rename_i k j kvs ek ed
                  split at gd0
                  · rename_i hl
                    obtain ⟨kws, e1, e2, r2, lv, e3⟩ := dict_rd sim6 rD ed
                    obtain rfl := keyD_rd (r5.mono s6) ek
                    have ej : j = n0 := by
                      unfold dictOf at ed
                      dsimp only at ed
                      split at ed
                      · cases ed; rfl
                      · cases ed
                    subst ej
                    have eD : D = w6.m j := V.ref.inj e1
                    obtain ⟨s7, sim7⟩ := dcell_wr sim6 lv (pkv_put (k := k) r2 r6)
                    rw [eD]
                    refine ⟨kws, k, rfl, e2, ?_, _, w6, sim7, sAll.trans s7, gd0.later ((((s3.trans s4).trans s5).trans s6).trans s7)⟩
                    rw [← pkv_len r2, sizeLine_eq]; omega
                  · exact gd0.elim
                · exact gd0.elim
  · have e : i = items.length := by omega
    subst e
    rw [List.drop_length] at gd0
    refine .inl ⟨it.stop _ _ _ s0, ?_⟩
    refine gd0 w H _ .refl sim ?_
    rw [← hD, ← s0.ext n0 hn0]
    exact .ref (Nat.lt_of_lt_of_le hn0 s0.le)
theorem tf_dc {fi : FA} {tg : Tg} {tt : FT} {fk fv : FE} {σ : L2.St} {H : Hp} {Q : VK} (h : TF K mg W (fDc fi tg tt fk fv) σ H Q) : tDc (TFI K mg W fi) (tgG K tg) (TFT K mg W0 tt) (TF K mg W0 fk) (TF K mg W0 fv) (tgS tg) σ H Q := by
  obtain ⟨ρ, st, w, sim, er, gd⟩ := h
  refine ⟨ρ, st, w, sim, er, Good.imp (fun J H1 q => ?_) (Good.bind gd)⟩
  obtain ⟨st1, w1, items, sim1, s1, it, gd1⟩ := q
  intro D hD
  obtain ⟨s2, sim2⟩ := sim1.newC (o := .dK []) (c := .dK []) hD fun {n' w' H'} g e nI => ⟨[], e, .nil, nI⟩
  have hlen : (st1 ++ [Cl.dK []]).length = st1.length + 1 := by rw [List.length_append, List.length_singleton]
  rw [← hlen] at s2
  refine dcmp_ok (n0 := st1.length) (it.later s2) ((envW (er.mono s1) _).mono s2) sim2 (by rw [hlen]; exact Nat.lt_succ_self _) ?_ (gd1.later s2)
  show (if st1.length = st1.length then D else _) = D
  rw [if_pos rfl]
theorem pf_dc {kx vx te iter : Expr} {ifs : List Expr} {scope : Scope} {own : List (Str × Nat)} {fi : FA} {tg : Tg} {tt : FT} {fk fv : FE} (hc : X.calm = true) (hN : X.N.Nodup) (hi : PFI X W te iter fi) (ok : BlkOk X.N X.env.scope scope own) (ho : own.map (·.2) = tgS tg)
    (hg : ∀ (s : Shared) (H : Hp) (C : Addr) (cl : List (Str × Addr)) (fp : List Addr), PG (X.blk s H scope (compEnvC scope cl C X.env) fp) te (tgG X.K tg)) (ht : ∀ (s : Shared) (H : Hp) (C : Addr) (cl : List (Str × Addr)) (fp : List Addr), PTs (X.blk s H scope (compEnvC scope cl C X.env) fp) ifs (TFT X.K X.mg W0 tt))
    (hk : ∀ (s : Shared) (H : Hp) (C : Addr) (cl : List (Str × Addr)) (fp : List Addr), PF (X.blk s H scope (compEnvC scope cl C X.env) fp) W0 kx fk)
    (he : ∀ (s : Shared) (H : Hp) (C : Addr) (cl : List (Str × Addr)) (fp : List Addr), PF (X.blk s H scope (compEnvC scope cl C X.env) fp) W0 vx fv) (hs : ∀ x, foldedSetIterable iter X.env x = pure x := by intro _; rfl) :
    PF X W (.DictComp kx vx [⟨te, iter, ifs, 0⟩] scope pos) (fDc fi tg tt fk fv) := PE_imp (pe_dc (tk := TF X.K X.mg W0 fk) (tv := TF X.K X.mg W0 fv) hc hN hi ok hg ht hk he hs) fun σ H Q h => by
  rw [ho]
  exact tf_dc h

theorem sw_trueD {kx vx : Expr} {gs : List Comprehension} {scope : Scope} {pos py : Pos} {y : Str} {l : Nat} {env : Env} (hk : env.scope.kind = .function) (hy : env.scope.names.lookup y = some .local) (hl : (py.line == pos.line) = true)
    (ha : (scope.names.any fun (n, k) => n == y && (k == .local || k == .cell)) = false) : swapsWith (.DictComp kx vx gs scope pos) (some (.Name y py)) l env = pure true := by
  have ky : env.kindOf y = some .local := hy
  have hb : env.blockKind = .function := by unfold Env.blockKind; rw [hk]; rfl
  unfold swapsWith
  simp only [hb, ky, ha, Expr.pos, hl]
  rfl
theorem ps_setDc {i : Nat} {y : Str} {py : Pos} {kx vx tg iter : Expr} {ifs : List Expr} {scope : Scope} {own : List (Str × Nat)} {pos spos : Pos} {wi : TI} {g : TG} {tt : TT} {tk tv : TE} (hc : X.calm = true) (hN : X.N.Nodup) (hy : X.N[i]? = some y) (hyl : X.env.scope.names.lookup y = some .local)
    (hsw : swapsWith (.DictComp kx vx [⟨tg, iter, ifs, 0⟩] scope pos) (some (.Name y py)) spos.line X.env = pure true) (hi : PI X tg iter wi) (ok : BlkOk X.N X.env.scope scope own)
    (hg : ∀ (s : Shared) (H : Hp) (C : Addr) (cl : List (Str × Addr)) (fp : List Addr), PG (X.blk s H scope (compEnvC scope cl C X.env) fp) tg g) (ht : ∀ (s : Shared) (H : Hp) (C : Addr) (cl : List (Str × Addr)) (fp : List Addr), PTs (X.blk s H scope (compEnvC scope cl C X.env) fp) ifs tt)
    (hk : ∀ (s : Shared) (H : Hp) (C : Addr) (cl : List (Str × Addr)) (fp : List Addr), PE (X.blk s H scope (compEnvC scope cl C X.env) fp) kx tk)
    (he : ∀ (s : Shared) (H : Hp) (C : Addr) (cl : List (Str × Addr)) (fp : List Addr), PE (X.blk s H scope (compEnvC scope cl C X.env) fp) vx tv) (hs : ∀ x, foldedSetIterable iter X.env x = pure x := by intro _; rfl) :
    PS X (.Assign [.Name y py] (.DictComp kx vx [⟨tg, iter, ifs, 0⟩] scope pos) spos) (tAsg (tDc wi g tt tk tv (own.map (·.2))) (gName i)) := by
  refine ⟨fun pins s σ H D I h => ?_⟩
  rw [exec_Assign_Name_used _ _ _ _ hsw]
  refine wpAny_bind (wpAny_standAt (wpAny_bind ?_))
  show wpAny _ X.A (do let _ ← comprehension (.DictComp kx vx [⟨tg, iter, ifs, 0⟩] scope pos) scope X.env (firstIterPos [⟨tg, iter, ifs, 0⟩] pos) newDict false (eval iter X.env) (some (assign (.Name y py) X.env))) _ _ s
  have h : tDc wi g tt tk tv (own.map (·.2)) σ H (fun x H1 => gName i x σ H1 D.nx) := h
  refine wpAny_bind (thn (dc_core (Qf := fun _ s' => SP X pins D .next s') hc hN I hi ok hg ht hk he hs h fun L C s' m H' I' q hn f => ?_) fun _ s' hq => wpAny_pure (wpAny_pure hq))
  show wpAny _ _ (assign (.Name y py) X.env (.ref L)) _ _ _
  refine wpAny_assign_Name (store_ok2 (v := V.ref L) I' hN hy (.inl hyl) rfl (fun s2 I2 ⟨a, sb, ha⟩ => ?_) (.inr hyl))
  obtain ⟨f0, f1, f2, f3, f4, f5⟩ := f
  have haC : C ≠ a := by
    rcases ha with z | z
    · rw [z]; exact f1
    · exact fun e => f4 y a z e.symm
  refine ⟨m, hn.sameBut sb haC, fun h3 sb3 => ?_⟩
  exact ⟨_, H', I2.turned (t' := s2.toks) (fun b o hb e => (sb3.2 b hb).trans e) f0 f1 f3 f4 f5, q⟩
theorem pfs_setDc {i : Nat} {y : Str} {py spos : Pos} {kx vx te iter : Expr} {ifs : List Expr} {scope : Scope} {own : List (Str × Nat)} {fi : FA} {tg : Tg} {tt : FT} {fk fv : FE} (hc : X.calm = true) (hN : X.N.Nodup) (hi : PFI X W te iter fi) (ok : BlkOk X.N X.env.scope scope own) (ho : own.map (·.2) = tgS tg)
    (hg : ∀ (s : Shared) (H : Hp) (C : Addr) (cl : List (Str × Addr)) (fp : List Addr), PG (X.blk s H scope (compEnvC scope cl C X.env) fp) te (tgG X.K tg)) (ht : ∀ (s : Shared) (H : Hp) (C : Addr) (cl : List (Str × Addr)) (fp : List Addr), PTs (X.blk s H scope (compEnvC scope cl C X.env) fp) ifs (TFT X.K X.mg W0 tt))
    (hk : ∀ (s : Shared) (H : Hp) (C : Addr) (cl : List (Str × Addr)) (fp : List Addr), PF (X.blk s H scope (compEnvC scope cl C X.env) fp) W0 kx fk)
    (he : ∀ (s : Shared) (H : Hp) (C : Addr) (cl : List (Str × Addr)) (fp : List Addr), PF (X.blk s H scope (compEnvC scope cl C X.env) fp) W0 vx fv)
    (hsw : swapsWith (.DictComp kx vx [⟨te, iter, ifs, 0⟩] scope pos) (some (.Name y py)) spos.line X.env = pure true)
    (hy : X.N[i]? = some y := by rfl) (hyl : X.env.scope.names.lookup y = some .local := by rfl) (hs : ∀ x, foldedSetIterable iter X.env x = pure x := by intro _; rfl) :
    PFS X W (.Assign [.Name y py] (.DictComp kx vx [⟨te, iter, ifs, 0⟩] scope pos) spos) (sAsg (fDc fi tg tt fk fv) (.nm i)) := PS_imp (ps_setDc (tk := TF X.K X.mg W0 fk) (tv := TF X.K X.mg W0 fv) hc hN hy hyl hsw hi ok hg ht hk he hs) fun D σ H h => by
  have h2 := tfs_asg h
  rw [ho]
  exact tf_dc h2
end
end FB
set_option Elab.async false
set_option linter.all false
set_option maxRecDepth 100000
set_option maxHeartbeats 4000000
/-! FBE: enumerate(a tuple). -/
namespace FB
open PySem PySem.Spec PyProof.Rows L2 RZ
set_option maxHeartbeats 4000000 in
theorem meets_enum_newT (t : Addr) (items : Array Value) :
    Meets (Builtin.«enumerate.__new__» ⟨[.type "enumerate", .ref t], []⟩) (fun _ R s => s.heap.IsTuple t items ∧
      R (.ok (.ret (.ref (s.heap.push { cls := .type "tuple_iterator", data := .fields #[.ref t, .int 0 0] }).objs.size))) { s with heap := (s.heap.push { cls := .type "tuple_iterator", data := .fields #[.ref t, .int 0 0] }).push { cls := .type "enumerate", data := .fields #[.none, .bool false, .ref s.heap.objs.size, rawInt 0, .none, .none] } }) :=
  .of_wp fun prog w A R s h => by
    obtain ⟨hp, g, d, tk, os⟩ := s; obtain ⟨h1, h⟩ := h
    have hsub := sub_enumerate
    have q1 : ∀ {A' : Around} {E : Value → Shared → Prop} {Q : Value → Shared → Prop}, Q (.ref hp.objs.size) ⟨hp.push { cls := .type "tuple_iterator", data := .fields #[.ref t, .int 0 0] }, g, d, tk, os⟩ → wpAny (model prog w) A' (pyIter (.ref t)) Q E ⟨hp, g, d, tk, os⟩ :=
      fun q => wpAny_pyIter_tuple h1 q
    wp_walk using q1
    refine wpAny_stack_any fun st => wpAny_pure ?_
    split
    · rename_i c _ _ _ _ _
      cases (c == Value.type "enumerate")
      · wp_walk using q1
        exact ⟨_, rfl, h⟩
      · wp_walk using q1
        exact ⟨_, rfl, h⟩
    · wp_walk using q1
      exact ⟨_, rfl, h⟩
section
variable {prog : Program} {w : World} {A : Around} {E : Value → Shared → Prop} {s : Shared}
theorem call_enumT {t : Addr} {items : Array Value} {Q : Value → Shared → Prop} (hT : s.heap.IsTuple t items)
    (h : ∀ h', IsEnum h' (s.heap.objs.size + 1) s.heap.objs.size 0 .none → h'.IsTupleIter s.heap.objs.size t 0 → h'.objs.size = s.heap.objs.size + 2 →
      (∀ b o, s.heap.get? b = some o → h'.get? b = some o) → Q (.ref (s.heap.objs.size + 1)) { s with heap := h' }) :
    wpAny (model prog w) A (call (.type "enumerate") [.ref t]) Q E s := by
  refine callType_new F.called_enumerate (by decide) (F.typeCall_enumerate_1 _) (F.newCall_enumerate_1 _) (fun obj => F.args_object_init_2 obj _) F.entry_enumerate_new
    (meets_enum_newT t items) ⟨hT, ?_⟩
  have hz : (s.heap.push { cls := .type "tuple_iterator", data := .fields #[.ref t, .int 0 0] }).objs.size = s.heap.objs.size + 1 := Heap.size_push ..
  show _ ∧ _
  rw [hz]
  have he : IsEnum ((s.heap.push { cls := .type "tuple_iterator", data := .fields #[.ref t, .int 0 0] }).push
      { cls := .type "enumerate", data := .fields #[.none, .bool false, .ref s.heap.objs.size, rawInt 0, .none, .none] }) (s.heap.objs.size + 1) s.heap.objs.size 0 .none := by
    have := Heap.get?_push_size (s.heap.push { cls := .type "tuple_iterator", data := .fields #[.ref t, .int 0 0] }) (o := { cls := .type "enumerate", data := .fields #[.none, .bool false, .ref s.heap.objs.size, rawInt 0, .none, .none] }) rfl
    rw [hz] at this; exact this
  exact ⟨⟨_, he, rfl⟩, h _ he ⟨_, Heap.get?_push_of_some _ (Heap.get?_push_size _ rfl), rfl, rfl⟩ (by rw [Heap.size_push, hz]) fun b o x => Heap.get?_push_of_some _ (Heap.get?_push_of_some _ x)⟩
end
/-- the tuple at a, each item in a new pair -/
def IteT (K : PySem.W.Frag) (a : Addr) : It :=
  ⟨fun i H => ∃ (xs : List V) (x : V), SqT K H a xs ∧ xs[i]? = some x, fun i H v H' => ∃ T x, v = .ref T ∧ H T = none ∧ H' = upd H T (.tup [.int (i : Nat), x]) ∧ ∀ xs, SqT K H a xs → xs[i]? = some x, fun i H => ∃ xs : List V, SqT K H a xs ∧ xs.length = i⟩
theorem tup_ne_it {h : Heap} {a it : Addr} {i : Nat} {items : Array Value} (p : h.IsTuple a items) (q : h.IsTupleIter it a i) : a ≠ it := fun e => by
  subst e
  obtain ⟨o, h1, h2, _⟩ := p
  obtain ⟨o', h3, h4, _⟩ := q
  rw [h1] at h3
  cases h3
  rw [h2] at h4
  injection h4 with h5
  exact absurd h5 (by decide)
theorem turn_enumT {P : Program} {w : World} {K : PySem.W.Frag} {elts : List Expr} {kk : Nat} {tpos : Pos} (a e it : Addr) :
    Turn P w K (.Tuple elts kk tpos) (IteT K a) [e, it] e (fun i h => (∃ old, IsEnum h e it ((i : Nat) : Int) old) ∧ h.IsTupleIter it a i ∧ e ≠ it) where
  mem := by simp
  obj := fun i h st b hb => by
    obtain ⟨⟨old, he⟩, ⟨o, ho, hc, hd⟩, _⟩ := st
    have e' : b = e ∨ b = it := by simpa using hb
    rcases e' with z | z
    · rw [z]; exact ⟨_, he, fun v q => nomatch q⟩
    · rw [z]; exact ⟨o, ho, fun v q => by rw [hd] at q; cases q⟩
  keep := fun i h h' st k => let ⟨⟨old, he⟩, hi, hne⟩ := st; ⟨⟨old, k e (by simp) _ he⟩, hi.at fun o q => k it (by simp) o q, hne⟩
  item := by
    intro X hP hw hK hc i pins s σ H E I hf st hg
    subst hP hw hK
    obtain ⟨⟨old, he⟩, hit, hne⟩ := st
    obtain ⟨xs, x, hq, hx⟩ := hg
    obtain ⟨its, rv, p, hz⟩ := I.tuple hq
    obtain ⟨u, hu, ru⟩ := rv.get hx
    have hel : e < s.heap.objs.size := Heap.lt_size he
    have hil : it < s.heap.objs.size := by obtain ⟨_, q, _⟩ := hit; exact Heap.lt_size q
    have hp : s.heap.IsTuple a its.toArray := p
    have hai : a ≠ it := tup_ne_it hp hit
    have hae : a ≠ e := fun z => by
      subst z
      obtain ⟨o, h1, h2, _⟩ := hp
      have h3 : s.heap.get? a = some _ := he
      rw [h1] at h3
      cases h3
      injection h2 with h5
      exact absurd h5 (by decide)
    have hlt : i < its.toArray.size := by
      have := (List.getElem?_eq_some_iff.mp hu).1
      simpa using this
    have D := Draws.tuple (prog := X.prog) (w := X.w) (A := X.A.in1) (show X.A.in1.handled = none from I.ok.hd hc) it a hai its.toArray
    refine wpAny_pyNext_enum_itemD D he ⟨hit, hp⟩ hlt hne (by simp [hne, Ne.symm hae]) fun y h' tk hy ho hst hT hsz hk => ?_
    obtain rfl : u = y := by
      have e1 : its[i]? = some y := by simpa using hy
      rw [hu] at e1
      exact Option.some.inj e1
    refine ⟨_, rfl, wpAny_letOwnedTupleGo_enum (s := { s with heap := h', toks := tk + 1 }) ho fun h'' he' sb => ?_⟩
    have hT2 : h''.get? s.heap.objs.size = some { cls := .type "tuple", data := .seq #[.int i tk, u] } := (sb.2 _ (Nat.ne_of_gt hel)).trans hT
    have new : ObjOk X.prog X.w (upd H s.heap.objs.size (.tup [.int (i : Nat), x])) h'' s.heap.objs.size (.tup [.int (i : Nat), x]) :=
      ⟨by show 2 ≤ sizeLine; decide, [.int i tk, u], .cons ⟨_, rfl⟩ (.cons ru .nil), ⟨_, hT2, rfl, _, rfl⟩⟩
    have I1 : Inv X pins σ (upd H s.heap.objs.size (.tup [.int (i : Nat), x])) { s with heap := h'', toks := tk + 1 } :=
      I.turnedNew (ch := [e, it]) (fun b ob hb q => (sb.2 b (fun z => hb (by simp [z]))).trans (hk b ob (fun z => hb (by simp [z])) (fun z => hb (by simp [z])) q)) hf (Nat.le_refl _) new
    refine ⟨.ref s.heap.objs.size, _, I1, rfl, ⟨_, x, rfl, I.hok.fresh (Nat.le_refl _), rfl, fun ys hy' => by rw [I.tuple_inj hy' hq]; exact hx⟩, ⟨⟨u, ?_⟩, hst.1.at fun o q => (sb.2 it (Ne.symm hne)).trans q, hne⟩, fun b hb => ?_⟩
    · have e1 : ((i + 1 : Nat) : Int) = (i : Int) + 1 := by omega
      rw [e1]; exact he'
    · have hb' : b < s.heap.objs.size := by
        have e' : b = e ∨ b = it := by simpa using hb
        rcases e' with z | z
        · rw [z]; exact hel
        · rw [z]; exact hil
      rw [upd_ne (Nat.ne_of_lt hb')]
      exact (hf b hb).1
  done := by
    intro X hP hw hK hc i pins s σ H E I hf st hg
    subst hP hw hK
    obtain ⟨⟨old, he⟩, hit, hne⟩ := st
    obtain ⟨xs, hq, hx⟩ := hg
    obtain ⟨its, rv, p, hz⟩ := I.tuple hq
    have hp : s.heap.IsTuple a its.toArray := p
    have hai : a ≠ it := tup_ne_it hp hit
    obtain ⟨f0, f1, f2, f3, f4, f5⟩ := hf it (by simp)
    have hl := rv.length
    have D := Draws.tuple (prog := X.prog) (w := X.w) (A := X.A.in1) (show X.A.in1.handled = none from I.ok.hd hc) it a hai its.toArray
    have hn : its.toArray.size = i := by rw [List.size_toArray, ← hl]; exact hx
    refine wpAny_pyNext_enum_endD D he ?_ fun h' eb => ⟨rfl, I.turned (t' := s.toks) (fun b o hb q => eb b o hb q) f0 f1 f3 f4 f5⟩
    rw [hn]
    exact ⟨hit, hp⟩
  self := fun A i s Q E st h => let ⟨⟨_, he⟩, _⟩ := st; wpAny_pyIter_enum he h
def iEnumA (K : PySem.W.Frag) (ta : TA) : TI := fun σ H R => ta σ H fun vs H1 => ∃ a xs, vs = [.ref a] ∧ ((SqL K H1 a xs ∧ R (Ite K a) H1) ∨ (SqT K H1 a xs ∧ R (IteT K a) H1))
theorem pi_enumA {X : Cx} {e : Expr} {ta : TA} {p pos tpos : Pos} {elts : List Expr} {kk : Nat} (hg : Gl X "enumerate") (hm : X.mg "enumerate" = none) (ha : PA X [e] ta) (hs : starEach [e] X.env = [(false, eval e X.env)] := by rfl) :
    PI X (.Tuple elts kk tpos) (.Call (.Name "enumerate" p) [e] [] pos) (iEnumA X.K ta) := by
  refine ⟨fun pins s σ H R I h => ?_⟩
  refine Call_ (ld_blt I hg hm boot_enumerate (PyProof.Rows.callWith_type1 (thn (ha.run pos pins s σ H _ I h) fun us s1 ⟨vs, H1, I1, r1, q1⟩ => ?_) hs rfl))
  obtain ⟨a, xs, ex, q⟩ := q1
  subst ex
  have fpok : ∀ b ∈ [s1.heap.objs.size + 1, s1.heap.objs.size], s1.heap.objs.size ≤ b := fun b hb => by
    have e' : b = s1.heap.objs.size + 1 ∨ b = s1.heap.objs.size := by simpa using hb
    rcases e' with z | z
    · rw [z]; exact Nat.le_add_right _ _
    · rw [z]; exact Nat.le_refl _
  cases r1 with
  | cons r rr =>
    cases rr
    cases r
    rcases q with ⟨hq, q⟩ | ⟨hq, q⟩
    · obtain ⟨its, rv, p', hz⟩ := I1.list hq
      refine call_enumerate_list p'.isList fun h' he hit hsz hk => wpAny_pyIter_enum he ?_
      have I2 : Inv X pins σ H1 { s1 with heap := h' } := I1.kept (t' := s1.toks) hk
      exact ⟨s1.heap.objs.size + 1, [s1.heap.objs.size + 1, s1.heap.objs.size], _, _, H1, rfl, I2, turn_enum a (s1.heap.objs.size + 1) s1.heap.objs.size, ⟨⟨.none, he⟩, hit, Nat.succ_ne_self _⟩, fun b hb => I1.fpOk (fpok b hb) (I1.hok.fresh (fpok b hb)), q⟩
    · obtain ⟨its, rv, p', hz⟩ := I1.tuple hq
      refine call_enumT (show s1.heap.IsTuple a its.toArray from p') fun h' he hit hsz hk => wpAny_pyIter_enum he ?_
      have I2 : Inv X pins σ H1 { s1 with heap := h' } := I1.kept (t' := s1.toks) hk
      exact ⟨s1.heap.objs.size + 1, [s1.heap.objs.size + 1, s1.heap.objs.size], _, _, H1, rfl, I2, turn_enumT a (s1.heap.objs.size + 1) s1.heap.objs.size, ⟨⟨.none, he⟩, hit, Nat.succ_ne_self _⟩, fun b hb => I1.fpOk (fpok b hb) (I1.hok.fresh (fpok b hb)), q⟩
section
variable {X : Cx} {W : WX} {K : PySem.W.Frag} {mg : Str → Option Value} {n : Nat} {w : Wd} {H : Hp} {items : List Dv}
theorem it_enumT {a : Addr} {vs : List V} (r : RDs K mg n w H items vs) (h : ∀ n' w' H', Stp n w H n' w' H' → SqT K H' a vs) : ItOk K mg n w H (pairL (rngL 0 items.length) items) (IteT K a) where
  stop := fun n' w' H' g => ⟨vs, h _ _ _ g, by
    rw [pairL, List.length_map, List.length_zip, rngL, List.length_map, List.length_range, r.length]
    omega⟩
  go := fun k d w' H' st' e g sim => by
    obtain ⟨x, y, ex, ey, rfl⟩ := zip_get e
    obtain ⟨v, e1, r1⟩ := r.get ey
    refine ⟨⟨vs, v, h _ _ _ g, e1⟩, fun z H'' y' => ?_⟩
    obtain ⟨T, u, rfl, hT, rfl, hu⟩ := y'
    have e2 := hu vs (h _ _ _ g)
    rw [e1] at e2
    cases e2
    rw [rngL, List.getElem?_map] at ex
    cases e3 : (List.range items.length)[k]? with
    | none => rw [e3] at ex; cases ex
    | some c =>
      rw [e3] at ex
      cases ex
      obtain ⟨h1, h2⟩ := List.getElem?_eq_some_iff.mp e3
      rw [List.getElem_range] at h2
      subst h2
      refine pair_turn sim hT (.p ?_) (r1.mono g)
      rw [Int.zero_add]
      exact .int _
/-- enumerate of what stands: a list, a tuple -/
def enumAny (xs : List Dv) (st : So) : Option (List Dv) := match xs with
  | [d] => if isRef d then none else (seqOf d st).map fun ys => pairL (rngL 0 ys.length) ys
  | _ => none
variable {e : Expr} {fr : FA} {p pos : Pos} {elts : List Expr} {kk : Nat} {tpos : Pos}
theorem pfi_enumA (hm : X.mg "enumerate" = none) (h : PFA X W [e] fr) (hg : Gl X "enumerate" := by rfl) (hs : starEach [e] X.env = [(false, eval e X.env)] := by rfl) : PFI X W (.Tuple elts kk tpos) (.Call (.Name "enumerate" p) [e] [] pos) (fSt enumAny fr) := PI_imp (pi_enumA hg hm h hs) fun σ H R q => by
  obtain ⟨ρ, st, w, sim, er, gd⟩ := q
  refine ⟨ρ, st, w, sim, er, Good.imp (fun v H1 q => ?_) (Good.bind gd)⟩
  obtain ⟨st1, w1, d, sim1, s1, r1, gd1⟩ := q
  unfold enumAny at gd1
  split at gd1
  · rename_i d
    split at gd1
    · exact gd1.elim
    rename_i hn
    cases e : seqOf d st1 with
    | none => rw [e] at gd1; exact gd1.elim
    | some ys =>
      rw [e] at gd1
      obtain ⟨v, rfl, rv⟩ := rds1 r1
      obtain ⟨a', vs, rfl, rr, hs | hs⟩ := stays_rd sim1 rv (notRef hn) e
      · exact ⟨a', vs, rfl, .inl ⟨hs _ _ _ .refl, gd1 w1 H1 _ .refl sim1 (it_enum rr hs)⟩⟩
      · exact ⟨a', vs, rfl, .inr ⟨hs _ _ _ .refl, gd1 w1 H1 _ .refl sim1 (it_enumT rr hs)⟩⟩
  · exact gd1.elim
end
end FB
set_option Elab.async false
set_option linter.all false
set_option maxRecDepth 100000
set_option maxHeartbeats 4000000
/-! FBS: a set of any number of texts; len(set(..)). -/
namespace FB
open PySem PySem.Spec PyProof.Rows L2 RZ SS
def stepN (σ : List Str) (v : Str) : List Str := if σ.contains v then σ else σ ++ [v]
/-- the texts met up to i, each once -/
def fmN (xs : List Str) (i : Nat) : List Str := (xs.take i).foldl stepN []
theorem fmN_succ (xs : List Str) (i : Nat) (h : i < xs.length) : fmN xs (i + 1) = stepN (fmN xs i) (xs.getD i Str.empty) := by
  unfold fmN
  rw [List.take_succ, List.getElem?_eq_getElem h, List.foldl_append, List.getD_eq_getElem?_getD, List.getElem?_eq_getElem h]
  rfl
theorem fmN_mem (xs : List Str) (k : Str) : ∀ i, i ≤ xs.length → (k ∈ fmN xs i ↔ k ∈ xs.take i)
  | 0, _ => by simp [fmN]
  | i + 1, h => by
    rw [fmN_succ xs i h, List.take_succ, List.getElem?_eq_getElem h, List.mem_append, ← fmN_mem xs k i (by omega), List.getD_eq_getElem?_getD, List.getElem?_eq_getElem h]
    unfold stepN
    by_cases hc : (fmN xs i).contains (xs[i]'h) = true
    · simp only [Option.getD_some, hc, if_true, Option.toList_some, List.mem_singleton]
      refine ⟨.inl, fun z => z.elim id fun e => ?_⟩
      rw [e]; simpa using hc
    · simp only [Option.getD_some, hc, Option.toList_some, List.mem_singleton]
      rw [if_neg (by simp), List.mem_append, List.mem_singleton]
theorem fmN_len (xs : List Str) : ∀ i, i ≤ xs.length → (fmN xs i).length ≤ i
  | 0, _ => by simp [fmN]
  | i + 1, h => by
    rw [fmN_succ xs i h]
    unfold stepN
    have ih := fmN_len xs i (by omega)
    split
    · omega
    · rw [List.length_append, List.length_singleton]; omega
theorem any_take (xs : List Str) (k : Str) (i : Nat) : (xs.take i).any (· == k) = decide (k ∈ xs.take i) := by
  rw [Bool.eq_iff_iff]
  simp only [List.any_eq_true, beq_iff_eq, exists_eq_right, decide_eq_true_eq]
section
variable {prog : Program} {w : World} {A : Around} {R : Result → Shared → Prop} {I : Addr} {fp wr : List Addr} {G : Array GenState → Array GenState → Prop} {n : Nat} {P : Nat → Value → Prop} {St : Nat → Shared → Prop}
theorem loopStrN (W : WalksS prog w A.in1 I fp wr G n P St) (S : Addr) (hSf : S ∉ fp) (xs : List Str) (hsz : xs.length = n) (hn1 : n < 4000)
    (hval : ∀ i v, P i v → ∃ t, v = .str (xs.getD i Str.empty) t) :
    ∀ (k i : Nat) (s : Shared), n - i = k → i ≤ n → St i s →
      s.heap.SetOf (PySem.strKind prog w) S (fun k' => (xs.take i).any (· == k')) (fmN xs i).length →
      (∀ s', Moved (S :: wr) G s s' → s'.heap.SetOf (PySem.strKind prog w) S (fun k' => (xs.take n).any (· == k')) (fmN xs n).length → R (.ok (.ret .none)) s') →
      codeAny (model prog w) A (.builtin "set.update.loop" ⟨[.ref S, .ref I], []⟩) R s := by
  have hSw : S ∉ wr := fun h => hSf (W.sub _ h)
  have hsub : ∀ b ∈ wr, b ∈ S :: wr := fun b hb => List.mem_cons_of_mem _ hb
  intro k
  induction k with
  | zero =>
    intro i s hk hi hst hS hR
    have hin : i = n := by omega
    subst hin
    refine codeAny_builtin PyProof.Rows.F.entry_set_update_loop ?_
    rw [Around.under_plainId PyProof.Rows.F.plain_set_update_loop _]
    show wpAny _ A.in1 (pyNext (.ref I) >>= _) _ _ s
    refine wpAny_bind (W.done s _ _ hst fun s' hm => ?_)
    show wpAny _ A.in1 (ret Value.none) _ _ s'
    exact wpAny_pure (hR s' (hm.mono hsub) (by
      obtain ⟨o, es, ep, t, ho, rest⟩ := hS
      exact ⟨o, es, ep, t, hm.heap S _ hSw ho, rest⟩))
  | succ k ih =>
    intro i s hk hi hst hS hR
    have hlt : i < n := by omega
    have hfl := fmN_len xs i (by omega)
    refine codeAny_builtin PyProof.Rows.F.entry_set_update_loop ?_
    rw [Around.under_plainId PyProof.Rows.F.plain_set_update_loop _]
    show wpAny _ A.in1 (pyNext (.ref I) >>= _) _ _ s
    refine wpAny_bind (W.item i s _ _ hlt hst fun v s' hP hst' hm => ?_)
    obtain ⟨t, rfl⟩ := hval i v hP
    have hS' : s'.heap.SetOf (PySem.strKind prog w) S (fun k' => (xs.take i).any (· == k')) (fmN xs i).length := by
      obtain ⟨o, es, ep, tb, ho, rest⟩ := hS
      exact ⟨o, es, ep, tb, hm.heap S _ hSw ho, rest⟩
    show wpAny _ A.in1 (holding [Value.str (xs.getD i Str.empty) t] (setAdd S (.str (xs.getD i Str.empty) t)) >>= _) _ _ s'
    refine wpAny_bind (wpAny_holding ?_)
    unfold setAdd
    refine wpAny_holding ?_
    refine wpAny_bind ((PySem.strKind prog w).pyHash (k := xs.getD i Str.empty) (strKind_is _ _ _ _) ?_)
    refine wpAny_setAddHashed_of (knd := PySem.strKind prog w) (s := { s' with toks := s'.toks + 1 }) (strKind_is _ _ _ _) rfl hS' (by unfold scanBound; omega) fun h' hsb hS2 => ?_
    have hSi : h'.SetOf (PySem.strKind prog w) S (fun k' => (xs.take (i + 1)).any (· == k')) (fmN xs (i + 1)).length := by
      have hix : i < xs.length := by omega
      have ht : xs.take (i + 1) = xs.take i ++ [xs.getD i Str.empty] := by
        rw [List.take_succ, List.getElem?_eq_getElem hix, List.getD_eq_getElem?_getD, List.getElem?_eq_getElem hix]; rfl
      refine SetOf_congr hS2 (fun k' => ?_) ?_
      · rw [ht, List.any_append, List.any_cons, List.any_nil, Bool.or_false]
        congr 1
        rw [Bool.eq_iff_iff, decide_eq_true_eq, beq_iff_eq]
        exact eq_comm
      · rw [fmN_succ xs i hix]
        unfold stepN
        have hm := fmN_mem xs (xs.getD i Str.empty) i (by omega)
        have e1 : (xs.take i).any (· == xs.getD i Str.empty) = (fmN xs i).contains (xs.getD i Str.empty) := by
          rw [any_take, Bool.eq_iff_iff, decide_eq_true_eq, List.contains_iff_mem]
          exact hm.symm
        simp only [e1]
        split
        · rfl
        · rw [List.length_append, List.length_singleton]
    refine wpAny_pure ⟨plainId_quiet PyProof.Rows.F.plain_set_update_loop _, ih (i + 1) _ (by omega) hlt (W.frame _ s' _ _ hst' (Nat.le_succ _) fun b hb o e => ?_) hSi fun s'' hm'' hS'' => ?_⟩
    · rw [hsb.2 b (fun h : b = S => hSf (by rw [← h]; exact hb))]; exact e
    · refine hR s'' (Moved.trans W.gtrans ((hm.mono hsub).then_heap (Nat.le_succ _) fun b o hb e => ?_) hm'') hS''
      rw [hsb.2 b (fun h : b = S => hb (by rw [h]; exact List.mem_cons_self))]; exact e
end
section
variable {prog : Program} {w : World} {A : Around} {E : Value → Shared → Prop} {s : Shared}
set_option maxHeartbeats 3200000 in
theorem call_set_tupleN {l : Addr} {items : Array Value} {xs : List Str} {Q : Value → Shared → Prop}
    (hh : A.handled = none) (hl : s.heap.IsTuple l items) (hi : PyProof.Rows.StrsAre items.toList xs) (hn1 : xs.length < 4000)
    (h : ∀ (h' : Heap) (tk : Nat), h'.SetOf (PySem.strKind prog w) s.heap.objs.size (fun k' => (xs.take items.size).any (· == k')) (fmN xs items.size).length →
      (∀ b o, b < s.heap.objs.size → s.heap.get? b = some o → h'.get? b = some o) → Q (.ref s.heap.objs.size) { s with heap := h', toks := tk }) :
    wpAny (model prog w) A (call (.type "set") [.ref l]) Q E s := by
  obtain ⟨c, tl, hmro⟩ := PySem.F.called_set.mro
  have hmade := PySem.F.called_set.made
  have hsub := PySem.F.called_set.sub
  refine wpAny_call (codeAny_of_tree ?_)
  show wpAny _ _ (callAny (.type "set") _) _ _ _
  refine wpAny_pure ⟨Code.quiet_builtin _ (by decide +kernel), codeAny_builtin PySem.F.entry_type_call ?_⟩
  rw [Around.under_plain (weight_type_call_type "set" [.ref l] []) rfl]
  have h1 := PySem.F.called_set.notType
  have h2 := PySem.F.called_set.canCreate
  have hct := PySem.F.typeCall_set_1 (.ref l)
  repeat (any_goals (first | assumption | wp_step))

  refine codeAny_mono (code_set_new_1 (.ref l) (E := E) (Q₁ := fun obj s₁ => ∃ led : Bool, obj = .ref s.heap.objs.size ∧ s₁ = { s with heap := s.heap.push { cls := .type "set", dict := none, data := .set #[] 0 (.fresh 0 0 led) } }) fun led => ⟨led, rfl, rfl⟩) fun r s₁ hr => ?_
  cases r with
  | error e => exact hr
  | ok fl =>
    cases fl with
    | ret obj =>
      obtain ⟨led, rfl, rfl⟩ := hr
      have hS : (s.heap.push { cls := .type "set", dict := none, data := .set #[] 0 (.fresh 0 0 led) }).get? s.heap.objs.size = some { cls := .type "set", dict := none, data := .set #[] 0 (.fresh 0 0 led) } := Heap.get?_push_size _ rfl
      have hT : Shared.TypeIs { s with heap := s.heap.push { cls := .type "set", dict := none, data := .set #[] 0 (.fresh 0 0 led) } } (.ref s.heap.objs.size) "set" := ⟨_, hS, rfl⟩
      have hli := PySem.F.called_set.init.lookup
      have hbi := PySem.F.called_set.init.bind (.ref s.heap.objs.size)
      repeat (any_goals (first | assumption | wp_step))

      refine codeAny_mono (codeAny_call_builtin (R := wants (fun r s₂ => r = .none ∧ ∃ h' tk, s₂ = { s with heap := h', toks := tk } ∧
          h'.SetOf (PySem.strKind prog w) s.heap.objs.size (fun k' => (xs.take items.size).any (· == k')) (fmN xs items.size).length ∧
          (∀ b o, b < s.heap.objs.size → s.heap.get? b = some o → h'.get? b = some o)) E) PySem.F.called_set.init.plain PySem.F.entry_set_init (check_set_init_1 hT ?_)) fun r₂ s₂ hr₂ => ?_
      · obtain ⟨ol, hol, hcl, nl, hdl⟩ := hl
        obtain ⟨ocls, odict, odata, oslots⟩ := ol
        simp only at hcl hdl
        subst hcl; subst hdl
        have hol' : (s.heap.push { cls := .type "set", dict := none, data := .set #[] 0 (.fresh 0 0 led) }).get? l = some { cls := .type "tuple", dict := odict, data := .seq items nl, slots := oslots } := Heap.get?_push_of_some _ hol
        have hsls := PySem.F.sub_tuple_set
        have hslf := PySem.F.sub_tuple_frozenset
        have hne : (Value.type "tuple" == Value.type "dict") = false := by decide
        have hl1 : (s.heap.push { cls := .type "set", dict := none, data := .set #[] 0 (.fresh 0 0 led) }).IsTuple l items := ⟨_, hol', rfl, nl, rfl⟩
        unfold Builtin.«set.__init__» noKeywords Builtin.Frozenset.updateFrom
        generalize hPI : pyIter = PI
        wp_walk
        subst hPI

        refine wpAny_pyIter_tuple hl1 ?_
        refine wpAny_bind (wpAny_runValue ?_)
        have hlS : l < s.heap.objs.size := Heap.lt_size hol
        have hh3 : A.in1.in1.in1.handled = none := by simp [hh]
        have hneI : l ≠ (s.heap.push { cls := .type "set", dict := none, data := .set #[] 0 (.fresh 0 0 led) }).objs.size := by
          rw [Heap.size_push]; exact Nat.ne_of_lt (Nat.lt_succ_of_lt hlS)
        have hSf : s.heap.objs.size ∉ [(s.heap.push { cls := .type "set", dict := none, data := .set #[] 0 (.fresh 0 0 led) }).objs.size, l] := by
          rw [Heap.size_push]; simp only [List.mem_cons, List.mem_singleton, List.not_mem_nil, or_false, not_or]
          exact ⟨Nat.ne_of_lt (Nat.lt_succ_self _), Nat.ne_of_gt hlS⟩
        have hsz : xs.length = items.size := by rw [← StrsAre.len_eq hi, Array.length_toList]
        have hval : ∀ (i : Nat) (v : Value), items[i]? = some v → ∃ t, v = .str (xs.getD i Str.empty) t := fun i v hv => strs_at hi i v (by rw [Array.getElem?_toList]; exact hv)
        refine loopStrN ((Walks.tuple hh3 _ l hneI items).toS) s.heap.objs.size
          hSf xs hsz (by rw [← hsz]; exact hn1) hval (items.size - 0) 0 _ (by omega) (Nat.zero_le _)
          ⟨⟨_, Heap.get?_push_size _ rfl, rfl, rfl⟩, (hl1.push _)⟩ ?hS0 ?hR
        case hS0 =>
          have hget : ((s.heap.push { cls := .type "set", dict := none, data := .set #[] 0 (.fresh 0 0 led) }).push { cls := .type "tuple_iterator", data := .fields #[.ref l, .int 0 0] }).get? s.heap.objs.size
              = some { cls := .type "set", dict := none, data := .set #[] 0 (.fresh 0 0 led) } := Heap.get?_push_of_some _ hS
          exact PyProof.Rows.SetOf_congr ((PyProof.Rows.setObjOf_fresh (knd := PySem.strKind prog w) led).setOf hget (by unfold scanBound; omega)) (fun _ => rfl) rfl
        case hR =>
          intro s' hm hS'
          obtain ⟨h', g', d', tk', os'⟩ := s'
          have eg : g' = s.gens := hm.gens
          have ed : d' = s.drawn := hm.drawn
          have eo : os' = s.os := hm.os
          subst eg; subst ed; subst eo
          show wpAny _ _ _ _ _ _
          refine wpAny_pure ?_
          show wpAny _ _ (ret Value.none) _ _ _
          refine wpAny_pure ⟨rfl, h', tk', rfl, hS', fun b o hb e => ?_⟩
          have hb1 : b ≠ s.heap.objs.size := Nat.ne_of_lt hb
          have hb2 : b ≠ (s.heap.push { cls := .type "set", dict := none, data := .set #[] 0 (.fresh 0 0 led) }).objs.size := by
            rw [Heap.size_push]; exact Nat.ne_of_lt (Nat.lt_succ_of_lt hb)
          exact hm.heap b o (by simp only [List.mem_cons, List.mem_singleton, List.not_mem_nil, or_false, not_or]; exact ⟨hb1, hb2⟩) (Heap.get?_push_of_some _ (Heap.get?_push_of_some _ e))

      · cases r₂ with
        | error e => exact hr₂
        | ok fl₂ =>
          cases fl₂ with
          | ret r =>
            obtain ⟨rfl, h', tk, rfl, hS', hk'⟩ := hr₂
            repeat (any_goals (first | assumption | wp_step))
            exact h _ _ hS' hk'
          | _ => exact hr₂.elim
    | _ => exact hr.elim

end

def lenSet (xs : List Str) : Nat := (fmN xs xs.length).length
/-- len(set(t)), t a tuple of texts -/
def tLenSetN (K : PySem.W.Frag) (ta : TE) : TE := fun σ H Q => ta σ H fun x H1 => ∃ l, ∃ xs : List Str, x = .ref l ∧ SqT K H1 l (xs.map V.str) ∧ xs.length < 4000 ∧ Q (.int (lenSet xs : Nat)) H1
theorem pe_lenSetN {X : Cx} {a : Expr} {ta : TE} {p p2 q pos : Pos} (hc : X.calm = true) (hg : Gl X "len") (hm : X.mg "len" = none) (hg2 : Gl X "set") (hm2 : X.mg "set" = none) (ha : PE X a ta)
    (na : starEach [a] X.env = (false, eval a X.env) :: starEach [] X.env := by rfl) : PE X (.Call (.Name "len" p) [.Call (.Name "set" p2) [a] [] q] [] pos) (tLenSetN X.K ta) := by
  refine ⟨fun pins s σ H Q I h => ?_⟩
  refine Call_ (ld_blt I hg hm boot_len ?_)
  refine PyProof.Rows.callWith_builtin1 (PyProof.Rows.args_cons ?_ rfl) rfl rfl
  refine Call_ (ld_blt I hg2 hm2 boot_set ?_)
  refine PyProof.Rows.callWith_type1 (PyProof.Rows.args_cons (thn (ha.run pins s σ H _ I h) fun v s1 ⟨x, H1, I1, r1, q1⟩ => PyProof.Rows.args_nil ?_) na) na rfl
  obtain ⟨l, xs, rfl, hq, h1, q1⟩ := q1
  cases r1
  obtain ⟨its, r, pl, hz⟩ := I1.tuple hq
  refine call_set_tupleN (I1.ok.hd hc) pl (by simpa using strsAre_of r) h1 fun h' tk hS hk => PyProof.Rows.args_nil ?_
  have hl : its.toArray.size = xs.length := by rw [List.size_toArray, ← r.length, List.length_map]
  rw [hl] at hS
  obtain ⟨o, es, ep, t, ho, hex, hd, _, _, _, hf, hn⟩ := hS
  have I2 : Inv X pins σ H1 { s1 with heap := h', toks := tk } := I1.kept fun b o e => hk b o (Heap.lt_size e) e
  have hle := fmN_len xs xs.length (Nat.le_refl _)
  exact call_len_set ho hex hd hf (by rw [hn] <;> omega) ⟨.int (lenSet xs : Nat), H1, I2.tok _, ⟨_, by rw [hn]; rfl⟩, q1⟩
def fLenSet (fa : FE) : FE := fun ρ st => (fa ρ st).bind fun d st1 => match tupOf d with
  | some ds => match txts ds with
    | some xs => if xs.length < 4000 then .ok (.p (.int (lenSet xs : Nat))) st1 else .stuck
    | none => .stuck
  | none => .stuck
theorem pf_lenSet {X : Cx} {W : WX} {a : Expr} {fa : FE} {p p2 q pos : Pos} (hc : X.calm = true) (hm : X.mg "len" = none) (hm2 : X.mg "set" = none) (ha : PF X W a fa) (hg : Gl X "len" := by rfl) (hg2 : Gl X "set" := by rfl)
    (na : starEach [a] X.env = (false, eval a X.env) :: starEach [] X.env := by rfl) : PF X W (.Call (.Name "len" p) [.Call (.Name "set" p2) [a] [] q] [] pos) (fLenSet fa) := PE_imp (pe_lenSetN hc hg hm hg2 hm2 ha na) fun σ H Q h => by
  obtain ⟨ρ, st, w, sim, er, gd⟩ := h
  refine ⟨ρ, st, w, sim, er, Good.imp (fun x H1 q => ?_) (Good.bind gd)⟩
  obtain ⟨st1, w1, d1, sim1, s1, r1, gd1⟩ := q
  split at gd1
  · rename_i ds e1
    split at gd1
    · rename_i xs e2
      split at gd1
      · rename_i hl
        obtain ⟨a, vs, rfl, r2, hs⟩ := tup_rd r1 e1
        obtain rfl := txts_rd r2 e2
        exact ⟨a, xs, rfl, hs.sq, hl, gd1 w1 H1 _ .refl sim1 (.p (.int _))⟩
      · exact gd1.elim
    · exact gd1.elim
  · exact gd1.elim
/-- as many as there are, when no text stands twice; never else -/
theorem fmN_nodup (xs : List Str) (h : xs.Nodup) : ∀ i, i ≤ xs.length → fmN xs i = xs.take i
  | 0, _ => by simp [fmN]
  | i + 1, hi => by
    have hix : i < xs.length := hi
    rw [fmN_succ xs i hix, fmN_nodup xs h i (by omega), List.take_succ, List.getElem?_eq_getElem hix, List.getD_eq_getElem?_getD, List.getElem?_eq_getElem hix]
    unfold stepN
    rw [if_neg]
    · rfl
    · simp only [Option.getD_some, List.contains_iff_mem]
      intro hm
      obtain ⟨j, hj, e⟩ := List.getElem_of_mem hm
      rw [List.length_take] at hj
      rw [List.getElem_take] at e
      have hji : j < i := by omega
      exact List.pairwise_iff_getElem.mp h j i (by omega) hix hji e
theorem lenSet_nodup {xs : List Str} (h : xs.Nodup) : lenSet xs = xs.length := by
  unfold lenSet
  rw [fmN_nodup xs h _ (Nat.le_refl _), List.take_length]
end FB
set_option Elab.async false
set_option linter.all false
set_option maxRecDepth 100000
set_option maxHeartbeats 4000000
/-! FB8: loops and comprehensions over what is data or a list cell. -/
namespace FB
open PySem PySem.Spec PyProof.Rows L2 RZ

inductive Nxt where
  | item (d : Dv)
  | fin
  | bad
/-- the k-th item of the list cell i, as it stands -/
def cellAt (i k : Nat) (st : So) : Nxt := match st[i]? with
  | some (.lst ys) => match ys[k]? with
    | some d => .item d
    | none => .fin
  | _ => .bad
structure SOk (K : PySem.W.Frag) (mg : Str → Option Value) (n : Nat) (w : Wd) (H : Hp) (i : Nat) (J : It) : Prop where
  go : ∀ k w' H' (st' : So), Stp n w H st'.length w' H' → Sim K mg w' st' H' → ∀ d, cellAt i k st' = .item d → J.go k H' ∧ ∀ x H'', J.yld k H' x H'' → ∃ w'', Stp st'.length w' H' st'.length w'' H'' ∧ Sim K mg w'' st' H'' ∧ RD K mg st'.length w'' H'' d x
  fin : ∀ k w' H' (st' : So), Stp n w H st'.length w' H' → Sim K mg w' st' H' → cellAt i k st' = .fin → J.stop k H'
section
variable {X : Cx} {W : WX} {K : PySem.W.Frag} {mg : Str → Option Value} {n : Nat} {w : Wd} {H : Hp} {pos : Pos}
theorem sok_cell {i : Nat} (hi : i < n) : SOk K mg n w H i (Itl K (w.m i)) where
  go := fun k w' H' st' g sim d h => by
    unfold cellAt at h
    split at h
    · rename_i ys e
      split at h
      · rename_i d' e2
        cases h
        obtain ⟨vs, e1, r1, _⟩ := sim.cell i _ e
        obtain ⟨v, e3, r3⟩ := r1.get e2
        rw [g.ext i hi] at e1
        refine ⟨⟨vs, v, .of e1, e3⟩, fun x H'' y => ?_⟩
        obtain ⟨rfl, y⟩ := y
        have e4 := y vs (.of e1)
        rw [e3] at e4
        cases e4
        exact ⟨w', .refl, sim, r3⟩
      · cases h
    · cases h
  fin := fun k w' H' st' g sim h => by
    unfold cellAt at h
    split at h
    · rename_i ys e
      split at h
      · cases h
      · rename_i e2
        obtain ⟨vs, e1, r1, _⟩ := sim.cell i _ e
        rw [g.ext i hi] at e1
        refine ⟨vs, .of e1, ?_⟩
        rw [← r1.length]
        exact List.getElem?_eq_none_iff.mp e2
    · cases h
/-! ### for -/
def sForC (tg : Tg) (body : FS) (i : Nat) : Nat → Nat → FS
  | 0, _, _, _ => .stuck
  | f + 1, k, ρ, st => match cellAt i k st with
    | .bad => .stuck
    | .fin => .nx ρ st
    | .item d => toE (tgF tg d ρ) fun ρ' => match body ρ' st with
      | .nx ρ2 st2 => sForC tg body i f (k + 1) ρ2 st2
      | .cnt ρ2 st2 => sForC tg body i f (k + 1) ρ2 st2
      | .brk ρ2 st2 => .nx ρ2 st2
      | r => r
/-- for tg in e: e a list cell, a list, a tuple, a text -/
def sForV (fa : FE) (tg : Tg) (body : FS) : FS := fun ρ st => (fa ρ st).st ρ fun d st1 => match d with
  | .ref i => sForC tg body i 100001 0 ρ st1
  | d => match itemsOf d st1 with
    | some items => sForL tg body items ρ st1
    | none => .stuck
abbrev LoopW (K : PySem.W.Frag) (mg : Str → Option Value) (W : WX) (tg : Tg) (body : FS) (D : Ends) (σ : L2.St) (J : It) (H1 : Hp) : Prop :=
    ∃ Wn : Nat → Nat → L2.St → Hp → Prop, (∃ m, Wn 0 m σ H1) ∧ ∀ i m σ H, Wn i m σ H → (J.stop i H ∧ D.nx σ H) ∨ (J.go i H ∧ ∃ N : L2.St → Hp → Prop, (∀ σ' H', N σ' H' → ∃ m', m' < m ∧ Wn (i + 1) m' σ' H') ∧ ∀ x H', J.yld i H x H' → tgG K tg x σ H' fun σ2 H2 => TFS K mg W body { D with nx := N, ct := N, bk := D.nx } σ2 H2)
theorem for_core {J : It} {tg : Tg} {body : FS} {D : Ends} {σ : L2.St} {st1 : So} {w1 : Wd} {H1 : Hp} {i : Nat} {ρ : Sl} (it : SOk K mg st1.length w1 H1 i J) (sim1 : Sim K mg w1 st1 H1) (er1 : EnvR K mg st1.length w1 H1 ρ σ) (gd1 : GoodS K mg W st1.length w1 H1 D (sForC tg body i 100001 0 ρ st1)) :
    ∃ Wn : Nat → Nat → L2.St → Hp → Prop, (∃ m, Wn 0 m σ H1) ∧ ∀ i m σ H, Wn i m σ H → (J.stop i H ∧ D.nx σ H) ∨ (J.go i H ∧ ∃ N : L2.St → Hp → Prop, (∀ σ' H', N σ' H' → ∃ m', m' < m ∧ Wn (i + 1) m' σ' H') ∧ ∀ x H', J.yld i H x H' → tgG K tg x σ H' fun σ2 H2 => TFS K mg W body { D with nx := N, ct := N, bk := D.nx } σ2 H2) := by
  refine ⟨fun k m σ2 H2 => ∃ ρ2 st2 w2, Sim K mg w2 st2 H2 ∧ EnvR K mg st2.length w2 H2 ρ2 σ2 ∧ Stp st1.length w1 H1 st2.length w2 H2 ∧ GoodS K mg W st2.length w2 H2 D (sForC tg body i m k ρ2 st2),
    ⟨100001, ρ, st1, w1, sim1, er1, .refl, gd1⟩, ?_⟩
  rintro k m σ2 H2 ⟨ρ2, st2, w2, sim2, er2, s2, gd2⟩
  cases m with
  | zero => exact gd2.elim
  | succ f =>
    unfold sForC at gd2
    split at gd2
    · exact gd2.elim
    · rename_i e
      exact .inl ⟨it.fin k w2 H2 st2 s2 sim2 e, gd2 w2 H2 σ2 .refl sim2 er2⟩
    · rename_i d e
      obtain ⟨go, yl⟩ := it.go k w2 H2 st2 s2 sim2 d e
      refine .inr ⟨go, fun σ' H' => ∃ ρ3 st3 w3, Sim K mg w3 st3 H' ∧ EnvR K mg st3.length w3 H' ρ3 σ' ∧ Stp st1.length w1 H1 st3.length w3 H' ∧ GoodS K mg W st3.length w3 H' D (sForC tg body i f (k + 1) ρ3 st3), ?_, ?_⟩
      · rintro σ' H' ⟨ρ3, st3, w3, sim3, er3, s3, gd3⟩
        exact ⟨f, Nat.lt_succ_self f, ρ3, st3, w3, sim3, er3, s3, gd3⟩
      · intro x H3 hy
        obtain ⟨w3, s3, sim3, r3⟩ := yl x H3 hy
        have gd3 := gd2.later s3
        unfold toE at gd3
        split at gd3
        · rename_i ρ' hρ
          dsimp only at gd3
          refine tg_ok (vs := tgS tg) tg _ x ρ2 ρ' σ2 σ2 _ r3 (er2.mono s3) hρ (fun _ h => h) rfl fun σ4 er4 _ => ⟨ρ', st2, w3, sim3, er4, ?_⟩
          cases eb : body ρ' st2 with
          | nx ρ5 st5 =>
            rw [eb] at gd3
            exact fun w5 H5 σ5 s5 sim5 er5 => ⟨ρ5, st5, w5, sim5, er5, (s2.trans s3).trans s5, gd3.later s5⟩
          | cnt ρ5 st5 =>
            rw [eb] at gd3
            exact fun w5 H5 σ5 s5 sim5 er5 => ⟨ρ5, st5, w5, sim5, er5, (s2.trans s3).trans s5, gd3.later s5⟩
          | brk ρ5 st5 => rw [eb] at gd3; exact gd3
          | ret d st5 => rw [eb] at gd3; exact gd3
          | exc c fs ρ5 st5 => rw [eb] at gd3; exact gd3
          | stuck => rw [eb] at gd3; exact gd3.elim
        · exact gd3.elim
/-- the items that a plain iterable gives -/
theorem iter_ok {st1 : So} {w1 : Wd} {H1 : Hp} {d : Dv} {v : V} {R : It → Hp → Prop} (sim1 : Sim K mg w1 st1 H1) (r1 : RD K mg st1.length w1 H1 d v)
    (h : (∃ i, d = .ref i ∧ ∃ ys, st1[i]? = some (.lst ys) ∧ ∀ J, SOk K mg st1.length w1 H1 i J → R J H1) ∨ ∃ xs, itemsOf d st1 = some xs ∧ ∀ J, ItOk K mg st1.length w1 H1 xs J → R J H1) :
    (∃ a, v = .ref a ∧ (∃ xs, SqL K H1 a xs) ∧ R (Itl K a) H1) ∨ (∃ a, v = .ref a ∧ (∃ xs, SqT K H1 a xs) ∧ R (Itt K a) H1) ∨ ∃ z, v = .str z ∧ R (Its z) H1 := by
  rcases h with ⟨i, rfl, ys, e, hR⟩ | ⟨xs, e, hR⟩
  · cases r1 with
    | ref hi =>
      obtain ⟨vs, e1, _, _⟩ := sim1.cell i _ e
      exact .inl ⟨_, rfl, ⟨vs, .of e1⟩, hR _ (sok_cell hi)⟩
  · have e' := e
    unfold itemsOf at e'
    split at e'
    · cases e'
      cases r1 with
      | p q =>
        cases q
        exact .inr (.inr ⟨_, rfl, hR _ it_str⟩)
    · cases e'
    · rename_i hn1 hn2
      obtain ⟨a, vs, rfl, rv, hs | hs⟩ := stays_rd sim1 r1 (fun i hi => hn2 i hi) e'
      · exact .inl ⟨a, rfl, ⟨vs, hs _ _ _ .refl⟩, hR _ (it_list rv hs)⟩
      · exact .inr (.inl ⟨a, rfl, ⟨vs, hs _ _ _ .refl⟩, hR _ (it_tup rv hs)⟩)
theorem pfs_forV {te iter : Expr} {bs : List Stmt} {fa : FE} {tg : Tg} {body : FS} (hp : PassesOwn (model X.prog X.w) X.A X.env X.xe) (hc : X.calm = true) (hi : PF X W iter fa) (hg : PG X te (tgG X.K tg)) (hb : PFSs X W bs body)
    (hs : ∀ x, foldedSetIterable iter X.env x = pure x := by intro _; rfl) : PFS X W (.For te iter bs [] pos) (sForV fa tg body) := PS_imp (ps_for hp hc (pi_seq hi) hg hb hs) fun D σ H q => by
  obtain ⟨ρ, st, w, sim, er, gd⟩ := q
  refine ⟨ρ, st, w, sim, er, Good.imp (fun v H1 q => ?_) (good_st er gd)⟩
  obtain ⟨st1, w1, d, sim1, s1, r1, er1, gd1⟩ := q
  have key : ∀ xs, itemsOf d st1 = some xs → GoodS X.K X.mg W st1.length w1 H1 D (sForL tg body xs ρ st1) → ∀ J, ItOk X.K X.mg st1.length w1 H1 xs J → ∃ Wn : Nat → Nat → L2.St → Hp → Prop, (∃ m, Wn 0 m σ H1) ∧ ∀ i m σ H, Wn i m σ H →
      (J.stop i H ∧ D.nx σ H) ∨ (J.go i H ∧ ∃ N : L2.St → Hp → Prop, (∀ σ' H', N σ' H' → ∃ m', m' < m ∧ Wn (i + 1) m' σ' H') ∧ ∀ x H', J.yld i H x H' → tgG X.K tg x σ H' fun σ2 H2 => TFS X.K X.mg W body { D with nx := N, ct := N, bk := D.nx } σ2 H2) := fun xs e g J it => by
    exact tfs_forL it sim1 er1 g
  split at gd1
  · rename_i i
    have hys : ∃ ys, st1[i]? = some (.lst ys) := by
      unfold sForC at gd1
      unfold cellAt at gd1
      split at gd1
      · exact gd1.elim
      · rename_i e
        split at e
        · exact ⟨_, by assumption⟩
        · cases e
      · rename_i e
        split at e
        · exact ⟨_, by assumption⟩
        · cases e
    obtain ⟨ys, e⟩ := hys
    exact iter_ok (R := fun J H1 => LoopW X.K X.mg W tg body D σ J H1) sim1 r1 (.inl ⟨i, rfl, ys, e, fun J it => for_core it sim1 er1 gd1⟩)
  · split at gd1
    · rename_i items e
      exact iter_ok (R := fun J H1 => LoopW X.K X.mg W tg body D σ J H1) sim1 r1 (.inr ⟨items, e, key items e gd1⟩)
    · exact gd1.elim

/-! ### [.. for tg in e if ..] -/
def cmpC (tg : Tg) (tt : FT) (fe : FE) (ρ : Sl) (i : Nat) : Nat → Nat → List Dv → So → Rs (List Dv)
  | 0, _, _, _ => .stuck
  | f + 1, k, acc, st => match cellAt i k st with
    | .bad => .stuck
    | .fin => .ok acc st
    | .item d => match tgF tg d ρ with
      | none => .stuck
      | some ρ' => (tt ρ' st).bindN fun b st1 => if b then (fe ρ' st1).bindN fun y st2 => cmpC tg tt fe ρ i f (k + 1) (acc ++ [y]) st2 else cmpC tg tt fe ρ i f (k + 1) acc st1
def fLcV (fa : FE) (tg : Tg) (tt : FT) (fe : FE) : FA := fun ρ st => (fa ρ st).bind fun d st1 => match d with
  | .ref i => cmpC tg tt fe (rhoW ρ (tgS tg)) i 100001 0 [] st1
  | d => match itemsOf d st1 with
    | some items => if items.length ≤ 100000 then cmpL tg tt fe (rhoW ρ (tgS tg)) items [] st1 else .stuck
    | none => .stuck
abbrev LcW (K : PySem.W.Frag) (mg : Str → Option Value) (tg : Tg) (tt : FT) (fe : FE) (σ : L2.St) (Q : VK) (J : It) (H1 : Hp) : Prop :=
    ∀ D, H1 D = none → ∃ Wn : Nat → Nat → Hp → Prop, (∃ m, Wn 0 m (upd H1 D (.lst []))) ∧ ∀ i m H, Wn i m H →
      (J.stop i H ∧ Q (.ref D) H) ∨ (J.go i H ∧ ∃ Nx : Hp → Prop, (∀ H', Nx H' → ∃ m', m' < m ∧ Wn (i + 1) m' H') ∧ ∀ x H', J.yld i H x H' → tgG K tg x (wipe σ (tgS tg)) H' fun σ2 H2 => wipe σ2 (tgS tg) = wipe σ (tgS tg) ∧ TFT K mg W0 tt σ2 H2 fun b H3 =>
        if b = true then TF K mg W0 fe σ2 H3 fun y H4 => ∃ acc, H4 D = some (.lst acc) ∧ acc.length < sizeLine ∧ Nx (upd H4 D (.lst (acc ++ [y]))) else Nx H3)
theorem cmpC_ok {Wc : WX} {σ : L2.St} {st1 : So} {w1 : Wd} {H1 : Hp} {J : It} {src : Nat} {tg : Tg} {tt : FT} {fe : FE} {ρ : Sl} {Q : VK}
    (it : SOk K mg st1.length w1 H1 src J) (er : EnvR K mg st1.length w1 H1 ρ (wipe σ (tgS tg))) (sim1 : Sim K mg w1 st1 H1)
    (gd : Good (RDs K mg) K mg Wc σ st1.length w1 H1 (fun vs H' => ∀ p, H' p = none → vs.length ≤ sizeLine → Q (.ref p) (upd H' p (.lst vs))) (cmpC tg tt fe ρ src 100001 0 [] st1)) : LcW K mg tg tt fe σ Q J H1 := by
  intro D hD
  have big : ∀ {k : Nat}, k ≤ 200000 → k < sizeLine := fun h => Nat.lt_of_le_of_lt h (by decide)
  refine ⟨fun i m H => ∃ st w Hb acc vs, Sim K mg w st Hb ∧ Hb D = none ∧ H = upd Hb D (.lst vs) ∧ RDs K mg st.length w Hb acc vs ∧ Stp st1.length w1 H1 st.length w Hb ∧ acc.length + m ≤ 100001 ∧
    Good (RDs K mg) K mg Wc σ st.length w Hb (fun vs H' => ∀ p, H' p = none → vs.length ≤ sizeLine → Q (.ref p) (upd H' p (.lst vs))) (cmpC tg tt fe ρ src m i acc st),
    ⟨100001, st1, w1, H1, [], [], sim1, hD, rfl, .nil, .refl, Nat.le_refl _, gd⟩, ?_⟩
  rintro i m H ⟨st, w, Hb, acc, vs, sim, hDb, rfl, racc, s0, hacc, gd0⟩
  obtain ⟨s2, sim2⟩ := sim.put (o := .lst vs) hDb
  cases m with
  | zero => exact gd0.elim
  | succ f =>
  unfold cmpC at gd0
  split at gd0
  · exact gd0.elim
  · rename_i e
    refine .inl ⟨it.fin i _ _ st (s0.trans s2) sim2 e, ?_⟩
    exact gd0 w Hb vs .refl sim racc D hDb (by rw [← racc.length]; exact Nat.le_of_lt (big (by omega)))
  · rename_i d0 e
    obtain ⟨go, yl⟩ := it.go i (w.aside D) _ st (s0.trans s2) sim2 d0 e
    refine .inr ⟨go, fun H' => ∃ st' w' Hb' acc' vs', Sim K mg w' st' Hb' ∧ Hb' D = none ∧ H' = upd Hb' D (.lst vs') ∧ RDs K mg st'.length w' Hb' acc' vs' ∧ Stp st1.length w1 H1 st'.length w' Hb' ∧ acc'.length + f ≤ 100001 ∧
      Good (RDs K mg) K mg Wc σ st'.length w' Hb' (fun vs H' => ∀ p, H' p = none → vs.length ≤ sizeLine → Q (.ref p) (upd H' p (.lst vs))) (cmpC tg tt fe ρ src f (i + 1) acc' st'), ?_, ?_⟩
    · rintro H' ⟨st', w', Hb', acc', vs', q⟩
      exact ⟨f, Nat.lt_succ_self f, st', w', Hb', acc', vs', q⟩
    · intro x H3 hy
      obtain ⟨w3, s3, sim3, r3⟩ := yl x H3 hy
      split at gd0
      · exact gd0.elim
      · rename_i ρ' hρ
        have s23 := s2.trans s3
        have fD : ∀ {n' w' H'}, Stp st.length w3 H3 n' w' H' → w'.F D ∧ H' D = some (.lst vs) := fun {n' w' H'} g =>
          ⟨g.frm.inc D (s3.frm.inc D (.inl rfl)), g.frm.imm D _ (s3.frm.inc D (.inl rfl)) (s3.frm.imm D _ (.inl rfl) upd_same)⟩
        have hFF : ∀ {n' w' H'}, Stp st.length w3 H3 n' w' H' → ∀ a, w.F a → w'.F a ∧ a ≠ D := fun {n' w' H'} g a ha => by
          obtain ⟨⟨z, hz⟩, _⟩ := sim.fr a ha
          exact ⟨g.frm.inc a (s23.frm.inc a ha), ne_of_none hz hDb⟩
        have land : ∀ {st' w' H'}, Stp st.length w3 H3 (List.length st') w' H' → Sim K mg w' st' H' → Sim K mg (w'.back w.F) st' (era H' D) ∧ Stp st.length w Hb st'.length (w'.back w.F) (era H' D) ∧
            Stp st'.length { w' with F := fun _ => False } H' st'.length (w'.back w.F) (era H' D) := fun {st' w' H'} g sm => by
          obtain ⟨a1, a2, a3⟩ := sm.drop (F := w.F) (fD g).1 (hFF g)
          exact ⟨a1, a2 (s23.trans g) fun _ h => h, a3⟩
        refine tg_ok (vs := tgS tg) tg _ x ρ ρ' _ (wipe σ (tgS tg)) _ r3 (er.mono ((s0.trans s2).trans s3)) hρ (fun _ h => h) rfl fun σ4 er4 hw4 => ⟨hw4.trans (wipe_idem fun _ h => h), ρ', st, w3, sim3, er4, ?_⟩
        cases et : tt ρ' st with
        | stuck => rw [et] at gd0; exact gd0.elim
        | exc c fs st' => rw [et] at gd0; exact gd0.elim
        | ok b st4 =>
          rw [et] at gd0
          intro w4 H4 b' s4 sim4 eb
          obtain rfl : b = b' := eb
          have gd0 : Good (RDs K mg) K mg Wc σ st.length w Hb (fun vs H' => ∀ p, H' p = none → vs.length ≤ sizeLine → Q (.ref p) (upd H' p (.lst vs))) (if b = true then (fe ρ' st4).bindN fun y st2 => cmpC tg tt fe ρ src f (i + 1) (acc ++ [y]) st2 else cmpC tg tt fe ρ src f (i + 1) acc st4) := gd0
          cases b with
          | false =>
            rw [if_neg Bool.false_ne_true] at gd0 ⊢
            obtain ⟨a1, a2, a3⟩ := land s4 sim4
            refine ⟨st4, w4.back w.F, era H4 D, acc, vs, a1, era_same, ?_, racc.mono a2, s0.trans a2, by omega, gd0.later a2⟩
            rw [upd_era]
            funext c
            by_cases hc : c = D
            · subst hc; rw [upd_same]; exact (fD s4).2
            · rw [upd_ne hc]
          | true =>
            rw [if_pos rfl] at gd0 ⊢
            refine ⟨ρ', st4, w4, sim4, er4.mono s4, ?_⟩
            cases ef : fe ρ' st4 with
            | stuck => rw [ef] at gd0; exact gd0.elim
            | exc c fs st' => rw [ef] at gd0; exact gd0.elim
            | ok y st5 =>
              rw [ef] at gd0
              intro w5 H5 v s5 sim5 r5
              have s45 := s4.trans s5
              obtain ⟨a1, a2, a3⟩ := land s45 sim5
              have lv : vs.length < sizeLine := by rw [← racc.length]; exact big (by omega)
              refine ⟨vs, (fD s45).2, lv, st5, w5.back w.F, era H5 D, acc ++ [y], vs ++ [v], a1, era_same, by rw [upd_era], (racc.mono a2).append (.cons (r5.back a3) .nil), s0.trans a2, ?_, ?_⟩
              · rw [List.length_append, List.length_singleton]; omega
              · exact Good.later a2 gd0
theorem tfl_lcV {fa : FE} {te : TE} {tg : Tg} {tt : FT} {fe : FE} {σ : L2.St} {H : Hp} {Q : VK} (ht : ∀ σ H Q, TF K mg W fa σ H Q → te σ H Q) (h : TFL K mg W (fLcV fa tg tt fe) σ H Q) : tLc (iSeq K te) (tgG K tg) (TFT K mg W0 tt) (TF K mg W0 fe) (tgS tg) σ H Q := by
  obtain ⟨ρ, st, w, sim, er, gd⟩ := h
  refine ht σ H _ ⟨ρ, st, w, sim, er, Good.imp (fun v H1 q => ?_) (Good.bind gd)⟩
  obtain ⟨st1, w1, d, sim1, s1, r1, gd1⟩ := q
  split at gd1
  · rename_i i
    have hys : ∃ ys, st1[i]? = some (.lst ys) := by
      unfold cmpC at gd1
      unfold cellAt at gd1
      split at gd1
      · exact gd1.elim
      · rename_i e
        split at e
        · exact ⟨_, by assumption⟩
        · cases e
      · rename_i e
        split at e
        · exact ⟨_, by assumption⟩
        · cases e
    obtain ⟨ys, e⟩ := hys
    exact iter_ok (R := fun J H1 => LcW K mg tg tt fe σ Q J H1) sim1 r1 (.inl ⟨i, rfl, ys, e, fun J it => cmpC_ok it (envW (er.mono s1) _) sim1 gd1⟩)
  · split at gd1
    · rename_i items e
      split at gd1
      · rename_i hn
        exact iter_ok (R := fun J H1 => LcW K mg tg tt fe σ Q J H1) sim1 r1 (.inr ⟨items, e, fun J it D hD => cmp_ok it hn (envW (er.mono s1) _) sim1 hD gd1⟩)
      · exact gd1.elim
    · exact gd1.elim
theorem pfl_lcV {elt te iter : Expr} {ifs : List Expr} {scope : Scope} {own : List (Str × Nat)} {fa : FE} {tg : Tg} {tt : FT} {fe : FE} (hc : X.calm = true) (hN : X.N.Nodup) (hi : PF X W iter fa) (ok : BlkOk X.N X.env.scope scope own) (ho : own.map (·.2) = tgS tg)
    (hg : ∀ (s : Shared) (H : Hp) (C : Addr) (cl : List (Str × Addr)) (fp : List Addr), PG (X.blk s H scope (compEnvC scope cl C X.env) fp) te (tgG X.K tg)) (ht : ∀ (s : Shared) (H : Hp) (C : Addr) (cl : List (Str × Addr)) (fp : List Addr), PTs (X.blk s H scope (compEnvC scope cl C X.env) fp) ifs (TFT X.K X.mg W0 tt))
    (he : ∀ (s : Shared) (H : Hp) (C : Addr) (cl : List (Str × Addr)) (fp : List Addr), PF (X.blk s H scope (compEnvC scope cl C X.env) fp) W0 elt fe) (hs : ∀ x, foldedSetIterable iter X.env x = pure x := by intro _; rfl) :
    PFL X W (.ListComp elt [⟨te, iter, ifs, 0⟩] scope pos) (fLcV fa tg tt fe) := PE_imp (pe_lc (te := TF X.K X.mg W0 fe) hc hN (pi_seq hi) ok hg ht he hs) fun σ H Q h => by
  rw [ho]
  exact tfl_lcV (fun _ _ _ q => q) h
theorem pfs_setLcV {i : Nat} {y : Str} {py spos : Pos} {elt te iter : Expr} {ifs : List Expr} {scope : Scope} {own : List (Str × Nat)} {fa : FE} {tg : Tg} {tt : FT} {fe : FE} {fr : FE} (hc : X.calm = true) (hN : X.N.Nodup) (hi : PF X W iter fa) (ok : BlkOk X.N X.env.scope scope own) (ho : own.map (·.2) = tgS tg)
    (hg : ∀ (s : Shared) (H : Hp) (C : Addr) (cl : List (Str × Addr)) (fp : List Addr), PG (X.blk s H scope (compEnvC scope cl C X.env) fp) te (tgG X.K tg)) (ht : ∀ (s : Shared) (H : Hp) (C : Addr) (cl : List (Str × Addr)) (fp : List Addr), PTs (X.blk s H scope (compEnvC scope cl C X.env) fp) ifs (TFT X.K X.mg W0 tt))
    (he : ∀ (s : Shared) (H : Hp) (C : Addr) (cl : List (Str × Addr)) (fp : List Addr), PF (X.blk s H scope (compEnvC scope cl C X.env) fp) W0 elt fe)
    (hsw : swapsWith (.ListComp elt [⟨te, iter, ifs, 0⟩] scope pos) (some (.Name y py)) spos.line X.env = pure true) (hfr : ∀ σ H Q, TF X.K X.mg W fr σ H Q → TFL X.K X.mg W (fLcV fa tg tt fe) σ H Q)
    (hy : X.N[i]? = some y := by rfl) (hyl : X.env.scope.names.lookup y = some .local := by rfl) (hs : ∀ x, foldedSetIterable iter X.env x = pure x := by intro _; rfl) :
    PFS X W (.Assign [.Name y py] (.ListComp elt [⟨te, iter, ifs, 0⟩] scope pos) spos) (sAsg fr (.nm i)) := PS_imp (ps_setLc (te := TF X.K X.mg W0 fe) hc hN hy hyl hsw (pi_seq hi) ok hg ht he hs) fun D σ H h => by
  have h2 := tfs_asg h
  rw [ho]
  exact tfl_lcV (fun _ _ _ q => q) (hfr σ H _ h2)
end
end FB
set_option Elab.async false
set_option linter.all false
set_option maxRecDepth 100000
set_option maxHeartbeats 4000000
/-! FB9: a, b = x, y; constants of the module; defs as the head tells them. -/
namespace FB
open PySem PySem.Spec PyProof.Rows L2 RZ
def sPar (i j : Nat) (fr : FA) : FS := fun ρ st => (fr ρ st).st ρ fun vs st1 => match vs with
  | [a, b] => .nx ((ρ.set i (some a)).set j (some b)) st1
  | _ => .stuck
def sPar3 (i j k : Nat) (fr : FA) : FS := fun ρ st => (fr ρ st).st ρ fun vs st1 => match vs with
  | [a, b, c] => .nx (((ρ.set i (some a)).set j (some b)).set k (some c)) st1
  | _ => .stuck
section
variable {X : Cx} {W : WX} {a b c : Expr} {fr : FA} {pos : Pos} {i j k : Nat} {x y z : Str} {px py pz pt pt2 : Pos} {kt k2 : _}
theorem pfs_par (hc : X.calm = true) (hN : X.N.Nodup) (ha : PFA X W [a, b] fr) (hij : i ≠ j) (hi : X.N[i]? = some x := by rfl) (hj : X.N[j]? = some y := by rfl)
    (hx : X.env.scope.names.lookup x = some .local := by rfl) (hy : X.env.scope.names.lookup y = some .local := by rfl)
    (hw : swappedStores [.Tuple [.Name x px, .Name y py] kt pt] (.Tuple [a, b] k2 pt2) X.env = pure (some [x, y]) := by rfl)
    (hs : swapsWithSole [.Tuple [.Name x px, .Name y py] kt pt] (.Tuple [a, b] k2 pt2) pos.line X.env = pure false := by rfl) :
    PFS X W (.Assign [.Tuple [.Name x px, .Name y py] kt pt] (.Tuple [a, b] k2 pt2) pos) (sPar i j fr) := PS_imp (ps_par hc hN hi hj hij hx hy ha hw hs) fun D σ H q => by
  obtain ⟨ρ, st, w, sim, er, gd⟩ := q
  refine ⟨ρ, st, w, sim, er, Good.imp (fun v H1 q => ?_) (good_st er gd)⟩
  obtain ⟨st1, w1, d, sim1, s1, r1, er1, gd1⟩ := q
  split at gd1
  · rename_i d1 d2
    obtain ⟨v1, v2, rfl, q1, q2⟩ := rds2 r1
    exact ⟨v1, v2, rfl, gd1 w1 H1 _ .refl sim1 ((er1.set q1 i).set q2 j)⟩
  · exact gd1.elim
theorem pfs_par3 (hc : X.calm = true) (hN : X.N.Nodup) (ha : PFA X W [a, b, c] fr) (hij : i ≠ j) (hik : i ≠ k) (hjk : j ≠ k) (hi : X.N[i]? = some x := by rfl) (hj : X.N[j]? = some y := by rfl) (hk : X.N[k]? = some z := by rfl)
    (hx : X.env.scope.names.lookup x = some .local := by rfl) (hy : X.env.scope.names.lookup y = some .local := by rfl) (hz : X.env.scope.names.lookup z = some .local := by rfl)
    (hw : swappedStores [.Tuple [.Name x px, .Name y py, .Name z pz] kt pt] (.Tuple [a, b, c] k2 pt2) X.env = pure (some [x, y, z]) := by rfl)
    (hs : swapsWithSole [.Tuple [.Name x px, .Name y py, .Name z pz] kt pt] (.Tuple [a, b, c] k2 pt2) pos.line X.env = pure false := by rfl) :
    PFS X W (.Assign [.Tuple [.Name x px, .Name y py, .Name z pz] kt pt] (.Tuple [a, b, c] k2 pt2) pos) (sPar3 i j k fr) := PS_imp (ps_par3 hc hN hi hj hk hij hik hjk hx hy hz ha hw hs) fun D σ H q => by
  obtain ⟨ρ, st, w, sim, er, gd⟩ := q
  refine ⟨ρ, st, w, sim, er, Good.imp (fun v H1 q => ?_) (good_st er gd)⟩
  obtain ⟨st1, w1, d, sim1, s1, r1, er1, gd1⟩ := q
  split at gd1
  · rename_i d1 d2 d3
    cases r1 with | cons q1 t => cases t with | cons q2 t => cases t with | cons q3 t =>
    cases t
    exact ⟨_, _, _, rfl, gd1 w1 H1 _ .refl sim1 (((er1.set q1 i).set q2 j).set q3 k)⟩
  · exact gd1.elim
/-- constants of the module -/
theorem pf_gint {x : Str} {n : Int} (h : ∃ t, X.mg x = some (.int n t)) (hg : Gl X x := by rfl) (hd : (x == ("__debug__" : Str)) = false := by decide) : PF X W (.Name x pos) (fC (.int n)) := by
  obtain ⟨t, h⟩ := h
  exact pf_glob (v := .int n) hg h ⟨t, rfl⟩ (fun _ _ => .int n) hd
theorem pf_gstr {x s : Str} (h : ∃ t, X.mg x = some (.str s t)) (hg : Gl X x := by rfl) (hd : (x == ("__debug__" : Str)) = false := by decide) : PF X W (.Name x pos) (fC (.str s)) := by
  obtain ⟨t, h⟩ := h
  exact pf_glob (v := .str s) hg h ⟨t, rfl⟩ (fun _ _ => .str s) hd
/-- a function's call in a comprehension: no error -/
theorem takesW0 : Takes X W0 := fun _ _ ⟨_, _, _, _, _, _, _, _, _, _, _, _, _, _, _, _, w⟩ => w.elim
end
section
variable {P : Program} {w : World} {K : PySem.W.Frag} {mg : Str → Option Value} {base : Heap} {x qual : Str} {params : Arguments} {body : List Stmt} {scope : Scope} {f : Addr} {fd : FuncData} {N ps : List Str} {k : Nat} {m : FS}
theorem fn_okD (F : FunD K x qual params body scope [] [] f fd) (S : FnScope N ps scope)
    (hbody : ∀ (cdv : Value) (A : Around) (outer : List Env) (s : Shared) (H : Hp) (E : XK), Room k (A.deeper (envOfC qual scope s.heap.objs.size f cdv)) →
      PFSs (cxOf (L2.CX P w) P w K mg base N qual scope f cdv A outer s H E) (fun cv dd _ H' => E cv dd H') body m) : FnOk P w K mg base (L2.CX P w) (k + 1) f fd ps (spD K mg ps.length (runD N.length m)) :=
  F.ok S (fun vs H Q E h => h.1) fun cdv A outer s H vs Q E hr h => ⟨_, hbody cdv A outer s H E hr, body_ok h⟩
end

theorem Room.hu64 {k : Nat} {A : Around} (r : Room k A) : A.units + 64 < cLine := by have := r.un; omega
theorem Room.hu65 {k : Nat} {A : Around} (r : Room k A) : A.units + 65 < cLine := by have := r.un; omega
theorem Room.hu1 {k : Nat} {A : Around} (r : Room k A) : A.units + 1 < cLine := by have := r.un; omega
section
variable {X : Cx} {W : WX} {a b : Expr} {fa fb : FE} {pos : Pos}
/-- << of a number of at most 1000000 bits -/
abbrev gShlW : G2 := gI (fun i j => decide (0 ≤ j) && decide (j ≤ 1000000) && decide (i.natAbs < 2 ^ 4000)) fun i j => .int (i * 2 ^ j.toNat)
theorem op_shlA : OpR X (binaryOp .LShift) (rI CShl fun i j => .int (i * 2 ^ j.toNat)) := op_shlW
theorem im_shlW : Im2 X (rI CShl fun i j => .int (i * 2 ^ j.toNat)) gShlW := im_I (fun i j h => by
  simp only [Bool.and_eq_true, decide_eq_true_eq] at h
  obtain ⟨⟨h1, h2⟩, h3⟩ := h
  have q := shl_ok (i := i) (j := j.toNat) (n := 4000) h3 (by omega)
  rw [Int.toNat_of_nonneg h1] at q
  exact q) fun _ _ _ _ => .int _
/-- xs + ys, a new list -/
def fCat (fa fb : FE) : FA := fun ρ st => (fa ρ st).bind fun x st1 => (fb ρ st1).bind fun y st2 => match lstOf x st2, lstOf y st2 with
  | some xs, some ys => if xs.length + ys.length ≤ 100000 then .ok (xs ++ ys) st2 else .stuck
  | _, _ => .stuck
theorem pfl_cat (ha : PF X W a fa) (hb : PF X W b fb) : PFL X W (.BinOp a .Add b pos) (fCat fa fb) := PE_imp (pe_op op_cat ha hb) fun σ H Q h => by
  obtain ⟨ρ, st, w, sim, er, gd⟩ := h
  refine ⟨ρ, st, w, sim, er, Good.imp (fun x H1 q => ?_) (Good.bind gd)⟩
  obtain ⟨st1, w1, d1, sim1, s1, r1, gd1⟩ := q
  refine ⟨ρ, st1, w1, sim1, er.mono s1, Good.imp (fun y H2 q => ?_) (Good.bind gd1)⟩
  obtain ⟨st2, w2, d2, sim2, s2, r2, gd2⟩ := q
  split at gd2
  · rename_i xs ys ex ey
    split at gd2
    · rename_i hl
      obtain ⟨a, vs, rfl, q1, t1⟩ := lst_rd sim2 (r1.mono s2) ex
      obtain ⟨b, us, rfl, q2, t2⟩ := lst_rd sim2 r2 ey
      have hz : vs.length + us.length ≤ sizeLine := by rw [← q1.length, ← q2.length]; exact le_line hl
      exact ⟨a, b, vs, us, rfl, rfl, t1, t2, hz, fun p hp => gd2 w2 H2 _ .refl sim2 (q1.append q2) p hp (by rw [List.length_append]; exact hz)⟩
    · exact gd2.elim
  · exact gd2.elim
end
section
variable {P : Program} {w : World} {K : PySem.W.Frag} {mg : Str → Option Value} {base : Heap} {N : List Str} {qual : Str} {scope : Scope} {f : Addr} {cd : Value} {A : Around} {outer : List Env} {s : Shared} {H : Hp} {E : XK}
theorem tk_of : Takes (cxOf (L2.CX P w) P w K mg base N qual scope f cd A outer s H E) (fun cv dd _ H' => E cv dd H') := takes_of rfl rfl rfl rfl
theorem po_of : PassesOwn (model P w) (cxOf (L2.CX P w) P w K mg base N qual scope f cd A outer s H E).A (cxOf (L2.CX P w) P w K mg base N qual scope f cd A outer s H E).env (cxOf (L2.CX P w) P w K mg base N qual scope f cd A outer s H E).xe := passes_of rfl
end
end FB
set_option Elab.async false
set_option linter.all false
set_option maxRecDepth 100000
set_option maxHeartbeats 4000000
/-! FBH: the law's end. -/
namespace FB
open PySem PySem.Spec PyProof.Rows L2 RZ
theorem walk_ofW {l : PySem.W.OpenLaw} {n k : Nat} {q : Program} {loose : List Str} {XP : (Str → Option Value) → Heap → Prop} {YP : World → Heap → Prop} {d : DefRec} {x : Str}
    (hn : l.most = some n) (hn2 : n ≤ sizeLine) (hdf : d.params.defaults = []) (hr : Room k callerA)
    (F : ∀ (w : World) (mg : Str → Option Value) (fa : Addr) (h : Heap), YP w h → h.Ns mainGlobals mg → mg d.name = some (.ref fa) →
      ∃ (K : PySem.W.Frag) (fd : FuncData) (sp : Sp), K.In h ∧ (∀ (s : Shared) (u : Value), BindsTo s fd ⟨[u], []⟩ [(x, u)]) ∧
        (∀ (H : Hp) (a : Addr) (ns : List Int), ns.length ≤ n → Only H → SqL K H a (ns.map V.int) → sp [.ref a] H (fun v _ => v = .bl true) fun _ _ _ => False) ∧
        ∀ base : Heap, K.In base → base.Ns mainGlobals mg → FnOk l.prog w K mg base (L2.CX l.prog w) k fa fd [x] sp) :
    PySem.W.WalkO q loose XP YP l.row.toRowW d [] (fun f vs => PySem.call f vs) := by
  refine Att.attach_call hn hdf fun w s₀ s₁ mg mb fa o pm cd doc a vs ns G Y ho hd hcd hmg hobj hints hlen hg => ?_
  obtain ⟨K, fd, sp, KX, hb, hsp, hF⟩ := F w mg fa _ Y G.T.g hmg
  exact law_call KX G.T.g G.T.b G.T.builtins G.T.nolimit hg hobj hints (Nat.le_trans hlen hn2) hr hF hb (fun H hO hS => hsp H a ns hlen hO hS) fun H e s' c => by
    obtain ⟨_, _, _, _, _, _, _, _, _, _, _, _, q⟩ := c
    exact q.elim
theorem end_sp {K : PySem.W.Frag} {mg : Str → Option Value} {F : FD} {H : Hp} {a : Addr} {ns : List Int} {st' : So} (hO : Only H) (hS : SqL K H a (ns.map V.int)) (h : F [.frz ns] [] = .ok (.p (.bool true)) st') :
    spD K mg 1 F [.ref a] H (fun v _ => v = .bl true) fun _ _ _ => False := by
  refine ⟨rfl, [.frz ns], [], ⟨fun _ => 0, fun b => ∃ o xs, H b = some (.frz o (.lst xs)), fun _ => False⟩, ⟨fun i c e => by simp at e, fun i j hi => ?_, fun b ⟨o, xs, e⟩ => ⟨_, e⟩, fun b hb => hb.elim⟩, .cons (.frz ?_) .nil, ?_⟩
  · obtain ⟨c, e, _⟩ := hi
    simp at e
  · rcases hS with (hS | ⟨o, hS⟩) | hS
    · rcases hO a with e | ⟨o, xs, e⟩
      · rw [hS] at e; cases e
      · rw [hS] at e; cases e
    · exact .inl ⟨⟨o, _, hS⟩, o, hS⟩
    · exact .inr hS
  · rw [h]
    exact fun w' H' v s sim r => rd_bl r
end FB
set_option Elab.async false
set_option linter.all false
set_option maxRecDepth 100000
set_option maxHeartbeats 4000000
/-! FBX: exceptions as values: try .. except X as e, isinstance of them; calls without arguments; {} as data. -/
namespace FB
open PySem PySem.Spec PyProof.Rows L2 RZ
theorem excT_ok {P : Program} {w : World} {H : Hp} {h : Heap} {a C : Addr} {oe : Obj} {vs : Array Value} (e : h.get? a = some oe) (hc : oe.cls = .ref C) (hd : oe.dict = none) (hv : oe.data = .fields vs) : ObjOk P w H h a (excT a C) :=
  ⟨⟨oe, e, hc, hd, vs, hv⟩, ⟨oe, e⟩, fun _ _ ⟨o, e1, r⟩ k => ⟨o, k o e1, r⟩⟩
section
variable {X : Cx} {pins : List (Addr × Obj)} {σ : L2.St} {H : Hp} {sI s' : Shared} {B : Heap} {a : Addr} {ob : HO}
/-- the exception's object is tracked from here on -/
theorem landedX (I : Inv X pins σ H sI) (nb : ∀ b o, sI.heap.get? b = some o → b ∉ frs X.stack → B.get? b = some o) (st : B.StaysIn s'.heap) (up : sI.heap.UpToSlots s'.heap) (os : s'.os = sI.os) (ag : AllBare s'.gens)
    (na : H a = none) (nI : sI.heap.get? a = none) (new : ObjOk X.prog X.w (upd H a ob) s'.heap a ob) : Inv X pins σ (upd H a ob) s' := by
  have nf : ∀ b ∈ frs X.stack, ∀ o, sI.heap.get? b = some o → ∃ sl, s'.heap.get? b = some { o with slots := sl } := fun b hb o e => by
    obtain ⟨_, o', e', hd⟩ := I.stack.mem hb
    rw [e] at e'; cases e'
    exact up b o e hd
  have ne : ∀ b o, sI.heap.get? b = some o → b ≠ a := fun b o e z => by rw [z, nI] at e; cases e
  have hk : HOk X.prog X.w (upd H a ob) s'.heap := fun b u e => by
    by_cases hb : b = a
    · subst hb
      rw [upd_same] at e
      cases e
      exact new
    · rw [upd_ne hb] at e
      exact ((I.inGround nb).kept st b u e).stay (fun _ _ _ q => q) (fun c q => by rw [upd_ne (ne_of_none q na)]; exact q) fun c xs q => by rw [upd_ne (ne_of_none q na)]; exact q
  have J := I.call (ch := []) (h' := s'.heap) (g' := s'.gens) (t' := s'.toks) (d' := s'.drawn) (H' := upd H a ob)
    ⟨fun b o e _ hb _ => st b o (nb b o e hb), fun b o e _ hb _ => nf b hb o e, fun b o e n _ => by rw [upd_ne (ne b o e)]; exact n, fun b o e _ => by
      by_cases hb : b ∈ frs X.stack
      · obtain ⟨sl, q⟩ := nf b hb o e
        exact ⟨_, q⟩
      · exact ⟨o, st b o (nb b o e hb)⟩, fun b xs e => by rw [upd_ne (ne_of_none e na)]; exact e, fun b o u e => by rw [upd_ne (ne_of_none e na)]; exact e, fun b ps e => ⟨#[], by rw [upd_ne (ne_of_none e na), e]; simp⟩⟩
    hk ag (fun _ z => nomatch z)
  obtain ⟨a1, a2, a3, a4, a5⟩ := s'
  have e5 : a5 = sI.os := os
  subst e5
  exact J
theorem suiteX {s : Shared} (I : Inv X pins σ H s) (a : Addr) : Inv (X.suite a (X.pn ++ pins)) [] σ H s :=
  ⟨I.ok.suite _ _, I.os, I.bare, I.base, I.loc, I.cell, I.free, I.freeC, fun p hp => I.pin p (by rw [List.append_nil] at hp; exact hp), I.hok, I.len⟩
theorem unsuiteX {s : Shared} {pn' : List (Addr × Obj)} (I : Inv (X.suite a (X.pn ++ pins)) pn' σ H s) (ok : X.Ok) : Inv X pins σ H s :=
  ⟨ok, I.os, I.bare, I.base, I.loc, I.cell, I.free, I.freeC, fun p hp => I.pin p (List.mem_append_left _ hp), I.hok, I.len⟩
end
/-- what the clause wishes of an exception of the body -/
def wAsX (K : PySem.W.Frag) (cv : Value) (i : Nat) (ts : TS) (Wout : WX) (D : Ends) : WX := fun cls d σ H =>
  ∃ b, PySem.W.exmOne K cls cv = some b ∧ (b = true → ∃ C, cls = .ref C ∧ d = none ∧ ∀ a, H a = none → ts { nx := fun σ' H' => D.nx (σ'.set i none) H', rt := D.rt, bk := fun σ' H' => D.bk (σ'.set i none) H', ct := fun σ' H' => D.ct (σ'.set i none) H' } (σ.set i (some (.ref a))) (upd H a (excT a C))) ∧
    (b = false → Wout cls d σ H)
section
variable {X : Cx} {x n : Str} {cv : Value} {i : Nat} {body suite : List Stmt} {b₀ : Stmt} {np pos pos' : Pos} {tb : WX → TS} {ts : TS} {Wout : WX}
theorem ps_try_asX (hs : X.stack = X.env :: X.outer) (hf : X.env.frame = some X.env.locals) (hN : X.N.Nodup) (hi : X.N[i]? = some n) (hln : X.env.kindOf n = some .local) (hc : Names X x cv) (tk : Takes X Wout)
    (hb : ∀ (W : WX) (pn : List (Addr × Obj)) (xe : Value → Shared → Prop), Takes (X.tr pn xe) W → PassesOwn (model X.prog X.w) X.A X.env xe → PSs (X.tr pn xe) body (tb W))
    (hsu : ∀ (a : Addr) (pn : List (Addr × Obj)), PSs (X.suite a pn) (b₀ :: suite) ts) :
    PS X (.Try body [.ExceptHandler (some (.Name x np)) (some n) (b₀ :: suite) pos'] [] [] pos) (fun D σ H => tb (wAsX X.K cv i ts Wout D) D σ H) := by
  refine ⟨fun pins s σ H D I h => ?_⟩
  have ok := I.ok
  have hfr : X.A.frames = some (X.env :: X.outer) := by rw [ok.frames, hs]
  have hloc : Loc X.env.scope n := .inl hln
  refine wpAny_Try_except ?_
  refine wpAny_mono ((hb (wAsX X.K cv i ts Wout D) (X.pn ++ pins) (fun e s₁ => wpAny (model X.prog X.w) X.A (noteFrame e X.env) (fun _ s₂ => wpAny (model X.prog X.w) X.A (setFlight e none) (fun _ s₃ =>
    wpAny (model X.prog X.w) X.A (handleBy e X.env [.ExceptHandler (some (.Name x np)) (some n) (b₀ :: suite) pos']) (SP X pins D) X.xe s₃) X.xe s₂) X.xe s₁) (fun u s' xx => ?_) PassesOwn.looking).run [] s σ H D (I.toTry _) h) (fun f s1 hsp => ?_) (fun e s1 he => he)
  · obtain ⟨a, B, sI, pins', σ', H', cls, d, rfl, J', nb, up, sky, na, os, ag, b, hb1, hyes, hno⟩ := xx
    have J : Inv X pins σ' H' sI := J'.ofTry ok
    have sky' : Sky B (X.env :: X.outer) a (Zc cls d) X.env.locals s'.heap := by rw [← hs]; exact sky
    show wpAny (model X.prog X.w) X.A (noteFrame (.ref a) X.env) _ _ _
    refine Sky.land Zc.steady hfr hf sky' fun h3 fl3 up3 => ?_
    have J3 : Inv X pins σ' H' { s' with heap := h3 } := J.landed nb fl3.1 (up.trans up3) os ag
    obtain ⟨oe3, vs3, he3, hz3, hd3⟩ := fl3.there
    have notFr : ∀ {h : Heap} {o : Obj} {vs : Array Value}, h.FunFrames B (X.env :: X.outer) → h.get? a = some o → o.data = .fields vs → a ∉ frs (X.env :: X.outer) := fun {h o vs} ff e dd hm => by
      obtain ⟨_, o', e', hnf⟩ := ff.mem hm
      rw [e] at e'; cases e'
      exact hnf _ dd
    have nfr := notFr fl3.2.2.1 he3 hd3
    have nI : sI.heap.get? a = none := by
      cases q : sI.heap.get? a with
      | none => rfl
      | some o =>
        have z := nb a o q (by rw [hs]; exact nfr)
        rw [fl3.2.1] at z
        cases z
    have S3 := suiteX J3 a
    refine wpAny_handleBy_cons (codeAny_handlers_test ?_) (by intro q; cases q)
    have LT : PySem.W.Looks (model X.prog X.w) h3 (typeOf (.ref a)) cls := fun A Q E s k q => wpAny_typeOf_ref (k _ _ he3) (by rw [hz3.1]; exact q)
    have LM := PySem.W.exm_one (M := model X.prog X.w) (J3.kIn) LT hb1
    have test : ∀ {Q : Value → Shared → Prop} {E : Value → Shared → Prop}, Q cv { s' with heap := h3 } → wpAny (model X.prog X.w) (X.A.mark (some (.ref a))) (eval (.Name x np) X.env) Q E { s' with heap := h3 } := fun {Q E} q => by
      obtain ⟨hg, hdbg, hm | ⟨hm, hv, hnn⟩⟩ := hc
      · exact ld_glob (X := X.suite a (X.pn ++ pins)) S3 hg hm q hdbg
      · exact ld_blt (X := X.suite a (X.pn ++ pins)) S3 hg hm hv q hnn hdbg
    refine test (LM.here ?_)
    cases b with
    | true =>
      refine codeAny_handlers_suite_as ?_
      refine HandSPX.lands_againZ fl3 fun h4 fl4 up4 => ?_
      obtain ⟨C, rfl, rfl, hsuite⟩ := hyes rfl
      obtain ⟨oe4, vs4, he4, hz4, hd4⟩ := fl4.there
      have J4 : Inv X pins σ' (upd H' a (excT a C)) { s' with heap := h4 } := landedX (s' := { s' with heap := h4 }) J nb fl4.1 ((up.trans up3).trans up4) os ag na nI (excT_ok he4 hz4.1 hz4.2 hd4)
      have S4 := suiteX J4 a
      refine store_ok (X := X.suite a (X.pn ++ pins)) (v := .ref a) S4 hN hi hloc rfl (fun s5 S5 => ?_) (.inr hln)
      refine wpAny_mono ((hsu a (X.pn ++ pins)).run [] s5 _ (upd H' a (excT a C)) _ S5 (hsuite a na)) (fun f s6 hsp => ?_) (fun _ _ z => False.elim z)
      have end_ : ∀ {σ6 : L2.St} {H6 : Hp} {Q : Shared → Prop}, Inv (X.suite a (X.pn ++ pins)) [] σ6 H6 s6 → (∀ s7, Inv X pins (σ6.set i none) H6 s7 → Q s7) →
          wpAny (model X.prog X.w) X.A (do bindName X.env n .none; unbindBehindTheSuite X.env n pos') (fun _ s7 => Q s7) X.xe s6 := fun {σ6 H6 Q} S6 hq => gone_ok (unsuiteX S6 ok) hN hi hln hq
      cases f with
      | next =>
        obtain ⟨σ6, H6, S6, q6⟩ := hsp
        exact end_ S6 fun s7 J7 => ⟨_, _, J7, q6⟩
      | brk =>
        obtain ⟨σ6, H6, S6, q6⟩ := hsp
        exact end_ S6 fun s7 J7 => ⟨_, _, J7, q6⟩
      | cont =>
        obtain ⟨σ6, H6, S6, q6⟩ := hsp
        exact end_ S6 fun s7 J7 => ⟨_, _, J7, q6⟩
      | ret u =>
        obtain ⟨v6, σ6, H6, S6, r6, q6⟩ := hsp
        exact end_ S6 fun s7 J7 => ⟨_, _, _, J7, r6, q6⟩
    | false =>
      show wpAny _ X.A (handleBy (.ref a) X.env []) _ _ _
      refine wpAny_handleBy_nil ?_
      obtain ⟨k1, k2, k3, oe, vs, T, oT, ts', he, hz, hd, h1, hr⟩ := id fl3
      unfold PySem.passOn
      refine wpAny_bind (wpAny_field he hd h1 ?_)
      rw [if_neg (show ¬ ((Value.ref T == Value.none) = true) from by simp)]
      have fin : wpAny (model X.prog X.w) X.A (setFlight (.ref a) X.env.frame) (fun _ s4 => wpAny (model X.prog X.w) X.A (throw (.ref a) : Sem Flow) (SP X pins D) X.xe s4) X.xe { s' with heap := h3 } := by
        rw [hf]
        refine HandSPX.setFlight_upZ fl3 fun h4 hh4 up4 => wpAny_throw (tk _ _ ?_)
        exact ⟨a, B, sI, pins, σ', H', cls, d, rfl, J, nb, (up.trans up3).trans up4, .inr (.inr (by rw [hs]; exact hh4)), na, os, ag, hno rfl⟩
      first
        | exact wpAny_bind (wpAny_pure (wpAny_bind fin))
        | exact wpAny_bind fin
  · cases f with
    | next =>
      obtain ⟨σ', H', J', q⟩ := hsp
      exact wpAny_execs_nil ⟨σ', H', J'.ofTry ok, q⟩
    | brk =>
      obtain ⟨σ', H', J', q⟩ := hsp
      exact ⟨σ', H', J'.ofTry ok, q⟩
    | cont =>
      obtain ⟨σ', H', J', q⟩ := hsp
      exact ⟨σ', H', J'.ofTry ok, q⟩
    | ret u =>
      obtain ⟨v, σ', H', J', r, q⟩ := hsp
      exact ⟨v, σ', H', J'.ofTry ok, r, q⟩
end
/-! ### try .. except X as e, in the mirror -/
def unsetE (i : Nat) : Ss → Ss
  | .nx ρ st => .nx (ρ.set i none) st
  | .ret d st => .ret d st
  | .brk ρ st => .brk (ρ.set i none) st
  | .cnt ρ st => .cnt (ρ.set i none) st
  | .exc _ _ _ _ => .stuck
  | .stuck => .stuck
def sTryAs (i : Nat) (tst : Str → Option Bool) (body suite : FS) : FS := fun ρ st => match body ρ st with
  | .exc c fs ρ' st' => match fs, tst c with
    | [], some true => unsetE i (suite (ρ'.set i (some (.exc c []))) st')
    | fs, some false => .exc c fs ρ' st'
    | _, _ => .stuck
  | r => r
section
variable {X : Cx} {W : WX} {x n : Str} {cv : Value} {i : Nat} {body suite : List Stmt} {b₀ : Stmt} {np pos pos' : Pos} {gb gs : FS} {tst : Str → Option Bool}
theorem pfs_tryAs (hs : X.stack = X.env :: X.outer) (hf : X.env.frame = some X.env.locals) (hN : X.N.Nodup) (hi : X.N[i]? = some n) (hln : X.env.kindOf n = some .local) (hc : Names X x cv) (tk : Takes X W)
    (ht : ∀ (c : Str) (C : Addr) (b : Bool), X.mg c = some (.ref C) → tst c = some b → PySem.W.exmOne X.K (.ref C) cv = some b)
    (hb : ∀ (W : WX) (pn : List (Addr × Obj)) (xe : Value → Shared → Prop), Takes (X.tr pn xe) W → PassesOwn (model X.prog X.w) X.A X.env xe → PFSs (X.tr pn xe) W body gb)
    (hsu : ∀ (a : Addr) (pn : List (Addr × Obj)), PFSs (X.suite a pn) W0 (b₀ :: suite) gs) :
    PFS X W (.Try body [.ExceptHandler (some (.Name x np)) (some n) (b₀ :: suite) pos'] [] [] pos) (sTryAs i tst gb gs) :=
  PS_imp (ps_try_asX (tb := fun W => TFS X.K X.mg W gb) (ts := TFS X.K X.mg W0 gs) hs hf hN hi hln hc tk hb hsu) fun D σ H q => by
    obtain ⟨ρ, st, w, sim, er, gd⟩ := q
    refine ⟨ρ, st, w, sim, er, ?_⟩
    unfold sTryAs at gd
    cases e : gb ρ st with
    | nx ρ' st' => rw [e] at gd; exact gd
    | ret d st' => rw [e] at gd; exact gd
    | brk ρ' st' => rw [e] at gd; exact gd
    | cnt ρ' st' => rw [e] at gd; exact gd
    | stuck => rw [e] at gd; exact gd
    | exc c fs ρ' st' =>
      rw [e] at gd
      intro w' H' σ' cv2 dd s1 sim1 er1 ex
      obtain ⟨C, hm, rfl, hx⟩ := id ex
      cases et : tst c with
      | none =>
        exfalso
        cases fs with
        | nil => simp only [et] at gd; exact gd
        | cons p ps => simp only [et] at gd; exact gd
      | some b =>
        cases b with
        | false =>
          have gd1 : GoodS X.K X.mg W st.length w H D (.exc c fs ρ' st') := by
            cases fs with
            | nil => simp only [et] at gd; exact gd
            | cons p ps => simp only [et] at gd; exact gd
          exact ⟨false, ht c C false hm et, (fun z => nomatch z), fun _ => gd1 w' H' σ' _ dd s1 sim1 er1 ex⟩
        | true =>
          cases fs with
          | cons p ps =>
            exfalso
            simp only [et] at gd
            exact gd
          | nil =>
            have gd1 : GoodS X.K X.mg W st.length w H D (unsetE i (gs (ρ'.set i (some (.exc c []))) st')) := by
              simp only [et] at gd
              exact gd
            refine ⟨true, ht c C true hm et, fun _ => ⟨C, rfl, ?_, fun a ha => ?_⟩, fun z => nomatch z⟩
            · rcases hx with ⟨_, h⟩ | ⟨_, _, h, _⟩
              · exact h
              · exact absurd rfl h
            · obtain ⟨s2, sim2⟩ := sim1.newP (o := excT a C) ha
              have r : RD X.K X.mg st'.length (w'.imm a) (upd H' a (excT a C)) (.exc c []) (.ref a) := .exc hm (.inl rfl) upd_same
              refine ⟨_, st', w'.imm a, sim2, (er1.mono s2).set r i, ?_⟩
              have gd2 := gd1.later (s1.trans s2)
              cases e2 : gs (ρ'.set i (some (.exc c []))) st' with
              | nx ρ2 st2 =>
                rw [e2] at gd2
                exact fun w3 H3 σ3 s3 sim3 er3 => gd2 w3 H3 _ s3 sim3 (er3.setN i)
              | ret d st2 =>
                rw [e2] at gd2
                exact gd2
              | brk ρ2 st2 =>
                rw [e2] at gd2
                exact fun w3 H3 σ3 s3 sim3 er3 => gd2 w3 H3 _ s3 sim3 (er3.setN i)
              | cnt ρ2 st2 =>
                rw [e2] at gd2
                exact fun w3 H3 σ3 s3 sim3 er3 => gd2 w3 H3 _ s3 sim3 (er3.setN i)
              | exc c2 fs2 ρ2 st2 =>
                rw [e2] at gd2
                exact gd2.elim
              | stuck =>
                rw [e2] at gd2
                exact gd2.elim
end
/-! ### isinstance of an exception -/
def fIsX (tst : Str → Option Bool) (fa : FE) : FE := fun ρ st => (fa ρ st).bind fun d st1 => match d with
  | .exc c [] => match tst c with
    | some b => .ok (.p (.bool b)) st1
    | none => .stuck
  | _ => .stuck
def rIsX (K : PySem.W.Frag) : List V → Hp → VK → Prop := fun xs H Q => ∃ (a D : Addr) (c : V) (cv : Value) (b : Bool), xs = [.ref a, c] ∧ H a = some (excT a D) ∧ ExcC K D ∧ (∀ u, RelV c u → u = cv) ∧ PySem.W.kitOne K (.ref D) cv = some b ∧ Q (.bl b) H
section
variable {X : Cx} {W : WX}
theorem call_isX : CallR X (.builtin "isinstance") (rIsX X.K) := by
  intro pins s σ H xs us Q I r h
  obtain ⟨a, D, c, cv, b, rfl, ha, C, hcv, e, q⟩ := h
  cases r with
  | cons rx rr =>
    cases rr with
    | cons rt rr =>
      cases rr
      cases rx
      have ec := hcv _ rt
      subst ec
      obtain ⟨⟨oe, hget, h1, h2, vs, hv⟩, _⟩ := (show ObjOk X.prog X.w H s.heap a (excT a D) from I.hok a _ ha)
      have J : PySem.W.InstAt s.heap a oe D none := by
        obtain ⟨oc, od, oda, osl⟩ := oe
        dsimp only at h1 h2 hv
        subst h1 h2 hv
        exact ⟨hget, rfl, rfl, trivial⟩
      exact PySem.W.kia_one (PySem.W.handS_kitx_exc C.hg C.hk C.hs C.hd C.ha C.hn C.ht C.hm) I.kIn J e (fun z => nomatch z) fun tk => ⟨.bl b, H, I.kept (t' := tk) fun _ _ z => z, rfl, q⟩
variable {x : Str} {e : Expr} {fa : FE} {pt p pos : Pos} {tst : Str → Option Bool}
/-- a class of the program -/
theorem pf_isX {Cx' : Addr} (hm : X.mg "isinstance" = none) (hx : X.mg x = some (.ref Cx')) (ht : ∀ (c : Str) (C : Addr) (b : Bool), X.mg c = some (.ref C) → tst c = some b → ExcC X.K C ∧ PySem.W.kitOne X.K (.ref C) (.ref Cx') = some b) (h : PF X W e fa)
    (hg : Gl X "isinstance" := by rfl) (hgx : Gl X x := by rfl) (hdx : (x == ("__debug__" : Str)) = false := by decide)
    (he : starEach [e, .Name x pt] X.env = (false, eval e X.env) :: starEach [.Name x pt] X.env := by rfl) (he2 : starEach [.Name x pt] X.env = (false, eval (.Name x pt) X.env) :: starEach [] X.env := by rfl) (hpl : (backTo pos (starEach [.Name x pt] X.env)).any (·.1) = false := by rfl) :
    PF X W (.Call (.Name "isinstance" p) [e, .Name x pt] [] pos) (fIsX tst fa) :=
  PE_imp (pe_callB call_isX hg hm (by decide +kernel) (pa_cons h (pa_cons (pe_glob (v := .ref Cx') hgx hx rfl hdx) pa_nil he2) he) (by decide) (by decide) he hpl) fun σ H Q q => by
    obtain ⟨ρ, st, w, sim, er, gd⟩ := q
    refine ⟨ρ, st, w, sim, er, Good.imp (fun v H1 q => ?_) (Good.bind gd)⟩
    obtain ⟨st1, w1, d, sim1, s1, r1, gd1⟩ := q
    split at gd1
    · rename_i c
      split at gd1
      · rename_i b e2
        cases r1 with
        | exc m i ea =>
          obtain ⟨k1, k2⟩ := ht _ _ b m e2
          exact ⟨_, _, .ref Cx', .ref Cx', b, rfl, ea, k1, fun u r => r, k2, gd1 w1 H1 _ .refl sim1 (.p (.bl b))⟩
      · exact gd1.elim
    · exact gd1.elim
/-- a built-in class -/
theorem pf_isXB {T : String} (hm : X.mg "isinstance" = none) (hx : X.mg x = none) (hv : bootBuiltins x = some (.type T)) (ht : ∀ (c : Str) (C : Addr) (b : Bool), X.mg c = some (.ref C) → tst c = some b → ExcC X.K C ∧ PySem.W.kitOne X.K (.ref C) (.type T) = some b) (h : PF X W e fa)
    (hg : Gl X "isinstance" := by rfl) (hgx : Gl X x := by rfl) (hnx : x ≠ "__name__" := by decide) (hdx : (x == ("__debug__" : Str)) = false := by decide)
    (he : starEach [e, .Name x pt] X.env = (false, eval e X.env) :: starEach [.Name x pt] X.env := by rfl) (he2 : starEach [.Name x pt] X.env = (false, eval (.Name x pt) X.env) :: starEach [] X.env := by rfl) (hpl : (backTo pos (starEach [.Name x pt] X.env)).any (·.1) = false := by rfl) :
    PF X W (.Call (.Name "isinstance" p) [e, .Name x pt] [] pos) (fIsX tst fa) :=
  PE_imp (pe_callB call_isX hg hm (by decide +kernel) (pa_cons h (pa_cons (pe_bltn (v := .ty T) hgx hx hv rfl hnx hdx) pa_nil he2) he) (by decide) (by decide) he hpl) fun σ H Q q => by
    obtain ⟨ρ, st, w, sim, er, gd⟩ := q
    refine ⟨ρ, st, w, sim, er, Good.imp (fun v H1 q => ?_) (Good.bind gd)⟩
    obtain ⟨st1, w1, d, sim1, s1, r1, gd1⟩ := q
    split at gd1
    · rename_i c
      split at gd1
      · rename_i b e2
        cases r1 with
        | exc m i ea =>
          obtain ⟨k1, k2⟩ := ht _ _ b m e2
          exact ⟨_, _, .ty T, .type T, b, rfl, ea, k1, fun u r => r, k2, gd1 w1 H1 _ .refl sim1 (.p (.bl b))⟩
      · exact gd1.elim
    · exact gd1.elim
/-! ### calls without arguments, {} -/
theorem pe_callS0 {CX : CXT} {k : Nat} {f : Addr} {fd : FuncData} {ps : List Str} {sp : Sp} {E : L2.St → XK} (F : FnOk X.prog X.w X.K X.mg X.base CX k f fd ps sp) (hr : Room k X.A) (hg : Gl X x) (hm : X.mg x = some (.ref f)) (hk : PySem.W.keepIn X.K (.ref f) = true) (hb : Binds X.K fd ps []) (hx : ∀ σ, PassesAt CX X σ (E σ))
    (hdb : (x == ("__debug__" : Str)) = false := by decide) : PE X (.Call (.Name x p) [] [] pos) (tCallS sp E tNil) := by
  refine ⟨fun pins s σ H Q I h => ?_⟩
  refine wpAny_Call_Name_kw (ld_glob I hg hm ?_ hdb)
  exact PySem.W.callWith_K0 I.kIn hk (run_fnS (us := []) F hr hb (hx σ) I .nil h)
theorem pf_call0 {k : Nat} {f : Addr} {fd : FuncData} {ps : List Str} {F : FD} (G : FnOk X.prog X.w X.K X.mg X.base (L2.CX X.prog X.w) k f fd ps (spD X.K X.mg 0 F)) (hr : Room k X.A) (hg : Gl X x) (hm : X.mg x = some (.ref f))
    (hk : PySem.W.keepIn X.K (.ref f) = true) (hb : Binds X.K fd ps []) (tk : Takes X W) (hdb : (x == ("__debug__" : Str)) = false := by decide) :
    PF X W (.Call (.Name x p) [] [] pos) (fCall F fNil) := PE_imp (pe_callS0 G hr hg hm hk hb (fun σ => passAt tk σ) hdb) fun σ H Q h => by
  obtain ⟨ρ, st, w, sim, er, gd⟩ := h
  refine ⟨rfl, [], st, w, sim, .nil, ?_⟩
  have gd : Good (RD X.K X.mg) X.K X.mg W σ st.length w H Q (F [] st) := gd
  cases eF : F [] st with
  | ok d st2 => rw [eF] at gd; exact gd
  | exc c fs st2 => rw [eF] at gd; exact gd
  | stuck => rw [eF] at gd; exact gd
def fE0 : FE := fun _ st => .ok (.p (.dict [])) st
theorem pf_e0 : PF X W (.Dict [] [] pos) fE0 := PE_imp pe_dnewK fun σ H Q h => by
  obtain ⟨ρ, st, w, sim, er, gd⟩ := h
  intro q hq
  obtain ⟨s2, sim2⟩ := sim.newP (o := .dK []) hq
  exact gd _ _ _ s2 sim2 (.p (.dct (.inl rfl) upd_same .nil))
end
/-! ### a head with facts of one's own -/
abbrev obsX (fa : List He.Fa) (fn : List He.DefD) (ex : List (PySem.W.Frag → Bool)) (K : PySem.W.Frag) : He.AlD := (((fa.all fun f => f.ok K) && fn.all fun d => d.ok K) && ex.all fun p => p K, fn.map fun d => He.fnW K d.at_)
def SaysX (fa : List He.Fa) (fn : List He.DefD) (ex : List (PySem.W.Frag → Bool)) (K : PySem.W.Frag) : Prop := obsX fa fn ex K = He.valD fn
def obsXG (n : Nat) (fa : List He.Fa) (fn : List He.DefD) (ex : List (PySem.W.Frag → Bool)) (g : Addr → Option Obj) : He.AlD := obsX fa fn ex (He.frG g (He.asD g n))
def hookX (n : Nat) (fa : List He.Fa) (fn : List He.DefD) (ex : List (PySem.W.Frag → Bool)) : PySem.W.Hook where
  α := He.AlD
  obs := fun s => obsXG n fa fn ex s.heap.get?
  val := fun _ => He.valD fn
  says := fun _ h => ∃ K : PySem.W.Frag, K.In h ∧ SaysX fa fn ex K
  of := fun _ _ e => ⟨_, He.frG_in, e⟩
  keeps := fun _ _ _ ⟨K, hK, c⟩ k => ⟨K, PySem.W.Frag.In.keeps hK k, c⟩
theorem obsXG_eq {n : Nat} {fa : List He.Fa} {fn : List He.DefD} {ex : List (PySem.W.Frag → Bool)} {g : Addr → Option Obj} {s : Shared} (h : ∀ a, g a = s.heap.get? a) : obsXG n fa fn ex g = (hookX n fa fn ex).obs s := by
  have e : g = s.heap.get? := funext h
  rw [e] <;> rfl
theorem SaysX.d {fa : List He.Fa} {fn : List He.DefD} {ex : List (PySem.W.Frag → Bool)} {K : PySem.W.Frag} (c : SaysX fa fn ex K) : He.SaysD fa fn K := by
  have h1 := (Bool.and_eq_true_iff.mp (show (((fa.all fun f => f.ok K) && fn.all fun d => d.ok K) && ex.all fun p => p K) = true from congrArg (fun z : He.AlD => z.1) c)).1
  have h2 : fn.map (fun d => He.fnW K d.at_) = fn.map He.DefD.val := congrArg (fun z : He.AlD => z.2) c
  show ((fa.all fun f => f.ok K) && fn.all fun d => d.ok K, fn.map fun d => He.fnW K d.at_) = (true, fn.map He.DefD.val)
  rw [h1, h2]
theorem SaysX.ex {fa : List He.Fa} {fn : List He.DefD} {ex : List (PySem.W.Frag → Bool)} {K : PySem.W.Frag} (c : SaysX fa fn ex K) (i : Nat) {p : PySem.W.Frag → Bool} (h : ex[i]? = some p := by rfl) : p K = true := by
  have h1 := (Bool.and_eq_true_iff.mp (show (((fa.all fun f => f.ok K) && fn.all fun d => d.ok K) && ex.all fun p => p K) = true from congrArg (fun z : He.AlD => z.1) c)).2
  exact List.all_eq_true.mp h1 p (List.mem_of_getElem? h)
/-- what ExcC asks, as a look -/
def excCB (x : Str) (K : PySem.W.Frag) : Bool := decide (PySem.W.findIn K (.ref (He.ga K x)) "__getattribute__" = some (some (.builtin "BaseException.__getattribute__"))) && (decide (PySem.W.findIn K (.ref (He.ga K x)) "__getattr__" = some none) &&
  (decide (PySem.W.subIn K (.ref (He.ga K x)) (.type "BaseException") = some true) && (PySem.W.hasDictIn K (He.ga K x) && (decide (PySem.W.findIn K (.ref (He.ga K x)) "__class__" = some (some (.builtin "object.__class__"))) &&
  (decide (PySem.W.specialIn K (.builtin "object.__class__") "__get__" = some (some (.builtin "getset_descriptor.__get__"))) && (decide (PySem.W.takesIn K (.builtin "object.__class__") = some true) && decide (PySem.W.mroIn K (He.ga K x) (.type "object") = some true)))))))
theorem excCB_ok {x : Str} {K : PySem.W.Frag} (h : excCB x K = true) : ExcC K (He.ga K x) := by
  unfold excCB at h
  simp only [Bool.and_eq_true, decide_eq_true_eq] at h
  obtain ⟨h1, h2, h3, h4, h5, h6, h7, h8⟩ := h
  exact ⟨h1, h2, h3, h4, h5, h6, h7, h8⟩
def tsL : List (Str × Bool) → Str → Option Bool
  | [], _ => none
  | p :: r, c => if c = p.1 then some p.2 else tsL r c
theorem tsL_nil {P : Str → Bool → Prop} : ∀ c b, tsL [] c = some b → P c b := fun _ _ h => nomatch h
theorem tsL_cons {P : Str → Bool → Prop} {x : Str} {b0 : Bool} {r : List (Str × Bool)} (h1 : P x b0) (h2 : ∀ c b, tsL r c = some b → P c b) : ∀ c b, tsL ((x, b0) :: r) c = some b → P c b := fun c b h => by
  unfold tsL at h
  by_cases e : c = x
  · rw [if_pos e] at h
    cases h
    exact e ▸ h1
  · rw [if_neg e] at h
    exact h2 c b h
theorem at_ga {mg : Str → Option Value} {x : Str} {C D : Addr} (h1 : mg x = some (.ref C)) (h2 : mg x = some (.ref D)) : C = D := by
  rw [h1] at h2
  exact Value.ref.inj (Option.some.inj h2)
def kitXB (c x : Str) (b : Bool) (K : PySem.W.Frag) : Bool := decide (PySem.W.kitOne K (.ref (He.ga K c)) (.ref (He.ga K x)) = some b)
def kitTB (c : Str) (T : String) (b : Bool) (K : PySem.W.Frag) : Bool := decide (PySem.W.kitOne K (.ref (He.ga K c)) (.type T) = some b)
end FB
set_option Elab.async false
set_option linter.all false
set_option maxRecDepth 100000
set_option maxHeartbeats 4000000
/-! FBG: tuples among the module's constants; list(a dict); sorted. -/
namespace FB
open PySem PySem.Spec PyProof.Rows L2 RZ
/-! ### a module's tuple of texts -/
section
variable {X : Cx} {W : WX} {K : PySem.W.Frag} {I : Addr → Prop} {H : Hp}
theorem rps_str : ∀ ws : List Str, RPs K I H (ws.map PyData.str) (ws.map V.str)
  | [] => .nil
  | x :: r => .cons (.str x) (rps_str r)
theorem pf_gtup {x : Str} {ws : List Str} {pos : Pos} (h : ∃ a, X.mg x = some (.ref a) ∧ KTup X.K a (ws.map V.str)) (hg : Gl X x := by rfl) (hd : (x == ("__debug__" : Str)) = false := by decide) : PF X W (.Name x pos) (fC (.tuple (ws.map PyData.str))) := by
  obtain ⟨a, hm, hk⟩ := h
  exact pf_glob (v := .ref a) hg hm rfl (fun _ _ => .tup (.inr hk) (rps_str ws)) hd
def ktupB (x : Str) (ws : List Str) (K : PySem.W.Frag) : Bool := match K.lookup (He.ga K x) with
  | some ⟨.type c, none, .seq its _, _⟩ => decide (c = "tuple") && (decide (its.size ≤ sizeLine) && He.relAll (ws.map V.str) its.toList)
  | _ => false
theorem ktupB_ok {x : Str} {ws : List Str} (h : ktupB x ws K = true) : KTup K (He.ga K x) (ws.map V.str) := by
  unfold ktupB at h
  cases q : K.lookup (He.ga K x) with
  | none =>
    rw [q] at h
    cases h
  | some o =>
    obtain ⟨oc, od, dt, osl⟩ := o
    rw [q] at h
    cases oc with
    | type c =>
      cases od with
      | none =>
        cases dt with
        | seq its n =>
          have h' : (decide (c = "tuple") && (decide (its.size ≤ sizeLine) && He.relAll (ws.map V.str) its.toList)) = true := h
          rw [Bool.and_eq_true, Bool.and_eq_true] at h'
          exact ⟨_, its, n, q, congrArg Value.type (of_decide_eq_true h'.1), rfl, of_decide_eq_true h'.2.1, He.relAll_ok h'.2.2, rfl⟩
        | _ => cases h
      | some a => cases dt <;> cases h
    | _ => cases od <;> cases dt <;> cases h
/-! ### list(d) -/
variable {e : Expr} {fa : FE} {p pos : Pos}
def fListK (fa : FE) : FA := fun ρ st => (fa ρ st).bind fun d st1 => match dictOf d st1 with
  | some (_, kvs) => if kvs.length ≤ 100000 then .ok (kvs.map fun kv => .p (keyP kv.1)) st1 else .stuck
  | none => .stuck
theorem rp_key {I : Addr → Prop} : ∀ k : Key, RP K I H (keyP k) (kV k)
  | .inl i => .int i
  | .inr x => .str x
theorem rds_keysK {mg : Str → Option Value} {n : Nat} {w : Wd} : ∀ {kvs : List (Key × Dv)} {kws : List (Key × V)}, PKV K mg n w H kvs kws → RDs K mg n w H (kvs.map fun kv => .p (keyP kv.1)) (kws.map fun kv => kV kv.1)
  | _, _, .nil => .nil
  | _, _, .cons h t => by
    rw [List.map_cons, List.map_cons, h.1]
    exact .cons (.p (rp_key _)) (rds_keysK t)
theorem pfl_listK (hc : X.calm = true) (hm : X.mg "list" = none) (h : PF X W e fa) (hg : Gl X "list" := by rfl) (he : starEach [e] X.env = (false, eval e X.env) :: starEach [] X.env := by rfl) (hpl : (backTo pos (starEach [] X.env)).any (·.1) = false := by rfl) :
    PFL X W (.Call (.Name "list" p) [e] [] pos) (fListK fa) := PE_imp (pe_callTy (call_listD hc) hg hm (by decide +kernel) (pa_cons h pa_nil he) (by decide) (by decide) he hpl) fun σ H Q q => by
  obtain ⟨ρ, st, w, sim, er, gd⟩ := q
  refine ⟨ρ, st, w, sim, er, Good.imp (fun v H1 q => ?_) (Good.bind gd)⟩
  obtain ⟨st1, w1, d, sim1, s1, r1, gd1⟩ := q
  split at gd1
  · rename_i i kvs e
    split at gd1
    · rename_i hl
      obtain ⟨kws, rfl, e1, r2, lv, _⟩ := dict_rd sim1 r1 e
      refine ⟨_, kws, rfl, .inl e1, fun q hq => ?_⟩
      have rk := rds_keysK r2
      refine gd1 w1 H1 _ .refl sim1 rk q hq ?_
      rw [← rk.length, List.length_map, sizeLine_eq]; omega
    · exact gd1.elim
  · exact gd1.elim
end
/-! ### sorted(texts) -/
def strLe (a b : Str) : Bool := !ltCps b.cps.toList a.cps.toList
def insS (x : Str) : List Str → List Str
  | [] => [x]
  | y :: r => if strLe x y then x :: y :: r else y :: insS x r
def srtS : List Str → List Str
  | [] => []
  | x :: r => insS x (srtS r)
theorem ltCps_lt (a b : List Nat) : ltCps a b = decide (a < b) := by
  first
    | rfl
    | (unfold ltCps; rfl)
    | (induction a generalizing b with
      | nil => cases b <;> simp [ltCps]
      | cons x a ih => cases b with
        | nil => simp [ltCps]
        | cons y b =>
          have e : ltCps (x :: a) (y :: b) = (decide (x < y) || x == y && ltCps a b) := by first | rfl | simp [ltCps]
          rw [e, ih, Bool.eq_iff_iff, decide_eq_true_eq, List.cons_lt_cons_iff]
          simp)
theorem strLe_iff {a b : Str} : strLe a b = true ↔ ¬ b.cps.toList < a.cps.toList := by
  unfold strLe
  rw [ltCps_lt]
  simp
theorem strLe_total (a b : Str) : strLe a b = true ∨ strLe b a = true := by
  rw [strLe_iff, strLe_iff]
  by_cases h : b.cps.toList < a.cps.toList
  · exact .inr (List.lt_asymm h)
  · exact .inl h
theorem strLe_trans {a b c : Str} (h1 : strLe a b = true) (h2 : strLe b c = true) : strLe a c = true := by
  rw [strLe_iff] at h1 h2 ⊢
  exact List.le_trans (α := Nat) (l₁ := a.cps.toList) (l₂ := b.cps.toList) (l₃ := c.cps.toList) h1 h2
theorem strLe_anti {a b : Str} (h1 : strLe a b = true) (h2 : strLe b a = true) : a = b := by
  rw [strLe_iff] at h1 h2
  have e : a.cps.toList = b.cps.toList := List.le_antisymm (α := Nat) h1 h2
  cases a with
  | mk x =>
    cases b with
    | mk y =>
      have : x = y := Array.toList_inj.mp e
      rw [this]
theorem insS_perm (x : Str) : ∀ l, (insS x l).Perm (x :: l)
  | [] => .refl _
  | y :: r => by
    unfold insS
    split
    · exact .refl _
    · exact ((insS_perm x r).cons y).trans (.swap x y r)
theorem srtS_perm : ∀ l, (srtS l).Perm l
  | [] => .refl _
  | x :: r => (insS_perm x (srtS r)).trans ((srtS_perm r).cons x)
abbrev SrS (l : List Str) : Prop := l.Pairwise fun a b => strLe a b = true
theorem insS_srt {x : Str} : ∀ {l : List Str}, SrS l → SrS (insS x l)
  | [], _ => List.pairwise_singleton _ _
  | y :: r, h => by
    obtain ⟨h1, h2⟩ := List.pairwise_cons.mp h
    unfold insS
    split
    · rename_i hx
      refine List.pairwise_cons.mpr ⟨fun z hz => ?_, h⟩
      rcases List.mem_cons.mp hz with e | hz
      · exact e ▸ hx
      · exact strLe_trans hx (h1 z hz)
    · rename_i hx
      refine List.pairwise_cons.mpr ⟨fun z hz => ?_, insS_srt h2⟩
      rcases List.mem_cons.mp ((insS_perm x r).mem_iff.mp hz) with e | hz
      · rw [e]
        exact (strLe_total x y).resolve_left hx
      · exact h1 z hz
theorem srtS_srt : ∀ l, SrS (srtS l)
  | [] => List.Pairwise.nil
  | x :: r => insS_srt (srtS_srt r)
theorem rising_srt : ∀ (p : Str) (l : List Str), risingS p l = true → (∀ x ∈ l, strLe p x = true) ∧ SrS l
  | p, [], _ => ⟨fun _ h => (by cases h), List.Pairwise.nil⟩
  | p, x :: r, h => by
    have h' : (!ltCps x.cps.toList p.cps.toList && risingS x r) = true := h
    rw [Bool.and_eq_true] at h'
    obtain ⟨h1, h2⟩ := rising_srt x r h'.2
    have hp : strLe p x = true := h'.1
    exact ⟨fun z hz => (List.mem_cons.mp hz).elim (fun e => e ▸ hp) fun hz => strLe_trans hp (h1 z hz), List.pairwise_cons.mpr ⟨h1, h2⟩⟩
theorem sortedS_srt {l : List Str} (h : sortedS l = true) : SrS l := by
  cases l with
  | nil => exact List.Pairwise.nil
  | cons x r =>
    obtain ⟨h1, h2⟩ := rising_srt x r h
    exact List.pairwise_cons.mpr ⟨h1, h2⟩
theorem srtS_uniq {ys xs : List Str} (p : ys.Perm xs) (h : sortedS ys = true) : ys = srtS xs :=
  (p.trans (srtS_perm xs).symm).eq_of_pairwise (le := fun a b => strLe a b = true) (fun _ _ _ _ h1 h2 => strLe_anti h1 h2) (sortedS_srt h) (srtS_srt xs)
section
variable {X : Cx} {W : WX} {e : Expr} {fa : FE} {p pos : Pos}
def fSortS (fa : FE) : FA := fun ρ st => (fa ρ st).bind fun d st1 => match lstOf d st1 with
  | some ds => match txts ds with
    | some xs => if xs.length < 64 then .ok ((srtS xs).map fun x => .p (.str x)) st1 else .stuck
    | none => .stuck
  | none => .stuck
theorem rds_strs {K : PySem.W.Frag} {mg : Str → Option Value} {n : Nat} {w : Wd} {H : Hp} : ∀ xs : List Str, RDs K mg n w H (xs.map fun x => Dv.p (.str x)) (xs.map V.str)
  | [] => .nil
  | x :: r => .cons (.p (.str x)) (rds_strs r)
theorem pfl_sortS (hm : X.mg "sorted" = none) (h : PF X W e fa) (hg : Gl X "sorted" := by rfl) (he : starEach [e] X.env = (false, eval e X.env) :: starEach [] X.env := by rfl) (hpl : (backTo pos (starEach [] X.env)).any (·.1) = false := by rfl) :
    PFL X W (.Call (.Name "sorted" p) [e] [] pos) (fSortS fa) := PE_imp (pe_callB cr_sortedS hg hm (by decide +kernel) (pa_cons h pa_nil he) (by decide) (by decide) he hpl) fun σ H Q q => by
  obtain ⟨ρ, st, w, sim, er, gd⟩ := q
  refine ⟨ρ, st, w, sim, er, Good.imp (fun v H1 q => ?_) (Good.bind gd)⟩
  obtain ⟨st1, w1, d, sim1, s1, r1, gd1⟩ := q
  split at gd1
  · rename_i ds e1
    split at gd1
    · rename_i xs e2
      split at gd1
      · rename_i hl
        obtain ⟨a, us, rfl, r2, hs⟩ := lst_rd sim1 r1 e1
        obtain rfl := txts_rd r2 e2
        refine ⟨a, xs, rfl, .of hs, hl, fun ys q py hy hq => ?_⟩
        obtain rfl := srtS_uniq py hy
        refine gd1 w1 H1 _ .refl sim1 (rds_strs _) q hq ?_
        rw [List.length_map, (srtS_perm xs).length_eq, sizeLine_eq]; omega
      · exact gd1.elim
    · exact gd1.elim
  · exact gd1.elim
end
/-! ### sorted(triples of an int and two texts, the ints different) -/
section
variable {prog : Program} {w : World} {A : Around} {E : Value → Shared → Prop} {s : Shared}
open SrtO
def IsTrip (h : Heap) (v : Value) (x : Int) (y z : Str) : Prop := ∃ a o t u u' n, v = .ref a ∧ h.get? a = some o ∧ o.cls = .type "tuple" ∧ o.data = .seq #[.int x t, .str y u, .str z u'] n
theorem IsTrip.keeps {h h' : Heap} {v : Value} {x : Int} {y z : Str} (p : IsTrip h v x y z) (k : ∀ b o, h.get? b = some o → o.cls = .type "tuple" → h'.get? b = some o) : IsTrip h' v x y z := by
  obtain ⟨a, o, t, u, u', n, e, ho, hc, hd⟩ := p
  exact ⟨a, o, t, u, u', n, e, k _ _ ho hc, hc, hd⟩
theorem swo_int (k : Value → Int) : Swo fun v u => decide (k v < k u) := by
  refine ⟨fun x y h => ?_, fun x y z h1 h2 => ?_⟩
  · have a := of_decide_eq_true h
    exact decide_eq_false (by omega)
  · have a := of_decide_eq_false h1
    have b := of_decide_eq_false h2
    exact decide_eq_false (by omega)
theorem trip_cmp {vs : List Value} {k : Value → Int} (hp : ∀ v ∈ vs, ∃ y z, IsTrip s.heap v (k v) y z) (hi : ∀ v ∈ vs, ∀ u ∈ vs, k v = k u → v = u) : Cmp prog w A s (tuples' true) (fun p => p.1 ∈ vs) (lt2 fun v u => decide (k v < k u)) := by
  intro p q hm hm'
  have hinj := hi _ hm _ hm'
  obtain ⟨y, z, h1⟩ := hp _ hm
  obtain ⟨y', z', h2⟩ := hp _ hm'
  show wpAny (model prog w) A (keyLt' (tuples' true) p.1 q.1) (fun r s' => s' = s ∧ r = decide (k p.1 < k q.1)) (fun _ _ => False) s
  by_cases ek : k p.1 = k q.1
  · have epq := hinj ek
    rw [← epq] at h2 ⊢
    clear h2
    generalize k p.1 = x at h1 ⊢
    obtain ⟨a, o, t, u, u', n, e, ho, hc, hd⟩ := h1
    rw [e]
    refine PySem.W.kat_lt ho hd ho hd ?_
    show PySem.W.KatLex prog w A true (decide (3 < 3)) _ [(.int x t, .int x t), (.str y u, .str y u), (.str z u', .str z u')] 0 s
    refine PySem.W.kat_cons (SeqAt.EqAt.int_int x t x t prog w _ _ ?_)
    refine PySem.W.kat_go (fun _ => ?_) (fun e1 => absurd e1 (by simp))
    refine PySem.W.kat_yes (PySem.W.kat_cons (SeqAt.EqAt.str_str y u y u prog w _ _ ?_))
    refine PySem.W.kat_go (fun _ => ?_) (fun e1 => absurd e1 (by simp))
    refine PySem.W.kat_yes (PySem.W.kat_cons (SeqAt.EqAt.str_str z u' z u' prog w _ _ ?_))
    refine PySem.W.kat_go (fun _ => ?_) (fun e1 => absurd e1 (by simp))
    exact PySem.W.kat_yes (PySem.W.kat_nil ⟨rfl, (decide_eq_false (Int.lt_irrefl x)).symm⟩)
  · generalize k p.1 = x at h1 ek ⊢
    generalize k q.1 = x' at h2 ek ⊢
    obtain ⟨a, o, t, u, v, n, e, ho, hc, hd⟩ := h1
    obtain ⟨a', o', t', u', v', n', e', ho', hc', hd'⟩ := h2
    rw [e, e']
    refine PySem.W.kat_lt ho hd ho' hd' ?_
    show PySem.W.KatLex prog w A true (decide (3 < 3)) _ [(.int x t, .int x' t'), (.str y u, .str y' u'), (.str z v, .str z' v')] 0 s
    refine PySem.W.kat_cons (SeqAt.EqAt.int_int x t x' t' prog w _ _ ?_)
    refine PySem.W.kat_go (fun e1 => absurd (by simpa using e1) ek) (fun _ => ?_)
    exact PySem.W.kat_no (oneLt_int ⟨rfl, rfl⟩)
theorem firsts_trip {h : Heap} : ∀ {vs : List Value}, (∀ v ∈ vs, ∃ x y z, IsTrip h v x y z) → ∃ fs : List Value, PySem.W.KatTups h vs fs ∧ fs.length = vs.length ∧ ∀ f ∈ fs, ∃ x t, f = Value.int x t
  | [], _ => ⟨[], PySem.W.KatTups.nil, rfl, fun _ hm => by simp at hm⟩
  | v :: vs, hp => by
    obtain ⟨fs, h1, h2, h3⟩ := firsts_trip (vs := vs) fun v' hm => hp v' (List.mem_cons_of_mem _ hm)
    obtain ⟨x, y, z, a, o, t, u, u', n, e, ho, hc, hd⟩ := hp v (List.mem_cons_self ..)
    subst e
    refine ⟨.int x t :: fs, PySem.W.KatTups.cons ho hc hd rfl h1, by rw [List.length_cons, List.length_cons, h2], fun f hm => ?_⟩
    rcases List.mem_cons.mp hm with rfl | hm
    · exact ⟨x, t, rfl⟩
    · exact h3 f hm
theorem trips_sortableO {a : Addr} {vs : List Value} {k : Value → Int} (h0 : 0 < vs.length) (hp : ∀ v ∈ vs, ∃ y z, IsTrip s.heap v (k v) y z) (hi : ∀ v ∈ vs, ∀ u ∈ vs, k v = k u → v = u) (ha : ∀ o, s.heap.get? a = some o → o.cls ≠ .type "tuple") : SortableO prog w A s a vs fun v u => decide (k v < k u) := by
  intro h' keep
  have hp' : ∀ v ∈ vs, ∃ y z, IsTrip h' v (k v) y z := fun v hm => by
    obtain ⟨y, z, p⟩ := hp v hm
    exact ⟨y, z, p.keeps fun b o e c => keep b o (fun z => by subst z; exact ha o e c) e⟩
  obtain ⟨fs, h1, h2, h3⟩ := firsts_trip fun v hm => ⟨_, hp' v hm⟩
  refine ⟨tuples' true, fun Q E hq => ?_, trip_cmp hp' hi⟩
  refine PySem.W.kat_kind (T := .type "int") h1 (by omega) (fun f hm => ?_) (by rfl) ?_
  · obtain ⟨x, t, rfl⟩ := h3 f hm
    exact PySem.W.Looks.now
  · have e : (Value.type "int" != Value.type "tuple") = true := by first | decide +kernel | rfl | decide
    rw [e]
    exact hq
theorem sorted_tripsO {l : Addr} {vs : List Value} {k : Value → Int} {Q : Value → Shared → Prop} (hl : s.heap.IsList l vs.toArray) (hz : vs.length ≤ sizeLine) (hp : ∀ v ∈ vs, ∃ y z, IsTrip s.heap v (k v) y z) (hi : ∀ v ∈ vs, ∀ u ∈ vs, k v = k u → v = u)
    (h : ∀ (h' : Heap) (d : Addr) (out : List Value), Srtd (fun v u => decide (k v < k u)) out → Stb (fun v u => decide (k v < k u)) out vs → (∀ b o, s.heap.get? b = some o → h'.get? b = some o) → s.heap.objs.size ≤ d → (∃ n, h'.get? d = some (seqObj "list" out.toArray n)) → Q (.ref d) { s with heap := h' }) :
    wpAny (model prog w) A (call (.builtin "sorted") [.ref l]) Q E s := by
  refine sorted_ord (swo_int k) hl hz (fun h2 h₁ a ha kk => ?_) fun out hs hb => ?_
  · refine trips_sortableO (s := { s with heap := h₁ }) (by omega) (fun v hm => ?_) hi fun o e => ?_
    · obtain ⟨y, z, p⟩ := hp v hm
      exact ⟨y, z, p.keeps fun b o e _ => (kk b o e).2⟩
    · have e' : some o = some (seqObj "list" vs.toArray 0) := e.symm.trans ha
      cases e'
      intro c
      exact absurd (Value.type.inj c) (by decide)
  · exact h _ _ out hs hb (fun b o e => sortedAll_old e) (Nat.le_succ _) (sortedAll_at s.heap vs out.toArray)
end
abbrev ltI (k : V → Int) (x y : V) : Bool := decide (k x < k y)
theorem ltI_swo (k : V → Int) : SrtO.Swo (ltI k) := by
  refine ⟨fun x y h => ?_, fun x y z h1 h2 => ?_⟩
  · have a := of_decide_eq_true h
    exact decide_eq_false (by omega)
  · have a := of_decide_eq_false h1
    have b := of_decide_eq_false h2
    exact decide_eq_false (by omega)
def rSortedH (K : PySem.W.Frag) : List V → Hp → VK → Prop := fun vs H Q => ∃ (a : Addr) (xs : List V) (k : V → Int), vs = [V.ref a] ∧ SqL K H a xs ∧ (∀ x ∈ xs, ∃ t y z, x = V.ref t ∧ SqT K H t [.int (k x), .str y, .str z]) ∧ (∀ x ∈ xs, ∀ y ∈ xs, k x = k y → x = y) ∧
  ∀ ys p, SrtO.Srtd (ltI k) ys → SrtO.Stb (ltI k) ys xs → H p = none → Q (.ref p) (upd H p (.lst ys))
theorem cr_sortedH {X : Cx} : CallR X (.builtin "sorted") (rSortedH X.K) := by
  intro pins s σ H vs us Q I r h
  obtain ⟨a, xs, k, rfl, hs, hx, hi, q⟩ := h
  obtain ⟨its, rv, hl, hz⟩ := I.list hs
  obtain ⟨u, rfl, ru⟩ := vals1 r
  obtain rfl : u = Value.ref a := ru
  obtain ⟨e1, e2⟩ := refs_back rv fun x m => by
    obtain ⟨t, _, _, e, _⟩ := hx x m
    exact ⟨t, e⟩
  have mem : ∀ v ∈ its, backV v ∈ xs := fun v hv => by rw [e1]; exact List.mem_map.mpr ⟨v, hv, rfl⟩
  refine sorted_tripsO (k := fun u => k (backV u)) hl.isList (by rw [← rv.length]; exact hz) (fun v hv => ?_) (fun v hv u hu e => ?_) fun h' d out h1 h2 kp hd hn => ?_
  · obtain ⟨t, rfl⟩ := e2 v hv
    have hm := mem _ hv
    obtain ⟨t', y, z, e, ht⟩ := hx _ hm
    cases (show V.ref t = V.ref t' from e)
    obtain ⟨its2, r2, ⟨o, ho, hc, n, hd⟩, _⟩ := I.tuple ht
    cases r2 with
    | cons q1 r2 =>
    cases r2 with
    | cons q2 r2 =>
    cases r2 with
    | cons q3 r2 =>
    cases r2
    obtain ⟨t1, rfl⟩ := q1
    obtain ⟨t2, rfl⟩ := q2
    obtain ⟨t3, rfl⟩ := q3
    exact ⟨y, z, t, o, t1, t2, t3, n, rfl, ho, hc, hd⟩
  · obtain ⟨t, rfl⟩ := e2 v hv
    obtain ⟨t', rfl⟩ := e2 u hu
    have := hi _ (mem _ hv) _ (mem _ hu) e
    cases (show V.ref t = V.ref t' from this)
    rfl
  · have h3 : ∀ u ∈ out, ∃ a, u = Value.ref a := fun u hu => e2 u (h2.perm.mem_iff.mp hu)
    obtain ⟨n, hn⟩ := hn
    have hb : SrtO.Stb (ltI k) (out.map backV) xs := by
      rw [e1]
      exact SrtO.Stb.map (ltI_swo k) backV h2
    refine ⟨.ref d, upd H d (.lst (out.map backV)), I.laid (t' := s.toks) kp hd ⟨?_, out, n, vals_back h3, hn⟩, rfl, q _ d (SrtO.srtd_map h1) hb (I.hok.fresh hd)⟩
    rw [hb.len]
    exact hz

/-! a list sorted by numbers that stand beside it -/
section
variable {α β : Type}
def insP (p : α × Int) : List (α × Int) → List (α × Int)
  | [] => [p]
  | q :: r => if p.2 ≤ q.2 then p :: q :: r else q :: insP p r
def srtP : List (α × Int) → List (α × Int)
  | [] => []
  | p :: r => insP p (srtP r)
theorem insP_perm (p : α × Int) : ∀ l, (insP p l).Perm (p :: l)
  | [] => .refl _
  | q :: r => by
    unfold insP
    split
    · exact .refl _
    · exact ((insP_perm p r).cons q).trans (.swap p q r)
theorem srtP_perm : ∀ l : List (α × Int), (srtP l).Perm l
  | [] => .refl _
  | p :: r => (insP_perm p (srtP r)).trans ((srtP_perm r).cons p)
abbrev SrP (l : List (α × Int)) : Prop := l.Pairwise fun a b => a.2 ≤ b.2
theorem insP_srt {p : α × Int} : ∀ {l : List (α × Int)}, SrP l → SrP (insP p l)
  | [], _ => List.pairwise_singleton _ _
  | q :: r, h => by
    obtain ⟨h1, h2⟩ := List.pairwise_cons.mp h
    unfold insP
    split
    · rename_i hx
      refine List.pairwise_cons.mpr ⟨fun z hz => ?_, h⟩
      rcases List.mem_cons.mp hz with e | hz
      · exact e ▸ hx
      · exact Int.le_trans hx (h1 z hz)
    · rename_i hx
      refine List.pairwise_cons.mpr ⟨fun z hz => ?_, insP_srt h2⟩
      rcases List.mem_cons.mp ((insP_perm p r).mem_iff.mp hz) with e | hz
      · rw [e]
        omega
      · exact h1 z hz
theorem srtP_srt : ∀ l : List (α × Int), SrP (srtP l)
  | [] => List.Pairwise.nil
  | p :: r => insP_srt (srtP_srt r)
end
def hdInt (h : Heap) : V → Int
  | .ref t => match h.get? t with
    | some ⟨_, _, .seq its _, _⟩ => match its.toList with
      | .int i _ :: _ => i
      | _ => 0
    | _ => 0
  | _ => 0
def rSortedZ (K : PySem.W.Frag) : List V → Hp → VK → Prop := fun vs H Q => ∃ (a : Addr) (xs : List V) (ks : List Int), vs = [V.ref a] ∧ SqL K H a xs ∧ Paired (fun x i => ∃ t y z, x = V.ref t ∧ SqT K H t [.int i, .str y, .str z]) xs ks ∧ ks.Nodup ∧
  ∀ p, H p = none → Q (.ref p) (upd H p (.lst ((srtP (xs.zip ks)).map (·.1))))
theorem zip_fst {α β : Type} {F : α → β → Prop} : ∀ {xs : List α} {ks : List β}, Paired F xs ks → (xs.zip ks).map (·.1) = xs
  | _, _, .nil => rfl
  | _, _, .cons _ t => by rw [List.zip_cons_cons, List.map_cons, zip_fst t]
theorem cr_sortedZ {X : Cx} : CallR X (.builtin "sorted") (rSortedZ X.K) := by
  intro pins s σ H vs us Q I r h
  obtain ⟨a, xs, ks, rfl, hs, hp, hn, q⟩ := h
  have key : ∀ {xs : List V} {ks : List Int}, Paired (fun x i => ∃ t y z, x = V.ref t ∧ SqT X.K H t [.int i, .str y, .str z]) xs ks → xs.map (hdInt s.heap) = ks ∧ (∀ x ∈ xs, ∃ t y z, x = V.ref t ∧ SqT X.K H t [.int (hdInt s.heap x), .str y, .str z]) ∧ ∀ p ∈ xs.zip ks, p.2 = hdInt s.heap p.1 := by
    intro xs ks hp
    induction hp with
    | nil => exact ⟨rfl, fun _ h => (by cases h), fun _ h => (by cases h)⟩
    | @cons x i xs ks h t ih =>
      obtain ⟨t0, y, z, rfl, ht⟩ := h
      have e : hdInt s.heap (V.ref t0) = i := by
        obtain ⟨its2, r2, ⟨o, ho, hc, n, hd⟩, _⟩ := I.tuple ht
        cases r2 with
        | cons q1 r2 =>
        obtain ⟨t1, rfl⟩ := q1
        obtain ⟨oc, od, oda, osl⟩ := o
        dsimp only at hd
        subst hd
        unfold hdInt
        dsimp only
        rw [ho]
      refine ⟨by rw [List.map_cons, e, ih.1], fun x' hx' => ?_, fun p hp => ?_⟩
      · rcases List.mem_cons.mp hx' with e' | hx'
        · subst e'
          exact ⟨t0, y, z, rfl, by rw [e]; exact ht⟩
        · exact ih.2.1 x' hx'
      · rw [List.zip_cons_cons] at hp
        rcases List.mem_cons.mp hp with e' | hp
        · subst e'
          exact e.symm
        · exact ih.2.2 p hp
  obtain ⟨k1, k2, k3⟩ := key hp
  have inj : ∀ x ∈ xs, ∀ y ∈ xs, hdInt s.heap x = hdInt s.heap y → x = y := by
    have go : ∀ (xs : List V), (xs.map (hdInt s.heap)).Nodup → ∀ x ∈ xs, ∀ y ∈ xs, hdInt s.heap x = hdInt s.heap y → x = y := by
      intro xs
      induction xs with
      | nil => intro _ x hx; cases hx
      | cons z xs ih =>
        intro hn x hx y hy e
        rw [List.map_cons] at hn
        obtain ⟨n1, n2⟩ := List.nodup_cons.mp hn
        rcases List.mem_cons.mp hx with ex | hx <;> rcases List.mem_cons.mp hy with ey | hy
        · rw [ex, ey]
        · exact absurd (List.mem_map.mpr ⟨y, hy, by rw [← e, ex]⟩) n1
        · exact absurd (List.mem_map.mpr ⟨x, hx, by rw [e, ey]⟩) n1
        · exact ih n2 x hx y hy e
    exact go xs (by rw [k1]; exact hn)
  refine cr_sortedH pins s σ H [V.ref a] us Q I r ⟨a, xs, hdInt s.heap, rfl, hs, k2, inj, fun ys p h1 h2 hpn => ?_⟩
  have pz : ((srtP (xs.zip ks)).map (·.1)).Perm xs := by
    have := (srtP_perm (xs.zip ks)).map (·.1)
    rwa [zip_fst hp] at this
  have e : ys = (srtP (xs.zip ks)).map (·.1) := by
    refine (h2.perm.trans pz.symm).eq_of_pairwise (le := fun a b => hdInt s.heap a ≤ hdInt s.heap b) (fun x y hx hy h3 h4 => inj x (h2.perm.mem_iff.mp hx) y (pz.mem_iff.mp hy) (by omega)) ?_ ?_
    · exact List.Pairwise.imp (fun {x y} h => by have := of_decide_eq_false h; omega) h1
    · refine List.pairwise_map.mpr ?_
      refine List.Pairwise.imp_of_mem ?_ (srtP_srt (xs.zip ks))
      intro x y hx hy h
      rw [← k3 x ((srtP_perm _).mem_iff.mp hx), ← k3 y ((srtP_perm _).mem_iff.mp hy)]
      exact h
  rw [e]
  exact q p hpn
def tripK : Dv → Option Int
  | .p (.tuple [.int i, .str _, .str _]) => some i
  | _ => none
def tripKs : List Dv → Option (List Int)
  | [] => some []
  | d :: r => match tripK d, tripKs r with
    | some i, some l => some (i :: l)
    | _, _ => none
section
variable {X : Cx} {W : WX} {e : Expr} {fa : FE} {p pos : Pos}
def fSortT (fa : FE) : FA := fun ρ st => (fa ρ st).bind fun d st1 => match lstOf d st1 with
  | some ds => match tripKs ds with
    | some ks => if ds.length ≤ 100000 ∧ ks.Nodup then .ok ((srtP (ds.zip ks)).map (·.1)) st1 else .stuck
    | none => .stuck
  | none => .stuck
theorem trip_rd {K : PySem.W.Frag} {mg : Str → Option Value} {n : Nat} {w : Wd} {H : Hp} : ∀ {ds : List Dv} {vs : List V} {ks : List Int}, RDs K mg n w H ds vs → tripKs ds = some ks → Paired (fun x i => ∃ t y z, x = V.ref t ∧ SqT K H t [.int i, .str y, .str z]) vs ks
  | _, _, _, .nil, h => by cases h; exact .nil
  | d :: ds, _, ks, .cons r rs, h => by
    unfold tripKs at h
    split at h
    · rename_i i l h1 h2
      cases h
      refine .cons ?_ (trip_rd rs h2)
      unfold tripK at h1
      split at h1
      · cases h1
        cases r with
        | p q => cases q with
          | tup hs hr =>
            cases hr with
            | cons q1 hr =>
            cases hr with
            | cons q2 hr =>
            cases hr with
            | cons q3 hr =>
            cases hr
            cases q1
            cases q2
            cases q3
            exact ⟨_, _, _, rfl, hs.sq⟩
      · cases h1
    · cases h
theorem ins_rd {K : PySem.W.Frag} {mg : Str → Option Value} {n : Nat} {w : Wd} {H : Hp} {d : Dv} {v : V} {i : Int} (r : RD K mg n w H d v) : ∀ {l : List (Dv × Int)} {m : List (V × Int)}, Paired (fun a b => a.2 = b.2 ∧ RD K mg n w H a.1 b.1) l m → Paired (fun a b => a.2 = b.2 ∧ RD K mg n w H a.1 b.1) (insP (d, i) l) (insP (v, i) m)
  | _, _, .nil => .cons ⟨rfl, r⟩ .nil
  | _, _, .cons (a := a) (b := b) h t => by
    unfold insP
    have e : (i ≤ a.2) = (i ≤ b.2) := by rw [h.1]
    by_cases hi : i ≤ b.2
    · rw [if_pos (show (d, i).2 ≤ a.2 by rw [h.1]; exact hi), if_pos (show (v, i).2 ≤ b.2 from hi)]
      exact .cons ⟨rfl, r⟩ (.cons h t)
    · rw [if_neg (show ¬ (d, i).2 ≤ a.2 by rw [h.1]; exact hi), if_neg (show ¬ (v, i).2 ≤ b.2 from hi)]
      exact .cons h (ins_rd r t)
theorem srt_rd {K : PySem.W.Frag} {mg : Str → Option Value} {n : Nat} {w : Wd} {H : Hp} : ∀ {ds : List Dv} {vs : List V} (ks : List Int), RDs K mg n w H ds vs → Paired (fun a b => a.2 = b.2 ∧ RD K mg n w H a.1 b.1) (srtP (ds.zip ks)) (srtP (vs.zip ks))
  | _, _, ks, .nil => .nil
  | _, _, [], .cons _ _ => .nil
  | _, _, k :: ks, .cons r rs => ins_rd r (srt_rd ks rs)
theorem fst_rd {K : PySem.W.Frag} {mg : Str → Option Value} {n : Nat} {w : Wd} {H : Hp} : ∀ {l : List (Dv × Int)} {m : List (V × Int)}, Paired (fun a b => a.2 = b.2 ∧ RD K mg n w H a.1 b.1) l m → RDs K mg n w H (l.map (·.1)) (m.map (·.1))
  | _, _, .nil => .nil
  | _, _, .cons h t => .cons h.2 (fst_rd t)
theorem pfl_sortT (hm : X.mg "sorted" = none) (h : PF X W e fa) (hg : Gl X "sorted" := by rfl) (he : starEach [e] X.env = (false, eval e X.env) :: starEach [] X.env := by rfl) (hpl : (backTo pos (starEach [] X.env)).any (·.1) = false := by rfl) :
    PFL X W (.Call (.Name "sorted" p) [e] [] pos) (fSortT fa) := PE_imp (pe_callB cr_sortedZ hg hm (by decide +kernel) (pa_cons h pa_nil he) (by decide) (by decide) he hpl) fun σ H Q q => by
  obtain ⟨ρ, st, w, sim, er, gd⟩ := q
  refine ⟨ρ, st, w, sim, er, Good.imp (fun v H1 q => ?_) (Good.bind gd)⟩
  obtain ⟨st1, w1, d, sim1, s1, r1, gd1⟩ := q
  split at gd1
  · rename_i ds e1
    split at gd1
    · rename_i ks e2
      split at gd1
      · rename_i hl
        obtain ⟨a, us, rfl, r2, hs⟩ := lst_rd sim1 r1 e1
        have hp := trip_rd r2 e2
        refine ⟨a, us, ks, rfl, .of hs, hp, hl.2, fun q hq => ?_⟩
        refine gd1 w1 H1 _ .refl sim1 (fst_rd (srt_rd ks r2)) q hq ?_
        have e3 : ((srtP (us.zip ks)).map (·.1)).length = us.length := by
          have := ((srtP_perm (us.zip ks)).map (·.1)).length_eq
          rwa [zip_fst hp] at this
        rw [e3, ← r2.length, sizeLine_eq]
        have := hl.1
        omega
      · exact gd1.elim
    · exact gd1.elim
  · exact gd1.elim
end
end FB
set_option Elab.async false
set_option linter.all false
set_option maxRecDepth 100000
set_option maxHeartbeats 4000000
/-! FBL: a, b = a list. -/
namespace FB
open PySem PySem.Spec PyProof.Rows L2 RZ
variable {X : Cx} {W : WX} {e : Expr} {fa : FE} {pos pos' : Pos}
/-- a, b, .. = a list of data of that length -/
def sAsgL (fa : FE) (ts : List Tg) : FS := fun ρ st => (fa ρ st).st ρ fun d st1 => match d with
  | .p (.list xs) => if xs.length = ts.length then toE (tgFs ts (xs.map Dv.p) ρ) fun ρ' => .nx ρ' st1 else .stuck
  | _ => .stuck
theorem tfs_asgL {ts : List Tg} {D : Ends} {σ : L2.St} {H : Hp} (q : TFS X.K X.mg W (sAsgL fa ts) D σ H) : tAsg (TF X.K X.mg W fa) (gLst X.K ts.length (tgGs X.K ts)) D σ H := by
  obtain ⟨ρ, st, w, sim, er, gd⟩ := q
  refine ⟨ρ, st, w, sim, er, Good.imp (fun v H1 q => ?_) (good_st er gd)⟩
  obtain ⟨st1, w1, d, sim1, s1, r1, er1, gd1⟩ := q
  split at gd1
  · rename_i xs
    split at gd1
    · rename_i hl
      unfold toE at gd1
      split at gd1
      · rename_i ρ' he
        cases r1 with
        | p q =>
          cases q with
          | lst hs hr =>
            have rs := RDs.ofP hr (mg := X.mg) (n := st1.length)
            refine ⟨_, _, rfl, hs.sq, by rw [← rs.length, List.length_map, hl], ?_⟩
            exact tgs_ok (vs := tgSs ts) ts (xs.map Dv.p) _ ρ ρ' σ σ _ rs er1 he (fun _ h => h) rfl fun σ' er' _ => gd1 w1 H1 σ' .refl sim1 er'
      · exact gd1.elim
    · exact gd1.elim
  · exact gd1.elim
theorem pfs_asgL {ts : List Tg} {es : List Expr} {k : Nat} (hc : X.calm = true) (he : PF X W e fa) (hg : PGs X es (tgGs X.K ts)) (hn : (assignEach es X.env).length = ts.length := by rfl) (hst : (assignEach es X.env).findIdx? (·.1) = none := by rfl)
    (hs : swapsWithSole [.Tuple es k pos'] e pos.line X.env = pure false := by rfl) (hw : swappedStores [.Tuple es k pos'] e X.env = pure none := by rfl)
    (h1 : (assignEach [.Tuple es k pos'] X.env).map (·.2) = [assign (.Tuple es k pos') X.env] := by rfl) : PFS X W (.Assign [.Tuple es k pos'] e pos) (sAsgL fa ts) := PS_imp (ps_asg he (pg_lst hc hg hn hst) hs hw h1) fun D σ H q => tfs_asgL q
end FB
set_option Elab.async false
set_option linter.all false
set_option maxRecDepth 100000
set_option maxHeartbeats 4000000
/-! FBK: a dict of texts, written out: data; its items. -/
namespace FB
open PySem PySem.Spec PyProof.Rows L2 RZ
def kvD (kvs : List (Str × Str)) : PyData := .dict (kvs.map fun p => (.str p.1, .str p.2))
def fKV (kvs : List (Str × Str)) : FE := fun _ st => .ok (.p (kvD kvs)) st
def kvV (kvs : List (Str × Str)) : List (Key × V) := kvs.map fun p => (.inr p.1, .str p.2)
theorem tPairs_c {σ : L2.St} {Q : List (V × V) → Hp → Prop} {H : Hp} : ∀ {kvs : List (Str × Str)}, Q (kvs.map fun p => (V.str p.1, V.str p.2)) H → tPairs (kvs.map fun p => (tC (.str p.1), tC (.str p.2))) σ H Q
  | [], h => h
  | p :: kvs, h => by
    show tPairs (kvs.map fun p => (tC (.str p.1), tC (.str p.2))) σ H fun ps H3 => Q ((V.str p.1, V.str p.2) :: ps) H3
    exact tPairs_c (Q := fun ps H3 => Q ((V.str p.1, V.str p.2) :: ps) H3) h
theorem merge_new : ∀ (kvs : List (Str × Str)) (acc : List (Key × V)), (kvs.map (·.1)).Nodup → (∀ p ∈ kvs, ∀ q ∈ acc, q.1 ≠ Sum.inr p.1) → mergeK acc (kvV kvs) = acc ++ kvV kvs
  | [], acc, _, _ => by rw [show kvV [] = [] from rfl, List.append_nil]; rfl
  | p :: kvs, acc, hn, h => by
    rw [List.map_cons] at hn
    obtain ⟨n1, n2⟩ := List.nodup_cons.mp hn
    show mergeK (putK acc (.inr p.1) (.str p.2)) (kvV kvs) = acc ++ (Sum.inr p.1, V.str p.2) :: kvV kvs
    have e : putK acc (.inr p.1) (.str p.2) = acc ++ [(Sum.inr p.1, V.str p.2)] := by
      unfold putK
      rw [if_neg]
      intro z
      obtain ⟨q, hq, z⟩ := List.any_eq_true.mp z
      exact h p List.mem_cons_self q hq (of_decide_eq_true z)
    rw [e, merge_new kvs _ n2 fun q hq x hx => ?_, List.append_assoc]
    · rfl
    · rcases List.mem_append.mp hx with hx | hx
      · exact h q (List.mem_cons_of_mem _ hq) x hx
      · rw [List.mem_singleton.mp hx]
        intro z
        have : p.1 = q.1 := Sum.inr.inj z
        exact n1 (List.mem_map.mpr ⟨q, hq, this.symm⟩)
theorem rpk_kv {K : PySem.W.Frag} {I : Addr → Prop} {H : Hp} : ∀ kvs : List (Str × Str), RPk K I H (kvs.map fun p => (.str p.1, .str p.2)) (kvV kvs)
  | [] => .nil
  | p :: kvs => .cons (k := .inr p.1) (.str p.2) (rpk_kv kvs)
variable {X : Cx} {W : WX} {pos : Pos} {keys : List (Option Expr)} {values : List Expr}
theorem pf_dispC {kvs : List (Str × Str)} (h : PPs X pos keys values (kvs.map fun p => (tC (.str p.1), tC (.str p.2)))) (hn : (kvs.map (·.1)).Nodup) (h16 : kvs.length ≤ 15) (hall : keys.all (·.isSome) = true := by rfl) (hl : keys.length = values.length := by rfl) (h0 : keys ≠ [] := by exact List.cons_ne_nil _ _)
    (h15 : keys.length ≤ 15 := by decide) : PF X W (.Dict keys values pos) (fKV kvs) := PE_imp (pe_disp h hall hl h0 h15) fun σ H Q hh => by
  obtain ⟨ρ, st, w, sim, er, gd⟩ := hh
  intro p hp
  refine tPairs_c ⟨upd_same, kvV kvs, by unfold kvV; rw [List.map_map]; rfl, by unfold kvV; rw [List.length_map]; exact h16, ?_⟩
  have e : mergeK [] (kvV kvs) = kvV kvs := (merge_new kvs [] hn fun _ _ q hq => by cases hq).trans (List.nil_append _)
  rw [upd_upd, e]
  obtain ⟨s2, sim2⟩ := sim.newP (o := .dK (kvV kvs)) hp
  exact gd _ _ _ s2 sim2 (.p (.dct (.inl rfl) upd_same (rpk_kv kvs)))
/-! ### its items -/
def atP : List (PyData × PyData) → Str → Option PyData
  | (.str a, d) :: r, k => if a = k then some d else atP r k
  | _, _ => none
def gIxC : G2 := fun x y _ => match x, y with
  | .p (.dict ds), .p (.str k) => (atP ds k).map Dv.p
  | _, _ => none
theorem rpk_at {K : PySem.W.Frag} {I : Addr → Prop} {H : Hp} {k : Str} {d : PyData} : ∀ {ds : List (PyData × PyData)} {kws : List (Key × V)}, RPk K I H ds kws → atP ds k = some d → ∃ v, valV kws (.inr k) = some v ∧ RP K I H d v
  | _, _, .nil, h => by cases h
  | _, _, .cons (k := .inl i) r t, h => by cases h
  | _, _, .cons (k := .inr a) (d := d0) (v := v0) (ds := ds) (kvs := kws) r t, h => by
    have h : (if a = k then some d0 else atP ds k) = some d := h
    by_cases e : a = k
    · rw [if_pos e] at h
      cases h
      exact ⟨v0, valV_pos (by show (Sum.inr a : Key) = Sum.inr k; rw [e]), r⟩
    · rw [if_neg e] at h
      obtain ⟨v, h1, h2⟩ := rpk_at t h
      exact ⟨v, by rw [valV_neg (fun z => e (Sum.inr.inj z))]; exact h1, h2⟩
theorem im_ixC : Im2 X (rIxA X.K) gIxC := fun st w H x y vx vy Q d sim rx ry h l => by
  unfold gIxC at h
  split at h
  · rename_i ds k
    obtain ⟨z, hz, rfl⟩ := Option.map_eq_some_iff.mp h
    cases rx with
    | p rx =>
      cases rx with
      | dct hi hh hr =>
        obtain ⟨v, e1, e2⟩ := rpk_at hr hz
        have ey := rd_str ry
        subst ey
        exact .inr ⟨_, v, rfl, by rw [← e1]; exact DGet.k (k := .inr k) hh, l w H _ .refl sim (.p e2)⟩
  · cases h
/-! ### texts compared -/
def gLtS : G2 := fun x y _ => match x, y with
  | .p (.str a), .p (.str b) => some (.p (.bool (decide (a.cps.toList < b.cps.toList))))
  | _, _ => none
theorem im_ltS : Im2 X (fun x y H Q => ∃ i j : Str, x = .str i ∧ y = .str j ∧ Q (.bl (decide (i.cps.toList < j.cps.toList))) H) gLtS := fun st w H x y vx vy Q d sim rx ry h l => by
  unfold gLtS at h
  split at h
  · cases h
    obtain rfl := rd_str rx
    obtain rfl := rd_str ry
    exact ⟨_, _, rfl, rfl, l w H _ .refl sim (.p (.bl _))⟩
  · cases h
end FB
set_option Elab.async false
set_option linter.all false
set_option maxRecDepth 100000
set_option maxHeartbeats 4000000
/-! PL0: reckoning with the mirror functions. -/
namespace FB
open PySem PySem.Spec PyProof.Rows L2 RZ
section
variable {α β : Type} {ρ : Sl} {st : So} {i j : Nat} {fa fb fc : FE} {fr : FA} {t u : FT} {g : G2} {g1 : G1} {ga gb : FS} {a : α} {f : α → So → Rs β} {h : α → So → Ss}
@[simp] theorem bind_ok : (Rs.ok a st).bind f = f a st := (rfl)
@[simp] theorem bindN_ok : (Rs.ok a st).bindN f = f a st := (rfl)
@[simp] theorem st_ok : (Rs.ok a st).st ρ h = h a st := (rfl)
@[simp] theorem toR_some {d : Dv} : toR st (some d) = .ok d st := (rfl)
@[simp] theorem ev_c {d : PyData} : fC d ρ st = .ok (.p d) st := (rfl)
@[simp] theorem ev_op : fOp g fa fb ρ st = (fa ρ st).bind fun x st1 => (fb ρ st1).bind fun y st2 => toR st2 (g x y st2) := (rfl)
@[simp] theorem ev_un : fUn g1 fa ρ st = (fa ρ st).bind fun x st1 => toR st1 (g1 x st1) := (rfl)
@[simp] theorem ev_tb : fTB fa ρ st = (fa ρ st).bind asB := (rfl)
@[simp] theorem ev_asB {b : Bool} : asB (.p (.bool b)) st = .ok b st := (rfl)
@[simp] theorem ev_tnot : fTNot t ρ st = (t ρ st).bind fun b st1 => .ok (!b) st1 := (rfl)
@[simp] theorem ev_tand : fTAnd t u ρ st = (t ρ st).bind fun b st1 => if b then u ρ st1 else .ok false st1 := (rfl)
@[simp] theorem ev_tor : fTOr t u ρ st = (t ρ st).bind fun b st1 => if b then .ok true st1 else u ρ st1 := (rfl)
@[simp] theorem ev_and : fAnd fa fb ρ st = (fTB fa ρ st).bind fun b st1 => if b then fb ρ st1 else .ok (.p (.bool false)) st1 := (rfl)
@[simp] theorem ev_or : fOr fa fb ρ st = (fTB fa ρ st).bind fun b st1 => if b then .ok (.p (.bool true)) st1 else fb ρ st1 := (rfl)
@[simp] theorem ev_not : fNot fa ρ st = (fTB fa ρ st).bind fun b st1 => .ok (.p (.bool (!b))) st1 := (rfl)
@[simp] theorem ev_if : fIf t fa fb ρ st = (t ρ st).bind fun b st1 => if b then fa ρ st1 else fb ρ st1 := (rfl)
@[simp] theorem ev_nil : fNil ρ st = .ok [] st := (rfl)
@[simp] theorem ev_cons : fCons fa fr ρ st = (fa ρ st).bind fun x st1 => (fr ρ st1).bind fun xs st2 => .ok (x :: xs) st2 := (rfl)
@[simp] theorem ev_tup : fTup fr ρ st = (fr ρ st).bind fun xs st1 => if small xs then .ok (mkT xs) st1 else .stuck := (rfl)
@[simp] theorem ev_pure : fPure fr ρ st = (fr ρ st).bind fun xs st1 => if small xs then .ok (mkL xs) st1 else .stuck := (rfl)
@[simp] theorem ev_cell : fCell fr ρ st = (fr ρ st).bind fun xs st1 => if small xs then .ok (.ref st1.length) (st1 ++ [.lst xs]) else .stuck := (rfl)
@[simp] theorem ev_cb {g : GA} : fCB g fr ρ st = (fr ρ st).bind fun xs st1 => toR st1 (g xs st1) := (rfl)
@[simp] theorem ev_next : sNext ρ st = .nx ρ st := (rfl)
@[simp] theorem ev_pass : sPass ρ st = .nx ρ st := (rfl)
@[simp] theorem ev_drop : sDrop fa ρ st = (fa ρ st).st ρ fun _ st1 => .nx ρ st1 := (rfl)
@[simp] theorem ev_ret : sRet fa ρ st = (fa ρ st).st ρ fun d st1 => .ret d st1 := (rfl)
@[simp] theorem ev_sif : sIf t ga gb ρ st = (t ρ st).st ρ fun b st1 => if b then ga ρ st1 else gb ρ st1 := (rfl)
@[simp] theorem ev_asg {tg : Tg} : sAsg fa tg ρ st = (fa ρ st).st ρ fun d st1 => toE (tgF tg d ρ) fun ρ' => .nx ρ' st1 := (rfl)
@[simp] theorem ev_call {F : FD} : fCall F fr ρ st = (fr ρ st).bind F := (rfl)
@[simp] theorem ev_seq : sSeq ga gb ρ st = match ga ρ st with
  | .nx ρ' st' => gb ρ' st'
  | r => r := (rfl)
@[simp] theorem ev_var : fVar i ρ st = match ρ[i]? with
  | some (some d) => .ok d st
  | _ => .stuck := (rfl)
@[simp] theorem toE_some {r : Sl} {k : Sl → Ss} : toE (some r) k = k r := (rfl)
@[simp] theorem tg_nm {d : Dv} : tgF (.nm i) d ρ = some (ρ.set i (some d)) := by unfold tgF; rfl
@[simp] theorem tgs_nil : tgFs [] [] ρ = some ρ := by unfold tgFs; rfl
@[simp] theorem tgs_cons {t : Tg} {ts : List Tg} {d : Dv} {ds : List Dv} : tgFs (t :: ts) (d :: ds) ρ = match tgF t d ρ with
  | some ρ' => tgFs ts ds ρ'
  | none => none := by
  conv => lhs; unfold tgFs
  all_goals rfl
@[simp] theorem tg_tpP {ts : List Tg} {xs : List PyData} : tgF (.tp ts) (.p (.tuple xs)) ρ = if (xs.map Dv.p).length = ts.length then tgFs ts (xs.map Dv.p) ρ else none := by unfold tgF; rfl
@[simp] theorem tg_tpD {ts : List Tg} {xs : List Dv} : tgF (.tp ts) (.tupD xs) ρ = if xs.length = ts.length then tgFs ts xs ρ else none := by unfold tgF; rfl
@[simp] theorem ev_for {fi : FA} {tg : Tg} : sFor fi tg ga ρ st = (fi ρ st).st ρ fun items st1 => sForL tg ga items ρ st1 := (rfl)
@[simp] theorem ev_list : fListOf fa ρ st = (fa ρ st).bind fun d st1 => match seqOf d st1 with
  | some ys => if small ys then .ok ys st1 else .stuck
  | none => .stuck := (rfl)
@[simp] theorem ev_rng {g : List Dv → Option (List Dv)} : fRng g fr ρ st = (fr ρ st).bind fun xs st1 => optR st1 (g xs) := (rfl)
@[simp] theorem ev_fst {g : List Dv → So → Option (List Dv)} : fSt g fr ρ st = (fr ρ st).bind fun xs st1 => optR st1 (g xs st1) := (rfl)
@[simp] theorem optR_some : optR st (some a) = .ok a st := (rfl)
@[simp] theorem ev_nop : fNoP ρ st = .ok none st := (rfl)
@[simp] theorem ev_pt : fPt fa ρ st = (fa ρ st).bind asI := (rfl)
@[simp] theorem ev_asI {k : Int} : asI (.p (.int k)) st = .ok (some k) st := (rfl)
@[simp] theorem ev_sl {fl fh : FO} : fSl fa fl fh ρ st = (fa ρ st).bind fun x st1 => (fl ρ st1).bind fun lo st2 => (fh ρ st2).bind fun hi st3 => toR st3 (gSl x lo hi st3) := (rfl)
@[simp] theorem ev_mth {g : GM} {fo : FE} : fMth g fo fr ρ st = (fo ρ st).bind fun x st1 => if isLst x st1 then (fr ρ st1).bind fun xs st2 => toM (g x xs st2) else .stuck := (rfl)
@[simp] theorem ev_mth0 {g : GM} {fo : FE} : fMth0 g fo ρ st = (fo ρ st).bind fun x st1 => if isLst x st1 then toM (g x [] st1) else .stuck := (rfl)
@[simp] theorem toM_some {d : Dv} : toM (some (d, st)) = .ok d st := (rfl)
@[simp] theorem ev_par : sPar i j fr ρ st = (fr ρ st).st ρ fun vs st1 => match vs with
  | [a, b] => .nx ((ρ.set i (some a)).set j (some b)) st1
  | _ => .stuck := (rfl)
@[simp] theorem ev_par3 {k : Nat} : sPar3 i j k fr ρ st = (fr ρ st).st ρ fun vs st1 => match vs with
  | [a, b, c] => .nx (((ρ.set i (some a)).set j (some b)).set k (some c)) st1
  | _ => .stuck := (rfl)
@[simp] theorem ev_isT {T : String} : fIsT T fa ρ st = (fa ρ st).bind fun d st1 => match tyOf d st1 with
  | some n => match kitB n T with
    | some b => .ok (.p (.bool b)) st1
    | none => .stuck
  | none => .stuck := (rfl)
@[simp] theorem ev_chain {g' : G2} : fChain g g' fa fb fc ρ st = (fa ρ st).bind fun x st1 => (fb ρ st1).bind fun y st2 => match g x y st2 with
  | some (.p (.bool true)) => (fc ρ st2).bind fun z st3 => toR st3 (g' y z st3)
  | some (.p (.bool false)) => .ok (.p (.bool false)) st2
  | _ => .stuck := (rfl)
@[simp] theorem ev_lenSet : fLenSet fa ρ st = (fa ρ st).bind fun d st1 => match tupOf d with
  | some ds => match txts ds with
    | some xs => if xs.length < 4000 then .ok (.p (.int (lenSet xs : Nat))) st1 else .stuck
    | none => .stuck
  | none => .stuck := (rfl)
@[simp] theorem ev_cat : fCat fa fb ρ st = (fa ρ st).bind fun x st1 => (fb ρ st1).bind fun y st2 => match lstOf x st2, lstOf y st2 with
  | some xs, some ys => if xs.length + ys.length ≤ 100000 then .ok (xs ++ ys) st2 else .stuck
  | _, _ => .stuck := (rfl)
@[simp] theorem ev_indexT : fIndexT fa fr ρ st = (fa ρ st).bind fun x st1 => match x with
  | .p (.tuple ds) => (fr ρ st1).bind fun xs st2 => toR st2 (gIndexT (.p (.tuple ds)) xs)
  | _ => .stuck := (rfl)
@[simp] theorem ev_get2 {fo fk fd : FE} : fGet2 fo fk fd ρ st = (fo ρ st).bind fun x st1 => match dictOf x st1 with
  | some _ => (fk ρ st1).bind fun y st2 => (fd ρ st2).bind fun z st3 => match dictOf x st3, keyD y with
    | some (_, kvs), some k => .ok ((atK kvs k).getD z) st3
    | _, _ => .stuck
  | none => .stuck := (rfl)
@[simp] theorem ev_aug {fe : FE} : sAug i g fe ρ st = match ρ[i]? with
  | some (some d) => (fe ρ st).st ρ fun y st1 => match g d y st1 with
    | some z => .nx (ρ.set i (some z)) st1
    | none => .stuck
  | _ => .stuck := (rfl)
@[simp] theorem ev_ext {fe : FE} : sExt i fe ρ st = match ρ[i]? with
  | some (some d) => (fe ρ st).st ρ fun y st1 => match cellL d st1, lstOf y st1 with
    | some (j, xs), some ys => if xs.length + ys.length ≤ 100000 then .nx ρ (st1.set j (.lst (xs ++ ys))) else .stuck
    | _, _ => .stuck
  | _ => .stuck := (rfl)
@[simp] theorem forL_nil {tg : Tg} : sForL tg ga [] ρ st = .nx ρ st := (rfl)
@[simp] theorem forL_cons {tg : Tg} {d : Dv} {ds : List Dv} : sForL tg ga (d :: ds) ρ st = toE (tgF tg d ρ) fun ρ' => match ga ρ' st with
    | .nx ρ2 st2 => sForL tg ga ds ρ2 st2
    | .cnt ρ2 st2 => sForL tg ga ds ρ2 st2
    | .brk ρ2 st2 => .nx ρ2 st2
    | r => r := (rfl)
end
/-! ### the store -/
/-- a cell that names no other cell -/
def flatC (c : Cl) : Prop := ∀ n, lowC n c = true
def Flat (st : So) : Prop := ∀ c ∈ st, flatC c
theorem go_map {n : Nat} : ∀ xs : List PyData, lowD.go n (xs.map Dv.p) = true
  | [] => rfl
  | x :: xs => by
    show (lowD n (.p x) && lowD.go n (xs.map Dv.p)) = true
    rw [go_map xs]; rfl
theorem flat_lst (xs : List PyData) : flatC (.lst (xs.map Dv.p)) := fun n => go_map xs
theorem flat_dead : flatC .dead := fun _ => rfl
theorem Flat.nil : Flat [] := fun c h => by cases h
theorem Flat.app {a b : So} (h : Flat a) (h' : Flat b) : Flat (a ++ b) := fun c hc => (List.mem_append.mp hc).elim (h c) (h' c)
theorem Flat.one {c : Cl} (h : flatC c) : Flat [c] := fun d hd => by rw [List.mem_singleton.mp hd]; exact h
theorem Flat.set {st : So} {i : Nat} {c : Cl} (h : Flat st) (hc : flatC c) : Flat (st.set i c) := fun d hd => (List.mem_or_eq_of_mem_set hd).elim (h d) (fun e => e ▸ hc)
theorem Flat.all {st : So} (h : Flat st) (n : Nat) : st.all (lowC n) = true := List.all_eq_true.mpr fun c hc => h c hc n
theorem trim_same {n : Nat} {d : Dv} {st : So} (h : st.length = n) : trim n d st = st := by
  unfold trim
  split
  · rw [← h, List.take_length]
  · rfl
theorem trim_app {d : Dv} {st ex : So} (h : Flat st) (hd : lowD st.length d = true) : trim st.length d (st ++ ex) = st := by
  unfold trim
  rw [List.take_left, hd, h.all]
  rfl
theorem trim_app' {n : Nat} {d : Dv} {st ex : So} (hn : st.length = n) (h : Flat st) (hd : lowD n d = true) : trim n d (st ++ ex) = st := by
  subst hn; exact trim_app h hd
@[simp] theorem low_p {n : Nat} {x : PyData} : lowD n (.p x) = true := (rfl)
theorem runD_ret {N : Nat} {body : FS} {args : List Dv} {st st' : So} {d : Dv} (h : body (args.map some ++ List.replicate (N - args.length) none) st = .ret d st') : runD N body args st = .ok d (trim st.length d st') := by
  unfold runD; rw [h]
theorem runD_nx {N : Nat} {body : FS} {args : List Dv} {st st' : So} {ρ' : Sl} (h : body (args.map some ++ List.replicate (N - args.length) none) st = .nx ρ' st') : runD N body args st = .ok (.p .none) (trim st.length (.p .none) st') := by
  unfold runD; rw [h]
/-- a def that leaves the store as it was -/
theorem runD_pure {N : Nat} {body : FS} {args : List Dv} {st ex : So} {x : PyData} (hF : Flat st) (h : body (args.map some ++ List.replicate (N - args.length) none) st = .ret (.p x) (st ++ ex)) : runD N body args st = .ok (.p x) st := by
  rw [runD_ret h, trim_app hF rfl]
theorem runD_pure0 {N : Nat} {body : FS} {args : List Dv} {st : So} {x : PyData} (h : body (args.map some ++ List.replicate (N - args.length) none) st = .ret (.p x) st) : runD N body args st = .ok (.p x) st := by
  rw [runD_ret h, trim_same rfl]
theorem runD_none0 {N : Nat} {body : FS} {args : List Dv} {st : So} {ρ' : Sl} (h : body (args.map some ++ List.replicate (N - args.length) none) st = .nx ρ' st) : runD N body args st = .ok (.p .none) st := by
  rw [runD_nx h, trim_same rfl]
/-! ### comprehensions whose parts leave the store -/
theorem cmpL_pure {α : Type} {tg : Tg} {tt : FT} {fe : FE} {ρ : Sl} {st : So} {f : α → Dv} {r : α → Sl} {p : α → Bool} {g : α → Dv} : ∀ (xs : List α) (acc : List Dv),
    (∀ x ∈ xs, tgF tg (f x) ρ = some (r x)) → (∀ x ∈ xs, tt (r x) st = .ok (p x) st) → (∀ x ∈ xs, p x = true → fe (r x) st = .ok (g x) st) → cmpL tg tt fe ρ (xs.map f) acc st = .ok (acc ++ (xs.filter p).map g) st
  | [], acc, _, _, _ => by simp [cmpL]
  | x :: xs, acc, h1, h2, h3 => by
    have ih := fun acc => cmpL_pure (r := r) (p := p) (g := g) xs acc (fun y hy => h1 y (List.mem_cons_of_mem _ hy)) (fun y hy => h2 y (List.mem_cons_of_mem _ hy)) (fun y hy => h3 y (List.mem_cons_of_mem _ hy))
    rw [List.map_cons]
    unfold cmpL
    simp only [h1 x List.mem_cons_self, h2 x List.mem_cons_self, bindN_ok]
    cases e : p x with
    | true => simp [h3 x List.mem_cons_self e, ih, e]
    | false => simp [ih, e]
theorem cmpL_all {α : Type} {tg : Tg} {fe : FE} {ρ : Sl} {st : So} {f : α → Dv} {r : α → Sl} {g : α → Dv} (xs : List α) (h1 : ∀ x ∈ xs, tgF tg (f x) ρ = some (r x)) (h3 : ∀ x ∈ xs, fe (r x) st = .ok (g x) st) : cmpL tg tYesF fe ρ (xs.map f) [] st = .ok (xs.map g) st := by
  rw [cmpL_pure (p := fun _ => true) (g := g) xs [] h1 (fun _ _ => rfl) fun x hx _ => h3 x hx, List.nil_append, List.filter_eq_self.mpr fun _ _ => rfl]
theorem cmpC_pure {α : Type} {tg : Tg} {tt : FT} {fe : FE} {ρ : Sl} {st : So} {i : Nat} {f : α → Dv} {r : α → Sl} {p : α → Bool} {g : α → Dv} {all : List α} (hs : st[i]? = some (.lst (all.map f)))
    (h1 : ∀ x ∈ all, tgF tg (f x) ρ = some (r x)) (h2 : ∀ x ∈ all, tt (r x) st = .ok (p x) st) (h3 : ∀ x ∈ all, p x = true → fe (r x) st = .ok (g x) st) : ∀ (fu k : Nat) (acc : List Dv), all.length - k < fu → cmpC tg tt fe ρ i fu k acc st = .ok (acc ++ ((all.drop k).filter p).map g) st
  | 0, k, acc, h => by omega
  | fu + 1, k, acc, h => by
    unfold cmpC cellAt
    rw [hs]
    dsimp only
    rw [List.getElem?_map]
    by_cases hk : k < all.length
    · have hm : all[k] ∈ all := List.getElem_mem hk
      rw [List.getElem?_eq_getElem hk, List.drop_eq_getElem_cons hk]
      simp only [Option.map_some, h1 _ hm, h2 _ hm, bindN_ok]
      have ih := fun acc => cmpC_pure hs h1 h2 h3 fu (k + 1) acc (by omega)
      cases e : p all[k] with
      | true => simp [h3 _ hm e, ih, e, -List.getElem_cons_drop]
      | false => simp [ih, e, -List.getElem_cons_drop]
    · rw [List.getElem?_eq_none (by omega), List.drop_eq_nil_of_le (by omega)]
      simp
/-! ### words, rows -/
abbrev sD (x : Str) : Dv := .p (.str x)
def tw (ws : List Str) : Dv := .p (.tuple (ws.map PyData.str))
def lw (ws : List Str) : Dv := .p (.list (ws.map PyData.str))
theorem map_sD (ws : List Str) : (ws.map PyData.str).map Dv.p = ws.map sD := by rw [List.map_map]; rfl
@[simp] theorem tup_tw (ws : List Str) : tupOf (tw ws) = some (ws.map sD) := by
  show some ((ws.map PyData.str).map Dv.p) = _
  rw [map_sD]
@[simp] theorem seq_tw (ws : List Str) (st : So) : seqOf (tw ws) st = some (ws.map sD) := by
  unfold seqOf
  show (match tupOf (tw ws) with | some xs => some xs | none => lstOf (tw ws) st) = _
  rw [tup_tw]
@[simp] theorem items_tw (ws : List Str) (st : So) : itemsOf (tw ws) st = some (ws.map sD) := seq_tw ws st
@[simp] theorem tup_lw (ws : List Str) : tupOf (lw ws) = none := (rfl)
@[simp] theorem lst_lw (ws : List Str) (st : So) : lstOf (lw ws) st = some (ws.map sD) := by
  show some ((ws.map PyData.str).map Dv.p) = _
  rw [map_sD]
@[simp] theorem seq_lw (ws : List Str) (st : So) : seqOf (lw ws) st = some (ws.map sD) := by
  unfold seqOf
  show (match tupOf (lw ws) with | some xs => some xs | none => lstOf (lw ws) st) = _
  rw [tup_lw]
  exact lst_lw ws st
@[simp] theorem items_lw (ws : List Str) (st : So) : itemsOf (lw ws) st = some (ws.map sD) := seq_lw ws st
@[simp] theorem mkT_s (ws : List Str) : mkT (ws.map sD) = tw ws := by
  unfold mkT
  rw [← map_sD, pures_map]
  rfl
@[simp] theorem mkL_s (ws : List Str) : mkL (ws.map sD) = lw ws := by
  unfold mkL
  rw [← map_sD, pures_map]
  rfl
theorem mkT_p (xs : List PyData) : mkT (xs.map Dv.p) = .p (.tuple xs) := by unfold mkT; rw [pures_map]
theorem mkL_p (xs : List PyData) : mkL (xs.map Dv.p) = .p (.list xs) := by unfold mkL; rw [pures_map]
@[simp] theorem txts_s : ∀ ws : List Str, txts (ws.map sD) = some ws
  | [] => rfl
  | w :: ws => by
    show (txts (ws.map sD)).map (w :: ·) = _
    rw [txts_s ws]; rfl
theorem flVs_s : ∀ ws : List Str, flVs (ws.map sD) = some (ws.map V.str)
  | [] => rfl
  | w :: ws => by
    show (match flV (sD w), flVs (ws.map sD) with | some v, some vs => some (v :: vs) | _, _ => none) = _
    rw [flVs_s ws]; rfl
theorem inV_s (x : Str) (ws : List Str) : inV (.str x) (ws.map V.str) = decide (x ∈ ws) := by
  unfold inV
  rw [List.any_map, Bool.eq_iff_iff, List.any_eq_true, decide_eq_true_eq]
  constructor
  · rintro ⟨y, hy, e⟩
    have : (y == x) = true := e
    rw [beq_iff_eq] at this
    exact this ▸ hy
  · exact fun h => ⟨x, h, beq_self_eq_true x⟩
theorem mem_seq {x : Str} {d : Dv} {ws : List Str} {st : So} (hd : seqOf d st = some (ws.map sD)) (hn : ∀ z, d ≠ .p (.str z)) : memD (sD x) d st = some (decide (x ∈ ws)) := by
  unfold memD
  split
  · rename_i a z e
    exact absurd rfl (hn z)
  · rw [hd]
    dsimp only
    rw [flVs_s]
    show some (inV (.str x) (ws.map V.str)) = _
    rw [inV_s]
@[simp] theorem gIn_tw (x : Str) (ws : List Str) (st : So) : gIn (sD x) (tw ws) st = some (.p (.bool (decide (x ∈ ws)))) := by
  unfold gIn; rw [mem_seq (seq_tw ws st) (fun z e => by cases e)]; rfl
@[simp] theorem gNotIn_tw (x : Str) (ws : List Str) (st : So) : gNotIn (sD x) (tw ws) st = some (.p (.bool (!decide (x ∈ ws)))) := by
  unfold gNotIn; rw [mem_seq (seq_tw ws st) (fun z e => by cases e)]; rfl
@[simp] theorem gIn_lw (x : Str) (ws : List Str) (st : So) : gIn (sD x) (lw ws) st = some (.p (.bool (decide (x ∈ ws)))) := by
  unfold gIn; rw [mem_seq (seq_lw ws st) (fun z e => by cases e)]; rfl
@[simp] theorem gNotIn_lw (x : Str) (ws : List Str) (st : So) : gNotIn (sD x) (lw ws) st = some (.p (.bool (!decide (x ∈ ws)))) := by
  unfold gNotIn; rw [mem_seq (seq_lw ws st) (fun z e => by cases e)]; rfl
@[simp] theorem gLen_tw (ws : List Str) (st : So) : gLen [tw ws] st = some (.p (.int ws.length)) := by
  show (seqOf (tw ws) st).map (fun ys => Dv.p (.int ys.length)) = _
  rw [seq_tw]; simp
@[simp] theorem gLen_lw (ws : List Str) (st : So) : gLen [lw ws] st = some (.p (.int ws.length)) := by
  show (seqOf (lw ws) st).map (fun ys => Dv.p (.int ys.length)) = _
  rw [seq_lw]; simp
@[simp] theorem ty_tw (ws : List Str) (st : So) : tyOf (tw ws) st = some "tuple" := (rfl)
@[simp] theorem gEq_s (a b : Str) (st : So) : gEq (sD a) (sD b) st = some (.p (.bool (decide (a = b)))) := (rfl)
@[simp] theorem gNe_s (a b : Str) (st : So) : gNe (sD a) (sD b) st = some (.p (.bool (!decide (a = b)))) := (rfl)
@[simp] theorem gEq_i (a b : Int) (st : So) : gEq (.p (.int a)) (.p (.int b)) st = some (.p (.bool (decide (a = b)))) := (rfl)
@[simp] theorem gNe_i (a b : Int) (st : So) : gNe (.p (.int a)) (.p (.int b)) st = some (.p (.bool (!decide (a = b)))) := (rfl)
theorem eqvAll_s : ∀ a b : List Str, PyData.eqvAll (a.map PyData.str) (b.map PyData.str) = decide (a = b)
  | [], [] => rfl
  | [], _ :: _ => rfl
  | _ :: _, [] => rfl
  | x :: a, y :: b => by
    show (PyData.eqv (.str x) (.str y) && PyData.eqvAll (a.map PyData.str) (b.map PyData.str)) = _
    rw [eqvAll_s a b]
    show ((x == y) && decide (a = b)) = _
    rw [Bool.eq_iff_iff]
    simp
def SOkL (a : List Str) : Prop := ∀ w ∈ a, PyData.strOk w = true
theorem canAll_s : ∀ a : List Str, SOkL a → PyData.canLayAll0 (a.map PyData.str) = true
  | [], _ => rfl
  | x :: a, h => by
    show (PyData.canLay0 (.str x) && PyData.canLayAll0 (a.map PyData.str)) = true
    rw [canAll_s a fun w hw => h w (List.mem_cons_of_mem _ hw), Bool.and_true]
    simpa [PyData.canLay0] using h x List.mem_cons_self
theorem depthAll_s : ∀ a : List Str, PyData.depthAll (a.map PyData.str) ≤ 1
  | [] => by simp [PyData.depthAll]
  | x :: a => by
    have := depthAll_s a
    simp [PyData.depthAll, PyData.depth] at this ⊢
    try omega
theorem shaped_tw (a : List Str) (h : SOkL a) : SeqAt.shaped (.tuple (a.map PyData.str)) = true := by
  unfold SeqAt.shaped
  have h1 : PyData.canLay0 (.tuple (a.map PyData.str)) = true := by simpa [PyData.canLay0] using canAll_s a h
  have h2 := depthAll_s a
  have h3 : PyData.depth (.tuple (a.map PyData.str)) ≤ 64 := by simp [PyData.depth]; omega
  rw [h1, decide_eq_true h3]; rfl
theorem eqD_tw (a b : List Str) (st : So) (ha : SOkL a) (hb : SOkL b) : eqD (tw a) (tw b) st = some (decide (a = b)) := by
  show (if SeqAt.shaped (.tuple (a.map PyData.str)) && SeqAt.shaped (.tuple (b.map PyData.str)) then some (PyData.eqv (.tuple (a.map PyData.str)) (.tuple (b.map PyData.str))) else none) = _
  rw [shaped_tw a ha, shaped_tw b hb]
  show some (PyData.eqvAll (a.map PyData.str) (b.map PyData.str)) = _
  rw [eqvAll_s]
theorem gEq_tw (a b : List Str) (st : So) (ha : SOkL a) (hb : SOkL b) : gEq (tw a) (tw b) st = some (.p (.bool (decide (a = b)))) := by unfold gEq; rw [eqD_tw a b st ha hb]; rfl
theorem gNe_tw (a b : List Str) (st : So) (ha : SOkL a) (hb : SOkL b) : gNe (tw a) (tw b) st = some (.p (.bool (!decide (a = b)))) := by unfold gNe; rw [eqD_tw a b st ha hb]; rfl
@[simp] theorem gTuple_lw (ws : List Str) (st : So) (h : ws.length ≤ 100000) : gTuple [lw ws] st = some (tw ws) := by
  show (match tupOf (lw ws) with | some _ => some (lw ws) | none => match lstOf (lw ws) st with | some ys => if small ys then some (mkT ys) else none | none => none) = _
  rw [tup_lw, lst_lw]
  have : small (ws.map sD) = true := by unfold small; rw [List.length_map]; exact decide_eq_true h
  simp only [this, if_true, mkT_s]
@[simp] theorem small_map {α : Type} {f : α → Dv} (xs : List α) : small (xs.map f) = decide (xs.length ≤ 100000) := by unfold small; rw [List.length_map]
theorem bools_b : ∀ bs : List Bool, bools (bs.map fun b => Dv.p (.bool b)) = some bs
  | [] => rfl
  | b :: bs => by
    show (bools (bs.map fun b => Dv.p (.bool b))).map (b :: ·) = _
    rw [bools_b bs]; rfl
theorem intsD_i : ∀ bs : List Int, intsD (bs.map fun b => Dv.p (.int b)) = some bs
  | [] => rfl
  | b :: bs => by
    show (intsD (bs.map fun b => Dv.p (.int b))).map (b :: ·) = _
    rw [intsD_i bs]; rfl
/-- all(a list of bools), as mkL gives it -/
theorem mkL_lst (ds : List Dv) (xs : List PyData) (h : ds = xs.map Dv.p) (st : So) : lstOf (mkL ds) st = some ds := by
  subst h
  rw [mkL_p]; rfl
theorem mkL_b (bs : List Bool) : mkL (bs.map fun b => Dv.p (.bool b)) = .p (.list (bs.map PyData.bool)) := by
  rw [← mkL_p, List.map_map]; rfl
theorem mkL_i (bs : List Int) : mkL (bs.map fun b => Dv.p (.int b)) = .p (.list (bs.map PyData.int)) := by
  rw [← mkL_p, List.map_map]; rfl
theorem gAll_b (bs : List Bool) (st : So) : gAll [mkL (bs.map fun b => Dv.p (.bool b))] st = some (.p (.bool (bs.all id))) := by
  rw [mkL_b]
  show ((bools ((bs.map PyData.bool).map Dv.p)).map fun (bs : List Bool) => Dv.p (.bool (bs.all id))) = _
  rw [List.map_map]
  show ((bools (bs.map fun b => Dv.p (.bool b))).map fun (bs : List Bool) => Dv.p (.bool (bs.all id))) = _
  rw [bools_b]; rfl
theorem gMax_i (b : Int) (bs : List Int) (st : So) : gMax [mkL ((b :: bs).map fun b => Dv.p (.int b))] st = some (.p (.int (maxL (b :: bs)))) := by
  rw [mkL_i]
  show (match intsD (((b :: bs).map PyData.int).map Dv.p) with | some (x :: r) => some (Dv.p (.int (maxL (x :: r)))) | _ => none) = _
  rw [List.map_map]
  have e := intsD_i (b :: bs)
  have e2 : List.map (Dv.p ∘ PyData.int) (b :: bs) = (b :: bs).map fun b => Dv.p (.int b) := (rfl)
  rw [e2, e]
/-! ### plain iterables -/
theorem ev_lcV {fa : FE} {tg : Tg} {tt : FT} {fe : FE} {ρ : Sl} {st st1 : So} {d : Dv} {items : List Dv} (hd : fa ρ st = .ok d st1) (hi : itemsOf d st1 = some items) (hl : items.length ≤ 100000) :
    fLcV fa tg tt fe ρ st = cmpL tg tt fe (rhoW ρ (tgS tg)) items [] st1 := by
  unfold fLcV
  rw [hd]
  cases d with
  | ref i => exact absurd hi (by simp [itemsOf])
  | _ => simp only [bind_ok, hi, if_pos hl]
theorem ev_lcVC {fa : FE} {tg : Tg} {tt : FT} {fe : FE} {ρ : Sl} {st st1 : So} {i : Nat} (hd : fa ρ st = .ok (.ref i) st1) :
    fLcV fa tg tt fe ρ st = cmpC tg tt fe (rhoW ρ (tgS tg)) i 100001 0 [] st1 := by
  unfold fLcV
  rw [hd]
  rfl
theorem ev_forV {fa : FE} {tg : Tg} {body : FS} {ρ : Sl} {st st1 : So} {d : Dv} {items : List Dv} (hd : fa ρ st = .ok d st1) (hi : itemsOf d st1 = some items) : sForV fa tg body ρ st = sForL tg body items ρ st1 := by
  unfold sForV
  rw [hd]
  cases d with
  | ref i => exact absurd hi (by simp [itemsOf])
  | _ => simp only [st_ok, hi]
theorem ev_forVC {fa : FE} {tg : Tg} {body : FS} {ρ : Sl} {st st1 : So} {i : Nat} (hd : fa ρ st = .ok (.ref i) st1) : sForV fa tg body ρ st = sForC tg body i 100001 0 ρ st1 := by
  unfold sForV
  rw [hd]
  rfl
theorem rhoW_one {ρ : Sl} {i : Nat} : rhoW ρ (tgS (.nm i)) = ρ.set i none := by simp [tgS, rhoW]
theorem rhoW_two {ρ : Sl} {i j : Nat} : rhoW ρ (tgS (.tp [.nm i, .nm j])) = (ρ.set j none).set i none := by simp [tgS, tgSs, rhoW]
theorem items_str (x : Str) (st : So) : itemsOf (sD x) st = some (x.cps.toList.map fun c => .p (.str ⟨#[c]⟩)) := (rfl)
theorem ty_s (x : Str) (st : So) : tyOf (sD x) st = some "str" := (rfl)
theorem kit_ss : kitB "str" "str" = some true := by decide +kernel
theorem kit_tt : kitB "tuple" "tuple" = some true := by decide +kernel
theorem kit_ll : kitB "list" "list" = some true := by decide +kernel
theorem kit_ib : kitB "int" "bool" = some false := by decide +kernel
theorem lcV_pure {α : Type} {fa : FE} {tg : Tg} {tt : FT} {fe : FE} {ρ : Sl} (ρ0 : Sl) {st : So} {d : Dv} {xs : List α} {f : α → Dv} (r : α → Sl) (p : α → Bool) (g : α → Dv) (hd : fa ρ st = .ok d st) (hi : itemsOf d st = some (xs.map f)) (hl : xs.length ≤ 100000) (hρ : rhoW ρ (tgS tg) = ρ0)
    (h1 : ∀ x ∈ xs, tgF tg (f x) ρ0 = some (r x)) (h2 : ∀ x ∈ xs, tt (r x) st = .ok (p x) st) (h3 : ∀ x ∈ xs, p x = true → fe (r x) st = .ok (g x) st) : fLcV fa tg tt fe ρ st = .ok ((xs.filter p).map g) st := by
  rw [ev_lcV hd hi (by rw [List.length_map]; exact hl), hρ, cmpL_pure xs [] h1 h2 h3, List.nil_append]
theorem lcV_all {α : Type} {fa : FE} {tg : Tg} {fe : FE} {ρ : Sl} (ρ0 : Sl) {st : So} {d : Dv} {xs : List α} {f : α → Dv} (r : α → Sl) (g : α → Dv) (hd : fa ρ st = .ok d st) (hi : itemsOf d st = some (xs.map f)) (hl : xs.length ≤ 100000) (hρ : rhoW ρ (tgS tg) = ρ0)
    (h1 : ∀ x ∈ xs, tgF tg (f x) ρ0 = some (r x)) (h3 : ∀ x ∈ xs, fe (r x) st = .ok (g x) st) : fLcV fa tg tYesF fe ρ st = .ok (xs.map g) st := by
  rw [ev_lcV hd hi (by rw [List.length_map]; exact hl), hρ, cmpL_all xs h1 h3]
theorem lc_all {α : Type} {fi : FA} {tg : Tg} {fe : FE} {ρ : Sl} (ρ0 : Sl) {st : So} {xs : List α} {f : α → Dv} (r : α → Sl) (g : α → Dv) (hi : fi ρ st = .ok (xs.map f) st) (hl : xs.length ≤ 100000) (hρ : rhoW ρ (tgS tg) = ρ0)
    (h1 : ∀ x ∈ xs, tgF tg (f x) ρ0 = some (r x)) (h3 : ∀ x ∈ xs, fe (r x) st = .ok (g x) st) : fLc fi tg tYesF fe ρ st = .ok (xs.map g) st := by
  unfold fLc
  rw [hi, bind_ok, List.length_map, if_pos hl, hρ, cmpL_all xs h1 h3]
theorem lc_pure {α : Type} {fi : FA} {tg : Tg} {tt : FT} {fe : FE} {ρ : Sl} (ρ0 : Sl) {st : So} {xs : List α} {f : α → Dv} (r : α → Sl) (p : α → Bool) (g : α → Dv) (hi : fi ρ st = .ok (xs.map f) st) (hl : xs.length ≤ 100000) (hρ : rhoW ρ (tgS tg) = ρ0)
    (h1 : ∀ x ∈ xs, tgF tg (f x) ρ0 = some (r x)) (h2 : ∀ x ∈ xs, tt (r x) st = .ok (p x) st) (h3 : ∀ x ∈ xs, p x = true → fe (r x) st = .ok (g x) st) : fLc fi tg tt fe ρ st = .ok ((xs.filter p).map g) st := by
  unfold fLc
  rw [hi, bind_ok, List.length_map, if_pos hl, hρ, cmpL_pure xs [] h1 h2 h3, List.nil_append]
theorem pure_ok {α : Type} {fr : FA} {ρ : Sl} {st st1 : So} {xs : List α} {g : α → PyData} (h : fr ρ st = .ok (xs.map fun x => Dv.p (g x)) st1) (hl : xs.length ≤ 100000) : fPure fr ρ st = .ok (.p (.list (xs.map g))) st1 := by
  rw [ev_pure, h, bind_ok, small_map, decide_eq_true hl, if_pos rfl, ← mkL_p, List.map_map]; rfl
theorem mkL_map {α : Type} (f : α → PyData) (xs : List α) : mkL (xs.map fun x => Dv.p (f x)) = .p (.list (xs.map f)) := by
  rw [← mkL_p, List.map_map]; rfl
theorem items_l (xs : List PyData) (st : So) : itemsOf (.p (.list xs)) st = some (xs.map Dv.p) := (rfl)
theorem items_lmap {α : Type} (f : α → PyData) (xs : List α) (st : So) : itemsOf (.p (.list (xs.map f))) st = some (xs.map fun x => Dv.p (f x)) := by
  rw [items_l, List.map_map]; rfl
theorem rng_pure {a : Int} {st : So} (h : okR a = true) : optR st (rng1 [.p (.int a)]) = .ok (rngL 0 a.toNat) st := by
  show optR st (if okR a then some (rngL 0 a.toNat) else none) = _
  rw [if_pos h]; rfl
theorem rng2_pure {a b : Int} {st : So} (h : okR a = true) (h2 : okR b = true) : optR st (rng2 [.p (.int a), .p (.int b)]) = .ok (rngL a (b - a).toNat) st := by
  show optR st (if okR a && okR b then some (rngL a (b - a).toNat) else none) = _
  rw [h, h2]; rfl
theorem okR_small {a : Int} (h1 : -1000000 ≤ a) (h2 : a ≤ 1000000) : okR a = true := by
  unfold okR
  rw [decide_eq_true (by omega), decide_eq_true (by omega)]; rfl
theorem rngL_zero (n : Nat) : rngL 0 n = (List.range n).map fun k => Dv.p (.int (k : Nat)) := by
  unfold rngL
  apply List.map_congr_left
  intro k _
  rw [Int.zero_add]
theorem rngL_succ (lo : Int) (n : Nat) : rngL lo (n + 1) = .p (.int lo) :: rngL (lo + 1) n := by
  unfold rngL
  rw [List.range_succ_eq_map, List.map_cons, List.map_map]
  congr 1
  · simp
  · apply List.map_congr_left
    intro k _
    simp only [Function.comp]
    congr 2
    push_cast
    omega
theorem small2 (a b : Dv) : small [a, b] = true := decide_eq_true (show 2 ≤ 100000 by decide)
theorem small3 (a b c : Dv) : small [a, b, c] = true := decide_eq_true (show 3 ≤ 100000 by decide)
theorem small1 (a : Dv) : small [a] = true := decide_eq_true (show 1 ≤ 100000 by decide)
theorem small0 : small [] = true := decide_eq_true (show 0 ≤ 100000 by decide)
theorem mkT2 (a b : PyData) : mkT [.p a, .p b] = .p (.tuple [a, b]) := (rfl)
theorem mkT3 (a b c : PyData) : mkT [.p a, .p b, .p c] = .p (.tuple [a, b, c]) := (rfl)
theorem tup2_ok {fa fb : FE} {ρ : Sl} {st st1 st2 : So} {x y : PyData} (h1 : fa ρ st = .ok (.p x) st1) (h2 : fb ρ st1 = .ok (.p y) st2) : fTup (fCons fa (fCons fb fNil)) ρ st = .ok (.p (.tuple [x, y])) st2 := by
  simp only [ev_tup, ev_cons, ev_nil, h1, bind_ok, h2, small2, if_true, mkT2]
end FB
set_option Elab.async false
set_option linter.all false
set_option maxRecDepth 100000
set_option maxHeartbeats 4000000
namespace FB.K64
open PySem PySem.Spec PyProof.Rows L2 RZ FB
abbrev N_is_word : List Str := ["value", "letter"]
abbrev m_is_word : FS := sRet (fAnd (fIsT "str" (fVar 0)) (fAnd (fChain gLe gLe (fC (.int 1)) (fCB gLen (fCons (fVar 0) (fNil))) (fC (.int 8))) (fCB gAll (fCons (fPure (fLcV (fVar 0) (.nm 1) (tYesF) (fOp gIn (fVar 1) (fC (.str "abcdefghijklmnopqrstuvwxyz"))))) (fNil)))))
def d_is_word : FD := runD 2 m_is_word

abbrev N_words_of : List Str := ["program", "verb", "word"]
abbrev m_words_of : FS := sRet (fPure (fListK (fDc (fIter (fVar 0)) (.tp [.nm 1, .nm 2]) (tYesF) (fVar 2) (fC (.bool true)))))
def d_words_of : FD := runD 3 m_words_of

abbrev N_execute : List Str := ["operation", "row", "rest", "verb", "word", "other"]
abbrev m_execute : FS := sSeq (sAsg (fVar 0) (.tp [.nm 3, .nm 4])) (sSeq (sIf (fTB (fOp gIn (fVar 3) (fIf (fTB (fOp gIn (fVar 4) (fVar 1))) (fC (.tuple ((["addfront", "addback"] : List Str).map PyData.str))) (fC (.tuple ((["lift", "sink", "drop"] : List Str).map PyData.str)))))) (sRet (fVar 1)) (sNext)) (sSeq (sAsg (fCB gTuple (fCons (fPure (fLcV (fVar 1) (.nm 5) (fTB (fOp gNe (fVar 5) (fVar 4))) (fVar 5))) (fNil))) (.nm 2)) (sSeq (sIf (fTB (fOp gEq (fVar 3) (fC (.str "drop")))) (sRet (fVar 2)) (sNext)) (sRet (fIf (fTB (fOp gIn (fVar 3) (fC (.tuple ((["front", "addfront", "lift"] : List Str).map PyData.str))))) (fOp gAdd (fTup (fCons (fVar 4) (fNil))) (fVar 2)) (fOp gAdd (fVar 2) (fTup (fCons (fVar 4) (fNil)))))))))
def d_execute : FD := runD 6 m_execute

abbrev N_place_after : List Str := ["verb", "place"]
abbrev m_place_after : FS := sSeq (sIf (fTB (fOp gIn (fVar 0) (fIf (fTB (fOp gEq (fVar 1) (fC (.str "out")))) (fC (.tuple ((["lift", "sink", "drop"] : List Str).map PyData.str))) (fC (.tuple ((["addfront", "addback"] : List Str).map PyData.str)))))) (sRet (fVar 1)) (sNext)) (sSeq (sIf (fTB (fOp gEq (fVar 0) (fC (.str "drop")))) (sRet (fC (.str "out"))) (sNext)) (sRet (fIf (fTB (fOp gIn (fVar 0) (fC (.tuple ((["front", "addfront", "lift"] : List Str).map PyData.str))))) (fC (.str "front")) (fC (.str "back")))))
def d_place_after : FD := runD 2 m_place_after

abbrev N_moves : List Str := ["verb", "place"]
abbrev m_moves : FS := sRet (fOp gNotIn (fVar 0) (fIf (fTB (fOp gEq (fVar 1) (fC (.str "out")))) (fC (.tuple ((["lift", "sink", "drop"] : List Str).map PyData.str))) (fC (.tuple ((["addfront", "addback"] : List Str).map PyData.str)))))
def d_moves : FD := runD 2 m_moves

abbrev N_side_by_side : List Str := ["entries", "first", "second", "found", "word", "case"]
abbrev m_side_by_side : FS := sSeq (sAsg (fCell ((fun ρ st => ((fNil) ρ st).bind fun xs st1 => if small xs then .ok xs st1 else .stuck))) (.nm 3)) (sSeq (sForV (fVar 0) (.tp [.nm 4, .nm 5]) (sSeq (sIf (fTAnd (fTB (fOp gGt (fCB gLen (fCons (fVar 3) (fNil))) (fC (.int 0)))) (fTAnd (fTB (fOp gEq (fOp gIxA (fVar 3) (fUn gNeg (fC (.int 1)))) (fTup (fCons (fVar 4) (fCons (fVar 1) (fNil)))))) (fTB (fOp gEq (fVar 5) (fVar 2))))) (sSeq (sDrop (fMth0 gPop (fVar 3))) (sAsg (fC (.str "always")) (.nm 5))) (sNext)) (sDrop (fMth gAppend (fVar 3) (fCons (fTup (fCons (fVar 4) (fCons (fVar 5) (fNil)))) (fNil)))))) (sRet (fCB gTuple (fCons (fVar 3) (fNil)))))
def d_side_by_side : FD := runD 6 m_side_by_side

abbrev N_comes_after : List Str := ["entry", "entries", "found"]
abbrev m_comes_after : FS := sSeq (sAsg (fTup (fCons (fOp gIxA (fVar 0) (fC (.int 0))) (fCons (fC (.str "present")) (fNil)))) (.nm 2)) (sRet (fIf (fTAnd (fTB (fOp gEq (fOp gIxA (fVar 0) (fC (.int 1))) (fC (.str "absent")))) (fTB (fOp gIn (fVar 2) (fVar 1)))) (fVar 2) (fC .none)))
def d_comes_after : FD := runD 3 m_comes_after

abbrev N_are_single : List Str := ["front", "back", "dropped", "entries", "word", "case", "cases", "name", "other"]
abbrev m_are_single : FS := sSeq (sAsg (fOp gAdd (fVar 0) (fVar 1)) (.nm 3)) (sSeq (sForV (fVar 3) (.tp [.nm 4, .nm 5]) (sSeq (sAsg (fPure (fLcV (fVar 3) (.tp [.nm 7, .nm 8]) (fTB (fOp gEq (fVar 7) (fVar 4))) (fVar 8))) (.nm 6)) (sIf (fTOr (fTB (fOp gIn (fVar 4) (fVar 2))) (fTOr (fTB (fOp gGt (fCB gLen (fCons (fVar 6) (fNil))) (fC (.int 2)))) (fTAnd (fTB (fOp gEq (fCB gLen (fCons (fVar 6) (fNil))) (fC (.int 2)))) (fTB (fOp gNe (fPure (fSortS (fVar 6))) (fPure ((fun ρ st => ((fCons (fC (.str "absent")) (fCons (fC (.str "present")) (fNil))) ρ st).bind fun xs st1 => if small xs then .ok xs st1 else .stuck)))))))) (sRet (fC (.bool false))) (sNext)))) (sRet (fC (.bool true))))
def d_are_single : FD := runD 9 m_are_single

abbrev N_words_in : List Str := ["meaning", "front", "back", "dropped", "word", "entry"]
abbrev m_words_in : FS := sSeq (sAsg (fVar 0) (.tp [.nm 1, .nm 2, .nm 3])) (sRet (fPure (fListK (fDc (fIter (fOp gAdd (fPure (fLcV (fOp gAdd (fVar 1) (fVar 2)) (.nm 5) (tYesF) (fOp gIxA (fVar 5) (fC (.int 0))))) (fPure (fListOf (fVar 3))))) (.nm 4) (tYesF) (fVar 4) (fC (.bool true))))))
def d_words_in : FD := runD 6 m_words_in

abbrev N__law_mixed : List Str := ["cell", "k", "mix"]
abbrev m__law_mixed : FS := sSeq (sAsg (fOp gMod (fCB gInt (fCons (fOp gAdd (fOp gAdd (fOp gMulA (fOp gMod (fCB gInt (fCons (fVar 0) (fNil))) (fC (.int 2147483647))) (fC (.int 48271))) (fOp gMulA (fVar 1) (fC (.int 69621)))) (fC (.int 1048583))) (fNil))) (fC (.int 2147483629))) (.nm 2)) (sSeq (sAsg (fOp gMod (fCB gInt (fCons (fOp gMulA (fVar 2) (fVar 2)) (fNil))) (fC (.int 2147483587))) (.nm 2)) (sRet (fOp gMod (fCB gInt (fCons (fOp gMulA (fVar 2) (fOp gAdd (fVar 2) (fC (.int 2)))) (fNil))) (fC (.int 2147483579)))))
def d__law_mixed : FD := runD 3 m__law_mixed

abbrev N__law_take : List Str := ["own", "options", "digit"]
abbrev m__law_take : FS := sSeq (sAsg (fOp gMod (fCB gInt (fCons (fOp gIxA (fVar 0) (fC (.int 0))) (fNil))) (fVar 1)) (.nm 2)) (sSeq (sSet (fOp gDiv (fOp gIxA (fVar 0) (fC (.int 0))) (fVar 1)) (fVar 0) (fC (.int 0))) (sRet (fVar 2)))
def d__law_take : FD := runD 3 m__law_take

abbrev N_are_words : List Str := ["value", "word"]
abbrev m_are_words : FS := sRet (fAnd (fIsT "tuple" (fVar 0)) (fAnd (fCB gAll (fCons (fPure (fLcV (fVar 0) (.nm 1) (tYesF) (fCall d_is_word (fCons (fVar 1) (fNil))))) (fNil))) (fOp gEq (fLenSet (fVar 0)) (fCB gLen (fCons (fVar 0) (fNil))))))
def d_are_words : FD := runD 2 m_are_words

abbrev N_is_operation : List Str := ["value"]
abbrev m_is_operation : FS := sSeq (sIf (fTOr (fTNot (fTB (fIsT "tuple" (fVar 0)))) (fTOr (fTB (fOp gNe (fCB gLen (fCons (fVar 0) (fNil))) (fC (.int 2)))) (fTNot (fTB (fIsT "str" (fOp gIxA (fVar 0) (fC (.int 0)))))))) (sRet (fC (.bool false))) (sNext)) (sRet (fAnd (fOp gIn (fOp gIxA (fVar 0) (fC (.int 0))) (fC (.tuple ((["front", "back", "drop", "addfront", "addback", "lift", "sink"] : List Str).map PyData.str)))) (fCall d_is_word (fCons (fOp gIxA (fVar 0) (fC (.int 1))) (fNil)))))
def d_is_operation : FD := runD 1 m_is_operation

abbrev N_run_on : List Str := ["program", "row", "operation"]
abbrev m_run_on : FS := sSeq (sForV (fVar 0) (.nm 2) (sAsg (fCall d_execute (fCons (fVar 2) (fCons (fVar 1) (fNil)))) (.nm 1))) (sRet (fVar 1))
def d_run_on : FD := runD 3 m_run_on

abbrev N_ends_of : List Str := ["program", "word", "ends", "time", "operation", "verb", "end"]
abbrev m_ends_of : FS := sSeq (sAsg (fPure ((fun ρ st => ((fCons (fTup (fCons (fC (.str "middle")) (fCons (fUn gNeg (fC (.int 1))) (fNil)))) (fCons (fTup (fCons (fC (.str "out")) (fCons (fUn gNeg (fC (.int 1))) (fNil)))) (fNil))) ρ st).bind fun xs st1 => if small xs then .ok xs st1 else .stuck))) (.nm 2)) (sSeq (sFor (fSt enumAny (fCons (fVar 0) (fNil))) (.tp [.nm 3, .nm 4]) (sSeq (sAsg (fOp gIxA (fVar 4) (fC (.int 0))) (.nm 5)) (sIf (fTB (fOp gEq (fOp gIxA (fVar 4) (fC (.int 1))) (fVar 1))) (sAsg (fPure (fLcV (fVar 2) (.nm 6) (tYesF) (fIf (fTB (fCall d_moves (fCons (fVar 5) (fCons (fOp gIxA (fVar 6) (fC (.int 0))) (fNil))))) (fTup (fCons (fCall d_place_after (fCons (fVar 5) (fCons (fOp gIxA (fVar 6) (fC (.int 0))) (fNil)))) (fCons (fVar 3) (fNil)))) (fVar 6)))) (.nm 2)) (sNext)))) (sRet (fVar 2)))
def d_ends_of : FD := runD 7 m_ends_of

abbrev N_are_entries : List Str := ["value", "entry"]
abbrev m_are_entries : FS := sSeq (sIf (fTNot (fTB (fIsT "tuple" (fVar 0)))) (sRet (fC (.bool false))) (sNext)) (sSeq (sForV (fVar 0) (.nm 1) (sSeq (sIf (fTOr (fTNot (fTB (fIsT "tuple" (fVar 1)))) (fTOr (fTB (fOp gNe (fCB gLen (fCons (fVar 1) (fNil))) (fC (.int 2)))) (fTOr (fTNot (fTB (fCall d_is_word (fCons (fOp gIxA (fVar 1) (fC (.int 0))) (fNil))))) (fTNot (fTB (fIsT "str" (fOp gIxA (fVar 1) (fC (.int 1))))))))) (sRet (fC (.bool false))) (sNext)) (sIf (fTB (fOp gNotIn (fOp gIxA (fVar 1) (fC (.int 1))) (fC (.tuple ((["always", "present", "absent"] : List Str).map PyData.str))))) (sRet (fC (.bool false))) (sNext)))) (sRet (fC (.bool true))))
def d_are_entries : FD := runD 2 m_are_entries

abbrev N_made : List Str := ["front", "back", "one", "other", "entries", "found", "done"]
abbrev m_made : FS := sSeq (sAsg (fCell (fListOf (fUn gRev (fVar 0)))) (.nm 2)) (sSeq (sAsg (fCell (fListOf (fVar 1))) (.nm 3)) (sSeq (sAsg (fOp gAdd (fVar 2) (fVar 3)) (.nm 4)) (sSeq (sAsg (fCell ((fun ρ st => ((fNil) ρ st).bind fun xs st1 => if small xs then .ok xs st1 else .stuck))) (.nm 5)) (sSeq (sAsg (fCell ((fun ρ st => ((fNil) ρ st).bind fun xs st1 => if small xs then .ok xs st1 else .stuck))) (.nm 6)) (sSeq (sWh (fTB (fOp gGt (fOp gAdd (fCB gLen (fCons (fVar 2) (fNil))) (fCB gLen (fCons (fVar 3) (fNil)))) (fC (.int 0)))) (sIf (fTAnd (fTB (fOp gGt (fCB gLen (fCons (fVar 2) (fNil))) (fC (.int 0)))) (fTB (fOp gIn (fCall d_comes_after (fCons (fOp gIxA (fVar 2) (fC (.int 0))) (fCons (fVar 4) (fNil)))) (fOp gAdd (fVar 6) (fPure ((fun ρ st => ((fCons (fC .none) (fNil)) ρ st).bind fun xs st1 => if small xs then .ok xs st1 else .stuck))))))) (sSeq (sDrop (fMth gAppend (fVar 6) (fCons (fMth gPopAt (fVar 2) (fCons (fC (.int 0)) (fNil))) (fNil)))) (sDrop (fMth gAppend (fVar 5) (fCons (fTup (fCons (fOp gIxC (fKV [("always", "front"), ("present", "lift"), ("absent", "addfront")]) (fOp gIxA (fOp gIxA (fVar 6) (fUn gNeg (fC (.int 1)))) (fC (.int 1)))) (fCons (fOp gIxA (fOp gIxA (fVar 6) (fUn gNeg (fC (.int 1)))) (fC (.int 0))) (fNil)))) (fNil))))) (sIf (fTAnd (fTB (fOp gGt (fCB gLen (fCons (fVar 3) (fNil))) (fC (.int 0)))) (fTB (fOp gIn (fCall d_comes_after (fCons (fOp gIxA (fVar 3) (fC (.int 0))) (fCons (fVar 4) (fNil)))) (fOp gAdd (fVar 6) (fPure ((fun ρ st => ((fCons (fC .none) (fNil)) ρ st).bind fun xs st1 => if small xs then .ok xs st1 else .stuck))))))) (sSeq (sDrop (fMth gAppend (fVar 6) (fCons (fMth gPopAt (fVar 3) (fCons (fC (.int 0)) (fNil))) (fNil)))) (sDrop (fMth gAppend (fVar 5) (fCons (fTup (fCons (fOp gIxC (fKV [("always", "back"), ("present", "sink"), ("absent", "addback")]) (fOp gIxA (fOp gIxA (fVar 6) (fUn gNeg (fC (.int 1)))) (fC (.int 1)))) (fCons (fOp gIxA (fOp gIxA (fVar 6) (fUn gNeg (fC (.int 1)))) (fC (.int 0))) (fNil)))) (fNil))))) (sRet (fC .none)))) 100000) (sRet (fFrz (fVar 5))))))))
def d_made : FD := runD 7 m_made

abbrev N__law_cell : List Str := ["script", "k", "cell", "found", "j"]
abbrev m__law_cell : FS := sSeq (sAsg (fC (.int 0)) (.nm 2)) (sSeq (sIf (fTB (fOp gLt (fVar 1) (fCB gLen (fCons (fVar 0) (fNil))))) (sAsg (fOp gIxA (fVar 0) (fVar 1)) (.nm 2)) (sNext)) (sSeq (sIf (fTB (fOp gGe (fVar 2) (fOp gPow (fC (.int 10)) (fC (.int 18))))) (sRet (fOp gMod (fCB gInt (fCons (fOp gSub (fVar 2) (fOp gPow (fC (.int 10)) (fC (.int 18)))) (fNil))) (fOp gMulA (fOp gMulA (fOp gMulA (fOp gPow (fC (.int 10)) (fC (.int 60))) (fOp gPow (fC (.int 10)) (fC (.int 60)))) (fOp gPow (fC (.int 10)) (fC (.int 60)))) (fOp gPow (fC (.int 10)) (fC (.int 60)))))) (sNext)) (sSeq (sAsg (fC (.int 0)) (.nm 3)) (sSeq (sFor (fRng rng1 (fCons (fC (.int 24)) (fNil))) (.nm 4) (sAsg (fOp gAdd (fOp gMulA (fVar 3) (fC (.int 2147483579))) (fCall d__law_mixed (fCons (fVar 2) (fCons (fOp gAdd (fOp gAdd (fOp gMulA (fC (.int 7)) (fVar 1)) (fOp gMulA (fC (.int 100)) (fVar 4))) (fOp gMulA (fVar 4) (fVar 4))) (fNil))))) (.nm 3))) (sRet (fVar 3))))))
def d__law_cell : FD := runD 5 m__law_cell

abbrev N__law_words : List Str := ["own", "many", "some", "at"]
abbrev m__law_words : FS := sSeq (sAsg (fPure ((fun ρ st => ((fCons (fC (.str "a")) (fCons (fC (.str "ab")) (fCons (fC (.str "b")) (fCons (fC (.str "front")) (fCons (fC (.str "x")) (fCons (fC (.str "abcdefgh")) (fCons (fC (.str "lift")) (fCons (fC (.str "z")) (fNil))))))))) ρ st).bind fun xs st1 => if small xs then .ok xs st1 else .stuck))) (.nm 2)) (sSeq (sAsg (fCall d__law_take (fCons (fVar 0) (fCons (fC (.int 8)) (fNil)))) (.nm 3)) (sRet (fSl (fOp gAdd (fSl (fVar 2) (fPt (fVar 3)) (fNoP)) (fSl (fVar 2) (fNoP) (fPt (fVar 3)))) (fNoP) (fPt (fVar 1)))))
def d__law_words : FD := runD 4 m__law_words

abbrev N__law_some : List Str := ["own", "words", "verbs", "most", "many", "k"]
abbrev m__law_some : FS := sSeq (sAsg (fCall d__law_take (fCons (fVar 0) (fCons (fOp gAdd (fVar 3) (fC (.int 1))) (fNil)))) (.nm 4)) (sRet (fPure (fLc (fRng rng1 (fCons (fVar 4) (fNil))) (.nm 5) (tYesF) (fTup (fCons (fOp gIxA (fVar 2) (fCall d__law_take (fCons (fVar 0) (fCons (fCB gLen (fCons (fVar 2) (fNil))) (fNil))))) (fCons (fOp gIxA (fVar 1) (fCall d__law_take (fCons (fVar 0) (fCons (fCB gLen (fCons (fVar 1) (fNil))) (fNil))))) (fNil)))))))
def d__law_some : FD := runD 6 m__law_some

abbrev N__law_verbs : List Str := ["own", "found"]
abbrev m__law_verbs : FS := sSeq (sAsg (fPure ((fun ρ st => ((fCons (fC (.str "front")) (fCons (fC (.str "back")) (fCons (fC (.str "drop")) (fNil)))) ρ st).bind fun xs st1 => if small xs then .ok xs st1 else .stuck))) (.nm 1)) (sRet (fOp gAdd (fVar 1) (fPure ((fun ρ st => ((fCons (fOp gIxA (fPure ((fun ρ st => ((fCons (fC (.str "lift")) (fCons (fC (.str "addfront")) (fNil))) ρ st).bind fun xs st1 => if small xs then .ok xs st1 else .stuck))) (fCall d__law_take (fCons (fVar 0) (fCons (fC (.int 2)) (fNil))))) (fCons (fOp gIxA (fPure ((fun ρ st => ((fCons (fC (.str "sink")) (fCons (fC (.str "addback")) (fNil))) ρ st).bind fun xs st1 => if small xs then .ok xs st1 else .stuck))) (fCall d__law_take (fCons (fVar 0) (fCons (fC (.int 2)) (fNil))))) (fNil))) ρ st).bind fun xs st1 => if small xs then .ok xs st1 else .stuck)))))
def d__law_verbs : FD := runD 2 m__law_verbs

abbrev N_is_row : List Str := ["value"]
abbrev m_is_row : FS := sRet (fAnd (fCall d_are_words (fCons (fVar 0) (fNil))) (fOp gLe (fCB gLen (fCons (fVar 0) (fNil))) (fC (.int 20))))
def d_is_row : FD := runD 1 m_is_row

abbrev N_is_program : List Str := ["value", "one"]
abbrev m_is_program : FS := sSeq (sIf (fTOr (fTNot (fTB (fIsT "list" (fVar 0)))) (fTOr (fTB (fOp gGt (fCB gLen (fCons (fVar 0) (fNil))) (fC (.int 60)))) (fTNot (fTB (fCB gAll (fCons (fPure (fLcV (fVar 0) (.nm 1) (tYesF) (fCall d_is_operation (fCons (fVar 1) (fNil))))) (fNil))))))) (sRet (fC (.bool false))) (sNext)) (sRet (fOp gLe (fCB gLen (fCons (fCall d_words_of (fCons (fVar 0) (fNil))) (fNil))) (fC (.int 12))))
def d_is_program : FD := runD 2 m_is_program

abbrev N_entries_at : List Str := ["program", "place", "found", "word", "present", "absent", "ends", "end", "case"]
abbrev m_entries_at : FS := sSeq (sAsg (fCell ((fun ρ st => ((fNil) ρ st).bind fun xs st1 => if small xs then .ok xs st1 else .stuck))) (.nm 2)) (sSeq (sForV (fCall d_words_of (fCons (fVar 0) (fNil))) (.nm 3) (sSeq (sAsgL (fCall d_ends_of (fCons (fVar 0) (fCons (fVar 3) (fNil)))) [.nm 4, .nm 5]) (sIf (fTAnd (fTB (fOp gEq (fVar 4) (fVar 5))) (fTB (fOp gEq (fOp gIxA (fVar 4) (fC (.int 0))) (fVar 1)))) (sDrop (fMth gAppend (fVar 2) (fCons (fTup (fCons (fOp gIxA (fVar 4) (fC (.int 1))) (fCons (fVar 3) (fCons (fC (.str "always")) (fNil))))) (fNil)))) (sSeq (sAsg (fTup (fCons (fTup (fCons (fVar 4) (fCons (fC (.str "present")) (fNil)))) (fCons (fTup (fCons (fVar 5) (fCons (fC (.str "absent")) (fNil)))) (fNil)))) (.nm 6)) (sExt 2 (fPure (fLcV (fVar 6) (.tp [.nm 7, .nm 8]) (fTB (fOp gEq (fOp gIxA (fVar 7) (fC (.int 0))) (fVar 1))) (fTup (fCons (fOp gIxA (fVar 7) (fC (.int 1))) (fCons (fVar 3) (fCons (fVar 8) (fNil)))))))))))) (sRet (fPure (fSortT (fVar 2)))))
def d_entries_at : FD := runD 9 m_entries_at

abbrev N_is_meaning : List Str := ["value", "front", "back", "dropped", "word", "one", "other"]
abbrev m_is_meaning : FS := sSeq (sIf (fTOr (fTNot (fTB (fIsT "tuple" (fVar 0)))) (fTOr (fTB (fOp gNe (fCB gLen (fCons (fVar 0) (fNil))) (fC (.int 3)))) (fTOr (fTNot (fTB (fCall d_are_entries (fCons (fOp gIxA (fVar 0) (fC (.int 0))) (fNil))))) (fTNot (fTB (fCall d_are_entries (fCons (fOp gIxA (fVar 0) (fC (.int 1))) (fNil)))))))) (sRet (fC (.bool false))) (sNext)) (sSeq (sAsg (fVar 0) (.tp [.nm 1, .nm 2, .nm 3])) (sSeq (sIf (fTOr (fTNot (fTB (fIsT "tuple" (fVar 3)))) (fTNot (fTB (fCB gAll (fCons (fPure (fLcV (fVar 3) (.nm 4) (tYesF) (fCall d_is_word (fCons (fVar 4) (fNil))))) (fNil)))))) (sRet (fC (.bool false))) (sNext)) (sSeq (sIf (fTNot (fTB (fCB gAll (fCons (fPure (fLc (fSt zipOf (fCons (fVar 3) (fCons (fSl (fVar 3) (fPt (fC (.int 1))) (fNoP)) (fNil)))) (.tp [.nm 5, .nm 6]) (tYesF) (fOp gLtS (fVar 5) (fVar 6)))) (fNil))))) (sRet (fC (.bool false))) (sNext)) (sSeq (sIf (fTOr (fTB (fOp gGt (fCB gLen (fCons (fCall d_words_in (fCons (fVar 0) (fNil))) (fNil))) (fC (.int 12)))) (fTNot (fTB (fCall d_are_single (fCons (fVar 1) (fCons (fVar 2) (fCons (fVar 3) (fNil)))))))) (sRet (fC (.bool false))) (sNext)) (sSeq (sIf (fTOr (fTB (fOp gNe (fCall d_side_by_side (fCons (fVar 1) (fCons (fC (.str "absent")) (fCons (fC (.str "present")) (fNil))))) (fVar 1))) (fTB (fOp gNe (fCall d_side_by_side (fCons (fVar 2) (fCons (fC (.str "present")) (fCons (fC (.str "absent")) (fNil))))) (fVar 2)))) (sRet (fC (.bool false))) (sNext)) (sRet (fOp gIsNot (fCall d_made (fCons (fVar 1) (fCons (fVar 2) (fNil)))) (fC .none))))))))
def d_is_meaning : FD := runD 7 m_is_meaning

abbrev N_program_of : List Str := ["meaning", "word"]
abbrev m_program_of : FS := sRet (fOp gAdd (fCall d_made (fCons (fOp gIxA (fVar 0) (fC (.int 0))) (fCons (fOp gIxA (fVar 0) (fC (.int 1))) (fNil)))) (fPure (fLcV (fOp gIxA (fVar 0) (fC (.int 2))) (.nm 1) (tYesF) (fTup (fCons (fC (.str "drop")) (fCons (fVar 1) (fNil)))))))
def d_program_of : FD := runD 2 m_program_of

abbrev N_check_row : List Str := ["row"]
abbrev m_check_row : FS := sIf (fTNot (fTB (fCall d_is_row (fCons (fVar 0) (fNil))))) (sRaise "InvalidRow") (sNext)
def d_check_row : FD := runD 1 m_check_row

abbrev N_check_program : List Str := ["program"]
abbrev m_check_program : FS := sIf (fTNot (fTB (fCall d_is_program (fCons (fVar 0) (fNil))))) (sRaise "InvalidProgram") (sNext)
def d_check_program : FD := runD 1 m_check_program

abbrev N_meaning_of : List Str := ["program", "front", "back", "dropped", "joined_front", "word", "time", "case"]
abbrev m_meaning_of : FS := sSeq (sAsg (fPure (fLcV (fUn gRev (fCall d_entries_at (fCons (fVar 0) (fCons (fC (.str "front")) (fNil))))) (.tp [.nm 6, .nm 5, .nm 7]) (tYesF) (fTup (fCons (fVar 5) (fCons (fVar 7) (fNil)))))) (.nm 1)) (sSeq (sAsg (fPure (fLcV (fCall d_entries_at (fCons (fVar 0) (fCons (fC (.str "back")) (fNil)))) (.tp [.nm 6, .nm 5, .nm 7]) (tYesF) (fTup (fCons (fVar 5) (fCons (fVar 7) (fNil)))))) (.nm 2)) (sSeq (sAsg (fPure (fLcV (fCall d_words_of (fCons (fVar 0) (fNil))) (.nm 5) (fTB (fOp gEq (fOp gIxA (fOp gIxA (fCall d_ends_of (fCons (fVar 0) (fCons (fVar 5) (fNil)))) (fC (.int 0))) (fC (.int 0))) (fC (.str "out")))) (fVar 5))) (.nm 3)) (sSeq (sAsg (fCall d_side_by_side (fCons (fVar 1) (fCons (fC (.str "absent")) (fCons (fC (.str "present")) (fNil))))) (.nm 4)) (sRet (fTup (fCons (fVar 4) (fCons (fCall d_side_by_side (fCons (fVar 2) (fCons (fC (.str "present")) (fCons (fC (.str "absent")) (fNil))))) (fCons (fCB gTuple (fCons (fPure (fSortS (fVar 3))) (fNil))) (fNil)))))))))
def d_meaning_of : FD := runD 8 m_meaning_of

abbrev N_check_meaning : List Str := ["meaning"]
abbrev m_check_meaning : FS := sIf (fTNot (fTB (fCall d_is_meaning (fCons (fVar 0) (fNil))))) (sRaise "InvalidMeaning") (sNext)
def d_check_meaning : FD := runD 1 m_check_meaning

abbrev N_shortest_of : List Str := ["meaning"]
abbrev m_shortest_of : FS := sRet (fCall d_program_of (fCons (fVar 0) (fNil)))
def d_shortest_of : FD := runD 1 m_shortest_of

abbrev N_run : List Str := ["program", "row"]
abbrev m_run : FS := sSeq (sDrop (fCall d_check_program (fCons (fVar 0) (fNil)))) (sSeq (sDrop (fCall d_check_row (fCons (fVar 1) (fNil)))) (sRet (fCall d_run_on (fCons (fVar 0) (fCons (fVar 1) (fNil))))))
def d_run : FD := runD 2 m_run

abbrev N_meaning : List Str := ["program"]
abbrev m_meaning : FS := sSeq (sDrop (fCall d_check_program (fCons (fVar 0) (fNil)))) (sRet (fCall d_meaning_of (fCons (fVar 0) (fNil))))
def d_meaning : FD := runD 1 m_meaning

abbrev N_agree : List Str := ["program", "other"]
abbrev m_agree : FS := sSeq (sDrop (fCall d_check_program (fCons (fVar 0) (fNil)))) (sSeq (sDrop (fCall d_check_program (fCons (fVar 1) (fNil)))) (sRet (fOp gEq (fCall d_meaning_of (fCons (fVar 0) (fNil))) (fCall d_meaning_of (fCons (fVar 1) (fNil))))))
def d_agree : FD := runD 2 m_agree

abbrev N_shortest : List Str := ["meaning"]
abbrev m_shortest : FS := sSeq (sDrop (fCall d_check_meaning (fCons (fVar 0) (fNil)))) (sRet (fCall d_shortest_of (fCons (fVar 0) (fNil))))
def d_shortest : FD := runD 1 m_shortest

abbrev N__law_near : List Str := ["own", "one", "words", "verbs", "at", "way"]
abbrev m__law_near : FS := sSeq (sAsg (fCall d__law_take (fCons (fVar 0) (fCons (fOp gAdd (fCB gLen (fCons (fVar 1) (fNil))) (fC (.int 1))) (fNil)))) (.nm 4)) (sSeq (sAsg (fCall d__law_take (fCons (fVar 0) (fCons (fC (.int 4)) (fNil)))) (.nm 5)) (sSeq (sIf (fTB (fOp gEq (fVar 5) (fC (.int 0)))) (sRet (fOp gAdd (fSl (fVar 1) (fNoP) (fPt (fVar 4))) (fSl (fVar 1) (fPt (fOp gAdd (fVar 4) (fC (.int 1)))) (fNoP)))) (sNext)) (sSeq (sIf (fTB (fOp gEq (fVar 5) (fC (.int 1)))) (sRet (fOp gAdd (fSl (fVar 1) (fNoP) (fPt (fVar 4))) (fUn gRev (fSl (fVar 1) (fPt (fVar 4)) (fNoP))))) (sNext)) (sSeq (sIf (fTB (fOp gEq (fVar 5) (fC (.int 2)))) (sRet (fOp gAdd (fOp gAdd (fSl (fVar 1) (fNoP) (fPt (fVar 4))) (fCall d__law_some (fCons (fVar 0) (fCons (fVar 2) (fCons (fVar 3) (fCons (fC (.int 2)) (fNil))))))) (fSl (fVar 1) (fPt (fVar 4)) (fNoP)))) (sNext)) (sRet (fCall d_shortest (fCons (fCall d_meaning (fCons (fVar 1) (fNil))) (fNil))))))))
def d__law_near : FD := runD 6 m__law_near

abbrev N__law_good : List Str := ["one", "two", "words", "full", "bare", "first", "second", "alike"]
abbrev m__law_good : FS := sSeq (sPar 3 4 (fCons (fOp gAdd (fOp gAdd (fTup (fCons (fC (.str "s")) (fNil))) (fCB gTuple (fCons (fVar 2) (fNil)))) (fTup (fCons (fC (.str "t")) (fNil)))) (fCons (fTup (fCons (fC (.str "s")) (fCons (fC (.str "t")) (fNil)))) (fNil)))) (sSeq (sForV (fPure ((fun ρ st => ((fCons (fTup (fCons (fC (.str "s")) (fCons (fC (.str "t")) (fNil)))) (fCons (fTup (fCons (fC (.str "t")) (fCons (fC (.str "s")) (fNil)))) (fNil))) ρ st).bind fun xs st1 => if small xs then .ok xs st1 else .stuck))) (.tp [.nm 5, .nm 6]) (sSeq (sAsg (fOp gAdd (fOp gAdd (fTup (fCons (fVar 5) (fNil))) (fCB gTuple (fCons (fVar 2) (fNil)))) (fTup (fCons (fVar 6) (fNil)))) (.nm 3)) (sSeq (sAsg (fAnd (fOp gEq (fCall d_run (fCons (fVar 0) (fCons (fVar 3) (fNil)))) (fCall d_run (fCons (fVar 1) (fCons (fVar 3) (fNil))))) (fOp gEq (fCall d_run (fCons (fVar 0) (fCons (fTup (fCons (fVar 5) (fCons (fVar 6) (fNil)))) (fNil)))) (fCall d_run (fCons (fVar 1) (fCons (fTup (fCons (fVar 5) (fCons (fVar 6) (fNil)))) (fNil)))))) (.nm 7)) (sIf (fTB (fOp gNe (fCall d_agree (fCons (fVar 0) (fCons (fVar 1) (fNil)))) (fVar 7))) (sRet (fC (.bool false))) (sNext))))) (sRet (fOp gEq (fCall d_agree (fCons (fVar 0) (fCons (fVar 1) (fNil)))) (fAnd (fOp gEq (fCall d_run (fCons (fVar 0) (fCons (fUn gRev (fVar 3)) (fNil)))) (fCall d_run (fCons (fVar 1) (fCons (fUn gRev (fVar 3)) (fNil))))) (fOp gEq (fCall d_run (fCons (fVar 0) (fCons (fVar 4) (fNil)))) (fCall d_run (fCons (fVar 1) (fCons (fVar 4) (fNil)))))))))
def d__law_good : FD := runD 8 m__law_good

abbrev N__law_plain_good : List Str := ["one", "two", "words", "full"]
abbrev m__law_plain_good : FS := sSeq (sAsg (fOp gAdd (fOp gAdd (fTup (fCons (fC (.str "s")) (fNil))) (fCB gTuple (fCons (fVar 2) (fNil)))) (fTup (fCons (fC (.str "t")) (fNil)))) (.nm 3)) (sRet (fOp gEq (fCall d_agree (fCons (fVar 0) (fCons (fVar 1) (fNil)))) (fOp gEq (fCall d_run (fCons (fVar 0) (fCons (fVar 3) (fNil)))) (fCall d_run (fCons (fVar 1) (fCons (fVar 3) (fNil)))))))
def d__law_plain_good : FD := runD 4 m__law_plain_good

abbrev N_law : List Str := ["script", "turn", "row", "own", "words", "k", "one", "two", "twins", "plain", "verbs", "others", "j"]
abbrev m_law : FS := sSeq (sFor (fRng rng1 (fCons (fCB gMax (fCons (fCB gMin (fCons (fCB gLen (fCons (fVar 0) (fNil))) (fCons (fC (.int 5)) (fNil)))) (fCons (fC (.int 1)) (fNil)))) (fNil))) (.nm 1) (sSeq (sAsg (fCell ((fun ρ st => ((fCons (fCall d__law_cell (fCons (fVar 0) (fCons (fVar 1) (fNil)))) (fNil)) ρ st).bind fun xs st1 => if small xs then .ok xs st1 else .stuck))) (.nm 3)) (sSeq (sAsg (fCall d__law_words (fCons (fVar 3) (fCons (fC (.int 5)) (fNil)))) (.nm 4)) (sFor (fRng rng1 (fCons (fC (.int 2)) (fNil))) (.nm 5) (sSeq (sAsg (fTup (fCons (fCall d__law_verbs (fCons (fVar 3) (fNil))) (fCons (fCall d__law_verbs (fCons (fVar 3) (fNil))) (fNil)))) (.tp [.nm 10, .nm 11])) (sSeq (sAsg (fCall d__law_some (fCons (fVar 3) (fCons (fVar 4) (fCons (fVar 10) (fCons (fC (.int 12)) (fNil)))))) (.nm 6)) (sSeq (sAsg (fPure (fLc (fRng rng1 (fCons (fC (.int 2)) (fNil))) (.nm 12) (tYesF) (fCall d__law_near (fCons (fVar 3) (fCons (fVar 6) (fCons (fVar 4) (fCons (fVar 10) (fNil)))))))) (.nm 8)) (sSeq (sForV (fOp gAdd (fVar 8) (fPure ((fun ρ st => ((fCons (fCall d__law_some (fCons (fVar 3) (fCons (fVar 4) (fCons (fVar 11) (fCons (fC (.int 6)) (fNil)))))) (fNil)) ρ st).bind fun xs st1 => if small xs then .ok xs st1 else .stuck)))) (.nm 7) (sIf (fTNot (fTB (fCall d__law_good (fCons (fVar 6) (fCons (fVar 7) (fCons (fVar 4) (fNil))))))) (sRet (fC (.bool false))) (sNext))) (sSeq (sAsg (fCall d__law_some (fCons (fVar 3) (fCons (fVar 4) (fCons (fPure ((fun ρ st => ((fCons (fC (.str "front")) (fCons (fC (.str "back")) (fCons (fC (.str "drop")) (fNil)))) ρ st).bind fun xs st1 => if small xs then .ok xs st1 else .stuck))) (fCons (fC (.int 10)) (fNil)))))) (.nm 9)) (sIf (fTNot (fTB (fCall d__law_plain_good (fCons (fVar 9) (fCons (fCall d__law_near (fCons (fVar 3) (fCons (fVar 9) (fCons (fVar 4) (fCons (fPure ((fun ρ st => ((fCons (fC (.str "front")) (fCons (fC (.str "back")) (fCons (fC (.str "drop")) (fNil)))) ρ st).bind fun xs st1 => if small xs then .ok xs st1 else .stuck))) (fNil)))))) (fCons (fVar 4) (fNil))))))) (sRet (fC (.bool false))) (sNext))))))))))) (sSeq (sAsg (fTup (fCons (fPure ((fun ρ st => ((fCons (fTup (fCons (fC (.str "lift")) (fCons (fC (.str "x")) (fNil)))) (fCons (fTup (fCons (fC (.str "addfront")) (fCons (fC (.str "y")) (fNil)))) (fNil))) ρ st).bind fun xs st1 => if small xs then .ok xs st1 else .stuck))) (fCons (fPure ((fun ρ st => ((fCons (fTup (fCons (fC (.str "addfront")) (fCons (fC (.str "y")) (fNil)))) (fCons (fTup (fCons (fC (.str "lift")) (fCons (fC (.str "x")) (fNil)))) (fNil))) ρ st).bind fun xs st1 => if small xs then .ok xs st1 else .stuck))) (fNil)))) (.tp [.nm 6, .nm 7])) (sSeq (sForV (fPure ((fun ρ st => ((fCons (fTup (fCons (fC (.str "s")) (fCons (fC (.str "x")) (fCons (fC (.str "y")) (fCons (fC (.str "t")) (fNil)))))) (fCons (fTup (fCons (fC (.str "s")) (fCons (fC (.str "t")) (fNil)))) (fNil))) ρ st).bind fun xs st1 => if small xs then .ok xs st1 else .stuck))) (.nm 2) (sIf (fTB (fOp gNe (fCall d_run (fCons (fVar 6) (fCons (fVar 2) (fNil)))) (fCall d_run (fCons (fVar 7) (fCons (fVar 2) (fNil)))))) (sRet (fC (.bool false))) (sNext))) (sRet (fAnd (fNot (fCall d_agree (fCons (fVar 6) (fCons (fVar 7) (fNil))))) (fOp gNe (fCall d_run (fCons (fVar 6) (fCons (fTup (fCons (fC (.str "s")) (fCons (fC (.str "x")) (fNil)))) (fNil)))) (fCall d_run (fCons (fVar 7) (fCons (fTup (fCons (fC (.str "s")) (fCons (fC (.str "x")) (fNil)))) (fNil)))))))))
def d_law : FD := runD 13 m_law

def top (i : Nat) : Stmt := PySem.Challenge.pw_frontback_k64_whole_two_rows_are_enough.main.body.getD i (.Pass ⟨0, 0, 0, 0⟩)
abbrev s_is_word : Stmt := top 15
abbrev s_are_words : Stmt := top 16
abbrev s_is_row : Stmt := top 17
abbrev s_is_operation : Stmt := top 18
abbrev s_words_of : Stmt := top 19
abbrev s_is_program : Stmt := top 20
abbrev s_check_row : Stmt := top 21
abbrev s_check_program : Stmt := top 22
abbrev s_execute : Stmt := top 23
abbrev s_run_on : Stmt := top 24
abbrev s_run : Stmt := top 25
abbrev s_place_after : Stmt := top 26
abbrev s_moves : Stmt := top 29
abbrev s_ends_of : Stmt := top 30
abbrev s_entries_at : Stmt := top 31
abbrev s_side_by_side : Stmt := top 32
abbrev s_meaning_of : Stmt := top 33
abbrev s_meaning : Stmt := top 34
abbrev s_are_entries : Stmt := top 35
abbrev s_comes_after : Stmt := top 36
abbrev s_made : Stmt := top 37
abbrev s_are_single : Stmt := top 38
abbrev s_is_meaning : Stmt := top 39
abbrev s_words_in : Stmt := top 40
abbrev s_check_meaning : Stmt := top 41
abbrev s_agree : Stmt := top 42
abbrev s_program_of : Stmt := top 43
abbrev s_shortest_of : Stmt := top 45
abbrev s_shortest : Stmt := top 46
abbrev s__law_mixed : Stmt := top 48
abbrev s__law_cell : Stmt := top 49
abbrev s__law_take : Stmt := top 50
abbrev s__law_words : Stmt := top 51
abbrev s__law_some : Stmt := top 52
abbrev s__law_verbs : Stmt := top 53
abbrev s__law_near : Stmt := top 54
abbrev s__law_good : Stmt := top 55
abbrev s__law_plain_good : Stmt := top 56
abbrev s_law : Stmt := top 57
structure Fs (K : PySem.W.Frag) (mg : Str → Option Value) where
  a_is_word : Addr
  h_is_word : FuncData
  F_is_word : FunD K "is_word" "is_word" (defArgs s_is_word) (defBody s_is_word) (defScope s_is_word) [] [] a_is_word h_is_word
  g_is_word : mg "is_word" = some (.ref a_is_word)
  a_are_words : Addr
  h_are_words : FuncData
  F_are_words : FunD K "are_words" "are_words" (defArgs s_are_words) (defBody s_are_words) (defScope s_are_words) [] [] a_are_words h_are_words
  g_are_words : mg "are_words" = some (.ref a_are_words)
  a_is_row : Addr
  h_is_row : FuncData
  F_is_row : FunD K "is_row" "is_row" (defArgs s_is_row) (defBody s_is_row) (defScope s_is_row) [] [] a_is_row h_is_row
  g_is_row : mg "is_row" = some (.ref a_is_row)
  a_is_operation : Addr
  h_is_operation : FuncData
  F_is_operation : FunD K "is_operation" "is_operation" (defArgs s_is_operation) (defBody s_is_operation) (defScope s_is_operation) [] [] a_is_operation h_is_operation
  g_is_operation : mg "is_operation" = some (.ref a_is_operation)
  a_words_of : Addr
  h_words_of : FuncData
  F_words_of : FunD K "words_of" "words_of" (defArgs s_words_of) (defBody s_words_of) (defScope s_words_of) [] [] a_words_of h_words_of
  g_words_of : mg "words_of" = some (.ref a_words_of)
  a_is_program : Addr
  h_is_program : FuncData
  F_is_program : FunD K "is_program" "is_program" (defArgs s_is_program) (defBody s_is_program) (defScope s_is_program) [] [] a_is_program h_is_program
  g_is_program : mg "is_program" = some (.ref a_is_program)
  a_check_row : Addr
  h_check_row : FuncData
  F_check_row : FunD K "check_row" "check_row" (defArgs s_check_row) (defBody s_check_row) (defScope s_check_row) [] [] a_check_row h_check_row
  g_check_row : mg "check_row" = some (.ref a_check_row)
  a_check_program : Addr
  h_check_program : FuncData
  F_check_program : FunD K "check_program" "check_program" (defArgs s_check_program) (defBody s_check_program) (defScope s_check_program) [] [] a_check_program h_check_program
  g_check_program : mg "check_program" = some (.ref a_check_program)
  a_execute : Addr
  h_execute : FuncData
  F_execute : FunD K "execute" "execute" (defArgs s_execute) (defBody s_execute) (defScope s_execute) [] [] a_execute h_execute
  g_execute : mg "execute" = some (.ref a_execute)
  a_run_on : Addr
  h_run_on : FuncData
  F_run_on : FunD K "run_on" "run_on" (defArgs s_run_on) (defBody s_run_on) (defScope s_run_on) [] [] a_run_on h_run_on
  g_run_on : mg "run_on" = some (.ref a_run_on)
  a_run : Addr
  h_run : FuncData
  F_run : FunD K "run" "run" (defArgs s_run) (defBody s_run) (defScope s_run) [] [] a_run h_run
  g_run : mg "run" = some (.ref a_run)
  a_place_after : Addr
  h_place_after : FuncData
  F_place_after : FunD K "place_after" "place_after" (defArgs s_place_after) (defBody s_place_after) (defScope s_place_after) [] [] a_place_after h_place_after
  g_place_after : mg "place_after" = some (.ref a_place_after)
  a_moves : Addr
  h_moves : FuncData
  F_moves : FunD K "moves" "moves" (defArgs s_moves) (defBody s_moves) (defScope s_moves) [] [] a_moves h_moves
  g_moves : mg "moves" = some (.ref a_moves)
  a_ends_of : Addr
  h_ends_of : FuncData
  F_ends_of : FunD K "ends_of" "ends_of" (defArgs s_ends_of) (defBody s_ends_of) (defScope s_ends_of) [] [] a_ends_of h_ends_of
  g_ends_of : mg "ends_of" = some (.ref a_ends_of)
  a_entries_at : Addr
  h_entries_at : FuncData
  F_entries_at : FunD K "entries_at" "entries_at" (defArgs s_entries_at) (defBody s_entries_at) (defScope s_entries_at) [] [] a_entries_at h_entries_at
  g_entries_at : mg "entries_at" = some (.ref a_entries_at)
  a_side_by_side : Addr
  h_side_by_side : FuncData
  F_side_by_side : FunD K "side_by_side" "side_by_side" (defArgs s_side_by_side) (defBody s_side_by_side) (defScope s_side_by_side) [] [] a_side_by_side h_side_by_side
  g_side_by_side : mg "side_by_side" = some (.ref a_side_by_side)
  a_meaning_of : Addr
  h_meaning_of : FuncData
  F_meaning_of : FunD K "meaning_of" "meaning_of" (defArgs s_meaning_of) (defBody s_meaning_of) (defScope s_meaning_of) [] [] a_meaning_of h_meaning_of
  g_meaning_of : mg "meaning_of" = some (.ref a_meaning_of)
  a_meaning : Addr
  h_meaning : FuncData
  F_meaning : FunD K "meaning" "meaning" (defArgs s_meaning) (defBody s_meaning) (defScope s_meaning) [] [] a_meaning h_meaning
  g_meaning : mg "meaning" = some (.ref a_meaning)
  a_are_entries : Addr
  h_are_entries : FuncData
  F_are_entries : FunD K "are_entries" "are_entries" (defArgs s_are_entries) (defBody s_are_entries) (defScope s_are_entries) [] [] a_are_entries h_are_entries
  g_are_entries : mg "are_entries" = some (.ref a_are_entries)
  a_comes_after : Addr
  h_comes_after : FuncData
  F_comes_after : FunD K "comes_after" "comes_after" (defArgs s_comes_after) (defBody s_comes_after) (defScope s_comes_after) [] [] a_comes_after h_comes_after
  g_comes_after : mg "comes_after" = some (.ref a_comes_after)
  a_made : Addr
  h_made : FuncData
  F_made : FunD K "made" "made" (defArgs s_made) (defBody s_made) (defScope s_made) [] [] a_made h_made
  g_made : mg "made" = some (.ref a_made)
  a_are_single : Addr
  h_are_single : FuncData
  F_are_single : FunD K "are_single" "are_single" (defArgs s_are_single) (defBody s_are_single) (defScope s_are_single) [] [] a_are_single h_are_single
  g_are_single : mg "are_single" = some (.ref a_are_single)
  a_is_meaning : Addr
  h_is_meaning : FuncData
  F_is_meaning : FunD K "is_meaning" "is_meaning" (defArgs s_is_meaning) (defBody s_is_meaning) (defScope s_is_meaning) [] [] a_is_meaning h_is_meaning
  g_is_meaning : mg "is_meaning" = some (.ref a_is_meaning)
  a_words_in : Addr
  h_words_in : FuncData
  F_words_in : FunD K "words_in" "words_in" (defArgs s_words_in) (defBody s_words_in) (defScope s_words_in) [] [] a_words_in h_words_in
  g_words_in : mg "words_in" = some (.ref a_words_in)
  a_check_meaning : Addr
  h_check_meaning : FuncData
  F_check_meaning : FunD K "check_meaning" "check_meaning" (defArgs s_check_meaning) (defBody s_check_meaning) (defScope s_check_meaning) [] [] a_check_meaning h_check_meaning
  g_check_meaning : mg "check_meaning" = some (.ref a_check_meaning)
  a_agree : Addr
  h_agree : FuncData
  F_agree : FunD K "agree" "agree" (defArgs s_agree) (defBody s_agree) (defScope s_agree) [] [] a_agree h_agree
  g_agree : mg "agree" = some (.ref a_agree)
  a_program_of : Addr
  h_program_of : FuncData
  F_program_of : FunD K "program_of" "program_of" (defArgs s_program_of) (defBody s_program_of) (defScope s_program_of) [] [] a_program_of h_program_of
  g_program_of : mg "program_of" = some (.ref a_program_of)
  a_shortest_of : Addr
  h_shortest_of : FuncData
  F_shortest_of : FunD K "shortest_of" "shortest_of" (defArgs s_shortest_of) (defBody s_shortest_of) (defScope s_shortest_of) [] [] a_shortest_of h_shortest_of
  g_shortest_of : mg "shortest_of" = some (.ref a_shortest_of)
  a_shortest : Addr
  h_shortest : FuncData
  F_shortest : FunD K "shortest" "shortest" (defArgs s_shortest) (defBody s_shortest) (defScope s_shortest) [] [] a_shortest h_shortest
  g_shortest : mg "shortest" = some (.ref a_shortest)
  a__law_mixed : Addr
  h__law_mixed : FuncData
  F__law_mixed : FunD K "_law_mixed" "_law_mixed" (defArgs s__law_mixed) (defBody s__law_mixed) (defScope s__law_mixed) [] [] a__law_mixed h__law_mixed
  g__law_mixed : mg "_law_mixed" = some (.ref a__law_mixed)
  a__law_cell : Addr
  h__law_cell : FuncData
  F__law_cell : FunD K "_law_cell" "_law_cell" (defArgs s__law_cell) (defBody s__law_cell) (defScope s__law_cell) [] [] a__law_cell h__law_cell
  g__law_cell : mg "_law_cell" = some (.ref a__law_cell)
  a__law_take : Addr
  h__law_take : FuncData
  F__law_take : FunD K "_law_take" "_law_take" (defArgs s__law_take) (defBody s__law_take) (defScope s__law_take) [] [] a__law_take h__law_take
  g__law_take : mg "_law_take" = some (.ref a__law_take)
  a__law_words : Addr
  h__law_words : FuncData
  F__law_words : FunD K "_law_words" "_law_words" (defArgs s__law_words) (defBody s__law_words) (defScope s__law_words) [] [] a__law_words h__law_words
  g__law_words : mg "_law_words" = some (.ref a__law_words)
  a__law_some : Addr
  h__law_some : FuncData
  F__law_some : FunD K "_law_some" "_law_some" (defArgs s__law_some) (defBody s__law_some) (defScope s__law_some) [] [] a__law_some h__law_some
  g__law_some : mg "_law_some" = some (.ref a__law_some)
  a__law_verbs : Addr
  h__law_verbs : FuncData
  F__law_verbs : FunD K "_law_verbs" "_law_verbs" (defArgs s__law_verbs) (defBody s__law_verbs) (defScope s__law_verbs) [] [] a__law_verbs h__law_verbs
  g__law_verbs : mg "_law_verbs" = some (.ref a__law_verbs)
  a__law_near : Addr
  h__law_near : FuncData
  F__law_near : FunD K "_law_near" "_law_near" (defArgs s__law_near) (defBody s__law_near) (defScope s__law_near) [] [] a__law_near h__law_near
  g__law_near : mg "_law_near" = some (.ref a__law_near)
  a__law_good : Addr
  h__law_good : FuncData
  F__law_good : FunD K "_law_good" "_law_good" (defArgs s__law_good) (defBody s__law_good) (defScope s__law_good) [] [] a__law_good h__law_good
  g__law_good : mg "_law_good" = some (.ref a__law_good)
  a__law_plain_good : Addr
  h__law_plain_good : FuncData
  F__law_plain_good : FunD K "_law_plain_good" "_law_plain_good" (defArgs s__law_plain_good) (defBody s__law_plain_good) (defScope s__law_plain_good) [] [] a__law_plain_good h__law_plain_good
  g__law_plain_good : mg "_law_plain_good" = some (.ref a__law_plain_good)
  a_law : Addr
  h_law : FuncData
  F_law : FunD K "law" "law" (defArgs s_law) (defBody s_law) (defScope s_law) [] [] a_law h_law
  g_law : mg "law" = some (.ref a_law)
  b_all : mg "all" = none
  b_enumerate : mg "enumerate" = none
  b_int : mg "int" = none
  b_isinstance : mg "isinstance" = none
  b_len : mg "len" = none
  b_list : mg "list" = none
  b_max : mg "max" = none
  b_min : mg "min" = none
  b_range : mg "range" = none
  b_set : mg "set" = none
  b_sorted : mg "sorted" = none
  b_str : mg "str" = none
  b_tuple : mg "tuple" = none
  b_zip : mg "zip" = none
  c_CASES : ∃ a, mg "CASES" = some (.ref a) ∧ KTup K a ((["always", "present", "absent"] : List Str).map V.str)
  c_IF_ABSENT : ∃ a, mg "IF_ABSENT" = some (.ref a) ∧ KTup K a ((["addfront", "addback"] : List Str).map V.str)
  c_IF_PRESENT : ∃ a, mg "IF_PRESENT" = some (.ref a) ∧ KTup K a ((["lift", "sink", "drop"] : List Str).map V.str)
  c_LETTERS : ∃ t, mg "LETTERS" = some (.str "abcdefghijklmnopqrstuvwxyz" t)
  c_LONGEST : ∃ t, mg "LONGEST" = some (.int 8 t)
  c_MOST_OPERATIONS : ∃ t, mg "MOST_OPERATIONS" = some (.int 60 t)
  c_MOST_ROW : ∃ t, mg "MOST_ROW" = some (.int 20 t)
  c_MOST_WORDS : ∃ t, mg "MOST_WORDS" = some (.int 12 t)
  c_TO_FRONT : ∃ a, mg "TO_FRONT" = some (.ref a) ∧ KTup K a ((["front", "addfront", "lift"] : List Str).map V.str)
  c_VERBS : ∃ a, mg "VERBS" = some (.ref a) ∧ KTup K a ((["front", "back", "drop", "addfront", "addback", "lift", "sink"] : List Str).map V.str)
  C_InvalidMeaning : Addr
  x_InvalidMeaning : PySem.W.excIn K C_InvalidMeaning He.veBase "ValueError.__new__" = true ∧ mg "InvalidMeaning" = some (.ref C_InvalidMeaning) ∧ PySem.W.keepIn K (.ref C_InvalidMeaning) = true ∧ PySem.W.subIn K (.ref C_InvalidMeaning) (.type "BaseException") = some true ∧ PySem.W.typeIn K (.ref C_InvalidMeaning) = some (.type "type")
  C_InvalidProgram : Addr
  x_InvalidProgram : PySem.W.excIn K C_InvalidProgram He.veBase "ValueError.__new__" = true ∧ mg "InvalidProgram" = some (.ref C_InvalidProgram) ∧ PySem.W.keepIn K (.ref C_InvalidProgram) = true ∧ PySem.W.subIn K (.ref C_InvalidProgram) (.type "BaseException") = some true ∧ PySem.W.typeIn K (.ref C_InvalidProgram) = some (.type "type")
  C_InvalidRow : Addr
  x_InvalidRow : PySem.W.excIn K C_InvalidRow He.veBase "ValueError.__new__" = true ∧ mg "InvalidRow" = some (.ref C_InvalidRow) ∧ PySem.W.keepIn K (.ref C_InvalidRow) = true ∧ PySem.W.subIn K (.ref C_InvalidRow) (.type "BaseException") = some true ∧ PySem.W.typeIn K (.ref C_InvalidRow) = some (.type "type")
section
variable {P : Program} {w : World} {K : PySem.W.Frag} {mg : Str → Option Value} {base : Heap}
theorem sc_is_word : FnScope N_is_word ["value"] (defScope s_is_word) := ⟨rfl, rfl, rfl, by decide +kernel, rfl, by decide +kernel, by decide +kernel⟩
theorem bd_is_word (S : Fs K mg) : Binds K S.h_is_word ["value"] [] := S.F_is_word.bindsN fun _ _ _ _ _ _ us hl => match us, hl with | [_], _ => rfl
theorem ok_is_word (S : Fs K mg) : FnOk P w K mg base (L2.CX P w) 1 S.a_is_word S.h_is_word ["value"] (spD K mg 1 d_is_word) :=
  fn_okD (k := 0) (N := N_is_word) (m := m_is_word) S.F_is_word sc_is_word fun cdv A outer s H E hr => by
    have sc := sc_is_word
    have tk := tk_of (P := P) (w := w) (K := K) (mg := mg) (base := base) (N := N_is_word) (qual := "is_word") (scope := defScope s_is_word) (f := S.a_is_word) (cd := cdv) (A := A) (outer := outer) (s := s) (H := H) (E := E)
    have po := po_of (P := P) (w := w) (K := K) (mg := mg) (base := base) (N := N_is_word) (qual := "is_word") (scope := defScope s_is_word) (f := S.a_is_word) (cd := cdv) (A := A) (outer := outer) (s := s) (H := H) (E := E)
    have hu := Room.hu64 hr
    have hu65 := Room.hu65 hr
    have hu1 := Room.hu1 hr
    exact (pfss_one (pfs_ret (pf_and (pf_isT S.b_isinstance S.b_str (by decide +kernel) (pf_var 0)) (pf_and (pf_chain op_le op_le im_le im_le (pf_int) (pf_callB call_lenA im_len (by rfl) S.b_len (by decide +kernel) (pfa_cons (pf_var 0) (pfa_nil))) (pf_gint S.c_LONGEST)) (pf_one (pf_callB (cr_all rfl) im_all (by rfl) S.b_all (by decide +kernel) (pfa_cons (pf_pure (pfl_lcV rfl sc.nd (pf_var 0) (own := [("letter", 1)]) (show BlkOk N_is_word (defScope s_is_word) _ _ from ⟨rfl, by decide +kernel, by decide +kernel, by decide +kernel, by decide +kernel⟩) rfl (fun _ _ _ _ _ => pg_name sc.nd (by rfl) (by first | exact .inl rfl | exact .inr rfl)) (fun _ _ _ _ _ => pts_yes) (fun _ _ _ _ _ => pf_cmp (op_inA hu65) im_in (pf_var 1) (pf_gstr S.c_LETTERS)))) (pfa_nil))))))))

theorem sc_words_of : FnScope N_words_of ["program"] (defScope s_words_of) := ⟨rfl, rfl, rfl, by decide +kernel, rfl, by decide +kernel, by decide +kernel⟩
theorem bd_words_of (S : Fs K mg) : Binds K S.h_words_of ["program"] [] := S.F_words_of.bindsN fun _ _ _ _ _ _ us hl => match us, hl with | [_], _ => rfl
theorem ok_words_of (S : Fs K mg) : FnOk P w K mg base (L2.CX P w) 1 S.a_words_of S.h_words_of ["program"] (spD K mg 1 d_words_of) :=
  fn_okD (k := 0) (N := N_words_of) (m := m_words_of) S.F_words_of sc_words_of fun cdv A outer s H E hr => by
    have sc := sc_words_of
    have tk := tk_of (P := P) (w := w) (K := K) (mg := mg) (base := base) (N := N_words_of) (qual := "words_of") (scope := defScope s_words_of) (f := S.a_words_of) (cd := cdv) (A := A) (outer := outer) (s := s) (H := H) (E := E)
    have po := po_of (P := P) (w := w) (K := K) (mg := mg) (base := base) (N := N_words_of) (qual := "words_of") (scope := defScope s_words_of) (f := S.a_words_of) (cd := cdv) (A := A) (outer := outer) (s := s) (H := H) (E := E)
    have hu := Room.hu64 hr
    have hu65 := Room.hu65 hr
    have hu1 := Room.hu1 hr
    exact (pfss_one (pfs_ret (pf_pure (pfl_listK rfl S.b_list (pf_dc rfl sc.nd (pfi_seq (pf_var 0)) (own := [("verb", 1), ("word", 2)]) (show BlkOk N_words_of (defScope s_words_of) _ _ from ⟨rfl, by decide +kernel, by decide +kernel, by decide +kernel, by decide +kernel⟩) rfl (fun _ _ _ _ _ => pg_tup rfl (pgs_cons (pg_name sc.nd (by rfl) (by first | exact .inl rfl | exact .inr rfl)) (pgs_cons (pg_name sc.nd (by rfl) (by first | exact .inl rfl | exact .inr rfl)) pgs_nil))) (fun _ _ _ _ _ => pts_yes) (fun _ _ _ _ _ => pf_var 2) (fun _ _ _ _ _ => pf_bl))))))

theorem sc_execute : FnScope N_execute ["operation", "row"] (defScope s_execute) := ⟨rfl, rfl, rfl, by decide +kernel, rfl, by decide +kernel, by decide +kernel⟩
theorem bd_execute (S : Fs K mg) : Binds K S.h_execute ["operation", "row"] [] := S.F_execute.bindsN fun _ _ _ _ _ _ us hl => match us, hl with | [_, _], _ => rfl
theorem ok_execute (S : Fs K mg) : FnOk P w K mg base (L2.CX P w) 1 S.a_execute S.h_execute ["operation", "row"] (spD K mg 2 d_execute) :=
  fn_okD (k := 0) (N := N_execute) (m := m_execute) S.F_execute sc_execute fun cdv A outer s H E hr => by
    have sc := sc_execute
    have tk := tk_of (P := P) (w := w) (K := K) (mg := mg) (base := base) (N := N_execute) (qual := "execute") (scope := defScope s_execute) (f := S.a_execute) (cd := cdv) (A := A) (outer := outer) (s := s) (H := H) (E := E)
    have po := po_of (P := P) (w := w) (K := K) (mg := mg) (base := base) (N := N_execute) (qual := "execute") (scope := defScope s_execute) (f := S.a_execute) (cd := cdv) (A := A) (outer := outer) (s := s) (H := H) (E := E)
    have hu := Room.hu64 hr
    have hu65 := Room.hu65 hr
    have hu1 := Room.hu1 hr
    exact (pfss_cons (pfs_asg (pf_var 0) (pg_tup rfl (pgs_cons (pg_name sc.nd (by rfl) (by first | exact .inl rfl | exact .inr rfl)) (pgs_cons (pg_name sc.nd (by rfl) (by first | exact .inl rfl | exact .inr rfl)) pgs_nil)))) (pfss_cons (pfs_if (pft_cmp (op_inA hu65) im_in (pf_var 3) (pf_if (pft_cmp (op_inA hu65) im_in (pf_var 4) (pf_var 1)) (pf_gtup S.c_IF_ABSENT) (pf_gtup S.c_IF_PRESENT))) (pfss_one (pfs_ret (pf_var 1))) (pfss_nil)) (pfss_cons (pfs_set sc.nd (pf_callTy (call_tupX rfl) im_tuple (by rfl) S.b_tuple (by decide +kernel) (pfa_cons (pf_pure (pfl_lcV rfl sc.nd (pf_var 1) (own := [("other", 5)]) (show BlkOk N_execute (defScope s_execute) _ _ from ⟨rfl, by decide +kernel, by decide +kernel, by decide +kernel, by decide +kernel⟩) rfl (fun _ _ _ _ _ => pg_name sc.nd (by rfl) (by first | exact .inl rfl | exact .inr rfl)) (fun _ _ _ _ _ => pts_if (pft_cmp (op_neA hu) im_ne (pf_var 5) (pf_var 4))) (fun _ _ _ _ _ => pf_var 5))) (pfa_nil)))) (pfss_cons (pfs_if (pft_cmp (op_eqA hu) im_eq (pf_var 3) (pf_str)) (pfss_one (pfs_ret (pf_var 2))) (pfss_nil)) (pfss_one (pfs_ret (pf_if (pft_cmp (op_inA hu65) im_in (pf_var 3) (pf_gtup S.c_TO_FRONT)) (pf_op op_addA im_add (pf_tup (pfa_cons (pf_var 4) (pfa_nil))) (pf_var 2)) (pf_op op_addA im_add (pf_var 2) (pf_tup (pfa_cons (pf_var 4) (pfa_nil)))))))))))

theorem sc_place_after : FnScope N_place_after ["verb", "place"] (defScope s_place_after) := ⟨rfl, rfl, rfl, by decide +kernel, rfl, by decide +kernel, by decide +kernel⟩
theorem bd_place_after (S : Fs K mg) : Binds K S.h_place_after ["verb", "place"] [] := S.F_place_after.bindsN fun _ _ _ _ _ _ us hl => match us, hl with | [_, _], _ => rfl
theorem ok_place_after (S : Fs K mg) : FnOk P w K mg base (L2.CX P w) 1 S.a_place_after S.h_place_after ["verb", "place"] (spD K mg 2 d_place_after) :=
  fn_okD (k := 0) (N := N_place_after) (m := m_place_after) S.F_place_after sc_place_after fun cdv A outer s H E hr => by
    have sc := sc_place_after
    have tk := tk_of (P := P) (w := w) (K := K) (mg := mg) (base := base) (N := N_place_after) (qual := "place_after") (scope := defScope s_place_after) (f := S.a_place_after) (cd := cdv) (A := A) (outer := outer) (s := s) (H := H) (E := E)
    have po := po_of (P := P) (w := w) (K := K) (mg := mg) (base := base) (N := N_place_after) (qual := "place_after") (scope := defScope s_place_after) (f := S.a_place_after) (cd := cdv) (A := A) (outer := outer) (s := s) (H := H) (E := E)
    have hu := Room.hu64 hr
    have hu65 := Room.hu65 hr
    have hu1 := Room.hu1 hr
    exact (pfss_cons (pfs_if (pft_cmp (op_inA hu65) im_in (pf_var 0) (pf_if (pft_cmp (op_eqA hu) im_eq (pf_var 1) (pf_str)) (pf_gtup S.c_IF_PRESENT) (pf_gtup S.c_IF_ABSENT))) (pfss_one (pfs_ret (pf_var 1))) (pfss_nil)) (pfss_cons (pfs_if (pft_cmp (op_eqA hu) im_eq (pf_var 0) (pf_str)) (pfss_one (pfs_ret (pf_str))) (pfss_nil)) (pfss_one (pfs_ret (pf_if (pft_cmp (op_inA hu65) im_in (pf_var 0) (pf_gtup S.c_TO_FRONT)) (pf_str) (pf_str))))))

theorem sc_moves : FnScope N_moves ["verb", "place"] (defScope s_moves) := ⟨rfl, rfl, rfl, by decide +kernel, rfl, by decide +kernel, by decide +kernel⟩
theorem bd_moves (S : Fs K mg) : Binds K S.h_moves ["verb", "place"] [] := S.F_moves.bindsN fun _ _ _ _ _ _ us hl => match us, hl with | [_, _], _ => rfl
theorem ok_moves (S : Fs K mg) : FnOk P w K mg base (L2.CX P w) 1 S.a_moves S.h_moves ["verb", "place"] (spD K mg 2 d_moves) :=
  fn_okD (k := 0) (N := N_moves) (m := m_moves) S.F_moves sc_moves fun cdv A outer s H E hr => by
    have sc := sc_moves
    have tk := tk_of (P := P) (w := w) (K := K) (mg := mg) (base := base) (N := N_moves) (qual := "moves") (scope := defScope s_moves) (f := S.a_moves) (cd := cdv) (A := A) (outer := outer) (s := s) (H := H) (E := E)
    have po := po_of (P := P) (w := w) (K := K) (mg := mg) (base := base) (N := N_moves) (qual := "moves") (scope := defScope s_moves) (f := S.a_moves) (cd := cdv) (A := A) (outer := outer) (s := s) (H := H) (E := E)
    have hu := Room.hu64 hr
    have hu65 := Room.hu65 hr
    have hu1 := Room.hu1 hr
    exact (pfss_one (pfs_ret (pf_cmp (op_notInA hu65) im_notIn (pf_var 0) (pf_if (pft_cmp (op_eqA hu) im_eq (pf_var 1) (pf_str)) (pf_gtup S.c_IF_PRESENT) (pf_gtup S.c_IF_ABSENT)))))

theorem sc_side_by_side : FnScope N_side_by_side ["entries", "first", "second"] (defScope s_side_by_side) := ⟨rfl, rfl, rfl, by decide +kernel, rfl, by decide +kernel, by decide +kernel⟩
theorem bd_side_by_side (S : Fs K mg) : Binds K S.h_side_by_side ["entries", "first", "second"] [] := S.F_side_by_side.bindsN fun _ _ _ _ _ _ us hl => match us, hl with | [_, _, _], _ => rfl
theorem ok_side_by_side (S : Fs K mg) : FnOk P w K mg base (L2.CX P w) 1 S.a_side_by_side S.h_side_by_side ["entries", "first", "second"] (spD K mg 3 d_side_by_side) :=
  fn_okD (k := 0) (N := N_side_by_side) (m := m_side_by_side) S.F_side_by_side sc_side_by_side fun cdv A outer s H E hr => by
    have sc := sc_side_by_side
    have tk := tk_of (P := P) (w := w) (K := K) (mg := mg) (base := base) (N := N_side_by_side) (qual := "side_by_side") (scope := defScope s_side_by_side) (f := S.a_side_by_side) (cd := cdv) (A := A) (outer := outer) (s := s) (H := H) (E := E)
    have po := po_of (P := P) (w := w) (K := K) (mg := mg) (base := base) (N := N_side_by_side) (qual := "side_by_side") (scope := defScope s_side_by_side) (f := S.a_side_by_side) (cd := cdv) (A := A) (outer := outer) (s := s) (H := H) (E := E)
    have hu := Room.hu64 hr
    have hu65 := Room.hu65 hr
    have hu1 := Room.hu1 hr
    exact (pfss_cons (pfs_set sc.nd (pf_cell (pfl_lst (pfa_nil)))) (pfss_cons (pfs_forV po rfl (pf_var 0) (pg_tup rfl (pgs_cons (pg_name sc.nd (by rfl) (by first | exact .inl rfl | exact .inr rfl)) (pgs_cons (pg_name sc.nd (by rfl) (by first | exact .inl rfl | exact .inr rfl)) pgs_nil))) (pfss_cons (pfs_if (PFW.pt (pfw_and (pft_cmp op_gt im_gt (pf_callB call_lenA im_len (by rfl) S.b_len (by decide +kernel) (pfa_cons (pf_var 3) (pfa_nil))) (pf_int)) (pfw_and (pft_cmp (op_eqA hu) im_eq (pf_ix (ix_any hu1) im_ixA (pf_var 3) (pf_un un_neg im_neg (pf_int))) (pf_tup (pfa_cons (pf_var 4) (pfa_cons (pf_var 1) (pfa_nil))))) (pfw_and1 (pft_cmp (op_eqA hu) im_eq (pf_var 5) (pf_var 2)))))) (pfss_cons (pfs_expr (pf_mth0 PySem.F.slot_list_pop PySem.F.type_list_pop mt_pop im_pop (pf_var 3))) (pfss_one (pfs_set sc.nd (pf_str)))) (pfss_nil)) (pfss_one (pfs_expr (pf_mth PySem.F.slot_list_append PySem.F.type_list_append mt_append im_append (pf_var 3) (pfa_cons (pf_tup (pfa_cons (pf_var 4) (pfa_cons (pf_var 5) (pfa_nil)))) (pfa_nil))))))) (pfss_one (pfs_ret (pf_callTy (call_tupX rfl) im_tuple (by rfl) S.b_tuple (by decide +kernel) (pfa_cons (pf_var 3) (pfa_nil)))))))

theorem sc_comes_after : FnScope N_comes_after ["entry", "entries"] (defScope s_comes_after) := ⟨rfl, rfl, rfl, by decide +kernel, rfl, by decide +kernel, by decide +kernel⟩
theorem bd_comes_after (S : Fs K mg) : Binds K S.h_comes_after ["entry", "entries"] [] := S.F_comes_after.bindsN fun _ _ _ _ _ _ us hl => match us, hl with | [_, _], _ => rfl
theorem ok_comes_after (S : Fs K mg) : FnOk P w K mg base (L2.CX P w) 1 S.a_comes_after S.h_comes_after ["entry", "entries"] (spD K mg 2 d_comes_after) :=
  fn_okD (k := 0) (N := N_comes_after) (m := m_comes_after) S.F_comes_after sc_comes_after fun cdv A outer s H E hr => by
    have sc := sc_comes_after
    have tk := tk_of (P := P) (w := w) (K := K) (mg := mg) (base := base) (N := N_comes_after) (qual := "comes_after") (scope := defScope s_comes_after) (f := S.a_comes_after) (cd := cdv) (A := A) (outer := outer) (s := s) (H := H) (E := E)
    have po := po_of (P := P) (w := w) (K := K) (mg := mg) (base := base) (N := N_comes_after) (qual := "comes_after") (scope := defScope s_comes_after) (f := S.a_comes_after) (cd := cdv) (A := A) (outer := outer) (s := s) (H := H) (E := E)
    have hu := Room.hu64 hr
    have hu65 := Room.hu65 hr
    have hu1 := Room.hu1 hr
    exact (pfss_cons (pfs_set sc.nd (pf_tup (pfa_cons (pf_ix (ix_any hu1) im_ixA (pf_var 0) (pf_int)) (pfa_cons (pf_str) (pfa_nil))))) (pfss_one (pfs_ret (pf_if (PFW.pt (pfw_and (pft_cmp (op_eqA hu) im_eq (pf_ix (ix_any hu1) im_ixA (pf_var 0) (pf_int)) (pf_str)) (pfw_and1 (pft_cmp (op_inA hu65) im_in (pf_var 2) (pf_var 1))))) (pf_var 2) (pf_non)))))

theorem sc_are_single : FnScope N_are_single ["front", "back", "dropped"] (defScope s_are_single) := ⟨rfl, rfl, rfl, by decide +kernel, rfl, by decide +kernel, by decide +kernel⟩
theorem bd_are_single (S : Fs K mg) : Binds K S.h_are_single ["front", "back", "dropped"] [] := S.F_are_single.bindsN fun _ _ _ _ _ _ us hl => match us, hl with | [_, _, _], _ => rfl
theorem ok_are_single (S : Fs K mg) : FnOk P w K mg base (L2.CX P w) 1 S.a_are_single S.h_are_single ["front", "back", "dropped"] (spD K mg 3 d_are_single) :=
  fn_okD (k := 0) (N := N_are_single) (m := m_are_single) S.F_are_single sc_are_single fun cdv A outer s H E hr => by
    have sc := sc_are_single
    have tk := tk_of (P := P) (w := w) (K := K) (mg := mg) (base := base) (N := N_are_single) (qual := "are_single") (scope := defScope s_are_single) (f := S.a_are_single) (cd := cdv) (A := A) (outer := outer) (s := s) (H := H) (E := E)
    have po := po_of (P := P) (w := w) (K := K) (mg := mg) (base := base) (N := N_are_single) (qual := "are_single") (scope := defScope s_are_single) (f := S.a_are_single) (cd := cdv) (A := A) (outer := outer) (s := s) (H := H) (E := E)
    have hu := Room.hu64 hr
    have hu65 := Room.hu65 hr
    have hu1 := Room.hu1 hr
    exact (pfss_cons (pfs_set sc.nd (pf_op op_addA im_add (pf_var 0) (pf_var 1))) (pfss_cons (pfs_forV po rfl (pf_var 3) (pg_tup rfl (pgs_cons (pg_name sc.nd (by rfl) (by first | exact .inl rfl | exact .inr rfl)) (pgs_cons (pg_name sc.nd (by rfl) (by first | exact .inl rfl | exact .inr rfl)) pgs_nil))) (pfss_cons (pfs_setLcV rfl sc.nd (pf_var 3) (own := [("name", 7), ("other", 8)]) (show BlkOk N_are_single (defScope s_are_single) _ _ from ⟨rfl, by decide +kernel, by decide +kernel, by decide +kernel, by decide +kernel⟩) rfl (fun _ _ _ _ _ => pg_tup rfl (pgs_cons (pg_name sc.nd (by rfl) (by first | exact .inl rfl | exact .inr rfl)) (pgs_cons (pg_name sc.nd (by rfl) (by first | exact .inl rfl | exact .inr rfl)) pgs_nil))) (fun _ _ _ _ _ => pts_if (pft_cmp (op_eqA hu) im_eq (pf_var 7) (pf_var 4))) (fun _ _ _ _ _ => pf_var 8) (by exact sw_true rfl rfl rfl (by decide +kernel)) tf_pure) (pfss_one (pfs_if (PFW.pt (pfw_or (pft_cmp (op_inA hu65) im_in (pf_var 4) (pf_var 2)) (pfw_or (pft_cmp op_gt im_gt (pf_callB call_lenA im_len (by rfl) S.b_len (by decide +kernel) (pfa_cons (pf_var 6) (pfa_nil))) (pf_int)) (pfw_or1 (PFW.pt (pfw_and (pft_cmp (op_eqA hu) im_eq (pf_callB call_lenA im_len (by rfl) S.b_len (by decide +kernel) (pfa_cons (pf_var 6) (pfa_nil))) (pf_int)) (pfw_and1 (pft_cmp (op_neA hu) im_ne (pf_pure (pfl_sortS S.b_sorted (pf_var 6))) (pf_pure (pfl_lst (pfa_cons (pf_str) (pfa_cons (pf_str) (pfa_nil))))))))))))) (pfss_one (pfs_ret (pf_bl))) (pfss_nil))))) (pfss_one (pfs_ret (pf_bl)))))

theorem sc_words_in : FnScope N_words_in ["meaning"] (defScope s_words_in) := ⟨rfl, rfl, rfl, by decide +kernel, rfl, by decide +kernel, by decide +kernel⟩
theorem bd_words_in (S : Fs K mg) : Binds K S.h_words_in ["meaning"] [] := S.F_words_in.bindsN fun _ _ _ _ _ _ us hl => match us, hl with | [_], _ => rfl
theorem ok_words_in (S : Fs K mg) : FnOk P w K mg base (L2.CX P w) 1 S.a_words_in S.h_words_in ["meaning"] (spD K mg 1 d_words_in) :=
  fn_okD (k := 0) (N := N_words_in) (m := m_words_in) S.F_words_in sc_words_in fun cdv A outer s H E hr => by
    have sc := sc_words_in
    have tk := tk_of (P := P) (w := w) (K := K) (mg := mg) (base := base) (N := N_words_in) (qual := "words_in") (scope := defScope s_words_in) (f := S.a_words_in) (cd := cdv) (A := A) (outer := outer) (s := s) (H := H) (E := E)
    have po := po_of (P := P) (w := w) (K := K) (mg := mg) (base := base) (N := N_words_in) (qual := "words_in") (scope := defScope s_words_in) (f := S.a_words_in) (cd := cdv) (A := A) (outer := outer) (s := s) (H := H) (E := E)
    have hu := Room.hu64 hr
    have hu65 := Room.hu65 hr
    have hu1 := Room.hu1 hr
    exact (pfss_cons (pfs_asg (pf_var 0) (pg_tup rfl (pgs_cons (pg_name sc.nd (by rfl) (by first | exact .inl rfl | exact .inr rfl)) (pgs_cons (pg_name sc.nd (by rfl) (by first | exact .inl rfl | exact .inr rfl)) (pgs_cons (pg_name sc.nd (by rfl) (by first | exact .inl rfl | exact .inr rfl)) pgs_nil))))) (pfss_one (pfs_ret (pf_pure (pfl_listK rfl S.b_list (pf_dc rfl sc.nd (pfi_seq (pf_op op_addA im_add (pf_pure (pfl_lcV rfl sc.nd (pf_op op_addA im_add (pf_var 1) (pf_var 2)) (own := [("entry", 5)]) (show BlkOk N_words_in (defScope s_words_in) _ _ from ⟨rfl, by decide +kernel, by decide +kernel, by decide +kernel, by decide +kernel⟩) rfl (fun _ _ _ _ _ => pg_name sc.nd (by rfl) (by first | exact .inl rfl | exact .inr rfl)) (fun _ _ _ _ _ => pts_yes) (fun _ _ _ _ _ => pf_ix (ix_any hu1) im_ixA (pf_var 5) (pf_int)))) (pf_pure (pfl_list S.b_list (pf_var 3))))) (own := [("word", 4)]) (show BlkOk N_words_in (defScope s_words_in) _ _ from ⟨rfl, by decide +kernel, by decide +kernel, by decide +kernel, by decide +kernel⟩) rfl (fun _ _ _ _ _ => pg_name sc.nd (by rfl) (by first | exact .inl rfl | exact .inr rfl)) (fun _ _ _ _ _ => pts_yes) (fun _ _ _ _ _ => pf_var 4) (fun _ _ _ _ _ => pf_bl)))))))

theorem sc__law_mixed : FnScope N__law_mixed ["cell", "k"] (defScope s__law_mixed) := ⟨rfl, rfl, rfl, by decide +kernel, rfl, by decide +kernel, by decide +kernel⟩
theorem bd__law_mixed (S : Fs K mg) : Binds K S.h__law_mixed ["cell", "k"] [] := S.F__law_mixed.bindsN fun _ _ _ _ _ _ us hl => match us, hl with | [_, _], _ => rfl
theorem ok__law_mixed (S : Fs K mg) : FnOk P w K mg base (L2.CX P w) 1 S.a__law_mixed S.h__law_mixed ["cell", "k"] (spD K mg 2 d__law_mixed) :=
  fn_okD (k := 0) (N := N__law_mixed) (m := m__law_mixed) S.F__law_mixed sc__law_mixed fun cdv A outer s H E hr => by
    have sc := sc__law_mixed
    have tk := tk_of (P := P) (w := w) (K := K) (mg := mg) (base := base) (N := N__law_mixed) (qual := "_law_mixed") (scope := defScope s__law_mixed) (f := S.a__law_mixed) (cd := cdv) (A := A) (outer := outer) (s := s) (H := H) (E := E)
    have po := po_of (P := P) (w := w) (K := K) (mg := mg) (base := base) (N := N__law_mixed) (qual := "_law_mixed") (scope := defScope s__law_mixed) (f := S.a__law_mixed) (cd := cdv) (A := A) (outer := outer) (s := s) (H := H) (E := E)
    have hu := Room.hu64 hr
    have hu65 := Room.hu65 hr
    have hu1 := Room.hu1 hr
    exact (pfss_cons (pfs_set sc.nd (pf_op op_mod im_mod (pf_callTy call_int1 im_int (by rfl) S.b_int (by decide +kernel) (pfa_cons (pf_op op_addA im_add (pf_op op_addA im_add (pf_op op_mulA im_mul (pf_op op_mod im_mod (pf_callTy call_int1 im_int (by rfl) S.b_int (by decide +kernel) (pfa_cons (pf_var 0) (pfa_nil))) (pf_int)) (pf_int)) (pf_op op_mulA im_mul (pf_var 1) (pf_int))) (pf_int)) (pfa_nil))) (pf_int))) (pfss_cons (pfs_set sc.nd (pf_op op_mod im_mod (pf_callTy call_int1 im_int (by rfl) S.b_int (by decide +kernel) (pfa_cons (pf_op op_mulA im_mul (pf_var 2) (pf_var 2)) (pfa_nil))) (pf_int))) (pfss_one (pfs_ret (pf_op op_mod im_mod (pf_callTy call_int1 im_int (by rfl) S.b_int (by decide +kernel) (pfa_cons (pf_op op_mulA im_mul (pf_var 2) (pf_op op_addA im_add (pf_var 2) (pf_int))) (pfa_nil))) (pf_int))))))

theorem sc__law_take : FnScope N__law_take ["own", "options"] (defScope s__law_take) := ⟨rfl, rfl, rfl, by decide +kernel, rfl, by decide +kernel, by decide +kernel⟩
theorem bd__law_take (S : Fs K mg) : Binds K S.h__law_take ["own", "options"] [] := S.F__law_take.bindsN fun _ _ _ _ _ _ us hl => match us, hl with | [_, _], _ => rfl
theorem ok__law_take (S : Fs K mg) : FnOk P w K mg base (L2.CX P w) 1 S.a__law_take S.h__law_take ["own", "options"] (spD K mg 2 d__law_take) :=
  fn_okD (k := 0) (N := N__law_take) (m := m__law_take) S.F__law_take sc__law_take fun cdv A outer s H E hr => by
    have sc := sc__law_take
    have tk := tk_of (P := P) (w := w) (K := K) (mg := mg) (base := base) (N := N__law_take) (qual := "_law_take") (scope := defScope s__law_take) (f := S.a__law_take) (cd := cdv) (A := A) (outer := outer) (s := s) (H := H) (E := E)
    have po := po_of (P := P) (w := w) (K := K) (mg := mg) (base := base) (N := N__law_take) (qual := "_law_take") (scope := defScope s__law_take) (f := S.a__law_take) (cd := cdv) (A := A) (outer := outer) (s := s) (H := H) (E := E)
    have hu := Room.hu64 hr
    have hu65 := Room.hu65 hr
    have hu1 := Room.hu1 hr
    exact (pfss_cons (pfs_set sc.nd (pf_op op_mod im_mod (pf_callTy call_int1 im_int (by rfl) S.b_int (by decide +kernel) (pfa_cons (pf_ix (ix_any hu1) im_ixA (pf_var 0) (pf_int)) (pfa_nil))) (pf_var 1))) (pfss_cons (pfs_setIx (pf_op op_fdivW im_div (pf_ix (ix_any hu1) im_ixA (pf_var 0) (pf_int)) (pf_var 1)) (pf_var 0) (pf_int)) (pfss_one (pfs_ret (pf_var 2)))))

theorem sc_are_words : FnScope N_are_words ["value"] (defScope s_are_words) := ⟨rfl, rfl, rfl, by decide +kernel, rfl, by decide +kernel, by decide +kernel⟩
theorem bd_are_words (S : Fs K mg) : Binds K S.h_are_words ["value"] [] := S.F_are_words.bindsN fun _ _ _ _ _ _ us hl => match us, hl with | [_], _ => rfl
theorem ok_are_words (S : Fs K mg) : FnOk P w K mg base (L2.CX P w) 2 S.a_are_words S.h_are_words ["value"] (spD K mg 1 d_are_words) :=
  fn_okD (k := 1) (N := N_are_words) (m := m_are_words) S.F_are_words sc_are_words fun cdv A outer s H E hr => by
    have sc := sc_are_words
    have tk := tk_of (P := P) (w := w) (K := K) (mg := mg) (base := base) (N := N_are_words) (qual := "are_words") (scope := defScope s_are_words) (f := S.a_are_words) (cd := cdv) (A := A) (outer := outer) (s := s) (H := H) (E := E)
    have po := po_of (P := P) (w := w) (K := K) (mg := mg) (base := base) (N := N_are_words) (qual := "are_words") (scope := defScope s_are_words) (f := S.a_are_words) (cd := cdv) (A := A) (outer := outer) (s := s) (H := H) (E := E)
    have hu := Room.hu64 hr
    have hu65 := Room.hu65 hr
    have hu1 := Room.hu1 hr
    exact (pfss_one (pfs_ret (pf_and (pf_isT S.b_isinstance S.b_tuple (by decide +kernel) (pf_var 0)) (pf_and (pf_callB (cr_all rfl) im_all (by rfl) S.b_all (by decide +kernel) (pfa_cons (pf_pure (pfl_lcV rfl sc.nd (pf_var 0) (own := [("word", 1)]) (show BlkOk N_are_words (defScope s_are_words) _ _ from ⟨rfl, by decide +kernel, by decide +kernel, by decide +kernel, by decide +kernel⟩) rfl (fun _ _ _ _ _ => pg_name sc.nd (by rfl) (by first | exact .inl rfl | exact .inr rfl)) (fun _ _ _ _ _ => pts_yes) (fun _ _ _ _ _ => pf_call (ok_is_word S) (hr.mono (by decide)) (by rfl) S.g_is_word S.F_is_word.kp (bd_is_word S) takesW0 (pfa_cons (pf_var 1) (pfa_nil)) (hfl := (fcons_len fnil_len))))) (pfa_nil))) (pf_one (pf_cmp (op_eqA hu) im_eq (pf_lenSet rfl S.b_len S.b_set (pf_var 0)) (pf_callB call_lenA im_len (by rfl) S.b_len (by decide +kernel) (pfa_cons (pf_var 0) (pfa_nil)))))))))

theorem sc_is_operation : FnScope N_is_operation ["value"] (defScope s_is_operation) := ⟨rfl, rfl, rfl, by decide +kernel, rfl, by decide +kernel, by decide +kernel⟩
theorem bd_is_operation (S : Fs K mg) : Binds K S.h_is_operation ["value"] [] := S.F_is_operation.bindsN fun _ _ _ _ _ _ us hl => match us, hl with | [_], _ => rfl
theorem ok_is_operation (S : Fs K mg) : FnOk P w K mg base (L2.CX P w) 2 S.a_is_operation S.h_is_operation ["value"] (spD K mg 1 d_is_operation) :=
  fn_okD (k := 1) (N := N_is_operation) (m := m_is_operation) S.F_is_operation sc_is_operation fun cdv A outer s H E hr => by
    have sc := sc_is_operation
    have tk := tk_of (P := P) (w := w) (K := K) (mg := mg) (base := base) (N := N_is_operation) (qual := "is_operation") (scope := defScope s_is_operation) (f := S.a_is_operation) (cd := cdv) (A := A) (outer := outer) (s := s) (H := H) (E := E)
    have po := po_of (P := P) (w := w) (K := K) (mg := mg) (base := base) (N := N_is_operation) (qual := "is_operation") (scope := defScope s_is_operation) (f := S.a_is_operation) (cd := cdv) (A := A) (outer := outer) (s := s) (H := H) (E := E)
    have hu := Room.hu64 hr
    have hu65 := Room.hu65 hr
    have hu1 := Room.hu1 hr
    exact (pfss_cons (pfs_if (PFW.pt (pfw_or (pft_not (pft_val (pf_isT S.b_isinstance S.b_tuple (by decide +kernel) (pf_var 0)))) (pfw_or (pft_cmp (op_neA hu) im_ne (pf_callB call_lenA im_len (by rfl) S.b_len (by decide +kernel) (pfa_cons (pf_var 0) (pfa_nil))) (pf_int)) (pfw_or1 (pft_not (pft_val (pf_isT S.b_isinstance S.b_str (by decide +kernel) (pf_ix (ix_any hu1) im_ixA (pf_var 0) (pf_int))))))))) (pfss_one (pfs_ret (pf_bl))) (pfss_nil)) (pfss_one (pfs_ret (pf_and (pf_cmp (op_inA hu65) im_in (pf_ix (ix_any hu1) im_ixA (pf_var 0) (pf_int)) (pf_gtup S.c_VERBS)) (pf_one (pf_call (ok_is_word S) (hr.mono (by decide)) (by rfl) S.g_is_word S.F_is_word.kp (bd_is_word S) tk (pfa_cons (pf_ix (ix_any hu1) im_ixA (pf_var 0) (pf_int)) (pfa_nil)) (hfl := (fcons_len fnil_len))))))))

theorem sc_run_on : FnScope N_run_on ["program", "row"] (defScope s_run_on) := ⟨rfl, rfl, rfl, by decide +kernel, rfl, by decide +kernel, by decide +kernel⟩
theorem bd_run_on (S : Fs K mg) : Binds K S.h_run_on ["program", "row"] [] := S.F_run_on.bindsN fun _ _ _ _ _ _ us hl => match us, hl with | [_, _], _ => rfl
theorem ok_run_on (S : Fs K mg) : FnOk P w K mg base (L2.CX P w) 2 S.a_run_on S.h_run_on ["program", "row"] (spD K mg 2 d_run_on) :=
  fn_okD (k := 1) (N := N_run_on) (m := m_run_on) S.F_run_on sc_run_on fun cdv A outer s H E hr => by
    have sc := sc_run_on
    have tk := tk_of (P := P) (w := w) (K := K) (mg := mg) (base := base) (N := N_run_on) (qual := "run_on") (scope := defScope s_run_on) (f := S.a_run_on) (cd := cdv) (A := A) (outer := outer) (s := s) (H := H) (E := E)
    have po := po_of (P := P) (w := w) (K := K) (mg := mg) (base := base) (N := N_run_on) (qual := "run_on") (scope := defScope s_run_on) (f := S.a_run_on) (cd := cdv) (A := A) (outer := outer) (s := s) (H := H) (E := E)
    have hu := Room.hu64 hr
    have hu65 := Room.hu65 hr
    have hu1 := Room.hu1 hr
    exact (pfss_cons (pfs_forV po rfl (pf_var 0) (pg_name sc.nd (by rfl) (by first | exact .inl rfl | exact .inr rfl)) (pfss_one (pfs_set sc.nd (pf_call (ok_execute S) (hr.mono (by decide)) (by rfl) S.g_execute S.F_execute.kp (bd_execute S) tk (pfa_cons (pf_var 2) (pfa_cons (pf_var 1) (pfa_nil))) (hfl := (fcons_len (fcons_len fnil_len))))))) (pfss_one (pfs_ret (pf_var 1))))

theorem sc_ends_of : FnScope N_ends_of ["program", "word"] (defScope s_ends_of) := ⟨rfl, rfl, rfl, by decide +kernel, rfl, by decide +kernel, by decide +kernel⟩
theorem bd_ends_of (S : Fs K mg) : Binds K S.h_ends_of ["program", "word"] [] := S.F_ends_of.bindsN fun _ _ _ _ _ _ us hl => match us, hl with | [_, _], _ => rfl
theorem ok_ends_of (S : Fs K mg) : FnOk P w K mg base (L2.CX P w) 2 S.a_ends_of S.h_ends_of ["program", "word"] (spD K mg 2 d_ends_of) :=
  fn_okD (k := 1) (N := N_ends_of) (m := m_ends_of) S.F_ends_of sc_ends_of fun cdv A outer s H E hr => by
    have sc := sc_ends_of
    have tk := tk_of (P := P) (w := w) (K := K) (mg := mg) (base := base) (N := N_ends_of) (qual := "ends_of") (scope := defScope s_ends_of) (f := S.a_ends_of) (cd := cdv) (A := A) (outer := outer) (s := s) (H := H) (E := E)
    have po := po_of (P := P) (w := w) (K := K) (mg := mg) (base := base) (N := N_ends_of) (qual := "ends_of") (scope := defScope s_ends_of) (f := S.a_ends_of) (cd := cdv) (A := A) (outer := outer) (s := s) (H := H) (E := E)
    have hu := Room.hu64 hr
    have hu65 := Room.hu65 hr
    have hu1 := Room.hu1 hr
    exact (pfss_cons (pfs_set sc.nd (pf_pure (pfl_lst (pfa_cons (pf_tup (pfa_cons (pf_str) (pfa_cons (pf_un un_neg im_neg (pf_int)) (pfa_nil)))) (pfa_cons (pf_tup (pfa_cons (pf_str) (pfa_cons (pf_un un_neg im_neg (pf_int)) (pfa_nil)))) (pfa_nil)))))) (pfss_cons (pfs_for po rfl (pfi_enumA S.b_enumerate (pfa_cons (pf_var 0) (pfa_nil))) (pg_tup rfl (pgs_cons (pg_name sc.nd (by rfl) (by first | exact .inl rfl | exact .inr rfl)) (pgs_cons (pg_name sc.nd (by rfl) (by first | exact .inl rfl | exact .inr rfl)) pgs_nil))) (pfss_cons (pfs_set sc.nd (pf_ix (ix_any hu1) im_ixA (pf_var 4) (pf_int))) (pfss_one (pfs_if (pft_cmp (op_eqA hu) im_eq (pf_ix (ix_any hu1) im_ixA (pf_var 4) (pf_int)) (pf_var 1)) (pfss_one (pfs_setLcV rfl sc.nd (pf_var 2) (own := [("end", 6)]) (show BlkOk N_ends_of (defScope s_ends_of) _ _ from ⟨rfl, by decide +kernel, by decide +kernel, by decide +kernel, by decide +kernel⟩) rfl (fun _ _ _ _ _ => pg_name sc.nd (by rfl) (by first | exact .inl rfl | exact .inr rfl)) (fun _ _ _ _ _ => pts_yes) (fun _ _ _ _ _ => pf_if (pft_val (pf_call (ok_moves S) (hr.mono (by decide)) (by rfl) S.g_moves S.F_moves.kp (bd_moves S) takesW0 (pfa_cons (pf_var 5) (pfa_cons (pf_ix (ix_any hu1) im_ixA (pf_var 6) (pf_int)) (pfa_nil))) (hfl := (fcons_len (fcons_len fnil_len))))) (pf_tup (pfa_cons (pf_call (ok_place_after S) (hr.mono (by decide)) (by rfl) S.g_place_after S.F_place_after.kp (bd_place_after S) takesW0 (pfa_cons (pf_var 5) (pfa_cons (pf_ix (ix_any hu1) im_ixA (pf_var 6) (pf_int)) (pfa_nil))) (hfl := (fcons_len (fcons_len fnil_len)))) (pfa_cons (pf_var 3) (pfa_nil)))) (pf_var 6)) (by exact sw_true rfl rfl rfl (by decide +kernel)) tf_pure)) (pfss_nil))))) (pfss_one (pfs_ret (pf_var 2)))))

theorem sc_are_entries : FnScope N_are_entries ["value"] (defScope s_are_entries) := ⟨rfl, rfl, rfl, by decide +kernel, rfl, by decide +kernel, by decide +kernel⟩
theorem bd_are_entries (S : Fs K mg) : Binds K S.h_are_entries ["value"] [] := S.F_are_entries.bindsN fun _ _ _ _ _ _ us hl => match us, hl with | [_], _ => rfl
theorem ok_are_entries (S : Fs K mg) : FnOk P w K mg base (L2.CX P w) 2 S.a_are_entries S.h_are_entries ["value"] (spD K mg 1 d_are_entries) :=
  fn_okD (k := 1) (N := N_are_entries) (m := m_are_entries) S.F_are_entries sc_are_entries fun cdv A outer s H E hr => by
    have sc := sc_are_entries
    have tk := tk_of (P := P) (w := w) (K := K) (mg := mg) (base := base) (N := N_are_entries) (qual := "are_entries") (scope := defScope s_are_entries) (f := S.a_are_entries) (cd := cdv) (A := A) (outer := outer) (s := s) (H := H) (E := E)
    have po := po_of (P := P) (w := w) (K := K) (mg := mg) (base := base) (N := N_are_entries) (qual := "are_entries") (scope := defScope s_are_entries) (f := S.a_are_entries) (cd := cdv) (A := A) (outer := outer) (s := s) (H := H) (E := E)
    have hu := Room.hu64 hr
    have hu65 := Room.hu65 hr
    have hu1 := Room.hu1 hr
    exact (pfss_cons (pfs_if (pft_not (pft_val (pf_isT S.b_isinstance S.b_tuple (by decide +kernel) (pf_var 0)))) (pfss_one (pfs_ret (pf_bl))) (pfss_nil)) (pfss_cons (pfs_forV po rfl (pf_var 0) (pg_name sc.nd (by rfl) (by first | exact .inl rfl | exact .inr rfl)) (pfss_cons (pfs_if (PFW.pt (pfw_or (pft_not (pft_val (pf_isT S.b_isinstance S.b_tuple (by decide +kernel) (pf_var 1)))) (pfw_or (pft_cmp (op_neA hu) im_ne (pf_callB call_lenA im_len (by rfl) S.b_len (by decide +kernel) (pfa_cons (pf_var 1) (pfa_nil))) (pf_int)) (pfw_or (pft_not (pft_val (pf_call (ok_is_word S) (hr.mono (by decide)) (by rfl) S.g_is_word S.F_is_word.kp (bd_is_word S) tk (pfa_cons (pf_ix (ix_any hu1) im_ixA (pf_var 1) (pf_int)) (pfa_nil)) (hfl := (fcons_len fnil_len))))) (pfw_or1 (pft_not (pft_val (pf_isT S.b_isinstance S.b_str (by decide +kernel) (pf_ix (ix_any hu1) im_ixA (pf_var 1) (pf_int)))))))))) (pfss_one (pfs_ret (pf_bl))) (pfss_nil)) (pfss_one (pfs_if (pft_cmp (op_notInA hu65) im_notIn (pf_ix (ix_any hu1) im_ixA (pf_var 1) (pf_int)) (pf_gtup S.c_CASES)) (pfss_one (pfs_ret (pf_bl))) (pfss_nil))))) (pfss_one (pfs_ret (pf_bl)))))

theorem sc_made : FnScope N_made ["front", "back"] (defScope s_made) := ⟨rfl, rfl, rfl, by decide +kernel, rfl, by decide +kernel, by decide +kernel⟩
theorem bd_made (S : Fs K mg) : Binds K S.h_made ["front", "back"] [] := S.F_made.bindsN fun _ _ _ _ _ _ us hl => match us, hl with | [_, _], _ => rfl
theorem ok_made (S : Fs K mg) : FnOk P w K mg base (L2.CX P w) 2 S.a_made S.h_made ["front", "back"] (spD K mg 2 d_made) :=
  fn_okD (k := 1) (N := N_made) (m := m_made) S.F_made sc_made fun cdv A outer s H E hr => by
    have sc := sc_made
    have tk := tk_of (P := P) (w := w) (K := K) (mg := mg) (base := base) (N := N_made) (qual := "made") (scope := defScope s_made) (f := S.a_made) (cd := cdv) (A := A) (outer := outer) (s := s) (H := H) (E := E)
    have po := po_of (P := P) (w := w) (K := K) (mg := mg) (base := base) (N := N_made) (qual := "made") (scope := defScope s_made) (f := S.a_made) (cd := cdv) (A := A) (outer := outer) (s := s) (H := H) (E := E)
    have hu := Room.hu64 hr
    have hu65 := Room.hu65 hr
    have hu1 := Room.hu1 hr
    exact (pfss_cons (pfs_set sc.nd (pf_cell (pfl_list S.b_list (pf_rev (pf_var 0))))) (pfss_cons (pfs_set sc.nd (pf_cell (pfl_list S.b_list (pf_var 1)))) (pfss_cons (pfs_set sc.nd (pf_op op_addA im_add (pf_var 2) (pf_var 3))) (pfss_cons (pfs_set sc.nd (pf_cell (pfl_lst (pfa_nil)))) (pfss_cons (pfs_set sc.nd (pf_cell (pfl_lst (pfa_nil)))) (pfss_cons (pfs_while 100000 po (pft_cmp op_gt im_gt (pf_op op_addA im_add (pf_callB call_lenA im_len (by rfl) S.b_len (by decide +kernel) (pfa_cons (pf_var 2) (pfa_nil))) (pf_callB call_lenA im_len (by rfl) S.b_len (by decide +kernel) (pfa_cons (pf_var 3) (pfa_nil)))) (pf_int)) (pfss_one (pfs_if (PFW.pt (pfw_and (pft_cmp op_gt im_gt (pf_callB call_lenA im_len (by rfl) S.b_len (by decide +kernel) (pfa_cons (pf_var 2) (pfa_nil))) (pf_int)) (pfw_and1 (pft_cmp (op_inA hu65) im_in (pf_call (ok_comes_after S) (hr.mono (by decide)) (by rfl) S.g_comes_after S.F_comes_after.kp (bd_comes_after S) tk (pfa_cons (pf_ix (ix_any hu1) im_ixA (pf_var 2) (pf_int)) (pfa_cons (pf_var 4) (pfa_nil))) (hfl := (fcons_len (fcons_len fnil_len)))) (pf_op op_addA im_add (pf_var 6) (pf_pure (pfl_lst (pfa_cons (pf_non) (pfa_nil))))))))) (pfss_cons (pfs_expr (pf_mth PySem.F.slot_list_append PySem.F.type_list_append mt_append im_append (pf_var 6) (pfa_cons (pf_mth PySem.F.slot_list_pop PySem.F.type_list_pop mt_popAt im_popAt (pf_var 2) (pfa_cons (pf_int) (pfa_nil))) (pfa_nil)))) (pfss_one (pfs_expr (pf_mth PySem.F.slot_list_append PySem.F.type_list_append mt_append im_append (pf_var 5) (pfa_cons (pf_tup (pfa_cons (pf_ix (ix_any hu1) im_ixC (pf_dispC (kvs := [("always", "front"), ("present", "lift"), ("absent", "addfront")]) (pps_cons pe_str pe_str (pps_cons pe_str pe_str (pps_cons pe_str pe_str pps_nil))) (by decide +kernel) (by decide)) (pf_ix (ix_any hu1) im_ixA (pf_ix (ix_any hu1) im_ixA (pf_var 6) (pf_un un_neg im_neg (pf_int))) (pf_int))) (pfa_cons (pf_ix (ix_any hu1) im_ixA (pf_ix (ix_any hu1) im_ixA (pf_var 6) (pf_un un_neg im_neg (pf_int))) (pf_int)) (pfa_nil)))) (pfa_nil)))))) (pfss_one (pfs_if (PFW.pt (pfw_and (pft_cmp op_gt im_gt (pf_callB call_lenA im_len (by rfl) S.b_len (by decide +kernel) (pfa_cons (pf_var 3) (pfa_nil))) (pf_int)) (pfw_and1 (pft_cmp (op_inA hu65) im_in (pf_call (ok_comes_after S) (hr.mono (by decide)) (by rfl) S.g_comes_after S.F_comes_after.kp (bd_comes_after S) tk (pfa_cons (pf_ix (ix_any hu1) im_ixA (pf_var 3) (pf_int)) (pfa_cons (pf_var 4) (pfa_nil))) (hfl := (fcons_len (fcons_len fnil_len)))) (pf_op op_addA im_add (pf_var 6) (pf_pure (pfl_lst (pfa_cons (pf_non) (pfa_nil))))))))) (pfss_cons (pfs_expr (pf_mth PySem.F.slot_list_append PySem.F.type_list_append mt_append im_append (pf_var 6) (pfa_cons (pf_mth PySem.F.slot_list_pop PySem.F.type_list_pop mt_popAt im_popAt (pf_var 3) (pfa_cons (pf_int) (pfa_nil))) (pfa_nil)))) (pfss_one (pfs_expr (pf_mth PySem.F.slot_list_append PySem.F.type_list_append mt_append im_append (pf_var 5) (pfa_cons (pf_tup (pfa_cons (pf_ix (ix_any hu1) im_ixC (pf_dispC (kvs := [("always", "back"), ("present", "sink"), ("absent", "addback")]) (pps_cons pe_str pe_str (pps_cons pe_str pe_str (pps_cons pe_str pe_str pps_nil))) (by decide +kernel) (by decide)) (pf_ix (ix_any hu1) im_ixA (pf_ix (ix_any hu1) im_ixA (pf_var 6) (pf_un un_neg im_neg (pf_int))) (pf_int))) (pfa_cons (pf_ix (ix_any hu1) im_ixA (pf_ix (ix_any hu1) im_ixA (pf_var 6) (pf_un un_neg im_neg (pf_int))) (pf_int)) (pfa_nil)))) (pfa_nil)))))) (pfss_one (pfs_ret (pf_non)))))))) (pfss_one (pfs_ret (pf_frz (pf_var 5))))))))))

theorem sc__law_cell : FnScope N__law_cell ["script", "k"] (defScope s__law_cell) := ⟨rfl, rfl, rfl, by decide +kernel, rfl, by decide +kernel, by decide +kernel⟩
theorem bd__law_cell (S : Fs K mg) : Binds K S.h__law_cell ["script", "k"] [] := S.F__law_cell.bindsN fun _ _ _ _ _ _ us hl => match us, hl with | [_, _], _ => rfl
theorem ok__law_cell (S : Fs K mg) : FnOk P w K mg base (L2.CX P w) 2 S.a__law_cell S.h__law_cell ["script", "k"] (spD K mg 2 d__law_cell) :=
  fn_okD (k := 1) (N := N__law_cell) (m := m__law_cell) S.F__law_cell sc__law_cell fun cdv A outer s H E hr => by
    have sc := sc__law_cell
    have tk := tk_of (P := P) (w := w) (K := K) (mg := mg) (base := base) (N := N__law_cell) (qual := "_law_cell") (scope := defScope s__law_cell) (f := S.a__law_cell) (cd := cdv) (A := A) (outer := outer) (s := s) (H := H) (E := E)
    have po := po_of (P := P) (w := w) (K := K) (mg := mg) (base := base) (N := N__law_cell) (qual := "_law_cell") (scope := defScope s__law_cell) (f := S.a__law_cell) (cd := cdv) (A := A) (outer := outer) (s := s) (H := H) (E := E)
    have hu := Room.hu64 hr
    have hu65 := Room.hu65 hr
    have hu1 := Room.hu1 hr
    exact (pfss_cons (pfs_set sc.nd (pf_int)) (pfss_cons (pfs_if (pft_cmp op_lt im_lt (pf_var 1) (pf_callB call_lenA im_len (by rfl) S.b_len (by decide +kernel) (pfa_cons (pf_var 0) (pfa_nil)))) (pfss_one (pfs_set sc.nd (pf_ix (ix_any hu1) im_ixA (pf_var 0) (pf_var 1)))) (pfss_nil)) (pfss_cons (pfs_if (pft_cmp op_ge im_ge (pf_var 2) (pf_op op_pow im_pow (pf_int) (pf_int))) (pfss_one (pfs_ret (pf_op op_mod im_mod (pf_callTy call_int1 im_int (by rfl) S.b_int (by decide +kernel) (pfa_cons (pf_op op_sub im_sub (pf_var 2) (pf_op op_pow im_pow (pf_int) (pf_int))) (pfa_nil))) (pf_op op_mulA im_mul (pf_op op_mulA im_mul (pf_op op_mulA im_mul (pf_op op_pow im_pow (pf_int) (pf_int)) (pf_op op_pow im_pow (pf_int) (pf_int))) (pf_op op_pow im_pow (pf_int) (pf_int))) (pf_op op_pow im_pow (pf_int) (pf_int)))))) (pfss_nil)) (pfss_cons (pfs_set sc.nd (pf_int)) (pfss_cons (pfs_for po rfl (pfi_rng1 S.b_range (pfa_cons (pf_int) (pfa_nil))) (pg_name sc.nd (by rfl) (by first | exact .inl rfl | exact .inr rfl)) (pfss_one (pfs_set sc.nd (pf_op op_addA im_add (pf_op op_mulA im_mul (pf_var 3) (pf_int)) (pf_call (ok__law_mixed S) (hr.mono (by decide)) (by rfl) S.g__law_mixed S.F__law_mixed.kp (bd__law_mixed S) tk (pfa_cons (pf_var 2) (pfa_cons (pf_op op_addA im_add (pf_op op_addA im_add (pf_op op_mulA im_mul (pf_int) (pf_var 1)) (pf_op op_mulA im_mul (pf_int) (pf_var 4))) (pf_op op_mulA im_mul (pf_var 4) (pf_var 4))) (pfa_nil))) (hfl := (fcons_len (fcons_len fnil_len)))))))) (pfss_one (pfs_ret (pf_var 3))))))))

theorem sc__law_words : FnScope N__law_words ["own", "many"] (defScope s__law_words) := ⟨rfl, rfl, rfl, by decide +kernel, rfl, by decide +kernel, by decide +kernel⟩
theorem bd__law_words (S : Fs K mg) : Binds K S.h__law_words ["own", "many"] [] := S.F__law_words.bindsN fun _ _ _ _ _ _ us hl => match us, hl with | [_, _], _ => rfl
theorem ok__law_words (S : Fs K mg) : FnOk P w K mg base (L2.CX P w) 2 S.a__law_words S.h__law_words ["own", "many"] (spD K mg 2 d__law_words) :=
  fn_okD (k := 1) (N := N__law_words) (m := m__law_words) S.F__law_words sc__law_words fun cdv A outer s H E hr => by
    have sc := sc__law_words
    have tk := tk_of (P := P) (w := w) (K := K) (mg := mg) (base := base) (N := N__law_words) (qual := "_law_words") (scope := defScope s__law_words) (f := S.a__law_words) (cd := cdv) (A := A) (outer := outer) (s := s) (H := H) (E := E)
    have po := po_of (P := P) (w := w) (K := K) (mg := mg) (base := base) (N := N__law_words) (qual := "_law_words") (scope := defScope s__law_words) (f := S.a__law_words) (cd := cdv) (A := A) (outer := outer) (s := s) (H := H) (E := E)
    have hu := Room.hu64 hr
    have hu65 := Room.hu65 hr
    have hu1 := Room.hu1 hr
    exact (pfss_cons (pfs_set sc.nd (pf_pure (pfl_lst (pfa_cons (pf_str) (pfa_cons (pf_str) (pfa_cons (pf_str) (pfa_cons (pf_str) (pfa_cons (pf_str) (pfa_cons (pf_str) (pfa_cons (pf_str) (pfa_cons (pf_str) (pfa_nil)))))))))))) (pfss_cons (pfs_set sc.nd (pf_call (ok__law_take S) (hr.mono (by decide)) (by rfl) S.g__law_take S.F__law_take.kp (bd__law_take S) tk (pfa_cons (pf_var 0) (pfa_cons (pf_int) (pfa_nil))) (hfl := (fcons_len (fcons_len fnil_len))))) (pfss_one (pfs_ret (pf_sl (pf_op op_addA im_add (pf_sl (pf_var 2) (pfo_some (pf_var 3)) (pfo_none)) (pf_sl (pf_var 2) (pfo_none) (pfo_some (pf_var 3)))) (pfo_none) (pfo_some (pf_var 1)))))))

theorem sc__law_some : FnScope N__law_some ["own", "words", "verbs", "most"] (defScope s__law_some) := ⟨rfl, rfl, rfl, by decide +kernel, rfl, by decide +kernel, by decide +kernel⟩
theorem bd__law_some (S : Fs K mg) : Binds K S.h__law_some ["own", "words", "verbs", "most"] [] := S.F__law_some.bindsN fun _ _ _ _ _ _ us hl => match us, hl with | [_, _, _, _], _ => rfl
theorem ok__law_some (S : Fs K mg) : FnOk P w K mg base (L2.CX P w) 2 S.a__law_some S.h__law_some ["own", "words", "verbs", "most"] (spD K mg 4 d__law_some) :=
  fn_okD (k := 1) (N := N__law_some) (m := m__law_some) S.F__law_some sc__law_some fun cdv A outer s H E hr => by
    have sc := sc__law_some
    have tk := tk_of (P := P) (w := w) (K := K) (mg := mg) (base := base) (N := N__law_some) (qual := "_law_some") (scope := defScope s__law_some) (f := S.a__law_some) (cd := cdv) (A := A) (outer := outer) (s := s) (H := H) (E := E)
    have po := po_of (P := P) (w := w) (K := K) (mg := mg) (base := base) (N := N__law_some) (qual := "_law_some") (scope := defScope s__law_some) (f := S.a__law_some) (cd := cdv) (A := A) (outer := outer) (s := s) (H := H) (E := E)
    have hu := Room.hu64 hr
    have hu65 := Room.hu65 hr
    have hu1 := Room.hu1 hr
    exact (pfss_cons (pfs_set sc.nd (pf_call (ok__law_take S) (hr.mono (by decide)) (by rfl) S.g__law_take S.F__law_take.kp (bd__law_take S) tk (pfa_cons (pf_var 0) (pfa_cons (pf_op op_addA im_add (pf_var 3) (pf_int)) (pfa_nil))) (hfl := (fcons_len (fcons_len fnil_len))))) (pfss_one (pfs_ret (pf_pure (pfl_lc rfl sc.nd (pfi_rng1 S.b_range (pfa_cons (pf_var 4) (pfa_nil))) (own := [("k", 5)]) (show BlkOk N__law_some (defScope s__law_some) _ _ from ⟨rfl, by decide +kernel, by decide +kernel, by decide +kernel, by decide +kernel⟩) rfl (fun _ _ _ _ _ => pg_name sc.nd (by rfl) (by first | exact .inl rfl | exact .inr rfl)) (fun _ _ _ _ _ => pts_yes) (fun _ _ _ _ _ => pf_tup (pfa_cons (pf_ix (ix_any hu1) im_ixA (pf_var 2) (pf_call (ok__law_take S) (hr.mono (by decide)) (by rfl) S.g__law_take S.F__law_take.kp (bd__law_take S) takesW0 (pfa_cons (pf_var 0) (pfa_cons (pf_callB call_lenA im_len (by rfl) S.b_len (by decide +kernel) (pfa_cons (pf_var 2) (pfa_nil))) (pfa_nil))) (hfl := (fcons_len (fcons_len fnil_len))))) (pfa_cons (pf_ix (ix_any hu1) im_ixA (pf_var 1) (pf_call (ok__law_take S) (hr.mono (by decide)) (by rfl) S.g__law_take S.F__law_take.kp (bd__law_take S) takesW0 (pfa_cons (pf_var 0) (pfa_cons (pf_callB call_lenA im_len (by rfl) S.b_len (by decide +kernel) (pfa_cons (pf_var 1) (pfa_nil))) (pfa_nil))) (hfl := (fcons_len (fcons_len fnil_len))))) (pfa_nil)))))))))

theorem sc__law_verbs : FnScope N__law_verbs ["own"] (defScope s__law_verbs) := ⟨rfl, rfl, rfl, by decide +kernel, rfl, by decide +kernel, by decide +kernel⟩
theorem bd__law_verbs (S : Fs K mg) : Binds K S.h__law_verbs ["own"] [] := S.F__law_verbs.bindsN fun _ _ _ _ _ _ us hl => match us, hl with | [_], _ => rfl
theorem ok__law_verbs (S : Fs K mg) : FnOk P w K mg base (L2.CX P w) 2 S.a__law_verbs S.h__law_verbs ["own"] (spD K mg 1 d__law_verbs) :=
  fn_okD (k := 1) (N := N__law_verbs) (m := m__law_verbs) S.F__law_verbs sc__law_verbs fun cdv A outer s H E hr => by
    have sc := sc__law_verbs
    have tk := tk_of (P := P) (w := w) (K := K) (mg := mg) (base := base) (N := N__law_verbs) (qual := "_law_verbs") (scope := defScope s__law_verbs) (f := S.a__law_verbs) (cd := cdv) (A := A) (outer := outer) (s := s) (H := H) (E := E)
    have po := po_of (P := P) (w := w) (K := K) (mg := mg) (base := base) (N := N__law_verbs) (qual := "_law_verbs") (scope := defScope s__law_verbs) (f := S.a__law_verbs) (cd := cdv) (A := A) (outer := outer) (s := s) (H := H) (E := E)
    have hu := Room.hu64 hr
    have hu65 := Room.hu65 hr
    have hu1 := Room.hu1 hr
    exact (pfss_cons (pfs_set sc.nd (pf_pure (pfl_lst (pfa_cons (pf_str) (pfa_cons (pf_str) (pfa_cons (pf_str) (pfa_nil))))))) (pfss_one (pfs_ret (pf_op op_addA im_add (pf_var 1) (pf_pure (pfl_lst (pfa_cons (pf_ix (ix_any hu1) im_ixA (pf_pure (pfl_lst (pfa_cons (pf_str) (pfa_cons (pf_str) (pfa_nil))))) (pf_call (ok__law_take S) (hr.mono (by decide)) (by rfl) S.g__law_take S.F__law_take.kp (bd__law_take S) tk (pfa_cons (pf_var 0) (pfa_cons (pf_int) (pfa_nil))) (hfl := (fcons_len (fcons_len fnil_len))))) (pfa_cons (pf_ix (ix_any hu1) im_ixA (pf_pure (pfl_lst (pfa_cons (pf_str) (pfa_cons (pf_str) (pfa_nil))))) (pf_call (ok__law_take S) (hr.mono (by decide)) (by rfl) S.g__law_take S.F__law_take.kp (bd__law_take S) tk (pfa_cons (pf_var 0) (pfa_cons (pf_int) (pfa_nil))) (hfl := (fcons_len (fcons_len fnil_len))))) (pfa_nil)))))))))

theorem sc_is_row : FnScope N_is_row ["value"] (defScope s_is_row) := ⟨rfl, rfl, rfl, by decide +kernel, rfl, by decide +kernel, by decide +kernel⟩
theorem bd_is_row (S : Fs K mg) : Binds K S.h_is_row ["value"] [] := S.F_is_row.bindsN fun _ _ _ _ _ _ us hl => match us, hl with | [_], _ => rfl
theorem ok_is_row (S : Fs K mg) : FnOk P w K mg base (L2.CX P w) 3 S.a_is_row S.h_is_row ["value"] (spD K mg 1 d_is_row) :=
  fn_okD (k := 2) (N := N_is_row) (m := m_is_row) S.F_is_row sc_is_row fun cdv A outer s H E hr => by
    have sc := sc_is_row
    have tk := tk_of (P := P) (w := w) (K := K) (mg := mg) (base := base) (N := N_is_row) (qual := "is_row") (scope := defScope s_is_row) (f := S.a_is_row) (cd := cdv) (A := A) (outer := outer) (s := s) (H := H) (E := E)
    have po := po_of (P := P) (w := w) (K := K) (mg := mg) (base := base) (N := N_is_row) (qual := "is_row") (scope := defScope s_is_row) (f := S.a_is_row) (cd := cdv) (A := A) (outer := outer) (s := s) (H := H) (E := E)
    have hu := Room.hu64 hr
    have hu65 := Room.hu65 hr
    have hu1 := Room.hu1 hr
    exact (pfss_one (pfs_ret (pf_and (pf_call (ok_are_words S) (hr.mono (by decide)) (by rfl) S.g_are_words S.F_are_words.kp (bd_are_words S) tk (pfa_cons (pf_var 0) (pfa_nil)) (hfl := (fcons_len fnil_len))) (pf_one (pf_cmp op_le im_le (pf_callB call_lenA im_len (by rfl) S.b_len (by decide +kernel) (pfa_cons (pf_var 0) (pfa_nil))) (pf_gint S.c_MOST_ROW))))))

theorem sc_is_program : FnScope N_is_program ["value"] (defScope s_is_program) := ⟨rfl, rfl, rfl, by decide +kernel, rfl, by decide +kernel, by decide +kernel⟩
theorem bd_is_program (S : Fs K mg) : Binds K S.h_is_program ["value"] [] := S.F_is_program.bindsN fun _ _ _ _ _ _ us hl => match us, hl with | [_], _ => rfl
theorem ok_is_program (S : Fs K mg) : FnOk P w K mg base (L2.CX P w) 3 S.a_is_program S.h_is_program ["value"] (spD K mg 1 d_is_program) :=
  fn_okD (k := 2) (N := N_is_program) (m := m_is_program) S.F_is_program sc_is_program fun cdv A outer s H E hr => by
    have sc := sc_is_program
    have tk := tk_of (P := P) (w := w) (K := K) (mg := mg) (base := base) (N := N_is_program) (qual := "is_program") (scope := defScope s_is_program) (f := S.a_is_program) (cd := cdv) (A := A) (outer := outer) (s := s) (H := H) (E := E)
    have po := po_of (P := P) (w := w) (K := K) (mg := mg) (base := base) (N := N_is_program) (qual := "is_program") (scope := defScope s_is_program) (f := S.a_is_program) (cd := cdv) (A := A) (outer := outer) (s := s) (H := H) (E := E)
    have hu := Room.hu64 hr
    have hu65 := Room.hu65 hr
    have hu1 := Room.hu1 hr
    exact (pfss_cons (pfs_if (PFW.pt (pfw_or (pft_not (pft_val (pf_isT S.b_isinstance S.b_list (by decide +kernel) (pf_var 0)))) (pfw_or (pft_cmp op_gt im_gt (pf_callB call_lenA im_len (by rfl) S.b_len (by decide +kernel) (pfa_cons (pf_var 0) (pfa_nil))) (pf_gint S.c_MOST_OPERATIONS)) (pfw_or1 (pft_not (pft_val (pf_callB (cr_all rfl) im_all (by rfl) S.b_all (by decide +kernel) (pfa_cons (pf_pure (pfl_lcV rfl sc.nd (pf_var 0) (own := [("one", 1)]) (show BlkOk N_is_program (defScope s_is_program) _ _ from ⟨rfl, by decide +kernel, by decide +kernel, by decide +kernel, by decide +kernel⟩) rfl (fun _ _ _ _ _ => pg_name sc.nd (by rfl) (by first | exact .inl rfl | exact .inr rfl)) (fun _ _ _ _ _ => pts_yes) (fun _ _ _ _ _ => pf_call (ok_is_operation S) (hr.mono (by decide)) (by rfl) S.g_is_operation S.F_is_operation.kp (bd_is_operation S) takesW0 (pfa_cons (pf_var 1) (pfa_nil)) (hfl := (fcons_len fnil_len))))) (pfa_nil))))))))) (pfss_one (pfs_ret (pf_bl))) (pfss_nil)) (pfss_one (pfs_ret (pf_cmp op_le im_le (pf_callB call_lenA im_len (by rfl) S.b_len (by decide +kernel) (pfa_cons (pf_call (ok_words_of S) (hr.mono (by decide)) (by rfl) S.g_words_of S.F_words_of.kp (bd_words_of S) tk (pfa_cons (pf_var 0) (pfa_nil)) (hfl := (fcons_len fnil_len))) (pfa_nil))) (pf_gint S.c_MOST_WORDS)))))

theorem sc_entries_at : FnScope N_entries_at ["program", "place"] (defScope s_entries_at) := ⟨rfl, rfl, rfl, by decide +kernel, rfl, by decide +kernel, by decide +kernel⟩
theorem bd_entries_at (S : Fs K mg) : Binds K S.h_entries_at ["program", "place"] [] := S.F_entries_at.bindsN fun _ _ _ _ _ _ us hl => match us, hl with | [_, _], _ => rfl
theorem ok_entries_at (S : Fs K mg) : FnOk P w K mg base (L2.CX P w) 3 S.a_entries_at S.h_entries_at ["program", "place"] (spD K mg 2 d_entries_at) :=
  fn_okD (k := 2) (N := N_entries_at) (m := m_entries_at) S.F_entries_at sc_entries_at fun cdv A outer s H E hr => by
    have sc := sc_entries_at
    have tk := tk_of (P := P) (w := w) (K := K) (mg := mg) (base := base) (N := N_entries_at) (qual := "entries_at") (scope := defScope s_entries_at) (f := S.a_entries_at) (cd := cdv) (A := A) (outer := outer) (s := s) (H := H) (E := E)
    have po := po_of (P := P) (w := w) (K := K) (mg := mg) (base := base) (N := N_entries_at) (qual := "entries_at") (scope := defScope s_entries_at) (f := S.a_entries_at) (cd := cdv) (A := A) (outer := outer) (s := s) (H := H) (E := E)
    have hu := Room.hu64 hr
    have hu65 := Room.hu65 hr
    have hu1 := Room.hu1 hr
    exact (pfss_cons (pfs_set sc.nd (pf_cell (pfl_lst (pfa_nil)))) (pfss_cons (pfs_forV po rfl (pf_call (ok_words_of S) (hr.mono (by decide)) (by rfl) S.g_words_of S.F_words_of.kp (bd_words_of S) tk (pfa_cons (pf_var 0) (pfa_nil)) (hfl := (fcons_len fnil_len))) (pg_name sc.nd (by rfl) (by first | exact .inl rfl | exact .inr rfl)) (pfss_cons (pfs_asgL rfl (pf_call (ok_ends_of S) (hr.mono (by decide)) (by rfl) S.g_ends_of S.F_ends_of.kp (bd_ends_of S) tk (pfa_cons (pf_var 0) (pfa_cons (pf_var 3) (pfa_nil))) (hfl := (fcons_len (fcons_len fnil_len)))) (pgs_cons (pg_name sc.nd (by rfl) (by first | exact .inl rfl | exact .inr rfl)) (pgs_cons (pg_name sc.nd (by rfl) (by first | exact .inl rfl | exact .inr rfl)) pgs_nil))) (pfss_one (pfs_if (PFW.pt (pfw_and (pft_cmp (op_eqA hu) im_eq (pf_var 4) (pf_var 5)) (pfw_and1 (pft_cmp (op_eqA hu) im_eq (pf_ix (ix_any hu1) im_ixA (pf_var 4) (pf_int)) (pf_var 1))))) (pfss_one (pfs_expr (pf_mth PySem.F.slot_list_append PySem.F.type_list_append mt_append im_append (pf_var 2) (pfa_cons (pf_tup (pfa_cons (pf_ix (ix_any hu1) im_ixA (pf_var 4) (pf_int)) (pfa_cons (pf_var 3) (pfa_cons (pf_str) (pfa_nil))))) (pfa_nil))))) (pfss_cons (pfs_set sc.nd (pf_tup (pfa_cons (pf_tup (pfa_cons (pf_var 4) (pfa_cons (pf_str) (pfa_nil)))) (pfa_cons (pf_tup (pfa_cons (pf_var 5) (pfa_cons (pf_str) (pfa_nil)))) (pfa_nil))))) (pfss_one (pfs_ext sc.nd (pf_pure (pfl_lcV rfl sc.nd (pf_var 6) (own := [("end", 7), ("case", 8)]) (show BlkOk N_entries_at (defScope s_entries_at) _ _ from ⟨rfl, by decide +kernel, by decide +kernel, by decide +kernel, by decide +kernel⟩) rfl (fun _ _ _ _ _ => pg_tup rfl (pgs_cons (pg_name sc.nd (by rfl) (by first | exact .inl rfl | exact .inr rfl)) (pgs_cons (pg_name sc.nd (by rfl) (by first | exact .inl rfl | exact .inr rfl)) pgs_nil))) (fun _ _ _ _ _ => pts_if (pft_cmp (op_eqA hu) im_eq (pf_ix (ix_any hu1) im_ixA (pf_var 7) (pf_int)) (pf_var 1))) (fun _ _ _ _ _ => pf_tup (pfa_cons (pf_ix (ix_any hu1) im_ixA (pf_var 7) (pf_int)) (pfa_cons (pf_var 3) (pfa_cons (pf_var 8) (pfa_nil)))))))))))))) (pfss_one (pfs_ret (pf_pure (pfl_sortT S.b_sorted (pf_var 2)))))))

theorem sc_is_meaning : FnScope N_is_meaning ["value"] (defScope s_is_meaning) := ⟨rfl, rfl, rfl, by decide +kernel, rfl, by decide +kernel, by decide +kernel⟩
theorem bd_is_meaning (S : Fs K mg) : Binds K S.h_is_meaning ["value"] [] := S.F_is_meaning.bindsN fun _ _ _ _ _ _ us hl => match us, hl with | [_], _ => rfl
theorem ok_is_meaning (S : Fs K mg) : FnOk P w K mg base (L2.CX P w) 3 S.a_is_meaning S.h_is_meaning ["value"] (spD K mg 1 d_is_meaning) :=
  fn_okD (k := 2) (N := N_is_meaning) (m := m_is_meaning) S.F_is_meaning sc_is_meaning fun cdv A outer s H E hr => by
    have sc := sc_is_meaning
    have tk := tk_of (P := P) (w := w) (K := K) (mg := mg) (base := base) (N := N_is_meaning) (qual := "is_meaning") (scope := defScope s_is_meaning) (f := S.a_is_meaning) (cd := cdv) (A := A) (outer := outer) (s := s) (H := H) (E := E)
    have po := po_of (P := P) (w := w) (K := K) (mg := mg) (base := base) (N := N_is_meaning) (qual := "is_meaning") (scope := defScope s_is_meaning) (f := S.a_is_meaning) (cd := cdv) (A := A) (outer := outer) (s := s) (H := H) (E := E)
    have hu := Room.hu64 hr
    have hu65 := Room.hu65 hr
    have hu1 := Room.hu1 hr
    exact (pfss_cons (pfs_if (PFW.pt (pfw_or (pft_not (pft_val (pf_isT S.b_isinstance S.b_tuple (by decide +kernel) (pf_var 0)))) (pfw_or (pft_cmp (op_neA hu) im_ne (pf_callB call_lenA im_len (by rfl) S.b_len (by decide +kernel) (pfa_cons (pf_var 0) (pfa_nil))) (pf_int)) (pfw_or (pft_not (pft_val (pf_call (ok_are_entries S) (hr.mono (by decide)) (by rfl) S.g_are_entries S.F_are_entries.kp (bd_are_entries S) tk (pfa_cons (pf_ix (ix_any hu1) im_ixA (pf_var 0) (pf_int)) (pfa_nil)) (hfl := (fcons_len fnil_len))))) (pfw_or1 (pft_not (pft_val (pf_call (ok_are_entries S) (hr.mono (by decide)) (by rfl) S.g_are_entries S.F_are_entries.kp (bd_are_entries S) tk (pfa_cons (pf_ix (ix_any hu1) im_ixA (pf_var 0) (pf_int)) (pfa_nil)) (hfl := (fcons_len fnil_len)))))))))) (pfss_one (pfs_ret (pf_bl))) (pfss_nil)) (pfss_cons (pfs_asg (pf_var 0) (pg_tup rfl (pgs_cons (pg_name sc.nd (by rfl) (by first | exact .inl rfl | exact .inr rfl)) (pgs_cons (pg_name sc.nd (by rfl) (by first | exact .inl rfl | exact .inr rfl)) (pgs_cons (pg_name sc.nd (by rfl) (by first | exact .inl rfl | exact .inr rfl)) pgs_nil))))) (pfss_cons (pfs_if (PFW.pt (pfw_or (pft_not (pft_val (pf_isT S.b_isinstance S.b_tuple (by decide +kernel) (pf_var 3)))) (pfw_or1 (pft_not (pft_val (pf_callB (cr_all rfl) im_all (by rfl) S.b_all (by decide +kernel) (pfa_cons (pf_pure (pfl_lcV rfl sc.nd (pf_var 3) (own := [("word", 4)]) (show BlkOk N_is_meaning (defScope s_is_meaning) _ _ from ⟨rfl, by decide +kernel, by decide +kernel, by decide +kernel, by decide +kernel⟩) rfl (fun _ _ _ _ _ => pg_name sc.nd (by rfl) (by first | exact .inl rfl | exact .inr rfl)) (fun _ _ _ _ _ => pts_yes) (fun _ _ _ _ _ => pf_call (ok_is_word S) (hr.mono (by decide)) (by rfl) S.g_is_word S.F_is_word.kp (bd_is_word S) takesW0 (pfa_cons (pf_var 4) (pfa_nil)) (hfl := (fcons_len fnil_len))))) (pfa_nil)))))))) (pfss_one (pfs_ret (pf_bl))) (pfss_nil)) (pfss_cons (pfs_if (pft_not (pft_val (pf_callB (cr_all rfl) im_all (by rfl) S.b_all (by decide +kernel) (pfa_cons (pf_pure (pfl_lc rfl sc.nd (pfi_zip S.b_zip (pfa_cons (pf_var 3) (pfa_cons (pf_sl (pf_var 3) (pfo_some (pf_int)) (pfo_none)) (pfa_nil)))) (own := [("one", 5), ("other", 6)]) (show BlkOk N_is_meaning (defScope s_is_meaning) _ _ from ⟨rfl, by decide +kernel, by decide +kernel, by decide +kernel, by decide +kernel⟩) rfl (fun _ _ _ _ _ => pg_tup rfl (pgs_cons (pg_name sc.nd (by rfl) (by first | exact .inl rfl | exact .inr rfl)) (pgs_cons (pg_name sc.nd (by rfl) (by first | exact .inl rfl | exact .inr rfl)) pgs_nil))) (fun _ _ _ _ _ => pts_yes) (fun _ _ _ _ _ => pf_cmp op_lt_str im_ltS (pf_var 5) (pf_var 6)))) (pfa_nil))))) (pfss_one (pfs_ret (pf_bl))) (pfss_nil)) (pfss_cons (pfs_if (PFW.pt (pfw_or (pft_cmp op_gt im_gt (pf_callB call_lenA im_len (by rfl) S.b_len (by decide +kernel) (pfa_cons (pf_call (ok_words_in S) (hr.mono (by decide)) (by rfl) S.g_words_in S.F_words_in.kp (bd_words_in S) tk (pfa_cons (pf_var 0) (pfa_nil)) (hfl := (fcons_len fnil_len))) (pfa_nil))) (pf_gint S.c_MOST_WORDS)) (pfw_or1 (pft_not (pft_val (pf_call (ok_are_single S) (hr.mono (by decide)) (by rfl) S.g_are_single S.F_are_single.kp (bd_are_single S) tk (pfa_cons (pf_var 1) (pfa_cons (pf_var 2) (pfa_cons (pf_var 3) (pfa_nil)))) (hfl := (fcons_len (fcons_len (fcons_len fnil_len)))))))))) (pfss_one (pfs_ret (pf_bl))) (pfss_nil)) (pfss_cons (pfs_if (PFW.pt (pfw_or (pft_cmp (op_neA hu) im_ne (pf_call (ok_side_by_side S) (hr.mono (by decide)) (by rfl) S.g_side_by_side S.F_side_by_side.kp (bd_side_by_side S) tk (pfa_cons (pf_var 1) (pfa_cons (pf_str) (pfa_cons (pf_str) (pfa_nil)))) (hfl := (fcons_len (fcons_len (fcons_len fnil_len))))) (pf_var 1)) (pfw_or1 (pft_cmp (op_neA hu) im_ne (pf_call (ok_side_by_side S) (hr.mono (by decide)) (by rfl) S.g_side_by_side S.F_side_by_side.kp (bd_side_by_side S) tk (pfa_cons (pf_var 2) (pfa_cons (pf_str) (pfa_cons (pf_str) (pfa_nil)))) (hfl := (fcons_len (fcons_len (fcons_len fnil_len))))) (pf_var 2))))) (pfss_one (pfs_ret (pf_bl))) (pfss_nil)) (pfss_one (pfs_ret (pf_cmp op_isNotA im_isNot (pf_call (ok_made S) (hr.mono (by decide)) (by rfl) S.g_made S.F_made.kp (bd_made S) tk (pfa_cons (pf_var 1) (pfa_cons (pf_var 2) (pfa_nil))) (hfl := (fcons_len (fcons_len fnil_len)))) (pf_non))))))))))

theorem sc_program_of : FnScope N_program_of ["meaning"] (defScope s_program_of) := ⟨rfl, rfl, rfl, by decide +kernel, rfl, by decide +kernel, by decide +kernel⟩
theorem bd_program_of (S : Fs K mg) : Binds K S.h_program_of ["meaning"] [] := S.F_program_of.bindsN fun _ _ _ _ _ _ us hl => match us, hl with | [_], _ => rfl
theorem ok_program_of (S : Fs K mg) : FnOk P w K mg base (L2.CX P w) 3 S.a_program_of S.h_program_of ["meaning"] (spD K mg 1 d_program_of) :=
  fn_okD (k := 2) (N := N_program_of) (m := m_program_of) S.F_program_of sc_program_of fun cdv A outer s H E hr => by
    have sc := sc_program_of
    have tk := tk_of (P := P) (w := w) (K := K) (mg := mg) (base := base) (N := N_program_of) (qual := "program_of") (scope := defScope s_program_of) (f := S.a_program_of) (cd := cdv) (A := A) (outer := outer) (s := s) (H := H) (E := E)
    have po := po_of (P := P) (w := w) (K := K) (mg := mg) (base := base) (N := N_program_of) (qual := "program_of") (scope := defScope s_program_of) (f := S.a_program_of) (cd := cdv) (A := A) (outer := outer) (s := s) (H := H) (E := E)
    have hu := Room.hu64 hr
    have hu65 := Room.hu65 hr
    have hu1 := Room.hu1 hr
    exact (pfss_one (pfs_ret (pf_op op_addA im_add (pf_call (ok_made S) (hr.mono (by decide)) (by rfl) S.g_made S.F_made.kp (bd_made S) tk (pfa_cons (pf_ix (ix_any hu1) im_ixA (pf_var 0) (pf_int)) (pfa_cons (pf_ix (ix_any hu1) im_ixA (pf_var 0) (pf_int)) (pfa_nil))) (hfl := (fcons_len (fcons_len fnil_len)))) (pf_pure (pfl_lcV rfl sc.nd (pf_ix (ix_any hu1) im_ixA (pf_var 0) (pf_int)) (own := [("word", 1)]) (show BlkOk N_program_of (defScope s_program_of) _ _ from ⟨rfl, by decide +kernel, by decide +kernel, by decide +kernel, by decide +kernel⟩) rfl (fun _ _ _ _ _ => pg_name sc.nd (by rfl) (by first | exact .inl rfl | exact .inr rfl)) (fun _ _ _ _ _ => pts_yes) (fun _ _ _ _ _ => pf_tup (pfa_cons (pf_str) (pfa_cons (pf_var 1) (pfa_nil)))))))))

theorem sc_check_row : FnScope N_check_row ["row"] (defScope s_check_row) := ⟨rfl, rfl, rfl, by decide +kernel, rfl, by decide +kernel, by decide +kernel⟩
theorem bd_check_row (S : Fs K mg) : Binds K S.h_check_row ["row"] [] := S.F_check_row.bindsN fun _ _ _ _ _ _ us hl => match us, hl with | [_], _ => rfl
theorem ok_check_row (S : Fs K mg) : FnOk P w K mg base (L2.CX P w) 4 S.a_check_row S.h_check_row ["row"] (spD K mg 1 d_check_row) :=
  fn_okD (k := 3) (N := N_check_row) (m := m_check_row) S.F_check_row sc_check_row fun cdv A outer s H E hr => by
    have sc := sc_check_row
    have tk := tk_of (P := P) (w := w) (K := K) (mg := mg) (base := base) (N := N_check_row) (qual := "check_row") (scope := defScope s_check_row) (f := S.a_check_row) (cd := cdv) (A := A) (outer := outer) (s := s) (H := H) (E := E)
    have po := po_of (P := P) (w := w) (K := K) (mg := mg) (base := base) (N := N_check_row) (qual := "check_row") (scope := defScope s_check_row) (f := S.a_check_row) (cd := cdv) (A := A) (outer := outer) (s := s) (H := H) (E := E)
    have hu := Room.hu64 hr
    have hu65 := Room.hu65 hr
    have hu1 := Room.hu1 hr
    exact (pfss_one (pfs_if (pft_not (pft_val (pf_call (ok_is_row S) (hr.mono (by decide)) (by rfl) S.g_is_row S.F_is_row.kp (bd_is_row S) tk (pfa_cons (pf_var 0) (pfa_nil)) (hfl := (fcons_len fnil_len))))) (pfss_one (pfs_raise rfl tk S.x_InvalidRow.1 S.x_InvalidRow.2.1 S.x_InvalidRow.2.2.1 (raises_own S.x_InvalidRow.2.2.2.1 S.x_InvalidRow.2.2.2.2) rfl)) (pfss_nil)))

theorem sc_check_program : FnScope N_check_program ["program"] (defScope s_check_program) := ⟨rfl, rfl, rfl, by decide +kernel, rfl, by decide +kernel, by decide +kernel⟩
theorem bd_check_program (S : Fs K mg) : Binds K S.h_check_program ["program"] [] := S.F_check_program.bindsN fun _ _ _ _ _ _ us hl => match us, hl with | [_], _ => rfl
theorem ok_check_program (S : Fs K mg) : FnOk P w K mg base (L2.CX P w) 4 S.a_check_program S.h_check_program ["program"] (spD K mg 1 d_check_program) :=
  fn_okD (k := 3) (N := N_check_program) (m := m_check_program) S.F_check_program sc_check_program fun cdv A outer s H E hr => by
    have sc := sc_check_program
    have tk := tk_of (P := P) (w := w) (K := K) (mg := mg) (base := base) (N := N_check_program) (qual := "check_program") (scope := defScope s_check_program) (f := S.a_check_program) (cd := cdv) (A := A) (outer := outer) (s := s) (H := H) (E := E)
    have po := po_of (P := P) (w := w) (K := K) (mg := mg) (base := base) (N := N_check_program) (qual := "check_program") (scope := defScope s_check_program) (f := S.a_check_program) (cd := cdv) (A := A) (outer := outer) (s := s) (H := H) (E := E)
    have hu := Room.hu64 hr
    have hu65 := Room.hu65 hr
    have hu1 := Room.hu1 hr
    exact (pfss_one (pfs_if (pft_not (pft_val (pf_call (ok_is_program S) (hr.mono (by decide)) (by rfl) S.g_is_program S.F_is_program.kp (bd_is_program S) tk (pfa_cons (pf_var 0) (pfa_nil)) (hfl := (fcons_len fnil_len))))) (pfss_one (pfs_raise rfl tk S.x_InvalidProgram.1 S.x_InvalidProgram.2.1 S.x_InvalidProgram.2.2.1 (raises_own S.x_InvalidProgram.2.2.2.1 S.x_InvalidProgram.2.2.2.2) rfl)) (pfss_nil)))

theorem sc_meaning_of : FnScope N_meaning_of ["program"] (defScope s_meaning_of) := ⟨rfl, rfl, rfl, by decide +kernel, rfl, by decide +kernel, by decide +kernel⟩
theorem bd_meaning_of (S : Fs K mg) : Binds K S.h_meaning_of ["program"] [] := S.F_meaning_of.bindsN fun _ _ _ _ _ _ us hl => match us, hl with | [_], _ => rfl
theorem ok_meaning_of (S : Fs K mg) : FnOk P w K mg base (L2.CX P w) 4 S.a_meaning_of S.h_meaning_of ["program"] (spD K mg 1 d_meaning_of) :=
  fn_okD (k := 3) (N := N_meaning_of) (m := m_meaning_of) S.F_meaning_of sc_meaning_of fun cdv A outer s H E hr => by
    have sc := sc_meaning_of
    have tk := tk_of (P := P) (w := w) (K := K) (mg := mg) (base := base) (N := N_meaning_of) (qual := "meaning_of") (scope := defScope s_meaning_of) (f := S.a_meaning_of) (cd := cdv) (A := A) (outer := outer) (s := s) (H := H) (E := E)
    have po := po_of (P := P) (w := w) (K := K) (mg := mg) (base := base) (N := N_meaning_of) (qual := "meaning_of") (scope := defScope s_meaning_of) (f := S.a_meaning_of) (cd := cdv) (A := A) (outer := outer) (s := s) (H := H) (E := E)
    have hu := Room.hu64 hr
    have hu65 := Room.hu65 hr
    have hu1 := Room.hu1 hr
    exact (pfss_cons (pfs_setLcV rfl sc.nd (pf_rev (pf_call (ok_entries_at S) (hr.mono (by decide)) (by rfl) S.g_entries_at S.F_entries_at.kp (bd_entries_at S) tk (pfa_cons (pf_var 0) (pfa_cons (pf_str) (pfa_nil))) (hfl := (fcons_len (fcons_len fnil_len))))) (own := [("time", 6), ("word", 5), ("case", 7)]) (show BlkOk N_meaning_of (defScope s_meaning_of) _ _ from ⟨rfl, by decide +kernel, by decide +kernel, by decide +kernel, by decide +kernel⟩) rfl (fun _ _ _ _ _ => pg_tup rfl (pgs_cons (pg_name sc.nd (by rfl) (by first | exact .inl rfl | exact .inr rfl)) (pgs_cons (pg_name sc.nd (by rfl) (by first | exact .inl rfl | exact .inr rfl)) (pgs_cons (pg_name sc.nd (by rfl) (by first | exact .inl rfl | exact .inr rfl)) pgs_nil)))) (fun _ _ _ _ _ => pts_yes) (fun _ _ _ _ _ => pf_tup (pfa_cons (pf_var 5) (pfa_cons (pf_var 7) (pfa_nil)))) (by exact sw_true rfl rfl rfl (by decide +kernel)) tf_pure) (pfss_cons (pfs_setLcV rfl sc.nd (pf_call (ok_entries_at S) (hr.mono (by decide)) (by rfl) S.g_entries_at S.F_entries_at.kp (bd_entries_at S) tk (pfa_cons (pf_var 0) (pfa_cons (pf_str) (pfa_nil))) (hfl := (fcons_len (fcons_len fnil_len)))) (own := [("time", 6), ("word", 5), ("case", 7)]) (show BlkOk N_meaning_of (defScope s_meaning_of) _ _ from ⟨rfl, by decide +kernel, by decide +kernel, by decide +kernel, by decide +kernel⟩) rfl (fun _ _ _ _ _ => pg_tup rfl (pgs_cons (pg_name sc.nd (by rfl) (by first | exact .inl rfl | exact .inr rfl)) (pgs_cons (pg_name sc.nd (by rfl) (by first | exact .inl rfl | exact .inr rfl)) (pgs_cons (pg_name sc.nd (by rfl) (by first | exact .inl rfl | exact .inr rfl)) pgs_nil)))) (fun _ _ _ _ _ => pts_yes) (fun _ _ _ _ _ => pf_tup (pfa_cons (pf_var 5) (pfa_cons (pf_var 7) (pfa_nil)))) (by exact sw_true rfl rfl rfl (by decide +kernel)) tf_pure) (pfss_cons (pfs_setLcV rfl sc.nd (pf_call (ok_words_of S) (hr.mono (by decide)) (by rfl) S.g_words_of S.F_words_of.kp (bd_words_of S) tk (pfa_cons (pf_var 0) (pfa_nil)) (hfl := (fcons_len fnil_len))) (own := [("word", 5)]) (show BlkOk N_meaning_of (defScope s_meaning_of) _ _ from ⟨rfl, by decide +kernel, by decide +kernel, by decide +kernel, by decide +kernel⟩) rfl (fun _ _ _ _ _ => pg_name sc.nd (by rfl) (by first | exact .inl rfl | exact .inr rfl)) (fun _ _ _ _ _ => pts_if (pft_cmp (op_eqA hu) im_eq (pf_ix (ix_any hu1) im_ixA (pf_ix (ix_any hu1) im_ixA (pf_call (ok_ends_of S) (hr.mono (by decide)) (by rfl) S.g_ends_of S.F_ends_of.kp (bd_ends_of S) takesW0 (pfa_cons (pf_var 0) (pfa_cons (pf_var 5) (pfa_nil))) (hfl := (fcons_len (fcons_len fnil_len)))) (pf_int)) (pf_int)) (pf_str))) (fun _ _ _ _ _ => pf_var 5) (by exact sw_true rfl rfl rfl (by decide +kernel)) tf_pure) (pfss_cons (pfs_set sc.nd (pf_call (ok_side_by_side S) (hr.mono (by decide)) (by rfl) S.g_side_by_side S.F_side_by_side.kp (bd_side_by_side S) tk (pfa_cons (pf_var 1) (pfa_cons (pf_str) (pfa_cons (pf_str) (pfa_nil)))) (hfl := (fcons_len (fcons_len (fcons_len fnil_len)))))) (pfss_one (pfs_ret (pf_tup (pfa_cons (pf_var 4) (pfa_cons (pf_call (ok_side_by_side S) (hr.mono (by decide)) (by rfl) S.g_side_by_side S.F_side_by_side.kp (bd_side_by_side S) tk (pfa_cons (pf_var 2) (pfa_cons (pf_str) (pfa_cons (pf_str) (pfa_nil)))) (hfl := (fcons_len (fcons_len (fcons_len fnil_len))))) (pfa_cons (pf_callTy (call_tupX rfl) im_tuple (by rfl) S.b_tuple (by decide +kernel) (pfa_cons (pf_pure (pfl_sortS S.b_sorted (pf_var 3))) (pfa_nil))) (pfa_nil)))))))))))

theorem sc_check_meaning : FnScope N_check_meaning ["meaning"] (defScope s_check_meaning) := ⟨rfl, rfl, rfl, by decide +kernel, rfl, by decide +kernel, by decide +kernel⟩
theorem bd_check_meaning (S : Fs K mg) : Binds K S.h_check_meaning ["meaning"] [] := S.F_check_meaning.bindsN fun _ _ _ _ _ _ us hl => match us, hl with | [_], _ => rfl
theorem ok_check_meaning (S : Fs K mg) : FnOk P w K mg base (L2.CX P w) 4 S.a_check_meaning S.h_check_meaning ["meaning"] (spD K mg 1 d_check_meaning) :=
  fn_okD (k := 3) (N := N_check_meaning) (m := m_check_meaning) S.F_check_meaning sc_check_meaning fun cdv A outer s H E hr => by
    have sc := sc_check_meaning
    have tk := tk_of (P := P) (w := w) (K := K) (mg := mg) (base := base) (N := N_check_meaning) (qual := "check_meaning") (scope := defScope s_check_meaning) (f := S.a_check_meaning) (cd := cdv) (A := A) (outer := outer) (s := s) (H := H) (E := E)
    have po := po_of (P := P) (w := w) (K := K) (mg := mg) (base := base) (N := N_check_meaning) (qual := "check_meaning") (scope := defScope s_check_meaning) (f := S.a_check_meaning) (cd := cdv) (A := A) (outer := outer) (s := s) (H := H) (E := E)
    have hu := Room.hu64 hr
    have hu65 := Room.hu65 hr
    have hu1 := Room.hu1 hr
    exact (pfss_one (pfs_if (pft_not (pft_val (pf_call (ok_is_meaning S) (hr.mono (by decide)) (by rfl) S.g_is_meaning S.F_is_meaning.kp (bd_is_meaning S) tk (pfa_cons (pf_var 0) (pfa_nil)) (hfl := (fcons_len fnil_len))))) (pfss_one (pfs_raise rfl tk S.x_InvalidMeaning.1 S.x_InvalidMeaning.2.1 S.x_InvalidMeaning.2.2.1 (raises_own S.x_InvalidMeaning.2.2.2.1 S.x_InvalidMeaning.2.2.2.2) rfl)) (pfss_nil)))

theorem sc_shortest_of : FnScope N_shortest_of ["meaning"] (defScope s_shortest_of) := ⟨rfl, rfl, rfl, by decide +kernel, rfl, by decide +kernel, by decide +kernel⟩
theorem bd_shortest_of (S : Fs K mg) : Binds K S.h_shortest_of ["meaning"] [] := S.F_shortest_of.bindsN fun _ _ _ _ _ _ us hl => match us, hl with | [_], _ => rfl
theorem ok_shortest_of (S : Fs K mg) : FnOk P w K mg base (L2.CX P w) 4 S.a_shortest_of S.h_shortest_of ["meaning"] (spD K mg 1 d_shortest_of) :=
  fn_okD (k := 3) (N := N_shortest_of) (m := m_shortest_of) S.F_shortest_of sc_shortest_of fun cdv A outer s H E hr => by
    have sc := sc_shortest_of
    have tk := tk_of (P := P) (w := w) (K := K) (mg := mg) (base := base) (N := N_shortest_of) (qual := "shortest_of") (scope := defScope s_shortest_of) (f := S.a_shortest_of) (cd := cdv) (A := A) (outer := outer) (s := s) (H := H) (E := E)
    have po := po_of (P := P) (w := w) (K := K) (mg := mg) (base := base) (N := N_shortest_of) (qual := "shortest_of") (scope := defScope s_shortest_of) (f := S.a_shortest_of) (cd := cdv) (A := A) (outer := outer) (s := s) (H := H) (E := E)
    have hu := Room.hu64 hr
    have hu65 := Room.hu65 hr
    have hu1 := Room.hu1 hr
    exact (pfss_one (pfs_ret (pf_call (ok_program_of S) (hr.mono (by decide)) (by rfl) S.g_program_of S.F_program_of.kp (bd_program_of S) tk (pfa_cons (pf_var 0) (pfa_nil)) (hfl := (fcons_len fnil_len)))))

theorem sc_run : FnScope N_run ["program", "row"] (defScope s_run) := ⟨rfl, rfl, rfl, by decide +kernel, rfl, by decide +kernel, by decide +kernel⟩
theorem bd_run (S : Fs K mg) : Binds K S.h_run ["program", "row"] [] := S.F_run.bindsN fun _ _ _ _ _ _ us hl => match us, hl with | [_, _], _ => rfl
theorem ok_run (S : Fs K mg) : FnOk P w K mg base (L2.CX P w) 5 S.a_run S.h_run ["program", "row"] (spD K mg 2 d_run) :=
  fn_okD (k := 4) (N := N_run) (m := m_run) S.F_run sc_run fun cdv A outer s H E hr => by
    have sc := sc_run
    have tk := tk_of (P := P) (w := w) (K := K) (mg := mg) (base := base) (N := N_run) (qual := "run") (scope := defScope s_run) (f := S.a_run) (cd := cdv) (A := A) (outer := outer) (s := s) (H := H) (E := E)
    have po := po_of (P := P) (w := w) (K := K) (mg := mg) (base := base) (N := N_run) (qual := "run") (scope := defScope s_run) (f := S.a_run) (cd := cdv) (A := A) (outer := outer) (s := s) (H := H) (E := E)
    have hu := Room.hu64 hr
    have hu65 := Room.hu65 hr
    have hu1 := Room.hu1 hr
    exact (pfss_cons (pfs_expr (pf_call (ok_check_program S) (hr.mono (by decide)) (by rfl) S.g_check_program S.F_check_program.kp (bd_check_program S) tk (pfa_cons (pf_var 0) (pfa_nil)) (hfl := (fcons_len fnil_len)))) (pfss_cons (pfs_expr (pf_call (ok_check_row S) (hr.mono (by decide)) (by rfl) S.g_check_row S.F_check_row.kp (bd_check_row S) tk (pfa_cons (pf_var 1) (pfa_nil)) (hfl := (fcons_len fnil_len)))) (pfss_one (pfs_ret (pf_call (ok_run_on S) (hr.mono (by decide)) (by rfl) S.g_run_on S.F_run_on.kp (bd_run_on S) tk (pfa_cons (pf_var 0) (pfa_cons (pf_var 1) (pfa_nil))) (hfl := (fcons_len (fcons_len fnil_len))))))))

theorem sc_meaning : FnScope N_meaning ["program"] (defScope s_meaning) := ⟨rfl, rfl, rfl, by decide +kernel, rfl, by decide +kernel, by decide +kernel⟩
theorem bd_meaning (S : Fs K mg) : Binds K S.h_meaning ["program"] [] := S.F_meaning.bindsN fun _ _ _ _ _ _ us hl => match us, hl with | [_], _ => rfl
theorem ok_meaning (S : Fs K mg) : FnOk P w K mg base (L2.CX P w) 5 S.a_meaning S.h_meaning ["program"] (spD K mg 1 d_meaning) :=
  fn_okD (k := 4) (N := N_meaning) (m := m_meaning) S.F_meaning sc_meaning fun cdv A outer s H E hr => by
    have sc := sc_meaning
    have tk := tk_of (P := P) (w := w) (K := K) (mg := mg) (base := base) (N := N_meaning) (qual := "meaning") (scope := defScope s_meaning) (f := S.a_meaning) (cd := cdv) (A := A) (outer := outer) (s := s) (H := H) (E := E)
    have po := po_of (P := P) (w := w) (K := K) (mg := mg) (base := base) (N := N_meaning) (qual := "meaning") (scope := defScope s_meaning) (f := S.a_meaning) (cd := cdv) (A := A) (outer := outer) (s := s) (H := H) (E := E)
    have hu := Room.hu64 hr
    have hu65 := Room.hu65 hr
    have hu1 := Room.hu1 hr
    exact (pfss_cons (pfs_expr (pf_call (ok_check_program S) (hr.mono (by decide)) (by rfl) S.g_check_program S.F_check_program.kp (bd_check_program S) tk (pfa_cons (pf_var 0) (pfa_nil)) (hfl := (fcons_len fnil_len)))) (pfss_one (pfs_ret (pf_call (ok_meaning_of S) (hr.mono (by decide)) (by rfl) S.g_meaning_of S.F_meaning_of.kp (bd_meaning_of S) tk (pfa_cons (pf_var 0) (pfa_nil)) (hfl := (fcons_len fnil_len))))))

theorem sc_agree : FnScope N_agree ["program", "other"] (defScope s_agree) := ⟨rfl, rfl, rfl, by decide +kernel, rfl, by decide +kernel, by decide +kernel⟩
theorem bd_agree (S : Fs K mg) : Binds K S.h_agree ["program", "other"] [] := S.F_agree.bindsN fun _ _ _ _ _ _ us hl => match us, hl with | [_, _], _ => rfl
theorem ok_agree (S : Fs K mg) : FnOk P w K mg base (L2.CX P w) 5 S.a_agree S.h_agree ["program", "other"] (spD K mg 2 d_agree) :=
  fn_okD (k := 4) (N := N_agree) (m := m_agree) S.F_agree sc_agree fun cdv A outer s H E hr => by
    have sc := sc_agree
    have tk := tk_of (P := P) (w := w) (K := K) (mg := mg) (base := base) (N := N_agree) (qual := "agree") (scope := defScope s_agree) (f := S.a_agree) (cd := cdv) (A := A) (outer := outer) (s := s) (H := H) (E := E)
    have po := po_of (P := P) (w := w) (K := K) (mg := mg) (base := base) (N := N_agree) (qual := "agree") (scope := defScope s_agree) (f := S.a_agree) (cd := cdv) (A := A) (outer := outer) (s := s) (H := H) (E := E)
    have hu := Room.hu64 hr
    have hu65 := Room.hu65 hr
    have hu1 := Room.hu1 hr
    exact (pfss_cons (pfs_expr (pf_call (ok_check_program S) (hr.mono (by decide)) (by rfl) S.g_check_program S.F_check_program.kp (bd_check_program S) tk (pfa_cons (pf_var 0) (pfa_nil)) (hfl := (fcons_len fnil_len)))) (pfss_cons (pfs_expr (pf_call (ok_check_program S) (hr.mono (by decide)) (by rfl) S.g_check_program S.F_check_program.kp (bd_check_program S) tk (pfa_cons (pf_var 1) (pfa_nil)) (hfl := (fcons_len fnil_len)))) (pfss_one (pfs_ret (pf_cmp (op_eqA hu) im_eq (pf_call (ok_meaning_of S) (hr.mono (by decide)) (by rfl) S.g_meaning_of S.F_meaning_of.kp (bd_meaning_of S) tk (pfa_cons (pf_var 0) (pfa_nil)) (hfl := (fcons_len fnil_len))) (pf_call (ok_meaning_of S) (hr.mono (by decide)) (by rfl) S.g_meaning_of S.F_meaning_of.kp (bd_meaning_of S) tk (pfa_cons (pf_var 1) (pfa_nil)) (hfl := (fcons_len fnil_len))))))))

theorem sc_shortest : FnScope N_shortest ["meaning"] (defScope s_shortest) := ⟨rfl, rfl, rfl, by decide +kernel, rfl, by decide +kernel, by decide +kernel⟩
theorem bd_shortest (S : Fs K mg) : Binds K S.h_shortest ["meaning"] [] := S.F_shortest.bindsN fun _ _ _ _ _ _ us hl => match us, hl with | [_], _ => rfl
theorem ok_shortest (S : Fs K mg) : FnOk P w K mg base (L2.CX P w) 5 S.a_shortest S.h_shortest ["meaning"] (spD K mg 1 d_shortest) :=
  fn_okD (k := 4) (N := N_shortest) (m := m_shortest) S.F_shortest sc_shortest fun cdv A outer s H E hr => by
    have sc := sc_shortest
    have tk := tk_of (P := P) (w := w) (K := K) (mg := mg) (base := base) (N := N_shortest) (qual := "shortest") (scope := defScope s_shortest) (f := S.a_shortest) (cd := cdv) (A := A) (outer := outer) (s := s) (H := H) (E := E)
    have po := po_of (P := P) (w := w) (K := K) (mg := mg) (base := base) (N := N_shortest) (qual := "shortest") (scope := defScope s_shortest) (f := S.a_shortest) (cd := cdv) (A := A) (outer := outer) (s := s) (H := H) (E := E)
    have hu := Room.hu64 hr
    have hu65 := Room.hu65 hr
    have hu1 := Room.hu1 hr
    exact (pfss_cons (pfs_expr (pf_call (ok_check_meaning S) (hr.mono (by decide)) (by rfl) S.g_check_meaning S.F_check_meaning.kp (bd_check_meaning S) tk (pfa_cons (pf_var 0) (pfa_nil)) (hfl := (fcons_len fnil_len)))) (pfss_one (pfs_ret (pf_call (ok_shortest_of S) (hr.mono (by decide)) (by rfl) S.g_shortest_of S.F_shortest_of.kp (bd_shortest_of S) tk (pfa_cons (pf_var 0) (pfa_nil)) (hfl := (fcons_len fnil_len))))))

theorem sc__law_near : FnScope N__law_near ["own", "one", "words", "verbs"] (defScope s__law_near) := ⟨rfl, rfl, rfl, by decide +kernel, rfl, by decide +kernel, by decide +kernel⟩
theorem bd__law_near (S : Fs K mg) : Binds K S.h__law_near ["own", "one", "words", "verbs"] [] := S.F__law_near.bindsN fun _ _ _ _ _ _ us hl => match us, hl with | [_, _, _, _], _ => rfl
theorem ok__law_near (S : Fs K mg) : FnOk P w K mg base (L2.CX P w) 6 S.a__law_near S.h__law_near ["own", "one", "words", "verbs"] (spD K mg 4 d__law_near) :=
  fn_okD (k := 5) (N := N__law_near) (m := m__law_near) S.F__law_near sc__law_near fun cdv A outer s H E hr => by
    have sc := sc__law_near
    have tk := tk_of (P := P) (w := w) (K := K) (mg := mg) (base := base) (N := N__law_near) (qual := "_law_near") (scope := defScope s__law_near) (f := S.a__law_near) (cd := cdv) (A := A) (outer := outer) (s := s) (H := H) (E := E)
    have po := po_of (P := P) (w := w) (K := K) (mg := mg) (base := base) (N := N__law_near) (qual := "_law_near") (scope := defScope s__law_near) (f := S.a__law_near) (cd := cdv) (A := A) (outer := outer) (s := s) (H := H) (E := E)
    have hu := Room.hu64 hr
    have hu65 := Room.hu65 hr
    have hu1 := Room.hu1 hr
    exact (pfss_cons (pfs_set sc.nd (pf_call (ok__law_take S) (hr.mono (by decide)) (by rfl) S.g__law_take S.F__law_take.kp (bd__law_take S) tk (pfa_cons (pf_var 0) (pfa_cons (pf_op op_addA im_add (pf_callB call_lenA im_len (by rfl) S.b_len (by decide +kernel) (pfa_cons (pf_var 1) (pfa_nil))) (pf_int)) (pfa_nil))) (hfl := (fcons_len (fcons_len fnil_len))))) (pfss_cons (pfs_set sc.nd (pf_call (ok__law_take S) (hr.mono (by decide)) (by rfl) S.g__law_take S.F__law_take.kp (bd__law_take S) tk (pfa_cons (pf_var 0) (pfa_cons (pf_int) (pfa_nil))) (hfl := (fcons_len (fcons_len fnil_len))))) (pfss_cons (pfs_if (pft_cmp (op_eqA hu) im_eq (pf_var 5) (pf_int)) (pfss_one (pfs_ret (pf_op op_addA im_add (pf_sl (pf_var 1) (pfo_none) (pfo_some (pf_var 4))) (pf_sl (pf_var 1) (pfo_some (pf_op op_addA im_add (pf_var 4) (pf_int))) (pfo_none))))) (pfss_nil)) (pfss_cons (pfs_if (pft_cmp (op_eqA hu) im_eq (pf_var 5) (pf_int)) (pfss_one (pfs_ret (pf_op op_addA im_add (pf_sl (pf_var 1) (pfo_none) (pfo_some (pf_var 4))) (pf_rev (pf_sl (pf_var 1) (pfo_some (pf_var 4)) (pfo_none)))))) (pfss_nil)) (pfss_cons (pfs_if (pft_cmp (op_eqA hu) im_eq (pf_var 5) (pf_int)) (pfss_one (pfs_ret (pf_op op_addA im_add (pf_op op_addA im_add (pf_sl (pf_var 1) (pfo_none) (pfo_some (pf_var 4))) (pf_call (ok__law_some S) (hr.mono (by decide)) (by rfl) S.g__law_some S.F__law_some.kp (bd__law_some S) tk (pfa_cons (pf_var 0) (pfa_cons (pf_var 2) (pfa_cons (pf_var 3) (pfa_cons (pf_int) (pfa_nil))))) (hfl := (fcons_len (fcons_len (fcons_len (fcons_len fnil_len))))))) (pf_sl (pf_var 1) (pfo_some (pf_var 4)) (pfo_none))))) (pfss_nil)) (pfss_one (pfs_ret (pf_call (ok_shortest S) (hr.mono (by decide)) (by rfl) S.g_shortest S.F_shortest.kp (bd_shortest S) tk (pfa_cons (pf_call (ok_meaning S) (hr.mono (by decide)) (by rfl) S.g_meaning S.F_meaning.kp (bd_meaning S) tk (pfa_cons (pf_var 1) (pfa_nil)) (hfl := (fcons_len fnil_len))) (pfa_nil)) (hfl := (fcons_len fnil_len))))))))))

theorem sc__law_good : FnScope N__law_good ["one", "two", "words"] (defScope s__law_good) := ⟨rfl, rfl, rfl, by decide +kernel, rfl, by decide +kernel, by decide +kernel⟩
theorem bd__law_good (S : Fs K mg) : Binds K S.h__law_good ["one", "two", "words"] [] := S.F__law_good.bindsN fun _ _ _ _ _ _ us hl => match us, hl with | [_, _, _], _ => rfl
theorem ok__law_good (S : Fs K mg) : FnOk P w K mg base (L2.CX P w) 6 S.a__law_good S.h__law_good ["one", "two", "words"] (spD K mg 3 d__law_good) :=
  fn_okD (k := 5) (N := N__law_good) (m := m__law_good) S.F__law_good sc__law_good fun cdv A outer s H E hr => by
    have sc := sc__law_good
    have tk := tk_of (P := P) (w := w) (K := K) (mg := mg) (base := base) (N := N__law_good) (qual := "_law_good") (scope := defScope s__law_good) (f := S.a__law_good) (cd := cdv) (A := A) (outer := outer) (s := s) (H := H) (E := E)
    have po := po_of (P := P) (w := w) (K := K) (mg := mg) (base := base) (N := N__law_good) (qual := "_law_good") (scope := defScope s__law_good) (f := S.a__law_good) (cd := cdv) (A := A) (outer := outer) (s := s) (H := H) (E := E)
    have hu := Room.hu64 hr
    have hu65 := Room.hu65 hr
    have hu1 := Room.hu1 hr
    exact (pfss_cons (pfs_par rfl sc.nd (pfa_cons (pf_op op_addA im_add (pf_op op_addA im_add (pf_tup (pfa_cons (pf_str) (pfa_nil))) (pf_callTy (call_tupX rfl) im_tuple (by rfl) S.b_tuple (by decide +kernel) (pfa_cons (pf_var 2) (pfa_nil)))) (pf_tup (pfa_cons (pf_str) (pfa_nil)))) (pfa_cons (pf_tup (pfa_cons (pf_str) (pfa_cons (pf_str) (pfa_nil)))) (pfa_nil))) (by decide)) (pfss_cons (pfs_forV po rfl (pf_pure (pfl_lst (pfa_cons (pf_tup (pfa_cons (pf_str) (pfa_cons (pf_str) (pfa_nil)))) (pfa_cons (pf_tup (pfa_cons (pf_str) (pfa_cons (pf_str) (pfa_nil)))) (pfa_nil))))) (pg_tup rfl (pgs_cons (pg_name sc.nd (by rfl) (by first | exact .inl rfl | exact .inr rfl)) (pgs_cons (pg_name sc.nd (by rfl) (by first | exact .inl rfl | exact .inr rfl)) pgs_nil))) (pfss_cons (pfs_set sc.nd (pf_op op_addA im_add (pf_op op_addA im_add (pf_tup (pfa_cons (pf_var 5) (pfa_nil))) (pf_callTy (call_tupX rfl) im_tuple (by rfl) S.b_tuple (by decide +kernel) (pfa_cons (pf_var 2) (pfa_nil)))) (pf_tup (pfa_cons (pf_var 6) (pfa_nil))))) (pfss_cons (pfs_set sc.nd (pf_and (pf_cmp (op_eqA hu) im_eq (pf_call (ok_run S) (hr.mono (by decide)) (by rfl) S.g_run S.F_run.kp (bd_run S) tk (pfa_cons (pf_var 0) (pfa_cons (pf_var 3) (pfa_nil))) (hfl := (fcons_len (fcons_len fnil_len)))) (pf_call (ok_run S) (hr.mono (by decide)) (by rfl) S.g_run S.F_run.kp (bd_run S) tk (pfa_cons (pf_var 1) (pfa_cons (pf_var 3) (pfa_nil))) (hfl := (fcons_len (fcons_len fnil_len))))) (pf_one (pf_cmp (op_eqA hu) im_eq (pf_call (ok_run S) (hr.mono (by decide)) (by rfl) S.g_run S.F_run.kp (bd_run S) tk (pfa_cons (pf_var 0) (pfa_cons (pf_tup (pfa_cons (pf_var 5) (pfa_cons (pf_var 6) (pfa_nil)))) (pfa_nil))) (hfl := (fcons_len (fcons_len fnil_len)))) (pf_call (ok_run S) (hr.mono (by decide)) (by rfl) S.g_run S.F_run.kp (bd_run S) tk (pfa_cons (pf_var 1) (pfa_cons (pf_tup (pfa_cons (pf_var 5) (pfa_cons (pf_var 6) (pfa_nil)))) (pfa_nil))) (hfl := (fcons_len (fcons_len fnil_len)))))))) (pfss_one (pfs_if (pft_cmp (op_neA hu) im_ne (pf_call (ok_agree S) (hr.mono (by decide)) (by rfl) S.g_agree S.F_agree.kp (bd_agree S) tk (pfa_cons (pf_var 0) (pfa_cons (pf_var 1) (pfa_nil))) (hfl := (fcons_len (fcons_len fnil_len)))) (pf_var 7)) (pfss_one (pfs_ret (pf_bl))) (pfss_nil)))))) (pfss_one (pfs_ret (pf_cmp (op_eqA hu) im_eq (pf_call (ok_agree S) (hr.mono (by decide)) (by rfl) S.g_agree S.F_agree.kp (bd_agree S) tk (pfa_cons (pf_var 0) (pfa_cons (pf_var 1) (pfa_nil))) (hfl := (fcons_len (fcons_len fnil_len)))) (pf_and (pf_cmp (op_eqA hu) im_eq (pf_call (ok_run S) (hr.mono (by decide)) (by rfl) S.g_run S.F_run.kp (bd_run S) tk (pfa_cons (pf_var 0) (pfa_cons (pf_rev (pf_var 3)) (pfa_nil))) (hfl := (fcons_len (fcons_len fnil_len)))) (pf_call (ok_run S) (hr.mono (by decide)) (by rfl) S.g_run S.F_run.kp (bd_run S) tk (pfa_cons (pf_var 1) (pfa_cons (pf_rev (pf_var 3)) (pfa_nil))) (hfl := (fcons_len (fcons_len fnil_len))))) (pf_one (pf_cmp (op_eqA hu) im_eq (pf_call (ok_run S) (hr.mono (by decide)) (by rfl) S.g_run S.F_run.kp (bd_run S) tk (pfa_cons (pf_var 0) (pfa_cons (pf_var 4) (pfa_nil))) (hfl := (fcons_len (fcons_len fnil_len)))) (pf_call (ok_run S) (hr.mono (by decide)) (by rfl) S.g_run S.F_run.kp (bd_run S) tk (pfa_cons (pf_var 1) (pfa_cons (pf_var 4) (pfa_nil))) (hfl := (fcons_len (fcons_len fnil_len))))))))))))

theorem sc__law_plain_good : FnScope N__law_plain_good ["one", "two", "words"] (defScope s__law_plain_good) := ⟨rfl, rfl, rfl, by decide +kernel, rfl, by decide +kernel, by decide +kernel⟩
theorem bd__law_plain_good (S : Fs K mg) : Binds K S.h__law_plain_good ["one", "two", "words"] [] := S.F__law_plain_good.bindsN fun _ _ _ _ _ _ us hl => match us, hl with | [_, _, _], _ => rfl
theorem ok__law_plain_good (S : Fs K mg) : FnOk P w K mg base (L2.CX P w) 6 S.a__law_plain_good S.h__law_plain_good ["one", "two", "words"] (spD K mg 3 d__law_plain_good) :=
  fn_okD (k := 5) (N := N__law_plain_good) (m := m__law_plain_good) S.F__law_plain_good sc__law_plain_good fun cdv A outer s H E hr => by
    have sc := sc__law_plain_good
    have tk := tk_of (P := P) (w := w) (K := K) (mg := mg) (base := base) (N := N__law_plain_good) (qual := "_law_plain_good") (scope := defScope s__law_plain_good) (f := S.a__law_plain_good) (cd := cdv) (A := A) (outer := outer) (s := s) (H := H) (E := E)
    have po := po_of (P := P) (w := w) (K := K) (mg := mg) (base := base) (N := N__law_plain_good) (qual := "_law_plain_good") (scope := defScope s__law_plain_good) (f := S.a__law_plain_good) (cd := cdv) (A := A) (outer := outer) (s := s) (H := H) (E := E)
    have hu := Room.hu64 hr
    have hu65 := Room.hu65 hr
    have hu1 := Room.hu1 hr
    exact (pfss_cons (pfs_set sc.nd (pf_op op_addA im_add (pf_op op_addA im_add (pf_tup (pfa_cons (pf_str) (pfa_nil))) (pf_callTy (call_tupX rfl) im_tuple (by rfl) S.b_tuple (by decide +kernel) (pfa_cons (pf_var 2) (pfa_nil)))) (pf_tup (pfa_cons (pf_str) (pfa_nil))))) (pfss_one (pfs_ret (pf_cmp (op_eqA hu) im_eq (pf_call (ok_agree S) (hr.mono (by decide)) (by rfl) S.g_agree S.F_agree.kp (bd_agree S) tk (pfa_cons (pf_var 0) (pfa_cons (pf_var 1) (pfa_nil))) (hfl := (fcons_len (fcons_len fnil_len)))) (pf_cmp (op_eqA hu) im_eq (pf_call (ok_run S) (hr.mono (by decide)) (by rfl) S.g_run S.F_run.kp (bd_run S) tk (pfa_cons (pf_var 0) (pfa_cons (pf_var 3) (pfa_nil))) (hfl := (fcons_len (fcons_len fnil_len)))) (pf_call (ok_run S) (hr.mono (by decide)) (by rfl) S.g_run S.F_run.kp (bd_run S) tk (pfa_cons (pf_var 1) (pfa_cons (pf_var 3) (pfa_nil))) (hfl := (fcons_len (fcons_len fnil_len)))))))))

theorem sc_law : FnScope N_law ["script"] (defScope s_law) := ⟨rfl, rfl, rfl, by decide +kernel, rfl, by decide +kernel, by decide +kernel⟩
theorem bd_law (S : Fs K mg) : Binds K S.h_law ["script"] [] := S.F_law.bindsN fun _ _ _ _ _ _ us hl => match us, hl with | [_], _ => rfl
theorem ok_law (S : Fs K mg) : FnOk P w K mg base (L2.CX P w) 7 S.a_law S.h_law ["script"] (spD K mg 1 d_law) :=
  fn_okD (k := 6) (N := N_law) (m := m_law) S.F_law sc_law fun cdv A outer s H E hr => by
    have sc := sc_law
    have tk := tk_of (P := P) (w := w) (K := K) (mg := mg) (base := base) (N := N_law) (qual := "law") (scope := defScope s_law) (f := S.a_law) (cd := cdv) (A := A) (outer := outer) (s := s) (H := H) (E := E)
    have po := po_of (P := P) (w := w) (K := K) (mg := mg) (base := base) (N := N_law) (qual := "law") (scope := defScope s_law) (f := S.a_law) (cd := cdv) (A := A) (outer := outer) (s := s) (H := H) (E := E)
    have hu := Room.hu64 hr
    have hu65 := Room.hu65 hr
    have hu1 := Room.hu1 hr
    exact (pfss_cons (pfs_for po rfl (pfi_rng1 S.b_range (pfa_cons (pf_callB (call_maxA rfl) im_max (by rfl) S.b_max (by decide +kernel) (pfa_cons (pf_callB (call_min2 rfl) im_min (by rfl) S.b_min (by decide +kernel) (pfa_cons (pf_callB call_lenA im_len (by rfl) S.b_len (by decide +kernel) (pfa_cons (pf_var 0) (pfa_nil))) (pfa_cons (pf_int) (pfa_nil)))) (pfa_cons (pf_int) (pfa_nil)))) (pfa_nil))) (pg_name sc.nd (by rfl) (by first | exact .inl rfl | exact .inr rfl)) (pfss_cons (pfs_set sc.nd (pf_cell (pfl_lst (pfa_cons (pf_call (ok__law_cell S) (hr.mono (by decide)) (by rfl) S.g__law_cell S.F__law_cell.kp (bd__law_cell S) tk (pfa_cons (pf_var 0) (pfa_cons (pf_var 1) (pfa_nil))) (hfl := (fcons_len (fcons_len fnil_len)))) (pfa_nil))))) (pfss_cons (pfs_set sc.nd (pf_call (ok__law_words S) (hr.mono (by decide)) (by rfl) S.g__law_words S.F__law_words.kp (bd__law_words S) tk (pfa_cons (pf_var 3) (pfa_cons (pf_int) (pfa_nil))) (hfl := (fcons_len (fcons_len fnil_len))))) (pfss_one (pfs_for po rfl (pfi_rng1 S.b_range (pfa_cons (pf_int) (pfa_nil))) (pg_name sc.nd (by rfl) (by first | exact .inl rfl | exact .inr rfl)) (pfss_cons (pfs_asg (pf_tup (pfa_cons (pf_call (ok__law_verbs S) (hr.mono (by decide)) (by rfl) S.g__law_verbs S.F__law_verbs.kp (bd__law_verbs S) tk (pfa_cons (pf_var 3) (pfa_nil)) (hfl := (fcons_len fnil_len))) (pfa_cons (pf_call (ok__law_verbs S) (hr.mono (by decide)) (by rfl) S.g__law_verbs S.F__law_verbs.kp (bd__law_verbs S) tk (pfa_cons (pf_var 3) (pfa_nil)) (hfl := (fcons_len fnil_len))) (pfa_nil)))) (pg_tup rfl (pgs_cons (pg_name sc.nd (by rfl) (by first | exact .inl rfl | exact .inr rfl)) (pgs_cons (pg_name sc.nd (by rfl) (by first | exact .inl rfl | exact .inr rfl)) pgs_nil)))) (pfss_cons (pfs_set sc.nd (pf_call (ok__law_some S) (hr.mono (by decide)) (by rfl) S.g__law_some S.F__law_some.kp (bd__law_some S) tk (pfa_cons (pf_var 3) (pfa_cons (pf_var 4) (pfa_cons (pf_var 10) (pfa_cons (pf_int) (pfa_nil))))) (hfl := (fcons_len (fcons_len (fcons_len (fcons_len fnil_len))))))) (pfss_cons (pfs_setLc rfl sc.nd (pfi_rng1 S.b_range (pfa_cons (pf_int) (pfa_nil))) (own := [("j", 12)]) (show BlkOk N_law (defScope s_law) _ _ from ⟨rfl, by decide +kernel, by decide +kernel, by decide +kernel, by decide +kernel⟩) rfl (fun _ _ _ _ _ => pg_name sc.nd (by rfl) (by first | exact .inl rfl | exact .inr rfl)) (fun _ _ _ _ _ => pts_yes) (fun _ _ _ _ _ => pf_call (ok__law_near S) (hr.mono (by decide)) (by rfl) S.g__law_near S.F__law_near.kp (bd__law_near S) takesW0 (pfa_cons (pf_var 3) (pfa_cons (pf_var 6) (pfa_cons (pf_var 4) (pfa_cons (pf_var 10) (pfa_nil))))) (hfl := (fcons_len (fcons_len (fcons_len (fcons_len fnil_len)))))) (by exact sw_true rfl rfl rfl (by decide +kernel)) tf_pure) (pfss_cons (pfs_forV po rfl (pf_op op_addA im_add (pf_var 8) (pf_pure (pfl_lst (pfa_cons (pf_call (ok__law_some S) (hr.mono (by decide)) (by rfl) S.g__law_some S.F__law_some.kp (bd__law_some S) tk (pfa_cons (pf_var 3) (pfa_cons (pf_var 4) (pfa_cons (pf_var 11) (pfa_cons (pf_int) (pfa_nil))))) (hfl := (fcons_len (fcons_len (fcons_len (fcons_len fnil_len)))))) (pfa_nil))))) (pg_name sc.nd (by rfl) (by first | exact .inl rfl | exact .inr rfl)) (pfss_one (pfs_if (pft_not (pft_val (pf_call (ok__law_good S) (hr.mono (by decide)) (by rfl) S.g__law_good S.F__law_good.kp (bd__law_good S) tk (pfa_cons (pf_var 6) (pfa_cons (pf_var 7) (pfa_cons (pf_var 4) (pfa_nil)))) (hfl := (fcons_len (fcons_len (fcons_len fnil_len))))))) (pfss_one (pfs_ret (pf_bl))) (pfss_nil)))) (pfss_cons (pfs_set sc.nd (pf_call (ok__law_some S) (hr.mono (by decide)) (by rfl) S.g__law_some S.F__law_some.kp (bd__law_some S) tk (pfa_cons (pf_var 3) (pfa_cons (pf_var 4) (pfa_cons (pf_pure (pfl_lst (pfa_cons (pf_str) (pfa_cons (pf_str) (pfa_cons (pf_str) (pfa_nil)))))) (pfa_cons (pf_int) (pfa_nil))))) (hfl := (fcons_len (fcons_len (fcons_len (fcons_len fnil_len))))))) (pfss_one (pfs_if (pft_not (pft_val (pf_call (ok__law_plain_good S) (hr.mono (by decide)) (by rfl) S.g__law_plain_good S.F__law_plain_good.kp (bd__law_plain_good S) tk (pfa_cons (pf_var 9) (pfa_cons (pf_call (ok__law_near S) (hr.mono (by decide)) (by rfl) S.g__law_near S.F__law_near.kp (bd__law_near S) tk (pfa_cons (pf_var 3) (pfa_cons (pf_var 9) (pfa_cons (pf_var 4) (pfa_cons (pf_pure (pfl_lst (pfa_cons (pf_str) (pfa_cons (pf_str) (pfa_cons (pf_str) (pfa_nil)))))) (pfa_nil))))) (hfl := (fcons_len (fcons_len (fcons_len (fcons_len fnil_len)))))) (pfa_cons (pf_var 4) (pfa_nil)))) (hfl := (fcons_len (fcons_len (fcons_len fnil_len))))))) (pfss_one (pfs_ret (pf_bl))) (pfss_nil))))))))))))) (pfss_cons (pfs_asg (pf_tup (pfa_cons (pf_pure (pfl_lst (pfa_cons (pf_tup (pfa_cons (pf_str) (pfa_cons (pf_str) (pfa_nil)))) (pfa_cons (pf_tup (pfa_cons (pf_str) (pfa_cons (pf_str) (pfa_nil)))) (pfa_nil))))) (pfa_cons (pf_pure (pfl_lst (pfa_cons (pf_tup (pfa_cons (pf_str) (pfa_cons (pf_str) (pfa_nil)))) (pfa_cons (pf_tup (pfa_cons (pf_str) (pfa_cons (pf_str) (pfa_nil)))) (pfa_nil))))) (pfa_nil)))) (pg_tup rfl (pgs_cons (pg_name sc.nd (by rfl) (by first | exact .inl rfl | exact .inr rfl)) (pgs_cons (pg_name sc.nd (by rfl) (by first | exact .inl rfl | exact .inr rfl)) pgs_nil)))) (pfss_cons (pfs_forV po rfl (pf_pure (pfl_lst (pfa_cons (pf_tup (pfa_cons (pf_str) (pfa_cons (pf_str) (pfa_cons (pf_str) (pfa_cons (pf_str) (pfa_nil)))))) (pfa_cons (pf_tup (pfa_cons (pf_str) (pfa_cons (pf_str) (pfa_nil)))) (pfa_nil))))) (pg_name sc.nd (by rfl) (by first | exact .inl rfl | exact .inr rfl)) (pfss_one (pfs_if (pft_cmp (op_neA hu) im_ne (pf_call (ok_run S) (hr.mono (by decide)) (by rfl) S.g_run S.F_run.kp (bd_run S) tk (pfa_cons (pf_var 6) (pfa_cons (pf_var 2) (pfa_nil))) (hfl := (fcons_len (fcons_len fnil_len)))) (pf_call (ok_run S) (hr.mono (by decide)) (by rfl) S.g_run S.F_run.kp (bd_run S) tk (pfa_cons (pf_var 7) (pfa_cons (pf_var 2) (pfa_nil))) (hfl := (fcons_len (fcons_len fnil_len))))) (pfss_one (pfs_ret (pf_bl))) (pfss_nil)))) (pfss_one (pfs_ret (pf_and (pf_not (pf_call (ok_agree S) (hr.mono (by decide)) (by rfl) S.g_agree S.F_agree.kp (bd_agree S) tk (pfa_cons (pf_var 6) (pfa_cons (pf_var 7) (pfa_nil))) (hfl := (fcons_len (fcons_len fnil_len))))) (pf_one (pf_cmp (op_neA hu) im_ne (pf_call (ok_run S) (hr.mono (by decide)) (by rfl) S.g_run S.F_run.kp (bd_run S) tk (pfa_cons (pf_var 6) (pfa_cons (pf_tup (pfa_cons (pf_str) (pfa_cons (pf_str) (pfa_nil)))) (pfa_nil))) (hfl := (fcons_len (fcons_len fnil_len)))) (pf_call (ok_run S) (hr.mono (by decide)) (by rfl) S.g_run S.F_run.kp (bd_run S) tk (pfa_cons (pf_var 7) (pfa_cons (pf_tup (pfa_cons (pf_str) (pfa_cons (pf_str) (pfa_nil)))) (pfa_nil))) (hfl := (fcons_len (fcons_len fnil_len))))))))))))

end
end FB.K64
set_option Elab.async false
set_option linter.all false
set_option maxRecDepth 100000
set_option maxHeartbeats 4000000
namespace FB.K64
open PySem PySem.Spec PyProof.Rows L2 RZ FB
/-! ### words, rows -/
abbrev LET : Str := "abcdefghijklmnopqrstuvwxyz"
def isWord (x : Str) : Bool := decide (1 ≤ x.length) && decide (x.length ≤ 8) && x.cps.toList.all fun c => decide (c ∈ LET.cps.toList)
theorem signs_bool (x : Str) (st : So) : cmpL (.nm 1) tYesF (fOp gIn (fVar 1) (fC (.str LET))) [some (sD x), none] (x.cps.toList.map fun c => .p (.str ⟨#[c]⟩)) [] st = .ok (x.cps.toList.map fun c => .p (.bool (decide (c ∈ LET.cps.toList)))) st := by
  refine cmpL_all (r := fun c => [some (sD x), some (sD ⟨#[c]⟩)]) _ (fun c _ => by simp) fun c _ => ?_
  simp [gIn, memD]
theorem is_word_ok (x : Str) (st : So) (hw : isWord x = true) : d_is_word [sD x] st = .ok (.p (.bool true)) st := by
  refine runD_pure0 ?_
  unfold isWord at hw
  simp only [Bool.and_eq_true, decide_eq_true_eq] at hw
  obtain ⟨⟨h1, h2⟩, h3⟩ := hw
  have hx : x.length ≤ 100000 := by omega
  have hl : gLen [sD x] st = some (.p (.int x.length)) := by
    show (if x.length ≤ 100000 then some (Dv.p (.int x.length)) else none) = _
    rw [if_pos hx]
  have hc : (x.cps.toList).length ≤ 100000 := by rw [Array.length_toList]; exact hx
  have hcmp := signs_bool x st
  show m_is_word [some (sD x), none] st = _
  unfold m_is_word
  have e1 : gLe (.p (.int 1)) (.p (.int x.length)) st = some (.p (.bool true)) := by
    show some (Dv.p (.bool (decide ((1 : Int) ≤ x.length)))) = _
    rw [decide_eq_true (by omega)]
  have e2 : gLe (.p (.int x.length)) (.p (.int 8)) st = some (.p (.bool true)) := by
    show some (Dv.p (.bool (decide ((x.length : Int) ≤ 8)))) = _
    rw [decide_eq_true (by omega)]
  have e3 : fLcV (fVar 0) (.nm 1) tYesF (fOp gIn (fVar 1) (fC (.str LET))) [some (sD x), none] st = .ok (x.cps.toList.map fun c => .p (.bool (decide (c ∈ LET.cps.toList)))) st := by
    rw [ev_lcV (d := sD x) (by simp) (items_str x st) (by rw [List.length_map]; exact hc), rhoW_one]
    exact hcmp
  simp only [ev_ret, ev_and, ev_tb, ev_isT, ev_var, List.getElem?_cons_zero, bind_ok, ty_s, kit_ss, ev_asB, if_true, ev_chain, ev_c, ev_cb, ev_cons, ev_nil, hl, toR_some, e1, e2, ev_pure, e3, small_map, decide_eq_true hc]
  have e4 := gAll_b (x.cps.toList.map fun c => decide (c ∈ LET.cps.toList)) st
  rw [List.map_map] at e4
  simp only [Function.comp_def] at e4
  rw [e4]
  have e5 : (x.cps.toList.map fun c => decide (c ∈ LET.cps.toList)).all id = true := by
    rw [List.all_map]; exact h3
  rw [e5]
  rfl
/-- a row: words, none twice, at most 20 -/
def Row (ws : List Str) : Prop := (∀ w ∈ ws, isWord w = true) ∧ ws.Nodup ∧ ws.length ≤ 20
theorem are_words_ok (ws : List Str) (st : So) (h : Row ws) : d_are_words [tw ws] st = .ok (.p (.bool true)) st := by
  refine runD_pure0 ?_
  show m_are_words [some (tw ws), none] st = _
  unfold m_are_words
  have hl : ws.length ≤ 100000 := Nat.le_trans h.2.2 (by decide)
  have e3 : fLcV (fVar 0) (.nm 1) tYesF (fCall d_is_word (fCons (fVar 1) fNil)) [some (tw ws), none] st = .ok (ws.map fun _ => .p (.bool true)) st := by
    rw [ev_lcV (d := tw ws) (by simp) (items_tw ws st) (by rw [List.length_map]; exact hl), rhoW_one]
    refine cmpL_all (r := fun x => [some (tw ws), some (sD x)]) ws (fun w _ => by simp) fun w hw => ?_
    simp [is_word_ok w st (h.1 w hw)]
  simp only [ev_ret, ev_and, ev_tb, ev_isT, ev_var, List.getElem?_cons_zero, bind_ok, ty_tw, kit_tt, ev_asB, if_true, ev_cb, ev_cons, ev_nil, toR_some, ev_pure, e3, small_map, decide_eq_true hl]
  have e4 := gAll_b (ws.map fun _ => true) st
  rw [List.map_map] at e4
  simp only [Function.comp_def] at e4
  rw [e4]
  have e5 : (ws.map fun _ => true).all id = true := by simp
  have h4 : ws.length < 4000 := Nat.lt_of_le_of_lt h.2.2 (by decide)
  rw [e5]
  simp only [toR_some, bind_ok, ev_asB, if_true, ev_op, ev_lenSet, ev_var, List.getElem?_cons_zero, tup_tw, txts_s, if_pos h4, ev_cb, ev_cons, ev_nil, gLen_tw, gEq_i, lenSet_nodup h.2.1, decide_true, st_ok]
theorem is_row_ok (ws : List Str) (st : So) (h : Row ws) : d_is_row [tw ws] st = .ok (.p (.bool true)) st := by
  refine runD_pure0 ?_
  show m_is_row [some (tw ws)] st = _
  unfold m_is_row
  have e : gLe (.p (.int ws.length)) (.p (.int 20)) st = some (.p (.bool true)) := by
    show some (Dv.p (.bool (decide ((ws.length : Int) ≤ 20)))) = _
    rw [decide_eq_true (by have := h.2.2; omega)]
  simp [are_words_ok ws st h, e]
theorem check_row_ok (ws : List Str) (st : So) (h : Row ws) : d_check_row [tw ws] st = .ok (.p .none) st := by
  refine runD_none0 (ρ' := [some (tw ws)]) ?_
  show m_check_row [some (tw ws)] st = _
  unfold m_check_row
  simp [is_row_ok ws st h]
end FB.K64
set_option Elab.async false
set_option linter.all false
set_option maxRecDepth 100000
set_option maxHeartbeats 4000000
namespace FB.K64
open PySem PySem.Spec PyProof.Rows L2 RZ FB
abbrev iD (n : Nat) : Dv := .p (.int (n : Nat))
theorem div_big {i : Int} {j : Int} {st : So} (h1 : 0 < j) (h2 : j < 2 ^ 8000) : gDiv (.p (.int i)) (.p (.int j)) st = some (.p (.int (i / j))) := by
  show (if decide (0 < j) && decide (j < 2 ^ 8000) then some (Dv.p (.int (i / j))) else none) = _
  rw [decide_eq_true h1, decide_eq_true h2]; rfl
abbrev zD (i : Int) : Dv := .p (.int i)
theorem mulA_r {i j : Int} {st : So} (h : j.natAbs < 2 ^ 64) : gMulA (zD i) (zD j) st = some (zD (i * j)) := by
  show (if decide (i.natAbs < 2 ^ 64) || decide (j.natAbs < 2 ^ 64) then some (Dv.p (.int (i * j))) else if decide (i.natAbs < 2 ^ 4000) && decide (j.natAbs < 2 ^ 4000) then some (Dv.p (.int (i * j))) else none) = _
  rw [decide_eq_true h, Bool.or_true, if_pos rfl]
theorem mulA_w {i j : Int} {st : So} (h1 : i.natAbs < 2 ^ 4000) (h2 : j.natAbs < 2 ^ 4000) : gMulA (zD i) (zD j) st = some (zD (i * j)) := by
  show (if decide (i.natAbs < 2 ^ 64) || decide (j.natAbs < 2 ^ 64) then some (Dv.p (.int (i * j))) else if decide (i.natAbs < 2 ^ 4000) && decide (j.natAbs < 2 ^ 4000) then some (Dv.p (.int (i * j))) else none) = _
  rw [decide_eq_true h1, decide_eq_true h2]
  split <;> rfl
theorem mod_z {i j : Int} {st : So} (h : 0 < j) : gMod (zD i) (zD j) st = some (zD (i % j)) := by
  show (if decide (0 < j) then some (Dv.p (.int (i % j))) else none) = _
  rw [decide_eq_true h, if_pos rfl]
theorem add_z {i j : Int} {st : So} : gAdd (zD i) (zD j) st = some (zD (i + j)) := rfl
theorem sub_z {i j : Int} {st : So} : gSub (zD i) (zD j) st = some (zD (i - j)) := rfl
theorem int_z {i : Int} {st : So} : gInt [zD i] st = some (zD i) := rfl
theorem lt_z {i j : Int} {st : So} : gLt (zD i) (zD j) st = some (.p (.bool (decide (i < j)))) := rfl
theorem ge_z {i j : Int} {st : So} : gGe (zD i) (zD j) st = some (.p (.bool (decide (j ≤ i)))) := rfl
theorem gt_z {i j : Int} {st : So} : gGt (zD i) (zD j) st = some (.p (.bool (decide (j < i)))) := rfl
theorem pow_z {i : Int} {j : Nat} {st : So} (h : i.natAbs < 2 ^ 64) (hj : j ≤ 1000) : gPow (zD i) (zD (j : Int)) st = some (zD (i ^ j)) := by
  show (if decide (0 ≤ (j : Int)) && decide ((j : Int) ≤ 1000000) && decide (i.natAbs < 2 ^ 64) then some (Dv.p (.int (i ^ (j : Int).toNat))) else none) = _
  rw [decide_eq_true (by omega), decide_eq_true (by omega), decide_eq_true h, Int.toNat_natCast]; rfl
theorem mod_small {i j : Int} (h : 0 < j) (hj : j < 2 ^ 32) : (i % j).natAbs < 2 ^ 64 := by
  have h1 := Int.emod_nonneg i (show j ≠ 0 by omega)
  have h2 := Int.emod_lt_of_pos i h
  omega
theorem mixed_ok (c k : Int) (st : So) : ∃ v, d__law_mixed [zD c, zD k] st = .ok (zD v) st := by
  have key : ∃ v, m__law_mixed [some (zD c), some (zD k), none] st = .ret (zD v) st := by
    unfold m__law_mixed
    have e1 : fOp gMod (fCB gInt (fCons (fOp gAdd (fOp gAdd (fOp gMulA (fOp gMod (fCB gInt (fCons (fVar 0) (fNil))) (fC (.int 2147483647))) (fC (.int 48271))) (fOp gMulA (fVar 1) (fC (.int 69621)))) (fC (.int 1048583))) (fNil))) (fC (.int 2147483629)) [some (zD c), some (zD k), none] st = .ok (zD ((c % 2147483647 * 48271 + k * 69621 + 1048583) % 2147483629)) st := by
      have a1 := mod_z (i := c) (j := 2147483647) (st := st) (by decide)
      have a2 := mulA_r (i := c % 2147483647) (j := 48271) (st := st) (by decide)
      have a3 := mulA_r (i := k) (j := 69621) (st := st) (by decide)
      have a4 := mod_z (i := c % 2147483647 * 48271 + k * 69621 + 1048583) (j := 2147483629) (st := st) (by decide)
      simp only [ev_op, ev_cb, ev_cons, ev_var, List.getElem?_cons_succ, List.getElem?_cons_zero, bind_ok, ev_nil, int_z, toR_some, ev_c, a1, a2, a3, add_z, a4]
    generalize hx : (c % 2147483647 * 48271 + k * 69621 + 1048583) % 2147483629 = x at e1
    have e2 : fOp gMod (fCB gInt (fCons (fOp gMulA (fVar 2) (fVar 2)) (fNil))) (fC (.int 2147483587)) [some (zD c), some (zD k), some (zD x)] st = .ok (zD (x * x % 2147483587)) st := by
      have a1 := mulA_r (i := x) (j := x) (st := st) (by rw [← hx]; exact mod_small (by decide) (by decide))
      have a2 := mod_z (i := x * x) (j := 2147483587) (st := st) (by decide)
      simp only [ev_op, ev_cb, ev_cons, ev_var, List.getElem?_cons_succ, List.getElem?_cons_zero, bind_ok, ev_nil, int_z, toR_some, ev_c, a1, a2]
    generalize hy : x * x % 2147483587 = y at e2
    have e3 : fOp gMod (fCB gInt (fCons (fOp gMulA (fVar 2) (fOp gAdd (fVar 2) (fC (.int 2)))) (fNil))) (fC (.int 2147483579)) [some (zD c), some (zD k), some (zD y)] st = .ok (zD (y * (y + 2) % 2147483579)) st := by
      have hb : y.natAbs < 2 ^ 32 := by
        have h1 := Int.emod_nonneg (x * x) (show (2147483587 : Int) ≠ 0 by decide)
        have h2 := Int.emod_lt_of_pos (x * x) (show (0 : Int) < 2147483587 by decide)
        omega
      have a1 := mulA_r (i := y) (j := y + 2) (st := st) (by omega)
      have a2 := mod_z (i := y * (y + 2)) (j := 2147483579) (st := st) (by decide)
      simp only [ev_op, ev_cb, ev_cons, ev_var, List.getElem?_cons_succ, List.getElem?_cons_zero, bind_ok, ev_nil, int_z, toR_some, ev_c, add_z, a1, a2]
    refine ⟨y * (y + 2) % 2147483579, ?_⟩
    rw [ev_seq, ev_asg, e1, st_ok, tg_nm, toE_some]
    simp only [List.set_cons_succ, List.set_cons_zero]
    rw [ev_seq, ev_asg, e2, st_ok, tg_nm, toE_some]
    simp only [List.set_cons_succ, List.set_cons_zero]
    rw [ev_ret, e3, st_ok]
  obtain ⟨v, hv⟩ := key
  exact ⟨v, runD_pure0 hv⟩
/-! ### the drawn numbers -/
def own (n : Int) : Cl := .lst [zD n]
def SS (st : So) (o : Nat) (n : Int) (rest : So) : So := st.set o (own n) ++ rest
theorem SS_at {st : So} {o : Nat} {n : Int} {rest : So} (h : o < st.length) : (SS st o n rest)[o]? = some (own n) := by
  unfold SS
  rw [List.getElem?_append_left (by rw [List.length_set]; exact h), List.getElem?_set_self h]
theorem SS_set {st : So} {o : Nat} {n m : Int} {rest : So} (h : o < st.length) : (SS st o n rest).set o (own m) = SS st o m rest := by
  unfold SS
  rw [List.set_append_left _ _ (by rw [List.length_set]; exact h), List.set_set]
theorem SS_len {st : So} {o : Nat} {n : Int} {rest : So} : (SS st o n rest).length = st.length + rest.length := by
  unfold SS; rw [List.length_append, List.length_set]
theorem take_ok {s : So} {o : Nat} {n k : Int} (h : s[o]? = some (own n)) (hk : 0 < k) (hk2 : k < 2 ^ 32) : d__law_take [.ref o, zD k] s = .ok (zD (n % k)) (s.set o (own (n / k))) := by
  have i0 : ∀ s' : So, s'[o]? = some (own n) → gIxA (.ref o) (.p (.int 0)) s' = some (zD n) := fun s' h' => by
    have d0 : dictOf (.ref o) s' = none := by unfold dictOf; dsimp only; rw [h']; rfl
    unfold gIxA
    rw [d0]
    show (match seqOf (.ref o) s' with | some xs => atI xs 0 | none => none) = _
    have : seqOf (.ref o) s' = some [zD n] := by
      show (match tupOf (.ref o) with | some xs => some xs | none => lstOf (.ref o) s') = _
      show lstOf (.ref o) s' = _
      unfold lstOf
      dsimp only
      rw [h']; rfl
    rw [this]
    rfl
  have e1 := i0 s h
  have a1 := mod_z (i := n) (j := k) (st := s) hk
  have a2 := div_big (i := n) (j := k) (st := s) hk (by
    have q : (2 : Int) ^ 32 ≤ 2 ^ 8000 := by
      have : ((2 ^ 32 : Nat) : Int) ≤ ((2 ^ 8000 : Nat) : Int) := Int.ofNat_le.mpr (Nat.pow_le_pow_right (by decide) (by decide))
      simpa [Int.natCast_pow] using this
    omega)
  have key : m__law_take [some (.ref o), some (zD k), none] s = .ret (zD (n % k)) (s.set o (own (n / k))) := by
    unfold m__law_take
    have s1 : fOp gMod (fCB gInt (fCons (fOp gIxA (fVar 0) (fC (.int 0))) fNil)) (fVar 1) [some (.ref o), some (zD k), none] s = .ok (zD (n % k)) s := by
      simp only [ev_op, ev_cb, ev_cons, ev_var, List.getElem?_cons_succ, List.getElem?_cons_zero, bind_ok, ev_nil, ev_c, e1, toR_some, int_z, a1]
    have s2 : fOp gDiv (fOp gIxA (fVar 0) (fC (.int 0))) (fVar 1) [some (.ref o), some (zD k), some (zD (n % k))] s = .ok (zD (n / k)) s := by
      simp only [ev_op, ev_var, List.getElem?_cons_succ, List.getElem?_cons_zero, bind_ok, ev_c, e1, toR_some, a2]
    have s3 : sSet (fOp gDiv (fOp gIxA (fVar 0) (fC (.int 0))) (fVar 1)) (fVar 0) (fC (.int 0)) [some (.ref o), some (zD k), some (zD (n % k))] s = .nx [some (.ref o), some (zD k), some (zD (n % k))] (s.set o (own (n / k))) := by
      unfold sSet tgSet
      rw [s2, st_ok]
      simp only [ev_var, List.getElem?_cons_zero, bind_ok, ev_c]
      have c : cellL (.ref o) s = some (o, [zD n]) := by
        unfold cellL
        dsimp only
        rw [h]; rfl
      rw [c]
      rfl
    rw [ev_seq, ev_asg, s1, st_ok, tg_nm, toE_some]
    simp only [List.set_cons_succ, List.set_cons_zero]
    rw [ev_seq, s3]
    dsimp only
    rw [ev_ret]
    simp only [ev_var, List.getElem?_cons_succ, List.getElem?_cons_zero, st_ok]
  show runD 3 m__law_take [.ref o, zD k] s = _
  rw [runD_ret (N := 3) (args := [.ref o, zD k]) key, trim_same (by rw [List.length_set])]
theorem take_SS {st : So} {o : Nat} {n k : Int} {rest : So} (h : o < st.length) (hk : 0 < k) (hk2 : k < 2 ^ 32) : d__law_take [.ref o, zD k] (SS st o n rest) = .ok (zD (n % k)) (SS st o (n / k) rest) := by
  rw [take_ok (SS_at h) hk hk2, SS_set h]
end FB.K64
set_option Elab.async false
set_option linter.all false
set_option maxRecDepth 100000
set_option maxHeartbeats 4000000
namespace FB.K64
open PySem PySem.Spec PyProof.Rows L2 RZ FB
def bodyC : FS := sAsg (fOp gAdd (fOp gMulA (fVar 3) (fC (.int 2147483579))) (fCall d__law_mixed (fCons (fVar 2) (fCons (fOp gAdd (fOp gAdd (fOp gMulA (fC (.int 7)) (fVar 1)) (fOp gMulA (fC (.int 100)) (fVar 4))) (fOp gMulA (fVar 4) (fVar 4))) (fNil))))) (.nm 3)
theorem cell_loop (a : Option Dv) (k c : Int) (st : So) : ∀ (xs : List Int) (f : Int) (x4 : Option Dv), (∀ x ∈ xs, x.natAbs < 2 ^ 32) → k.natAbs < 2 ^ 32 → ∃ v y4, sForL (.nm 4) bodyC (xs.map fun x => zD x) [a, some (zD k), some (zD c), some (zD f), x4] st = .nx [a, some (zD k), some (zD c), some (zD v), y4] st
  | [], f, x4, _, _ => ⟨f, x4, rfl⟩
  | x :: xs, f, x4, hx, hk => by
    have hx0 := hx x List.mem_cons_self
    obtain ⟨m, hm⟩ := mixed_ok c (7 * k + 100 * x + x * x) st
    have a1 := mulA_r (i := f) (j := 2147483579) (st := st) (by decide)
    have a2 := mulA_r (i := 7) (j := k) (st := st) (by omega)
    have a3 := mulA_r (i := 100) (j := x) (st := st) (by omega)
    have a4 := mulA_r (i := x) (j := x) (st := st) (by omega)
    have e : bodyC [a, some (zD k), some (zD c), some (zD f), some (zD x)] st = .nx [a, some (zD k), some (zD c), some (zD (f * 2147483579 + m)), some (zD x)] st := by
      unfold bodyC
      have e1 : fCall d__law_mixed (fCons (fVar 2) (fCons (fOp gAdd (fOp gAdd (fOp gMulA (fC (.int 7)) (fVar 1)) (fOp gMulA (fC (.int 100)) (fVar 4))) (fOp gMulA (fVar 4) (fVar 4))) (fNil))) [a, some (zD k), some (zD c), some (zD f), some (zD x)] st = .ok (zD m) st := by
        simp only [ev_call, ev_op, ev_cons, ev_var, List.getElem?_cons_succ, List.getElem?_cons_zero, bind_ok, ev_nil, ev_c, a2, a3, a4, toR_some, add_z, hm]
      rw [ev_asg, ev_op, ev_op]
      simp only [ev_var, List.getElem?_cons_succ, List.getElem?_cons_zero, bind_ok, ev_c, a1, toR_some, e1, add_z, st_ok, tg_nm, toE_some, List.set_cons_succ, List.set_cons_zero]
    obtain ⟨v, y4, ih⟩ := cell_loop a k c st xs (f * 2147483579 + m) (some (zD x)) (fun y hy => hx y (List.mem_cons_of_mem _ hy)) hk
    refine ⟨v, y4, ?_⟩
    rw [List.map_cons, forL_cons, tg_nm, toE_some]
    simp only [List.set_cons_succ, List.set_cons_zero, e]
    exact ih
theorem big60 : ((10 : Int) ^ 60).natAbs < 2 ^ 4000 := by decide +kernel
theorem big120 : ((10 : Int) ^ 60 * 10 ^ 60).natAbs < 2 ^ 4000 := by decide +kernel
theorem big180 : ((10 : Int) ^ 60 * 10 ^ 60 * 10 ^ 60).natAbs < 2 ^ 4000 := by decide +kernel
theorem pos240 : (0 : Int) < (10 : Int) ^ 60 * 10 ^ 60 * 10 ^ 60 * 10 ^ 60 := by decide +kernel
theorem frz_seq (ns : List Int) (st : So) : seqOf (.frz ns) st = some (ns.map fun n => zD n) := rfl
theorem frz_len (ns : List Int) (st : So) : gLen [.frz ns] st = some (zD ns.length) := by
  show (seqOf (.frz ns) st).map (fun ys => Dv.p (.int ys.length)) = _
  rw [frz_seq]; simp
theorem frz_at (ns : List Int) (k : Nat) (st : So) (h : k < ns.length) : gIxA (.frz ns) (zD k) st = some (zD ns[k]) := by
  show (match seqOf (.frz ns) st with | some xs => atI xs k | none => none) = _
  rw [frz_seq]
  show atI (ns.map fun n => zD n) k = _
  unfold atI ixN
  rw [List.length_map, if_pos (by omega), if_pos (by omega)]
  show (ns.map fun n => zD n)[(k : Int).toNat]? = _
  rw [Int.toNat_natCast, List.getElem?_map, List.getElem?_eq_getElem h]; rfl
theorem cell_ok (ns : List Int) (k : Nat) (st : So) (hk : k < 1000) : ∃ v, d__law_cell [.frz ns, zD k] st = .ok (zD v) st := by
  have tail : ∀ c : Int, ∃ v, sSeq (sIf (fTB (fOp gGe (fVar 2) (fOp gPow (fC (.int 10)) (fC (.int 18))))) (sRet (fOp gMod (fCB gInt (fCons (fOp gSub (fVar 2) (fOp gPow (fC (.int 10)) (fC (.int 18)))) (fNil))) (fOp gMulA (fOp gMulA (fOp gMulA (fOp gPow (fC (.int 10)) (fC (.int 60))) (fOp gPow (fC (.int 10)) (fC (.int 60)))) (fOp gPow (fC (.int 10)) (fC (.int 60)))) (fOp gPow (fC (.int 10)) (fC (.int 60)))))) (sNext)) (sSeq (sAsg (fC (.int 0)) (.nm 3)) (sSeq (sFor (fRng rng1 (fCons (fC (.int 24)) (fNil))) (.nm 4) bodyC) (sRet (fVar 3)))) [some (.frz ns), some (zD k), some (zD c), none, none] st = .ret (zD v) st := fun c => by
    have p18 := pow_z (i := 10) (j := 18) (st := st) (by decide) (by decide)
    have p60 := pow_z (i := 10) (j := 60) (st := st) (by decide) (by decide)
    have t1 : fTB (fOp gGe (fVar 2) (fOp gPow (fC (.int 10)) (fC (.int 18)))) [some (.frz ns), some (zD k), some (zD c), none, none] st = .ok (decide ((10 : Int) ^ 18 ≤ c)) st := by
      have p18' : gPow (.p (.int 10)) (.p (.int 18)) st = some (zD (10 ^ 18)) := p18
      simp only [ev_tb, ev_op, ev_var, List.getElem?_cons_succ, List.getElem?_cons_zero, bind_ok, ev_c, p18', toR_some, ge_z, ev_asB]
    by_cases hc : (10 : Int) ^ 18 ≤ c
    · refine ⟨(c - 10 ^ 18) % ((10 : Int) ^ 60 * 10 ^ 60 * 10 ^ 60 * 10 ^ 60), ?_⟩
      have p18' : gPow (.p (.int 10)) (.p (.int 18)) st = some (zD (10 ^ 18)) := p18
      have p60' : gPow (.p (.int 10)) (.p (.int 60)) st = some (zD (10 ^ 60)) := p60
      have m1 := mulA_w (st := st) big60 big60
      have m2 := mulA_w (st := st) big120 big60
      have m3 := mulA_w (st := st) big180 big60
      have m4 := mod_z (i := c - 10 ^ 18) (st := st) pos240
      have t2 : fOp gMod (fCB gInt (fCons (fOp gSub (fVar 2) (fOp gPow (fC (.int 10)) (fC (.int 18)))) (fNil))) (fOp gMulA (fOp gMulA (fOp gMulA (fOp gPow (fC (.int 10)) (fC (.int 60))) (fOp gPow (fC (.int 10)) (fC (.int 60)))) (fOp gPow (fC (.int 10)) (fC (.int 60)))) (fOp gPow (fC (.int 10)) (fC (.int 60)))) [some (.frz ns), some (zD k), some (zD c), none, none] st = .ok (zD ((c - 10 ^ 18) % ((10 : Int) ^ 60 * 10 ^ 60 * 10 ^ 60 * 10 ^ 60))) st := by
        simp only [ev_op, ev_cb, ev_cons, ev_var, List.getElem?_cons_succ, List.getElem?_cons_zero, bind_ok, ev_nil, ev_c, p18', p60', toR_some, sub_z, int_z, m1, m2, m3, m4]
      rw [ev_seq, ev_sif, t1, st_ok, decide_eq_true hc, if_pos rfl, ev_ret, t2, st_ok]
    · have hr : fRng rng1 (fCons (fC (.int 24)) fNil) [some (.frz ns), some (zD k), some (zD c), some (zD 0), none] st = .ok (((List.range 24).map fun (j : Nat) => (j : Int)).map fun x => zD x) st := by
        rw [ev_rng, ev_cons, ev_c, bind_ok, ev_nil, bind_ok, bind_ok, rng_pure (okR_small (by decide) (by decide))]
        show Rs.ok (rngL 0 24) st = _
        rw [rngL_zero, List.map_map]; rfl
      obtain ⟨v, y4, hl⟩ := cell_loop (some (.frz ns)) k c st ((List.range 24).map fun (j : Nat) => (j : Int)) 0 none (fun x hx => by
        obtain ⟨j, hj, rfl⟩ := List.mem_map.mp hx
        have := List.mem_range.mp hj
        omega) (by omega)
      refine ⟨v, ?_⟩
      rw [ev_seq, ev_sif, t1, st_ok, decide_eq_false hc, if_neg Bool.false_ne_true, ev_next]
      dsimp only
      rw [ev_seq, ev_asg, ev_c, st_ok, tg_nm, toE_some]
      simp only [List.set_cons_succ, List.set_cons_zero]
      rw [ev_seq, ev_for, hr, st_ok, hl]
      dsimp only
      rw [ev_ret]
      simp only [ev_var, List.getElem?_cons_succ, List.getElem?_cons_zero, st_ok]
  have t0 : fTB (fOp gLt (fVar 1) (fCB gLen (fCons (fVar 0) fNil))) [some (.frz ns), some (zD k), some (zD 0), none, none] st = .ok (decide ((k : Int) < ns.length)) st := by
    simp only [ev_tb, ev_op, ev_cb, ev_cons, ev_var, List.getElem?_cons_succ, List.getElem?_cons_zero, bind_ok, ev_nil, frz_len, toR_some, lt_z, ev_asB]
  have key : ∃ v, m__law_cell [some (.frz ns), some (zD k), none, none, none] st = .ret (zD v) st := by
    unfold m__law_cell
    by_cases h : k < ns.length
    · obtain ⟨v, hv⟩ := tail ns[k]
      refine ⟨v, ?_⟩
      unfold bodyC at hv
      rw [ev_seq, ev_asg, ev_c, st_ok, tg_nm, toE_some]
      simp only [List.set_cons_succ, List.set_cons_zero]
      rw [ev_seq, ev_sif, t0, st_ok, decide_eq_true (by omega), if_pos rfl, ev_asg, ev_op]
      simp only [ev_var, List.getElem?_cons_succ, List.getElem?_cons_zero, bind_ok, frz_at ns k st h, toR_some, st_ok, tg_nm, toE_some, List.set_cons_succ, List.set_cons_zero]
      exact hv
    · obtain ⟨v, hv⟩ := tail 0
      refine ⟨v, ?_⟩
      unfold bodyC at hv
      rw [ev_seq, ev_asg, ev_c, st_ok, tg_nm, toE_some]
      simp only [List.set_cons_succ, List.set_cons_zero]
      rw [ev_seq, ev_sif, t0, st_ok, decide_eq_false (by omega), if_neg Bool.false_ne_true, ev_next]
      exact hv
  obtain ⟨v, hv⟩ := key
  exact ⟨v, runD_pure0 hv⟩
end FB.K64
set_option Elab.async false
set_option linter.all false
set_option maxRecDepth 100000
set_option maxHeartbeats 4000000
/-! PL1: steps by small lemmas. -/
namespace FB
open PySem PySem.Spec PyProof.Rows L2 RZ
theorem seq_to {ga gb : FS} {ρ ρ' : Sl} {st st' : So} (h : ga ρ st = .nx ρ' st') : sSeq ga gb ρ st = gb ρ' st' := by rw [ev_seq, h]
theorem asg_to {fa : FE} {i : Nat} {ρ ρ' : Sl} {st st' : So} {d : Dv} (h : fa ρ st = .ok d st') (e : ρ.set i (some d) = ρ') : sAsg fa (.nm i) ρ st = .nx ρ' st' := by rw [ev_asg, h, st_ok, tg_nm, toE_some, e]
theorem par_to {fr : FA} {i j : Nat} {ρ ρ' : Sl} {st st' : So} {x y : Dv} (h : fr ρ st = .ok [x, y] st') (e : (ρ.set i (some x)).set j (some y) = ρ') : sPar i j fr ρ st = .nx ρ' st' := by rw [ev_par, h, st_ok]; exact congrArg (fun r => Ss.nx r st') e
theorem if_to {t : FT} {ga gb : FS} {ρ : Sl} {st st' : So} (h : t ρ st = .ok false st') : sIf t ga gb ρ st = gb ρ st' := by rw [ev_sif, h, st_ok, if_neg Bool.false_ne_true]
theorem if_next {t : FT} {ga : FS} {ρ : Sl} {st st' : So} (h : t ρ st = .ok false st') : sIf t ga sNext ρ st = .nx ρ st' := by rw [if_to h]; rfl
theorem or_ff {t u : FT} {ρ : Sl} {st st' st2 : So} (h : t ρ st = .ok false st') (h2 : u ρ st' = .ok false st2) : fTOr t u ρ st = .ok false st2 := by rw [ev_tor, h, bind_ok, if_neg Bool.false_ne_true, h2]
theorem not_t {t : FT} {ρ : Sl} {st st' : So} (h : t ρ st = .ok true st') : fTNot t ρ st = .ok false st' := by rw [ev_tnot, h, bind_ok]; rfl
theorem tb_ok {fa : FE} {ρ : Sl} {st st' : So} {b : Bool} (h : fa ρ st = .ok (.p (.bool b)) st') : fTB fa ρ st = .ok b st' := by rw [ev_tb, h, bind_ok, ev_asB]
theorem op_ok {g : G2} {fa fb : FE} {ρ : Sl} {st st1 st2 : So} {x y z : Dv} (h1 : fa ρ st = .ok x st1) (h2 : fb ρ st1 = .ok y st2) (h3 : g x y st2 = some z) : fOp g fa fb ρ st = .ok z st2 := by rw [ev_op, h1, bind_ok, h2, bind_ok, h3, toR_some]
theorem call_ok {F : FD} {fr : FA} {ρ : Sl} {st st1 st2 : So} {xs : List Dv} {z : Dv} (h1 : fr ρ st = .ok xs st1) (h2 : F xs st1 = .ok z st2) : fCall F fr ρ st = .ok z st2 := by rw [ev_call, h1, bind_ok, h2]
theorem cb_ok {g : GA} {fr : FA} {ρ : Sl} {st st1 : So} {xs : List Dv} {z : Dv} (h1 : fr ρ st = .ok xs st1) (h2 : g xs st1 = some z) : fCB g fr ρ st = .ok z st1 := by rw [ev_cb, h1, bind_ok, h2, toR_some]
theorem var_ok {i : Nat} {ρ : Sl} {st : So} {d : Dv} (h : ρ[i]? = some (some d)) : fVar i ρ st = .ok d st := by rw [ev_var, h]
theorem cons_ok {fa : FE} {fr : FA} {ρ : Sl} {st st1 st2 : So} {x : Dv} {xs : List Dv} (h1 : fa ρ st = .ok x st1) (h2 : fr ρ st1 = .ok xs st2) : fCons fa fr ρ st = .ok (x :: xs) st2 := by rw [ev_cons, h1, bind_ok, h2, bind_ok]
theorem nil_ok {ρ : Sl} {st : So} : fNil ρ st = .ok [] st := (rfl)
theorem c_ok {d : PyData} {ρ : Sl} {st : So} : fC d ρ st = .ok (.p d) st := (rfl)
theorem isT_ok {T n : String} {fa : FE} {ρ : Sl} {st st1 : So} {d : Dv} {b : Bool} (h1 : fa ρ st = .ok d st1) (h2 : tyOf d st1 = some n) (h3 : kitB n T = some b) : fIsT T fa ρ st = .ok (.p (.bool b)) st1 := by
  rw [ev_isT, h1, bind_ok, h2]
  show (match kitB n T with | some b => Rs.ok (Dv.p (.bool b)) st1 | none => .stuck) = _
  rw [h3]
theorem asgT_to {fa : FE} {tg : Tg} {ρ ρ' : Sl} {st st' : So} {d : Dv} (h : fa ρ st = .ok d st') (e : tgF tg d ρ = some ρ') : sAsg fa tg ρ st = .nx ρ' st' := by rw [ev_asg, h, st_ok, e, toE_some]
theorem drop_to {fa : FE} {ρ : Sl} {st st' : So} {d : Dv} (h : fa ρ st = .ok d st') : sDrop fa ρ st = .nx ρ st' := by rw [ev_drop, h, st_ok]
theorem ret_to {fa : FE} {ρ : Sl} {st st' : So} {d : Dv} (h : fa ρ st = .ok d st') : sRet fa ρ st = .ret d st' := by rw [ev_ret, h, st_ok]
theorem mth_ok {g : GM} {fo : FE} {fr : FA} {ρ : Sl} {st st1 st2 st3 : So} {x z : Dv} {xs : List Dv} (h1 : fo ρ st = .ok x st1) (hl : isLst x st1 = true) (h2 : fr ρ st1 = .ok xs st2) (h3 : g x xs st2 = some (z, st3)) : fMth g fo fr ρ st = .ok z st3 := by
  rw [ev_mth, h1, bind_ok, hl, if_pos rfl, h2, bind_ok, h3, toM_some]
theorem and_t {fa fb : FE} {ρ : Sl} {st st1 st2 : So} {z : Dv} (h1 : fa ρ st = .ok (.p (.bool true)) st1) (h2 : fb ρ st1 = .ok z st2) : fAnd fa fb ρ st = .ok z st2 := by rw [ev_and, tb_ok h1, bind_ok, if_pos rfl, h2]
theorem notE_ok {fa : FE} {ρ : Sl} {st st1 : So} {b : Bool} (h1 : fa ρ st = .ok (.p (.bool b)) st1) : fNot fa ρ st = .ok (.p (.bool (!b))) st1 := by rw [ev_not, tb_ok h1, bind_ok]
theorem if_true_to {t : FT} {ga gb : FS} {ρ : Sl} {st st' : So} (h : t ρ st = .ok true st') : sIf t ga gb ρ st = ga ρ st' := by rw [ev_sif, h, st_ok, if_pos rfl]
theorem seq_ret {ga gb : FS} {ρ : Sl} {st st' : So} {d : Dv} (h : ga ρ st = .ret d st') : sSeq ga gb ρ st = .ret d st' := by rw [ev_seq, h]
theorem pure_to {fr : FA} {ρ : Sl} {st st' : So} {xs : List Dv} (h : fr ρ st = .ok xs st') (hl : xs.length ≤ 100000) : fPure fr ρ st = .ok (mkL xs) st' := by
  rw [ev_pure, h, bind_ok, if_pos (show small xs = true from decide_eq_true hl)]
theorem cell_to {fr : FA} {ρ : Sl} {st st' : So} {xs : List Dv} (h : fr ρ st = .ok xs st') (hl : xs.length ≤ 100000) : fCell fr ρ st = .ok (.ref st'.length) (st' ++ [.lst xs]) := by
  rw [ev_cell, h, bind_ok, if_pos (show small xs = true from decide_eq_true hl)]
theorem disp_to {fr : FA} {ρ : Sl} {st st' : So} {xs : List Dv} (h : fr ρ st = .ok xs st') (hl : xs.length ≤ 100000) : (fun ρ st => (fr ρ st).bind fun xs st1 => if small xs then Rs.ok xs st1 else .stuck) ρ st = .ok xs st' := by
  show ((fr ρ st).bind fun xs st1 => if small xs then Rs.ok xs st1 else .stuck) = _
  rw [h, bind_ok, if_pos (show small xs = true from decide_eq_true hl)]
theorem tup_to {fr : FA} {ρ : Sl} {st st' : So} {xs : List Dv} (h : fr ρ st = .ok xs st') (hl : xs.length ≤ 100000) : fTup fr ρ st = .ok (mkT xs) st' := by
  rw [ev_tup, h, bind_ok, if_pos (show small xs = true from decide_eq_true hl)]
end FB
set_option Elab.async false
set_option linter.all false
set_option maxRecDepth 100000
set_option maxHeartbeats 4000000
namespace FB.K64
open PySem PySem.Spec PyProof.Rows L2 RZ FB
def CS (ws : List Str) : Cl := .lst (ws.map sD)
theorem SS_rest {st : So} {o j : Nat} {n : Int} {r : So} : (SS st o n r)[st.length + j]? = r[j]? := by
  unfold SS
  rw [List.getElem?_append_right (by rw [List.length_set]; omega), List.length_set, Nat.add_sub_cancel_left]
theorem SS_rset {st : So} {o j : Nat} {n : Int} {r : So} {c : Cl} : (SS st o n r).set (st.length + j) c = SS st o n (r.set j c) := by
  unfold SS
  rw [List.set_append_right _ _ (by rw [List.length_set]; omega), List.length_set, Nat.add_sub_cancel_left]
theorem isLst_CS {s : So} {c : Nat} {xs : List Dv} (h : s[c]? = some (.lst xs)) : isLst (.ref c) s = true := by
  unfold isLst
  show (seqOf (.ref c) s).isSome = true
  show (lstOf (.ref c) s).isSome = true
  unfold lstOf
  dsimp only
  rw [h]; rfl
theorem seq_ref {s : So} {c : Nat} {xs : List Dv} (h : s[c]? = some (.lst xs)) : seqOf (.ref c) s = some xs := by
  show lstOf (.ref c) s = _
  unfold lstOf
  dsimp only
  rw [h]
theorem cellL_at {s : So} {c : Nat} {xs : List Dv} (h : s[c]? = some (.lst xs)) : cellL (.ref c) s = some (c, xs) := by
  unfold cellL
  dsimp only
  rw [h]
theorem len_ref {s : So} {c : Nat} {ws : List Str} (h : s[c]? = some (CS ws)) : gLen [.ref c] s = some (zD ws.length) := by
  show (seqOf (.ref c) s).map (fun ys => Dv.p (.int ys.length)) = _
  rw [seq_ref h]; simp
theorem map_erase {α β : Type} (f : α → β) : ∀ (l : List α) (i : Nat), (l.map f).eraseIdx i = (l.eraseIdx i).map f
  | [], i => by simp
  | a :: l, 0 => rfl
  | a :: l, i + 1 => by
    have ih := map_erase f l i
    simp [ih]
theorem perm_erase {α : Type} : ∀ (l : List α) (i : Nat) (hi : i < l.length), (l[i] :: l.eraseIdx i).Perm l
  | [], i, hi => by simp at hi
  | a :: l, 0, hi => .refl _
  | a :: l, i + 1, hi => by
    have ih := perm_erase l i (by simpa using hi)
    exact (List.Perm.swap a _ _).trans (ih.cons a)
theorem pop_ok {s : So} {c : Nat} {ws : List Str} {i : Nat} (h : s[c]? = some (CS ws)) (hi : i < ws.length) (hl : ws.length ≤ 1000) : gPopAt (.ref c) [zD i] s = some (sD ws[i], s.set c (CS (ws.eraseIdx i))) := by
  unfold gPopAt
  rw [cellL_at h]
  dsimp only
  have e : ixN (ws.map sD).length (i : Int) = some i := by
    unfold ixN
    rw [List.length_map, if_pos (by omega), if_pos (by omega), Int.toNat_natCast]
  rw [e]
  dsimp only
  rw [List.getElem?_map, List.getElem?_eq_getElem hi]
  dsimp only [Option.map_some]
  rw [if_pos (by rw [List.length_map]; omega)]
  have e2 : (ws.map sD).eraseIdx i = (ws.eraseIdx i).map sD := map_erase sD ws i
  rw [e2]; rfl
theorem app_ok {s : So} {c : Nat} {ws : List Str} {w : Str} (h : s[c]? = some (CS ws)) (hl : ws.length ≤ 1000) : gAppend (.ref c) [sD w] s = some (.p .none, s.set c (CS (ws ++ [w]))) := by
  unfold gAppend
  rw [cellL_at h]
  dsimp only
  rw [if_pos (by rw [List.length_map]; omega)]
  unfold CS
  rw [List.map_append]; rfl
theorem ins_ok {s : So} {c : Nat} {ws : List Str} {w : Str} {i : Nat} (h : s[c]? = some (CS ws)) (hl : ws.length ≤ 1000) (hi : i ≤ 1000) : gInsert (.ref c) [zD i, sD w] s = some (.p .none, s.set c (CS (ws.take i ++ [w] ++ ws.drop i))) := by
  unfold gInsert
  rw [cellL_at h]
  dsimp only
  rw [if_pos ⟨by rw [List.length_map]; omega, by omega, by omega⟩, Int.toNat_natCast]
  unfold CS
  rw [List.map_append, List.map_append, List.map_take, List.map_drop]; rfl
/-- a drawn place -/
theorem draw {n : Int} {k : Nat} (hk : 0 < k) : ∃ i : Nat, n % (k : Int) = (i : Int) ∧ i < k := by
  have h1 := Int.emod_nonneg n (show (k : Int) ≠ 0 by omega)
  have h2 := Int.emod_lt_of_pos n (show (0 : Int) < k by omega)
  exact ⟨(n % k).toNat, by omega, by omega⟩
/-! ### second stirred -/
theorem let_lt : ∀ c ∈ LET.cps.toList, c < 0x110000 := by decide +kernel
theorem word_ok {w : Str} (h : isWord w = true) : PyData.strOk w = true := by
  unfold isWord at h
  simp only [Bool.and_eq_true] at h
  unfold PyData.strOk
  rw [← Array.all_toList]
  refine List.all_eq_true.mpr fun c hc => ?_
  exact decide_eq_true (let_lt c (of_decide_eq_true (List.all_eq_true.mp h.2 c hc)))
theorem eqvAll_nil : ∀ ws : List Str, PyData.eqvAll (ws.map PyData.str) [] = decide (ws = [])
  | [] => rfl
  | _ :: _ => rfl
theorem pures_s (ws : List Str) : pures (ws.map sD) = some (ws.map PyData.str) := by rw [← map_sD, pures_map]
theorem shaped_lw (a : List Str) (h : SOkL a) : SeqAt.shaped (.list (a.map PyData.str)) = true := by
  unfold SeqAt.shaped
  have h1 : PyData.canLay0 (.list (a.map PyData.str)) = true := by simpa [PyData.canLay0] using canAll_s a h
  have h2 := depthAll_s a
  have h3 : PyData.depth (.list (a.map PyData.str)) ≤ 64 := by simp [PyData.depth]; omega
  rw [h1, decide_eq_true h3]; rfl
theorem ne_nil {s : So} {c : Nat} {ws : List Str} (h : s[c]? = some (CS ws)) (hw : SOkL ws) : gNe (.ref c) (lw []) s = some (.p (.bool (!decide (ws = [])))) := by
  have d1 : datOf (.ref c) s = some (.list (ws.map PyData.str)) := by
    unfold datOf
    dsimp only
    rw [h]
    show (pures (ws.map sD)).map PyData.list = _
    rw [pures_s]; rfl
  have : eqD (.ref c) (lw []) s = some (decide (ws = [])) := by
    show (match datOf (.ref c) s, datOf (lw []) s with | some a, some b => if SeqAt.shaped a && SeqAt.shaped b then some (PyData.eqv a b) else none | _, _ => none) = _
    rw [d1]
    show (if SeqAt.shaped (.list (ws.map PyData.str)) && SeqAt.shaped (.list (([] : List Str).map PyData.str)) then some (PyData.eqv (.list (ws.map PyData.str)) (.list [])) else none) = _
    rw [shaped_lw ws hw, shaped_lw [] (fun _ h => by cases h)]
    show some (PyData.eqvAll (ws.map PyData.str) []) = _
    rw [eqvAll_nil]
  unfold gNe
  rw [this]; rfl
abbrev disp (fr : FA) : FA := fun ρ st => (fr ρ st).bind fun xs st1 => if small xs then .ok xs st1 else .stuck
theorem disp_ok {fr : FA} {ρ : Sl} {st st1 : So} {ws : List Str} (h : fr ρ st = .ok (ws.map sD) st1) (hl : ws.length ≤ 100000) : fPure (disp fr) ρ st = .ok (lw ws) st1 := by
  have e : disp fr ρ st = .ok (ws.map fun w => Dv.p (.str w)) st1 := by
    show (fr ρ st).bind _ = _
    rw [h, bind_ok, small_map, decide_eq_true hl, if_pos rfl]
  exact pure_ok e hl
theorem disp_nil {ρ : Sl} {st : So} : fPure (disp fNil) ρ st = .ok (lw []) st := disp_ok (ws := []) rfl (by decide)
end FB.K64
set_option Elab.async false
set_option linter.all false
set_option maxRecDepth 100000
set_option maxHeartbeats 4000000
/-! TH0: what programs do to one word: the last operation that acts on it. -/
namespace FB.Th
inductive Vb where | front | back | drop | addfront | addback | lift | sink
  deriving DecidableEq, Inhabited
inductive Pl where | mid | fr | bk | out
  deriving DecidableEq, Inhabited
/-- does an operation act, by whether the word is out -/
def acts : Vb → Bool → Bool
  | .front, _ => true
  | .back, _ => true
  | .drop, b => !b
  | .lift, b => !b
  | .sink, b => !b
  | .addfront, b => b
  | .addback, b => b
def goes : Vb → Pl
  | .front => .fr
  | .addfront => .fr
  | .lift => .fr
  | .drop => .out
  | .back => .bk
  | .addback => .bk
  | .sink => .bk
def isOut : Pl → Bool
  | .out => true
  | _ => false
section
variable {α : Type} [DecidableEq α]
def up (q : Option (Pl × Nat)) : Option (Pl × Nat) := q.map fun z => (z.1, z.2 + 1)
/-- the last operation that acts on w, and where it puts it; b: whether w is out before -/
def res (w : α) : List (Vb × α) → Bool → Option (Pl × Nat)
  | [], _ => none
  | o :: P, b => if o.2 = w ∧ acts o.1 b = true then (match res w P (isOut (goes o.1)) with
      | none => some (goes o.1, 0)
      | some z => some (z.1, z.2 + 1))
    else up (res w P b)
def oaft (q : Option (Pl × Nat)) (b : Bool) : Bool := match q with
  | none => b
  | some z => isOut z.1
/-- whether w is out behind P -/
def outA (w : α) (P : List (Vb × α)) (b : Bool) : Bool := oaft (res w P b) b
theorem oaft_up (q : Option (Pl × Nat)) (b : Bool) : oaft (up q) b = oaft q b := by cases q <;> rfl
theorem up_some {q : Option (Pl × Nat)} : (up q).isSome = q.isSome := by cases q <;> rfl
theorem res_act {w : α} {o : Vb × α} {P : List (Vb × α)} {b : Bool} (h : o.2 = w) (h2 : acts o.1 b = true) : res w (o :: P) b = match res w P (isOut (goes o.1)) with
      | none => some (goes o.1, 0)
      | some z => some (z.1, z.2 + 1) := by
  show (if o.2 = w ∧ acts o.1 b = true then _ else _) = _
  rw [if_pos ⟨h, h2⟩]
theorem res_no {w : α} {o : Vb × α} {P : List (Vb × α)} {b : Bool} (h : ¬ (o.2 = w ∧ acts o.1 b = true)) : res w (o :: P) b = up (res w P b) := by
  show (if o.2 = w ∧ acts o.1 b = true then _ else _) = _
  rw [if_neg h]
theorem outA_cons (w : α) (o : Vb × α) (P : List (Vb × α)) (b : Bool) : outA w (o :: P) b = outA w P (if o.2 = w ∧ acts o.1 b = true then isOut (goes o.1) else b) := by
  unfold outA
  by_cases h : o.2 = w ∧ acts o.1 b = true
  · rw [res_act h.1 h.2, if_pos h]
    cases res w P (isOut (goes o.1)) <;> rfl
  · rw [res_no h, if_neg h, oaft_up]
theorem res_append (w : α) : ∀ (A B : List (Vb × α)) (b : Bool), res w (A ++ B) b = match res w B (outA w A b) with
    | none => res w A b
    | some z => some (z.1, A.length + z.2)
  | [], B, b => by
    show res w B b = match res w B b with | none => none | some z => some (z.1, 0 + z.2)
    cases res w B b with
    | none => rfl
    | some z => simp
  | o :: A, B, b => by
    have ih := res_append w A B
    rw [List.cons_append, outA_cons]
    by_cases h : o.2 = w ∧ acts o.1 b = true
    · rw [res_act h.1 h.2, res_act h.1 h.2, if_pos h, ih]
      cases res w B (outA w A (isOut (goes o.1))) with
      | none => rfl
      | some z =>
        show some (z.1, A.length + z.2 + 1) = some (z.1, (o :: A).length + z.2)
        rw [List.length_cons]
        congr 2
        omega
    · rw [res_no h, res_no h, if_neg h, ih]
      cases res w B (outA w A b) with
      | none => rfl
      | some z =>
        show some (z.1, A.length + z.2 + 1) = some (z.1, (o :: A).length + z.2)
        rw [List.length_cons]
        congr 2
        omega
theorem outA_append (w : α) (A B : List (Vb × α)) (b : Bool) : outA w (A ++ B) b = outA w B (outA w A b) := by
  unfold outA
  rw [res_append]
  show oaft (match res w B (outA w A b) with | none => res w A b | some z => some (z.1, A.length + z.2)) b = oaft (res w B (oaft (res w A b) b)) (oaft (res w A b) b)
  show oaft (match res w B (outA w A b) with | none => res w A b | some z => some (z.1, A.length + z.2)) b = oaft (res w B (outA w A b)) (outA w A b)
  cases res w B (outA w A b) <;> rfl
theorem res_lt (w : α) : ∀ (P : List (Vb × α)) (b : Bool) (z : Pl × Nat), res w P b = some z → z.2 < P.length ∧ z.1 ≠ .mid ∧ ∃ v, P[z.2]? = some (v, w) ∧ goes v = z.1
  | [], _, _, h => by cases h
  | o :: P, b, z, h => by
    by_cases hc : o.2 = w ∧ acts o.1 b = true
    · rw [res_act hc.1 hc.2] at h
      cases e : res w P (isOut (goes o.1)) with
      | none =>
        rw [e] at h
        cases h
        refine ⟨by simp, ?_, o.1, ?_, rfl⟩
        · cases o.1 <;> simp [goes]
        · rw [← hc.1]; rfl
      | some y =>
        rw [e] at h
        cases h
        obtain ⟨h1, h2, v, h3, h4⟩ := res_lt w P _ y e
        exact ⟨Nat.succ_lt_succ h1, h2, v, h3, h4⟩
    · rw [res_no hc] at h
      cases e : res w P b with
      | none => rw [e] at h; cases h
      | some y =>
        rw [e] at h
        cases h
        obtain ⟨h1, h2, v, h3, h4⟩ := res_lt w P _ y e
        exact ⟨Nat.succ_lt_succ h1, h2, v, h3, h4⟩
/-- an operation that would act keeps the program from doing nothing -/
theorem res_some {w : α} : ∀ {P : List (Vb × α)} {v : Vb} {b : Bool}, (v, w) ∈ P → acts v b = true → (res w P b).isSome = true
  | o :: P, v, b, h, ha => by
    by_cases hc : o.2 = w ∧ acts o.1 b = true
    · rw [res_act hc.1 hc.2]
      cases res w P (isOut (goes o.1)) <;> rfl
    · rw [res_no hc, up_some]
      rcases List.mem_cons.mp h with e | h
      · subst e
        exact absurd ⟨rfl, ha⟩ hc
      · exact res_some h ha
theorem res_none_id {w : α} : ∀ {P : List (Vb × α)} {b : Bool}, (∀ o ∈ P, o.2 = w → acts o.1 b = false) → res w P b = none
  | [], _, _ => rfl
  | o :: P, b, h => by
    rw [res_no (fun z => by rw [h o List.mem_cons_self z.1] at z; cases z.2), res_none_id fun o' ho => h o' (List.mem_cons_of_mem _ ho)]
    rfl
/-- what acted at all -/
theorem res_isSome {w : α} {P : List (Vb × α)} {b : Bool} (h : (res w P b).isSome = true) : ∃ v, (v, w) ∈ P ∧ acts v b = true := by
  apply Classical.byContradiction
  intro hn
  have : res w P b = none := res_none_id fun o ho ho2 => by
    cases q : acts o.1 b with
    | false => rfl
    | true => exact absurd ⟨o.1, by rw [← ho2]; exact ho, q⟩ hn
  rw [this] at h
  cases h
/-- where the two ways of a word meet -/
theorem res_fb {w : α} : ∀ {P : List (Vb × α)}, ((Vb.front, w) ∈ P ∨ (Vb.back, w) ∈ P) → res w P true = res w P false
  | [], h => by rcases h with h | h <;> cases h
  | o :: P, h => by
    by_cases hw : o.2 = w
    · by_cases hf : o.1 = .front ∨ o.1 = .back
      · have a1 : ∀ b, acts o.1 b = true := fun b => by rcases hf with e | e <;> rw [e] <;> rfl
        rw [res_act hw (a1 true), res_act hw (a1 false)]
      · have h' : (Vb.front, w) ∈ P ∨ (Vb.back, w) ∈ P := by
          rcases h with h | h
          · rcases List.mem_cons.mp h with e | h
            · exact absurd (.inl (by rw [← e])) hf
            · exact .inl h
          · rcases List.mem_cons.mp h with e | h
            · exact absurd (.inr (by rw [← e])) hf
            · exact .inr h
        have ih := res_fb h'
        have hs : ∀ b, (res w P b).isSome = true := fun b => by
          rcases h' with h' | h'
          · exact res_some h' rfl
          · exact res_some h' rfl
        obtain ⟨z, hz⟩ := Option.isSome_iff_exists.mp (hs false)
        have hz2 : ∀ b, res w P b = some z := fun b => by cases b; exact hz; rw [ih]; exact hz
        have key : ∀ b, res w (o :: P) b = some (z.1, z.2 + 1) := fun b => by
          by_cases hc : acts o.1 b = true
          · rw [res_act hw hc, hz2]
          · rw [res_no (fun q => hc q.2), hz2]; rfl
        rw [key, key]
    · have h' : (Vb.front, w) ∈ P ∨ (Vb.back, w) ∈ P := by
        rcases h with h | h
        · rcases List.mem_cons.mp h with e | h
          · exact absurd (by rw [← e]) hw
          · exact .inl h
        · rcases List.mem_cons.mp h with e | h
          · exact absurd (by rw [← e]) hw
          · exact .inr h
      rw [res_no (fun q => hw q.1), res_no (fun q => hw q.1), res_fb h']
theorem res_drop {w : α} : ∀ {P : List (Vb × α)}, (Vb.drop, w) ∈ P → res w P true = res w P false ∨ (outA w P true = true ∧ outA w P false = true)
  | o :: P, h => by
    by_cases hw : o.2 = w
    · obtain ⟨v, x⟩ := o
      have hw' : x = w := hw
      subst hw'
      have mem : v ≠ .drop → (Vb.drop, x) ∈ P := fun hv => (List.mem_cons.mp h).resolve_left fun e => hv (by cases e; rfl)
      have some_in : (Vb.drop, x) ∈ P → (res x P false).isSome = true := fun h => res_some h rfl
      cases v with
      | front => exact .inl (res_fb (.inl List.mem_cons_self))
      | back => exact .inl (res_fb (.inr List.mem_cons_self))
      | drop =>
        have e1 : res x ((Vb.drop, x) :: P) true = up (res x P true) := res_no (fun q => by cases q.2)
        have e2 := res_act (w := x) (o := (Vb.drop, x)) (P := P) (b := false) rfl rfl
        cases q : res x P true with
        | none =>
          refine .inr ⟨?_, ?_⟩
          · unfold outA; rw [e1, q]; rfl
          · have e2' : res x ((Vb.drop, x) :: P) false = some (.out, 0) := by rw [e2, show isOut (goes Vb.drop) = true from rfl, q]; rfl
            unfold outA; rw [e2']; rfl
        | some z => exact .inl (by rw [e1, e2, show isOut (goes Vb.drop) = true from rfl, q]; rfl)
      | addfront =>
        obtain ⟨z, hz⟩ := Option.isSome_iff_exists.mp (some_in (mem (by decide)))
        have e1 := res_act (w := x) (o := (Vb.addfront, x)) (P := P) (b := true) rfl rfl
        have e2 : res x ((Vb.addfront, x) :: P) false = up (res x P false) := res_no (fun q => by cases q.2)
        exact .inl (by rw [e1, e2, show isOut (goes Vb.addfront) = false from rfl, hz]; rfl)
      | addback =>
        obtain ⟨z, hz⟩ := Option.isSome_iff_exists.mp (some_in (mem (by decide)))
        have e1 := res_act (w := x) (o := (Vb.addback, x)) (P := P) (b := true) rfl rfl
        have e2 : res x ((Vb.addback, x) :: P) false = up (res x P false) := res_no (fun q => by cases q.2)
        exact .inl (by rw [e1, e2, show isOut (goes Vb.addback) = false from rfl, hz]; rfl)
      | lift =>
        have hm := mem (by decide)
        obtain ⟨z, hz⟩ := Option.isSome_iff_exists.mp (some_in hm)
        have e1 : res x ((Vb.lift, x) :: P) true = up (res x P true) := res_no (fun q => by cases q.2)
        have e2 := res_act (w := x) (o := (Vb.lift, x)) (P := P) (b := false) rfl rfl
        rcases res_drop hm with q | ⟨q1, q2⟩
        · exact .inl (by rw [e1, e2, show isOut (goes Vb.lift) = false from rfl, q, hz]; rfl)
        · refine .inr ⟨?_, ?_⟩
          · rw [outA_cons, if_neg (fun q => by cases q.2)]; exact q1
          · rw [outA_cons, if_pos ⟨rfl, rfl⟩]; exact q2
      | sink =>
        have hm := mem (by decide)
        obtain ⟨z, hz⟩ := Option.isSome_iff_exists.mp (some_in hm)
        have e1 : res x ((Vb.sink, x) :: P) true = up (res x P true) := res_no (fun q => by cases q.2)
        have e2 := res_act (w := x) (o := (Vb.sink, x)) (P := P) (b := false) rfl rfl
        rcases res_drop hm with q | ⟨q1, q2⟩
        · exact .inl (by rw [e1, e2, show isOut (goes Vb.sink) = false from rfl, q, hz]; rfl)
        · refine .inr ⟨?_, ?_⟩
          · rw [outA_cons, if_neg (fun q => by cases q.2)]; exact q1
          · rw [outA_cons, if_pos ⟨rfl, rfl⟩]; exact q2
    · have hm : (Vb.drop, w) ∈ P := (List.mem_cons.mp h).resolve_left fun e => hw (by rw [← e])
      rw [res_no (fun q => hw q.1), res_no (fun q => hw q.1), outA_cons, outA_cons, if_neg (fun q => hw q.1), if_neg (fun q => hw q.1)]
      rcases res_drop hm with q | q
      · exact .inl (by rw [q])
      · exact .inr q
theorem res_add {w : α} : ∀ {P : List (Vb × α)}, ((Vb.addfront, w) ∈ P ∨ (Vb.addback, w) ∈ P) → res w P true = res w P false ∨ (outA w P true = false ∧ outA w P false = false)
  | [], h => by rcases h with h | h <;> cases h
  | o :: P, h => by
    by_cases hw : o.2 = w
    · obtain ⟨v, x⟩ := o
      have hw' : x = w := hw
      subst hw'
      have mem : v ≠ .addfront → v ≠ .addback → (Vb.addfront, x) ∈ P ∨ (Vb.addback, x) ∈ P := fun h1 h2 => by
        rcases h with h | h
        · rcases List.mem_cons.mp h with e | h
          · cases e; exact absurd rfl h1
          · exact .inl h
        · rcases List.mem_cons.mp h with e | h
          · cases e; exact absurd rfl h2
          · exact .inr h
      have some_out : ((Vb.addfront, x) ∈ P ∨ (Vb.addback, x) ∈ P) → (res x P true).isSome = true := fun h => h.elim (fun h => res_some h rfl) fun h => res_some h rfl
      have add : ∀ v, acts v true = true → acts v false = false → isOut (goes v) = false → res x ((v, x) :: P) true = res x ((v, x) :: P) false ∨ (outA x ((v, x) :: P) true = false ∧ outA x ((v, x) :: P) false = false) := fun v h1 h2 h3 => by
        have e1 := res_act (w := x) (o := (v, x)) (P := P) (b := true) rfl h1
        have e2 : res x ((v, x) :: P) false = up (res x P false) := res_no (fun q => by rw [h2] at q; cases q.2)
        have e3 : res x P (isOut (goes (v, x).1)) = res x P false := by rw [show isOut (goes (v, x).1) = false from h3]
        rw [e3] at e1
        cases q : res x P false with
        | none =>
          rw [q] at e1 e2
          refine .inr ⟨?_, ?_⟩
          · unfold outA; rw [e1]; exact h3
          · unfold outA; rw [e2]; rfl
        | some z =>
          rw [q] at e1 e2
          exact .inl (by rw [e1, e2]; rfl)
      have mov : ∀ v, acts v true = false → acts v false = true → isOut (goes v) = false → ((Vb.addfront, x) ∈ P ∨ (Vb.addback, x) ∈ P) → (res x P true = res x P false ∨ (outA x P true = false ∧ outA x P false = false)) → res x ((v, x) :: P) true = res x ((v, x) :: P) false ∨ (outA x ((v, x) :: P) true = false ∧ outA x ((v, x) :: P) false = false) := fun v h1 h2 h3 hm ih => by
        obtain ⟨z, hz⟩ := Option.isSome_iff_exists.mp (some_out hm)
        have e1 : res x ((v, x) :: P) true = up (res x P true) := res_no (fun q => by rw [h1] at q; cases q.2)
        have e2 := res_act (w := x) (o := (v, x)) (P := P) (b := false) rfl h2
        have e3 : res x P (isOut (goes (v, x).1)) = res x P false := by rw [show isOut (goes (v, x).1) = false from h3]
        rw [e3] at e2
        rcases ih with q | ⟨q1, q2⟩
        · exact .inl (by rw [e1, e2, ← q, hz]; rfl)
        · refine .inr ⟨?_, ?_⟩
          · rw [outA_cons, if_neg (fun q => by rw [h1] at q; cases q.2)]; exact q1
          · rw [outA_cons, if_pos ⟨rfl, h2⟩, show isOut (goes (v, x).1) = false from h3]; exact q2
      cases v with
      | front => exact .inl (res_fb (.inl List.mem_cons_self))
      | back => exact .inl (res_fb (.inr List.mem_cons_self))
      | addfront => exact add _ rfl rfl rfl
      | addback => exact add _ rfl rfl rfl
      | lift => exact mov _ rfl rfl rfl (mem (by decide) (by decide)) (res_add (mem (by decide) (by decide)))
      | sink => exact mov _ rfl rfl rfl (mem (by decide) (by decide)) (res_add (mem (by decide) (by decide)))
      | drop =>
        have hm := mem (by decide) (by decide)
        obtain ⟨z, hz⟩ := Option.isSome_iff_exists.mp (some_out hm)
        have e1 : res x ((Vb.drop, x) :: P) true = up (res x P true) := res_no (fun q => by cases q.2)
        have e2 := res_act (w := x) (o := (Vb.drop, x)) (P := P) (b := false) rfl rfl
        exact .inl (by rw [e1, e2, show isOut (goes Vb.drop) = true from rfl, hz]; rfl)
    · have hm : (Vb.addfront, w) ∈ P ∨ (Vb.addback, w) ∈ P := by
        rcases h with h | h
        · exact .inl ((List.mem_cons.mp h).resolve_left fun e => hw (by rw [← e]))
        · exact .inr ((List.mem_cons.mp h).resolve_left fun e => hw (by rw [← e]))
      rw [res_no (fun q => hw q.1), res_no (fun q => hw q.1), outA_cons, outA_cons, if_neg (fun q => hw q.1), if_neg (fun q => hw q.1)]
      rcases res_add hm with q | q
      · exact .inl (by rw [q])
      · exact .inr q
/-! ### a program, some of its own operations, the program again -/
def mid (n m i : Nat) : Nat := if i < n then i else i + m
theorem own_res (P X : List (Vb × α)) (hX : ∀ o ∈ X, o ∈ P) (w : α) (b : Bool) : res w (P ++ (X ++ P)) b = (res w (P ++ P) b).map fun z => (z.1, mid P.length X.length z.2) := by
  have lo : ∀ {b z}, res w P b = some z → mid P.length X.length z.2 = z.2 := fun {b z} h => if_pos (res_lt w P b z h).1
  have hi : ∀ i, mid P.length X.length (P.length + i) = P.length + X.length + i := fun i => by
    show (if P.length + i < P.length then P.length + i else P.length + i + X.length) = _
    rw [if_neg (by omega)]
    omega
  -- the result, by what X does
  rw [res_append w P (X ++ P), res_append w P P]
  generalize hb1 : outA w P b = b1
  rw [res_append w X P]
  cases hx : res w X b1 with
  | none =>
    have hb2 : outA w X b1 = b1 := by unfold outA; rw [hx]; rfl
    rw [hb2]
    cases hp : res w P b1 with
    | none =>
      show res w P b = (res w P b).map _
      cases hr : res w P b with
      | none => rfl
      | some z =>
        show some z = some (z.1, mid P.length X.length z.2)
        rw [lo hr]
    | some z =>
      show some (z.1, P.length + (X.length + z.2)) = some (z.1, mid P.length X.length (P.length + z.2))
      rw [hi, Nat.add_assoc]
  | some y =>
    have hxs : (res w X b1).isSome = true := by rw [hx]; rfl
    obtain ⟨v, hv, ha⟩ := res_isSome hxs
    have hs1 : (res w P b1).isSome = true := res_some (hX _ hv) ha
    have eq12 : res w P (outA w X b1) = res w P b1 := by
      generalize hb2 : outA w X b1 = b2
      cases b1 with
      | false =>
        cases b2 with
        | false => rfl
        | true =>
          -- X dropped w
          have hy : isOut y.1 = true := by
            have : outA w X false = isOut y.1 := by unfold outA; rw [hx]; rfl
            rw [← this, hb2]
          obtain ⟨_, _, u, hu, hg⟩ := res_lt w X false y hx
          have hud : u = .drop := by
            have : isOut (goes u) = true := by rw [hg]; exact hy
            cases u <;> first | rfl | cases this
          have hm : (Vb.drop, w) ∈ P := hX _ (by rw [← hud]; exact List.mem_of_getElem? hu)
          rcases res_drop hm with q | ⟨q1, q2⟩
          · exact q
          · cases b
            · rw [q2] at hb1; cases hb1
            · rw [q1] at hb1; cases hb1
      | true =>
        cases b2 with
        | true => rfl
        | false =>
          have hy : isOut y.1 = false := by
            have : outA w X true = isOut y.1 := by unfold outA; rw [hx]; rfl
            rw [← this, hb2]
          -- the first operation of X that acts brings w in
          have hv' : v = .front ∨ v = .back ∨ v = .addfront ∨ v = .addback := by
            cases v <;> first | (cases ha; done) | simp
          have hPv := hX _ hv
          rcases hv' with rfl | rfl | rfl | rfl
          · exact (res_fb (.inl hPv)).symm
          · exact (res_fb (.inr hPv)).symm
          · rcases res_add (.inl hPv) with q | ⟨q1, q2⟩
            · exact q.symm
            · cases b
              · rw [q2] at hb1; cases hb1
              · rw [q1] at hb1; cases hb1
          · rcases res_add (.inr hPv) with q | ⟨q1, q2⟩
            · exact q.symm
            · cases b
              · rw [q2] at hb1; cases hb1
              · rw [q1] at hb1; cases hb1
    rw [eq12]
    obtain ⟨z, hz⟩ := Option.isSome_iff_exists.mp hs1
    rw [hz]
    show some (z.1, P.length + (X.length + z.2)) = some (z.1, mid P.length X.length (P.length + z.2))
    rw [hi, Nat.add_assoc]
end
end FB.Th
set_option Elab.async false
set_option linter.all false
set_option maxRecDepth 100000
set_option maxHeartbeats 4000000
/-! TH1: what programs make of rows, and the entries of a meaning, by the last operations that act. -/
namespace FB.Th
section
variable {α : Type} [DecidableEq α]
theorem outA_nil (w : α) (b : Bool) : outA w ([] : List (Vb × α)) b = b := rfl
theorem outA_some {w : α} {P : List (Vb × α)} {b : Bool} {z : Pl × Nat} (h : res w P b = some z) : outA w P b = isOut z.1 := by unfold outA; rw [h]; rfl
theorem outA_none {w : α} {P : List (Vb × α)} {b : Bool} (h : res w P b = none) : outA w P b = b := by unfold outA; rw [h]; rfl
/-! ### rows -/
def exeR (o : Vb × α) (r : List α) : List α := if acts o.1 (decide (o.2 ∉ r)) = true then (match goes o.1 with
    | .fr => o.2 :: r.filter (fun x => decide (x ≠ o.2))
    | .bk => r.filter (fun x => decide (x ≠ o.2)) ++ [o.2]
    | _ => r.filter (fun x => decide (x ≠ o.2))) else r
def runL (P : List (Vb × α)) (r : List α) : List α := P.foldl (fun r o => exeR o r) r
theorem runL_append (P Q : List (Vb × α)) (r : List α) : runL (P ++ Q) r = runL Q (runL P r) := List.foldl_append
theorem runL_cons (o : Vb × α) (Q : List (Vb × α)) (r : List α) : runL (o :: Q) r = runL Q (exeR o r) := rfl
/-- where a word stands -/
def ky (r : List α) (w : α) : Option (Pl × Nat) → Int
  | none => (r.idxOf w : Int)
  | some (.fr, t) => -((t : Int) + 1)
  | some (_, t) => (r.length : Int) + t
def kk (r : List α) (P : List (Vb × α)) (w : α) : Int := ky r w (res w P (decide (w ∉ r)))
structure Inv (r : List α) (P : List (Vb × α)) (q : List α) : Prop where
  srt : q.Pairwise fun x y => kk r P x < kk r P y
  mem : ∀ w, w ∈ q ↔ outA w P (decide (w ∉ r)) = false
theorem idx_ne {a x : α} {r : List α} (h : a ≠ x) : (a :: r).idxOf x = r.idxOf x + 1 := by
  rw [List.idxOf_cons, beq_false_of_ne h]; rfl
theorem idx_pair : ∀ {r : List α}, r.Nodup → r.Pairwise fun x y => r.idxOf x < r.idxOf y
  | [], _ => List.Pairwise.nil
  | a :: r, h => by
    obtain ⟨h1, h2⟩ := List.nodup_cons.mp h
    refine List.pairwise_cons.mpr ⟨fun y hy => ?_, ?_⟩
    · have : a ≠ y := fun e => h1 (e ▸ hy)
      rw [List.idxOf_cons_self, idx_ne this]
      exact Nat.succ_pos _
    · refine (idx_pair h2).imp_of_mem fun {x y} hx hy q => ?_
      have e1 : a ≠ x := fun e => h1 (e ▸ hx)
      have e2 : a ≠ y := fun e => h1 (e ▸ hy)
      rw [idx_ne e1, idx_ne e2]
      exact Nat.succ_lt_succ q
theorem inv_nil {r : List α} (h : r.Nodup) : Inv r [] r := by
  refine ⟨(idx_pair h).imp fun {x y} q => ?_, fun w => ?_⟩
  · show (r.idxOf x : Int) < (r.idxOf y : Int)
    omega
  · rw [outA_nil, decide_eq_false_iff_not, Classical.not_not]
theorem res_snoc_ne {w : α} {P : List (Vb × α)} {o : Vb × α} {b : Bool} (h : o.2 ≠ w) : res w (P ++ [o]) b = res w P b := by
  rw [res_append, show res w [o] (outA w P b) = none from res_no (P := []) fun q => h q.1]
theorem res_snoc_no {w : α} {P : List (Vb × α)} {o : Vb × α} {b : Bool} (h : acts o.1 (outA w P b) = false) : res w (P ++ [o]) b = res w P b := by
  rw [res_append, show res w [o] (outA w P b) = none from res_no (P := []) fun q => by rw [h] at q; cases q.2]
theorem res_snoc_act {w : α} {P : List (Vb × α)} {o : Vb × α} {b : Bool} (h0 : o.2 = w) (h : acts o.1 (outA w P b) = true) : res w (P ++ [o]) b = some (goes o.1, P.length) := by
  rw [res_append, show res w [o] (outA w P b) = some (goes o.1, 0) from res_act (P := []) h0 h]
  rfl
theorem kk_lo {r : List α} {P : List (Vb × α)} {q : List α} (h : Inv r P q) {w : α} (hw : w ∈ q) : -(P.length : Int) ≤ kk r P w := by
  unfold kk
  cases e : res w P (decide (w ∉ r)) with
  | none => show -(P.length : Int) ≤ (r.idxOf w : Int); omega
  | some z =>
    obtain ⟨p, t⟩ := z
    have := (res_lt w P _ _ e).1
    cases p <;> simp only [ky] <;> omega
theorem kk_hi {r : List α} {P : List (Vb × α)} {q : List α} (h : Inv r P q) {w : α} (hw : w ∈ q) : kk r P w < (r.length : Int) + P.length := by
  unfold kk
  cases e : res w P (decide (w ∉ r)) with
  | none =>
    have h1 := (h.mem w).mp hw
    rw [outA_none e, decide_eq_false_iff_not, Classical.not_not] at h1
    have := List.idxOf_lt_length_iff.mpr h1
    show (r.idxOf w : Int) < _
    omega
  | some z =>
    obtain ⟨p, t⟩ := z
    have := (res_lt w P _ _ e).1
    cases p <;> simp only [ky] <;> omega
theorem mem_rest {q : List α} {w x : α} : x ∈ q.filter (fun y => decide (y ≠ w)) ↔ x ∈ q ∧ x ≠ w := by
  rw [List.mem_filter, decide_eq_true_eq]
theorem inv_step {r : List α} {P : List (Vb × α)} {q : List α} (h : Inv r P q) (o : Vb × α) : Inv r (P ++ [o]) (exeR o q) := by
  have hb : outA o.2 P (decide (o.2 ∉ r)) = decide (o.2 ∉ q) := by
    have := h.mem o.2
    cases e : outA o.2 P (decide (o.2 ∉ r)) with
    | false => exact (decide_eq_false (show ¬ (o.2 ∉ q) from fun z => z (this.mpr e))).symm
    | true => exact (decide_eq_true (show o.2 ∉ q from fun z => by rw [this.mp z] at e; cases e)).symm
  by_cases ha : acts o.1 (decide (o.2 ∉ q)) = true
  · -- it acts
    have hr : res o.2 (P ++ [o]) (decide (o.2 ∉ r)) = some (goes o.1, P.length) := res_snoc_act rfl (by rw [hb]; exact ha)
    have hk : ∀ w, w ≠ o.2 → kk r (P ++ [o]) w = kk r P w := fun w hw => by unfold kk; rw [res_snoc_ne (fun e => hw e.symm)]
    have ho : ∀ w, w ≠ o.2 → outA w (P ++ [o]) (decide (w ∉ r)) = outA w P (decide (w ∉ r)) := fun w hw => by unfold outA; rw [res_snoc_ne (fun e => hw e.symm)]
    have ho2 : outA o.2 (P ++ [o]) (decide (o.2 ∉ r)) = isOut (goes o.1) := outA_some hr
    have srt : (q.filter fun x => decide (x ≠ o.2)).Pairwise fun x y => kk r (P ++ [o]) x < kk r (P ++ [o]) y :=
      (h.srt.filter _).imp_of_mem fun {x y} hx hy z => by rw [hk x (mem_rest.mp hx).2, hk y (mem_rest.mp hy).2]; exact z
    unfold exeR
    rw [if_pos ha]
    cases g : goes o.1 with
    | mid => exact absurd g (by cases o.1 <;> simp [goes])
    | fr =>
      refine ⟨List.pairwise_cons.mpr ⟨fun y hy => ?_, srt⟩, fun w => ?_⟩
      · have hy := mem_rest.mp hy
        rw [hk y hy.2]
        have := kk_lo h hy.1
        have e : kk r (P ++ [o]) o.2 = -((P.length : Int) + 1) := by unfold kk; rw [hr, g]; rfl
        omega
      · rw [List.mem_cons, mem_rest]
        by_cases e : w = o.2
        · subst e
          rw [ho2, g]
          exact ⟨fun _ => rfl, fun _ => .inl rfl⟩
        · rw [ho w e, h.mem w]
          exact ⟨fun z => z.elim (fun z => absurd z e) (·.1), fun z => .inr ⟨z, e⟩⟩
    | bk =>
      refine ⟨List.pairwise_append.mpr ⟨srt, List.pairwise_singleton _ _, fun x hx y hy => ?_⟩, fun w => ?_⟩
      · rw [List.mem_singleton.mp hy]
        have hx := mem_rest.mp hx
        rw [hk x hx.2]
        have := kk_hi h hx.1
        have e : kk r (P ++ [o]) o.2 = (r.length : Int) + P.length := by unfold kk; rw [hr, g]; rfl
        omega
      · rw [List.mem_append, List.mem_singleton, mem_rest]
        by_cases e : w = o.2
        · subst e
          rw [ho2, g]
          exact ⟨fun _ => rfl, fun _ => .inr rfl⟩
        · rw [ho w e, h.mem w]
          exact ⟨fun z => z.elim (·.1) (fun z => absurd z e), fun z => .inl ⟨z, e⟩⟩
    | out =>
      refine ⟨srt, fun w => ?_⟩
      rw [mem_rest]
      by_cases e : w = o.2
      · subst e
        rw [ho2, g]
        exact ⟨fun z => absurd rfl z.2, fun z => by cases z⟩
      · rw [ho w e, h.mem w]
        exact ⟨(·.1), fun z => ⟨z, e⟩⟩
  · -- it does not act
    have ha' : acts o.1 (decide (o.2 ∉ q)) = false := by simpa using ha
    have hk : ∀ w b, b = decide (w ∉ r) → res w (P ++ [o]) b = res w P b := fun w b hb' => by
      subst hb'
      by_cases e : o.2 = w
      · subst e
        exact res_snoc_no (by rw [hb]; exact ha')
      · exact res_snoc_ne e
    have e : exeR o q = q := if_neg ha
    rw [e]
    refine ⟨h.srt.imp fun {x y} z => ?_, fun w => ?_⟩
    · unfold kk
      rw [hk x _ rfl, hk y _ rfl]
      exact z
    · unfold outA
      rw [hk w _ rfl]
      exact h.mem w
theorem inv_run {r : List α} : ∀ {Q P : List (Vb × α)} {q : List α}, Inv r P q → Inv r (P ++ Q) (runL Q q)
  | [], P, q, h => by rw [List.append_nil]; exact h
  | o :: Q, P, q, h => by
    have := inv_run (Q := Q) (inv_step h o)
    rw [List.append_assoc] at this
    exact this
theorem run_inv {r : List α} (h : r.Nodup) (P : List (Vb × α)) : Inv r P (runL P r) := inv_run (P := []) (Q := P) (inv_nil h)
theorem Inv.nd {r : List α} {P : List (Vb × α)} {q : List α} (h : Inv r P q) : q.Nodup := h.srt.imp fun {x y} z e => by rw [e] at z; exact absurd z (Int.lt_irrefl _)
/-- programs whose words end alike, at times in the same order, make the same rows -/
theorem run_eq {r : List α} (hr : r.Nodup) {P Q : List (Vb × α)} {φ : Nat → Nat} (hφ : ∀ i j, i < j → φ i < φ j) (h : ∀ w b, res w Q b = (res w P b).map fun z => (z.1, φ z.2)) : runL Q r = runL P r := by
  have iP := run_inv hr P
  have iQ := run_inv hr Q
  have ho : ∀ w b, outA w Q b = outA w P b := fun w b => by
    unfold outA
    rw [h w b]
    cases res w P b <;> rfl
  have hm : ∀ w, w ∈ runL Q r ↔ w ∈ runL P r := fun w => by rw [iQ.mem, iP.mem, ho]
  have hp : (runL Q r).Perm (runL P r) := (List.perm_ext_iff_of_nodup iQ.nd iP.nd).mpr hm
  have hk : ∀ x y, x ∈ runL P r → y ∈ runL P r → kk r P x < kk r P y → kk r Q x < kk r Q y := fun x y hx hy z => by
    have key : ∀ w, w ∈ runL P r → (∃ t, res w P (decide (w ∉ r)) = some (.fr, t)) ∨ (∃ t, res w P (decide (w ∉ r)) = some (.bk, t)) ∨ (res w P (decide (w ∉ r)) = none ∧ r.idxOf w < r.length) := fun w hw => by
      have m := (iP.mem w).mp hw
      cases e : res w P (decide (w ∉ r)) with
      | none =>
        rw [outA_none e, decide_eq_false_iff_not, Classical.not_not] at m
        exact .inr (.inr ⟨rfl, List.idxOf_lt_length_iff.mpr m⟩)
      | some z =>
        obtain ⟨p, t⟩ := z
        rw [outA_some e] at m
        cases p with
        | fr => exact .inl ⟨t, rfl⟩
        | bk => exact .inr (.inl ⟨t, rfl⟩)
        | out => cases m
        | mid => exact absurd rfl (res_lt w P _ _ e).2.1
    unfold kk at z ⊢
    rw [h x, h y]
    rcases key x hx with ⟨t, e1⟩ | ⟨t, e1⟩ | ⟨e1, i1⟩ <;> rcases key y hy with ⟨u, e2⟩ | ⟨u, e2⟩ | ⟨e2, i2⟩ <;> rw [e1, e2] at z ⊢ <;> simp only [ky, Option.map_some, Option.map_none] at z ⊢ <;>
      first | omega | (have := hφ t u (by omega); omega) | (have := hφ u t (by omega); omega)
  refine hp.eq_of_pairwise (le := fun x y => kk r Q x < kk r Q y) (fun a b _ _ h1 h2 => by omega) iQ.srt ?_
  exact iP.srt.imp_of_mem fun {x y} hx hy z => hk x y hx hy z
/-- the words of a program's row -/
theorem run_sub {r : List α} (hr : r.Nodup) (P : List (Vb × α)) : ∀ w ∈ runL P r, w ∈ r ∨ ∃ o ∈ P, o.2 = w := fun w hw => by
  have m := ((run_inv hr P).mem w).mp hw
  by_cases h : w ∈ r
  · exact .inl h
  · right
    rw [decide_eq_true h] at m
    cases e : res w P true with
    | none => rw [outA_none e] at m; cases m
    | some z =>
      obtain ⟨v, hv, _⟩ := res_isSome (w := w) (P := P) (b := true) (by rw [e]; rfl)
      exact ⟨_, hv, rfl⟩
theorem mid_lt {n m : Nat} (i j : Nat) (h : i < j) : mid n m i < mid n m j := by
  unfold mid
  split <;> split <;> omega
/-- runs: a program, some of its own operations, the program again -/
theorem own_run (P X : List (Vb × α)) (hX : ∀ o ∈ X, o ∈ P) {r : List α} (hr : r.Nodup) : runL P (runL X (runL P r)) = runL P (runL P r) := by
  have := run_eq hr (fun i j h => mid_lt (n := P.length) (m := X.length) i j h) (fun w b => own_res P X hX w b)
  rw [runL_append, runL_append, runL_append] at this
  exact this
end
/-! ### sorted by times -/
section
variable {α β : Type}
theorem insP_map (h : α × Int → β × Int) (hh : ∀ p q : α × Int, p.2 ≤ q.2 ↔ (h p).2 ≤ (h q).2) (p : α × Int) : ∀ l : List (α × Int), insP (h p) (l.map h) = (insP p l).map h
  | [] => rfl
  | q :: l => by
    show (if (h p).2 ≤ (h q).2 then _ else _) = List.map h (if p.2 ≤ q.2 then _ else _)
    by_cases c : p.2 ≤ q.2
    · rw [if_pos c, if_pos ((hh p q).mp c)]; rfl
    · rw [if_neg c, if_neg (fun z => c ((hh p q).mpr z)), insP_map h hh p l]; rfl
theorem srtP_map (h : α × Int → β × Int) (hh : ∀ p q : α × Int, p.2 ≤ q.2 ↔ (h p).2 ≤ (h q).2) : ∀ l : List (α × Int), srtP (l.map h) = (srtP l).map h
  | [] => rfl
  | p :: l => by
    show insP (h p) (srtP (l.map h)) = (insP p (srtP l)).map h
    rw [srtP_map h hh l, insP_map h hh]
theorem srtP_eq {l m : List (α × Int)} (p : l.Perm m) (h : ∀ x ∈ l, ∀ y ∈ l, x.2 = y.2 → x = y) : srtP l = srtP m := by
  refine (((srtP_perm l).trans p).trans (srtP_perm m).symm).eq_of_pairwise (le := fun a b => a.2 ≤ b.2) (fun a b ha hb h1 h2 => ?_) (srtP_srt l) (srtP_srt m)
  have ha' := (srtP_perm l).mem_iff.mp ha
  have hb' := p.mem_iff.mpr ((srtP_perm m).mem_iff.mp hb)
  exact h a ha' b hb' (Int.le_antisymm h1 h2)
theorem srtS_eq {l m : List PySem.Str} (p : l.Perm m) : srtS l = srtS m :=
  (((srtS_perm l).trans p).trans (srtS_perm m).symm).eq_of_pairwise (le := fun a b => strLe a b = true) (fun _ _ _ _ h1 h2 => strLe_anti h1 h2) (srtS_srt l) (srtS_srt m)
end
/-! ### the entries -/
inductive Cs where | always | present | absent
  deriving DecidableEq, Inhabited
section
variable {α : Type} [DecidableEq α]
def at_ (pl : Pl) : Option (Pl × Nat) → Option Nat
  | some z => if z.1 = pl then some z.2 else none
  | none => none
def ent1 (w : α) : Option Nat → Option Nat → List ((α × Cs) × Int)
  | some s, some t => if s = t then [((w, .always), (s : Int))] else [((w, .present), (s : Int)), ((w, .absent), (t : Int))]
  | some s, none => [((w, .present), (s : Int))]
  | none, some t => [((w, .absent), (t : Int))]
  | none, none => []
def ents (ws : List α) (P : List (Vb × α)) (pl : Pl) : List ((α × Cs) × Int) := ws.flatMap fun w => ent1 w (at_ pl (res w P false)) (at_ pl (res w P true))
theorem ent1_map (φ : Nat → Nat) (φi : Int → Int) (h : ∀ n : Nat, φi n = (φ n : Nat)) (hj : ∀ i j, φ i = φ j → i = j) (w : α) (x y : Option Nat) : ent1 w (x.map φ) (y.map φ) = (ent1 w x y).map fun p => (p.1, φi p.2) := by
  cases x with
  | none => cases y <;> simp [ent1, h]
  | some s =>
    cases y with
    | none => simp [ent1, h]
    | some t =>
      by_cases e : s = t
      · subst e; simp [ent1, h]
      · have : ¬ φ s = φ t := fun z => e (hj _ _ z)
        simp [ent1, h, e, this]
theorem ent1_mem {w : α} {x y : Option Nat} {p : (α × Cs) × Int} (h : p ∈ ent1 w x y) : p.1.1 = w ∧ ∃ t : Nat, p.2 = t ∧ (x = some t ∨ y = some t) := by
  cases x with
  | none =>
    cases y with
    | none => cases h
    | some t => rw [List.mem_singleton.mp h]; exact ⟨rfl, t, rfl, .inr rfl⟩
  | some s =>
    cases y with
    | none => rw [List.mem_singleton.mp h]; exact ⟨rfl, s, rfl, .inl rfl⟩
    | some t =>
      have h' : p ∈ (if s = t then [((w, Cs.always), (s : Int))] else [((w, Cs.present), (s : Int)), ((w, Cs.absent), (t : Int))]) := h
      replace h := h'
      split at h
      · rw [List.mem_singleton.mp h]; exact ⟨rfl, s, rfl, .inl rfl⟩
      · rcases List.mem_cons.mp h with h | h
        · rw [h]; exact ⟨rfl, s, rfl, .inl rfl⟩
        · rw [List.mem_singleton.mp h]; exact ⟨rfl, t, rfl, .inr rfl⟩
theorem ent1_uniq {w : α} {x y : Option Nat} {p q : (α × Cs) × Int} (h : p ∈ ent1 w x y) (h2 : q ∈ ent1 w x y) (e : p.2 = q.2) : p = q := by
  cases x with
  | none =>
    cases y with
    | none => cases h
    | some t => rw [List.mem_singleton.mp h, List.mem_singleton.mp h2]
  | some s =>
    cases y with
    | none => rw [List.mem_singleton.mp h, List.mem_singleton.mp h2]
    | some t =>
      have h' : p ∈ (if s = t then [((w, Cs.always), (s : Int))] else [((w, Cs.present), (s : Int)), ((w, Cs.absent), (t : Int))]) := h
      have h2' : q ∈ (if s = t then [((w, Cs.always), (s : Int))] else [((w, Cs.present), (s : Int)), ((w, Cs.absent), (t : Int))]) := h2
      replace h := h'
      replace h2 := h2'
      split at h
      · rw [if_pos (by assumption)] at h2
        rw [List.mem_singleton.mp h, List.mem_singleton.mp h2]
      · rename_i hn
        rw [if_neg hn] at h2
        rcases List.mem_cons.mp h with a | a <;> rcases List.mem_cons.mp h2 with b | b
        · rw [a, b]
        · rw [List.mem_singleton.mp b, a] at e
          exact absurd (Int.ofNat.inj e) hn
        · rw [List.mem_singleton.mp a, b] at e
          exact absurd (Int.ofNat.inj e).symm hn
        · rw [List.mem_singleton.mp a, List.mem_singleton.mp b]
theorem at_some {pl : Pl} {q : Option (Pl × Nat)} {t : Nat} (h : at_ pl q = some t) : q = some (pl, t) := by
  cases q with
  | none => cases h
  | some z =>
    unfold at_ at h
    dsimp only at h
    split at h
    · rename_i e
      cases h
      rw [← e]
    · cases h
theorem flatMap_congr' {γ : Type} {f g : α → List γ} : ∀ {l : List α}, (∀ w ∈ l, f w = g w) → l.flatMap f = l.flatMap g
  | [], _ => rfl
  | a :: l, h => by rw [List.flatMap_cons, List.flatMap_cons, h a List.mem_cons_self, flatMap_congr' fun w hw => h w (List.mem_cons_of_mem _ hw)]
theorem ents_time {ws : List α} {P : List (Vb × α)} {pl : Pl} {p : (α × Cs) × Int} (h : p ∈ ents ws P pl) : p.1.1 ∈ ws ∧ p ∈ ent1 p.1.1 (at_ pl (res p.1.1 P false)) (at_ pl (res p.1.1 P true)) ∧ ∃ t : Nat, p.2 = t ∧ (P[t]?).map (·.2) = some p.1.1 := by
  obtain ⟨w, hw, hp⟩ := List.mem_flatMap.mp h
  obtain ⟨e, t, e2, e3⟩ := ent1_mem hp
  rw [← e] at hw hp e3
  refine ⟨hw, hp, t, e2, ?_⟩
  rcases e3 with e3 | e3 <;>
  · obtain ⟨_, _, v, h3, _⟩ := res_lt _ _ _ _ (at_some e3)
    rw [h3]; rfl
theorem ents_uniq {ws : List α} {P : List (Vb × α)} {pl : Pl} : ∀ x ∈ ents ws P pl, ∀ y ∈ ents ws P pl, x.2 = y.2 → x = y := fun x hx y hy e => by
  obtain ⟨_, h1, t, e1, e2⟩ := ents_time hx
  obtain ⟨_, h3, u, e3, e4⟩ := ents_time hy
  have : t = u := by rw [e1, e3] at e; exact Int.ofNat.inj e
  subst this
  rw [e2] at e4
  have ew : x.1.1 = y.1.1 := Option.some.inj e4
  rw [ew] at h1
  exact ent1_uniq h1 h3 e
/-- the entries in their order -/
def ordd (ws : List α) (P : List (Vb × α)) (pl : Pl) : List (α × Cs) := (srtP (ents ws P pl)).map (·.1)
def outs (ws : List α) (P : List (Vb × α)) : List α := ws.filter fun w => outA w P false
/-- two programs whose words end alike, at times in the same order -/
def Like (φ : Nat → Nat) (P Q : List (Vb × α)) (w : α) : Prop := ∀ b, res w Q b = (res w P b).map (fun z => (z.1, φ z.2)) ∨ (outA w P b = true ∧ outA w Q b = true)
theorem Like.at {φ : Nat → Nat} {P Q : List (Vb × α)} {w : α} (h : Like φ P Q w) {pl : Pl} (hp : isOut pl = false) (b : Bool) : at_ pl (res w Q b) = (at_ pl (res w P b)).map φ := by
  rcases h b with e | ⟨e1, e2⟩
  · rw [e]
    cases res w P b with
    | none => rfl
    | some z =>
      show (if z.1 = pl then some (φ z.2) else none) = (if z.1 = pl then some z.2 else none).map φ
      split <;> rfl
  · have n : ∀ R : List (Vb × α), outA w R b = true → at_ pl (res w R b) = none := fun R hR => by
      cases e : res w R b with
      | none => rfl
      | some z =>
        rw [outA_some e] at hR
        exact if_neg fun q => by rw [q, hp] at hR; cases hR
    rw [n P e1, n Q e2]; rfl
theorem Like.out {φ : Nat → Nat} {P Q : List (Vb × α)} {w : α} (h : Like φ P Q w) (b : Bool) : outA w Q b = outA w P b := by
  rcases h b with e | ⟨e1, e2⟩
  · unfold outA
    rw [e]
    cases res w P b <;> rfl
  · rw [e1, e2]
theorem ordd_like {ws vs : List α} {P Q : List (Vb × α)} {φ : Nat → Nat} (φi : Int → Int) (h : ∀ n : Nat, φi n = (φ n : Nat)) (hφ : ∀ i j, φ i = φ j → i = j) (hi : ∀ i j, i ≤ j ↔ φi i ≤ φi j) (hp : vs.Perm ws) (hL : ∀ w ∈ ws, Like φ P Q w) {pl : Pl} (hpl : isOut pl = false) : ordd vs Q pl = ordd ws P pl := by
  have e : ents ws Q pl = (ents ws P pl).map fun p => (p.1, φi p.2) := by
    unfold ents
    rw [List.map_flatMap]
    refine flatMap_congr' fun w hw => ?_
    rw [(hL w hw).at hpl, (hL w hw).at hpl, ent1_map φ φi h hφ]
  have e2 : srtP (ents vs Q pl) = srtP (ents ws Q pl) := srtP_eq (hp.flatMap_right _) ents_uniq
  unfold ordd
  rw [e2, e, srtP_map _ (fun p q => hi p.2 q.2), List.map_map]
  rfl
theorem outs_like {ws vs : List α} {P Q : List (Vb × α)} {φ : Nat → Nat} (hp : vs.Perm ws) (hL : ∀ w ∈ ws, Like φ P Q w) : (outs vs Q).Perm (outs ws P) := by
  have : outs ws Q = outs ws P := by
    unfold outs
    exact List.filter_congr fun w hw => (hL w hw).out false
  rw [← this]
  exact hp.filter _
end
end FB.Th
set_option Elab.async false
set_option linter.all false
set_option maxRecDepth 100000
set_option maxHeartbeats 4000000
/-! TH2: programs without conditional additions; additions alone; the meaning. -/
namespace FB.Th
section
variable {α : Type} [DecidableEq α]
/-- nothing brings w back in -/
theorem stays_out {w : α} {F : List (Vb × α)} (h : ∀ o ∈ F, o.2 = w → acts o.1 true = false) : outA w F true = true := by
  rw [outA_none (res_none_id h)]
theorem stays_in {w : α} : ∀ {M : List (Vb × α)}, (∀ o ∈ M, o.2 = w → o.1 ≠ .drop) → outA w M false = false
  | [], _ => rfl
  | o :: M, h => by
    have ih := stays_in (M := M) fun o' ho => h o' (List.mem_cons_of_mem _ ho)
    rw [outA_cons]
    by_cases c : o.2 = w ∧ acts o.1 false = true
    · rw [if_pos c]
      have := h o List.mem_cons_self c.1
      have g : isOut (goes o.1) = false := by
        cases e : o.1 <;> first | rfl | exact absurd e this
      rw [g]; exact ih
    · rw [if_neg c]; exact ih
theorem ends_out {w : α} : ∀ {F : List (Vb × α)} {c : Bool}, (∀ o ∈ F, o.2 = w → acts o.1 true = false) → (Vb.drop, w) ∈ F → outA w F c = true
  | o :: F, c, h, hd => by
    have h' := fun o' ho => h o' (List.mem_cons_of_mem o ho)
    rw [outA_cons]
    rcases List.mem_cons.mp hd with e | hd
    · subst e
      have : (if (Vb.drop, w).2 = w ∧ acts (Vb.drop, w).1 c = true then isOut (goes (Vb.drop, w).1) else c) = true := by
        cases c
        · rw [if_pos ⟨rfl, rfl⟩]; rfl
        · rw [if_neg fun q => by cases q.2]
      rw [this]
      exact stays_out h'
    · exact ends_out h' hd
theorem keeps {w : α} : ∀ {F : List (Vb × α)} {c : Bool}, (∀ o ∈ F, o.2 = w → o.1 = .lift ∨ o.1 = .sink) → outA w F c = c
  | [], _, _ => rfl
  | o :: F, c, h => by
    have ih := fun c => keeps (F := F) (c := c) fun o' ho => h o' (List.mem_cons_of_mem _ ho)
    rw [outA_cons]
    by_cases q : o.2 = w ∧ acts o.1 c = true
    · rw [if_pos q]
      have hc : c = false := by
        rcases h o List.mem_cons_self q.1 with e | e <;> rw [e] at q <;> cases c <;> first | rfl | cases q.2
      subst hc
      have g : isOut (goes o.1) = false := by
        rcases h o List.mem_cons_self q.1 with e | e <;> rw [e] <;> rfl
      rw [g, ih]
    · rw [if_neg q, ih]
/-- a program without addfront and addback -/
theorem free_like (F O : List (Vb × α)) (hF : ∀ o ∈ F, o.1 ≠ .addfront ∧ o.1 ≠ .addback) (w : α) : Like (fun i => F.length + i) (O ++ F) (F ++ (O ++ F)) w := fun b => by
  by_cases h1 : (Vb.front, w) ∈ F ∨ (Vb.back, w) ∈ F
  · left
    have s : (res w F false).isSome = true := by
      rcases h1 with h | h
      · exact res_some h rfl
      · exact res_some h rfl
    obtain ⟨z, hz⟩ := Option.isSome_iff_exists.mp s
    have hz' : ∀ c, res w F c = some z := fun c => by
      cases c
      · exact hz
      · rw [res_fb h1, hz]
    have e : ∀ c, res w (O ++ F) c = some (z.1, O.length + z.2) := fun c => by rw [res_append, hz']
    rw [res_append, e, e]
    rfl
  · have no1 : ∀ o ∈ F, o.2 = w → o.1 = .drop ∨ o.1 = .lift ∨ o.1 = .sink := fun o ho e => by
      obtain ⟨v, x⟩ := o
      have e : x = w := e
      subst e
      have := hF _ ho
      cases v with
      | front => exact absurd (.inl ho) h1
      | back => exact absurd (.inr ho) h1
      | addfront => exact absurd rfl this.1
      | addback => exact absurd rfl this.2
      | drop => exact .inl rfl
      | lift => exact .inr (.inl rfl)
      | sink => exact .inr (.inr rfl)
    by_cases h2 : (Vb.drop, w) ∈ F
    · right
      have a : ∀ c, outA w F c = true := fun c => ends_out (fun o ho e => by rcases no1 o ho e with q | q | q <;> rw [q] <;> rfl) h2
      exact ⟨by rw [outA_append, a], by rw [outA_append, outA_append, a]⟩
    · left
      have no2 : ∀ o ∈ F, o.2 = w → o.1 = .lift ∨ o.1 = .sink := fun o ho e => (no1 o ho e).resolve_left fun q => h2 (by
        obtain ⟨v, x⟩ := o
        have e : x = w := e
        have q : v = .drop := q
        subst e; subst q
        exact ho)
      rw [res_append, keeps no2]
      cases e : res w (O ++ F) b with
      | some z => rfl
      | none =>
        have e1 := e
        rw [res_append] at e1
        cases e2 : res w F (outA w O b) with
        | some z => rw [e2] at e1; cases e1
        | none =>
          rw [e2] at e1
          have e1 : res w O b = none := e1
          rw [outA_none e1] at e2
          exact e2
/-- additions alone -/
theorem adds_like (A M : List (Vb × α)) (hA : ∀ o ∈ A, o.1 = .addfront ∨ o.1 = .addback) (hM : ∀ o ∈ M, o.1 = .drop → ∀ o' ∈ A, o'.2 ≠ o.2) (w : α) : Like id (A ++ M) (A ++ M ++ A) w := fun b => by
  left
  have key : res w A (outA w (A ++ M) b) = none := by
    by_cases h : ∃ o ∈ A, o.2 = w
    · obtain ⟨o, ho, e⟩ := h
      have a : outA w A b = false := by
        have hm : (Vb.addfront, w) ∈ A ∨ (Vb.addback, w) ∈ A := by
          obtain ⟨v, x⟩ := o
          have e : x = w := e
          subst e
          rcases hA _ ho with q | q
          · have q : v = .addfront := q
            subst q; exact .inl ho
          · have q : v = .addback := q
            subst q; exact .inr ho
        cases b
        · exact stays_in fun o ho _ => by rcases hA o ho with q | q <;> rw [q] <;> decide
        · have s : (res w A true).isSome = true := by
            rcases hm with h | h
            · exact res_some h rfl
            · exact res_some h rfl
          obtain ⟨z, hz⟩ := Option.isSome_iff_exists.mp s
          rw [outA_some hz]
          obtain ⟨_, _, v, h1, h2⟩ := res_lt _ _ _ _ hz
          rcases hA _ (List.mem_of_getElem? h1) with q | q <;>
          · have q : v = _ := q
            rw [← h2, q]; rfl
      have m : outA w (A ++ M) b = false := by
        rw [outA_append, a]
        exact stays_in fun o' ho' e' q => hM o' ho' q o ho (by rw [e, e'])
      rw [m]
      exact res_none_id fun o ho _ => by rcases hA o ho with q | q <;> rw [q] <;> rfl
    · exact res_none_id fun o ho e => absurd ⟨o, ho, e⟩ h
  rw [res_append, key]
  cases res w (A ++ M) b <;> rfl
/-! ### the words -/
def addW (acc : List α) (w : α) : List α := if w ∈ acc then acc else acc ++ [w]
def wordsOf (P : List (Vb × α)) : List α := P.foldl (fun acc o => addW acc o.2) []
theorem mem_addW {acc : List α} {w x : α} : x ∈ addW acc w ↔ x ∈ acc ∨ x = w := by
  unfold addW
  split
  · exact ⟨.inl, fun h => h.elim id fun e => by rw [e]; assumption⟩
  · rw [List.mem_append, List.mem_singleton]
theorem nd_addW {acc : List α} {w : α} (h : acc.Nodup) : (addW acc w).Nodup := by
  unfold addW
  split
  · exact h
  · rename_i hw
    refine List.nodup_append.mpr ⟨h, by simp, fun x hx y hy => ?_⟩
    rw [List.mem_singleton.mp hy]
    exact fun e => hw (e ▸ hx)
theorem wordsF : ∀ {P : List (Vb × α)} {acc : List α}, acc.Nodup → (P.foldl (fun acc o => addW acc o.2) acc).Nodup ∧ ∀ x, x ∈ P.foldl (fun acc o => addW acc o.2) acc ↔ x ∈ acc ∨ ∃ o ∈ P, o.2 = x
  | [], acc, h => ⟨h, fun x => ⟨.inl, fun z => z.elim id fun ⟨_, z, _⟩ => by cases z⟩⟩
  | o :: P, acc, h => by
    obtain ⟨h1, h2⟩ := wordsF (P := P) (nd_addW (w := o.2) h)
    refine ⟨h1, fun x => (h2 x).trans ?_⟩
    rw [mem_addW]
    constructor
    · rintro ((z | z) | ⟨o', z1, z2⟩)
      · exact .inl z
      · exact .inr ⟨o, List.mem_cons_self, z.symm⟩
      · exact .inr ⟨o', List.mem_cons_of_mem _ z1, z2⟩
    · rintro (z | ⟨o', z1, z2⟩)
      · exact .inl (.inl z)
      · rcases List.mem_cons.mp z1 with e | z1
        · exact .inl (.inr (by rw [← z2, e]))
        · exact .inr ⟨o', z1, z2⟩
theorem words_nd (P : List (Vb × α)) : (wordsOf P).Nodup := (wordsF List.nodup_nil).1
theorem words_mem (P : List (Vb × α)) (x : α) : x ∈ wordsOf P ↔ ∃ o ∈ P, o.2 = x := by
  have := (wordsF (P := P) List.nodup_nil).2 x
  rw [show wordsOf P = P.foldl (fun acc o => addW acc o.2) [] from rfl, this]
  exact ⟨fun z => z.elim (fun z => by cases z) id, .inr⟩
theorem words_perm {P Q : List (Vb × α)} (h : ∀ x, (∃ o ∈ Q, o.2 = x) ↔ ∃ o ∈ P, o.2 = x) : (wordsOf Q).Perm (wordsOf P) :=
  (List.perm_ext_iff_of_nodup (words_nd Q) (words_nd P)).mpr fun x => by rw [words_mem, words_mem]; exact h x
end
open PySem (Str)
/-- front, back, dropped -/
def meanE (P : List (Vb × Str)) : List (Str × Cs) × List (Str × Cs) × List Str :=
  ((ordd (wordsOf P) P .fr).reverse, ordd (wordsOf P) P .bk, srtS (outs (wordsOf P) P))
theorem mean_like {P Q : List (Vb × Str)} {φ : Nat → Nat} (φi : Int → Int) (h : ∀ n : Nat, φi n = (φ n : Nat)) (hφ : ∀ i j, φ i = φ j → i = j) (hi : ∀ i j, i ≤ j ↔ φi i ≤ φi j) (hw : ∀ x, (∃ o ∈ Q, o.2 = x) ↔ ∃ o ∈ P, o.2 = x) (hL : ∀ w, Like φ P Q w) : meanE Q = meanE P := by
  have hp := words_perm hw
  unfold meanE
  rw [ordd_like φi h hφ hi hp (fun w _ => hL w) (pl := .fr) rfl, ordd_like φi h hφ hi hp (fun w _ => hL w) (pl := .bk) rfl, srtS_eq (outs_like hp fun w _ => hL w)]
theorem mem_app {P Q : List (Vb × Str)} {x : Str} : (∃ o ∈ P ++ Q, o.2 = x) ↔ (∃ o ∈ P, o.2 = x) ∨ ∃ o ∈ Q, o.2 = x := by
  constructor
  · rintro ⟨o, h, e⟩
    exact (List.mem_append.mp h).elim (fun h => .inl ⟨o, h, e⟩) fun h => .inr ⟨o, h, e⟩
  · rintro (⟨o, h, e⟩ | ⟨o, h, e⟩)
    · exact ⟨o, List.mem_append.mpr (.inl h), e⟩
    · exact ⟨o, List.mem_append.mpr (.inr h), e⟩
theorem mean_own (P X : List (Vb × Str)) (hX : ∀ o ∈ X, o ∈ P) : meanE (P ++ X ++ P) = meanE (P ++ P) := by
  rw [List.append_assoc]
  refine mean_like (φ := mid P.length X.length) (fun i => if i < (P.length : Int) then i else i + X.length) (fun n => ?_) (fun i j h => ?_) (fun i j => ?_) (fun x => ?_) fun w b => .inl (own_res P X hX w b)
  · unfold mid
    split <;> split <;> omega
  · unfold mid at h
    split at h <;> split at h <;> omega
  · split <;> split <;> omega
  · rw [mem_app, mem_app, mem_app]
    constructor
    · rintro (h | ⟨o, h, e⟩ | h)
      · exact .inl h
      · exact .inl ⟨o, hX o h, e⟩
      · exact .inl h
    · rintro (h | h)
      · exact .inl h
      · exact .inl h
theorem mean_free (F O : List (Vb × Str)) (hF : ∀ o ∈ F, o.1 ≠ .addfront ∧ o.1 ≠ .addback) : meanE (F ++ O ++ F) = meanE (O ++ F) := by
  rw [List.append_assoc]
  refine mean_like (φ := fun i => F.length + i) (fun i => F.length + i) (fun n => by push_cast; rfl) (fun i j h => ?_) (fun i j => ?_) (fun x => ?_) (free_like F O hF)
  · have h : F.length + i = F.length + j := h
    omega
  · omega
  · rw [mem_app, mem_app]
    exact ⟨fun h => h.elim .inr id, .inr⟩
theorem mean_adds (A M : List (Vb × Str)) (hA : ∀ o ∈ A, o.1 = .addfront ∨ o.1 = .addback) (hM : ∀ o ∈ M, o.1 = .drop → ∀ o' ∈ A, o'.2 ≠ o.2) : meanE (A ++ M ++ A) = meanE (A ++ M) := by
  refine mean_like (φ := id) id (fun n => rfl) (fun i j h => h) (fun i j => Iff.rfl) (fun x => ?_) (adds_like A M hA hM)
  rw [mem_app, mem_app]
  exact ⟨fun h => h.elim id .inl, .inl⟩
/-! ### only the empty program means nothing -/
theorem srtP_ne {β : Type} {l : List (β × Int)} {x : β × Int} (h : x ∈ l) : (srtP l).map (·.1) ≠ [] := fun e => by
  have := (srtP_perm l).mem_iff.mpr h
  rw [List.map_eq_nil_iff.mp e] at this
  cases this
theorem ordd_ne {ws : List Str} {P : List (Vb × Str)} {pl : Pl} {w : Str} {t : Nat} {b : Bool} (hw : w ∈ ws) (h : res w P b = some (pl, t)) : ordd ws P pl ≠ [] := by
  have a : at_ pl (res w P b) = some t := by rw [h]; exact if_pos rfl
  have : ∃ x, x ∈ ent1 w (at_ pl (res w P false)) (at_ pl (res w P true)) := by
    cases b
    · rw [a]
      cases at_ pl (res w P true) with
      | none => exact ⟨_, List.mem_singleton.mpr rfl⟩
      | some u =>
        by_cases q : t = u
        · exact ⟨((w, .always), (t : Int)), by rw [q]; simp [ent1]⟩
        · exact ⟨((w, .present), (t : Int)), by simp [ent1, q]⟩
    · rw [a]
      cases at_ pl (res w P false) with
      | none => exact ⟨_, List.mem_singleton.mpr rfl⟩
      | some u =>
        by_cases q : u = t
        · exact ⟨((w, .always), (u : Int)), by rw [q]; simp [ent1]⟩
        · exact ⟨((w, .present), (u : Int)), by simp [ent1, q]⟩
  obtain ⟨x, hx⟩ := this
  exact srtP_ne (x := x) (List.mem_flatMap.mpr ⟨w, hw, hx⟩)
theorem srtS_ne {l : List Str} {x : Str} (h : x ∈ l) : srtS l ≠ [] := fun e => by
  have := (srtS_perm l).mem_iff.mpr h
  rw [e] at this
  cases this
theorem mean_ne {P : List (Vb × Str)} (h : P ≠ []) : ¬ ((meanE P).1 = [] ∧ (meanE P).2.1 = [] ∧ (meanE P).2.2 = []) := by
  obtain ⟨o, Q, rfl⟩ := List.exists_cons_of_ne_nil h
  rintro ⟨h1, h2, h3⟩
  have h1 : (ordd (wordsOf (o :: Q)) (o :: Q) .fr).reverse = [] := h1
  have h2 : ordd (wordsOf (o :: Q)) (o :: Q) .bk = [] := h2
  have h3 : srtS (outs (wordsOf (o :: Q)) (o :: Q)) = [] := h3
  rw [List.reverse_eq_nil_iff] at h1
  have hw : o.2 ∈ wordsOf (o :: Q) := (words_mem _ _).mpr ⟨o, List.mem_cons_self, rfl⟩
  generalize hR : o :: Q = R at *
  have hm : (o.1, o.2) ∈ R := by rw [← hR]; exact List.mem_cons_self
  have pres : ∀ v, (v, o.2) ∈ R → acts v false = true → False := fun v hv ha => by
    obtain ⟨z, hz⟩ := Option.isSome_iff_exists.mp (res_some hv ha)
    obtain ⟨p, t⟩ := z
    cases p with
    | mid => exact (res_lt _ _ _ _ hz).2.1 rfl
    | fr => exact ordd_ne hw hz h1
    | bk => exact ordd_ne hw hz h2
    | out => exact srtS_ne (x := o.2) (List.mem_filter.mpr ⟨hw, outA_some hz⟩) h3
  have abs : ∀ v, (v, o.2) ∈ R → acts v true = true → False := fun v hv ha => by
    obtain ⟨z, hz⟩ := Option.isSome_iff_exists.mp (res_some hv ha)
    obtain ⟨p, t⟩ := z
    obtain ⟨_, hmid, u, hu, hg⟩ := res_lt _ _ _ _ hz
    cases p with
    | mid => exact hmid rfl
    | fr => exact ordd_ne hw hz h1
    | bk => exact ordd_ne hw hz h2
    | out =>
      have : u = .drop := by
        cases u <;> first | rfl | cases hg
      subst this
      exact pres .drop (List.mem_of_getElem? hu) rfl
  cases e : o.1 with
  | addfront => exact abs _ hm (by rw [e]; rfl)
  | addback => exact abs _ hm (by rw [e]; rfl)
  | _ => exact pres _ hm (by rw [e]; rfl)
end FB.Th
set_option Elab.async false
set_option linter.all false
set_option maxRecDepth 100000
set_option maxHeartbeats 4000000
/-! TH3: entries side by side; the two ways of a word meet or the present one ends first; a run by the meaning. -/
namespace FB.Th
section
variable {α : Type} [DecidableEq α]
/-- both ends stand in rows: equal, or the present one is earlier; dropped when present: out when absent -/
theorem meet {w : α} : ∀ {P : List (Vb × α)}, (∀ p s q t, res w P false = some (p, s) → res w P true = some (q, t) → isOut p = false → isOut q = false → (p = q ∧ s = t) ∨ s < t) ∧ (∀ s, res w P false = some (.out, s) → outA w P true = true)
  | [] => ⟨fun p s q t h => (nomatch h), fun s h => (nomatch h)⟩
  | o :: P => by
    obtain ⟨ih1, ih2⟩ := meet (w := w) (P := P)
    by_cases hw : o.2 = w
    · obtain ⟨v, x⟩ := o
      have hw : x = w := hw
      subst hw
      have ra : ∀ b, acts v b = true → res x ((v, x) :: P) b = match res x P (isOut (goes v)) with
        | none => some (goes v, 0)
        | some z => some (z.1, z.2 + 1) := fun b h => res_act rfl h
      have rn : ∀ b, acts v b = false → res x ((v, x) :: P) b = up (res x P b) := fun b h => res_no fun q => by rw [h] at q; cases q.2
      have same : res x ((v, x) :: P) false = res x ((v, x) :: P) true → (∀ p s q t, res x ((v, x) :: P) false = some (p, s) → res x ((v, x) :: P) true = some (q, t) → isOut p = false → isOut q = false → (p = q ∧ s = t) ∨ s < t) ∧ (∀ s, res x ((v, x) :: P) false = some (.out, s) → outA x ((v, x) :: P) true = true) := fun e => by
        rw [e]
        refine ⟨fun p s q t h1 h2 _ _ => ?_, fun s h => outA_some (by exact h)⟩
        rw [h1] at h2
        cases h2
        exact .inl ⟨rfl, rfl⟩
      have mv : acts v false = true → acts v true = false → isOut (goes v) = false → (∀ p s q t, res x ((v, x) :: P) false = some (p, s) → res x ((v, x) :: P) true = some (q, t) → isOut p = false → isOut q = false → (p = q ∧ s = t) ∨ s < t) ∧ (∀ s, res x ((v, x) :: P) false = some (.out, s) → outA x ((v, x) :: P) true = true) := fun h1 h2 h3 => by
        have e1 := ra false h1
        have e2 := rn true h2
        rw [h3] at e1
        have e3 : outA x ((v, x) :: P) true = outA x P true := by
          unfold outA
          rw [e2, oaft_up]
        rw [e1, e2, e3]
        cases q1 : res x P false with
        | none =>
          refine ⟨fun p s q t a1 a2 _ _ => ?_, fun s a => ?_⟩
          · cases a1
            cases q2 : res x P true with
            | none => rw [q2] at a2; cases a2
            | some z => rw [q2] at a2; cases a2; exact .inr (Nat.succ_pos _)
          · have a : some (goes v, 0) = some (Pl.out, s) := a
            rw [(Prod.mk.inj (Option.some.inj a)).1] at h3
            cases h3
        | some z =>
          refine ⟨fun p s q t a1 a2 p1 p2 => ?_, fun s a => ?_⟩
          · cases a1
            cases q2 : res x P true with
            | none => rw [q2] at a2; cases a2
            | some y =>
              rw [q2] at a2
              cases a2
              rcases ih1 _ _ _ _ q1 q2 p1 p2 with ⟨z1, z2⟩ | z
              · exact .inl ⟨z1, by show z.2 + 1 = y.2 + 1; omega⟩
              · exact .inr (Nat.succ_lt_succ z)
          · have a : some (z.1, z.2 + 1) = some (Pl.out, s) := a
            have a1 : z.1 = Pl.out := (Prod.mk.inj (Option.some.inj a)).1
            exact ih2 z.2 (by rw [q1, ← a1])
      cases v with
      | front => exact same (by rw [ra _ rfl, ra _ rfl])
      | back => exact same (by rw [ra _ rfl, ra _ rfl])
      | lift => exact mv rfl rfl rfl
      | sink => exact mv rfl rfl rfl
      | drop =>
        have e1 := ra false rfl
        have e2 := rn true rfl
        rw [show isOut (goes Vb.drop) = true from rfl] at e1
        cases q : res x P true with
        | some z =>
          rw [q] at e1 e2
          exact same (e1.trans e2.symm)
        | none =>
          rw [q] at e1 e2
          refine ⟨fun p s q t h1 h2 p1 _ => ?_, fun s _ => outA_none e2⟩
          rw [e1] at h1
          cases h1
          cases p1
      | addfront =>
        have e1 := rn false rfl
        have e2 := ra true rfl
        rw [show isOut (goes Vb.addfront) = false from rfl] at e2
        cases q : res x P false with
        | some z =>
          rw [q] at e1 e2
          exact same (e1.trans e2.symm)
        | none =>
          rw [q] at e1
          refine ⟨fun p s q t h1 => ?_, fun s h => ?_⟩
          · rw [e1] at h1; cases h1
          · rw [e1] at h; cases h
      | addback =>
        have e1 := rn false rfl
        have e2 := ra true rfl
        rw [show isOut (goes Vb.addback) = false from rfl] at e2
        cases q : res x P false with
        | some z =>
          rw [q] at e1 e2
          exact same (e1.trans e2.symm)
        | none =>
          rw [q] at e1
          refine ⟨fun p s q t h1 => ?_, fun s h => ?_⟩
          · rw [e1] at h1; cases h1
          · rw [e1] at h; cases h
    · have e : ∀ b, res w (o :: P) b = up (res w P b) := fun b => res_no fun q => hw q.1
      have e3 : outA w (o :: P) true = outA w P true := by
        unfold outA
        rw [e, oaft_up]
      rw [e, e, e3]
      refine ⟨fun p s q t a1 a2 p1 p2 => ?_, fun s a => ?_⟩
      · cases q1 : res w P false with
        | none => rw [q1] at a1; cases a1
        | some z =>
          cases q2 : res w P true with
          | none => rw [q2] at a2; cases a2
          | some y =>
            rw [q1] at a1
            rw [q2] at a2
            cases a1
            cases a2
            rcases ih1 _ _ _ _ q1 q2 p1 p2 with ⟨z1, z2⟩ | z
            · exact .inl ⟨z1, by show z.2 + 1 = y.2 + 1; omega⟩
            · exact .inr (Nat.succ_lt_succ z)
      · cases q1 : res w P false with
        | none => rw [q1] at a; cases a
        | some z =>
          rw [q1] at a
          have a : some (z.1, z.2 + 1) = some (Pl.out, s) := a
          have a1 : z.1 = Pl.out := (Prod.mk.inj (Option.some.inj a)).1
          exact ih2 z.2 (by rw [q1, ← a1])
/-! ### entries, raw -/
abbrev Itm (α : Type) := α × Cs
def Raw (P : List (Vb × α)) (pl : Pl) (e : Itm α) (t : Nat) : Prop := match e.2 with
  | .always => res e.1 P false = some (pl, t) ∧ res e.1 P true = some (pl, t)
  | .present => res e.1 P false = some (pl, t) ∧ res e.1 P true ≠ some (pl, t)
  | .absent => res e.1 P true = some (pl, t) ∧ res e.1 P false ≠ some (pl, t)
theorem at_iff {pl : Pl} {q : Option (Pl × Nat)} {t : Nat} : at_ pl q = some t ↔ q = some (pl, t) :=
  ⟨at_some, fun h => by rw [h]; exact if_pos rfl⟩
theorem ent1_iff {w : α} {x y : Option Nat} {c : Cs} {t : Nat} : ((w, c), (t : Int)) ∈ ent1 w x y ↔ match c with
    | .always => x = some t ∧ y = some t
    | .present => x = some t ∧ y ≠ some t
    | .absent => y = some t ∧ x ≠ some t := by
  cases x with
  | none =>
    cases y with
    | none => cases c <;> simp [ent1]
    | some u => cases c <;> simp [ent1] <;> omega
  | some s =>
    cases y with
    | none => cases c <;> simp [ent1] <;> omega
    | some u =>
      by_cases h : s = u
      · cases c <;> simp [ent1, h] <;> omega
      · cases c <;> simp [ent1, h] <;> omega
theorem ents_raw {ws : List α} {P : List (Vb × α)} {pl : Pl} {p : Itm α × Int} : p ∈ ents ws P pl ↔ p.1.1 ∈ ws ∧ ∃ t : Nat, p.2 = t ∧ Raw P pl p.1 t := by
  obtain ⟨⟨w, c⟩, i⟩ := p
  have key : ∀ t : Nat, ((w, c), (t : Int)) ∈ ent1 w (at_ pl (res w P false)) (at_ pl (res w P true)) ↔ Raw P pl (w, c) t := fun t => by
    rw [ent1_iff]
    unfold Raw
    cases c <;> dsimp only <;> simp only [at_iff, ne_eq]
  constructor
  · intro h
    obtain ⟨h1, h2, t, h3, _⟩ := ents_time h
    have h3 : i = (t : Int) := h3
    subst h3
    exact ⟨h1, t, rfl, (key t).mp h2⟩
  · rintro ⟨h1, t, h2, h3⟩
    have h2 : i = (t : Int) := h2
    subst h2
    exact List.mem_flatMap.mpr ⟨w, h1, (key t).mpr h3⟩
theorem Raw.word {P : List (Vb × α)} {pl : Pl} {e : Itm α} {t : Nat} (h : Raw P pl e t) : e.1 ∈ wordsOf P := by
  have : ∃ b, (res e.1 P b).isSome = true := by
    unfold Raw at h
    split at h
    · exact ⟨false, by rw [h.1]; rfl⟩
    · exact ⟨false, by rw [h.1]; rfl⟩
    · exact ⟨true, by rw [h.1]; rfl⟩
  obtain ⟨b, hb⟩ := this
  obtain ⟨v, hv, _⟩ := res_isSome hb
  exact (words_mem _ _).mpr ⟨_, hv, rfl⟩
abbrev Lp (P : List (Vb × α)) (pl : Pl) : List (Itm α) := ordd (wordsOf P) P pl
theorem Lp_raw {P : List (Vb × α)} {pl : Pl} {e : Itm α} : e ∈ Lp P pl ↔ ∃ t, Raw P pl e t := by
  constructor
  · intro h
    obtain ⟨p, hp, rfl⟩ := List.mem_map.mp h
    obtain ⟨_, t, _, h2⟩ := ents_raw.mp ((srtP_perm _).mem_iff.mp hp)
    exact ⟨t, h2⟩
  · rintro ⟨t, h⟩
    exact List.mem_map.mpr ⟨(e, (t : Int)), (srtP_perm _).mem_iff.mpr (ents_raw.mpr ⟨h.word, t, rfl, h⟩), rfl⟩
/-- the time of an entry -/
def tau (P : List (Vb × α)) (e : Itm α) : Nat := match res e.1 P (decide (e.2 = .absent)) with
  | some z => z.2
  | none => 0
theorem Raw.tau {P : List (Vb × α)} {pl : Pl} {e : Itm α} {t : Nat} (h : Raw P pl e t) : tau P e = t := by
  obtain ⟨w, c⟩ := e
  unfold Th.tau
  cases c
  · have h : res w P false = some (pl, t) := h.1
    show (match res w P false with | some z => z.2 | none => 0) = t
    rw [h]
  · have h : res w P false = some (pl, t) := h.1
    show (match res w P false with | some z => z.2 | none => 0) = t
    rw [h]
  · have h : res w P true = some (pl, t) := h.1
    show (match res w P true with | some z => z.2 | none => 0) = t
    rw [h]
theorem ents_nodup (P : List (Vb × α)) (pl : Pl) : ∀ {ws : List α}, ws.Nodup → (ents ws P pl).Nodup
  | [], _ => List.nodup_nil
  | w :: ws, h => by
    obtain ⟨h1, h2⟩ := List.nodup_cons.mp h
    show (ent1 w _ _ ++ ents ws P pl).Nodup
    refine List.nodup_append.mpr ⟨?_, ents_nodup P pl h2, fun x hx y hy e => ?_⟩
    · generalize at_ pl (res w P false) = q
      generalize at_ pl (res w P true) = r
      cases q <;> cases r <;> simp [ent1]
      split <;> simp
    · have e1 := (ent1_mem hx).1
      have e2 := (ents_time hy).1
      rw [← e, e1] at e2
      exact h1 e2
theorem Lp_srt (P : List (Vb × α)) (pl : Pl) : (Lp P pl).Pairwise fun x y => tau P x < tau P y := by
  show ((srtP (ents (wordsOf P) P pl)).map (·.1)).Pairwise _
  rw [List.pairwise_map]
  have nd : (srtP (ents (wordsOf P) P pl)).Nodup := (srtP_perm _).nodup_iff.mpr (ents_nodup P pl (words_nd P))
  refine ((srtP_srt (ents (wordsOf P) P pl)).and nd).imp_of_mem fun {x y} hx hy h => ?_
  have mx := (srtP_perm _).mem_iff.mp hx
  have my := (srtP_perm _).mem_iff.mp hy
  obtain ⟨_, t, e1, r1⟩ := ents_raw.mp mx
  obtain ⟨_, u, e2, r2⟩ := ents_raw.mp my
  have hne : x.2 ≠ y.2 := fun e => h.2 (ents_uniq x mx y my e)
  have hle := h.1
  rw [r1.tau, r2.tau]
  rw [e1, e2] at hne hle
  omega
theorem nPA : Cs.present ≠ Cs.absent := by decide
theorem nAP : Cs.absent ≠ Cs.present := by decide
theorem nPW : Cs.present ≠ Cs.always := by decide
theorem nAW : Cs.absent ≠ Cs.always := by decide
theorem nWP : Cs.always ≠ Cs.present := by decide
theorem nWA : Cs.always ≠ Cs.absent := by decide
/-- entries of one word: one for each case -/
def Excl (x y : Itm α) : Prop := x.1 = y.1 → x.2 ≠ .always ∧ y.2 ≠ .always ∧ x.2 ≠ y.2
theorem Excl.symm {x y : Itm α} (h : Excl x y) : Excl y x := fun e => ⟨(h e.symm).2.1, (h e.symm).1, fun z => (h e.symm).2.2 z.symm⟩
theorem Lp_excl (P : List (Vb × α)) (pl : Pl) : (Lp P pl).Pairwise Excl := by
  refine (Lp_srt P pl).imp_of_mem fun {x y} hx hy h e => ?_
  obtain ⟨t, r1⟩ := Lp_raw.mp hx
  obtain ⟨u, r2⟩ := Lp_raw.mp hy
  rw [r1.tau, r2.tau] at h
  obtain ⟨w, c⟩ := x
  obtain ⟨w2, d⟩ := y
  have e : w = w2 := e
  subst e
  cases c <;> cases d <;> unfold Raw at r1 r2 <;> dsimp only at r1 r2 <;> (try first | exact ⟨nPW, nAW, nPA⟩ | exact ⟨nAW, nPW, nAP⟩) <;> exfalso
  · have := r1.1.symm.trans r2.1; cases this; omega
  · have := r1.1.symm.trans r2.1; cases this; omega
  · have := r1.2.symm.trans r2.1; cases this; omega
  · have := r1.1.symm.trans r2.1; cases this; omega
  · have := r1.1.symm.trans r2.1; cases this; omega
  · have := r1.1.symm.trans r2.2; cases this; omega
  · have := r1.1.symm.trans r2.1; cases this; omega
/-! ### side by side -/
/-- one entry more, joined with the last one if both belong together -/
def sbs1 (f s : Cs) (acc : List (Itm α)) (e : Itm α) : List (Itm α) := if acc.getLast? = some (e.1, f) ∧ e.2 = s then acc.dropLast ++ [(e.1, .always)] else acc ++ [e]
def sbs (f s : Cs) (es : List (Itm α)) : List (Itm α) := es.foldl (sbs1 f s) []
theorem sbs1_cases (f s : Cs) (acc : List (Itm α)) (e : Itm α) : (∃ acc' w, acc = acc' ++ [(w, f)] ∧ e = (w, s) ∧ sbs1 f s acc e = acc' ++ [(w, .always)]) ∨ (sbs1 f s acc e = acc ++ [e] ∧ ¬ (acc.getLast? = some (e.1, f) ∧ e.2 = s)) := by
  by_cases h : acc.getLast? = some (e.1, f) ∧ e.2 = s
  · left
    rcases List.eq_nil_or_concat acc with rfl | ⟨acc', p, hq⟩
    · cases h.1
    · rw [List.concat_eq_append] at hq
      subst hq
      have hp : p = (e.1, f) := by
        have := h.1
        rw [List.getLast?_append] at this
        simpa using this
      refine ⟨acc', e.1, by rw [hp], by rw [← h.2], ?_⟩
      unfold sbs1
      rw [if_pos h, List.dropLast_concat]
  · exact .inr ⟨if_neg h, h⟩
theorem sbs1_len (f s : Cs) (acc : List (Itm α)) (e : Itm α) : (sbs1 f s acc e).length ≤ acc.length + 1 := by
  rcases sbs1_cases f s acc e with ⟨acc', w, h1, _, h2⟩ | ⟨h, _⟩
  · rw [h2, h1]; simp
  · rw [h]; simp
theorem sbs1_ne (f s : Cs) (acc : List (Itm α)) (e : Itm α) : sbs1 f s acc e ≠ [] := by
  unfold sbs1
  split <;> simp
theorem sbs_ne {f s : Cs} : ∀ {es : List (Itm α)} {acc : List (Itm α)}, acc ≠ [] ∨ es ≠ [] → es.foldl (sbs1 f s) acc ≠ []
  | [], acc, h => h.resolve_right fun z => z rfl
  | e :: es, acc, _ => sbs_ne (es := es) (.inl (sbs1_ne f s acc e))
/-- what holds of the items and comes over to joined ones -/
theorem sbs_pw {f s : Cs} {R : Itm α → Itm α → Prop} (hA : ∀ w x, R x (w, f) → R x (w, s) → R x (w, .always)) (hB : ∀ w y, R (w, f) y → R (w, s) y → R (w, .always) y) : ∀ {es acc : List (Itm α)}, (acc ++ es).Pairwise R → (es.foldl (sbs1 f s) acc).Pairwise R
  | [], acc, h => by rw [List.append_nil] at h; exact h
  | e :: es, acc, h => by
    refine sbs_pw hA hB (es := es) ?_
    rcases sbs1_cases f s acc e with ⟨acc', w, h1, h2, h3⟩ | ⟨h3, _⟩
    · rw [h3]
      subst h1; subst h2
      rw [List.append_assoc, List.pairwise_append] at h
      obtain ⟨a1, a2, a3⟩ := h
      have a2 : ((w, f) :: (w, s) :: es).Pairwise R := a2
      obtain ⟨b1, b2⟩ := List.pairwise_cons.mp a2
      obtain ⟨b3, b4⟩ := List.pairwise_cons.mp b2
      rw [List.append_assoc, List.pairwise_append]
      refine ⟨a1, List.pairwise_cons.mpr ⟨fun y hy => hB w y (b1 y (List.mem_cons_of_mem _ hy)) (b3 y hy), b4⟩, fun x hx y hy => ?_⟩
      rcases List.mem_cons.mp hy with rfl | hy
      · exact hA w x (a3 x hx _ List.mem_cons_self) (a3 x hx _ (List.mem_cons_of_mem _ List.mem_cons_self))
      · exact a3 x hx y (List.mem_cons_of_mem _ (List.mem_cons_of_mem _ hy))
    · rw [h3, List.append_assoc]
      exact h
theorem sbs_memI {f s : Cs} {x : Itm α} : ∀ {es acc : List (Itm α)}, x ∈ es.foldl (sbs1 f s) acc → x ∈ acc ++ es ∨ (x.2 = .always ∧ (x.1, f) ∈ acc ++ es ∧ (x.1, s) ∈ acc ++ es)
  | [], acc, h => .inl (List.mem_append.mpr (.inl h))
  | e :: es, acc, h => by
    rcases sbs1_cases f s acc e with ⟨acc', w, h1, h2, h3⟩ | ⟨h3, _⟩
    · have sub : ∀ y ∈ sbs1 f s acc e ++ es, y = (w, Cs.always) ∨ y ∈ acc ++ e :: es := fun y hy => by
        rw [h3] at hy
        rcases List.mem_append.mp hy with hy | hy
        · rcases List.mem_append.mp hy with hy | hy
          · exact .inr (List.mem_append.mpr (.inl (by rw [h1]; exact List.mem_append.mpr (.inl hy))))
          · exact .inl (List.mem_singleton.mp hy)
        · exact .inr (List.mem_append.mpr (.inr (List.mem_cons_of_mem _ hy)))
      have m1 : (w, f) ∈ acc ++ e :: es := List.mem_append.mpr (.inl (by rw [h1]; simp))
      have m2 : (w, s) ∈ acc ++ e :: es := List.mem_append.mpr (.inr (by rw [h2]; exact List.mem_cons_self))
      rcases sbs_memI (es := es) h with q | ⟨q1, q2, q3⟩
      · rcases sub x q with e1 | q
        · subst e1
          exact .inr ⟨rfl, m1, m2⟩
        · exact .inl q
      · refine .inr ⟨q1, ?_, ?_⟩
        · rcases sub _ q2 with e1 | q
          · have : x.1 = w := (Prod.mk.inj e1).1
            rw [this]; exact m1
          · exact q
        · rcases sub _ q3 with e1 | q
          · have : x.1 = w := (Prod.mk.inj e1).1
            rw [this]; exact m2
          · exact q
    · rcases sbs_memI (es := es) h with q | q
      · rw [h3, List.append_assoc] at q
        exact .inl q
      · rw [h3, List.append_assoc] at q
        exact .inr q
/-- what rows see of joined entries -/
theorem sbs_filter {f s : Cs} {m : Itm α → Bool} (h1 : ∀ w, m (w, .always) = true) (h2 : ∀ w, m (w, f) = !m (w, s)) : ∀ {es acc : List (Itm α)}, ((es.foldl (sbs1 f s) acc).filter m).map (·.1) = ((acc ++ es).filter m).map (·.1)
  | [], acc => by rw [List.append_nil]; rfl
  | e :: es, acc => by
    rw [List.foldl_cons, sbs_filter h1 h2 (es := es)]
    rcases sbs1_cases f s acc e with ⟨acc', w, a1, a2, a3⟩ | ⟨a3, _⟩
    · rw [a3, a1, a2]
      have q := h2 w
      cases hs : m (w, s)
      · rw [hs] at q
        simp [List.filter_append, List.filter_cons, h1, hs, q]
      · rw [hs] at q
        simp [List.filter_append, List.filter_cons, h1, hs, q]
    · rw [a3, List.append_assoc]
      rfl
/-- nothing is left to be joined -/
def NA (f s : Cs) (l : List (Itm α)) : Prop := ∀ a w b, l ≠ a ++ (w, f) :: (w, s) :: b
theorem sbs_na {f s : Cs} (hs : s ≠ .always) : ∀ {es acc : List (Itm α)}, NA f s acc → NA f s (es.foldl (sbs1 f s) acc)
  | [], acc, h => h
  | e :: es, acc, h => by
    refine sbs_na hs (es := es) fun a w b q => ?_
    rcases sbs1_cases f s acc e with ⟨acc', u, a1, a2, a3⟩ | ⟨a3, hn⟩
    · rw [a3] at q
      rcases List.eq_nil_or_concat b with rfl | ⟨b', y, hb⟩
      · have : (acc' ++ [(u, Cs.always)]).getLast? = (a ++ [(w, f), (w, s)]).getLast? := by rw [q]
        simp at this
        exact hs this.2.symm
      · rw [List.concat_eq_append] at hb
        subst hb
        have q2 : acc' ++ [(u, Cs.always)] = (a ++ (w, f) :: (w, s) :: b') ++ [y] := by
          rw [q, List.append_assoc]; rfl
        have q3 := (List.append_inj' q2 rfl).1
        exact h a w (b' ++ [(u, f)]) (by rw [a1, q3, List.append_assoc]; rfl)
    · rw [a3] at q
      rcases List.eq_nil_or_concat b with rfl | ⟨b', y, hb⟩
      · have q2 : acc ++ [e] = (a ++ [(w, f)]) ++ [(w, s)] := by
          rw [q, List.append_assoc]; rfl
        obtain ⟨q3, q4⟩ := List.append_inj' q2 rfl
        have q4 : e = (w, s) := (List.cons.inj q4).1
        refine hn ⟨?_, by rw [q4]⟩
        rw [q3, q4]
        simp
      · rw [List.concat_eq_append] at hb
        subst hb
        have q2 : acc ++ [e] = (a ++ (w, f) :: (w, s) :: b') ++ [y] := by
          rw [q, List.append_assoc]; rfl
        exact h a w b' (List.append_inj' q2 rfl).1
theorem sbs_same {f s : Cs} : ∀ {es acc : List (Itm α)}, NA f s (acc ++ es) → es.foldl (sbs1 f s) acc = acc ++ es
  | [], acc, _ => by rw [List.append_nil]; rfl
  | e :: es, acc, h => by
    rcases sbs1_cases f s acc e with ⟨acc', u, a1, a2, a3⟩ | ⟨a3, hn⟩
    · exact absurd (by rw [a1, a2, List.append_assoc]; rfl) (h acc' u es)
    · rw [List.foldl_cons, a3, sbs_same (es := es) (by rw [List.append_assoc]; exact h), List.append_assoc]
      rfl
theorem sbs_idem {f s : Cs} (hs : s ≠ .always) (es : List (Itm α)) : sbs f s (sbs f s es) = sbs f s es := by
  have h : NA f s (sbs f s es) := sbs_na hs (es := es) (acc := []) fun a w b q => by simp at q
  exact (sbs_same (es := sbs f s es) (acc := []) (by rw [List.nil_append]; exact h)).trans (List.nil_append _)
/-! ### the meaning, joined -/
def JF (P : List (Vb × α)) : List (Itm α) := sbs .absent .present (Lp P .fr).reverse
def JB (P : List (Vb × α)) : List (Itm α) := sbs .present .absent (Lp P .bk)
theorem tau_always (P : List (Vb × α)) (w : α) : tau P (w, .always) = tau P (w, .present) := rfl
theorem JF_srt (P : List (Vb × α)) : (JF P).Pairwise fun x y => tau P y < tau P x := by
  refine sbs_pw (f := .absent) (s := .present) (R := fun x y => tau P y < tau P x) (fun w x _ h => h) (fun w y _ h => h) (acc := []) ?_
  rw [List.nil_append, List.pairwise_reverse]
  exact Lp_srt P .fr
theorem JB_srt (P : List (Vb × α)) : (JB P).Pairwise fun x y => tau P x < tau P y := by
  refine sbs_pw (f := .present) (s := .absent) (R := fun x y => tau P x < tau P y) (fun w x h _ => h) (fun w y h _ => h) (acc := []) ?_
  rw [List.nil_append]
  exact Lp_srt P .bk
theorem exA {f s : Cs} (h1 : f ≠ .always) (h2 : s ≠ .always) (h3 : f ≠ s) (w : α) (x : Itm α) (a : Excl x (w, f)) (b : Excl x (w, s)) : Excl x (w, .always) := fun e => by
  have a := a e
  have b := b e
  obtain ⟨u, c⟩ := x
  obtain ⟨a1, _, a3⟩ := a
  obtain ⟨_, _, b3⟩ := b
  cases c <;> cases f <;> cases s <;> first | exact absurd rfl a1 | exact absurd rfl a3 | exact absurd rfl b3 | exact absurd rfl h1 | exact absurd rfl h2 | exact absurd rfl h3
theorem JF_excl (P : List (Vb × α)) : (JF P).Pairwise Excl := by
  refine sbs_pw (R := Excl) (exA (by decide) (by decide) (by decide)) (fun w y a b => (exA (f := .absent) (s := .present) (by decide) (by decide) (by decide) w y a.symm b.symm).symm) (acc := []) ?_
  rw [List.nil_append, List.pairwise_reverse]
  exact (Lp_excl P .fr).imp fun h => h.symm
theorem JB_excl (P : List (Vb × α)) : (JB P).Pairwise Excl := by
  refine sbs_pw (R := Excl) (exA (by decide) (by decide) (by decide)) (fun w y a b => (exA (f := .present) (s := .absent) (by decide) (by decide) (by decide) w y a.symm b.symm).symm) (acc := []) ?_
  rw [List.nil_append]
  exact Lp_excl P .bk
/-- where the word of a joined entry ends -/
def Ends (P : List (Vb × α)) (pl : Pl) (e : Itm α) : Prop := (e.2 ≠ .absent → ∃ t, res e.1 P false = some (pl, t)) ∧ (e.2 ≠ .present → ∃ t, res e.1 P true = some (pl, t))
theorem raw_ends {P : List (Vb × α)} {pl : Pl} {e : Itm α} {t : Nat} (h : Raw P pl e t) : Ends P pl e := by
  obtain ⟨w, c⟩ := e
  cases c
  · exact ⟨fun _ => ⟨t, h.1⟩, fun _ => ⟨t, h.2⟩⟩
  · exact ⟨fun _ => ⟨t, h.1⟩, fun z => absurd rfl z⟩
  · exact ⟨fun z => absurd rfl z, fun _ => ⟨t, h.1⟩⟩
theorem ends_always {P : List (Vb × α)} {pl : Pl} {w : α} (h1 : Ends P pl (w, .present)) (h2 : Ends P pl (w, .absent)) : Ends P pl (w, .always) :=
  ⟨fun _ => h1.1 nPA, fun _ => h2.2 nAP⟩
theorem JB_ends {P : List (Vb × α)} {e : Itm α} (h : e ∈ JB P) : Ends P .bk e := by
  rcases sbs_memI (acc := []) h with q | ⟨q1, q2, q3⟩
  · obtain ⟨t, r⟩ := Lp_raw.mp q
    exact raw_ends r
  · obtain ⟨t, r⟩ := Lp_raw.mp q2
    obtain ⟨u, r2⟩ := Lp_raw.mp q3
    have := ends_always (raw_ends r) (raw_ends r2)
    obtain ⟨w, c⟩ := e
    have q1 : c = .always := q1
    subst q1
    exact this
theorem JF_ends {P : List (Vb × α)} {e : Itm α} (h : e ∈ JF P) : Ends P .fr e := by
  rcases sbs_memI (acc := []) h with q | ⟨q1, q2, q3⟩
  · rw [List.nil_append, List.mem_reverse] at q
    obtain ⟨t, r⟩ := Lp_raw.mp q
    exact raw_ends r
  · rw [List.nil_append, List.mem_reverse] at q2 q3
    obtain ⟨t, r⟩ := Lp_raw.mp q3
    obtain ⟨u, r2⟩ := Lp_raw.mp q2
    have := ends_always (raw_ends r) (raw_ends r2)
    obtain ⟨w, c⟩ := e
    have q1 : c = .always := q1
    subst q1
    exact this
theorem ends_excl {P : List (Vb × α)} {x y : Itm α} {p q : Pl} (hx : Ends P p x) (hy : Ends P q y) (hpq : p ≠ q) : Excl x y := fun e => by
  obtain ⟨w, c⟩ := x
  obtain ⟨u, d⟩ := y
  have e : w = u := e
  subst e
  have f : ¬ (c ≠ .absent ∧ d ≠ .absent) := fun z => by
    obtain ⟨t, h1⟩ := hx.1 z.1
    obtain ⟨s, h2⟩ := hy.1 z.2
    rw [show res w P false = some (p, t) from h1] at h2
    cases h2
    exact hpq rfl
  have g : ¬ (c ≠ .present ∧ d ≠ .present) := fun z => by
    obtain ⟨t, h1⟩ := hx.2 z.1
    obtain ⟨s, h2⟩ := hy.2 z.2
    rw [show res w P true = some (p, t) from h1] at h2
    cases h2
    exact hpq rfl
  match c, d with
  | .always, .always => exact absurd ⟨nWA, nWA⟩ f
  | .always, .present => exact absurd ⟨nWA, nPA⟩ f
  | .always, .absent => exact absurd ⟨nWP, nAP⟩ g
  | .present, .always => exact absurd ⟨nPA, nWA⟩ f
  | .present, .present => exact absurd ⟨nPA, nPA⟩ f
  | .present, .absent => exact ⟨nPW, nAW, nPA⟩
  | .absent, .always => exact absurd ⟨nAP, nWP⟩ g
  | .absent, .present => exact ⟨nAW, nPW, nAP⟩
  | .absent, .absent => exact absurd ⟨nAP, nAP⟩ g
/-- a present entry comes before the absent one of its word -/
theorem ends_before {P : List (Vb × α)} {w : α} {p q : Pl} (h1 : Ends P p (w, .present)) (h2 : Ends P q (w, .absent)) (hp : isOut p = false) (hq : isOut q = false) : (∃ t, p = q ∧ res w P false = some (p, t) ∧ res w P true = some (p, t)) ∨ tau P (w, .present) < tau P (w, .absent) := by
  obtain ⟨s, e1⟩ := h1.1 nPA
  obtain ⟨t, e2⟩ := h2.2 nAP
  have e1 : res w P false = some (p, s) := e1
  have e2 : res w P true = some (q, t) := e2
  rcases meet.1 _ _ _ _ e1 e2 hp hq with ⟨z1, z2⟩ | z
  · subst z1; subst z2
    exact .inl ⟨s, rfl, e1, e2⟩
  · right
    show (match res w P false with | some z => z.2 | none => 0) < (match res w P true with | some z => z.2 | none => 0)
    rw [e1, e2]
    exact z
end
end FB.Th
set_option Elab.async false
set_option linter.all false
set_option maxRecDepth 100000
set_option maxHeartbeats 4000000
/-! TH4: the entries of a meaning can be made, one after the other; what is made has the meaning. -/
namespace FB.Th
section
variable {α : Type} [DecidableEq α]
/-- may e be made next -/
def rdy (E done : List (Itm α)) (e : Itm α) : Prop := e.2 = .absent → (e.1, Cs.present) ∈ E → (e.1, Cs.present) ∈ done
instance (E done : List (Itm α)) (e : Itm α) : Decidable (rdy E done e) := by unfold rdy; infer_instance
/-- how the program makes them -/
inductive Mk (E : List (Itm α)) : List (Itm α) → List (Itm α) → List (Itm α) → List (Pl × Itm α) → Prop
  | nil {done : List (Itm α)} : Mk E [] [] done []
  | one {x : Itm α} {o b done : List (Itm α)} {M : List (Pl × Itm α)} : rdy E done x → Mk E o b (done ++ [x]) M → Mk E (x :: o) b done ((.fr, x) :: M)
  | other {y : Itm α} {o b done : List (Itm α)} {M : List (Pl × Itm α)} : (∀ x o', o = x :: o' → ¬ rdy E done x) → rdy E done y → Mk E o b (done ++ [y]) M → Mk E o (y :: b) done ((.bk, y) :: M)
theorem mk_ex {E : List (Itm α)} {τ : Itm α → Nat} (hb : ∀ w, (w, Cs.present) ∈ E → (w, Cs.absent) ∈ E → τ (w, .present) < τ (w, .absent)) : ∀ (n : Nat) (o b done : List (Itm α)), o.length + b.length = n → (∀ e ∈ E, e ∈ done ∨ e ∈ o ∨ e ∈ b) → (∀ e, e ∈ o ∨ e ∈ b → e ∈ E) →
    o.Pairwise (fun x y => τ x < τ y) → b.Pairwise (fun x y => τ x < τ y) → ∃ M, Mk E o b done M
  | 0, o, b, done, hn, _, _, _, _ => by
    obtain rfl := List.length_eq_zero_iff.mp (show o.length = 0 by omega)
    obtain rfl := List.length_eq_zero_iff.mp (show b.length = 0 by omega)
    exact ⟨[], .nil⟩
  | n + 1, o, b, done, hn, hE, hs, ho, hbp => by
    have ge : ∀ {l : List (Itm α)} {x : Itm α}, (x :: l).Pairwise (fun x y => τ x < τ y) → ∀ y ∈ x :: l, τ x ≤ τ y := fun {l x} h y hy => by
      rcases List.mem_cons.mp hy with rfl | hy
      · exact Nat.le_refl _
      · exact Nat.le_of_lt ((List.pairwise_cons.mp h).1 y hy)
    have take1 : ∀ x o', o = x :: o' → rdy E done x → ∃ M, Mk E o b done M := fun x o' e r => by
      subst e
      rw [List.length_cons] at hn
      obtain ⟨M, hM⟩ := mk_ex hb n o' b (done ++ [x]) (by omega) (fun e he => by
        rcases hE e he with h | h | h
        · exact .inl (List.mem_append.mpr (.inl h))
        · rcases List.mem_cons.mp h with rfl | h
          · exact .inl (List.mem_append.mpr (.inr (List.mem_singleton.mpr rfl)))
          · exact .inr (.inl h)
        · exact .inr (.inr h)) (fun e he => hs e (he.elim (fun h => .inl (List.mem_cons_of_mem _ h)) .inr)) (List.pairwise_cons.mp ho).2 hbp
      exact ⟨_, .one r hM⟩
    have take2 : ∀ y b', b = y :: b' → (∀ x o', o = x :: o' → ¬ rdy E done x) → rdy E done y → ∃ M, Mk E o b done M := fun y b' e r0 r => by
      subst e
      rw [List.length_cons] at hn
      obtain ⟨M, hM⟩ := mk_ex hb n o b' (done ++ [y]) (by omega) (fun e he => by
        rcases hE e he with h | h | h
        · exact .inl (List.mem_append.mpr (.inl h))
        · exact .inr (.inl h)
        · rcases List.mem_cons.mp h with rfl | h
          · exact .inl (List.mem_append.mpr (.inr (List.mem_singleton.mpr rfl)))
          · exact .inr (.inr h)) (fun e he => hs e (he.elim .inl (fun h => .inr (List.mem_cons_of_mem _ h)))) ho (List.pairwise_cons.mp hbp).2
      exact ⟨_, .other r0 r hM⟩
    cases o with
    | nil =>
      cases b with
      | nil => exact absurd hn (by simp)
      | cons y b' =>
        refine take2 y b' rfl (fun x o' e => by cases e) fun hy hp => ?_
        rcases hE _ hp with h | h | h
        · exact h
        · cases h
        · have h1 := ge hbp _ h
          have h2 := hb y.1 hp (by rw [show (y.1, Cs.absent) = y from by rw [← hy]]; exact hs y (.inr List.mem_cons_self))
          rw [show (y.1, Cs.absent) = y from by rw [← hy]] at h2
          omega
    | cons x o' =>
      by_cases r : rdy E done x
      · exact take1 x o' rfl r
      · have r' : x.2 = .absent ∧ (x.1, Cs.present) ∈ E ∧ (x.1, Cs.present) ∉ done := by
          refine ⟨Classical.byContradiction fun z => r fun q => absurd q z, ?_, ?_⟩
          · exact Classical.byContradiction fun z => r fun _ q => absurd q z
          · exact fun z => r fun _ _ => z
        obtain ⟨hx, hp, hd⟩ := r'
        have ex : (x.1, Cs.absent) = x := by rw [← hx]
        have lt := hb x.1 hp (by rw [ex]; exact hs x (.inl List.mem_cons_self))
        rw [ex] at lt
        have hpb : (x.1, Cs.present) ∈ b := by
          rcases hE _ hp with h | h | h
          · exact absurd h hd
          · have := ge ho _ h
            omega
          · exact h
        cases b with
        | nil => cases hpb
        | cons y b' =>
          have hy1 := ge hbp _ hpb
          refine take2 y b' rfl (fun x2 o2 e => by cases e; exact r) fun hy hq => ?_
          have ey : (y.1, Cs.absent) = y := by rw [← hy]
          have h2 := hb y.1 hq (by rw [ey]; exact hs y (.inr List.mem_cons_self))
          rw [ey] at h2
          rcases hE _ hq with h | h | h
          · exact h
          · have := ge ho _ h
            omega
          · have := ge hbp _ h
            omega
theorem mk_fr {E : List (Itm α)} {o b done : List (Itm α)} {M : List (Pl × Itm α)} (h : Mk E o b done M) : (M.filter fun x => decide (x.1 = .fr)).map (·.2) = o := by
  induction h with
  | nil => rfl
  | one _ _ ih => rw [List.filter_cons_of_pos (by rfl), List.map_cons, ih]
  | other _ _ _ ih => rw [List.filter_cons_of_neg (Bool.false_ne_true), ih]
theorem mk_bk {E : List (Itm α)} {o b done : List (Itm α)} {M : List (Pl × Itm α)} (h : Mk E o b done M) : (M.filter fun x => decide (x.1 = .bk)).map (·.2) = b := by
  induction h with
  | nil => rfl
  | one _ _ ih => rw [List.filter_cons_of_neg (Bool.false_ne_true), ih]
  | other _ _ _ ih => rw [List.filter_cons_of_pos (by rfl), List.map_cons, ih]
theorem mk_pl {E : List (Itm α)} {o b done : List (Itm α)} {M : List (Pl × Itm α)} (h : Mk E o b done M) : ∀ x ∈ M, (x.1 = .fr ∧ x.2 ∈ o) ∨ (x.1 = .bk ∧ x.2 ∈ b) := by
  induction h with
  | nil => intro x hx; cases hx
  | one _ _ ih =>
    intro x hx
    rcases List.mem_cons.mp hx with rfl | hx
    · exact .inl ⟨rfl, List.mem_cons_self⟩
    · exact (ih x hx).imp (fun z => ⟨z.1, List.mem_cons_of_mem _ z.2⟩) id
  | other _ _ _ ih =>
    intro x hx
    rcases List.mem_cons.mp hx with rfl | hx
    · exact .inr ⟨rfl, List.mem_cons_self⟩
    · exact (ih x hx).imp id (fun z => ⟨z.1, List.mem_cons_of_mem _ z.2⟩)
theorem mk_len {E : List (Itm α)} {o b done : List (Itm α)} {M : List (Pl × Itm α)} (h : Mk E o b done M) : M.length = o.length + b.length := by
  induction h with
  | nil => rfl
  | one _ _ ih => simp only [List.length_cons, ih]; omega
  | other _ _ _ ih => simp only [List.length_cons, ih]; omega
/-- of one word: present before absent, nothing else -/
def Pr (x y : Pl × Itm α) : Prop := x.2.1 = y.2.1 → x.2.2 = .present ∧ y.2.2 = .absent
theorem mk_pr {E : List (Itm α)} {o b done : List (Itm α)} {M : List (Pl × Itm α)} (h : Mk E o b done M) : (done ++ (o ++ b)).Pairwise Excl → (∀ e, e ∈ o ∨ e ∈ b → e ∈ E) → M.Pairwise Pr := by
  induction h with
  | nil => intro _ _; exact List.Pairwise.nil
  | @one x o b done M r hM ih =>
    intro hx hs
    have hx2 : (done ++ [x] ++ (o ++ b)).Pairwise Excl := by rw [List.append_assoc]; exact hx
    refine List.pairwise_cons.mpr ⟨fun y hy e => ?_, ih hx2 fun e he => hs e (he.elim (fun h => .inl (List.mem_cons_of_mem _ h)) .inr)⟩
    have hyo : y.2 ∈ o ++ b := List.mem_append.mpr ((mk_pl hM y hy).imp (·.2) (·.2))
    obtain ⟨a1, a2, a3⟩ := List.pairwise_append.mp hx
    have exl := (List.pairwise_cons.mp a2).1 y.2 hyo e
    obtain ⟨b1, b2, b3⟩ := exl
    have b1 : x.2 ≠ .always := b1
    have b3 : x.2 ≠ y.2.2 := b3
    have e : x.1 = y.2.1 := e
    have ncx : x.2 ≠ .absent := fun hc => by
      have hyp : y.2.2 = .present := by
        rw [hc] at b3
        cases q : y.2.2 with
        | always => exact absurd q b2
        | present => rfl
        | absent => exact absurd q.symm b3
      have ey : (x.1, Cs.present) = y.2 := by rw [e, ← hyp]
      have hd := r hc (by rw [ey]; exact hs _ ((mk_pl hM y hy).imp (fun z => List.mem_cons_of_mem _ z.2) (·.2)))
      rw [ey] at hd
      have := a3 _ hd y.2 (List.mem_cons_of_mem _ hyo) rfl
      exact this.2.2 rfl
    have hxp : x.2 = .present := by
      cases q : x.2 with
      | always => exact absurd q b1
      | present => rfl
      | absent => exact absurd q ncx
    refine ⟨hxp, ?_⟩
    rw [hxp] at b3
    cases q : y.2.2 with
    | always => exact absurd q b2
    | present => exact absurd q.symm b3
    | absent => rfl
  | @other x o b done M r0 r hM ih =>
    intro hx hs
    have hx1 : (done ++ (x :: (o ++ b))).Pairwise Excl := by
      have p : (done ++ (x :: (o ++ b))).Perm (done ++ (o ++ x :: b)) := List.Perm.append_left _ List.perm_middle.symm
      exact (p.pairwise_iff (fun {a b} h => Excl.symm h)).mpr hx
    have hx2 : (done ++ [x] ++ (o ++ b)).Pairwise Excl := by rw [List.append_assoc]; exact hx1
    refine List.pairwise_cons.mpr ⟨fun y hy e => ?_, ih hx2 fun e he => hs e (he.elim .inl (fun h => .inr (List.mem_cons_of_mem _ h)))⟩
    have hyo : y.2 ∈ o ++ b := List.mem_append.mpr ((mk_pl hM y hy).imp (·.2) (·.2))
    obtain ⟨a1, a2, a3⟩ := List.pairwise_append.mp hx1
    have exl := (List.pairwise_cons.mp a2).1 y.2 hyo e
    obtain ⟨b1, b2, b3⟩ := exl
    have b1 : x.2 ≠ .always := b1
    have b3 : x.2 ≠ y.2.2 := b3
    have e : x.1 = y.2.1 := e
    have ncx : x.2 ≠ .absent := fun hc => by
      have hyp : y.2.2 = .present := by
        rw [hc] at b3
        cases q : y.2.2 with
        | always => exact absurd q b2
        | present => rfl
        | absent => exact absurd q.symm b3
      have ey : (x.1, Cs.present) = y.2 := by rw [e, ← hyp]
      have hd := r hc (by rw [ey]; exact hs _ ((mk_pl hM y hy).imp (·.2) (fun z => List.mem_cons_of_mem _ z.2)))
      rw [ey] at hd
      have := a3 _ hd y.2 (List.mem_cons_of_mem _ hyo) rfl
      exact this.2.2 rfl
    have hxp : x.2 = .present := by
      cases q : x.2 with
      | always => exact absurd q b1
      | present => rfl
      | absent => exact absurd q ncx
    refine ⟨hxp, ?_⟩
    rw [hxp] at b3
    cases q : y.2.2 with
    | always => exact absurd q b2
    | present => exact absurd q.symm b3
    | absent => rfl
/-! ### the program made -/
def vbOf : Pl → Cs → Vb
  | .fr, .always => .front
  | .fr, .present => .lift
  | .fr, .absent => .addfront
  | _, .always => .back
  | _, .present => .sink
  | _, .absent => .addback
def opQ (x : Pl × Itm α) : Vb × α := (vbOf x.1 x.2.2, x.2.1)
theorem vb_acts (p : Pl) (c : Cs) : acts (vbOf p c) false = decide (c ≠ .absent) ∧ acts (vbOf p c) true = decide (c ≠ .present) := by cases p <;> cases c <;> exact ⟨rfl, rfl⟩
theorem vb_goes {p : Pl} (h : p = .fr ∨ p = .bk) (c : Cs) : goes (vbOf p c) = p := by rcases h with rfl | rfl <;> cases c <;> rfl
theorem resM (w : α) : ∀ M : List (Pl × Itm α), M.Pairwise Pr → (∀ x ∈ M, x.1 = .fr ∨ x.1 = .bk) →
    (∀ pl i, res w (M.map opQ) false = some (pl, i) ↔ ∃ c, M[i]? = some (pl, (w, c)) ∧ c ≠ .absent) ∧ (∀ pl i, res w (M.map opQ) true = some (pl, i) ↔ ∃ c, M[i]? = some (pl, (w, c)) ∧ c ≠ .present)
  | [], _, _ => ⟨fun pl i => ⟨fun h => (nomatch h), fun ⟨c, h, _⟩ => (nomatch h)⟩, fun pl i => ⟨fun h => (nomatch h), fun ⟨c, h, _⟩ => (nomatch h)⟩⟩
  | x :: M, hp, hpl => by
    obtain ⟨hx, hp'⟩ := List.pairwise_cons.mp hp
    obtain ⟨ih1, ih2⟩ := resM w M hp' fun y hy => hpl y (List.mem_cons_of_mem _ hy)
    obtain ⟨p0, u, c0⟩ := x
    have g := vb_goes (hpl _ List.mem_cons_self) c0
    have g : goes (vbOf p0 c0) = p0 := g
    have go : isOut p0 = false := by rcases hpl _ List.mem_cons_self with h | h <;> (have h : p0 = _ := h; rw [h]; rfl)
    obtain ⟨af, at'⟩ := vb_acts p0 c0
    rw [List.map_cons]
    by_cases hw : u = w
    · subst hw
      have ra : ∀ b, acts (vbOf p0 c0) b = true → res u (opQ (p0, (u, c0)) :: M.map opQ) b = match res u (M.map opQ) false with
        | none => some (p0, 0)
        | some z => some (z.1, z.2 + 1) := fun b h => by
        have := res_act (w := u) (o := opQ (p0, (u, c0))) (P := M.map opQ) (b := b) rfl h
        rw [this]
        show (match res u (M.map opQ) (isOut (goes (vbOf p0 c0))) with | none => some (goes (vbOf p0 c0), 0) | some z => some (z.1, z.2 + 1)) = _
        rw [g, go]
      have rn : ∀ b, acts (vbOf p0 c0) b = false → res u (opQ (p0, (u, c0)) :: M.map opQ) b = up (res u (M.map opQ) b) := fun b h => res_no fun q => by
        have q2 : acts (vbOf p0 c0) b = true := q.2
        rw [h] at q2; cases q2
      -- nothing of the word acts behind, seen from present
      have nof : res u (M.map opQ) false = none := by
        cases q : res u (M.map opQ) false with
        | none => rfl
        | some z =>
          obtain ⟨c, h1, h2⟩ := (ih1 z.1 z.2).mp q
          exact absurd (hx _ (List.mem_of_getElem? h1) rfl).2 h2
      have later : ∀ {i : Nat} {pl : Pl} {c : Cs}, M[i]? = some (pl, (u, c)) → c0 = .present ∧ c = .absent := fun h => hx _ (List.mem_of_getElem? h) rfl
      constructor
      · intro pl i
        by_cases ha : c0 = .absent
        · rw [rn false (by rw [af, ha]; rfl), nof]
          constructor
          · intro h; cases h
          · rintro ⟨c, h1, h2⟩
            cases i with
            | zero =>
              rw [List.getElem?_cons_zero] at h1
              cases h1
              exact absurd ha h2
            | succ i =>
              rw [List.getElem?_cons_succ] at h1
              exact absurd (later h1).2 h2
        · rw [ra false (by rw [af]; exact decide_eq_true ha), nof]
          constructor
          · intro h
            cases h
            exact ⟨c0, rfl, ha⟩
          · rintro ⟨c, h1, h2⟩
            cases i with
            | zero =>
              rw [List.getElem?_cons_zero] at h1
              cases h1
              rfl
            | succ i =>
              rw [List.getElem?_cons_succ] at h1
              exact absurd (later h1).2 h2
      · intro pl i
        by_cases ha : c0 = .present
        · rw [rn true (by rw [at', ha]; rfl)]
          constructor
          · intro h
            cases q : res u (M.map opQ) true with
            | none => rw [q] at h; cases h
            | some z =>
              rw [q] at h
              cases h
              obtain ⟨c, h1, h2⟩ := (ih2 z.1 z.2).mp q
              exact ⟨c, by rw [List.getElem?_cons_succ]; exact h1, h2⟩
          · rintro ⟨c, h1, h2⟩
            cases i with
            | zero =>
              rw [List.getElem?_cons_zero] at h1
              cases h1
              exact absurd ha h2
            | succ i =>
              rw [List.getElem?_cons_succ] at h1
              rw [(ih2 pl i).mpr ⟨c, h1, h2⟩]; rfl
        · rw [ra true (by rw [at']; exact decide_eq_true ha), nof]
          constructor
          · intro h
            cases h
            exact ⟨c0, rfl, ha⟩
          · rintro ⟨c, h1, h2⟩
            cases i with
            | zero =>
              rw [List.getElem?_cons_zero] at h1
              cases h1
              rfl
            | succ i =>
              rw [List.getElem?_cons_succ] at h1
              exact absurd (later h1).1 ha
    · have rn : ∀ b, res w (opQ (p0, (u, c0)) :: M.map opQ) b = up (res w (M.map opQ) b) := fun b => res_no fun q => hw q.1
      have shift : ∀ (b : Bool) (n : Cs), (∀ pl i, res w (M.map opQ) b = some (pl, i) ↔ ∃ c, M[i]? = some (pl, (w, c)) ∧ c ≠ n) → ∀ pl i, up (res w (M.map opQ) b) = some (pl, i) ↔ ∃ c, ((p0, (u, c0)) :: M)[i]? = some (pl, (w, c)) ∧ c ≠ n := fun b n ih pl i => by
        constructor
        · intro h
          cases q : res w (M.map opQ) b with
          | none => rw [q] at h; cases h
          | some z =>
            rw [q] at h
            cases h
            obtain ⟨c, h1, h2⟩ := (ih z.1 z.2).mp q
            exact ⟨c, by rw [List.getElem?_cons_succ]; exact h1, h2⟩
        · rintro ⟨c, h1, h2⟩
          cases i with
          | zero =>
            rw [List.getElem?_cons_zero] at h1
            cases h1
            exact absurd rfl hw
          | succ i =>
            rw [List.getElem?_cons_succ] at h1
            rw [(ih pl i).mpr ⟨c, h1, h2⟩]; rfl
      rw [rn, rn]
      exact ⟨shift false .absent ih1, shift true .present ih2⟩
def dropQ (D : List α) : List (Vb × α) := D.map fun w => (.drop, w)
def Qof (M : List (Pl × Itm α)) (D : List α) : List (Vb × α) := M.map opQ ++ dropQ D
theorem res_drops_no {w : α} {D : List α} {b : Bool} (h : w ∉ D) : res w (dropQ D) b = none := res_none_id fun o ho e => by
  obtain ⟨x, hx, rfl⟩ := List.mem_map.mp ho
  have e : x = w := e
  exact absurd (e ▸ hx) h
theorem out_drops {w : α} {D : List α} {b : Bool} (h : w ∈ D) : outA w (dropQ D) b = true :=
  ends_out (fun o ho _ => by obtain ⟨x, hx, rfl⟩ := List.mem_map.mp ho; rfl) (List.mem_map.mpr ⟨w, h, rfl⟩)
/-- what is made: no word of the entries is dropped -/
structure Made (M : List (Pl × Itm α)) (D : List α) : Prop where
  pr : M.Pairwise Pr
  pl : ∀ x ∈ M, x.1 = .fr ∨ x.1 = .bk
  sep : ∀ x ∈ M, x.2.1 ∉ D
theorem Made.resQ {M : List (Pl × Itm α)} {D : List α} (h : Made M D) {w : α} {b : Bool} {pl : Pl} {i : Nat} (hp : isOut pl = false) : res w (Qof M D) b = some (pl, i) ↔ res w (M.map opQ) b = some (pl, i) := by
  unfold Qof
  rw [res_append]
  by_cases hw : w ∈ D
  · have no : ∀ b, res w (M.map opQ) b = none := fun b => res_none_id fun o ho e => by
      obtain ⟨x, hx, rfl⟩ := List.mem_map.mp ho
      have e : x.2.1 = w := e
      exact absurd (e ▸ hw) (h.sep x hx)
    rw [no, outA_none (no b)]
    have hno := out_drops (w := w) (D := D) (b := b) hw
    cases q : res w (dropQ D) b with
    | none => exact ⟨fun z => (by cases z), fun z => (by cases z)⟩
    | some z =>
      rw [outA_some q] at hno
      constructor
      · intro e
        have e : some (z.1, (M.map opQ).length + z.2) = some (pl, i) := e
        rw [(Prod.mk.inj (Option.some.inj e)).1, hp] at hno
        cases hno
      · intro e; cases e
  · rw [res_drops_no hw]
theorem Made.out {M : List (Pl × Itm α)} {D : List α} (h : Made M D) (w : α) : outA w (Qof M D) false = decide (w ∈ D) := by
  unfold Qof
  rw [outA_append]
  by_cases hw : w ∈ D
  · rw [decide_eq_true hw, out_drops hw]
  · rw [decide_eq_false hw, outA_none (res_drops_no hw)]
    cases q : res w (M.map opQ) false with
    | none => rw [outA_none q]
    | some z =>
      rw [outA_some q]
      obtain ⟨c, h1, _⟩ := ((resM w M h.pr h.pl).1 z.1 z.2).mp q
      rcases h.pl _ (List.mem_of_getElem? h1) with e | e <;> (have e : z.1 = _ := e; rw [e]; rfl)
/-- the entries with their times, as they are made -/
def et (pl : Pl) : Nat → List (Pl × Itm α) → List (Itm α × Int)
  | _, [] => []
  | k, x :: M => if x.1 = pl then (x.2, (k : Int)) :: et pl (k + 1) M else et pl (k + 1) M
theorem et_mem {pl : Pl} {p : Itm α × Int} : ∀ {M : List (Pl × Itm α)} {k : Nat}, p ∈ et pl k M ↔ ∃ i : Nat, M[i]? = some (pl, p.1) ∧ p.2 = ((k + i : Nat) : Int)
  | [], k => ⟨fun h => (by cases h), fun ⟨i, h, _⟩ => (by cases h)⟩
  | x :: M, k => by
    have ih := et_mem (pl := pl) (p := p) (M := M) (k := k + 1)
    have back : ∀ i : Nat, (x :: M)[i + 1]? = some (pl, p.1) → p.2 = ((k + (i + 1) : Nat) : Int) → p ∈ et pl (k + 1) M := fun i h1 h2 => ih.mpr ⟨i, by rw [List.getElem?_cons_succ] at h1; exact h1, by rw [h2]; congr 1; omega⟩
    have forth : p ∈ et pl (k + 1) M → ∃ i : Nat, (x :: M)[i]? = some (pl, p.1) ∧ p.2 = ((k + i : Nat) : Int) := fun h => by
      obtain ⟨i, h1, h2⟩ := ih.mp h
      exact ⟨i + 1, by rw [List.getElem?_cons_succ]; exact h1, by rw [h2]; congr 1; omega⟩
    unfold et
    by_cases h : x.1 = pl
    · rw [if_pos h]
      constructor
      · intro hp
        rcases List.mem_cons.mp hp with rfl | hp
        · exact ⟨0, by rw [List.getElem?_cons_zero, ← h], rfl⟩
        · exact forth hp
      · rintro ⟨i, h1, h2⟩
        cases i with
        | zero =>
          rw [List.getElem?_cons_zero] at h1
          have e : x = (pl, p.1) := Option.some.inj h1
          refine List.mem_cons.mpr (.inl ?_)
          rw [e]
          exact Prod.ext rfl h2
        | succ i => exact List.mem_cons_of_mem _ (back i h1 h2)
    · rw [if_neg h]
      constructor
      · exact forth
      · rintro ⟨i, h1, h2⟩
        cases i with
        | zero =>
          rw [List.getElem?_cons_zero] at h1
          exact absurd (by rw [Option.some.inj h1]) h
        | succ i => exact back i h1 h2
theorem et_srt {pl : Pl} : ∀ {M : List (Pl × Itm α)} {k : Nat}, (et pl k M).Pairwise fun p q => p.2 < q.2
  | [], k => List.Pairwise.nil
  | x :: M, k => by
    have ih := et_srt (pl := pl) (M := M) (k := k + 1)
    unfold et
    split
    · refine List.pairwise_cons.mpr ⟨fun q hq => ?_, ih⟩
      obtain ⟨i, _, h2⟩ := et_mem.mp hq
      rw [h2]
      show (k : Int) < _
      omega
    · exact ih
theorem et_fst {pl : Pl} : ∀ {M : List (Pl × Itm α)} {k : Nat}, (et pl k M).map (·.1) = (M.filter fun x => decide (x.1 = pl)).map (·.2)
  | [], k => rfl
  | x :: M, k => by
    have ih := et_fst (pl := pl) (M := M) (k := k + 1)
    unfold et
    by_cases h : x.1 = pl
    · rw [if_pos h, List.filter_cons_of_pos (p := fun x : Pl × Itm α => decide (x.1 = pl)) (decide_eq_true h), List.map_cons, List.map_cons, ih]
    · rw [if_neg h, List.filter_cons_of_neg (p := fun x : Pl × Itm α => decide (x.1 = pl)) (by rw [decide_eq_false h]; exact Bool.false_ne_true), ih]
/-- the entries of what is made -/
theorem Made.ordd {M : List (Pl × Itm α)} {D : List α} (h : Made M D) {pl : Pl} (hpl : pl = .fr ∨ pl = .bk) : Lp (Qof M D) pl = (M.filter fun x => decide (x.1 = pl)).map (·.2) := by
  have hp : isOut pl = false := by rcases hpl with rfl | rfl <;> rfl
  have hraw : ∀ (e : Itm α) (t : Nat), Raw (Qof M D) pl e t ↔ M[t]? = some (pl, e) := fun e t => by
    obtain ⟨w, c⟩ := e
    obtain ⟨r1, r2⟩ := resM w M h.pr h.pl
    have a1 := (h.resQ (w := w) (b := false) (i := t) hp).trans (r1 pl t)
    have a2 := (h.resQ (w := w) (b := true) (i := t) hp).trans (r2 pl t)
    have uq : ∀ {c d : Cs}, M[t]? = some (pl, (w, c)) → M[t]? = some (pl, (w, d)) → c = d := fun e1 e2 => by
      rw [e1] at e2
      cases e2
      rfl
    unfold Raw
    cases c <;> dsimp only
    · rw [a1, a2]
      constructor
      · rintro ⟨⟨c, h1, h2⟩, ⟨d, h3, h4⟩⟩
        have := uq h1 h3
        subst this
        cases c
        · exact h1
        · exact absurd rfl h4
        · exact absurd rfl h2
      · exact fun z => ⟨⟨_, z, nWA⟩, ⟨_, z, nWP⟩⟩
    · rw [a1, ne_eq, a2]
      constructor
      · rintro ⟨⟨c, h1, h2⟩, h3⟩
        cases c
        · exact absurd ⟨_, h1, nWP⟩ h3
        · exact h1
        · exact absurd rfl h2
      · refine fun z => ⟨⟨_, z, nPA⟩, ?_⟩
        rintro ⟨d, h3, h4⟩
        exact h4 (uq z h3).symm
    · rw [a2, ne_eq, a1]
      constructor
      · rintro ⟨⟨c, h1, h2⟩, h3⟩
        cases c
        · exact absurd ⟨_, h1, nWA⟩ h3
        · exact absurd rfl h2
        · exact h1
      · refine fun z => ⟨⟨_, z, nAP⟩, ?_⟩
        rintro ⟨d, h3, h4⟩
        exact h4 (uq z h3).symm
  have mem : ∀ p, p ∈ ents (wordsOf (Qof M D)) (Qof M D) pl ↔ p ∈ et pl 0 M := fun p => by
    rw [ents_raw, et_mem]
    constructor
    · rintro ⟨_, t, h1, h2⟩
      exact ⟨t, (hraw _ _).mp h2, by rw [h1, Nat.zero_add]⟩
    · rintro ⟨t, h1, h2⟩
      have r := (hraw p.1 t).mpr h1
      exact ⟨r.word, t, by rw [h2, Nat.zero_add], r⟩
  have nd2 : (et pl 0 M).Nodup := et_srt.imp fun {a b} z e => by rw [e] at z; exact absurd z (Int.lt_irrefl _)
  have pm : (ents (wordsOf (Qof M D)) (Qof M D) pl).Perm (et pl 0 M) := (List.perm_ext_iff_of_nodup (ents_nodup _ _ (words_nd _)) nd2).mpr mem
  have e : srtP (ents (wordsOf (Qof M D)) (Qof M D) pl) = et pl 0 M := by
    refine ((srtP_perm _).trans pm).eq_of_pairwise (le := fun a b => a.2 ≤ b.2) (fun a b ha hb h1 h2 => ?_) (srtP_srt _) (et_srt.imp fun {a b} z => Int.le_of_lt z)
    exact ents_uniq a ((srtP_perm _).mem_iff.mp ha) b ((mem b).mpr hb) (Int.le_antisymm h1 h2)
  show (srtP (ents (wordsOf (Qof M D)) (Qof M D) pl)).map (·.1) = _
  rw [e, et_fst]
end
open PySem (Str)
/-- front, back, dropped: as the program tells it -/
def JD (P : List (Vb × Str)) : List Str := srtS (outs (wordsOf P) P)
theorem JD_mem {P : List (Vb × Str)} {w : Str} : w ∈ JD P ↔ ∃ t, res w P false = some (.out, t) := by
  unfold JD
  rw [(srtS_perm _).mem_iff]
  unfold outs
  rw [List.mem_filter]
  constructor
  · rintro ⟨_, h⟩
    cases q : res w P false with
    | none => rw [outA_none q] at h; cases h
    | some z =>
      rw [outA_some q] at h
      obtain ⟨p, t⟩ := z
      cases p <;> first | exact ⟨t, rfl⟩ | cases h
  · rintro ⟨t, h⟩
    obtain ⟨v, hv, _⟩ := res_isSome (w := w) (P := P) (b := false) (by rw [h]; rfl)
    exact ⟨(words_mem _ _).mpr ⟨_, hv, rfl⟩, by rw [outA_some h]; rfl⟩
theorem JF_eq (P : List (Vb × Str)) : JF P = sbs .absent .present (meanE P).1 := rfl
theorem JB_eq (P : List (Vb × Str)) : JB P = sbs .present .absent (meanE P).2.1 := rfl
theorem JD_eq (P : List (Vb × Str)) : JD P = (meanE P).2.2 := rfl
/-- the entries of a meaning, each word apart -/
theorem J_excl (P : List (Vb × Str)) : ((JF P).reverse ++ JB P).Pairwise Excl := by
  rw [List.pairwise_append]
  refine ⟨List.pairwise_reverse.mpr ((JF_excl P).imp fun h => h.symm), JB_excl P, fun x hx y hy => ?_⟩
  exact ends_excl (JF_ends (List.mem_reverse.mp hx)) (JB_ends hy) (by decide)
theorem J_sep (P : List (Vb × Str)) {e : Itm Str} {pl : Pl} (h : Ends P pl e) (hp : isOut pl = false) : e.1 ∉ JD P := fun hd => by
  obtain ⟨t, ht⟩ := JD_mem.mp hd
  obtain ⟨w, c⟩ := e
  have ht : res w P false = some (.out, t) := ht
  by_cases hc : c = .absent
  · obtain ⟨u, hu⟩ := h.2 (show c ≠ .present by rw [hc]; decide)
    have hu : res w P true = some (pl, u) := hu
    have := meet.2 t ht
    rw [outA_some hu] at this
    rw [show isOut pl = false from hp] at this
    cases this
  · obtain ⟨u, hu⟩ := h.1 hc
    have hu : res w P false = some (pl, u) := hu
    rw [ht] at hu
    cases hu
    cases hp
theorem J_before (P : List (Vb × Str)) {w : Str} (h1 : (w, Cs.present) ∈ (JF P).reverse ++ JB P) (h2 : (w, Cs.absent) ∈ (JF P).reverse ++ JB P) : tau P (w, .present) < tau P (w, .absent) := by
  have en : ∀ e, e ∈ (JF P).reverse ++ JB P → ∃ pl, isOut pl = false ∧ Ends P pl e ∧ (∃ t, Raw P pl e t) ∨ e.2 = .always := fun e he => by
    rcases List.mem_append.mp he with he | he
    · have he := List.mem_reverse.mp he
      rcases sbs_memI (acc := []) he with q | q
      · rw [List.nil_append, List.mem_reverse] at q
        exact ⟨.fr, .inl ⟨rfl, JF_ends he, Lp_raw.mp q⟩⟩
      · exact ⟨.fr, .inr q.1⟩
    · rcases sbs_memI (acc := []) he with q | q
      · exact ⟨.bk, .inl ⟨rfl, JB_ends he, Lp_raw.mp q⟩⟩
      · exact ⟨.bk, .inr q.1⟩
  obtain ⟨p, hp⟩ := en _ h1
  obtain ⟨q, hq⟩ := en _ h2
  rcases hp with ⟨p1, p2, t, p3⟩ | hp
  · rcases hq with ⟨q1, q2, u, q3⟩ | hq
    · rcases ends_before p2 q2 p1 q1 with ⟨s, e1, e2, e3⟩ | z
      · exfalso
        have p3 : res w P false = some (p, t) ∧ res w P true ≠ some (p, t) := p3
        rw [e2] at p3
        have := p3.1
        cases this
        exact p3.2 e3
      · exact z
    · cases hq
  · cases hp
/-- the shortest program of a meaning -/
theorem short_ex (P : List (Vb × Str)) : ∃ M, Mk ((JF P).reverse ++ JB P) (JF P).reverse (JB P) [] M ∧ Made M (JD P) ∧ JF (Qof M (JD P)) = JF P ∧ JB (Qof M (JD P)) = JB P ∧ JD (Qof M (JD P)) = JD P := by
  obtain ⟨M, hM⟩ := mk_ex (E := (JF P).reverse ++ JB P) (τ := tau P) (fun w h1 h2 => J_before P h1 h2) _ (JF P).reverse (JB P) [] rfl (fun e he => .inr (List.mem_append.mp he)) (fun e he => List.mem_append.mpr he) (List.pairwise_reverse.mpr (JF_srt P)) (JB_srt P)
  have hpl := mk_pl hM
  have md : Made M (JD P) := by
    refine ⟨mk_pr hM (by rw [List.nil_append]; exact J_excl P) (fun e he => List.mem_append.mpr he), fun x hx => (hpl x hx).imp (·.1) (·.1), fun x hx => ?_⟩
    rcases hpl x hx with ⟨_, h⟩ | ⟨_, h⟩
    · exact J_sep P (JF_ends (List.mem_reverse.mp h)) rfl
    · exact J_sep P (JB_ends h) rfl
  refine ⟨M, hM, md, ?_, ?_, ?_⟩
  · unfold JF
    rw [md.ordd (.inl rfl), mk_fr hM, List.reverse_reverse]
    exact sbs_idem (by decide) _
  · unfold JB
    rw [md.ordd (.inr rfl), mk_bk hM]
    exact sbs_idem (by decide) _
  · have hp : (outs (wordsOf (Qof M (JD P))) (Qof M (JD P))).Perm (outs (wordsOf P) P) := by
      refine (List.perm_ext_iff_of_nodup ((words_nd _).filter _) ((words_nd _).filter _)).mpr fun w => ?_
      have e1 : w ∈ outs (wordsOf P) P ↔ w ∈ JD P := by unfold JD; rw [(srtS_perm _).mem_iff]
      refine Iff.trans ?_ e1.symm
      show w ∈ (wordsOf (Qof M (JD P))).filter _ ↔ _
      rw [List.mem_filter, md.out, decide_eq_true_eq]
      refine ⟨(·.2), fun h => ⟨(words_mem _ _).mpr ⟨(.drop, w), ?_, rfl⟩, h⟩⟩
      exact List.mem_append.mpr (.inr (List.mem_map.mpr ⟨w, h, rfl⟩))
    exact srtS_eq hp
/-- it is not longer -/
theorem short_len (P : List (Vb × Str)) : (JF P).length + (JB P).length + (JD P).length ≤ P.length := by
  let ix : Str → Nat := fun w => match res w P false with | some z => z.2 | none => 0
  have idx : ∀ {pl : Pl} {e : Itm Str}, Ends P pl e → ∃ v, P[tau P e]? = some (v, e.1) ∧ goes v = pl := fun {pl e} h => by
    obtain ⟨w, c⟩ := e
    cases c
    · obtain ⟨t, ht⟩ := h.1 nWA
      have ht : res w P false = some (pl, t) := ht
      obtain ⟨_, _, v, h1, h2⟩ := res_lt _ _ _ _ ht
      refine ⟨v, ?_, h2⟩
      show P[match res w P false with | some z => z.2 | none => 0]? = _
      rw [ht]; exact h1
    · obtain ⟨t, ht⟩ := h.1 nPA
      have ht : res w P false = some (pl, t) := ht
      obtain ⟨_, _, v, h1, h2⟩ := res_lt _ _ _ _ ht
      refine ⟨v, ?_, h2⟩
      show P[match res w P false with | some z => z.2 | none => 0]? = _
      rw [ht]; exact h1
    · obtain ⟨t, ht⟩ := h.2 nAP
      have ht : res w P true = some (pl, t) := ht
      obtain ⟨_, _, v, h1, h2⟩ := res_lt _ _ _ _ ht
      refine ⟨v, ?_, h2⟩
      show P[match res w P true with | some z => z.2 | none => 0]? = _
      rw [ht]; exact h1
  have idxD : ∀ w ∈ JD P, ∃ v, P[ix w]? = some (v, w) ∧ goes v = .out := fun w hw => by
    obtain ⟨t, ht⟩ := JD_mem.mp hw
    obtain ⟨_, _, v, h1, h2⟩ := res_lt _ _ _ _ ht
    refine ⟨v, ?_, h2⟩
    show P[match res w P false with | some z => z.2 | none => 0]? = _
    rw [ht]; exact h1
  have nd : ((JF P).map (tau P) ++ ((JB P).map (tau P) ++ (JD P).map ix)).Nodup := by
    refine List.nodup_append.mpr ⟨?_, List.nodup_append.mpr ⟨?_, ?_, ?_⟩, ?_⟩
    · rw [List.nodup_iff_pairwise_ne, List.pairwise_map]
      exact (JF_srt P).imp fun {a b} h e => by omega
    · rw [List.nodup_iff_pairwise_ne, List.pairwise_map]
      exact (JB_srt P).imp fun {a b} h e => by omega
    · rw [List.nodup_iff_pairwise_ne, List.pairwise_map]
      have : (JD P).Nodup := (srtS_perm _).nodup_iff.mpr ((words_nd _).filter _)
      refine this.imp_of_mem fun {a b} ha hb hne e => hne ?_
      obtain ⟨v, h1, _⟩ := idxD a ha
      obtain ⟨u, h2, _⟩ := idxD b hb
      rw [e, h2] at h1
      exact ((Prod.mk.inj (Option.some.inj h1)).2).symm
    · intro a ha b hb e
      obtain ⟨x, hx, rfl⟩ := List.mem_map.mp ha
      obtain ⟨y, hy, rfl⟩ := List.mem_map.mp hb
      obtain ⟨v, h1, g1⟩ := idx (JB_ends hx)
      obtain ⟨u, h2, g2⟩ := idxD y hy
      rw [e, h2] at h1
      rw [(Prod.mk.inj (Option.some.inj h1)).1, g1] at g2
      cases g2
    · intro a ha b hb e
      obtain ⟨x, hx, rfl⟩ := List.mem_map.mp ha
      obtain ⟨v, h1, g1⟩ := idx (JF_ends hx)
      rcases List.mem_append.mp hb with hb | hb
      · obtain ⟨y, hy, rfl⟩ := List.mem_map.mp hb
        obtain ⟨u, h2, g2⟩ := idx (JB_ends hy)
        rw [e, h2] at h1
        rw [(Prod.mk.inj (Option.some.inj h1)).1, g1] at g2
        cases g2
      · obtain ⟨y, hy, rfl⟩ := List.mem_map.mp hb
        obtain ⟨u, h2, g2⟩ := idxD y hy
        rw [e, h2] at h1
        rw [(Prod.mk.inj (Option.some.inj h1)).1, g1] at g2
        cases g2
  have sub : ((JF P).map (tau P) ++ ((JB P).map (tau P) ++ (JD P).map ix)) ⊆ List.range P.length := fun i hi => by
    have lt : ∀ {i : Nat} {z : Vb × Str}, P[i]? = some z → i ∈ List.range P.length := fun h => List.mem_range.mpr (List.getElem?_eq_some_iff.mp h).1
    rcases List.mem_append.mp hi with hi | hi
    · obtain ⟨x, hx, rfl⟩ := List.mem_map.mp hi
      obtain ⟨v, h1, _⟩ := idx (JF_ends hx)
      exact lt h1
    · rcases List.mem_append.mp hi with hi | hi
      · obtain ⟨x, hx, rfl⟩ := List.mem_map.mp hi
        obtain ⟨v, h1, _⟩ := idx (JB_ends hx)
        exact lt h1
      · obtain ⟨x, hx, rfl⟩ := List.mem_map.mp hi
        obtain ⟨v, h1, _⟩ := idxD x hx
        exact lt h1
  have := nd.length_le_of_subset sub
  rw [List.length_append, List.length_append, List.length_map, List.length_map, List.length_map, List.length_range] at this
  omega
end FB.Th
set_option Elab.async false
set_option linter.all false
set_option maxRecDepth 100000
set_option maxHeartbeats 4000000
/-! TH5: a run by the meaning; programs without conditions. -/
namespace FB.Th
open PySem (Str)
/-- does an entry hold for a row -/
def mt {α : Type} [DecidableEq α] (r : List α) (e : Itm α) : Bool := match e.2 with
  | .always => true
  | .present => decide (e.1 ∈ r)
  | .absent => decide (e.1 ∉ r)
def firstOf {α : Type} [DecidableEq α] (F : List (Itm α)) (r : List α) : List α := (F.filter (mt r)).map (·.1)
def appl {α : Type} [DecidableEq α] (F B : List (Itm α)) (D r : List α) : List α :=
  firstOf F r ++ (r.filter (fun w => decide (w ∉ firstOf F r) && (decide (w ∉ firstOf B r) && decide (w ∉ D))) ++ firstOf B r)
theorem mt_w {α : Type} [DecidableEq α] (r : List α) (w : α) : mt r (w, .always) = true := rfl
theorem mt_pa {α : Type} [DecidableEq α] (r : List α) (w : α) : mt r (w, .present) = !mt r (w, .absent) := by
  show decide (w ∈ r) = !decide (w ∉ r)
  by_cases h : w ∈ r
  · rw [decide_eq_true h, decide_eq_false (fun z => z h)]; rfl
  · rw [decide_eq_false h, decide_eq_true h]; rfl
theorem first_JF (P : List (Vb × Str)) (r : List Str) : firstOf (JF P) r = firstOf (Lp P .fr).reverse r := by
  unfold firstOf JF sbs
  rw [sbs_filter (mt_w r) (fun w => by rw [mt_pa]; simp), List.nil_append]
theorem first_JB (P : List (Vb × Str)) (r : List Str) : firstOf (JB P) r = firstOf (Lp P .bk) r := by
  unfold firstOf JB sbs
  rw [sbs_filter (mt_w r) (fun w => mt_pa r w), List.nil_append]
/-- an entry that holds tells where the word ends -/
theorem raw_mt {P : List (Vb × Str)} {r : List Str} {pl : Pl} {e : Itm Str} {t : Nat} (h : Raw P pl e t) (hm : mt r e = true) : res e.1 P (decide (e.1 ∉ r)) = some (pl, t) := by
  obtain ⟨w, c⟩ := e
  have key : ∀ b, decide (w ∉ r) = b → res w P b = some (pl, t) → res w P (decide (w ∉ r)) = some (pl, t) := fun b hb h => by rw [hb]; exact h
  cases c
  · rcases Bool.eq_false_or_eq_true (decide (w ∉ r)) with q | q
    · exact key _ q h.2
    · exact key _ q h.1
  · have hm : decide (w ∈ r) = true := hm
    exact key false (decide_eq_false fun z => z (of_decide_eq_true hm)) h.1
  · have hm : decide (w ∉ r) = true := hm
    exact key true hm h.1
theorem mt_raw {P : List (Vb × Str)} {r : List Str} {pl : Pl} {w : Str} {t : Nat} (h : res w P (decide (w ∉ r)) = some (pl, t)) : ∃ c, Raw P pl (w, c) t ∧ mt r (w, c) = true := by
  by_cases hw : w ∈ r
  · rw [decide_eq_false (fun z => z hw)] at h
    by_cases h2 : res w P true = some (pl, t)
    · exact ⟨.always, ⟨h, h2⟩, rfl⟩
    · exact ⟨.present, ⟨h, h2⟩, decide_eq_true hw⟩
  · rw [decide_eq_true hw] at h
    by_cases h2 : res w P false = some (pl, t)
    · exact ⟨.always, ⟨h2, h⟩, rfl⟩
    · exact ⟨.absent, ⟨h, h2⟩, decide_eq_true hw⟩
theorem mem_first {P : List (Vb × Str)} {r : List Str} {pl : Pl} {w : Str} : w ∈ firstOf (Lp P pl) r ↔ ∃ t, res w P (decide (w ∉ r)) = some (pl, t) := by
  constructor
  · intro h
    obtain ⟨e, he, rfl⟩ := List.mem_map.mp h
    obtain ⟨h1, h2⟩ := List.mem_filter.mp he
    obtain ⟨t, ht⟩ := Lp_raw.mp h1
    exact ⟨t, raw_mt ht h2⟩
  · rintro ⟨t, h⟩
    obtain ⟨c, h1, h2⟩ := mt_raw h
    exact List.mem_map.mpr ⟨(w, c), List.mem_filter.mpr ⟨Lp_raw.mpr ⟨t, h1⟩, h2⟩, rfl⟩
theorem first_rev (l : List (Itm Str)) (r : List Str) : firstOf l.reverse r = (firstOf l r).reverse := by
  unfold firstOf
  rw [List.filter_reverse, List.map_reverse]
/-- where the words of the rows' ends stand -/
theorem first_pw (P : List (Vb × Str)) (r : List Str) (pl : Pl) : (firstOf (Lp P pl) r).Pairwise fun x y => ∃ s t, res x P (decide (x ∉ r)) = some (pl, s) ∧ res y P (decide (y ∉ r)) = some (pl, t) ∧ s < t := by
  unfold firstOf
  rw [List.pairwise_map]
  refine ((Lp_srt P pl).filter (mt r)).imp_of_mem fun {x y} hx hy h => ?_
  obtain ⟨h1, h2⟩ := List.mem_filter.mp hx
  obtain ⟨h3, h4⟩ := List.mem_filter.mp hy
  obtain ⟨s, hs⟩ := Lp_raw.mp h1
  obtain ⟨t, ht⟩ := Lp_raw.mp h3
  rw [hs.tau, ht.tau] at h
  exact ⟨s, t, raw_mt hs h2, raw_mt ht h4, h⟩
theorem run_appl (P : List (Vb × Str)) {r : List Str} (hr : r.Nodup) : runL P r = appl (JF P) (JB P) (JD P) r := by
  unfold appl
  rw [first_JF, first_JB, first_rev]
  have inv := run_inv hr P
  have k1 : ∀ {w t}, res w P (decide (w ∉ r)) = some (.fr, t) → kk r P w = -((t : Int) + 1) := fun h => by unfold kk; rw [h]; rfl
  have k2 : ∀ {w t}, res w P (decide (w ∉ r)) = some (.bk, t) → kk r P w = (r.length : Int) + t := fun h => by unfold kk; rw [h]; rfl
  have k3 : ∀ {w}, res w P (decide (w ∉ r)) = none → kk r P w = (r.idxOf w : Int) := fun h => by unfold kk; rw [h]; rfl
  have mid : ∀ {w}, w ∈ r.filter (fun w => decide (w ∉ (firstOf (Lp P .fr) r).reverse) && (decide (w ∉ firstOf (Lp P .bk) r) && decide (w ∉ JD P))) ↔ w ∈ r ∧ res w P (decide (w ∉ r)) = none := fun {w} => by
    rw [List.mem_filter]
    simp only [Bool.and_eq_true, decide_eq_true_eq, List.mem_reverse]
    constructor
    · rintro ⟨h0, h1, h2, h3⟩
      refine ⟨h0, ?_⟩
      cases q : res w P (decide (w ∉ r)) with
      | none => rfl
      | some z =>
        obtain ⟨p, t⟩ := z
        exfalso
        cases p with
        | mid => exact (res_lt _ _ _ _ q).2.1 rfl
        | fr => exact h1 (mem_first.mpr ⟨t, q⟩)
        | bk => exact h2 (mem_first.mpr ⟨t, q⟩)
        | out =>
          rw [decide_eq_false (fun z => z h0)] at q
          exact h3 (JD_mem.mpr ⟨t, q⟩)
    · rintro ⟨h0, h1⟩
      refine ⟨h0, fun z => ?_, fun z => ?_, fun z => ?_⟩
      · obtain ⟨t, ht⟩ := mem_first.mp z
        rw [h1] at ht; cases ht
      · obtain ⟨t, ht⟩ := mem_first.mp z
        rw [h1] at ht; cases ht
      · obtain ⟨t, ht⟩ := JD_mem.mp z
        rw [decide_eq_false (fun z => z h0)] at h1
        rw [h1] at ht; cases ht
  have pw : ((firstOf (Lp P .fr) r).reverse ++ (r.filter (fun w => decide (w ∉ (firstOf (Lp P .fr) r).reverse) && (decide (w ∉ firstOf (Lp P .bk) r) && decide (w ∉ JD P))) ++ firstOf (Lp P .bk) r)).Pairwise fun x y => kk r P x < kk r P y := by
    refine List.pairwise_append.mpr ⟨?_, List.pairwise_append.mpr ⟨?_, ?_, ?_⟩, ?_⟩
    · rw [List.pairwise_reverse]
      refine (first_pw P r .fr).imp fun {x y} h => ?_
      obtain ⟨s, t, h1, h2, h3⟩ := h
      rw [k1 h1, k1 h2]
      omega
    · refine ((idx_pair hr).filter _).imp_of_mem fun {x y} hx hy h => ?_
      rw [k3 (mid.mp hx).2, k3 (mid.mp hy).2]
      omega
    · refine (first_pw P r .bk).imp fun {x y} h => ?_
      obtain ⟨s, t, h1, h2, h3⟩ := h
      rw [k2 h1, k2 h2]
      omega
    · intro x hx y hy
      obtain ⟨h1, h2⟩ := mid.mp hx
      obtain ⟨t, ht⟩ := mem_first.mp hy
      rw [k3 h2, k2 ht]
      have := List.idxOf_lt_length_iff.mpr h1
      omega
    · intro x hx y hy
      obtain ⟨s, hs⟩ := mem_first.mp (List.mem_reverse.mp hx)
      rw [k1 hs]
      rcases List.mem_append.mp hy with hy | hy
      · rw [k3 (mid.mp hy).2]
        omega
      · obtain ⟨t, ht⟩ := mem_first.mp hy
        rw [k2 ht]
        omega
  have nd : ((firstOf (Lp P .fr) r).reverse ++ (r.filter (fun w => decide (w ∉ (firstOf (Lp P .fr) r).reverse) && (decide (w ∉ firstOf (Lp P .bk) r) && decide (w ∉ JD P))) ++ firstOf (Lp P .bk) r)).Nodup := pw.imp fun {x y} z e => by rw [e] at z; exact absurd z (Int.lt_irrefl _)
  have pm : (runL P r).Perm ((firstOf (Lp P .fr) r).reverse ++ (r.filter (fun w => decide (w ∉ (firstOf (Lp P .fr) r).reverse) && (decide (w ∉ firstOf (Lp P .bk) r) && decide (w ∉ JD P))) ++ firstOf (Lp P .bk) r)) := by
    refine (List.perm_ext_iff_of_nodup inv.nd nd).mpr fun w => ?_
    rw [inv.mem, List.mem_append, List.mem_append, List.mem_reverse, mem_first, mem_first, mid]
    constructor
    · intro h
      cases q : res w P (decide (w ∉ r)) with
      | none =>
        rw [outA_none q, decide_eq_false_iff_not, Classical.not_not] at h
        exact .inr (.inl ⟨h, rfl⟩)
      | some z =>
        rw [outA_some q] at h
        obtain ⟨p, t⟩ := z
        cases p with
        | mid => exact absurd rfl (res_lt _ _ _ _ q).2.1
        | fr => exact .inl ⟨t, rfl⟩
        | bk => exact .inr (.inr ⟨t, rfl⟩)
        | out => cases h
    · rintro (⟨t, h⟩ | ⟨h1, h2⟩ | ⟨t, h⟩)
      · rw [outA_some h]; rfl
      · rw [outA_none h2]; exact decide_eq_false fun z => z h1
      · rw [outA_some h]; rfl
  exact pm.eq_of_pairwise (le := fun x y => kk r P x < kk r P y) (fun a b _ _ h1 h2 => by omega) inv.srt pw
/-- programs of one meaning do the same -/
theorem run_mean {P Q : List (Vb × Str)} (h1 : JF Q = JF P) (h2 : JB Q = JB P) (h3 : JD Q = JD P) {r : List Str} (hr : r.Nodup) : runL Q r = runL P r := by
  rw [run_appl Q hr, run_appl P hr, h1, h2, h3]
/-! ### programs of front, back, drop -/
theorem plain_like {α : Type} [DecidableEq α] (P O : List (Vb × α)) (hO : ∀ o ∈ O, o.1 = .front ∨ o.1 = .back ∨ o.1 = .drop) (w : α) : Like (mid P.length O.length) (P ++ O) (P ++ (O ++ O)) w := fun b => by
  by_cases h1 : (Vb.front, w) ∈ O ∨ (Vb.back, w) ∈ O
  · left
    have s : (res w O false).isSome = true := by
      rcases h1 with h | h
      · exact res_some h rfl
      · exact res_some h rfl
    obtain ⟨z, hz⟩ := Option.isSome_iff_exists.mp s
    have hz' : ∀ c, res w O c = some z := fun c => by
      cases c
      · exact hz
      · rw [res_fb h1, hz]
    rw [res_append, res_append w O O, hz', res_append w P O, hz']
    show some (z.1, P.length + (O.length + z.2)) = some (z.1, mid P.length O.length (P.length + z.2))
    have : mid P.length O.length (P.length + z.2) = P.length + (O.length + z.2) := by
      unfold mid
      rw [if_neg (by omega)]
      omega
    rw [this]
  · have no1 : ∀ o ∈ O, o.2 = w → o.1 = .drop := fun o ho e => by
      obtain ⟨v, x⟩ := o
      have e : x = w := e
      subst e
      rcases hO _ ho with q | q | q
      · have q : v = .front := q
        subst q; exact absurd (.inl ho) h1
      · have q : v = .back := q
        subst q; exact absurd (.inr ho) h1
      · exact q
    by_cases h2 : (Vb.drop, w) ∈ O
    · right
      have a : ∀ c, outA w O c = true := fun c => ends_out (fun o ho e => by rw [no1 o ho e]; rfl) h2
      exact ⟨by rw [outA_append, a], by rw [outA_append, outA_append, a]⟩
    · left
      have no : ∀ c, res w O c = none := fun c => res_none_id fun o ho e => absurd (by
        obtain ⟨v, x⟩ := o
        have e1 : x = w := e
        have q : v = .drop := no1 _ ho e
        subst e1; subst q
        exact ho) h2
      rw [res_append, res_append w O O, no, res_append w P O, no]
      show res w P b = (res w P b).map _
      cases q : res w P b with
      | none => rfl
      | some z =>
        show some z = some (z.1, mid P.length O.length z.2)
        rw [show mid P.length O.length z.2 = z.2 from if_pos (res_lt _ _ _ _ q).1]
theorem mean_plain (P O : List (Vb × Str)) (hO : ∀ o ∈ O, o.1 = .front ∨ o.1 = .back ∨ o.1 = .drop) : meanE (P ++ (O ++ O)) = meanE (P ++ O) := by
  refine mean_like (φ := mid P.length O.length) (fun i => if i < (P.length : Int) then i else i + O.length) (fun n => ?_) (fun i j h => ?_) (fun i j => ?_) (fun x => ?_) (plain_like P O hO)
  · unfold mid
    split <;> split <;> omega
  · unfold mid at h
    split at h <;> split at h <;> omega
  · split <;> split <;> omega
  · rw [mem_app, mem_app, mem_app]
    constructor
    · rintro (h | h | h)
      · exact .inl h
      · exact .inr h
      · exact .inr h
    · rintro (h | h)
      · exact .inl h
      · exact .inr (.inl h)
end FB.Th
set_option Elab.async false
set_option linter.all false
set_option maxRecDepth 100000
set_option maxHeartbeats 4000000
/-! TH6: which rows tell programs apart. -/
namespace FB.Th
open PySem (Str)
section
variable {α : Type} [DecidableEq α]
/-- what acts last in the one case and would act in the other one, acts last in both -/
theorem res_both {w : α} : ∀ {P : List (Vb × α)} {b : Bool} {z : Pl × Nat} {v : Vb}, res w P b = some z → P[z.2]? = some (v, w) → acts v (!b) = true → res w P (!b) = some z
  | [], _, _, _, h, _, _ => by cases h
  | o :: P, b, z, v, h, hv, ha => by
    have st : isOut (goes o.1) = b ∨ isOut (goes o.1) = !b := by cases isOut (goes o.1) <;> cases b <;> simp
    by_cases hw : o.2 = w
    · by_cases h1 : acts o.1 b = true
      · by_cases h2 : acts o.1 (!b) = true
        · rw [res_act hw h1] at h
          rw [res_act hw h2]; exact h
        · rw [res_act hw h1] at h
          rw [res_no fun z => h2 z.2]
          cases q : res w P (isOut (goes o.1)) with
          | none =>
            rw [q] at h
            cases h
            have hv : some o = some (v, w) := hv
            cases hv
            exact absurd ha h2
          | some y =>
            rw [q] at h
            cases h
            rcases st with e | e
            · rw [e] at q
              rw [res_both q hv ha]; rfl
            · rw [e] at q
              rw [q]; rfl
      · rw [res_no fun z => h1 z.2] at h
        cases q : res w P b with
        | none => rw [q] at h; cases h
        | some y =>
          rw [q] at h
          cases h
          by_cases h2 : acts o.1 (!b) = true
          · rw [res_act hw h2]
            rcases st with e | e
            · rw [e, q]
            · rw [e, res_both q hv ha]
          · rw [res_no fun z => h2 z.2, res_both q hv ha]; rfl
    · rw [res_no fun z => hw z.1] at h
      rw [res_no fun z => hw z.1]
      cases q : res w P b with
      | none => rw [q] at h; cases h
      | some y =>
        rw [q] at h
        cases h
        rw [res_both q hv ha]; rfl
theorem raw_verb {P : List (Vb × α)} {w : α} {pl : Pl} {t : Nat} {b : Bool} (h : res w P b = some (pl, t)) (h2 : res w P (!b) ≠ some (pl, t)) : ∃ v, (v, w) ∈ P ∧ acts v (!b) = false ∧ goes v = pl := by
  obtain ⟨_, _, v, h3, h4⟩ := res_lt _ _ _ _ h
  refine ⟨v, List.mem_of_getElem? h3, ?_, h4⟩
  rw [← Bool.not_eq_true]
  exact fun z => h2 (res_both h h3 z)
end
/-- a row of entries that has no entry for one of the two cases -/
def One (F : List (Itm Str)) : Prop := (∀ e ∈ F, e.2 ≠ .absent) ∨ (∀ e ∈ F, e.2 ≠ .present)
theorem JF_raw {P : List (Vb × Str)} {e : Itm Str} (h : e ∈ JF P) (hc : e.2 ≠ .always) : ∃ t, Raw P .fr e t := by
  rcases sbs_memI (acc := []) h with q | q
  · rw [List.nil_append, List.mem_reverse] at q
    exact Lp_raw.mp q
  · exact absurd q.1 hc
theorem JB_raw {P : List (Vb × Str)} {e : Itm Str} (h : e ∈ JB P) (hc : e.2 ≠ .always) : ∃ t, Raw P .bk e t := by
  rcases sbs_memI (acc := []) h with q | q
  · rw [List.nil_append] at q
    exact Lp_raw.mp q
  · exact absurd q.1 hc
theorem raw_case {P : List (Vb × Str)} {e : Itm Str} {pl : Pl} {t : Nat} (h : Raw P pl e t) : (e.2 = .absent → ∃ v, (v, e.1) ∈ P ∧ acts v false = false ∧ goes v = pl) ∧ (e.2 = .present → ∃ v, (v, e.1) ∈ P ∧ acts v true = false ∧ goes v = pl) := by
  obtain ⟨w, c⟩ := e
  constructor
  · intro z
    have z : c = .absent := z
    subst z
    exact raw_verb (b := true) h.1 h.2
  · intro z
    have z : c = .present := z
    subst z
    exact raw_verb (b := false) h.1 h.2
theorem one_JF {P : List (Vb × Str)} (h : (∀ o ∈ P, o.1 ≠ .addfront) ∨ ∀ o ∈ P, o.1 ≠ .lift) : One (JF P) := by
  rcases h with h | h
  · refine .inl fun e he z => ?_
    obtain ⟨t, r⟩ := JF_raw he (by rw [z]; exact nAW)
    obtain ⟨v, h1, h2, h3⟩ := (raw_case r).1 z
    cases v <;> first | exact h _ h1 rfl | exact absurd h2 (by decide) | exact absurd h3 (by decide)
  · refine .inr fun e he z => ?_
    obtain ⟨t, r⟩ := JF_raw he (by rw [z]; exact nPW)
    obtain ⟨v, h1, h2, h3⟩ := (raw_case r).2 z
    cases v <;> first | exact h _ h1 rfl | exact absurd h2 (by decide) | exact absurd h3 (by decide)
theorem one_JB {P : List (Vb × Str)} (h : (∀ o ∈ P, o.1 ≠ .addback) ∨ ∀ o ∈ P, o.1 ≠ .sink) : One (JB P) := by
  rcases h with h | h
  · refine .inl fun e he z => ?_
    obtain ⟨t, r⟩ := JB_raw he (by rw [z]; exact nAW)
    obtain ⟨v, h1, h2, h3⟩ := (raw_case r).1 z
    cases v <;> first | exact h _ h1 rfl | exact absurd h2 (by decide) | exact absurd h3 (by decide)
  · refine .inr fun e he z => ?_
    obtain ⟨t, r⟩ := JB_raw he (by rw [z]; exact nPW)
    obtain ⟨v, h1, h2, h3⟩ := (raw_case r).2 z
    cases v <;> first | exact h _ h1 rfl | exact absurd h2 (by decide) | exact absurd h3 (by decide)
theorem all_JF {P : List (Vb × Str)} (h : ∀ o ∈ P, o.1 = .front ∨ o.1 = .back ∨ o.1 = .drop) : (∀ e ∈ JF P, e.2 = .always) ∧ ∀ e ∈ JB P, e.2 = .always := by
  have n : ∀ v w, (v, w) ∈ P → (acts v false = false ∨ acts v true = false) → goes v ≠ .out → False := fun v w hv ha hg => by
    rcases h _ hv with q | q | q <;> (have q : v = _ := q; subst q) <;> first | exact hg rfl | (rcases ha with ha | ha <;> cases ha)
  have m : ∀ {e : Itm Str} {pl : Pl} {t : Nat}, Raw P pl e t → pl ≠ .out → e.2 ≠ .always → False := fun {e pl t} r hp hc => by
    obtain ⟨w, c⟩ := e
    cases c
    · exact hc rfl
    · obtain ⟨v, h1, h2, h3⟩ := (raw_case r).2 rfl
      exact n v _ h1 (.inr h2) (by rw [h3]; exact hp)
    · obtain ⟨v, h1, h2, h3⟩ := (raw_case r).1 rfl
      exact n v _ h1 (.inl h2) (by rw [h3]; exact hp)
  refine ⟨fun e he => Classical.byContradiction fun z => ?_, fun e he => Classical.byContradiction fun z => ?_⟩
  · obtain ⟨t, r⟩ := JF_raw he z
    exact m r (by decide) z
  · obtain ⟨t, r⟩ := JB_raw he z
    exact m r (by decide) z
/-! ### what two rows show of the entries -/
def N1 (F : List (Itm Str)) : List Str := (F.filter fun e => decide (e.2 ≠ .absent)).map (·.1)
def N2 (F : List (Itm Str)) : List Str := (F.filter fun e => decide (e.2 ≠ .present)).map (·.1)
theorem mem_N1 {F : List (Itm Str)} {w : Str} : w ∈ N1 F ↔ ∃ c, (w, c) ∈ F ∧ c ≠ .absent := by
  constructor
  · intro h
    obtain ⟨⟨u, c⟩, he, rfl⟩ := List.mem_map.mp h
    obtain ⟨h1, h2⟩ := List.mem_filter.mp he
    exact ⟨c, h1, of_decide_eq_true h2⟩
  · rintro ⟨c, h1, h2⟩
    exact List.mem_map.mpr ⟨(w, c), List.mem_filter.mpr ⟨h1, decide_eq_true h2⟩, rfl⟩
theorem mem_N2 {F : List (Itm Str)} {w : Str} : w ∈ N2 F ↔ ∃ c, (w, c) ∈ F ∧ c ≠ .present := by
  constructor
  · intro h
    obtain ⟨⟨u, c⟩, he, rfl⟩ := List.mem_map.mp h
    obtain ⟨h1, h2⟩ := List.mem_filter.mp he
    exact ⟨c, h1, of_decide_eq_true h2⟩
  · rintro ⟨c, h1, h2⟩
    exact List.mem_map.mpr ⟨(w, c), List.mem_filter.mpr ⟨h1, decide_eq_true h2⟩, rfl⟩
theorem excl_one {F : List (Itm Str)} (hx : F.Pairwise Excl) {w : Str} {c : Cs} (h1 : (w, .always) ∈ F) (h2 : (w, c) ∈ F) : c = .always := by
  induction F with
  | nil => cases h1
  | cons e F ih =>
    obtain ⟨x1, x2⟩ := List.pairwise_cons.mp hx
    rcases List.mem_cons.mp h1 with e1 | h1
    · rcases List.mem_cons.mp h2 with e2 | h2
      · rw [← e1] at e2
        exact (Prod.mk.inj e2).2
      · have := x1 _ h2
        rw [← e1] at this
        exact absurd rfl (this rfl).1
    · rcases List.mem_cons.mp h2 with e2 | h2
      · have := x1 _ h1
        rw [← e2] at this
        exact absurd rfl (this rfl).2.1
      · exact ih x2 h1 h2
theorem det1 {F : List (Itm Str)} (hx : F.Pairwise Excl) (h : ∀ e ∈ F, e.2 ≠ .absent) : F = (N1 F).map fun w => (w, if w ∈ N2 F then .always else .present) := by
  have e1 : F.filter (fun e => decide (e.2 ≠ .absent)) = F := List.filter_eq_self.mpr fun e he => decide_eq_true (h e he)
  have e2 : N1 F = F.map (·.1) := by unfold N1; rw [e1]
  rw [e2, List.map_map]
  conv => lhs; rw [← List.map_id F]
  refine List.map_congr_left fun e he => ?_
  obtain ⟨w, c⟩ := e
  show (w, c) = (w, if w ∈ N2 F then Cs.always else Cs.present)
  congr 1
  split
  · rename_i hm
    obtain ⟨d, hd, hd2⟩ := mem_N2.mp hm
    have hd3 := h _ hd
    have : d = .always := by cases d <;> first | rfl | exact absurd rfl hd2 | exact absurd rfl hd3
    rw [this] at hd
    exact excl_one hx hd he
  · rename_i hm
    have h3 := h _ he
    cases c
    · exact absurd (mem_N2.mpr ⟨_, he, nWP⟩) hm
    · rfl
    · exact absurd rfl h3
theorem det2 {F : List (Itm Str)} (hx : F.Pairwise Excl) (h : ∀ e ∈ F, e.2 ≠ .present) : F = (N2 F).map fun w => (w, if w ∈ N1 F then .always else .absent) := by
  have e1 : F.filter (fun e => decide (e.2 ≠ .present)) = F := List.filter_eq_self.mpr fun e he => decide_eq_true (h e he)
  have e2 : N2 F = F.map (·.1) := by unfold N2; rw [e1]
  rw [e2, List.map_map]
  conv => lhs; rw [← List.map_id F]
  refine List.map_congr_left fun e he => ?_
  obtain ⟨w, c⟩ := e
  show (w, c) = (w, if w ∈ N1 F then Cs.always else Cs.absent)
  congr 1
  split
  · rename_i hm
    obtain ⟨d, hd, hd2⟩ := mem_N1.mp hm
    have hd3 := h _ hd
    have : d = .always := by cases d <;> first | rfl | exact absurd rfl hd2 | exact absurd rfl hd3
    rw [this] at hd
    exact excl_one hx hd he
  · rename_i hm
    have h3 := h _ he
    cases c
    · exact absurd (mem_N1.mpr ⟨_, he, nWA⟩) hm
    · exact absurd rfl h3
    · rfl
theorem det_cross {F G : List (Itm Str)} (h : ∀ e ∈ F, e.2 ≠ .absent) (g : ∀ e ∈ G, e.2 ≠ .present) (xf : F.Pairwise Excl) (xg : G.Pairwise Excl) (e1 : N1 F = N1 G) (e2 : N2 F = N2 G) : F = G := by
  have a : ∀ w, w ∈ N2 F → w ∈ N1 F := fun w hw => by
    obtain ⟨c, hc, _⟩ := mem_N2.mp hw
    exact mem_N1.mpr ⟨c, hc, h _ hc⟩
  have b : ∀ w, w ∈ N1 G → w ∈ N2 G := fun w hw => by
    obtain ⟨c, hc, _⟩ := mem_N1.mp hw
    exact mem_N2.mpr ⟨c, hc, g _ hc⟩
  have al : ∀ e ∈ F, e.2 = .always := fun e he => by
    obtain ⟨w, c⟩ := e
    have m1 : w ∈ N1 F := mem_N1.mpr ⟨c, he, h _ he⟩
    have m2 : w ∈ N2 F := by rw [e2]; exact b w (by rw [← e1]; exact m1)
    obtain ⟨d, hd, hd2⟩ := mem_N2.mp m2
    have hd3 := h _ hd
    have : d = .always := by cases d <;> first | rfl | exact absurd rfl hd2 | exact absurd rfl hd3
    rw [this] at hd
    exact excl_one xf hd he
  have n12 : N1 F = N2 F := by
    unfold N1 N2
    rw [List.filter_eq_self.mpr fun e he => decide_eq_true (by rw [al e he]; exact nWA), List.filter_eq_self.mpr fun e he => decide_eq_true (by rw [al e he]; exact nWP)]
  rw [det1 xf h, det2 xg g, ← e1, ← e2, ← n12]
  refine List.map_congr_left fun w hw => ?_
  rw [if_pos hw, if_pos hw]
theorem one_det {F G : List (Itm Str)} (hF : One F) (hG : One G) (xf : F.Pairwise Excl) (xg : G.Pairwise Excl) (e1 : N1 F = N1 G) (e2 : N2 F = N2 G) : F = G := by
  rcases hF with h | h <;> rcases hG with g | g
  · rw [det1 xf h, det1 xg g, e1, e2]
  · exact det_cross h g xf xg e1 e2
  · exact (det_cross g h xg xf e1.symm e2.symm).symm
  · rw [det2 xf h, det2 xg g, e1, e2]
theorem always_det {F G : List (Itm Str)} (h : ∀ e ∈ F, e.2 = .always) (g : ∀ e ∈ G, e.2 = .always) (e1 : N1 F = N1 G) : F = G := by
  have k : ∀ {F : List (Itm Str)}, (∀ e ∈ F, e.2 = .always) → F = (N1 F).map fun w => (w, Cs.always) := fun {F} h => by
    have e2 : N1 F = F.map (·.1) := by
      unfold N1
      rw [List.filter_eq_self.mpr fun e he => decide_eq_true (by rw [h e he]; exact nWA)]
    rw [e2, List.map_map]
    conv => lhs; rw [← List.map_id F]
    refine List.map_congr_left fun e he => ?_
    obtain ⟨w, c⟩ := e
    have := h _ he
    have this : c = .always := this
    subst this
    rfl
  rw [k h, k g, e1]
/-! ### the rows -/
theorem split_x {β : Type} {x : β} : ∀ {A A' R R' : List β}, x ∉ A → x ∉ A' → A ++ x :: R = A' ++ x :: R' → A = A' ∧ R = R'
  | [], [], _, _, _, _, e => ⟨rfl, (List.cons.inj e).2⟩
  | [], b :: A', _, _, _, h', e => absurd (by rw [(List.cons.inj e).1]; exact List.mem_cons_self) h'
  | a :: A, [], _, _, h, _, e => absurd (by rw [← (List.cons.inj e).1]; exact List.mem_cons_self) h
  | a :: A, b :: A', R, R', h, h', e => by
    obtain ⟨e1, e2⟩ := List.cons.inj e
    obtain ⟨h1, h2⟩ := split_x (fun z => h (List.mem_cons_of_mem _ z)) (fun z => h' (List.mem_cons_of_mem _ z)) e2
    exact ⟨by rw [e1, h1], h2⟩
theorem first_words {P : List (Vb × Str)} {r : List Str} {w : Str} (h : w ∈ firstOf (JF P) r ∨ w ∈ firstOf (JB P) r) : w ∈ wordsOf P := by
  have key : ∀ {pl : Pl} {e : Itm Str}, Ends P pl e → e.1 ∈ wordsOf P := fun {pl e} h => by
    have key : ∀ b t, res e.1 P b = some (pl, t) → e.1 ∈ wordsOf P := fun b t ht => by
      obtain ⟨h1, h2, v, h3, h4⟩ := res_lt _ _ _ _ ht
      exact (words_mem P e.1).mpr ⟨(v, e.1), List.mem_of_getElem? h3, rfl⟩
    by_cases c : e.2 = .absent
    · obtain ⟨t, ht⟩ := h.2 (by rw [c]; exact nAP)
      exact key _ t ht
    · obtain ⟨t, ht⟩ := h.1 c
      exact key _ t ht
  rcases h with h | h
  · obtain ⟨e, he, rfl⟩ := List.mem_map.mp h
    exact key (JF_ends (List.mem_filter.mp he).1)
  · obtain ⟨e, he, rfl⟩ := List.mem_map.mp h
    exact key (JB_ends (List.mem_filter.mp he).1)
theorem JD_words {P : List (Vb × Str)} {w : Str} (h : w ∈ JD P) : w ∈ wordsOf P := by
  obtain ⟨t, ht⟩ := JD_mem.mp h
  obtain ⟨h1, h2, v, h3, h4⟩ := res_lt _ _ _ _ ht
  exact (words_mem P w).mpr ⟨(v, w), List.mem_of_getElem? h3, rfl⟩
/-- a row between two strangers -/
theorem ends_row {P Q : List (Vb × Str)} {x y : Str} {ws : List Str} (hn : (x :: (ws ++ [y])).Nodup) (px : x ∉ wordsOf P) (py : y ∉ wordsOf P) (qx : x ∉ wordsOf Q) (qy : y ∉ wordsOf Q) (e : runL P (x :: (ws ++ [y])) = runL Q (x :: (ws ++ [y]))) :
    firstOf (JF P) (x :: (ws ++ [y])) = firstOf (JF Q) (x :: (ws ++ [y])) ∧ firstOf (JB P) (x :: (ws ++ [y])) = firstOf (JB Q) (x :: (ws ++ [y])) := by
  rw [run_appl P hn, run_appl Q hn] at e
  obtain ⟨n1, n2⟩ := List.nodup_cons.mp hn
  have xw : x ∉ ws := fun z => n1 (List.mem_append.mpr (.inl z))
  have yw : y ∉ ws := fun z => (List.nodup_append.mp n2).2.2 y z y (List.mem_singleton.mpr rfl) rfl
  have md : ∀ {R : List (Vb × Str)}, x ∉ wordsOf R → y ∉ wordsOf R → ∃ m, y ∉ m ∧ (x :: (ws ++ [y])).filter (fun w => decide (w ∉ firstOf (JF R) (x :: (ws ++ [y]))) && (decide (w ∉ firstOf (JB R) (x :: (ws ++ [y]))) && decide (w ∉ JD R))) = x :: (m ++ [y]) := fun {R} hx hy => by
    have keep : ∀ w, w ∉ wordsOf R → (decide (w ∉ firstOf (JF R) (x :: (ws ++ [y]))) && (decide (w ∉ firstOf (JB R) (x :: (ws ++ [y]))) && decide (w ∉ JD R))) = true := fun w hw => by
      have k1 : w ∉ firstOf (JF R) (x :: (ws ++ [y])) := fun z => hw (first_words (.inl z))
      have k2 : w ∉ firstOf (JB R) (x :: (ws ++ [y])) := fun z => hw (first_words (.inr z))
      have k3 : w ∉ JD R := fun z => hw (JD_words z)
      rw [decide_eq_true k1, decide_eq_true k2, decide_eq_true k3]; rfl
    refine ⟨ws.filter (fun w => decide (w ∉ firstOf (JF R) (x :: (ws ++ [y]))) && (decide (w ∉ firstOf (JB R) (x :: (ws ++ [y]))) && decide (w ∉ JD R))), fun z => yw (List.mem_filter.mp z).1, ?_⟩
    rw [List.filter_cons, if_pos (keep x hx), List.filter_append, List.filter_cons, if_pos (keep y hy), List.filter_nil]
  obtain ⟨m, hm, em⟩ := md px py
  obtain ⟨m', hm', em'⟩ := md qx qy
  unfold appl at e
  rw [em, em'] at e
  have e : firstOf (JF P) (x :: (ws ++ [y])) ++ x :: ((m ++ [y]) ++ firstOf (JB P) (x :: (ws ++ [y]))) = firstOf (JF Q) (x :: (ws ++ [y])) ++ x :: ((m' ++ [y]) ++ firstOf (JB Q) (x :: (ws ++ [y]))) := e
  obtain ⟨e1, e2⟩ := split_x (fun z => px (first_words (.inl z))) (fun z => qx (first_words (.inl z))) e
  refine ⟨e1, ?_⟩
  rw [List.append_assoc, List.append_assoc] at e2
  exact (split_x hm hm' e2).2
theorem first_N1 {F : List (Itm Str)} {r : List Str} (h : ∀ e ∈ F, e.1 ∈ r) : firstOf F r = N1 F := by
  unfold firstOf N1
  congr 1
  refine List.filter_congr fun e he => ?_
  obtain ⟨w, c⟩ := e
  have := h _ he
  cases c
  · rfl
  · show decide (w ∈ r) = true
    exact decide_eq_true this
  · show decide (w ∉ r) = false
    exact decide_eq_false fun z => z this
theorem first_N2 {F : List (Itm Str)} {r : List Str} (h : ∀ e ∈ F, e.1 ∉ r) : firstOf F r = N2 F := by
  unfold firstOf N2
  congr 1
  refine List.filter_congr fun e he => ?_
  obtain ⟨w, c⟩ := e
  have := h _ he
  cases c
  · rfl
  · show decide (w ∈ r) = false
    exact decide_eq_false this
  · show decide (w ∉ r) = true
    exact decide_eq_true this
theorem item_words {P : List (Vb × Str)} {e : Itm Str} (h : e ∈ JF P ∨ e ∈ JB P) : e.1 ∈ wordsOf P := by
  have m : ∀ {F : List (Itm Str)}, e ∈ F → e.1 ∈ firstOf F [] ∨ e.1 ∈ firstOf F [e.1] := fun {F} he => by
    obtain ⟨w, c⟩ := e
    cases c
    · exact .inl (List.mem_map.mpr ⟨_, List.mem_filter.mpr ⟨he, rfl⟩, rfl⟩)
    · exact .inr (List.mem_map.mpr ⟨_, List.mem_filter.mpr ⟨he, decide_eq_true List.mem_cons_self⟩, rfl⟩)
    · exact .inl (List.mem_map.mpr ⟨_, List.mem_filter.mpr ⟨he, (show decide (w ∉ ([] : List Str)) = true from decide_eq_true fun z => (by cases z))⟩, rfl⟩)
  rcases h with h | h
  · rcases m h with q | q
    · exact first_words (.inl q)
    · exact first_words (.inl q)
  · rcases m h with q | q
    · exact first_words (.inr q)
    · exact first_words (.inr q)
theorem drops_row {P Q : List (Vb × Str)} {r : List Str} (hr : r.Nodup) (hP : ∀ w ∈ wordsOf P, w ∈ r) (hQ : ∀ w ∈ wordsOf Q, w ∈ r) (e : runL P r = runL Q r) : JD P = JD Q := by
  have key : ∀ {R : List (Vb × Str)}, (∀ w ∈ wordsOf R, w ∈ r) → ∀ w, w ∈ JD R ↔ w ∈ r ∧ w ∉ runL R r := fun {R} hR w => by
    rw [JD_mem]
    constructor
    · rintro ⟨t, ht⟩
      have hw : w ∈ r := hR w (JD_words (JD_mem.mpr ⟨t, ht⟩))
      refine ⟨hw, fun z => ?_⟩
      rw [(run_inv hr R).mem, decide_eq_false (fun q => q hw), outA_some ht] at z
      cases z
    · rintro ⟨h1, h2⟩
      rw [(run_inv hr R).mem, decide_eq_false (fun q => q h1)] at h2
      cases q : res w R false with
      | none => rw [outA_none q] at h2; exact absurd rfl h2
      | some z =>
        rw [outA_some q] at h2
        obtain ⟨p, t⟩ := z
        cases p <;> first | exact ⟨t, rfl⟩ | exact absurd rfl h2
  have hp : (outs (wordsOf P) P).Perm (outs (wordsOf Q) Q) := by
    refine (List.perm_ext_iff_of_nodup ((words_nd _).filter _) ((words_nd _).filter _)).mpr fun w => ?_
    have e1 : ∀ {R : List (Vb × Str)}, w ∈ outs (wordsOf R) R ↔ w ∈ JD R := fun {R} => by unfold JD; rw [(srtS_perm _).mem_iff]
    exact (e1 (R := P)).trans (((key hP w).trans (by rw [e])).trans ((key hQ w).symm.trans (e1 (R := Q)).symm))
  exact srtS_eq hp
theorem excl_J (P : List (Vb × Str)) : (JF P).Pairwise Excl ∧ (JB P).Pairwise Excl := ⟨JF_excl P, JB_excl P⟩
theorem two_rows {P Q : List (Vb × Str)} {x y : Str} {ws : List Str} (hn : (x :: (ws ++ [y])).Nodup) (hP : ∀ w ∈ wordsOf P, w ∈ ws) (hQ : ∀ w ∈ wordsOf Q, w ∈ ws) (o1 : One (JF P)) (o2 : One (JB P)) (o3 : One (JF Q)) (o4 : One (JB Q))
    (e1 : runL P (x :: (ws ++ [y])) = runL Q (x :: (ws ++ [y]))) (e2 : runL P [x, y] = runL Q [x, y]) : JF P = JF Q ∧ JB P = JB Q ∧ JD P = JD Q := by
  obtain ⟨n1, n2⟩ := List.nodup_cons.mp hn
  have xw : x ∉ ws := fun z => n1 (List.mem_append.mpr (.inl z))
  have yw : y ∉ ws := fun z => (List.nodup_append.mp n2).2.2 y z y (List.mem_singleton.mpr rfl) rfl
  have hxy : x ≠ y := fun z => n1 (List.mem_append.mpr (.inr (List.mem_singleton.mpr z)))
  have hb : (x :: ([] ++ [y])).Nodup := by
    show [x, y].Nodup
    rw [List.nodup_cons]
    exact ⟨fun z => hxy (List.mem_singleton.mp z), by simp⟩
  obtain ⟨a1, a2⟩ := ends_row hn (fun z => xw (hP _ z)) (fun z => yw (hP _ z)) (fun z => xw (hQ _ z)) (fun z => yw (hQ _ z)) e1
  obtain ⟨b1, b2⟩ := ends_row (ws := []) hb (fun z => xw (hP _ z)) (fun z => yw (hP _ z)) (fun z => xw (hQ _ z)) (fun z => yw (hQ _ z)) e2
  have inr : ∀ {w}, w ∈ ws → w ∈ x :: (ws ++ [y]) := fun h => List.mem_cons_of_mem _ (List.mem_append.mpr (.inl h))
  have nb : ∀ {w}, w ∈ ws → w ∉ x :: ([] ++ [y]) := fun {w} h z => by
    rcases List.mem_cons.mp z with q | q
    · exact xw (q ▸ h)
    · exact yw ((List.mem_singleton.mp q) ▸ h)
  rw [first_N1 fun e he => inr (hP _ (item_words (.inl he))), first_N1 fun e he => inr (hQ _ (item_words (.inl he)))] at a1
  rw [first_N1 fun e he => inr (hP _ (item_words (.inr he))), first_N1 fun e he => inr (hQ _ (item_words (.inr he)))] at a2
  rw [first_N2 fun e he => nb (hP _ (item_words (.inl he))), first_N2 fun e he => nb (hQ _ (item_words (.inl he)))] at b1
  rw [first_N2 fun e he => nb (hP _ (item_words (.inr he))), first_N2 fun e he => nb (hQ _ (item_words (.inr he)))] at b2
  exact ⟨one_det o1 o3 (JF_excl P) (JF_excl Q) a1 b1, one_det o2 o4 (JB_excl P) (JB_excl Q) a2 b2, drops_row hn (fun w h => inr (hP w h)) (fun w h => inr (hQ w h)) e1⟩
theorem one_row {P Q : List (Vb × Str)} {x y : Str} {ws : List Str} (hn : (x :: (ws ++ [y])).Nodup) (hP : ∀ w ∈ wordsOf P, w ∈ ws) (hQ : ∀ w ∈ wordsOf Q, w ∈ ws) (o1 : ∀ e ∈ JF P, e.2 = .always) (o2 : ∀ e ∈ JB P, e.2 = .always) (o3 : ∀ e ∈ JF Q, e.2 = .always) (o4 : ∀ e ∈ JB Q, e.2 = .always)
    (e1 : runL P (x :: (ws ++ [y])) = runL Q (x :: (ws ++ [y]))) : JF P = JF Q ∧ JB P = JB Q ∧ JD P = JD Q := by
  obtain ⟨n1, n2⟩ := List.nodup_cons.mp hn
  have xw : x ∉ ws := fun z => n1 (List.mem_append.mpr (.inl z))
  have yw : y ∉ ws := fun z => (List.nodup_append.mp n2).2.2 y z y (List.mem_singleton.mpr rfl) rfl
  obtain ⟨a1, a2⟩ := ends_row hn (fun z => xw (hP _ z)) (fun z => yw (hP _ z)) (fun z => xw (hQ _ z)) (fun z => yw (hQ _ z)) e1
  have inr : ∀ {w}, w ∈ ws → w ∈ x :: (ws ++ [y]) := fun h => List.mem_cons_of_mem _ (List.mem_append.mpr (.inl h))
  rw [first_N1 fun e he => inr (hP _ (item_words (.inl he))), first_N1 fun e he => inr (hQ _ (item_words (.inl he)))] at a1
  rw [first_N1 fun e he => inr (hP _ (item_words (.inr he))), first_N1 fun e he => inr (hQ _ (item_words (.inr he)))] at a2
  exact ⟨always_det o1 o3 a1, always_det o2 o4 a2, drops_row hn (fun w h => inr (hP w h)) (fun w h => inr (hQ w h)) e1⟩
end FB.Th
set_option Elab.async false
set_option linter.all false
set_option maxRecDepth 100000
set_option maxHeartbeats 4000000
/-! O20a: operations and programs as data; execute, run. -/
namespace FB.K64
open PySem PySem.Spec PyProof.Rows L2 RZ FB FB.Th
/-! ### steps -/
theorem dispP {fr : FA} {ρ : Sl} {st st1 : So} {xs : List PyData} (h : fr ρ st = .ok (xs.map Dv.p) st1) (hl : xs.length ≤ 100000) : fPure (disp fr) ρ st = .ok (.p (.list xs)) st1 := by
  have s : small (xs.map Dv.p) = true := by rw [small_map]; exact decide_eq_true hl
  have e : disp fr ρ st = .ok (xs.map Dv.p) st1 := by
    show (fr ρ st).bind _ = _
    rw [h, bind_ok, s, if_pos rfl]
  rw [ev_pure, e, bind_ok, s, if_pos rfl, mkL_p]
theorem gAdd_l {xs ys : List PyData} {st : So} (h : xs.length + ys.length ≤ 100000) : gAdd (.p (.list xs)) (.p (.list ys)) st = some (.p (.list (xs ++ ys))) := by
  show (if (xs.map Dv.p).length + (ys.map Dv.p).length ≤ 100000 then some (mkL (xs.map Dv.p ++ ys.map Dv.p)) else none) = _
  rw [List.length_map, List.length_map, if_pos h, ← List.map_append, mkL_p]
theorem gAdd_lw {a b : List Str} {st : So} (h : a.length + b.length ≤ 100000) : gAdd (lw a) (lw b) st = some (lw (a ++ b)) := by
  unfold lw
  rw [List.map_append]
  exact gAdd_l (by rw [List.length_map, List.length_map]; exact h)
theorem gAdd_tw {a b : List Str} {st : So} (h : a.length + b.length ≤ 100000) : gAdd (tw a) (tw b) st = some (tw (a ++ b)) := by
  show (if ((a.map PyData.str).map Dv.p).length + ((b.map PyData.str).map Dv.p).length ≤ 100000 then some (if ((a.map PyData.str).map Dv.p).isEmpty then tw b else if ((b.map PyData.str).map Dv.p).isEmpty then tw a else mkT ((a.map PyData.str).map Dv.p ++ (b.map PyData.str).map Dv.p)) else none) = _
  rw [map_sD, map_sD]
  rw [List.length_map, List.length_map, if_pos h]
  cases a with
  | nil => rfl
  | cons x xs =>
    cases b with
    | nil => rw [List.append_nil]; rfl
    | cons y ys =>
      show some (mkT ((x :: xs).map sD ++ (y :: ys).map sD)) = _
      rw [← List.map_append, mkT_s]
theorem forL_next {tg : Tg} {body : FS} {d : Dv} {ds : List Dv} {ρ ρ1 ρ2 : Sl} {st st2 : So} (h1 : tgF tg d ρ = some ρ1) (h2 : body ρ1 st = .nx ρ2 st2) : sForL tg body (d :: ds) ρ st = sForL tg body ds ρ2 st2 := by rw [forL_cons, h1, toE_some, h2]
theorem tupP {fr : FA} {ρ : Sl} {st st' : So} {xs : List PyData} (h : fr ρ st = .ok (xs.map Dv.p) st') (hl : xs.length ≤ 100000) : fTup fr ρ st = .ok (.p (.tuple xs)) st' := by
  rw [tup_to h (by rw [List.length_map]; exact hl), mkT_p]
theorem and_f {fa fb : FE} {ρ : Sl} {st st1 : So} (h1 : fa ρ st = .ok (.p (.bool false)) st1) : fAnd fa fb ρ st = .ok (.p (.bool false)) st1 := by rw [ev_and, tb_ok h1, bind_ok, if_neg Bool.false_ne_true]
theorem andT_b {t u : FT} {ρ : Sl} {st : So} {a b : Bool} (h1 : t ρ st = .ok a st) (h2 : u ρ st = .ok b st) : fTAnd t u ρ st = .ok (a && b) st := by
  rw [ev_tand, h1, bind_ok]
  cases a
  · rfl
  · rw [if_pos rfl, h2]; rfl
theorem orT_b {t u : FT} {ρ : Sl} {st : So} {a b : Bool} (h1 : t ρ st = .ok a st) (h2 : u ρ st = .ok b st) : fTOr t u ρ st = .ok (a || b) st := by
  rw [ev_tor, h1, bind_ok]
  cases a
  · rw [if_neg Bool.false_ne_true, h2]; rfl
  · rfl
theorem ifE_b {t : FT} {fa fb : FE} {ρ : Sl} {st st1 st2 : So} {b : Bool} {x : Dv} (h1 : t ρ st = .ok b st1) (h2 : b = true → fa ρ st1 = .ok x st2) (h3 : b = false → fb ρ st1 = .ok x st2) : fIf t fa fb ρ st = .ok x st2 := by
  rw [ev_if, h1, bind_ok]
  cases b
  · rw [if_neg Bool.false_ne_true, h3 rfl]
  · rw [if_pos rfl, h2 rfl]
theorem notT_b {t : FT} {ρ : Sl} {st st' : So} {b : Bool} (h : t ρ st = .ok b st') : fTNot t ρ st = .ok (!b) st' := by rw [ev_tnot, h, bind_ok]
theorem tg2 {i j : Nat} {a b : PyData} {ρ : Sl} : tgF (.tp [.nm i, .nm j]) (.p (.tuple [a, b])) ρ = some ((ρ.set i (some (.p a))).set j (some (.p b))) := by simp
theorem tg3 {i j k : Nat} {a b c : PyData} {ρ : Sl} : tgF (.tp [.nm i, .nm j, .nm k]) (.p (.tuple [a, b, c])) ρ = some (((ρ.set i (some (.p a))).set j (some (.p b))).set k (some (.p c))) := by simp
theorem ix0 {a : PyData} {xs : List PyData} {st : So} : gIxA (.p (.tuple (a :: xs))) (.p (.int 0)) st = some (.p a) := by
  show atI ((a :: xs).map Dv.p) 0 = _
  unfold atI
  have e : ixN ((a :: xs).map Dv.p).length 0 = some 0 := by
    unfold ixN
    rw [List.length_map, List.length_cons]
    rw [if_pos (by omega), if_pos (by push_cast; omega)]
    rfl
  rw [e]
  rfl
theorem ix1 {a b : PyData} {xs : List PyData} {st : So} : gIxA (.p (.tuple (a :: b :: xs))) (.p (.int 1)) st = some (.p b) := by
  show atI ((a :: b :: xs).map Dv.p) 1 = _
  unfold atI
  have e : ixN ((a :: b :: xs).map Dv.p).length 1 = some 1 := by
    unfold ixN
    rw [List.length_map, List.length_cons, List.length_cons]
    rw [if_pos (by omega), if_pos (by push_cast; omega)]
    rfl
  rw [e]
  rfl
theorem ret_pure {N : Nat} {body : FS} {args : List Dv} {st : So} {d : Dv} (hF : Flat st) {x : PyData} (hd : d = .p x) {ex : So} (h : body (args.map some ++ List.replicate (N - args.length) none) st = .ret d (st ++ ex)) : runD N body args st = .ok d st := by
  subst hd
  exact runD_pure hF h
/-! ### operations -/
def vs : Vb → Str
  | .front => "front"
  | .back => "back"
  | .drop => "drop"
  | .addfront => "addfront"
  | .addback => "addback"
  | .lift => "lift"
  | .sink => "sink"
abbrev Op := Vb × Str
def opD (o : Op) : PyData := .tuple [.str (vs o.1), .str o.2]
def prD (P : List Op) : Dv := .p (.list (P.map opD))
abbrev v7 : List Str := ["front", "back", "drop", "addfront", "addback", "lift", "sink"]
abbrev vAb : List Str := ["addfront", "addback"]
abbrev vPr : List Str := ["lift", "sink", "drop"]
abbrev vFr : List Str := ["front", "addfront", "lift"]
abbrev vLs : List Str := ["lift", "sink"]
theorem vs7 (v : Vb) : decide (vs v ∈ v7) = true := by cases v <;> decide +kernel
theorem vsAb (v : Vb) : decide (vs v ∈ vAb) = !acts v false := by cases v <;> decide +kernel
theorem vsPr (v : Vb) : decide (vs v ∈ vPr) = !acts v true := by cases v <;> decide +kernel
theorem vsFr (v : Vb) : decide (vs v ∈ vFr) = decide (goes v = .fr) := by cases v <;> decide +kernel
theorem vsLs (v : Vb) : decide (vs v ∈ vLs) = (!acts v true && decide (v ≠ .drop)) := by cases v <;> decide +kernel
theorem vsDr (v : Vb) : decide (vs v = "drop") = decide (v = .drop) := by cases v <;> decide +kernel
theorem vs_len (v : Vb) : (vs v).length ≤ 8 := by cases v <;> decide +kernel
theorem is_operation_ok (o : Op) (st : So) (h : isWord o.2 = true) : d_is_operation [.p (opD o)] st = .ok (.p (.bool true)) st := by
  have v : fVar 0 [some (.p (opD o))] st = .ok (.p (opD o)) st := var_ok rfl
  have i0 : fOp gIxA (fVar 0) (fC (.int 0)) [some (.p (opD o))] st = .ok (sD (vs o.1)) st := op_ok v c_ok ix0
  have i1 : fOp gIxA (fVar 0) (fC (.int 1)) [some (.p (opD o))] st = .ok (sD o.2) st := op_ok v c_ok ix1
  have n1 : fTNot (fTB (fIsT "tuple" (fVar 0))) [some (.p (opD o))] st = .ok false st := not_t (tb_ok (isT_ok v rfl kit_tt))
  have n2 : fTB (fOp gNe (fCB gLen (fCons (fVar 0) (fNil))) (fC (.int 2))) [some (.p (opD o))] st = .ok false st := tb_ok (op_ok (cb_ok (z := .p (.int 2)) (cons_ok v nil_ok) rfl) c_ok (gNe_i 2 2 st))
  have n3 : fTNot (fTB (fIsT "str" (fOp gIxA (fVar 0) (fC (.int 0))))) [some (.p (opD o))] st = .ok false st := not_t (tb_ok (isT_ok i0 (ty_s (vs o.1) st) kit_ss))
  have t1 := if_next (ga := sRet (fC (.bool false))) (or_ff n1 (or_ff n2 n3))
  have g := gIn_tw (vs o.1) v7 st
  rw [vs7] at g
  have t2 := ret_to (and_t (fb := fCall d_is_word (fCons (fOp gIxA (fVar 0) (fC (.int 1))) (fNil))) (op_ok (g := gIn) (fb := fC (.tuple ((["front", "back", "drop", "addfront", "addback", "lift", "sink"] : List Str).map PyData.str))) i0 c_ok g) (call_ok (cons_ok i1 nil_ok) (is_word_ok o.2 st h)))
  exact runD_pure0 (N := 1) (args := [.p (opD o)]) ((seq_to t1).trans t2)
/-! ### the words of a program -/
abbrev kvW (acc : List Str) : List (Key × Dv) := acc.map fun w => (.inr w, .p (.bool true))
theorem putW (acc : List Str) (w : Str) : putD (kvW acc) (.inr w) (.p (.bool true)) = kvW (addW acc w) := by
  unfold putD addW
  have e : (kvW acc).any (fun kv => decide (kv.1 = (Sum.inr w : Key))) = decide (w ∈ acc) := by
    rw [Bool.eq_iff_iff, List.any_eq_true, decide_eq_true_eq]
    constructor
    · rintro ⟨kv, h1, h2⟩
      obtain ⟨x, hx, rfl⟩ := List.mem_map.mp h1
      have := of_decide_eq_true h2
      cases this
      exact hx
    · exact fun h => ⟨_, List.mem_map.mpr ⟨w, h, rfl⟩, decide_eq_true rfl⟩
  rw [e]
  by_cases h : w ∈ acc
  · rw [if_pos (decide_eq_true h), if_pos h, List.map_map]
    refine List.map_congr_left fun x _ => ?_
    show (if (Sum.inr x : Key) = Sum.inr w then ((Sum.inr x : Key), Dv.p (PyData.bool true)) else (Sum.inr x, Dv.p (PyData.bool true))) = _
    split <;> rfl
  · rw [if_neg (by rw [decide_eq_false h]; exact Bool.false_ne_true), if_neg h]
    unfold kvW
    rw [List.map_append]
    rfl
theorem dc_words {st : So} {a : Dv} : ∀ (P : List Op) (acc : List Str), acc.length + P.length ≤ 100000 →
    dcL st.length (.tp [.nm 1, .nm 2]) tYesF (fVar 2) (fC (.bool true)) [some a, none, none] (P.map fun o => .p (opD o)) (st ++ [.dK (kvW acc)]) = .ok (.ref st.length) (st ++ [.dK (kvW (P.foldl (fun acc o => addW acc o.2) acc))])
  | [], acc, _ => rfl
  | o :: P, acc, h => by
    have hl : (addW acc o.2).length ≤ acc.length + 1 := by
      unfold addW
      split
      · omega
      · rw [List.length_append]; exact Nat.le_refl _
    rw [List.length_cons] at h
    have ih := dc_words (st := st) (a := a) P (addW acc o.2) (by omega)
    have tg : tgF (.tp [.nm 1, .nm 2]) (.p (opD o)) [some a, none, none] = some [some a, some (sD (vs o.1)), some (sD o.2)] := tg2
    have dk : dictOf (.ref st.length) (st ++ [.dK (kvW acc)]) = some (st.length, kvW acc) := by
      unfold dictOf
      dsimp only
      rw [List.getElem?_append_right (Nat.le_refl _), Nat.sub_self]
      rfl
    rw [List.map_cons]
    unfold dcL
    rw [tg]
    dsimp only
    rw [show tYesF [some a, some (sD (vs o.1)), some (sD o.2)] (st ++ [Cl.dK (kvW acc)]) = .ok true (st ++ [Cl.dK (kvW acc)]) from rfl, bindN_ok, if_pos rfl, show fVar 2 [some a, some (sD (vs o.1)), some (sD o.2)] (st ++ [Cl.dK (kvW acc)]) = .ok (sD o.2) (st ++ [Cl.dK (kvW acc)]) from rfl, bindN_ok, show fC (.bool true) [some a, some (sD (vs o.1)), some (sD o.2)] (st ++ [Cl.dK (kvW acc)]) = .ok (.p (.bool true)) (st ++ [Cl.dK (kvW acc)]) from rfl, bindN_ok, dk]
    show (if (kvW acc).length ≤ 100000 then dcL st.length (.tp [.nm 1, .nm 2]) tYesF (fVar 2) (fC (.bool true)) [some a, none, none] (P.map fun o => .p (opD o)) ((st ++ [Cl.dK (kvW acc)]).set st.length (Cl.dK (putD (kvW acc) (.inr o.2) (.p (.bool true))))) else .stuck) = _
    rw [if_pos (by rw [List.length_map]; omega), putW, List.set_append_right _ _ (Nat.le_refl _), Nat.sub_self]
    exact ih
theorem words_of_ok (P : List Op) (st : So) (hF : Flat st) (h : P.length ≤ 1000) : d_words_of [prD P] st = .ok (lw (wordsOf P)) st := by
  have hw : (wordsOf P).length ≤ 100000 := by
    have := (words_nd P).length_le_of_subset (l₂ := P.map (·.2)) (fun x hx => by
      obtain ⟨o, ho, e⟩ := (words_mem P x).mp hx
      exact List.mem_map.mpr ⟨o, ho, e⟩)
    rw [List.length_map] at this
    omega
  have d := dc_words (st := st) (a := prD P) P [] (by rw [List.length_nil]; omega)
  have it : fIter (fVar 0) [some (prD P), none, none] st = .ok (P.map fun o => .p (opD o)) st := by
    show optR st (itemsOf (prD P) st) = _
    unfold prD
    rw [items_lmap]; rfl
  have e : fDc (fIter (fVar 0)) (.tp [.nm 1, .nm 2]) tYesF (fVar 2) (fC (.bool true)) [some (prD P), none, none] st = .ok (.ref st.length) (st ++ [.dK (kvW (wordsOf P))]) := by
    unfold fDc
    rw [it, bind_ok, rhoW_two]
    exact d
  have l : fListK (fDc (fIter (fVar 0)) (.tp [.nm 1, .nm 2]) tYesF (fVar 2) (fC (.bool true))) [some (prD P), none, none] st = .ok ((wordsOf P).map fun w => Dv.p (.str w)) (st ++ [.dK (kvW (wordsOf P))]) := by
    unfold fListK
    rw [e, bind_ok]
    have dk : dictOf (.ref st.length) (st ++ [.dK (kvW (wordsOf P))]) = some (st.length, kvW (wordsOf P)) := by
      unfold dictOf
      dsimp only
      rw [List.getElem?_append_right (Nat.le_refl _), Nat.sub_self]
      rfl
    rw [dk]
    dsimp only
    rw [if_pos (by rw [List.length_map]; exact hw), List.map_map]
    rfl
  exact runD_pure (N := 3) (args := [prD P]) hF (ret_to (pure_ok (g := fun w => PyData.str w) l hw))
/-! ### programs -/
structure Prog (P : List Op) : Prop where
  ok : ∀ o ∈ P, isWord o.2 = true
  len : P.length ≤ 60
  few : (wordsOf P).length ≤ 12
theorem gLen_pr (P : List Op) (st : So) : gLen [prD P] st = some (zD P.length) := by
  show some (Dv.p (.int ((P.map opD).map Dv.p).length)) = _
  rw [List.length_map, List.length_map]
theorem is_program_ok {P : List Op} (h : Prog P) (st : So) (hF : Flat st) : d_is_program [prD P] st = .ok (.p (.bool true)) st := by
  have v : fVar 0 [some (prD P), none] st = .ok (prD P) st := var_ok rfl
  have n1 : fTNot (fTB (fIsT "list" (fVar 0))) [some (prD P), none] st = .ok false st := not_t (tb_ok (isT_ok v (show tyOf (prD P) st = some "list" from rfl) kit_ll))
  have g2 : gGt (zD P.length) (zD 60) st = some (.p (.bool false)) := by
    have := gt_z (i := (P.length : Int)) (j := 60) (st := st)
    have hl := h.len
    rw [decide_eq_false (by omega)] at this
    exact this
  have n2 : fTB (fOp gGt (fCB gLen (fCons (fVar 0) (fNil))) (fC (.int 60))) [some (prD P), none] st = .ok false st := tb_ok (op_ok (cb_ok (cons_ok v nil_ok) (gLen_pr P st)) c_ok g2)
  have l := lcV_all (fa := fVar 0) (tg := .nm 1) (fe := fCall d_is_operation (fCons (fVar 1) (fNil))) (ρ := [some (prD P), none]) [some (prD P), none] (fun o => [some (prD P), some (.p (opD o))]) (fun _ => Dv.p (.bool true)) v (items_lmap opD P st) (by have := h.len; omega) (by rw [rhoW_one]; rfl) (fun o _ => by rw [tg_nm]; rfl) (fun o ho => call_ok (cons_ok (var_ok rfl) nil_ok) (is_operation_ok o st (h.ok o ho)))
  have a : gAll [.p (.list (P.map fun _ => PyData.bool true))] st = some (.p (.bool true)) := by
    have := gAll_b (P.map fun _ => true) st
    rw [mkL_b, List.map_map] at this
    have e : (P.map fun _ => true).all id = true := List.all_eq_true.mpr fun x hx => by
      obtain ⟨_, _, rfl⟩ := List.mem_map.mp hx
      rfl
    rw [e] at this
    exact this
  have n3 : fTNot (fTB (fCB gAll (fCons (fPure (fLcV (fVar 0) (.nm 1) (tYesF) (fCall d_is_operation (fCons (fVar 1) (fNil))))) (fNil)))) [some (prD P), none] st = .ok false st :=
    not_t (tb_ok (cb_ok (cons_ok (pure_ok (g := fun _ => PyData.bool true) l (by have := h.len; omega)) nil_ok) a))
  have t1 := if_next (ga := sRet (fC (.bool false))) (or_ff n1 (or_ff n2 n3))
  have w : fCall d_words_of (fCons (fVar 0) (fNil)) [some (prD P), none] st = .ok (lw (wordsOf P)) st := call_ok (cons_ok v nil_ok) (words_of_ok P st hF (by have := h.len; omega))
  have g4 : gLe (zD (wordsOf P).length) (zD 12) st = some (.p (.bool true)) := by
    show some (Dv.p (.bool (decide (((wordsOf P).length : Int) ≤ 12)))) = _
    have := h.few
    rw [decide_eq_true (by omega)]
  have t2 := ret_to (op_ok (g := gLe) (fb := fC (.int 12)) (cb_ok (cons_ok w nil_ok) (gLen_lw (wordsOf P) st)) c_ok g4)
  exact runD_pure0 (N := 2) (args := [prD P]) ((seq_to t1).trans t2)
theorem check_program_ok {P : List Op} (h : Prog P) (st : So) (hF : Flat st) : d_check_program [prD P] st = .ok (.p .none) st :=
  runD_none0 (N := 1) (args := [prD P]) (if_next (not_t (tb_ok (call_ok (cons_ok (var_ok rfl) nil_ok) (is_program_ok h st hF)))))
/-! ### execute -/
abbrev rest (w : Str) (row : List Str) : List Str := row.filter fun x => decide (x ≠ w)
theorem rest_le (w : Str) (row : List Str) : (rest w row).length ≤ row.length := List.length_filter_le _ _
theorem exec_len (o : Op) (row : List Str) : (exeR o row).length ≤ row.length + 1 := by
  have : (row.filter fun x => decide (x ≠ o.2)).length ≤ row.length := rest_le o.2 row
  unfold exeR
  split
  · split
    · rw [List.length_cons]; omega
    · rw [List.length_append]; exact Nat.succ_le_succ this
    · omega
  · omega
theorem tup1 {fa : FE} {ρ : Sl} {st : So} {w : Str} (h : fa ρ st = .ok (sD w) st) : fTup (fCons fa fNil) ρ st = .ok (tw [w]) st := tupP (xs := [.str w]) (cons_ok h nil_ok) (show 1 ≤ 100000 by decide)
abbrev sl6 (o : Op) (row : List Str) (r : Option Dv) : Sl := [some (.p (opD o)), some (tw row), r, some (sD (vs o.1)), some (sD o.2), none]
theorem rest_ok (o : Op) (row : List Str) (r : Option Dv) (st : So) (hl : row.length ≤ 1000) : fCB gTuple (fCons (fPure (fLcV (fVar 1) (.nm 5) (fTB (fOp gNe (fVar 5) (fVar 4))) (fVar 5))) (fNil)) (sl6 o row r) st = .ok (tw (rest o.2 row)) st := by
  have l := lcV_pure (fa := fVar 1) (tg := .nm 5) (tt := fTB (fOp gNe (fVar 5) (fVar 4))) (fe := fVar 5) (ρ := sl6 o row r) (sl6 o row r) (fun n => [some (.p (opD o)), some (tw row), r, some (sD (vs o.1)), some (sD o.2), some (sD n)]) (fun n => decide (n ≠ o.2)) (fun n => Dv.p (.str n)) (d := tw row) (st := st) (var_ok rfl) (items_tw row st) (by omega) (by rw [rhoW_one]; rfl) (fun n _ => by rw [tg_nm]; rfl) (fun n _ => tb_ok (op_ok (var_ok rfl) (var_ok rfl) ((gNe_s n o.2 st).trans (by rw [decide_not])))) (fun n _ _ => var_ok rfl)
  have l' := pure_ok l (Nat.le_trans (List.length_filter_le _ _) (by omega))
  exact cb_ok (cons_ok l' nil_ok) (gTuple_lw (rest o.2 row) st (by have := rest_le o.2 row; omega))
theorem exec_if {o : Op} {row : List Str} : exeR o row = if acts o.1 (decide (o.2 ∉ row)) = true then (if o.1 = .drop then rest o.2 row else if goes o.1 = .fr then o.2 :: rest o.2 row else rest o.2 row ++ [o.2]) else row := by
  unfold exeR
  split
  · cases e : o.1 <;> rfl
  · rfl
theorem execute_ok (o : Op) (row : List Str) (st : So) (hl : row.length ≤ 1000) : d_execute [.p (opD o), tw row] st = .ok (tw (exeR o row)) st := by
  have hr := rest_le o.2 row
  have t1 := asgT_to (fa := fVar 0) (tg := .tp [.nm 3, .nm 4]) (ρ := [some (.p (opD o)), some (tw row), none, none, none, none]) (st := st) (var_ok rfl) (ρ' := sl6 o row none) (tg2 (a := .str (vs o.1)) (b := .str o.2))
  have c0 : fTB (fOp gIn (fVar 4) (fVar 1)) (sl6 o row none) st = .ok (decide (o.2 ∈ row)) st := tb_ok (op_ok (var_ok rfl) (var_ok rfl) (gIn_tw o.2 row st))
  have c1 : fTB (fOp gIn (fVar 3) (fIf (fTB (fOp gIn (fVar 4) (fVar 1))) (fC (.tuple ((["addfront", "addback"] : List Str).map PyData.str))) (fC (.tuple ((["lift", "sink", "drop"] : List Str).map PyData.str))))) (sl6 o row none) st = .ok (!acts o.1 (decide (o.2 ∉ row))) st := by
    by_cases h : o.2 ∈ row
    · rw [decide_eq_true h] at c0
      have g := gIn_tw (vs o.1) vAb st
      rw [vsAb] at g
      have e : decide (o.2 ∉ row) = false := decide_eq_false (fun z => z h)
      rw [e]
      exact tb_ok (op_ok (var_ok rfl) (ifE_b c0 (fun _ => c_ok) (fun z => by cases z)) g)
    · rw [decide_eq_false h] at c0
      have g := gIn_tw (vs o.1) vPr st
      rw [vsPr] at g
      have e : decide (o.2 ∉ row) = true := decide_eq_true h
      rw [e]
      exact tb_ok (op_ok (var_ok rfl) (ifE_b c0 (fun z => by cases z) (fun _ => c_ok)) g)
  refine runD_pure0 (N := 6) (args := [.p (opD o), tw row]) (x := .tuple _) ((seq_to t1).trans ?_)
  rw [exec_if]
  cases ha : acts o.1 (decide (o.2 ∉ row)) with
  | false =>
    rw [ha] at c1
    rw [if_neg Bool.false_ne_true]
    exact seq_ret ((if_true_to c1).trans (ret_to (var_ok rfl)))
  | true =>
    rw [ha] at c1
    rw [if_pos rfl]
    refine (seq_to (if_next c1)).trans ?_
    have t3 := asg_to (i := 2) (rest_ok o row none st hl) (ρ' := sl6 o row (some (tw (rest o.2 row)))) rfl
    refine (seq_to t3).trans ?_
    have c2 : fTB (fOp gEq (fVar 3) (fC (.str "drop"))) (sl6 o row (some (tw (rest o.2 row)))) st = .ok (decide (o.1 = .drop)) st := tb_ok (op_ok (var_ok rfl) c_ok ((gEq_s (vs o.1) "drop" st).trans (by rw [vsDr])))
    by_cases h2 : o.1 = .drop
    · rw [decide_eq_true h2] at c2
      rw [if_pos h2]
      exact seq_ret ((if_true_to c2).trans (ret_to (var_ok rfl)))
    · rw [decide_eq_false h2] at c2
      rw [if_neg h2]
      refine (seq_to (if_next c2)).trans ?_
      have g := gIn_tw (vs o.1) vFr st
      rw [vsFr] at g
      have c3 : fTB (fOp gIn (fVar 3) (fC (.tuple ((["front", "addfront", "lift"] : List Str).map PyData.str)))) (sl6 o row (some (tw (rest o.2 row)))) st = .ok (decide (goes o.1 = .fr)) st := tb_ok (op_ok (var_ok rfl) c_ok g)
      refine ret_to (ifE_b c3 (fun z => ?_) (fun z => ?_))
      · rw [if_pos (of_decide_eq_true z)]
        exact op_ok (tup1 (var_ok rfl)) (var_ok rfl) (gAdd_tw (a := [o.2]) (b := rest o.2 row) (by rw [List.length_singleton]; omega))
      · rw [if_neg (of_decide_eq_false z)]
        exact op_ok (var_ok rfl) (tup1 (var_ok rfl)) (gAdd_tw (a := rest o.2 row) (b := [o.2]) (by rw [List.length_singleton]; omega))
/-! ### runs -/
theorem runs_loop {F : FD} (hF : ∀ (o : Op) (row : List Str) (st : So), row.length ≤ 1000 → F [.p (opD o), tw row] st = .ok (tw (exeR o row)) st) (a : Dv) (st : So) : ∀ (P : List Op) (row : List Str) (x : Option Dv), row.length + P.length ≤ 1000 →
    ∃ y, sForL (.nm 2) (sAsg (fCall F (fCons (fVar 2) (fCons (fVar 1) (fNil)))) (.nm 1)) (P.map fun o => .p (opD o)) [some a, some (tw row), x] st = .nx [some a, some (tw (runL P row)), y] st
  | [], row, x, _ => ⟨x, rfl⟩
  | o :: P, row, x, h => by
    rw [List.length_cons] at h
    have dl := exec_len o row
    obtain ⟨y, ih⟩ := runs_loop hF a st P (exeR o row) (some (.p (opD o))) (by omega)
    have t := asg_to (i := 1) (ρ := [some a, some (tw row), some (.p (opD o))]) (st := st) (call_ok (F := F) (fr := fCons (fVar 2) (fCons (fVar 1) (fNil))) (cons_ok (var_ok rfl) (cons_ok (var_ok rfl) nil_ok)) (hF o row st (by omega))) (ρ' := [some a, some (tw (exeR o row)), some (.p (opD o))]) rfl
    exact ⟨y, (forL_next (ρ1 := [some a, some (tw row), some (.p (opD o))]) (tg_nm.trans rfl) t).trans ih⟩
theorem run_on_ok (P : List Op) (row : List Str) (st : So) (h : row.length + P.length ≤ 1000) : d_run_on [prD P, tw row] st = .ok (tw (runL P row)) st := by
  obtain ⟨y, t⟩ := runs_loop execute_ok (prD P) st P row none h
  have t1 := (ev_forV (tg := .nm 2) (body := sAsg (fCall d_execute (fCons (fVar 2) (fCons (fVar 1) (fNil)))) (.nm 1)) (fa := fVar 0) (ρ := [some (prD P), some (tw row), none]) (st := st) (d := prD P) (var_ok rfl) (items_lmap opD P st)).trans t
  exact runD_pure0 (N := 3) (args := [prD P, tw row]) (x := .tuple _) ((seq_to t1).trans (ret_to (var_ok rfl)))
theorem run_ok {P : List Op} (h : Prog P) {row : List Str} (hr : Row row) (st : So) (hF : Flat st) : d_run [prD P, tw row] st = .ok (tw (runL P row)) st := by
  have t1 := drop_to (ρ := [some (prD P), some (tw row)]) (st := st) (call_ok (F := d_check_program) (fr := fCons (fVar 0) (fNil)) (cons_ok (var_ok rfl) nil_ok) (check_program_ok h st hF))
  have t2 := drop_to (ρ := [some (prD P), some (tw row)]) (st := st) (call_ok (F := d_check_row) (fr := fCons (fVar 1) (fNil)) (cons_ok (var_ok rfl) nil_ok) (check_row_ok row st hr))
  have t3 := ret_to (ρ := [some (prD P), some (tw row)]) (st := st) (call_ok (F := d_run_on) (fr := fCons (fVar 0) (fCons (fVar 1) (fNil))) (cons_ok (var_ok rfl) (cons_ok (var_ok rfl) nil_ok)) (run_on_ok P row st (by have := hr.2.2; have := h.len; omega)))
  exact runD_pure0 (N := 2) (args := [prD P, tw row]) (x := .tuple _) ((seq_to t1).trans ((seq_to t2).trans t3))
end FB.K64
set_option Elab.async false
set_option linter.all false
set_option maxRecDepth 100000
set_option maxHeartbeats 4000000
/-! O20b: place_after, moves, ends_of. -/
namespace FB.K64
open PySem PySem.Spec PyProof.Rows L2 RZ FB FB.Th
def plS : Pl → Str
  | .mid => "middle"
  | .fr => "front"
  | .bk => "back"
  | .out => "out"
theorem plS_out (p : Pl) : decide (plS p = "out") = isOut p := by cases p <;> decide +kernel
theorem plS_eq (p q : Pl) : decide (plS p = plS q) = decide (p = q) := by cases p <;> cases q <;> decide +kernel
theorem moves_ok (v : Vb) (p : Pl) (st : So) : d_moves [sD (vs v), sD (plS p)] st = .ok (.p (.bool (acts v (isOut p)))) st := by
  have c : fTB (fOp gEq (fVar 1) (fC (.str "out"))) [some (sD (vs v)), some (sD (plS p))] st = .ok (isOut p) st := tb_ok (op_ok (var_ok rfl) c_ok ((gEq_s (plS p) "out" st).trans (by rw [plS_out])))
  have gA := gNotIn_tw (vs v) vAb st
  rw [vsAb, Bool.not_not] at gA
  have gP := gNotIn_tw (vs v) vPr st
  rw [vsPr, Bool.not_not] at gP
  refine runD_pure0 (N := 2) (args := [sD (vs v), sD (plS p)]) (ret_to ?_)
  cases h : isOut p with
  | true =>
    rw [h] at c
    exact op_ok (var_ok rfl) (ifE_b c (fun _ => c_ok) (fun z => by cases z)) gP
  | false =>
    rw [h] at c
    exact op_ok (var_ok rfl) (ifE_b c (fun z => by cases z) (fun _ => c_ok)) gA
theorem place_ok (v : Vb) (p : Pl) (st : So) : d_place_after [sD (vs v), sD (plS p)] st = .ok (sD (plS (if acts v (isOut p) = true then goes v else p))) st := by
  have c : fTB (fOp gEq (fVar 1) (fC (.str "out"))) [some (sD (vs v)), some (sD (plS p))] st = .ok (isOut p) st := tb_ok (op_ok (var_ok rfl) c_ok ((gEq_s (plS p) "out" st).trans (by rw [plS_out])))
  have gA := gIn_tw (vs v) vAb st
  rw [vsAb] at gA
  have gP := gIn_tw (vs v) vPr st
  rw [vsPr] at gP
  have c1 : fTB (fOp gIn (fVar 0) (fIf (fTB (fOp gEq (fVar 1) (fC (.str "out")))) (fC (.tuple ((["lift", "sink", "drop"] : List Str).map PyData.str))) (fC (.tuple ((["addfront", "addback"] : List Str).map PyData.str))))) [some (sD (vs v)), some (sD (plS p))] st = .ok (!acts v (isOut p)) st := by
    cases h : isOut p with
    | true =>
      rw [h] at c
      exact tb_ok (op_ok (var_ok rfl) (ifE_b c (fun _ => c_ok) (fun z => by cases z)) gP)
    | false =>
      rw [h] at c
      exact tb_ok (op_ok (var_ok rfl) (ifE_b c (fun z => by cases z) (fun _ => c_ok)) gA)
  refine runD_pure0 (N := 2) (args := [sD (vs v), sD (plS p)]) ?_
  cases ha : acts v (isOut p) with
  | false =>
    rw [ha] at c1
    rw [if_neg Bool.false_ne_true]
    exact seq_ret ((if_true_to c1).trans (ret_to (var_ok rfl)))
  | true =>
    rw [ha] at c1
    rw [if_pos rfl]
    refine (seq_to (if_next c1)).trans ?_
    have c2 : fTB (fOp gEq (fVar 0) (fC (.str "drop"))) [some (sD (vs v)), some (sD (plS p))] st = .ok (decide (v = .drop)) st := tb_ok (op_ok (var_ok rfl) c_ok ((gEq_s (vs v) "drop" st).trans (by rw [vsDr])))
    by_cases h2 : v = .drop
    · rw [decide_eq_true h2] at c2
      subst h2
      exact seq_ret ((if_true_to c2).trans (ret_to c_ok))
    · rw [decide_eq_false h2] at c2
      refine (seq_to (if_next c2)).trans ?_
      have g := gIn_tw (vs v) vFr st
      rw [vsFr] at g
      have c3 : fTB (fOp gIn (fVar 0) (fC (.tuple ((["front", "addfront", "lift"] : List Str).map PyData.str)))) [some (sD (vs v)), some (sD (plS p))] st = .ok (decide (goes v = .fr)) st := tb_ok (op_ok (var_ok rfl) c_ok g)
      refine ret_to (ifE_b c3 (fun z => ?_) (fun z => ?_))
      · rw [of_decide_eq_true z]; rfl
      · have : goes v = .bk := by
          have z := of_decide_eq_false z
          cases v <;> first | rfl | exact absurd rfl h2 | exact absurd rfl z
        rw [this]; rfl
/-! ### the ends of one word -/
abbrev En := Pl × Int
def endD (e : En) : PyData := .tuple [.str (plS e.1), .int e.2]
def stepE (w : Str) (k : Nat) (o : Op) (e : En) : En := if o.2 = w ∧ acts o.1 (isOut e.1) = true then (goes o.1, (k : Int)) else e
def endF (w : Str) : List Op → Nat → En → En
  | [], _, e => e
  | o :: P, k, e => endF w P (k + 1) (stepE w k o e)
theorem endF_res (w : Str) : ∀ (P : List Op) (k : Nat) (e : En), endF w P k e = match res w P (isOut e.1) with
    | none => e
    | some z => (z.1, ((k + z.2 : Nat) : Int))
  | [], _, _ => rfl
  | o :: P, k, e => by
    have ih := endF_res w P (k + 1)
    show endF w P (k + 1) (stepE w k o e) = _
    rw [ih]
    unfold stepE
    by_cases c : o.2 = w ∧ acts o.1 (isOut e.1) = true
    · rw [if_pos c, res_act c.1 c.2]
      dsimp only
      cases res w P (isOut (goes o.1)) with
      | none => rfl
      | some z =>
        show (z.1, ((k + 1 + z.2 : Nat) : Int)) = (z.1, ((k + (z.2 + 1) : Nat) : Int))
        rw [show k + 1 + z.2 = k + (z.2 + 1) from by omega]
    · rw [if_neg c, res_no c]
      cases res w P (isOut e.1) with
      | none => rfl
      | some z =>
        show (z.1, ((k + 1 + z.2 : Nat) : Int)) = (z.1, ((k + (z.2 + 1) : Nat) : Int))
        rw [show k + 1 + z.2 = k + (z.2 + 1) from by omega]
def fin (w : Str) (P : List Op) (b : Bool) : En := match res w P b with
  | none => (if b = true then .out else .mid, -1)
  | some z => (z.1, (z.2 : Int))
theorem endF_fin (w : Str) (P : List Op) (b : Bool) : endF w P 0 (if b = true then .out else .mid, -1) = fin w P b := by
  rw [endF_res]
  have : isOut (if b = true then Pl.out else Pl.mid) = b := by cases b <;> rfl
  rw [this]
  unfold fin
  cases res w P b with
  | none => rfl
  | some z => simp
abbrev sl7 (P : List Op) (w : Str) (a b : En) (x y z : Option Dv) : Sl := [some (prD P), some (sD w), some (.p (.list [endD a, endD b])), x, y, z, none]
abbrev bodyE : FS := sSeq (sAsg (fOp gIxA (fVar 4) (fC (.int 0))) (.nm 5)) (sIf (fTB (fOp gEq (fOp gIxA (fVar 4) (fC (.int 1))) (fVar 1))) (sAsg (fPure (fLcV (fVar 2) (.nm 6) (tYesF) (fIf (fTB (fCall d_moves (fCons (fVar 5) (fCons (fOp gIxA (fVar 6) (fC (.int 0))) (fNil))))) (fTup (fCons (fCall d_place_after (fCons (fVar 5) (fCons (fOp gIxA (fVar 6) (fC (.int 0))) (fNil)))) (fCons (fVar 3) (fNil)))) (fVar 6)))) (.nm 2)) (sNext))
theorem bodyE_ok (P : List Op) (w : Str) (a b : En) (k : Nat) (o : Op) (z : Option Dv) (st : So) : ∃ z', bodyE (sl7 P w a b (some (iD k)) (some (.p (opD o))) z) st = .nx (sl7 P w (stepE w k o a) (stepE w k o b) (some (iD k)) (some (.p (opD o))) z') st := by
  have i0 : ∀ z, fOp gIxA (fVar 4) (fC (.int 0)) (sl7 P w a b (some (iD k)) (some (.p (opD o))) z) st = .ok (sD (vs o.1)) st := fun z => op_ok (var_ok rfl) c_ok ix0
  have i1 : ∀ z, fOp gIxA (fVar 4) (fC (.int 1)) (sl7 P w a b (some (iD k)) (some (.p (opD o))) z) st = .ok (sD o.2) st := fun z => op_ok (var_ok rfl) c_ok ix1
  have t1 := asg_to (i := 5) (i0 z) (ρ' := sl7 P w a b (some (iD k)) (some (.p (opD o))) (some (sD (vs o.1)))) rfl
  have c := tb_ok (op_ok (i1 (some (sD (vs o.1)))) (var_ok (i := 1) rfl) (gEq_s o.2 w st))
  refine ⟨some (sD (vs o.1)), (seq_to t1).trans ?_⟩
  by_cases h : o.2 = w
  · rw [decide_eq_true h] at c
    refine (if_true_to c).trans ?_
    have el : ∀ e : En, fIf (fTB (fCall d_moves (fCons (fVar 5) (fCons (fOp gIxA (fVar 6) (fC (.int 0))) (fNil))))) (fTup (fCons (fCall d_place_after (fCons (fVar 5) (fCons (fOp gIxA (fVar 6) (fC (.int 0))) (fNil)))) (fCons (fVar 3) (fNil)))) (fVar 6) [some (prD P), some (sD w), some (.p (.list [endD a, endD b])), some (iD k), some (.p (opD o)), some (sD (vs o.1)), some (.p (endD e))] st = .ok (.p (endD (stepE w k o e))) st := fun e => by
      have j0 : fOp gIxA (fVar 6) (fC (.int 0)) [some (prD P), some (sD w), some (.p (.list [endD a, endD b])), some (iD k), some (.p (opD o)), some (sD (vs o.1)), some (.p (endD e))] st = .ok (sD (plS e.1)) st := op_ok (var_ok rfl) c_ok ix0
      have m := tb_ok (call_ok (F := d_moves) (fr := fCons (fVar 5) (fCons (fOp gIxA (fVar 6) (fC (.int 0))) (fNil))) (cons_ok (var_ok rfl) (cons_ok j0 nil_ok)) (moves_ok o.1 e.1 st))
      have pl := call_ok (F := d_place_after) (fr := fCons (fVar 5) (fCons (fOp gIxA (fVar 6) (fC (.int 0))) (fNil))) (cons_ok (var_ok rfl) (cons_ok j0 nil_ok)) (place_ok o.1 e.1 st)
      refine ifE_b m (fun q => ?_) (fun q => ?_)
      · rw [if_pos q] at pl
        unfold stepE
        rw [if_pos ⟨h, q⟩]
        exact tupP (xs := [.str (plS (goes o.1)), .int (k : Nat)]) (cons_ok pl (cons_ok (var_ok rfl) nil_ok)) (show 2 ≤ 100000 by decide)
      · unfold stepE
        rw [if_neg (fun z => by rw [q] at z; cases z.2)]
        exact var_ok rfl
    have l := lcV_all (fa := fVar 2) (tg := .nm 6) (ρ := sl7 P w a b (some (iD k)) (some (.p (opD o))) (some (sD (vs o.1)))) (sl7 P w a b (some (iD k)) (some (.p (opD o))) (some (sD (vs o.1)))) (st := st) (d := .p (.list ([a, b].map endD))) (xs := [a, b]) (f := fun e => Dv.p (endD e)) (fun e => [some (prD P), some (sD w), some (.p (.list [endD a, endD b])), some (iD k), some (.p (opD o)), some (sD (vs o.1)), some (.p (endD e))]) (fun e => Dv.p (endD (stepE w k o e))) (var_ok rfl) (items_lmap endD [a, b] st) (show 2 ≤ 100000 by decide) (by rw [rhoW_one]; rfl) (fun e _ => by rw [tg_nm]; rfl) (fun e _ => el e)
    exact asg_to (i := 2) (pure_ok (g := fun e => endD (stepE w k o e)) l (show 2 ≤ 100000 by decide)) rfl
  · rw [decide_eq_false h] at c
    have e : ∀ e : En, stepE w k o e = e := fun e => if_neg fun z => h z.1
    rw [e, e]
    exact if_next c
theorem loopE_ok (P0 : List Op) (w : Str) (st : So) : ∀ (P : List Op) (k : Nat) (a b : En) (x y z : Option Dv),
    ∃ x' y' z', sForL (.tp [.nm 3, .nm 4]) bodyE (pairL (rngL (k : Int) P.length) (P.map fun o => .p (opD o))) (sl7 P0 w a b x y z) st = .nx (sl7 P0 w (endF w P k a) (endF w P k b) x' y' z') st
  | [], k, a, b, x, y, z => ⟨x, y, z, rfl⟩
  | o :: P, k, a, b, x, y, z => by
    have e : pairL (rngL (k : Int) (o :: P).length) ((o :: P).map fun o => .p (opD o)) = .tupD [iD k, .p (opD o)] :: pairL (rngL ((k + 1 : Nat) : Int) P.length) (P.map fun o => .p (opD o)) := by
      rw [List.length_cons, rngL_succ]
      rfl
    have tg : tgF (.tp [.nm 3, .nm 4]) (.tupD [iD k, .p (opD o)]) (sl7 P0 w a b x y z) = some (sl7 P0 w a b (some (iD k)) (some (.p (opD o))) z) := by simp
    obtain ⟨z1, t⟩ := bodyE_ok P0 w a b k o z st
    obtain ⟨x', y', z', ih⟩ := loopE_ok P0 w st P (k + 1) (stepE w k o a) (stepE w k o b) (some (iD k)) (some (.p (opD o))) z1
    rw [e]
    exact ⟨x', y', z', (forL_next tg t).trans ih⟩
theorem ends_of_ok (P : List Op) (w : Str) (st : So) : d_ends_of [prD P, sD w] st = .ok (.p (.list [endD (fin w P false), endD (fin w P true)])) st := by
  have m1 : ∀ ρ : Sl, fUn gNeg (fC (.int 1)) ρ st = .ok (zD (-1)) st := fun ρ => rfl
  have t1 := asg_to (i := 2) (ρ := [some (prD P), some (sD w), none, none, none, none, none]) (dispP (xs := [endD (.mid, -1), endD (.out, -1)]) (cons_ok (tupP (xs := [.str "middle", .int (-1)]) (cons_ok c_ok (cons_ok (m1 _) nil_ok)) (show 2 ≤ 100000 by decide)) (cons_ok (tupP (xs := [.str "out", .int (-1)]) (cons_ok c_ok (cons_ok (m1 _) nil_ok)) (show 2 ≤ 100000 by decide)) nil_ok)) (show 2 ≤ 100000 by decide)) (ρ' := sl7 P w (.mid, -1) (.out, -1) none none none) rfl
  obtain ⟨x, y, z, t⟩ := loopE_ok P w st P 0 (.mid, -1) (.out, -1) none none none
  have en : fSt enumAny (fCons (fVar 0) (fNil)) (sl7 P w (.mid, -1) (.out, -1) none none none) st = .ok (pairL (rngL ((0 : Nat) : Int) P.length) (P.map fun o => .p (opD o))) st := by
    rw [ev_fst, cons_ok (var_ok rfl) nil_ok, bind_ok]
    have : enumAny [prD P] st = some (pairL (rngL ((0 : Nat) : Int) P.length) (P.map fun o => .p (opD o))) := by
      show (if isRef (prD P) then none else (seqOf (prD P) st).map fun ys => pairL (rngL 0 ys.length) ys) = _
      rw [show isRef (prD P) = false from rfl, if_neg Bool.false_ne_true]
      have : seqOf (prD P) st = some (P.map fun o => .p (opD o)) := by
        show some ((P.map opD).map Dv.p) = _
        rw [List.map_map]; rfl
      rw [this]
      show some (pairL (rngL 0 (P.map fun o => Dv.p (opD o)).length) _) = _
      rw [List.length_map]
      rfl
    rw [this]; rfl
  have t2 : sFor (fSt enumAny (fCons (fVar 0) (fNil))) (.tp [.nm 3, .nm 4]) bodyE (sl7 P w (.mid, -1) (.out, -1) none none none) st = .nx (sl7 P w (endF w P 0 (.mid, -1)) (endF w P 0 (.out, -1)) x y z) st := by
    rw [ev_for, en, st_ok, t]
  have e1 := endF_fin w P false
  have e2 := endF_fin w P true
  rw [if_neg Bool.false_ne_true] at e1
  rw [if_pos rfl] at e2
  rw [e1, e2] at t2
  exact runD_pure0 (N := 7) (args := [prD P, sD w]) ((seq_to t1).trans ((seq_to t2).trans (ret_to (var_ok rfl))))
end FB.K64
set_option Elab.async false
set_option linter.all false
set_option maxRecDepth 100000
set_option maxHeartbeats 4000000
/-! O20c: entries_at. -/
namespace FB.K64
open PySem PySem.Spec PyProof.Rows L2 RZ FB FB.Th
theorem lst_end {st : So} {ys : List Dv} : lstOf (.ref st.length) (st ++ [.lst ys]) = some ys := by
  unfold lstOf
  dsimp only
  rw [List.getElem?_append_right (Nat.le_refl _), Nat.sub_self]; rfl
theorem cell_end {st : So} {ys : List Dv} : cellL (.ref st.length) (st ++ [.lst ys]) = some (st.length, ys) := by
  unfold cellL
  dsimp only
  rw [List.getElem?_append_right (Nat.le_refl _), Nat.sub_self]; rfl
theorem set_end {st : So} {c d : Cl} : (st ++ [c]).set st.length d = st ++ [d] := by
  rw [List.set_append_right _ _ (Nat.le_refl _), Nat.sub_self]; rfl
theorem isLst_end {st : So} {ys : List Dv} : isLst (.ref st.length) (st ++ [.lst ys]) = true := by
  unfold isLst
  show (lstOf (.ref st.length) (st ++ [.lst ys])).isSome = true
  rw [lst_end]; rfl
theorem app_end {st : So} {ys : List Dv} {d : Dv} (h : ys.length < 100000) : gAppend (.ref st.length) [d] (st ++ [.lst ys]) = some (.p .none, st ++ [.lst (ys ++ [d])]) := by
  unfold gAppend
  rw [cell_end]
  dsimp only
  rw [if_pos h, set_end]
theorem append_to {i : Nat} {fe : FE} {ρ : Sl} {st : So} {ys : List Dv} {d : Dv} (hi : ρ[i]? = some (some (.ref st.length))) (he : fe ρ (st ++ [.lst ys]) = .ok d (st ++ [.lst ys])) (h : ys.length < 100000) : sDrop (fMth gAppend (fVar i) (fCons fe fNil)) ρ (st ++ [.lst ys]) = .nx ρ (st ++ [.lst (ys ++ [d])]) :=
  drop_to (mth_ok (var_ok hi) isLst_end (cons_ok he nil_ok) (app_end h))
theorem ext_to {i : Nat} {fe : FE} {ρ : Sl} {st : So} {xs : List Dv} {ys : List PyData} (hi : ρ[i]? = some (some (.ref st.length))) (he : fe ρ (st ++ [.lst xs]) = .ok (.p (.list ys)) (st ++ [.lst xs])) (h : xs.length + ys.length ≤ 100000) : sExt i fe ρ (st ++ [.lst xs]) = .nx ρ (st ++ [.lst (xs ++ ys.map Dv.p)]) := by
  unfold sExt
  rw [hi]
  dsimp only
  rw [he, st_ok, cell_end]
  show (if xs.length + (ys.map Dv.p).length ≤ 100000 then _ else _) = _
  rw [List.length_map, if_pos h, set_end]
theorem asgL_to {fa : FE} {ts : List Tg} {ρ ρ' : Sl} {st st' : So} {xs : List PyData} (h : fa ρ st = .ok (.p (.list xs)) st') (hl : xs.length = ts.length) (e : tgFs ts (xs.map Dv.p) ρ = some ρ') : sAsgL fa ts ρ st = .nx ρ' st' := by
  unfold sAsgL
  rw [h, st_ok]
  dsimp only
  rw [if_pos hl, e, toE_some]
/-! ### equality of data -/
theorem eqD_t {xs ys : List PyData} {st : So} (h1 : SeqAt.shaped (.tuple xs) = true) (h2 : SeqAt.shaped (.tuple ys) = true) : eqD (.p (.tuple xs)) (.p (.tuple ys)) st = some (PyData.eqv (.tuple xs) (.tuple ys)) := by
  show (if SeqAt.shaped (.tuple xs) && SeqAt.shaped (.tuple ys) then some (PyData.eqv (.tuple xs) (.tuple ys)) else none) = _
  rw [h1, h2]; rfl
theorem gEq_t {xs ys : List PyData} {st : So} (h1 : SeqAt.shaped (.tuple xs) = true) (h2 : SeqAt.shaped (.tuple ys) = true) : gEq (.p (.tuple xs)) (.p (.tuple ys)) st = some (.p (.bool (PyData.eqv (.tuple xs) (.tuple ys)))) := by
  unfold gEq
  rw [eqD_t h1 h2]; rfl
theorem shaped2 {a b : PyData} (h1 : PyData.canLay0 a = true) (h2 : PyData.canLay0 b = true) (h3 : PyData.depth a = 0) (h4 : PyData.depth b = 0) : SeqAt.shaped (.tuple [a, b]) = true := by
  unfold SeqAt.shaped
  have e1 : PyData.canLay0 (.tuple [a, b]) = true := by simp [PyData.canLay0, PyData.canLayAll0, h1, h2]
  have e2 : PyData.depth (.tuple [a, b]) ≤ 64 := by simp [PyData.depth, PyData.depthAll, h3, h4]
  rw [e1, decide_eq_true e2]; rfl
theorem str0 {x : Str} (h : PyData.strOk x = true) : PyData.canLay0 (.str x) = true := by simpa [PyData.canLay0] using h
theorem pl_ok (p : Pl) : PyData.strOk (plS p) = true := by cases p <;> decide +kernel
theorem gEq_end (a b : En) (st : So) : gEq (.p (endD a)) (.p (endD b)) st = some (.p (.bool (decide (a = b)))) := by
  have sh : ∀ e : En, SeqAt.shaped (endD e) = true := fun e => shaped2 (str0 (pl_ok e.1)) (by simp [PyData.canLay0]) (by simp [PyData.depth]) (by simp [PyData.depth])
  have := gEq_t (xs := [.str (plS a.1), .int a.2]) (ys := [.str (plS b.1), .int b.2]) (st := st) (sh a) (sh b)
  rw [show gEq (.p (endD a)) (.p (endD b)) st = _ from this]
  congr 3
  show ((plS a.1 == plS b.1) && ((a.2 == b.2) && true)) = _
  obtain ⟨p, t⟩ := a
  obtain ⟨q, u⟩ := b
  rw [Bool.eq_iff_iff]
  have e1 := plS_eq p q
  rw [Bool.eq_iff_iff, decide_eq_true_eq, decide_eq_true_eq] at e1
  simp [e1]
/-! ### the entries of one word -/
def csS : Cs → Str
  | .always => "always"
  | .present => "present"
  | .absent => "absent"
abbrev Ent := (Str × Cs) × Int
def entD (p : Ent) : PyData := .tuple [.int p.2, .str p.1.1, .str (csS p.1.2)]
def entC (w : Str) (a b : En) (pl : Pl) : List Ent := if a = b ∧ a.1 = pl then [((w, .always), a.2)] else ((if a.1 = pl then [((w, .present), a.2)] else []) ++ (if b.1 = pl then [((w, .absent), b.2)] else []))
theorem entC_len (w : Str) (a b : En) (pl : Pl) : (entC w a b pl).length ≤ 2 := by
  unfold entC
  split
  · exact (show 1 ≤ 2 by decide)
  · split <;> split <;> first | exact (show 2 ≤ 2 by decide) | exact (show 1 ≤ 2 by decide) | exact (show 0 ≤ 2 by decide)
def finQ (q : Option (Pl × Nat)) (b : Bool) : En := match q with
  | none => (if b = true then .out else .mid, -1)
  | some z => (z.1, (z.2 : Int))
theorem entC_q (w : Str) (q r : Option (Pl × Nat)) {pl : Pl} (hp : pl = .fr ∨ pl = .bk) : entC w (finQ q false) (finQ r true) pl = ent1 w (at_ pl q) (at_ pl r) := by
  have hm : ¬ Pl.mid = pl := by rcases hp with rfl | rfl <;> decide
  have ho : ¬ Pl.out = pl := by rcases hp with rfl | rfl <;> decide
  cases q with
  | none =>
    cases r with
    | none => simp [entC, finQ, at_, ent1, hm, ho]
    | some z =>
      by_cases h : z.1 = pl
      · simp [entC, finQ, at_, ent1, hm, h]
      · simp [entC, finQ, at_, ent1, hm, h]
  | some y =>
    cases r with
    | none =>
      by_cases h : y.1 = pl
      · have : ¬ ((y.1, (y.2 : Int)) = (Pl.out, (-1 : Int))) := fun e => by
          have := (Prod.mk.inj e).1
          exact ho (this.symm.trans h)
        have t : ¬ ((pl, (y.2 : Int)) = (Pl.out, (-1 : Int))) := by rw [← h]; exact this
        simp [entC, finQ, at_, ent1, ho, h]
      · simp [entC, finQ, at_, ent1, ho, h]
    | some z =>
      obtain ⟨p1, t1⟩ := y
      obtain ⟨p2, t2⟩ := z
      by_cases h : p1 = pl
      · subst h
        by_cases h2 : p2 = p1
        · subst h2
          by_cases h3 : t1 = t2
          · subst h3
            simp [entC, finQ, at_, ent1]
          · have : ¬ ((t1 : Int) = (t2 : Int)) := fun e => h3 (Int.ofNat.inj e)
            simp [entC, finQ, at_, ent1, h3, this]
        · have : ¬ p1 = p2 := fun e => h2 e.symm
          simp [entC, finQ, at_, ent1, h2, this]
      · by_cases h2 : p2 = pl
        · simp [entC, finQ, at_, ent1, h, h2]
        · simp [entC, finQ, at_, ent1, h, h2]
theorem entC_fin (w : Str) (P : List Op) {pl : Pl} (hp : pl = .fr ∨ pl = .bk) : entC w (fin w P false) (fin w P true) pl = ent1 w (at_ pl (res w P false)) (at_ pl (res w P true)) :=
  entC_q w _ _ hp
abbrev eD (p : Ent) : Dv := .p (entD p)
abbrev sl9 (P : List Op) (pl : Pl) (c : Nat) (x3 x4 x5 x6 : Option Dv) : Sl := [some (prD P), some (sD (plS pl)), some (.ref c), x3, x4, x5, x6, none, none]
abbrev bodyA : FS := sSeq (sAsgL (fCall d_ends_of (fCons (fVar 0) (fCons (fVar 3) (fNil)))) [.nm 4, .nm 5]) (sIf (fTAnd (fTB (fOp gEq (fVar 4) (fVar 5))) (fTB (fOp gEq (fOp gIxA (fVar 4) (fC (.int 0))) (fVar 1)))) (sDrop (fMth gAppend (fVar 2) (fCons (fTup (fCons (fOp gIxA (fVar 4) (fC (.int 1))) (fCons (fVar 3) (fCons (fC (.str "always")) (fNil))))) (fNil)))) (sSeq (sAsg (fTup (fCons (fTup (fCons (fVar 4) (fCons (fC (.str "present")) (fNil)))) (fCons (fTup (fCons (fVar 5) (fCons (fC (.str "absent")) (fNil)))) (fNil)))) (.nm 6)) (sExt 2 (fPure (fLcV (fVar 6) (.tp [.nm 7, .nm 8]) (fTB (fOp gEq (fOp gIxA (fVar 7) (fC (.int 0))) (fVar 1))) (fTup (fCons (fOp gIxA (fVar 7) (fC (.int 1))) (fCons (fVar 3) (fCons (fVar 8) (fNil))))))))))
theorem bodyA_ok (P : List Op) (pl : Pl) (st : So) (w : Str) (E : List Ent) (x4 x5 x6 : Option Dv) (hE : E.length ≤ 1000) : ∃ y4 y5 y6, bodyA (sl9 P pl st.length (some (sD w)) x4 x5 x6) (st ++ [.lst (E.map eD)]) = .nx (sl9 P pl st.length (some (sD w)) y4 y5 y6) (st ++ [.lst ((E ++ entC w (fin w P false) (fin w P true) pl).map eD)]) := by
  generalize hS : st ++ [Cl.lst (E.map eD)] = S
  generalize ha : fin w P false = a
  generalize hb : fin w P true = b
  have en := ends_of_ok P w S
  rw [ha, hb] at en
  have t1 := asgL_to (ts := [.nm 4, .nm 5]) (ρ := sl9 P pl st.length (some (sD w)) x4 x5 x6) (call_ok (F := d_ends_of) (fr := fCons (fVar 0) (fCons (fVar 3) (fNil))) (cons_ok (var_ok rfl) (cons_ok (var_ok rfl) nil_ok)) en) rfl (ρ' := sl9 P pl st.length (some (sD w)) (some (.p (endD a))) (some (.p (endD b))) x6) (by simp)
  have i0 : fOp gIxA (fVar 4) (fC (.int 0)) (sl9 P pl st.length (some (sD w)) (some (.p (endD a))) (some (.p (endD b))) x6) S = .ok (sD (plS a.1)) S := op_ok (var_ok rfl) c_ok ix0
  have i1 : fOp gIxA (fVar 4) (fC (.int 1)) (sl9 P pl st.length (some (sD w)) (some (.p (endD a))) (some (.p (endD b))) x6) S = .ok (zD a.2) S := op_ok (var_ok rfl) c_ok ix1
  have c := andT_b (tb_ok (op_ok (fa := fVar 4) (fb := fVar 5) (ρ := sl9 P pl st.length (some (sD w)) (some (.p (endD a))) (some (.p (endD b))) x6) (var_ok rfl) (var_ok rfl) (gEq_end a b S))) (tb_ok (op_ok (fb := fVar 1) i0 (var_ok rfl) ((gEq_s (plS a.1) (plS pl) S).trans (by rw [plS_eq]))))
  have hlt : (E.map eD).length < 100000 := by rw [List.length_map]; omega
  by_cases h : a = b ∧ a.1 = pl
  · rw [decide_eq_true h.1, decide_eq_true h.2] at c
    refine ⟨some (.p (endD a)), some (.p (endD b)), x6, (seq_to t1).trans ((if_true_to c).trans ?_)⟩
    have tp : fTup (fCons (fOp gIxA (fVar 4) (fC (.int 1))) (fCons (fVar 3) (fCons (fC (.str "always")) (fNil)))) (sl9 P pl st.length (some (sD w)) (some (.p (endD a))) (some (.p (endD b))) x6) S = .ok (eD ((w, .always), a.2)) S := tupP (xs := [.int a.2, .str w, .str "always"]) (cons_ok i1 (cons_ok (var_ok rfl) (cons_ok c_ok nil_ok))) (show 3 ≤ 100000 by decide)
    subst hS
    have := append_to (i := 2) (ρ := sl9 P pl st.length (some (sD w)) (some (.p (endD a))) (some (.p (endD b))) x6) rfl tp hlt
    unfold entC
    rw [if_pos h, List.map_append]
    exact this
  · have c' : fTAnd (fTB (fOp gEq (fVar 4) (fVar 5))) (fTB (fOp gEq (fOp gIxA (fVar 4) (fC (.int 0))) (fVar 1))) (sl9 P pl st.length (some (sD w)) (some (.p (endD a))) (some (.p (endD b))) x6) S = .ok false S := by
      have : (decide (a = b) && decide (a.1 = pl)) = false := by
        rw [Bool.eq_false_iff]
        intro q
        rw [Bool.and_eq_true] at q
        exact h ⟨of_decide_eq_true q.1, of_decide_eq_true q.2⟩
      rw [this] at c
      exact c
    have tt : ∀ (i : Nat) (e : En) (s : Str) (ρ : Sl), ρ[i]? = some (some (.p (endD e))) → fTup (fCons (fVar i) (fCons (fC (.str s)) fNil)) ρ S = .ok (.p (.tuple [endD e, .str s])) S := fun i e s ρ hi => tupP (xs := [endD e, .str s]) (cons_ok (var_ok hi) (cons_ok c_ok nil_ok)) (show 2 ≤ 100000 by decide)
    have qD : En × Cs → PyData := fun q => .tuple [endD q.1, .str (csS q.2)]
    have t2 := asg_to (i := 6) (ρ := sl9 P pl st.length (some (sD w)) (some (.p (endD a))) (some (.p (endD b))) x6) (tupP (xs := [.tuple [endD a, .str (csS .present)], .tuple [endD b, .str (csS .absent)]]) (cons_ok (tt 4 a "present" _ rfl) (cons_ok (tt 5 b "absent" _ rfl) nil_ok)) (show 2 ≤ 100000 by decide)) (ρ' := sl9 P pl st.length (some (sD w)) (some (.p (endD a))) (some (.p (endD b))) (some (.p (.tuple [.tuple [endD a, .str (csS .present)], .tuple [endD b, .str (csS .absent)]])))) rfl
    have l := lcV_pure (fa := fVar 6) (tg := .tp [.nm 7, .nm 8]) (tt := fTB (fOp gEq (fOp gIxA (fVar 7) (fC (.int 0))) (fVar 1))) (fe := fTup (fCons (fOp gIxA (fVar 7) (fC (.int 1))) (fCons (fVar 3) (fCons (fVar 8) (fNil))))) (ρ := sl9 P pl st.length (some (sD w)) (some (.p (endD a))) (some (.p (endD b))) (some (.p (.tuple [.tuple [endD a, .str (csS .present)], .tuple [endD b, .str (csS .absent)]])))) (sl9 P pl st.length (some (sD w)) (some (.p (endD a))) (some (.p (endD b))) (some (.p (.tuple [.tuple [endD a, .str (csS .present)], .tuple [endD b, .str (csS .absent)]])))) (st := S) (d := .p (.tuple [.tuple [endD a, .str (csS .present)], .tuple [endD b, .str (csS .absent)]])) (xs := [(a, Cs.present), (b, Cs.absent)]) (f := fun q => .p (.tuple [endD q.1, .str (csS q.2)])) (fun q => [some (prD P), some (sD (plS pl)), some (.ref st.length), some (sD w), some (.p (endD a)), some (.p (endD b)), some (.p (.tuple [.tuple [endD a, .str (csS .present)], .tuple [endD b, .str (csS .absent)]])), some (.p (endD q.1)), some (sD (csS q.2))]) (fun q => decide (q.1.1 = pl)) (fun q => Dv.p (entD ((w, q.2), q.1.2))) (var_ok rfl) rfl (show 2 ≤ 100000 by decide) (by rw [rhoW_two]; rfl) (fun q _ => tg2.trans rfl) (fun q _ => tb_ok (op_ok (op_ok (var_ok rfl) c_ok ix0) (var_ok rfl) ((gEq_s (plS q.1.1) (plS pl) S).trans (by rw [plS_eq])))) (fun q _ _ => tupP (xs := [.int q.1.2, .str w, .str (csS q.2)]) (cons_ok (op_ok (var_ok rfl) c_ok ix1) (cons_ok (var_ok rfl) (cons_ok (var_ok rfl) nil_ok))) (show 3 ≤ 100000 by decide))
    have pl' := pure_ok (g := fun q : En × Cs => entD ((w, q.2), q.1.2)) l (Nat.le_trans (List.length_filter_le _ _) (show 2 ≤ 100000 by decide))
    subst hS
    have ex := ext_to (i := 2) rfl pl' (by rw [List.length_map, List.length_map]; have := List.length_filter_le (fun q : En × Cs => decide (q.1.1 = pl)) [(a, Cs.present), (b, Cs.absent)]; rw [show [(a, Cs.present), (b, Cs.absent)].length = 2 from rfl] at this; omega)
    have e : (((([(a, Cs.present), (b, Cs.absent)] : List (En × Cs)).filter fun q => decide (q.1.1 = pl)).map fun q => entD ((w, q.2), q.1.2)).map Dv.p) = (entC w a b pl).map eD := by
      unfold entC
      rw [if_neg h]
      by_cases h1 : a.1 = pl <;> by_cases h2 : b.1 = pl <;> simp [h1, h2]
    rw [e, ← List.map_append] at ex
    exact ⟨_, _, _, (seq_to t1).trans ((if_to c').trans ((seq_to t2).trans ex))⟩
theorem loopA_ok (P : List Op) (pl : Pl) (st : So) : ∀ (ws : List Str) (E : List Ent) (x3 x4 x5 x6 : Option Dv), E.length + 2 * ws.length ≤ 1000 →
    ∃ y3 y4 y5 y6, sForL (.nm 3) bodyA (ws.map sD) (sl9 P pl st.length x3 x4 x5 x6) (st ++ [.lst (E.map eD)]) = .nx (sl9 P pl st.length y3 y4 y5 y6) (st ++ [.lst ((E ++ ws.flatMap fun w => entC w (fin w P false) (fin w P true) pl).map eD)])
  | [], E, x3, x4, x5, x6, _ => ⟨x3, x4, x5, x6, by rw [List.flatMap_nil, List.append_nil]; rfl⟩
  | w :: ws, E, x3, x4, x5, x6, h => by
    rw [List.length_cons] at h
    obtain ⟨y4, y5, y6, t⟩ := bodyA_ok P pl st w E x4 x5 x6 (by omega)
    have hl := entC_len w (fin w P false) (fin w P true) pl
    obtain ⟨z3, z4, z5, z6, ih⟩ := loopA_ok P pl st ws (E ++ entC w (fin w P false) (fin w P true) pl) (some (sD w)) y4 y5 y6 (by rw [List.length_append]; omega)
    refine ⟨z3, z4, z5, z6, (forL_next (ρ1 := sl9 P pl st.length (some (sD w)) x4 x5 x6) (tg_nm.trans rfl) t).trans ?_⟩
    rw [ih, List.flatMap_cons, List.append_assoc]
theorem ents_nd (P : List Op) (pl : Pl) : ∀ {ws : List Str}, ws.Nodup → ((ents ws P pl).map (·.2)).Nodup := fun {ws} h => by
  rw [List.nodup_iff_pairwise_ne, List.pairwise_map]
  have : (ents ws P pl).Nodup := by
    induction ws with
    | nil => exact List.nodup_nil
    | cons w ws ih =>
      obtain ⟨h1, h2⟩ := List.nodup_cons.mp h
      show (ent1 w _ _ ++ ents ws P pl).Nodup
      refine List.nodup_append.mpr ⟨?_, ih h2, fun x hx y hy e => ?_⟩
      · generalize at_ pl (res w P false) = q
        generalize at_ pl (res w P true) = r
        cases q <;> cases r <;> simp [ent1]
        split <;> simp
      · have e1 := (ent1_mem hx).1
        have e2 := (ents_time hy).1
        rw [← e, e1] at e2
        exact h1 e2
  exact this.imp_of_mem fun {x y} hx hy ne e => ne (ents_uniq x hx y hy e)
theorem trip_ents : ∀ E : List Ent, tripKs (E.map eD) = some (E.map (·.2))
  | [] => rfl
  | p :: E => by
    show (match tripK (eD p), tripKs (E.map eD) with | some i, some l => some (i :: l) | _, _ => none) = _
    rw [trip_ents E]
    rfl
theorem zip_ents : ∀ E : List Ent, (E.map eD).zip (E.map (·.2)) = E.map fun p => (eD p, p.2)
  | [] => rfl
  | p :: E => by
    rw [List.map_cons, List.map_cons, List.zip_cons_cons, zip_ents E]; rfl
theorem entries_ok {P : List Op} {pl : Pl} (hp : pl = .fr ∨ pl = .bk) (st : So) (hF : Flat st) (hl : P.length ≤ 400) (hw : (wordsOf P).length ≤ 400) : d_entries_at [prD P, sD (plS pl)] st = .ok (.p (.list ((srtP (ents (wordsOf P) P pl)).map entD))) st := by
  have t1 := asg_to (i := 2) (cell_to (fr := disp fNil) (ρ := [some (prD P), some (sD (plS pl)), none, none, none, none, none, none, none]) (st := st) (disp_to nil_ok (by decide)) (by decide)) (ρ' := sl9 P pl st.length none none none none) rfl
  have wo := call_ok (F := d_words_of) (fr := fCons (fVar 0) (fNil)) (ρ := sl9 P pl st.length none none none none) (cons_ok (var_ok rfl) nil_ok) (words_of_ok P (st ++ [.lst []]) (hF.app (Flat.one (flat_lst []))) (by omega))
  obtain ⟨y3, y4, y5, y6, lp⟩ := loopA_ok P pl st (wordsOf P) [] none none none none (by rw [List.length_nil]; omega)
  rw [List.nil_append] at lp
  have ee : (wordsOf P).flatMap (fun w => entC w (fin w P false) (fin w P true) pl) = ents (wordsOf P) P pl := by
    unfold ents
    exact flatMap_congr' fun w _ => entC_fin w P hp
  rw [ee] at lp
  have t2 := (ev_forV (tg := .nm 3) (body := bodyA) wo (items_lw (wordsOf P) _)).trans lp
  have hlen : (ents (wordsOf P) P pl).length ≤ 1000 := by
    rw [← ee, List.length_flatMap]
    have : ∀ ws : List Str, ((ws.map fun w => (entC w (fin w P false) (fin w P true) pl).length).sum) ≤ 2 * ws.length := fun ws => by
      induction ws with
      | nil => exact Nat.le_refl _
      | cons w ws ih =>
        have := entC_len w (fin w P false) (fin w P true) pl
        rw [List.map_cons, List.sum_cons, List.length_cons]
        omega
    have := this (wordsOf P)
    omega
  have srt : fSortT (fVar 2) (sl9 P pl st.length y3 y4 y5 y6) (st ++ [.lst ((ents (wordsOf P) P pl).map eD)]) = .ok ((srtP (ents (wordsOf P) P pl)).map fun p => Dv.p (entD p)) (st ++ [.lst ((ents (wordsOf P) P pl).map eD)]) := by
    unfold fSortT
    rw [var_ok (d := .ref st.length) rfl, bind_ok, lst_end]
    dsimp only
    rw [trip_ents]
    dsimp only
    rw [if_pos ⟨by rw [List.length_map]; omega, ents_nd P pl (words_nd P)⟩, zip_ents, srtP_map (fun p : Ent => (eD p, p.2)) (fun _ _ => Iff.rfl), List.map_map]
    rfl
  have hs : (srtP (ents (wordsOf P) P pl)).length ≤ 100000 := by rw [(srtP_perm _).length_eq]; omega
  exact runD_pure (N := 9) (args := [prD P, sD (plS pl)]) hF ((seq_to t1).trans ((seq_to t2).trans (ret_to (pure_ok srt hs))))
end FB.K64
set_option Elab.async false
set_option linter.all false
set_option maxRecDepth 100000
set_option maxHeartbeats 4000000
/-! O20d: side_by_side, meaning_of, agree, settles. -/
namespace FB.K64
open PySem PySem.Spec PyProof.Rows L2 RZ FB FB.Th
abbrev Pc := Str × Cs
def pcD (p : Pc) : PyData := .tuple [.str p.1, .str (csS p.2)]
theorem cs_ok (c : Cs) : PyData.strOk (csS c) = true := by cases c <;> decide +kernel
theorem csS_eq (c d : Cs) : decide (csS c = csS d) = decide (c = d) := by cases c <;> cases d <;> decide +kernel
theorem gEq_pc (a b : Pc) (st : So) (ha : PyData.strOk a.1 = true) (hb : PyData.strOk b.1 = true) : gEq (.p (pcD a)) (.p (pcD b)) st = some (.p (.bool (decide (a = b)))) := by
  have sh : ∀ e : Pc, PyData.strOk e.1 = true → SeqAt.shaped (pcD e) = true := fun e he => shaped2 (str0 he) (str0 (cs_ok e.2)) (by simp [PyData.depth]) (by simp [PyData.depth])
  have := gEq_t (xs := [.str a.1, .str (csS a.2)]) (ys := [.str b.1, .str (csS b.2)]) (st := st) (sh a ha) (sh b hb)
  rw [show gEq (.p (pcD a)) (.p (pcD b)) st = _ from this]
  congr 3
  show ((a.1 == b.1) && ((csS a.2 == csS b.2) && true)) = _
  obtain ⟨p, t⟩ := a
  obtain ⟨q, u⟩ := b
  rw [Bool.eq_iff_iff]
  have e1 := csS_eq t u
  rw [Bool.eq_iff_iff, decide_eq_true_eq, decide_eq_true_eq] at e1
  simp [e1]
theorem sbs_mem {f s : Cs} {w : Str} : ∀ {es acc : List Pc}, w ∈ (es.foldl (sbs1 f s) acc).map (·.1) → w ∈ acc.map (·.1) ∨ w ∈ es.map (·.1)
  | [], acc, h => .inl h
  | e :: es, acc, h => by
    rcases sbs_mem (es := es) h with h | h
    · unfold sbs1 at h
      split at h
      · rw [List.map_append, List.mem_append] at h
        rcases h with h | h
        · obtain ⟨x, hx, e2⟩ := List.mem_map.mp h
          exact .inl (List.mem_map.mpr ⟨x, (List.dropLast_subset _) hx, e2⟩)
        · exact .inr (by rw [List.map_cons]; exact List.mem_cons.mpr (.inl (List.mem_singleton.mp h)))
      · rw [List.map_append, List.mem_append] at h
        rcases h with h | h
        · exact .inl h
        · exact .inr (by rw [List.map_cons]; exact List.mem_cons.mpr (.inl (List.mem_singleton.mp h)))
    · exact .inr (by rw [List.map_cons]; exact List.mem_cons_of_mem _ h)
abbrev pD (p : Pc) : Dv := .p (pcD p)
abbrev slS (d : Dv) (f s : Cs) (c : Nat) (x y : Option Dv) : Sl := [some d, some (sD (csS f)), some (sD (csS s)), some (.ref c), x, y]
abbrev bodyB : FS := sSeq (sIf (fTAnd (fTB (fOp gGt (fCB gLen (fCons (fVar 3) (fNil))) (fC (.int 0)))) (fTAnd (fTB (fOp gEq (fOp gIxA (fVar 3) (fUn gNeg (fC (.int 1)))) (fTup (fCons (fVar 4) (fCons (fVar 1) (fNil)))))) (fTB (fOp gEq (fVar 5) (fVar 2))))) (sSeq (sDrop (fMth0 gPop (fVar 3))) (sAsg (fC (.str "always")) (.nm 5))) (sNext)) (sDrop (fMth gAppend (fVar 3) (fCons (fTup (fCons (fVar 4) (fCons (fVar 5) (fNil)))) (fNil))))
theorem len_end {st : So} {ys : List Dv} : gLen [.ref st.length] (st ++ [.lst ys]) = some (zD ys.length) := by
  show (seqOf (.ref st.length) (st ++ [.lst ys])).map (fun ys => Dv.p (.int ys.length)) = _
  rw [show seqOf (.ref st.length) (st ++ [.lst ys]) = some ys from lst_end]
  rfl
theorem ixm1_end {st : So} {ys : List Dv} {d : Dv} : gIxA (.ref st.length) (zD (-1)) (st ++ [.lst (ys ++ [d])]) = some d := by
  have d0 : dictOf (.ref st.length) (st ++ [.lst (ys ++ [d])]) = none := by
    unfold dictOf
    dsimp only
    rw [List.getElem?_append_right (Nat.le_refl _), Nat.sub_self]; rfl
  unfold gIxA
  rw [d0]
  show (match seqOf (.ref st.length) (st ++ [.lst (ys ++ [d])]) with | some xs => atI xs (-1) | none => none) = _
  rw [show seqOf (.ref st.length) (st ++ [.lst (ys ++ [d])]) = some (ys ++ [d]) from lst_end]
  show atI (ys ++ [d]) (-1) = _
  unfold atI
  have e : ixN (ys ++ [d]).length (-1) = some ys.length := by
    unfold ixN
    rw [List.length_append, List.length_singleton]
    rw [if_neg (by omega), if_pos (by push_cast; omega)]
    congr 1
    push_cast
    omega
  rw [e]
  show (ys ++ [d])[ys.length]? = _
  rw [List.getElem?_append_right (Nat.le_refl _), Nat.sub_self]; rfl
theorem pop_end {st : So} {ys : List Dv} {d : Dv} : gPop (.ref st.length) [] (st ++ [.lst (ys ++ [d])]) = some (d, st ++ [.lst ys]) := by
  unfold gPop
  rw [cell_end]
  dsimp only
  have : (ys ++ [d])[(ys ++ [d]).length - 1]? = some d := by
    rw [List.length_append, List.length_singleton, Nat.add_sub_cancel, List.getElem?_append_right (Nat.le_refl _), Nat.sub_self]; rfl
  rw [this]
  dsimp only
  rw [set_end, List.dropLast_concat]
theorem bodyB_ok (d : Dv) (f s : Cs) (st : So) (acc : List Pc) (e : Pc) (h : acc.length ≤ 1000) (ha : ∀ p ∈ acc, PyData.strOk p.1 = true) (he : PyData.strOk e.1 = true) : ∃ y, bodyB (slS d f s st.length (some (sD e.1)) (some (sD (csS e.2)))) (st ++ [.lst (acc.map pD)]) = .nx (slS d f s st.length (some (sD e.1)) y) (st ++ [.lst ((sbs1 f s acc e).map pD)]) := by
  have c1 : fTB (fOp gGt (fCB gLen (fCons (fVar 3) (fNil))) (fC (.int 0))) (slS d f s st.length (some (sD e.1)) (some (sD (csS e.2)))) (st ++ [.lst (acc.map pD)]) = .ok (decide (acc ≠ [])) (st ++ [.lst (acc.map pD)]) := by
    have g := gt_z (i := ((acc.map pD).length : Int)) (j := 0) (st := st ++ [.lst (acc.map pD)])
    have : decide ((0 : Int) < ((acc.map pD).length : Int)) = decide (acc ≠ []) := by
      rw [List.length_map, Bool.eq_iff_iff, decide_eq_true_eq, decide_eq_true_eq, ← List.length_pos_iff]
      omega
    rw [this] at g
    exact tb_ok (op_ok (cb_ok (cons_ok (var_ok rfl) nil_ok) len_end) c_ok g)
  have c3 : fTB (fOp gEq (fVar 5) (fVar 2)) (slS d f s st.length (some (sD e.1)) (some (sD (csS e.2)))) (st ++ [.lst (acc.map pD)]) = .ok (decide (e.2 = s)) (st ++ [.lst (acc.map pD)]) := tb_ok (op_ok (var_ok rfl) (var_ok rfl) ((gEq_s (csS e.2) (csS s) _).trans (by rw [csS_eq])))
  have tp : ∀ (c : Cs) (S : So), fTup (fCons (fVar 4) (fCons (fVar 5) (fNil))) (slS d f s st.length (some (sD e.1)) (some (sD (csS c)))) S = .ok (pD (e.1, c)) S := fun c S => tupP (xs := [.str e.1, .str (csS c)]) (cons_ok (var_ok rfl) (cons_ok (var_ok rfl) nil_ok)) (show 2 ≤ 100000 by decide)
  -- nothing is joined
  have plain : fTAnd (fTB (fOp gGt (fCB gLen (fCons (fVar 3) (fNil))) (fC (.int 0)))) (fTAnd (fTB (fOp gEq (fOp gIxA (fVar 3) (fUn gNeg (fC (.int 1)))) (fTup (fCons (fVar 4) (fCons (fVar 1) (fNil)))))) (fTB (fOp gEq (fVar 5) (fVar 2)))) (slS d f s st.length (some (sD e.1)) (some (sD (csS e.2)))) (st ++ [.lst (acc.map pD)]) = .ok false (st ++ [.lst (acc.map pD)]) → sbs1 f s acc e = acc ++ [e] → ∃ y, bodyB (slS d f s st.length (some (sD e.1)) (some (sD (csS e.2)))) (st ++ [.lst (acc.map pD)]) = .nx (slS d f s st.length (some (sD e.1)) y) (st ++ [.lst ((sbs1 f s acc e).map pD)]) := fun c q => by
    refine ⟨some (sD (csS e.2)), (seq_to (if_next c)).trans ?_⟩
    have := append_to (i := 3) (ρ := slS d f s st.length (some (sD e.1)) (some (sD (csS e.2)))) (st := st) (ys := acc.map pD) rfl (tp e.2 _) (by rw [List.length_map]; omega)
    rw [q, List.map_append]
    exact this
  rcases List.eq_nil_or_concat acc with rfl | ⟨acc', p, hq⟩
  · refine plain ?_ ?_
    · rw [ev_tand, c1, bind_ok]; rfl
    · exact if_neg fun z => by cases z.1
  · rw [List.concat_eq_append] at hq
    subst hq
    rw [decide_eq_true (by simp)] at c1
    have e0 : (acc' ++ [p]).map pD = acc'.map pD ++ [pD p] := by rw [List.map_append]; rfl
    have c2 : fTB (fOp gEq (fOp gIxA (fVar 3) (fUn gNeg (fC (.int 1)))) (fTup (fCons (fVar 4) (fCons (fVar 1) (fNil))))) (slS d f s st.length (some (sD e.1)) (some (sD (csS e.2)))) (st ++ [.lst ((acc' ++ [p]).map pD)]) = .ok (decide (p = (e.1, f))) (st ++ [.lst ((acc' ++ [p]).map pD)]) := by
      have ix := ixm1_end (st := st) (ys := acc'.map pD) (d := pD p)
      rw [← e0] at ix
      exact tb_ok (op_ok (op_ok (var_ok rfl) (show fUn gNeg (fC (.int 1)) _ _ = .ok (zD (-1)) _ from rfl) ix) (tupP (xs := [.str e.1, .str (csS f)]) (cons_ok (var_ok rfl) (cons_ok (var_ok rfl) nil_ok)) (show 2 ≤ 100000 by decide)) (gEq_pc p (e.1, f) _ (ha p (by simp)) he))
    have c := andT_b c1 (andT_b c2 c3)
    have gl : (acc' ++ [p]).getLast? = some p := by simp
    by_cases h1 : p = (e.1, f) ∧ e.2 = s
    · rw [decide_eq_true h1.1, decide_eq_true h1.2] at c
      have q : sbs1 f s (acc' ++ [p]) e = acc' ++ [(e.1, .always)] := by
        unfold sbs1
        rw [if_pos ⟨by rw [gl, h1.1], h1.2⟩, List.dropLast_concat]
      rw [q]
      have pp := pop_end (st := st) (ys := acc'.map pD) (d := pD p)
      rw [← e0] at pp
      have t1 : sDrop (fMth0 gPop (fVar 3)) (slS d f s st.length (some (sD e.1)) (some (sD (csS e.2)))) (st ++ [.lst ((acc' ++ [p]).map pD)]) = .nx (slS d f s st.length (some (sD e.1)) (some (sD (csS e.2)))) (st ++ [.lst (acc'.map pD)]) := by
        refine drop_to (d := pD p) ?_
        rw [ev_mth0, var_ok (d := .ref st.length) rfl, bind_ok, isLst_end, if_pos rfl, pp, toM_some]
      have t2 := asg_to (i := 5) (fa := fC (.str "always")) (ρ := slS d f s st.length (some (sD e.1)) (some (sD (csS e.2)))) (st := st ++ [.lst (acc'.map pD)]) c_ok (ρ' := slS d f s st.length (some (sD e.1)) (some (sD (csS .always)))) rfl
      have t3 := append_to (i := 3) (ρ := slS d f s st.length (some (sD e.1)) (some (sD (csS .always)))) (st := st) (ys := acc'.map pD) rfl (tp .always _) (by rw [List.length_append] at h; rw [List.length_map]; omega)
      refine ⟨some (sD (csS .always)), (seq_to ((if_true_to c).trans ((seq_to t1).trans t2))).trans (t3.trans ?_)⟩
      rw [List.map_append]; rfl
    · refine plain ?_ (if_neg fun z => h1 ⟨by rw [gl] at z; exact Option.some.inj z.1, z.2⟩)
      have : (true && (decide (p = (e.1, f)) && decide (e.2 = s))) = false := by
        rw [Bool.true_and, Bool.eq_false_iff]
        intro q
        rw [Bool.and_eq_true] at q
        exact h1 ⟨of_decide_eq_true q.1, of_decide_eq_true q.2⟩
      rw [this] at c
      exact c
theorem loopB_ok (d : Dv) (f s : Cs) (st : So) : ∀ (es acc : List Pc) (x y : Option Dv), acc.length + es.length ≤ 1000 → (∀ p ∈ acc, PyData.strOk p.1 = true) → (∀ p ∈ es, PyData.strOk p.1 = true) →
    ∃ x' y', sForL (.tp [.nm 4, .nm 5]) bodyB (es.map pD) (slS d f s st.length x y) (st ++ [.lst (acc.map pD)]) = .nx (slS d f s st.length x' y') (st ++ [.lst ((es.foldl (sbs1 f s) acc).map pD)])
  | [], acc, x, y, _, _, _ => ⟨x, y, rfl⟩
  | e :: es, acc, x, y, h, ha, he => by
    rw [List.length_cons] at h
    obtain ⟨y1, t⟩ := bodyB_ok d f s st acc e (by omega) ha (he e List.mem_cons_self)
    have hl := sbs1_len f s acc e
    obtain ⟨x', y', ih⟩ := loopB_ok d f s st es (sbs1 f s acc e) (some (sD e.1)) y1 (by omega) (fun p hp => by
      have : p.1 ∈ ([e].foldl (sbs1 f s) acc).map (·.1) := List.mem_map.mpr ⟨p, hp, rfl⟩
      rcases sbs_mem this with q | q
      · obtain ⟨p', h1, h2⟩ := List.mem_map.mp q
        rw [← h2]; exact ha p' h1
      · rw [List.mem_singleton.mp q]; exact he e List.mem_cons_self) (fun p hp => he p (List.mem_cons_of_mem _ hp))
    exact ⟨x', y', (forL_next (ρ1 := slS d f s st.length (some (sD e.1)) (some (sD (csS e.2)))) (tg2.trans rfl) t).trans ih⟩
theorem sbs_ok (es : List Pc) (f s : Cs) (st : So) (hF : Flat st) (h : es.length ≤ 1000) (he : ∀ p ∈ es, PyData.strOk p.1 = true) : d_side_by_side [.p (.list (es.map pcD)), sD (csS f), sD (csS s)] st = .ok (.p (.tuple ((sbs f s es).map pcD))) st := by
  have t1 := asg_to (i := 3) (cell_to (fr := disp fNil) (ρ := [some (.p (.list (es.map pcD))), some (sD (csS f)), some (sD (csS s)), none, none, none]) (st := st) (disp_to nil_ok (by decide)) (by decide)) (ρ' := slS (.p (.list (es.map pcD))) f s st.length none none) rfl
  obtain ⟨x, y, lp⟩ := loopB_ok (.p (.list (es.map pcD))) f s st es [] none none (by rw [List.length_nil]; omega) (fun _ h => by cases h) he
  have t2 := (ev_forV (tg := .tp [.nm 4, .nm 5]) (body := bodyB) (fa := fVar 0) (ρ := slS (.p (.list (es.map pcD))) f s st.length none none) (st := st ++ [.lst []]) (var_ok rfl) (items_lmap pcD es _)).trans lp
  have hl : (es.foldl (sbs1 f s) []).length ≤ 100000 := by
    have : ∀ (es acc : List Pc), (es.foldl (sbs1 f s) acc).length ≤ acc.length + es.length := fun es => by
      induction es with
      | nil => exact fun acc => Nat.le_refl _
      | cons e es ih =>
        intro acc
        have a := ih (sbs1 f s acc e)
        have b := sbs1_len f s acc e
        rw [List.length_cons, List.foldl_cons]
        omega
    have := this es []
    rw [List.length_nil] at this
    omega
  have g : gTuple [.ref st.length] (st ++ [.lst ((es.foldl (sbs1 f s) []).map pD)]) = some (.p (.tuple ((sbs f s es).map pcD))) := by
    show (match tupOf (.ref st.length) with | some _ => some (Dv.ref st.length) | none => match lstOf (.ref st.length) (st ++ [Cl.lst ((es.foldl (sbs1 f s) []).map pD)]) with
      | some ys => if small ys then some (mkT ys) else none
      | none => none) = _
    rw [lst_end]
    show (if small ((es.foldl (sbs1 f s) []).map pD) then some (mkT ((es.foldl (sbs1 f s) []).map pD)) else none) = _
    rw [small_map, decide_eq_true hl, if_pos rfl]
    have e : (es.foldl (sbs1 f s) []).map pD = ((sbs f s es).map pcD).map Dv.p := by rw [List.map_map]; rfl
    rw [e, mkT_p]
  exact runD_pure (N := 6) (args := [.p (.list (es.map pcD)), sD (csS f), sD (csS s)]) hF ((seq_to t1).trans ((seq_to t2).trans (ret_to (cb_ok (cons_ok (var_ok rfl) nil_ok) g))))
end FB.K64
set_option Elab.async false
set_option linter.all false
set_option maxRecDepth 100000
set_option maxHeartbeats 4000000
/-! O20e: meaning_of, agree, settles. -/
namespace FB.K64
open PySem PySem.Spec PyProof.Rows L2 RZ FB FB.Th
def meanD (P : List Op) : PyData := .tuple [.tuple ((sbs .absent .present (meanE P).1).map pcD), .tuple ((sbs .present .absent (meanE P).2.1).map pcD), .tuple ((meanE P).2.2.map PyData.str)]
theorem ordd_mem {ws : List Str} {P : List Op} {pl : Pl} {p : Pc} (h : p ∈ ordd ws P pl) : p.1 ∈ ws := by
  obtain ⟨x, hx, rfl⟩ := List.mem_map.mp h
  exact (ents_time ((srtP_perm _).mem_iff.mp hx)).1
theorem ordd_len (ws : List Str) (P : List Op) (pl : Pl) : (ordd ws P pl).length ≤ 2 * ws.length := by
  unfold ordd
  rw [List.length_map, (srtP_perm _).length_eq]
  unfold ents
  rw [List.length_flatMap]
  induction ws with
  | nil => exact Nat.le_refl _
  | cons w ws ih =>
    rw [List.map_cons, List.sum_cons, List.length_cons]
    have : (ent1 w (at_ pl (res w P false)) (at_ pl (res w P true))).length ≤ 2 := by
      generalize at_ pl (res w P false) = q
      generalize at_ pl (res w P true) = r
      cases q <;> cases r <;> simp [ent1]
      split <;> simp
    omega
theorem Prog.strs {P : List Op} (h : Prog P) : ∀ w ∈ wordsOf P, PyData.strOk w = true := fun w hw => by
  obtain ⟨o, ho, e⟩ := (words_mem P w).mp hw
  rw [← e]
  exact word_ok (h.ok o ho)
theorem ixl0 {a : PyData} {xs : List PyData} {st : So} : gIxA (.p (.list (a :: xs))) (.p (.int 0)) st = some (.p a) := by
  show atI ((a :: xs).map Dv.p) 0 = _
  unfold atI
  have e : ixN ((a :: xs).map Dv.p).length 0 = some 0 := by
    unfold ixN
    rw [List.length_map, List.length_cons]
    rw [if_pos (by omega), if_pos (by push_cast; omega)]
    rfl
  rw [e]
  rfl
theorem rev_l {xs : List PyData} {st : So} : gRev (.p (.list xs)) st = some (.p (.list xs.reverse)) := by
  show some (mkL (xs.map Dv.p).reverse) = _
  rw [← List.map_reverse, mkL_p]
theorem un_ok {g1 : G1} {fa : FE} {ρ : Sl} {st st1 : So} {x z : Dv} (h1 : fa ρ st = .ok x st1) (h2 : g1 x st1 = some z) : fUn g1 fa ρ st = .ok z st1 := by rw [ev_un, h1, bind_ok, h2, toR_some]
theorem fin_out (w : Str) (P : List Op) (b : Bool) : isOut (fin w P b).1 = outA w P b := by
  unfold fin outA
  cases res w P b with
  | none => cases b <;> rfl
  | some z => rfl
theorem sortS_ok {fa : FE} {ρ : Sl} {st : So} {ws : List Str} (h : fa ρ st = .ok (lw ws) st) (hl : ws.length < 64) : fSortS fa ρ st = .ok ((srtS ws).map fun x => Dv.p (.str x)) st := by
  unfold fSortS
  rw [h, bind_ok, lst_lw]
  dsimp only
  rw [txts_s]
  dsimp only
  rw [if_pos hl]
theorem meaning_ok {P : List Op} (h : Prog P) (st : So) (hF : Flat st) : d_meaning_of [prD P] st = .ok (.p (meanD P)) st := by
  have hw := h.few
  have hl := h.len
  have os := h.strs
  -- front
  have r0 : ∀ (x1 x2 x3 x4 : Option Dv), fVar 0 [some (prD P), x1, x2, x3, x4, none, none, none] st = .ok (prD P) st := fun _ _ _ _ => var_ok rfl
  have en : ∀ (pl : Pl) (x1 x2 x3 x4 : Option Dv), pl = .fr ∨ pl = .bk → fCall d_entries_at (fCons (fVar 0) (fCons (fC (.str (plS pl))) (fNil))) [some (prD P), x1, x2, x3, x4, none, none, none] st = .ok (.p (.list ((srtP (ents (wordsOf P) P pl)).map entD))) st := fun pl x1 x2 x3 x4 hp => call_ok (cons_ok (r0 x1 x2 x3 x4) (cons_ok c_ok nil_ok)) (entries_ok hp st hF (by omega) (by omega))
  have lc : ∀ (fa : FE) (E : List Ent) (x1 x2 : Option Dv), fa [some (prD P), x1, x2, none, none, none, none, none] st = .ok (.p (.list (E.map entD))) st → E.length ≤ 100000 → fPure (fLcV fa (.tp [.nm 6, .nm 5, .nm 7]) (tYesF) (fTup (fCons (fVar 5) (fCons (fVar 7) (fNil))))) [some (prD P), x1, x2, none, none, none, none, none] st = .ok (.p (.list ((E.map (·.1)).map pcD))) st := fun fa E x1 x2 he hl => by
    have l := lcV_all (fa := fa) (tg := .tp [.nm 6, .nm 5, .nm 7]) (fe := fTup (fCons (fVar 5) (fCons (fVar 7) (fNil)))) (ρ := [some (prD P), x1, x2, none, none, none, none, none]) [some (prD P), x1, x2, none, none, none, none, none] (st := st) (xs := E) (f := fun p => Dv.p (entD p)) (fun p => [some (prD P), x1, x2, none, none, some (sD p.1.1), some (zD p.2), some (sD (csS p.1.2))]) (fun p => Dv.p (pcD p.1)) he (items_lmap entD E st) hl (by simp [tgS, tgSs, rhoW]) (fun p _ => tg3.trans rfl) (fun p _ => tupP (xs := [.str p.1.1, .str (csS p.1.2)]) (cons_ok (var_ok rfl) (cons_ok (var_ok rfl) nil_ok)) (show 2 ≤ 100000 by decide))
    have := pure_ok (g := fun p : Ent => pcD p.1) l hl
    rw [List.map_map]
    exact this
  have elen : ∀ pl, (srtP (ents (wordsOf P) P pl)).length ≤ 1000 := fun pl => by
    have := ordd_len (wordsOf P) P pl
    unfold ordd at this
    rw [List.length_map] at this
    omega
  have f1 : fPure (fLcV (fUn gRev (fCall d_entries_at (fCons (fVar 0) (fCons (fC (.str "front")) (fNil))))) (.tp [.nm 6, .nm 5, .nm 7]) (tYesF) (fTup (fCons (fVar 5) (fCons (fVar 7) (fNil))))) [some (prD P), none, none, none, none, none, none, none] st = .ok (.p (.list ((meanE P).1.map pcD))) st := by
    have := lc (fUn gRev (fCall d_entries_at (fCons (fVar 0) (fCons (fC (.str "front")) (fNil))))) (srtP (ents (wordsOf P) P .fr)).reverse none none (by
      rw [List.map_reverse]
      exact un_ok (en .fr none none none none (.inl rfl)) rev_l) (by rw [List.length_reverse]; have := elen .fr; omega)
    rw [List.map_reverse] at this
    exact this
  have t1 := asg_to (i := 1) f1 (ρ' := [some (prD P), some (.p (.list ((meanE P).1.map pcD))), none, none, none, none, none, none]) rfl
  have f2 : fPure (fLcV (fCall d_entries_at (fCons (fVar 0) (fCons (fC (.str "back")) (fNil)))) (.tp [.nm 6, .nm 5, .nm 7]) (tYesF) (fTup (fCons (fVar 5) (fCons (fVar 7) (fNil))))) [some (prD P), some (.p (.list ((meanE P).1.map pcD))), none, none, none, none, none, none] st = .ok (.p (.list ((meanE P).2.1.map pcD))) st :=
    lc (fCall d_entries_at (fCons (fVar 0) (fCons (fC (.str "back")) (fNil)))) (srtP (ents (wordsOf P) P .bk)) _ none (en .bk _ none none none (.inr rfl)) (by have := elen .bk; omega)
  have t2 := asg_to (i := 2) f2 (ρ' := [some (prD P), some (.p (.list ((meanE P).1.map pcD))), some (.p (.list ((meanE P).2.1.map pcD))), none, none, none, none, none]) rfl
  generalize hA : some (Dv.p (.list ((meanE P).1.map pcD))) = A at t1 t2
  generalize hB : some (Dv.p (.list ((meanE P).2.1.map pcD))) = B at t2
  have l3 := lcV_pure (fa := fCall d_words_of (fCons (fVar 0) (fNil))) (tg := .nm 5) (tt := fTB (fOp gEq (fOp gIxA (fOp gIxA (fCall d_ends_of (fCons (fVar 0) (fCons (fVar 5) (fNil)))) (fC (.int 0))) (fC (.int 0))) (fC (.str "out")))) (fe := fVar 5) (ρ := [some (prD P), A, B, none, none, none, none, none]) [some (prD P), A, B, none, none, none, none, none] (st := st) (xs := wordsOf P) (f := sD) (fun w => [some (prD P), A, B, none, none, some (sD w), none, none]) (fun w => outA w P false) (fun w => Dv.p (.str w)) (call_ok (cons_ok (var_ok rfl) nil_ok) (words_of_ok P st hF (by omega))) (items_lw (wordsOf P) st) (by omega) (by rw [rhoW_one]; rfl) (fun w _ => by rw [tg_nm]; rfl) (fun w _ => by
      have e := call_ok (F := d_ends_of) (fr := fCons (fVar 0) (fCons (fVar 5) (fNil))) (ρ := [some (prD P), A, B, none, none, some (sD w), none, none]) (cons_ok (var_ok rfl) (cons_ok (var_ok rfl) nil_ok)) (ends_of_ok P w st)
      have g := (gEq_s (plS (fin w P false).1) "out" st).trans (by rw [plS_out, fin_out])
      exact tb_ok (op_ok (op_ok (op_ok e c_ok ixl0) c_ok ix0) c_ok g)) (fun w _ _ => var_ok rfl)
  have f3 := pure_ok (g := fun w => PyData.str w) l3 (Nat.le_trans (List.length_filter_le _ _) (by omega))
  have t3 := asg_to (i := 3) f3 (ρ' := [some (prD P), A, B, some (lw (outs (wordsOf P) P)), none, none, none, none]) rfl
  have l1 : (meanE P).1.length ≤ 1000 := by
    show (ordd (wordsOf P) P .fr).reverse.length ≤ 1000
    rw [List.length_reverse]
    have := ordd_len (wordsOf P) P .fr
    omega
  have l2 : (meanE P).2.1.length ≤ 1000 := by
    show (ordd (wordsOf P) P .bk).length ≤ 1000
    have := ordd_len (wordsOf P) P .bk
    omega
  have s1 := sbs_ok (meanE P).1 .absent .present st hF l1 (fun p hp => os _ (ordd_mem (List.mem_reverse.mp hp)))
  have s2 := sbs_ok (meanE P).2.1 .present .absent st hF l2 (fun p hp => os _ (ordd_mem hp))
  generalize hJ : PyData.tuple ((sbs .absent .present (meanE P).1).map pcD) = J at s1
  have t4 := asg_to (i := 4) (call_ok (F := d_side_by_side) (fr := fCons (fVar 1) (fCons (fC (.str "absent")) (fCons (fC (.str "present")) (fNil)))) (ρ := [some (prD P), A, B, some (lw (outs (wordsOf P) P)), none, none, none, none]) (cons_ok (var_ok (by rw [← hA]; rfl)) (cons_ok c_ok (cons_ok c_ok nil_ok))) s1) (ρ' := [some (prD P), A, B, some (lw (outs (wordsOf P) P)), some (.p J), none, none, none]) rfl
  have hout : (outs (wordsOf P) P).length ≤ (wordsOf P).length := List.length_filter_le _ _
  have f5 := pure_ok (g := fun w => PyData.str w) (sortS_ok (fa := fVar 3) (ρ := [some (prD P), A, B, some (lw (outs (wordsOf P) P)), some (.p J), none, none, none]) (st := st) (ws := outs (wordsOf P) P) (var_ok rfl) (by omega)) (by rw [(srtS_perm _).length_eq]; omega)
  have f6 : fCB gTuple (fCons (fPure (fSortS (fVar 3))) (fNil)) [some (prD P), A, B, some (lw (outs (wordsOf P) P)), some (.p J), none, none, none] st = .ok (.p (.tuple ((meanE P).2.2.map PyData.str))) st := cb_ok (cons_ok f5 nil_ok) (gTuple_lw (srtS (outs (wordsOf P) P)) st (by rw [(srtS_perm _).length_eq]; omega))
  have t5 := ret_to (tupP (xs := [J, .tuple ((sbs .present .absent (meanE P).2.1).map pcD), .tuple ((meanE P).2.2.map PyData.str)]) (cons_ok (fa := fVar 4) (var_ok rfl) (cons_ok (call_ok (F := d_side_by_side) (fr := fCons (fVar 2) (fCons (fC (.str "present")) (fCons (fC (.str "absent")) (fNil)))) (cons_ok (var_ok (by rw [← hB]; rfl)) (cons_ok c_ok (cons_ok c_ok nil_ok))) s2) (cons_ok f6 nil_ok))) (show 3 ≤ 100000 by decide))
  subst hA hB hJ
  exact runD_pure0 (N := 8) (args := [prD P]) ((seq_to t1).trans ((seq_to t2).trans ((seq_to t3).trans ((seq_to t4).trans t5))))
/-! ### agree -/
theorem lay_pcs : ∀ {es : List Pc}, (∀ p ∈ es, PyData.strOk p.1 = true) → PyData.canLayAll0 (es.map pcD) = true
  | [], _ => rfl
  | p :: es, h => by
    show (PyData.canLay0 (pcD p) && PyData.canLayAll0 (es.map pcD)) = true
    rw [lay_pcs fun q hq => h q (List.mem_cons_of_mem _ hq), Bool.and_true]
    have := h p List.mem_cons_self
    simp [pcD, PyData.canLay0, PyData.canLayAll0, this, cs_ok]
theorem depth_pcs : ∀ es : List Pc, PyData.depthAll (es.map pcD) ≤ 1
  | [] => by simp [PyData.depthAll]
  | p :: es => by
    have := depth_pcs es
    have e : PyData.depth (pcD p) = 1 := by simp [pcD, PyData.depth, PyData.depthAll]
    simp [PyData.depthAll, e]
    omega
theorem sbs_strs {f s : Cs} {es : List Pc} (h : ∀ p ∈ es, PyData.strOk p.1 = true) : ∀ p ∈ sbs f s es, PyData.strOk p.1 = true := fun p hp => by
  rcases sbs_mem (f := f) (s := s) (es := es) (acc := []) (List.mem_map.mpr ⟨p, hp, rfl⟩) with q | q
  · cases q
  · obtain ⟨x, hx, e⟩ := List.mem_map.mp q
    rw [← e]; exact h x hx
theorem mean_shaped {P : List Op} (h : Prog P) : SeqAt.shaped (meanD P) = true := by
  have os := h.strs
  have a1 := lay_pcs (sbs_strs (f := .absent) (s := .present) (es := (meanE P).1) fun p hp => os _ (ordd_mem (List.mem_reverse.mp hp)))
  have a2 := lay_pcs (sbs_strs (f := .present) (s := .absent) (es := (meanE P).2.1) fun p hp => os _ (ordd_mem hp))
  have a3 : PyData.canLayAll0 ((meanE P).2.2.map PyData.str) = true := canAll_s _ fun w hw => os w ((List.mem_filter.mp ((srtS_perm _).mem_iff.mp hw)).1)
  have d1 := depth_pcs (sbs .absent .present (meanE P).1)
  have d2 := depth_pcs (sbs .present .absent (meanE P).2.1)
  have d3 := depthAll_s (meanE P).2.2
  unfold SeqAt.shaped
  have e1 : PyData.canLay0 (meanD P) = true := by
    unfold meanD
    simp only [PyData.canLay0, PyData.canLayAll0, a1, a2, a3, Bool.and_self]
  have e2 : PyData.depth (meanD P) ≤ 64 := by
    unfold meanD
    simp only [PyData.depth, PyData.depthAll]
    omega
  rw [e1, decide_eq_true e2]; rfl
theorem agree_ok {P Q : List Op} (hP : Prog P) (hQ : Prog Q) (st : So) (hF : Flat st) : d_agree [prD P, prD Q] st = .ok (.p (.bool (PyData.eqv (meanD P) (meanD Q)))) st := by
  have v0 : fVar 0 [some (prD P), some (prD Q)] st = .ok (prD P) st := var_ok rfl
  have v1 : fVar 1 [some (prD P), some (prD Q)] st = .ok (prD Q) st := var_ok rfl
  have t1 := drop_to (call_ok (F := d_check_program) (fr := fCons (fVar 0) (fNil)) (cons_ok v0 nil_ok) (check_program_ok hP st hF))
  have t2 := drop_to (call_ok (F := d_check_program) (fr := fCons (fVar 1) (fNil)) (cons_ok v1 nil_ok) (check_program_ok hQ st hF))
  have t3 := ret_to (op_ok (g := gEq) (call_ok (F := d_meaning_of) (fr := fCons (fVar 0) (fNil)) (cons_ok v0 nil_ok) (meaning_ok hP st hF)) (call_ok (F := d_meaning_of) (fr := fCons (fVar 1) (fNil)) (cons_ok v1 nil_ok) (meaning_ok hQ st hF)) (gEq_t (mean_shaped hP) (mean_shaped hQ)))
  exact runD_pure0 (N := 2) (args := [prD P, prD Q]) ((seq_to t1).trans ((seq_to t2).trans t3))
theorem agree_true {P Q : List Op} (hP : Prog P) (hQ : Prog Q) (e : meanE P = meanE Q) (st : So) (hF : Flat st) : d_agree [prD P, prD Q] st = .ok (.p (.bool true)) st := by
  have e2 : meanD P = meanD Q := by unfold meanD; rw [e]
  have r := SeqAt.eqv_refl (meanD Q) (SeqAt.canLay_of_shaped (mean_shaped hQ))
  rw [agree_ok hP hQ st hF, e2, r]
/-! ### settles -/
theorem words_len_perm {P Q : List Op} (h : ∀ x, (∃ o ∈ Q, o.2 = x) ↔ ∃ o ∈ P, o.2 = x) : (wordsOf Q).length = (wordsOf P).length := (words_perm h).length_eq
theorem Prog.twice {P : List Op} (h : Prog P) (hl : P.length ≤ 30) : Prog (P ++ P) := by
  refine ⟨fun o ho => h.ok o ((List.mem_append.mp ho).elim id id), by rw [List.length_append]; omega, ?_⟩
  rw [words_len_perm (P := P) fun x => by rw [mem_app]; exact ⟨fun z => z.elim id id, .inl⟩]
  exact h.few
theorem mul2 (P : List Op) (st : So) (hl : P.length ≤ 1000) : gMulA (prD P) (zD 2) st = some (prD (P ++ P)) := by
  show (if decide ((0 : Int) ≤ 2) && decide ((2 : Int) ≤ 1000) && decide (((P.map opD).map Dv.p).length ≤ 1000) then some (mkL (List.replicate (2 : Int).toNat ((P.map opD).map Dv.p)).flatten) else none) = _
  rw [List.length_map, List.length_map, decide_eq_true hl, if_pos (by rfl)]
  have : (List.replicate (2 : Int).toNat ((P.map opD).map Dv.p)).flatten = ((P ++ P).map opD).map Dv.p := by
    show ((P.map opD).map Dv.p) ++ (((P.map opD).map Dv.p) ++ []) = _
    rw [List.append_nil, List.map_append, List.map_append]
  rw [this, mkL_p]; rfl
theorem all_nil {xs : List PyData} : PyData.eqvAll xs [] = decide (xs = []) := by cases xs <;> simp [PyData.eqvAll]
end FB.K64
set_option Elab.async false
set_option linter.all false
set_option maxRecDepth 100000
set_option maxHeartbeats 4000000
/-! O20f: words, programs, own operations, rows drawn. -/
namespace FB.K64
open PySem PySem.Spec PyProof.Rows L2 RZ FB FB.Th
theorem ix_list {xs : List PyData} {i : Nat} (hi : i < xs.length) {st : So} : gIxA (.p (.list xs)) (zD (i : Int)) st = some (.p xs[i]) := by
  show atI (xs.map Dv.p) (i : Int) = _
  unfold atI
  have e : ixN (xs.map Dv.p).length (i : Int) = some i := by
    unfold ixN
    rw [List.length_map, if_pos (by omega), if_pos (by omega), Int.toNat_natCast]
  rw [e]
  show (xs.map Dv.p)[i]? = _
  rw [List.getElem?_map, List.getElem?_eq_getElem hi]; rfl
theorem ix_lw {ws : List Str} {i : Nat} (hi : i < ws.length) {st : So} : gIxA (lw ws) (zD (i : Int)) st = some (sD ws[i]) := by
  have := ix_list (xs := ws.map PyData.str) (i := i) (by rw [List.length_map]; exact hi) (st := st)
  rw [List.getElem_map] at this
  exact this
theorem ix_pr {P : List Op} {i : Nat} (hi : i < P.length) {st : So} : gIxA (prD P) (zD (i : Int)) st = some (.p (opD P[i])) := by
  have := ix_list (xs := P.map opD) (i := i) (by rw [List.length_map]; exact hi) (st := st)
  rw [List.getElem_map] at this
  exact this
theorem frz_to {i c : Nat} {ρ : Sl} {S : So} {xs : List PyData} (hi : ρ[i]? = some (some (.ref c))) (h : S[c]? = some (.lst (xs.map Dv.p))) : fFrz (fVar i) ρ S = .ok (.p (.list xs)) (S.set c .dead) := by
  unfold fFrz
  rw [var_ok hi, bind_ok]
  dsimp only
  rw [h]
  dsimp only
  rw [mkL_p]
theorem SS_self {s : So} {o : Nat} {n : Int} (h : s[o]? = some (own n)) : s = s.set o (own n) := by
  obtain ⟨h1, h2⟩ := List.getElem?_eq_some_iff.mp h
  rw [← h2]
  exact (List.set_getElem_self h1).symm
theorem trim_SS {s : So} {o : Nat} {n : Int} {rest : So} {x : PyData} (hF : Flat s) : trim s.length (.p x) (SS s o n rest) = s.set o (own n) := by
  unfold SS
  exact trim_app' (by rw [List.length_set]) (hF.set (flat_lst [.int n])) rfl
theorem rngN {fa : FE} {ρ : Sl} {st st1 : So} {z : Int} (h : fa ρ st = .ok (zD z) st1) (h0 : 0 ≤ z) (h1 : z ≤ 1000) : fRng rng1 (fCons fa fNil) ρ st = .ok ((List.range z.toNat).map fun k => iD k) st1 := by
  rw [ev_rng, cons_ok h nil_ok, bind_ok, rng_pure (okR_small (by omega) (by omega)), rngL_zero]
end FB.K64
set_option Elab.async false
set_option linter.all false
set_option maxRecDepth 100000
set_option maxHeartbeats 4000000
/-! O19g: comes_after, made. -/
namespace FB.K64
open PySem PySem.Spec PyProof.Rows L2 RZ FB FB.Th
/-! ### entries as data -/
theorem pc_shaped {e : Pc} (he : PyData.strOk e.1 = true) : SeqAt.shaped (pcD e) = true := shaped2 (str0 he) (str0 (cs_ok e.2)) (by simp [PyData.depth]) (by simp [PyData.depth])
theorem pc_eqv (a b : Pc) : PyData.eqv (pcD a) (pcD b) = decide (a = b) := by
  show ((a.1 == b.1) && ((csS a.2 == csS b.2) && true)) = _
  obtain ⟨p, t⟩ := a
  obtain ⟨q, u⟩ := b
  rw [Bool.eq_iff_iff]
  have e1 := csS_eq t u
  rw [Bool.eq_iff_iff, decide_eq_true_eq, decide_eq_true_eq] at e1
  simp [e1]
abbrev OkL (l : List Pc) : Prop := ∀ p ∈ l, PyData.strOk p.1 = true
theorem pcs_shaped {l : List Pc} (h : OkL l) : SeqAt.shaped (.list (l.map pcD)) = true := by
  unfold SeqAt.shaped
  have e1 : PyData.canLay0 (.list (l.map pcD)) = true := by simpa [PyData.canLay0] using lay_pcs h
  have d := depth_pcs l
  have e2 : PyData.depth (.list (l.map pcD)) ≤ 64 := by
    simp only [PyData.depth]
    omega
  rw [e1, decide_eq_true e2]; rfl
theorem any_pc (l : List Pc) (x : Pc) : (l.map pcD).any (fun z => PyData.eqv z (pcD x)) = decide (x ∈ l) := by
  rw [Bool.eq_iff_iff, List.any_eq_true, decide_eq_true_eq]
  constructor
  · rintro ⟨z, hz, h⟩
    obtain ⟨y, hy, rfl⟩ := List.mem_map.mp hz
    rw [pc_eqv, decide_eq_true_eq] at h
    rw [← h]; exact hy
  · exact fun h => ⟨pcD x, List.mem_map.mpr ⟨x, h, rfl⟩, by rw [pc_eqv, decide_eq_true rfl]⟩
theorem gIn_pc {l : List Pc} {x : Pc} (h : OkL l) (hx : PyData.strOk x.1 = true) (st : So) : gIn (.p (pcD x)) (.p (.list (l.map pcD))) st = some (.p (.bool (decide (x ∈ l)))) := by
  have : memD (.p (pcD x)) (.p (.list (l.map pcD))) st = some (decide (x ∈ l)) := by
    show (if SeqAt.shaped (pcD x) && SeqAt.shaped (.list (l.map pcD)) then some ((l.map pcD).any fun z => PyData.eqv z (pcD x)) else none) = _
    rw [pc_shaped hx, pcs_shaped h, any_pc]; rfl
  unfold gIn
  rw [this]; rfl
theorem comes_ok {E : List Pc} {e : Pc} (h : OkL E) (he : PyData.strOk e.1 = true) (st : So) : d_comes_after [.p (pcD e), .p (.list (E.map pcD))] st = .ok (.p (if e.2 = .absent ∧ (e.1, Cs.present) ∈ E then pcD (e.1, .present) else .none)) st := by
  have i0 : ∀ f, fOp gIxA (fVar 0) (fC (.int 0)) [some (.p (pcD e)), some (.p (.list (E.map pcD))), f] st = .ok (sD e.1) st := fun f => op_ok (var_ok rfl) c_ok ix0
  have i1 : ∀ f, fOp gIxA (fVar 0) (fC (.int 1)) [some (.p (pcD e)), some (.p (.list (E.map pcD))), f] st = .ok (sD (csS e.2)) st := fun f => op_ok (var_ok rfl) c_ok ix1
  have t1 := asg_to (i := 2) (tupP (xs := [.str e.1, .str (csS .present)]) (cons_ok (i0 none) (cons_ok (fa := fC (.str "present")) c_ok nil_ok)) (show 2 ≤ 100000 by decide)) (ρ' := [some (.p (pcD e)), some (.p (.list (E.map pcD))), some (.p (pcD (e.1, .present)))]) rfl
  have g := gEq_s (csS e.2) (csS .absent) st
  rw [csS_eq] at g
  have c1 := tb_ok (op_ok (g := gEq) (fb := fC (.str "absent")) (i1 (some (.p (pcD (e.1, .present))))) c_ok g)
  have c2 := tb_ok (op_ok (g := gIn) (fa := fVar 2) (fb := fVar 1) (ρ := [some (.p (pcD e)), some (.p (.list (E.map pcD))), some (.p (pcD (e.1, .present)))]) (var_ok rfl) (var_ok rfl) (gIn_pc (x := (e.1, .present)) h he st))
  have c := andT_b c1 c2
  refine runD_pure0 (N := 3) (args := [.p (pcD e), .p (.list (E.map pcD))]) ((seq_to t1).trans (ret_to (ifE_b c (fun z => ?_) (fun z => ?_))))
  · rw [Bool.and_eq_true, decide_eq_true_eq, decide_eq_true_eq] at z
    rw [if_pos z]; exact var_ok rfl
  · rw [Bool.and_eq_false_iff, decide_eq_false_iff_not, decide_eq_false_iff_not] at z
    rw [if_neg fun q => z.elim (fun n => n q.1) (fun n => n q.2)]; exact c_ok
theorem none_eqv (x : Pc) : PyData.eqv (pcD x) .none = false := rfl
theorem dn_shaped {l : List Pc} (h : OkL l) : SeqAt.shaped (.list (l.map pcD ++ [.none])) = true := by
  have a : PyData.canLayAll0 (l.map pcD ++ [.none]) = true := by
    have q := lay_pcs h
    clear h
    induction l with
    | nil => rfl
    | cons p l ih =>
      have q : (PyData.canLay0 (pcD p) && PyData.canLayAll0 (l.map pcD)) = true := q
      rw [Bool.and_eq_true] at q
      show (PyData.canLay0 (pcD p) && PyData.canLayAll0 (l.map pcD ++ [.none])) = true
      rw [ih q.2, q.1]; rfl
  have d : PyData.depthAll (l.map pcD ++ [.none]) ≤ 1 := by
    clear a h
    induction l with
    | nil => simp [PyData.depthAll, PyData.depth]
    | cons p l ih =>
      have e : PyData.depth (pcD p) = 1 := by simp [pcD, PyData.depth, PyData.depthAll]
      simp only [List.map_cons, List.cons_append, PyData.depthAll, e]
      omega
  unfold SeqAt.shaped
  have e1 : PyData.canLay0 (.list (l.map pcD ++ [.none])) = true := by simpa [PyData.canLay0] using a
  have e2 : PyData.depth (.list (l.map pcD ++ [.none])) ≤ 64 := by
    simp only [PyData.depth]
    omega
  rw [e1, decide_eq_true e2]; rfl
theorem gIn_none {l : List Pc} (h : OkL l) (st : So) : gIn (.p .none) (.p (.list (l.map pcD ++ [.none]))) st = some (.p (.bool true)) := by
  cases l with
  | nil => rfl
  | cons p l =>
    have : memD (.p .none) (.p (.list ((p :: l).map pcD ++ [.none]))) st = some true := by
      show (if SeqAt.shaped .none && SeqAt.shaped (.list ((p :: l).map pcD ++ [.none])) then some (((p :: l).map pcD ++ [PyData.none]).any fun z => PyData.eqv z .none) else none) = _
      rw [dn_shaped h, show SeqAt.shaped PyData.none = true from rfl, List.any_append]
      show some (_ || (PyData.eqv PyData.none .none || false)) = _
      rw [show PyData.eqv PyData.none .none = true from rfl, Bool.true_or, Bool.or_true]
    unfold gIn
    rw [this]; rfl
theorem gIn_pcn {l : List Pc} {x : Pc} (h : OkL l) (hx : PyData.strOk x.1 = true) (st : So) : gIn (.p (pcD x)) (.p (.list (l.map pcD ++ [.none]))) st = some (.p (.bool (decide (x ∈ l)))) := by
  have : memD (.p (pcD x)) (.p (.list (l.map pcD ++ [.none]))) st = some (decide (x ∈ l)) := by
    show (if SeqAt.shaped (pcD x) && SeqAt.shaped (.list (l.map pcD ++ [.none])) then some ((l.map pcD ++ [PyData.none]).any fun z => PyData.eqv z (pcD x)) else none) = _
    rw [pc_shaped hx, dn_shaped h, List.any_append, any_pc]
    show some (_ || (PyData.eqv PyData.none (pcD x) || false)) = _
    rw [show PyData.eqv PyData.none (pcD x) = false from rfl, Bool.or_false, Bool.or_false]
  unfold gIn
  rw [this]; rfl
theorem gIn_rdy {E done : List Pc} {e : Pc} (h : OkL done) (he : PyData.strOk e.1 = true) (st : So) : gIn (.p (if e.2 = .absent ∧ (e.1, Cs.present) ∈ E then pcD (e.1, .present) else .none)) (.p (.list (done.map pcD ++ [.none]))) st = some (.p (.bool (decide (rdy E done e)))) := by
  by_cases c : e.2 = .absent ∧ (e.1, Cs.present) ∈ E
  · rw [if_pos c, gIn_pcn (x := (e.1, .present)) h he st]
    congr 3
    rw [Bool.eq_iff_iff, decide_eq_true_eq, decide_eq_true_eq]
    exact ⟨fun z _ _ => z, fun z => z c.1 c.2⟩
  · rw [if_neg c, gIn_none h st]
    congr 3
    exact (decide_eq_true fun h1 h2 => absurd ⟨h1, h2⟩ c).symm
/-! ### cells -/
theorem len_g {S : So} {c : Nat} {xs : List Dv} (h : S[c]? = some (.lst xs)) : gLen [.ref c] S = some (zD xs.length) := by
  show (seqOf (.ref c) S).map (fun ys => Dv.p (.int ys.length)) = _
  rw [seq_ref h]; rfl
theorem app_g {S : So} {c : Nat} {xs : List Dv} {d : Dv} (h : S[c]? = some (.lst xs)) (hl : xs.length < 100000) : gAppend (.ref c) [d] S = some (.p .none, S.set c (.lst (xs ++ [d]))) := by
  unfold gAppend
  rw [cellL_at h]
  dsimp only
  rw [if_pos hl]
theorem ixN0 {n : Nat} : ixN (n + 1) 0 = some 0 := by
  unfold ixN
  rw [if_pos (by omega), if_pos (by push_cast; omega)]
  rfl
theorem pop0_g {S : So} {c : Nat} {x : Dv} {xs : List Dv} (h : S[c]? = some (.lst (x :: xs))) (hl : xs.length < 100000) : gPopAt (.ref c) [zD 0] S = some (x, S.set c (.lst xs)) := by
  unfold gPopAt
  rw [cellL_at h]
  dsimp only
  rw [List.length_cons, ixN0]
  dsimp only [List.getElem?_cons_zero]
  rw [if_pos (by omega)]
  try rfl
theorem dic_g {S : So} {c : Nat} {xs : List Dv} (h : S[c]? = some (.lst xs)) : dictOf (.ref c) S = none := by
  unfold dictOf
  dsimp only
  rw [h]
theorem ix0_g {S : So} {c : Nat} {x : Dv} {xs : List Dv} (h : S[c]? = some (.lst (x :: xs))) : gIxA (.ref c) (zD 0) S = some x := by
  unfold gIxA
  rw [dic_g h]
  show (match seqOf (.ref c) S with | some xs => atI xs 0 | none => none) = _
  rw [seq_ref h]
  show atI (x :: xs) 0 = _
  unfold atI
  rw [List.length_cons, ixN0]; rfl
theorem ixm1_g {S : So} {c : Nat} {d : Dv} {ys : List Dv} (h : S[c]? = some (.lst (ys ++ [d]))) : gIxA (.ref c) (zD (-1)) S = some d := by
  unfold gIxA
  rw [dic_g h]
  show (match seqOf (.ref c) S with | some xs => atI xs (-1) | none => none) = _
  rw [seq_ref h]
  show atI (ys ++ [d]) (-1) = _
  unfold atI
  have e : ixN (ys ++ [d]).length (-1) = some ys.length := by
    unfold ixN
    rw [List.length_append, List.length_singleton]
    rw [if_neg (by omega), if_pos (by push_cast; omega)]
    congr 1
    push_cast
    omega
  rw [e]
  show (ys ++ [d])[ys.length]? = _
  rw [List.getElem?_append_right (Nat.le_refl _), Nat.sub_self]; rfl
theorem gAdd_gp {S : So} {c : Nat} {xs ys : List PyData} (h : S[c]? = some (.lst (xs.map Dv.p))) (hl : xs.length + ys.length ≤ 100000) : gAdd (.ref c) (.p (.list ys)) S = some (.p (.list (xs ++ ys))) := by
  show (match lstOf (.ref c) S, lstOf (.p (.list ys)) S with
      | some xs, some ys => if xs.length + ys.length ≤ 100000 then some (mkL (xs ++ ys)) else none
      | _, _ => none) = _
  rw [show lstOf (.ref c) S = some (xs.map Dv.p) from seq_ref h]
  show (if (xs.map Dv.p).length + (ys.map Dv.p).length ≤ 100000 then some (mkL (xs.map Dv.p ++ ys.map Dv.p)) else none) = _
  rw [List.length_map, List.length_map, if_pos hl, ← List.map_append, mkL_p]
theorem gAdd_gg {S : So} {c c' : Nat} {xs ys : List PyData} (h : S[c]? = some (.lst (xs.map Dv.p))) (h' : S[c']? = some (.lst (ys.map Dv.p))) (hl : xs.length + ys.length ≤ 100000) : gAdd (.ref c) (.ref c') S = some (.p (.list (xs ++ ys))) := by
  show (match lstOf (.ref c) S, lstOf (.ref c') S with
      | some xs, some ys => if xs.length + ys.length ≤ 100000 then some (mkL (xs ++ ys)) else none
      | _, _ => none) = _
  rw [show lstOf (.ref c) S = some (xs.map Dv.p) from seq_ref h, show lstOf (.ref c') S = some (ys.map Dv.p) from seq_ref h']
  show (if (xs.map Dv.p).length + (ys.map Dv.p).length ≤ 100000 then some (mkL (xs.map Dv.p ++ ys.map Dv.p)) else none) = _
  rw [List.length_map, List.length_map, if_pos hl, ← List.map_append, mkL_p]
/-! ### made -/
abbrev lP (l : List Pc) : Cl := .lst ((l.map pcD).map Dv.p)
abbrev lO (l : List Op) : Cl := .lst ((l.map opD).map Dv.p)
abbrev T4 (st : So) (o b : List Pc) (f : List Op) (d : List Pc) : So := st ++ [lP o, lP b, lO f, lP d]
theorem T_get {st r : So} {j : Nat} {c : Cl} (h : r[j]? = some c) : (st ++ r)[st.length + j]? = some c := by
  rw [List.getElem?_append_right (by omega), Nat.add_sub_cancel_left]; exact h
theorem T_set {st r : So} {j : Nat} {c : Cl} : (st ++ r).set (st.length + j) c = st ++ r.set j c := by
  rw [List.set_append_right _ _ (by omega), Nat.add_sub_cancel_left]
abbrev kvFr : List (Str × Str) := [("always", "front"), ("present", "lift"), ("absent", "addfront")]
abbrev kvBk : List (Str × Str) := [("always", "back"), ("present", "sink"), ("absent", "addback")]
theorem kvFr_ok (c : Cs) (st : So) : gIxC (.p (kvD kvFr)) (sD (csS c)) st = some (sD (vs (vbOf .fr c))) := by cases c <;> rfl
theorem kvBk_ok (c : Cs) (st : So) : gIxC (.p (kvD kvBk)) (sD (csS c)) st = some (sD (vs (vbOf .bk c))) := by cases c <;> rfl
abbrev slM (F B : PyData) (E : List Pc) (n : Nat) : Sl := [some (.p F), some (.p B), some (.ref (n + 0)), some (.ref (n + 1)), some (.p (.list (E.map pcD))), some (.ref (n + 2)), some (.ref (n + 3))]
abbrev dn1 : FE := fOp gAdd (fVar 6) (fPure (disp (fCons (fC .none) (fNil))))
abbrev cnM (i : Nat) : FT := fTAnd (fTB (fOp gGt (fCB gLen (fCons (fVar i) (fNil))) (fC (.int 0)))) (fTB (fOp gIn (fCall d_comes_after (fCons (fOp gIxA (fVar i) (fC (.int 0))) (fCons (fVar 4) (fNil)))) dn1))
abbrev acM (i : Nat) (kv : List (Str × Str)) : FS := sSeq (sDrop (fMth gAppend (fVar 6) (fCons (fMth gPopAt (fVar i) (fCons (fC (.int 0)) (fNil))) (fNil)))) (sDrop (fMth gAppend (fVar 5) (fCons (fTup (fCons (fOp gIxC (fKV kv) (fOp gIxA (fOp gIxA (fVar 6) (fUn gNeg (fC (.int 1)))) (fC (.int 1)))) (fCons (fOp gIxA (fOp gIxA (fVar 6) (fUn gNeg (fC (.int 1)))) (fC (.int 0))) (fNil)))) (fNil))))
abbrev tsM : FT := fTB (fOp gGt (fOp gAdd (fCB gLen (fCons (fVar 2) (fNil))) (fCB gLen (fCons (fVar 3) (fNil)))) (fC (.int 0)))
abbrev bdM : FS := sIf (cnM 2) (acM 2 kvFr) (sIf (cnM 3) (acM 3 kvBk) (sRet (fC .none)))
theorem wh_step {t : FT} {body : FS} {k : Nat} {ρ ρ2 : Sl} {st st1 st2 : So} (h1 : t ρ st = .ok true st1) (h2 : body ρ st1 = .nx ρ2 st2) : sWhN t body (k + 1) ρ st = sWhN t body k ρ2 st2 := by
  show (t ρ st).st ρ _ = _
  rw [h1, st_ok, if_pos rfl, h2]
theorem wh_end {t : FT} {body : FS} {k : Nat} {ρ : Sl} {st st1 : So} (h1 : t ρ st = .ok false st1) : sWhN t body (k + 1) ρ st = .nx ρ st1 := by
  show (t ρ st).st ρ _ = _
  rw [h1, st_ok, if_neg Bool.false_ne_true]
section
variable {F B : PyData} {E : List Pc} {st : So}
/-- nothing is left there -/
theorem cn_nil {i j : Nat} {S : So} (hi : (slM F B E st.length)[i]? = some (some (.ref j))) (h : S[j]? = some (lP [])) : cnM i (slM F B E st.length) S = .ok false S := by
  have g := gt_z (i := (0 : Int)) (j := 0) (st := S)
  have c1 : fTB (fOp gGt (fCB gLen (fCons (fVar i) (fNil))) (fC (.int 0))) (slM F B E st.length) S = .ok false S := tb_ok (op_ok (cb_ok (cons_ok (var_ok hi) nil_ok) (len_g h)) c_ok g)
  show fTAnd _ _ _ _ = _
  rw [ev_tand, c1, bind_ok]; rfl
theorem dn_ok {done : List Pc} {S : So} (h : S[st.length + 3]? = some (lP done)) (hl : done.length ≤ 1000) : dn1 (slM F B E st.length) S = .ok (.p (.list (done.map pcD ++ [.none]))) S :=
  op_ok (var_ok (d := .ref (st.length + 3)) rfl) (dispP (xs := [.none]) (cons_ok c_ok nil_ok) (show 1 ≤ 100000 by decide)) (gAdd_gp h (by rw [List.length_map]; show done.length + 1 ≤ 100000; omega))
theorem cn_cons {i j : Nat} {S : So} {x : Pc} {o done : List Pc} (hi : (slM F B E st.length)[i]? = some (some (.ref j))) (h : S[j]? = some (lP (x :: o))) (hd : S[st.length + 3]? = some (lP done)) (hl : done.length ≤ 1000) (hE : OkL E) (hdn : OkL done) (hx : PyData.strOk x.1 = true) : cnM i (slM F B E st.length) S = .ok (decide (rdy E done x)) S := by
  have g := gt_z (i := (((((x :: o).map pcD).map Dv.p).length : Nat) : Int)) (j := 0) (st := S)
  rw [decide_eq_true (show (0 : Int) < ((((x :: o).map pcD).map Dv.p).length : Nat) by rw [List.length_map, List.length_map, List.length_cons]; omega)] at g
  have c1 : fTB (fOp gGt (fCB gLen (fCons (fVar i) (fNil))) (fC (.int 0))) (slM F B E st.length) S = .ok true S := tb_ok (op_ok (cb_ok (cons_ok (var_ok hi) nil_ok) (len_g h)) c_ok g)
  have i0 : fOp gIxA (fVar i) (fC (.int 0)) (slM F B E st.length) S = .ok (.p (pcD x)) S := op_ok (var_ok hi) c_ok (ix0_g h)
  have cm := call_ok (F := d_comes_after) (fr := fCons (fOp gIxA (fVar i) (fC (.int 0))) (fCons (fVar 4) (fNil))) (cons_ok i0 (cons_ok (var_ok rfl) nil_ok)) (comes_ok hE hx S)
  have c2 := tb_ok (op_ok (g := gIn) cm (dn_ok (F := F) (B := B) (E := E) hd hl) (gIn_rdy hdn hx S))
  exact andT_b c1 c2
end
theorem psh (l : List Pc) (x : Pc) : lP (l ++ [x]) = .lst ((l.map pcD).map Dv.p ++ [.p (pcD x)]) := by
  show Cl.lst _ = _
  rw [List.map_append, List.map_append]; rfl
theorem psh2 (l : List Op) (x : Op) : lO (l ++ [x]) = .lst ((l.map opD).map Dv.p ++ [.p (opD x)]) := by
  show Cl.lst _ = _
  rw [List.map_append, List.map_append]; rfl
section
variable {F B : PyData} {E : List Pc} {st : So}
/-- what follows the taking of an entry -/
theorem tell_ok {o b done : List Pc} {f : List Op} {x : Pc} {p : Pl} {kv : List (Str × Str)} (hk : ∀ c (S : So), gIxC (.p (kvD kv)) (sD (csS c)) S = some (sD (vs (vbOf p c)))) (hf : f.length ≤ 1000) : sDrop (fMth gAppend (fVar 5) (fCons (fTup (fCons (fOp gIxC (fKV kv) (fOp gIxA (fOp gIxA (fVar 6) (fUn gNeg (fC (.int 1)))) (fC (.int 1)))) (fCons (fOp gIxA (fOp gIxA (fVar 6) (fUn gNeg (fC (.int 1)))) (fC (.int 0))) (fNil)))) (fNil))) (slM F B E st.length) (T4 st o b f (done ++ [x])) = .nx (slM F B E st.length) (T4 st o b (f ++ [opQ (p, x)]) (done ++ [x])) := by
  have h3 : (T4 st o b f (done ++ [x]))[st.length + 3]? = some (.lst ((done.map pcD).map Dv.p ++ [.p (pcD x)])) := T_get (by rw [psh]; rfl)
  have h2 : (T4 st o b f (done ++ [x]))[st.length + 2]? = some (lO f) := T_get rfl
  have l : fOp gIxA (fVar 6) (fUn gNeg (fC (.int 1))) (slM F B E st.length) (T4 st o b f (done ++ [x])) = .ok (.p (pcD x)) (T4 st o b f (done ++ [x])) := op_ok (var_ok rfl) (show fUn gNeg (fC (.int 1)) _ _ = .ok (zD (-1)) _ from rfl) (ixm1_g h3)
  have a1 := op_ok (g := gIxC) (fa := fKV kv) (x := .p (kvD kv)) (ρ := slM F B E st.length) (st := T4 st o b f (done ++ [x])) (st1 := T4 st o b f (done ++ [x])) rfl (op_ok (g := gIxA) (fb := fC (.int 1)) l c_ok ix1) (hk x.2 _)
  have a0 := op_ok (g := gIxA) (fb := fC (.int 0)) l c_ok ix0
  have tp := tupP (xs := [.str (vs (vbOf p x.2)), .str x.1]) (cons_ok a1 (cons_ok a0 nil_ok)) (show 2 ≤ 100000 by decide)
  have ap := app_g (d := .p (opD (opQ (p, x)))) h2 (by rw [List.length_map, List.length_map]; omega)
  have e : (T4 st o b f (done ++ [x])).set (st.length + 2) (.lst ((f.map opD).map Dv.p ++ [.p (opD (opQ (p, x)))])) = T4 st o b (f ++ [opQ (p, x)]) (done ++ [x]) := by
    rw [← psh2]
    exact T_set (j := 2)
  rw [e] at ap
  exact drop_to (mth_ok (fo := fVar 5) (var_ok rfl) (isLst_CS h2) (cons_ok tp nil_ok) ap)
theorem ac_one {o b done : List Pc} {f : List Op} {x : Pc} (h1 : o.length ≤ 1000) (h2 : done.length ≤ 1000) (h3 : f.length ≤ 1000) : acM 2 kvFr (slM F B E st.length) (T4 st (x :: o) b f done) = .nx (slM F B E st.length) (T4 st o b (f ++ [opQ (.fr, x)]) (done ++ [x])) := by
  have g0 : (T4 st (x :: o) b f done)[st.length + 0]? = some (.lst (.p (pcD x) :: (o.map pcD).map Dv.p)) := T_get rfl
  have g3 : ∀ o : List Pc, (T4 st o b f done)[st.length + 3]? = some (lP done) := fun o => T_get rfl
  have pp := pop0_g g0 (by rw [List.length_map, List.length_map]; omega)
  rw [show (T4 st (x :: o) b f done).set (st.length + 0) (.lst ((o.map pcD).map Dv.p)) = T4 st o b f done from T_set (j := 0)] at pp
  have m := mth_ok (g := gPopAt) (fo := fVar 2) (fr := fCons (fC (.int 0)) (fNil)) (ρ := slM F B E st.length) (var_ok rfl) (isLst_CS g0) (cons_ok c_ok nil_ok) pp
  have ap := app_g (d := .p (pcD x)) (g3 o) (by rw [List.length_map, List.length_map]; omega)
  rw [← psh, show (T4 st o b f done).set (st.length + 3) (lP (done ++ [x])) = T4 st o b f (done ++ [x]) from T_set (j := 3)] at ap
  have t1 := drop_to (mth_ok (g := gAppend) (fo := fVar 6) (var_ok rfl) (isLst_CS (g3 (x :: o))) (cons_ok m nil_ok) ap)
  exact (seq_to t1).trans (tell_ok kvFr_ok h3)
theorem ac_other {o b done : List Pc} {f : List Op} {x : Pc} (h1 : b.length ≤ 1000) (h2 : done.length ≤ 1000) (h3 : f.length ≤ 1000) : acM 3 kvBk (slM F B E st.length) (T4 st o (x :: b) f done) = .nx (slM F B E st.length) (T4 st o b (f ++ [opQ (.bk, x)]) (done ++ [x])) := by
  have g0 : (T4 st o (x :: b) f done)[st.length + 1]? = some (.lst (.p (pcD x) :: (b.map pcD).map Dv.p)) := T_get rfl
  have g3 : ∀ b : List Pc, (T4 st o b f done)[st.length + 3]? = some (lP done) := fun b => T_get rfl
  have pp := pop0_g g0 (by rw [List.length_map, List.length_map]; omega)
  rw [show (T4 st o (x :: b) f done).set (st.length + 1) (.lst ((b.map pcD).map Dv.p)) = T4 st o b f done from T_set (j := 1)] at pp
  have m := mth_ok (g := gPopAt) (fo := fVar 3) (fr := fCons (fC (.int 0)) (fNil)) (ρ := slM F B E st.length) (var_ok rfl) (isLst_CS g0) (cons_ok c_ok nil_ok) pp
  have ap := app_g (d := .p (pcD x)) (g3 b) (by rw [List.length_map, List.length_map]; omega)
  rw [← psh, show (T4 st o b f done).set (st.length + 3) (lP (done ++ [x])) = T4 st o b f (done ++ [x]) from T_set (j := 3)] at ap
  have t1 := drop_to (mth_ok (g := gAppend) (fo := fVar 6) (var_ok rfl) (isLst_CS (g3 (x :: b))) (cons_ok m nil_ok) ap)
  exact (seq_to t1).trans (tell_ok kvBk_ok h3)
theorem ts_ok {o b done : List Pc} {f : List Op} : tsM (slM F B E st.length) (T4 st o b f done) = .ok (decide (0 < o.length + b.length)) (T4 st o b f done) := by
  have g0 : (T4 st o b f done)[st.length + 0]? = some (lP o) := T_get rfl
  have g1 : (T4 st o b f done)[st.length + 1]? = some (lP b) := T_get rfl
  have l0 := len_g g0
  have l1 := len_g g1
  rw [List.length_map, List.length_map] at l0 l1
  have g := gt_z (i := (o.length : Int) + b.length) (j := 0) (st := T4 st o b f done)
  have e : decide ((0 : Int) < (o.length : Int) + b.length) = decide (0 < o.length + b.length) := by
    rw [Bool.eq_iff_iff, decide_eq_true_eq, decide_eq_true_eq]; omega
  rw [e] at g
  exact tb_ok (op_ok (op_ok (cb_ok (cons_ok (fa := fVar 2) (var_ok rfl) nil_ok) l0) (cb_ok (cons_ok (fa := fVar 3) (var_ok rfl) nil_ok) l1) add_z) c_ok g)
theorem loopM (hE : OkL E) {o b done : List Pc} {M : List (Pl × Pc)} (h : Mk E o b done M) : ∀ (f : List Op) (k : Nat), (∀ e, e ∈ o ∨ e ∈ b ∨ e ∈ done → e ∈ E) → 2 * o.length + 2 * b.length + done.length + f.length ≤ 1000 → M.length < k →
    ∃ d', sWhN tsM bdM k (slM F B E st.length) (T4 st o b f done) = .nx (slM F B E st.length) (T4 st [] [] (f ++ M.map opQ) d') := by
  induction h with
  | nil =>
    intro f k _ _ hk
    obtain ⟨k, rfl⟩ := Nat.exists_eq_succ_of_ne_zero (show k ≠ 0 by omega)
    exact ⟨_, by rw [List.map_nil, List.append_nil]; exact wh_end ts_ok⟩
  | @one x o b done M hr _ ih =>
    intro f k hm hl hk
    rw [List.length_cons] at hl hk
    obtain ⟨k, rfl⟩ := Nat.exists_eq_succ_of_ne_zero (show k ≠ 0 by omega)
    have t := ts_ok (F := F) (B := B) (E := E) (st := st) (o := x :: o) (b := b) (done := done) (f := f)
    rw [decide_eq_true (by rw [List.length_cons]; omega)] at t
    have c := cn_cons (F := F) (B := B) (E := E) (st := st) (i := 2) (j := st.length + 0) (S := T4 st (x :: o) b f done) (x := x) (o := o) (done := done) rfl (T_get rfl) (T_get rfl) (by omega) hE (fun p hp => hE p (hm p (.inr (.inr hp)))) (hE x (hm x (.inl List.mem_cons_self)))
    rw [decide_eq_true hr] at c
    obtain ⟨d', q⟩ := ih (f ++ [opQ (.fr, x)]) k (fun e he => by
      rcases he with he | he | he
      · exact hm e (.inl (List.mem_cons_of_mem _ he))
      · exact hm e (.inr (.inl he))
      · rcases List.mem_append.mp he with he | he
        · exact hm e (.inr (.inr he))
        · rw [List.mem_singleton.mp he]; exact hm x (.inl List.mem_cons_self)) (by rw [List.length_append, List.length_append, List.length_singleton, List.length_singleton]; omega) (by omega)
    refine ⟨d', (wh_step t ((if_true_to c).trans (ac_one (by omega) (by omega) (by omega)))).trans ?_⟩
    rw [q, List.map_cons, List.append_assoc]; rfl
  | @other y o b done M hn hr _ ih =>
    intro f k hm hl hk
    rw [List.length_cons] at hl hk
    obtain ⟨k, rfl⟩ := Nat.exists_eq_succ_of_ne_zero (show k ≠ 0 by omega)
    have t := ts_ok (F := F) (B := B) (E := E) (st := st) (o := o) (b := y :: b) (done := done) (f := f)
    rw [decide_eq_true (by rw [List.length_cons]; omega)] at t
    have c1 : cnM 2 (slM F B E st.length) (T4 st o (y :: b) f done) = .ok false (T4 st o (y :: b) f done) := by
      match o, hn, hm, hl with
      | [], _, _, _ => exact cn_nil (j := st.length + 0) rfl (T_get rfl)
      | x :: o', hn, hm, hl =>
        have c := cn_cons (F := F) (B := B) (E := E) (st := st) (i := 2) (j := st.length + 0) (S := T4 st (x :: o') (y :: b) f done) (x := x) (o := o') (done := done) rfl (T_get rfl) (T_get rfl) (by omega) hE (fun p hp => hE p (hm p (.inr (.inr hp)))) (hE x (hm x (.inl List.mem_cons_self)))
        rw [decide_eq_false (hn x o' rfl)] at c
        exact c
    have c := cn_cons (F := F) (B := B) (E := E) (st := st) (i := 3) (j := st.length + 1) (S := T4 st o (y :: b) f done) (x := y) (o := b) (done := done) rfl (T_get rfl) (T_get rfl) (by omega) hE (fun p hp => hE p (hm p (.inr (.inr hp)))) (hE y (hm y (.inr (.inl List.mem_cons_self))))
    rw [decide_eq_true hr] at c
    obtain ⟨d', q⟩ := ih (f ++ [opQ (.bk, y)]) k (fun e he => by
      rcases he with he | he | he
      · exact hm e (.inl he)
      · exact hm e (.inr (.inl (List.mem_cons_of_mem _ he)))
      · rcases List.mem_append.mp he with he | he
        · exact hm e (.inr (.inr he))
        · rw [List.mem_singleton.mp he]; exact hm y (.inr (.inl List.mem_cons_self))) (by rw [List.length_append, List.length_append, List.length_singleton, List.length_singleton]; omega) (by omega)
    refine ⟨d', (wh_step t ((if_to c1).trans ((if_true_to c).trans (ac_other (by omega) (by omega) (by omega))))).trans ?_⟩
    rw [q, List.map_cons, List.append_assoc]; rfl
end
theorem list_tup {i : Nat} {ρ : Sl} {S : So} {xs : List PyData} (hi : ρ[i]? = some (some (.p (.tuple xs)))) (hl : xs.length ≤ 1000) : fListOf (fVar i) ρ S = .ok (xs.map Dv.p) S := by
  rw [ev_list, var_ok hi, bind_ok]
  show (if small (xs.map Dv.p) then Rs.ok (xs.map Dv.p) S else .stuck) = _
  rw [small_map, decide_eq_true (by omega), if_pos rfl]
theorem list_rev {i : Nat} {ρ : Sl} {S : So} {xs : List PyData} (hi : ρ[i]? = some (some (.p (.tuple xs)))) (hl : xs.length ≤ 1000) : fListOf (fUn gRev (fVar i)) ρ S = .ok (xs.reverse.map Dv.p) S := by
  have r : fUn gRev (fVar i) ρ S = .ok (.p (.tuple xs.reverse)) S := un_ok (var_ok hi) (by
    show some (mkT (xs.map Dv.p).reverse) = _
    rw [← List.map_reverse, mkT_p])
  rw [ev_list, r, bind_ok]
  show (if small (xs.reverse.map Dv.p) then Rs.ok (xs.reverse.map Dv.p) S else .stuck) = _
  rw [small_map, decide_eq_true (by rw [List.length_reverse]; omega), if_pos rfl]
theorem made_ok {F B : List Pc} {M : List (Pl × Pc)} (h : Mk (F.reverse ++ B) F.reverse B [] M) (hF : OkL F) (hB : OkL B) (hl : F.length + B.length ≤ 500) (st : So) (hS : Flat st) : d_made [.p (.tuple (F.map pcD)), .p (.tuple (B.map pcD))] st = .ok (prD (M.map opQ)) st := by
  generalize hE : F.reverse ++ B = E at h
  have oE : OkL E := fun p hp => by
    rw [← hE] at hp
    rcases List.mem_append.mp hp with hp | hp
    · exact hF p (List.mem_reverse.mp hp)
    · exact hB p hp
  have c1 : fCell (fListOf (fUn gRev (fVar 0))) [some (.p (.tuple (F.map pcD))), some (.p (.tuple (B.map pcD))), none, none, none, none, none] st = .ok (.ref st.length) (st ++ [lP F.reverse]) := by
    have := cell_to (list_rev (i := 0) (ρ := [some (.p (.tuple (F.map pcD))), some (.p (.tuple (B.map pcD))), none, none, none, none, none]) (S := st) (xs := F.map pcD) rfl (by rw [List.length_map]; omega)) (by rw [List.length_map, List.length_reverse, List.length_map]; omega)
    rw [← List.map_reverse] at this
    exact this
  have t1 := asg_to (i := 2) c1 (ρ' := [some (.p (.tuple (F.map pcD))), some (.p (.tuple (B.map pcD))), some (.ref (st.length + 0)), none, none, none, none]) rfl
  have e2 : ∀ (j : Nat) (r : So) (c : Cl), r.length = j → (st ++ r).length = st.length + j ∧ (st ++ r) ++ [c] = st ++ (r ++ [c]) := fun j r c h => ⟨by rw [List.length_append, h], List.append_assoc st r [c]⟩
  have c2 := cell_to (list_tup (i := 1) (ρ := [some (.p (.tuple (F.map pcD))), some (.p (.tuple (B.map pcD))), some (.ref (st.length + 0)), none, none, none, none]) (S := st ++ [lP F.reverse]) (xs := B.map pcD) rfl (by rw [List.length_map]; omega)) (by rw [List.length_map, List.length_map]; omega)
  rw [(e2 1 [lP F.reverse] (lP B) rfl).1, (e2 1 [lP F.reverse] (lP B) rfl).2] at c2
  have t2 := asg_to (i := 3) c2 (ρ' := [some (.p (.tuple (F.map pcD))), some (.p (.tuple (B.map pcD))), some (.ref (st.length + 0)), some (.ref (st.length + 1)), none, none, none]) rfl
  have a4 : fOp gAdd (fVar 2) (fVar 3) [some (.p (.tuple (F.map pcD))), some (.p (.tuple (B.map pcD))), some (.ref (st.length + 0)), some (.ref (st.length + 1)), none, none, none] (st ++ [lP F.reverse, lP B]) = .ok (.p (.list (E.map pcD))) (st ++ [lP F.reverse, lP B]) := by
    have g := gAdd_gg (S := st ++ [lP F.reverse, lP B]) (c := st.length + 0) (c' := st.length + 1) (xs := F.reverse.map pcD) (ys := B.map pcD) (T_get rfl) (T_get rfl) (by rw [List.length_map, List.length_map, List.length_reverse]; omega)
    rw [← List.map_append, hE] at g
    exact op_ok (var_ok rfl) (var_ok rfl) g
  have t3 := asg_to (i := 4) a4 (ρ' := [some (.p (.tuple (F.map pcD))), some (.p (.tuple (B.map pcD))), some (.ref (st.length + 0)), some (.ref (st.length + 1)), some (.p (.list (E.map pcD))), none, none]) rfl
  have c5 := cell_to (fr := disp fNil) (ρ := [some (.p (.tuple (F.map pcD))), some (.p (.tuple (B.map pcD))), some (.ref (st.length + 0)), some (.ref (st.length + 1)), some (.p (.list (E.map pcD))), none, none]) (st := st ++ [lP F.reverse, lP B]) (disp_to nil_ok (by decide)) (by decide)
  rw [(e2 2 [lP F.reverse, lP B] (lO []) rfl).1, show (st ++ [lP F.reverse, lP B]) ++ [Cl.lst []] = st ++ [lP F.reverse, lP B, lO []] from (e2 2 [lP F.reverse, lP B] (lO []) rfl).2] at c5
  have t5 := asg_to (i := 5) c5 (ρ' := [some (.p (.tuple (F.map pcD))), some (.p (.tuple (B.map pcD))), some (.ref (st.length + 0)), some (.ref (st.length + 1)), some (.p (.list (E.map pcD))), some (.ref (st.length + 2)), none]) rfl
  have c6 := cell_to (fr := disp fNil) (ρ := [some (.p (.tuple (F.map pcD))), some (.p (.tuple (B.map pcD))), some (.ref (st.length + 0)), some (.ref (st.length + 1)), some (.p (.list (E.map pcD))), some (.ref (st.length + 2)), none]) (st := st ++ [lP F.reverse, lP B, lO []]) (disp_to nil_ok (by decide)) (by decide)
  rw [(e2 3 [lP F.reverse, lP B, lO []] (lP []) rfl).1, show (st ++ [lP F.reverse, lP B, lO []]) ++ [Cl.lst []] = T4 st F.reverse B [] [] from (e2 3 [lP F.reverse, lP B, lO []] (lP []) rfl).2] at c6
  have t6 := asg_to (i := 6) c6 (ρ' := slM (.tuple (F.map pcD)) (.tuple (B.map pcD)) E st.length) rfl
  have ml := mk_len h
  rw [List.length_reverse] at ml
  obtain ⟨d', w⟩ := loopM (F := .tuple (F.map pcD)) (B := .tuple (B.map pcD)) (st := st) oE h [] 100000 (fun e he => by
    rw [← hE]
    rcases he with he | he | he
    · exact List.mem_append.mpr (.inl he)
    · exact List.mem_append.mpr (.inr he)
    · cases he) (by rw [List.length_reverse, List.length_nil, List.length_nil]; omega) (by omega)
  rw [List.nil_append] at w
  have t7 : sWh tsM bdM 100000 (slM (.tuple (F.map pcD)) (.tuple (B.map pcD)) E st.length) (T4 st F.reverse B [] []) = .nx (slM (.tuple (F.map pcD)) (.tuple (B.map pcD)) E st.length) (T4 st [] [] (M.map opQ) d') := w
  have fz := ret_to (frz_to (i := 5) (ρ := slM (.tuple (F.map pcD)) (.tuple (B.map pcD)) E st.length) (S := T4 st [] [] (M.map opQ) d') (c := st.length + 2) (xs := (M.map opQ).map opD) rfl (T_get rfl))
  rw [show (T4 st [] [] (M.map opQ) d').set (st.length + 2) .dead = st ++ [lP [], lP [], .dead, lP d'] from T_set (j := 2)] at fz
  exact runD_pure (N := 7) (args := [.p (.tuple (F.map pcD)), .p (.tuple (B.map pcD))]) hS ((seq_to t1).trans ((seq_to t2).trans ((seq_to t3).trans ((seq_to t5).trans ((seq_to t6).trans ((seq_to t7).trans fz))))))
end FB.K64
set_option Elab.async false
set_option linter.all false
set_option maxRecDepth 100000
set_option maxHeartbeats 4000000
/-! O19h: what is a meaning; the parts of is_meaning. -/
namespace FB.K64
open PySem PySem.Spec PyProof.Rows L2 RZ FB FB.Th
/-! ### slices, tuples joined -/
theorem cut_from {xs : List Dv} {k : Nat} : cutD xs (some (k : Int)) none = xs.drop k := by
  unfold cutD
  rw [HT.sIx_nat, HT.sIx_none]
  by_cases h : k ≤ xs.length
  · rw [Nat.min_eq_left h, List.take_of_length_le (by rw [List.length_drop]; omega)]
  · rw [Nat.min_eq_right (by omega), Nat.sub_self, List.take_zero, List.drop_of_length_le (by omega)]
theorem cut_to {xs : List Dv} {k : Nat} : cutD xs none (some (k : Int)) = xs.take k := by
  unfold cutD
  rw [HT.sIx_nat, HT.sIx_none, List.drop_zero, Nat.sub_zero]
  by_cases h : k ≤ xs.length
  · rw [Nat.min_eq_left h]
  · rw [Nat.min_eq_right (by omega), List.take_of_length_le (Nat.le_refl _), List.take_of_length_le (by omega)]
theorem slT_from {xs : List PyData} {k : Nat} {st : So} : gSl (.p (.tuple xs)) (some (k : Int)) none st = some (.p (.tuple (xs.drop k))) := by
  show some (if whole (xs.map Dv.p).length (some (k : Int)) none then Dv.p (.tuple xs) else mkT (cutD (xs.map Dv.p) (some (k : Int)) none)) = _
  rw [cut_from, ← List.map_drop, mkT_p]
  split
  · rename_i h
    unfold whole at h
    rw [Bool.and_eq_true, decide_eq_true_eq, HT.sIx_nat, List.length_map] at h
    congr 3
    have : k = 0 ∨ xs.length = 0 := by omega
    rcases this with h | h
    · rw [h]; rfl
    · rw [List.length_eq_zero_iff.mp h, List.drop_nil]
  · rfl
theorem slL_from {xs : List PyData} {k : Nat} {st : So} : gSl (.p (.list xs)) (some (k : Int)) none st = some (.p (.list (xs.drop k))) := by
  show some (mkL (cutD (xs.map Dv.p) (some (k : Int)) none)) = _
  rw [cut_from, ← List.map_drop, mkL_p]
theorem slL_to {xs : List PyData} {k : Nat} {st : So} : gSl (.p (.list xs)) none (some (k : Int)) st = some (.p (.list (xs.take k))) := by
  show some (mkL (cutD (xs.map Dv.p) none (some (k : Int)))) = _
  rw [cut_to, ← List.map_take, mkL_p]
theorem gAdd_t {xs ys : List PyData} {st : So} (h : xs.length + ys.length ≤ 100000) : gAdd (.p (.tuple xs)) (.p (.tuple ys)) st = some (.p (.tuple (xs ++ ys))) := by
  show (if (xs.map Dv.p).length + (ys.map Dv.p).length ≤ 100000 then some (if (xs.map Dv.p).isEmpty then .p (.tuple ys) else if (ys.map Dv.p).isEmpty then .p (.tuple xs) else mkT (xs.map Dv.p ++ ys.map Dv.p)) else none) = _
  rw [List.length_map, List.length_map, if_pos h, ← List.map_append, mkT_p]
  cases xs with
  | nil => rfl
  | cons x xs =>
    cases ys with
    | nil => rw [List.append_nil]; rfl
    | cons y ys => rfl
theorem items_tmap {α : Type} (f : α → PyData) (xs : List α) (st : So) : itemsOf (.p (.tuple (xs.map f))) st = some (xs.map fun x => Dv.p (f x)) := by
  show some ((xs.map f).map Dv.p) = _
  rw [List.map_map]; rfl
theorem gNe_same {xs : List PyData} {st : So} (h : SeqAt.shaped (.tuple xs) = true) : gNe (.p (.tuple xs)) (.p (.tuple xs)) st = some (.p (.bool false)) := by
  unfold gNe
  rw [eqD_t h h, SeqAt.eqv_refl (.tuple xs) (SeqAt.canLay_of_shaped h)]; rfl
theorem pct_shaped {l : List Pc} (h : OkL l) : SeqAt.shaped (.tuple (l.map pcD)) = true := by
  unfold SeqAt.shaped
  have e1 : PyData.canLay0 (.tuple (l.map pcD)) = true := by simpa [PyData.canLay0] using lay_pcs h
  have d := depth_pcs l
  have e2 : PyData.depth (.tuple (l.map pcD)) ≤ 64 := by
    simp only [PyData.depth]
    omega
  rw [e1, decide_eq_true e2]; rfl
/-! ### what a meaning is -/
structure MOk (F B : List Pc) (D : List Str) (M : List (Pl × Pc)) : Prop where
  okE : ∀ e ∈ F ++ B, isWord e.1 = true
  okD : ∀ w ∈ D, isWord w = true
  len : F.length + B.length + D.length ≤ 60
  few : ∃ ws : List Str, ws.length ≤ 12 ∧ (∀ e ∈ F ++ B, e.1 ∈ ws) ∧ ∀ w ∈ D, w ∈ ws
  srt : D.Pairwise fun a b => a.cps.toList < b.cps.toList
  ex : (F ++ B).Pairwise Excl
  sep : ∀ e ∈ F ++ B, e.1 ∉ D
  jf : sbs .absent .present F = F
  jb : sbs .present .absent B = B
  mkk : Mk (F.reverse ++ B) F.reverse B [] M
theorem MOk.okF {F B : List Pc} {D : List Str} {M : List (Pl × Pc)} (h : MOk F B D M) : OkL F := fun p hp => word_ok (h.okE p (List.mem_append.mpr (.inl hp)))
theorem MOk.okB {F B : List Pc} {D : List Str} {M : List (Pl × Pc)} (h : MOk F B D M) : OkL B := fun p hp => word_ok (h.okE p (List.mem_append.mpr (.inr hp)))
theorem srt_lt {l : List Str} (h : l.Nodup) : (srtS l).Pairwise fun a b => a.cps.toList < b.cps.toList := by
  have n : (srtS l).Nodup := (srtS_perm l).nodup_iff.mpr h
  refine ((srtS_srt l).and n).imp fun {a b} ⟨h1, h2⟩ => Classical.byContradiction fun z => ?_
  exact h2 (strLe_anti h1 (strLe_iff.mpr z))
theorem ends_word {P : List Op} {pl : Pl} {e : Pc} (h : Ends P pl e) : e.1 ∈ wordsOf P := by
  have key : ∀ b t, res e.1 P b = some (pl, t) → e.1 ∈ wordsOf P := fun b t ht => by
    obtain ⟨h1, h2, v, h3, h4⟩ := res_lt _ _ _ _ ht
    exact (words_mem P e.1).mpr ⟨(v, e.1), List.mem_of_getElem? h3, rfl⟩
  by_cases c : e.2 = .absent
  · obtain ⟨t, ht⟩ := h.2 (by rw [c]; exact nAP)
    exact key _ t ht
  · obtain ⟨t, ht⟩ := h.1 c
    exact key _ t ht
theorem drop_word {P : List Op} {w : Str} (h : w ∈ JD P) : w ∈ wordsOf P := by
  obtain ⟨t, ht⟩ := JD_mem.mp h
  obtain ⟨h1, h2, v, h3, h4⟩ := res_lt _ _ _ _ ht
  exact (words_mem P w).mpr ⟨(v, w), List.mem_of_getElem? h3, rfl⟩
theorem ent_word {P : List Op} {e : Pc} (h : e ∈ JF P ++ JB P) : e.1 ∈ wordsOf P := (List.mem_append.mp h).elim (fun h => ends_word (JF_ends h)) (fun h => ends_word (JB_ends h))
theorem Prog.word {P : List Op} (h : Prog P) {w : Str} (hw : w ∈ wordsOf P) : isWord w = true := by
  obtain ⟨o, ho, e⟩ := (words_mem P w).mp hw
  rw [← e]; exact h.ok o ho
/-- what is made of a meaning: a program that is not longer, with the same meaning -/
structure Sh (P : List Op) (M : List (Pl × Pc)) : Prop where
  mok : MOk (JF P) (JB P) (JD P) M
  prog : Prog (Qof M (JD P))
  jf : JF (Qof M (JD P)) = JF P
  jb : JB (Qof M (JD P)) = JB P
  jd : JD (Qof M (JD P)) = JD P
  len : (Qof M (JD P)).length ≤ P.length
  sub : ∀ o ∈ Qof M (JD P), o.2 ∈ wordsOf P
theorem sh_of {P : List Op} (h : Prog P) : ∃ M, Sh P M := by
  obtain ⟨M, hM, md, e1, e2, e3⟩ := short_ex P
  have sl := short_len P
  have hl := h.len
  have ml := mk_len hM
  rw [List.length_reverse] at ml
  have ql : (Qof M (JD P)).length ≤ P.length := by
    unfold Qof dropQ
    rw [List.length_append, List.length_map, List.length_map]
    omega
  have hpl := mk_pl hM
  have sub : ∀ o ∈ Qof M (JD P), o.2 ∈ wordsOf P := fun o ho => by
    rcases List.mem_append.mp ho with ho | ho
    · obtain ⟨x, hx, rfl⟩ := List.mem_map.mp ho
      rcases hpl x hx with ⟨_, q⟩ | ⟨_, q⟩
      · exact ends_word (JF_ends (List.mem_reverse.mp q))
      · exact ends_word (JB_ends q)
    · obtain ⟨w, hw, rfl⟩ := List.mem_map.mp ho
      exact drop_word hw
  refine ⟨M, ⟨⟨fun e he => h.word (ent_word he), fun w hw => h.word (drop_word hw), by omega, ⟨wordsOf P, h.few, fun e he => ent_word he, fun w hw => drop_word hw⟩, srt_lt ((words_nd P).filter _), ?_, ?_, sbs_idem nPW _, sbs_idem nAW _, hM⟩, ⟨fun o ho => h.word (sub o ho), by omega, ?_⟩, e1, e2, e3, ql, sub⟩⟩
  · have ex := J_excl P
    obtain ⟨x1, x2, x3⟩ := List.pairwise_append.mp ex
    refine List.pairwise_append.mpr ⟨?_, x2, fun a ha b hb => x3 a (List.mem_reverse.mpr ha) b hb⟩
    exact (List.pairwise_reverse.mp x1).imp fun {a b} h => h.symm
  · intro e he
    rcases List.mem_append.mp he with he | he
    · exact J_sep P (JF_ends he) rfl
    · exact J_sep P (JB_ends he) rfl
  · have := (words_nd (Qof M (JD P))).length_le_of_subset (l₂ := wordsOf P) (fun x hx => by
      obtain ⟨o, ho, e⟩ := (words_mem _ x).mp hx
      rw [← e]; exact sub o ho)
    have := h.few
    omega
/-! ### are_entries -/
theorem gLen_t {xs : List PyData} {st : So} : gLen [.p (.tuple xs)] st = some (zD xs.length) := by
  show some (Dv.p (.int ((xs.map Dv.p).length : Nat))) = _
  rw [List.length_map]
theorem csIn (c : Cs) : decide (csS c ∈ (["always", "present", "absent"] : List Str)) = true := by cases c <;> decide +kernel
theorem are_entries_ok {l : List Pc} (h : ∀ e ∈ l, isWord e.1 = true) (st : So) : d_are_entries [.p (.tuple (l.map pcD))] st = .ok (.p (.bool true)) st := by
  have t1 := if_next (ga := sRet (fC (.bool false))) (not_t (tb_ok (isT_ok (T := "tuple") (fa := fVar 0) (ρ := [some (.p (.tuple (l.map pcD))), none]) (st := st) (d := .p (.tuple (l.map pcD))) (var_ok rfl) (show tyOf (.p (.tuple (l.map pcD))) st = some "tuple" from rfl) kit_tt)))
  have lp : ∀ (xs : List Pc) (x : Option Dv), (∀ e ∈ xs, isWord e.1 = true) → ∃ x', sForL (.nm 1) (sSeq (sIf (fTOr (fTNot (fTB (fIsT "tuple" (fVar 1)))) (fTOr (fTB (fOp gNe (fCB gLen (fCons (fVar 1) (fNil))) (fC (.int 2)))) (fTOr (fTNot (fTB (fCall d_is_word (fCons (fOp gIxA (fVar 1) (fC (.int 0))) (fNil))))) (fTNot (fTB (fIsT "str" (fOp gIxA (fVar 1) (fC (.int 1))))))))) (sRet (fC (.bool false))) (sNext)) (sIf (fTB (fOp gNotIn (fOp gIxA (fVar 1) (fC (.int 1))) (fC (.tuple ((["always", "present", "absent"] : List Str).map PyData.str))))) (sRet (fC (.bool false))) (sNext))) (xs.map fun e => Dv.p (pcD e)) [some (.p (.tuple (l.map pcD))), x] st = .nx [some (.p (.tuple (l.map pcD))), x'] st := fun xs => by
    induction xs with
    | nil => exact fun x _ => ⟨x, rfl⟩
    | cons e xs ih =>
      intro x hx
      have v : fVar 1 [some (.p (.tuple (l.map pcD))), some (.p (pcD e))] st = .ok (.p (pcD e)) st := var_ok rfl
      have i0 : fOp gIxA (fVar 1) (fC (.int 0)) [some (.p (.tuple (l.map pcD))), some (.p (pcD e))] st = .ok (sD e.1) st := op_ok v c_ok ix0
      have i1 : fOp gIxA (fVar 1) (fC (.int 1)) [some (.p (.tuple (l.map pcD))), some (.p (pcD e))] st = .ok (sD (csS e.2)) st := op_ok v c_ok ix1
      have n1 : fTNot (fTB (fIsT "tuple" (fVar 1))) [some (.p (.tuple (l.map pcD))), some (.p (pcD e))] st = .ok false st := not_t (tb_ok (isT_ok v rfl kit_tt))
      have n2 : fTB (fOp gNe (fCB gLen (fCons (fVar 1) (fNil))) (fC (.int 2))) [some (.p (.tuple (l.map pcD))), some (.p (pcD e))] st = .ok false st := tb_ok (op_ok (cb_ok (z := .p (.int 2)) (cons_ok v nil_ok) rfl) c_ok (gNe_i 2 2 st))
      have n3 := not_t (tb_ok (call_ok (F := d_is_word) (cons_ok i0 nil_ok) (is_word_ok e.1 st (hx e List.mem_cons_self))))
      have n4 := not_t (tb_ok (isT_ok (T := "str") i1 (ty_s (csS e.2) st) kit_ss))
      have u1 := if_next (ga := sRet (fC (.bool false))) (or_ff n1 (or_ff n2 (or_ff n3 n4)))
      have g := gNotIn_tw (csS e.2) ["always", "present", "absent"] st
      rw [csIn, Bool.not_true] at g
      have u2 := if_next (ga := sRet (fC (.bool false))) (tb_ok (op_ok (g := gNotIn) (fb := fC (.tuple ((["always", "present", "absent"] : List Str).map PyData.str))) i1 c_ok g))
      obtain ⟨x', q⟩ := ih (some (.p (pcD e))) fun y hy => hx y (List.mem_cons_of_mem _ hy)
      exact ⟨x', (forL_next (ρ1 := [some (.p (.tuple (l.map pcD))), some (.p (pcD e))]) (tg_nm.trans rfl) ((seq_to u1).trans u2)).trans q⟩
  obtain ⟨x', q⟩ := lp l none h
  have t2 := (ev_forV (fa := fVar 0) (ρ := [some (.p (.tuple (l.map pcD))), none]) (st := st) (var_ok rfl) (items_tmap pcD l st)).trans q
  exact runD_pure0 (N := 2) (args := [.p (.tuple (l.map pcD))]) ((seq_to t1).trans ((seq_to t2).trans (ret_to c_ok)))
/-! ### are_single -/
theorem two_cs : ∀ {l : List Pc}, l.Pairwise Excl → (∀ a ∈ l, ∀ b ∈ l, a.1 = b.1) → l.length ≤ 2 ∧ (l.length = 2 → srtS (l.map fun e => csS e.2) = (["absent", "present"] : List Str))
  | [], _, _ => ⟨Nat.zero_le _, fun h => (by cases h)⟩
  | [a], _, _ => ⟨Nat.le_succ _, fun h => (by cases h)⟩
  | [a, b], h, hw => by
    refine ⟨Nat.le_refl _, fun _ => ?_⟩
    obtain ⟨h1, _⟩ := List.pairwise_cons.mp h
    obtain ⟨e1, e2, e3⟩ := h1 b List.mem_cons_self (hw a List.mem_cons_self b (List.mem_cons_of_mem _ List.mem_cons_self))
    obtain ⟨w, c⟩ := a
    obtain ⟨w', d⟩ := b
    cases c <;> cases d <;> first | exact absurd rfl e1 | exact absurd rfl e2 | exact absurd rfl e3 | (show srtS [csS .present, csS .absent] = _; decide +kernel) | (show srtS [csS .absent, csS .present] = _; decide +kernel)
  | a :: b :: c :: l, h, hw => by
    exfalso
    obtain ⟨h1, h2⟩ := List.pairwise_cons.mp h
    obtain ⟨h3, _⟩ := List.pairwise_cons.mp h2
    have ma : a ∈ a :: b :: c :: l := List.mem_cons_self
    have mb : b ∈ a :: b :: c :: l := List.mem_cons_of_mem _ List.mem_cons_self
    have mc : c ∈ a :: b :: c :: l := List.mem_cons_of_mem _ (List.mem_cons_of_mem _ List.mem_cons_self)
    obtain ⟨a1, a2, a3⟩ := h1 b List.mem_cons_self (hw a ma b mb)
    obtain ⟨b1, b2, b3⟩ := h1 c (List.mem_cons_of_mem _ List.mem_cons_self) (hw a ma c mc)
    obtain ⟨c1, c2, c3⟩ := h3 c List.mem_cons_self (hw b mb c mc)
    obtain ⟨_, p⟩ := a
    obtain ⟨_, q⟩ := b
    obtain ⟨_, r⟩ := c
    cases p <;> cases q <;> cases r <;> first | exact a1 rfl | exact a2 rfl | exact a3 rfl | exact b2 rfl | exact b3 rfl | exact c3 rfl
abbrev slI (F B : List Pc) (D : List Str) (w c l : Option Dv) : Sl := [some (.p (.tuple (F.map pcD))), some (.p (.tuple (B.map pcD))), some (tw D), some (.p (.tuple ((F ++ B).map pcD))), w, c, l, none, none]
abbrev bodyI : FS := sSeq (sAsg (fPure (fLcV (fVar 3) (.tp [.nm 7, .nm 8]) (fTB (fOp gEq (fVar 7) (fVar 4))) (fVar 8))) (.nm 6)) (sIf (fTOr (fTB (fOp gIn (fVar 4) (fVar 2))) (fTOr (fTB (fOp gGt (fCB gLen (fCons (fVar 6) (fNil))) (fC (.int 2)))) (fTAnd (fTB (fOp gEq (fCB gLen (fCons (fVar 6) (fNil))) (fC (.int 2)))) (fTB (fOp gNe (fPure (fSortS (fVar 6))) (fPure (disp (fCons (fC (.str "absent")) (fCons (fC (.str "present")) (fNil)))))))))) (sRet (fC (.bool false))) (sNext))
theorem bodyI_ok {F B : List Pc} {D : List Str} (hx : (F ++ B).Pairwise Excl) (hs : ∀ e ∈ F ++ B, e.1 ∉ D) (hl : (F ++ B).length ≤ 60) (e : Pc) (he : e ∈ F ++ B) (l : Option Dv) (st : So) :
    ∃ l', bodyI (slI F B D (some (sD e.1)) (some (sD (csS e.2))) l) st = .nx (slI F B D (some (sD e.1)) (some (sD (csS e.2))) l') st := by
  have lc := lcV_pure (fa := fVar 3) (tg := .tp [.nm 7, .nm 8]) (tt := fTB (fOp gEq (fVar 7) (fVar 4))) (fe := fVar 8) (ρ := slI F B D (some (sD e.1)) (some (sD (csS e.2))) l) (slI F B D (some (sD e.1)) (some (sD (csS e.2))) l) (st := st) (xs := F ++ B) (f := fun e => Dv.p (pcD e)) (fun q : Pc => [some (.p (.tuple (F.map pcD))), some (.p (.tuple (B.map pcD))), some (tw D), some (.p (.tuple ((F ++ B).map pcD))), some (sD e.1), some (sD (csS e.2)), l, some (sD q.1), some (sD (csS q.2))]) (fun q => decide (q.1 = e.1)) (fun q => Dv.p (.str (csS q.2))) (d := .p (.tuple ((F ++ B).map pcD))) (var_ok rfl) (items_tmap pcD (F ++ B) st) (by omega) (by rw [rhoW_two]; rfl) (fun q _ => tg2.trans rfl) (fun q _ => tb_ok (op_ok (var_ok rfl) (var_ok rfl) (gEq_s q.1 e.1 st))) (fun q _ _ => var_ok rfl)
  generalize hC : (F ++ B).filter (fun q => decide (q.1 = e.1)) = C at lc
  have hC1 : C.Pairwise Excl := by rw [← hC]; exact hx.filter _
  have hC2 : ∀ a ∈ C, ∀ b ∈ C, a.1 = b.1 := fun a ha b hb => by
    rw [← hC] at ha hb
    have h1 := of_decide_eq_true (List.mem_filter.mp ha).2
    have h2 := of_decide_eq_true (List.mem_filter.mp hb).2
    rw [h1, h2]
  obtain ⟨c1, c2⟩ := two_cs hC1 hC2
  have pc := pure_ok (g := fun q : Pc => PyData.str (csS q.2)) lc (by omega)
  have el : PyData.list (C.map fun q => PyData.str (csS q.2)) = PyData.list ((C.map fun q => csS q.2).map PyData.str) := by rw [List.map_map]; rfl
  rw [el] at pc
  have t1 := asg_to (i := 6) pc (ρ' := slI F B D (some (sD e.1)) (some (sD (csS e.2))) (some (lw (C.map fun q => csS q.2)))) rfl
  have n1 : fTB (fOp gIn (fVar 4) (fVar 2)) (slI F B D (some (sD e.1)) (some (sD (csS e.2))) (some (lw (C.map fun q => csS q.2)))) st = .ok false st := by
    have g := gIn_tw e.1 D st
    rw [decide_eq_false (hs e he)] at g
    exact tb_ok (op_ok (var_ok rfl) (var_ok rfl) g)
  have ln : fCB gLen (fCons (fVar 6) (fNil)) (slI F B D (some (sD e.1)) (some (sD (csS e.2))) (some (lw (C.map fun q => csS q.2)))) st = .ok (zD C.length) st := by
    have := gLen_lw (C.map fun q => csS q.2) st
    rw [List.length_map] at this
    exact cb_ok (cons_ok (var_ok rfl) nil_ok) this
  have n2 : fTB (fOp gGt (fCB gLen (fCons (fVar 6) (fNil))) (fC (.int 2))) (slI F B D (some (sD e.1)) (some (sD (csS e.2))) (some (lw (C.map fun q => csS q.2)))) st = .ok false st := by
    have g := gt_z (i := (C.length : Int)) (j := 2) (st := st)
    rw [decide_eq_false (by omega)] at g
    exact tb_ok (op_ok ln c_ok g)
  have q2 := tb_ok (op_ok (g := gEq) (fb := fC (.int 2)) ln c_ok (gEq_i C.length 2 st))
  have n3 : fTAnd (fTB (fOp gEq (fCB gLen (fCons (fVar 6) (fNil))) (fC (.int 2)))) (fTB (fOp gNe (fPure (fSortS (fVar 6))) (fPure (disp (fCons (fC (.str "absent")) (fCons (fC (.str "present")) (fNil))))))) (slI F B D (some (sD e.1)) (some (sD (csS e.2))) (some (lw (C.map fun q => csS q.2)))) st = .ok false st := by
    rw [ev_tand, q2, bind_ok]
    by_cases h : C.length = 2
    · rw [decide_eq_true (by omega), if_pos rfl]
      have so := pure_ok (g := fun w => PyData.str w) (sortS_ok (fa := fVar 6) (ρ := slI F B D (some (sD e.1)) (some (sD (csS e.2))) (some (lw (C.map fun q => csS q.2)))) (st := st) (ws := C.map fun q => csS q.2) (var_ok rfl) (by rw [List.length_map]; omega)) (by rw [(srtS_perm _).length_eq, List.length_map]; omega)
      rw [c2 h] at so
      have d := disp_ok (ρ := slI F B D (some (sD e.1)) (some (sD (csS e.2))) (some (lw (C.map fun q => csS q.2)))) (st := st) (st1 := st) (fr := fCons (fC (.str "absent")) (fCons (fC (.str "present")) (fNil))) (ws := ["absent", "present"]) (cons_ok c_ok (cons_ok c_ok nil_ok)) (show 2 ≤ 100000 by decide)
      exact tb_ok (op_ok (g := gNe) so d (show gNe (lw ["absent", "present"]) (lw ["absent", "present"]) st = some (.p (.bool false)) by
        have : eqD (lw ["absent", "present"]) (lw ["absent", "present"]) st = some true := by
          show (if SeqAt.shaped (.list ((["absent", "present"] : List Str).map PyData.str)) && SeqAt.shaped (.list ((["absent", "present"] : List Str).map PyData.str)) then some (PyData.eqv (.list ((["absent", "present"] : List Str).map PyData.str)) (.list ((["absent", "present"] : List Str).map PyData.str))) else none) = _
          decide +kernel
        unfold gNe
        rw [this]; rfl))
    · rw [decide_eq_false (by omega)]; rfl
  exact ⟨_, (seq_to t1).trans (if_next (or_ff n1 (or_ff n2 n3)))⟩
theorem are_single_ok {F B : List Pc} {D : List Str} (hx : (F ++ B).Pairwise Excl) (hs : ∀ e ∈ F ++ B, e.1 ∉ D) (hl : (F ++ B).length ≤ 60) (st : So) : d_are_single [.p (.tuple (F.map pcD)), .p (.tuple (B.map pcD)), tw D] st = .ok (.p (.bool true)) st := by
  have g := gAdd_t (xs := F.map pcD) (ys := B.map pcD) (st := st) (by rw [List.length_map, List.length_map]; rw [List.length_append] at hl; omega)
  rw [← List.map_append] at g
  have t1 := asg_to (i := 3) (op_ok (g := gAdd) (fa := fVar 0) (fb := fVar 1) (ρ := [some (.p (.tuple (F.map pcD))), some (.p (.tuple (B.map pcD))), some (tw D), none, none, none, none, none, none]) (var_ok rfl) (var_ok rfl) g) (ρ' := slI F B D none none none) rfl
  have lp : ∀ (xs : List Pc) (w c l : Option Dv), (∀ e ∈ xs, e ∈ F ++ B) → ∃ w' c' l', sForL (.tp [.nm 4, .nm 5]) bodyI (xs.map fun e => Dv.p (pcD e)) (slI F B D w c l) st = .nx (slI F B D w' c' l') st := fun xs => by
    induction xs with
    | nil => exact fun w c l _ => ⟨w, c, l, rfl⟩
    | cons e xs ih =>
      intro w c l hm
      obtain ⟨l1, t⟩ := bodyI_ok hx hs hl e (hm e List.mem_cons_self) l st
      obtain ⟨w', c', l', q⟩ := ih (some (sD e.1)) (some (sD (csS e.2))) l1 fun y hy => hm y (List.mem_cons_of_mem _ hy)
      exact ⟨w', c', l', (forL_next (ρ1 := slI F B D (some (sD e.1)) (some (sD (csS e.2))) l) (tg2.trans rfl) t).trans q⟩
  obtain ⟨w', c', l', q⟩ := lp (F ++ B) none none none fun _ h => h
  have t2 := (ev_forV (fa := fVar 3) (ρ := slI F B D none none none) (st := st) (var_ok rfl) (items_tmap pcD (F ++ B) st)).trans q
  exact runD_pure0 (N := 9) (args := [.p (.tuple (F.map pcD)), .p (.tuple (B.map pcD)), tw D]) ((seq_to t1).trans ((seq_to t2).trans (ret_to c_ok)))
end FB.K64
set_option Elab.async false
set_option linter.all false
set_option maxRecDepth 100000
set_option maxHeartbeats 4000000
/-! O19i: words_in, is_meaning, check_meaning, meaning, program_of, shortest. -/
namespace FB.K64
open PySem PySem.Spec PyProof.Rows L2 RZ FB FB.Th
/-! ### words_in -/
def dedup (W : List Str) : List Str := W.foldl addW []
theorem foldl_drop : ∀ (W : List Str) (acc : List Str), W.foldl addW acc = (W.map fun w => (Vb.drop, w)).foldl (fun acc (o : Op) => addW acc o.2) acc
  | [], _ => rfl
  | w :: W, acc => foldl_drop W (addW acc w)
theorem dedup_nd (W : List Str) : (dedup W).Nodup := by
  unfold dedup
  rw [foldl_drop]
  exact (wordsF (P := W.map fun w => (Vb.drop, w)) List.nodup_nil).1
theorem dedup_mem (W : List Str) (x : Str) : x ∈ dedup W ↔ x ∈ W := by
  unfold dedup
  rw [foldl_drop, (wordsF (P := W.map fun w => (Vb.drop, w)) List.nodup_nil).2]
  constructor
  · rintro (h | ⟨o, ho, e⟩)
    · cases h
    · obtain ⟨w, hw, rfl⟩ := List.mem_map.mp ho
      rw [← e]; exact hw
  · exact fun h => .inr ⟨(.drop, x), List.mem_map.mpr ⟨x, h, rfl⟩, rfl⟩
theorem addW_len (acc : List Str) (w : Str) : (addW acc w).length ≤ acc.length + 1 := by
  unfold addW
  split
  · omega
  · rw [List.length_append]; exact Nat.le_refl _
theorem dc_w {st : So} {a b c d : Option Dv} : ∀ (W : List Str) (acc : List Str), acc.length + W.length ≤ 100000 →
    dcL st.length (.nm 4) tYesF (fVar 4) (fC (.bool true)) [a, b, c, d, none, none] (W.map sD) (st ++ [.dK (kvW acc)]) = .ok (.ref st.length) (st ++ [.dK (kvW (W.foldl addW acc))])
  | [], acc, _ => rfl
  | w :: W, acc, h => by
    have hl := addW_len acc w
    rw [List.length_cons] at h
    have ih := dc_w (st := st) (a := a) (b := b) (c := c) (d := d) W (addW acc w) (by omega)
    have tg : tgF (.nm 4) (sD w) [a, b, c, d, none, none] = some [a, b, c, d, some (sD w), none] := tg_nm.trans rfl
    have dk : dictOf (.ref st.length) (st ++ [.dK (kvW acc)]) = some (st.length, kvW acc) := by
      unfold dictOf
      dsimp only
      rw [List.getElem?_append_right (Nat.le_refl _), Nat.sub_self]
      rfl
    rw [List.map_cons]
    unfold dcL
    rw [tg]
    dsimp only
    rw [show tYesF [a, b, c, d, some (sD w), none] (st ++ [Cl.dK (kvW acc)]) = .ok true (st ++ [Cl.dK (kvW acc)]) from rfl, bindN_ok, if_pos rfl, show fVar 4 [a, b, c, d, some (sD w), none] (st ++ [Cl.dK (kvW acc)]) = .ok (sD w) (st ++ [Cl.dK (kvW acc)]) from rfl, bindN_ok, show fC (.bool true) [a, b, c, d, some (sD w), none] (st ++ [Cl.dK (kvW acc)]) = .ok (.p (.bool true)) (st ++ [Cl.dK (kvW acc)]) from rfl, bindN_ok, dk]
    show (if (kvW acc).length ≤ 100000 then dcL st.length (.nm 4) tYesF (fVar 4) (fC (.bool true)) [a, b, c, d, none, none] (W.map sD) ((st ++ [Cl.dK (kvW acc)]).set st.length (Cl.dK (putD (kvW acc) (.inr w) (.p (.bool true))))) else .stuck) = _
    rw [if_pos (by rw [List.length_map]; omega), putW, List.set_append_right _ _ (Nat.le_refl _), Nat.sub_self]
    exact ih
abbrev mD (F B : List Pc) (D : List Str) : PyData := .tuple [.tuple (F.map pcD), .tuple (B.map pcD), .tuple (D.map PyData.str)]
theorem words_in_ok {F B : List Pc} {D : List Str} (hl : F.length + B.length + D.length ≤ 60) (st : So) (hF : Flat st) : d_words_in [.p (mD F B D)] st = .ok (lw (dedup ((F ++ B).map (·.1) ++ D))) st := by
  have t1 := asgT_to (fa := fVar 0) (tg := .tp [.nm 1, .nm 2, .nm 3]) (ρ := [some (.p (mD F B D)), none, none, none, none, none]) (st := st) (var_ok rfl) (ρ' := [some (.p (mD F B D)), some (.p (.tuple (F.map pcD))), some (.p (.tuple (B.map pcD))), some (tw D), none, none]) (tg3.trans rfl)
  have g := gAdd_t (xs := F.map pcD) (ys := B.map pcD) (st := st) (by rw [List.length_map, List.length_map]; omega)
  rw [← List.map_append] at g
  have a1 : fOp gAdd (fVar 1) (fVar 2) [some (.p (mD F B D)), some (.p (.tuple (F.map pcD))), some (.p (.tuple (B.map pcD))), some (tw D), none, none] st = .ok (.p (.tuple ((F ++ B).map pcD))) st := op_ok (var_ok rfl) (var_ok rfl) g
  have lc := lcV_all (fa := fOp gAdd (fVar 1) (fVar 2)) (tg := .nm 5) (fe := fOp gIxA (fVar 5) (fC (.int 0))) [some (.p (mD F B D)), some (.p (.tuple (F.map pcD))), some (.p (.tuple (B.map pcD))), some (tw D), none, none] (st := st) (xs := F ++ B) (f := fun e => Dv.p (pcD e)) (fun e => [some (.p (mD F B D)), some (.p (.tuple (F.map pcD))), some (.p (.tuple (B.map pcD))), some (tw D), none, some (.p (pcD e))]) (fun e => Dv.p (.str e.1)) a1 (items_tmap pcD (F ++ B) st) (by rw [List.length_append]; omega) (by rw [rhoW_one]; rfl) (fun e _ => by rw [tg_nm]; rfl) (fun e _ => op_ok (var_ok rfl) c_ok ix0)
  have p1 := pure_ok (g := fun e : Pc => PyData.str e.1) lc (by rw [List.length_append]; omega)
  have el : PyData.list ((F ++ B).map fun e => PyData.str e.1) = PyData.list (((F ++ B).map (·.1)).map PyData.str) := by rw [List.map_map]; rfl
  rw [el] at p1
  have l2 := list_tup (i := 3) (ρ := [some (.p (mD F B D)), some (.p (.tuple (F.map pcD))), some (.p (.tuple (B.map pcD))), some (tw D), none, none]) (S := st) (xs := D.map PyData.str) rfl (by rw [List.length_map]; omega)
  have p2 := pure_to l2 (by rw [List.length_map, List.length_map]; omega)
  rw [mkL_p] at p2
  have a2 := op_ok (g := gAdd) p1 p2 (gAdd_lw (a := List.map (fun e : Pc => e.1) (F ++ B)) (b := D) (by rw [List.length_map, List.length_append]; omega))
  generalize hW : (F ++ B).map (·.1) ++ D = W at a2
  have hWl : W.length ≤ 60 := by rw [← hW, List.length_append, List.length_map, List.length_append]; omega
  have it : fIter (fOp gAdd (fPure (fLcV (fOp gAdd (fVar 1) (fVar 2)) (.nm 5) tYesF (fOp gIxA (fVar 5) (fC (.int 0))))) (fPure (fListOf (fVar 3)))) [some (.p (mD F B D)), some (.p (.tuple (F.map pcD))), some (.p (.tuple (B.map pcD))), some (tw D), none, none] st = .ok (W.map sD) st := by
    unfold fIter
    rw [a2, bind_ok, items_lw]; rfl
  have d := dc_w (st := st) (a := some (.p (mD F B D))) (b := some (.p (.tuple (F.map pcD)))) (c := some (.p (.tuple (B.map pcD)))) (d := some (tw D)) W [] (by rw [List.length_nil]; omega)
  have e : fDc (fIter (fOp gAdd (fPure (fLcV (fOp gAdd (fVar 1) (fVar 2)) (.nm 5) tYesF (fOp gIxA (fVar 5) (fC (.int 0))))) (fPure (fListOf (fVar 3))))) (.nm 4) tYesF (fVar 4) (fC (.bool true)) [some (.p (mD F B D)), some (.p (.tuple (F.map pcD))), some (.p (.tuple (B.map pcD))), some (tw D), none, none] st = .ok (.ref st.length) (st ++ [.dK (kvW (dedup W))]) := by
    unfold fDc
    rw [it, bind_ok, rhoW_one]
    exact d
  have hw : (dedup W).length ≤ 100000 := by
    have := (dedup_nd W).length_le_of_subset (l₂ := W) (fun x hx => (dedup_mem W x).mp hx)
    omega
  have l : fListK (fDc (fIter (fOp gAdd (fPure (fLcV (fOp gAdd (fVar 1) (fVar 2)) (.nm 5) tYesF (fOp gIxA (fVar 5) (fC (.int 0))))) (fPure (fListOf (fVar 3))))) (.nm 4) tYesF (fVar 4) (fC (.bool true))) [some (.p (mD F B D)), some (.p (.tuple (F.map pcD))), some (.p (.tuple (B.map pcD))), some (tw D), none, none] st = .ok ((dedup W).map fun w => Dv.p (.str w)) (st ++ [.dK (kvW (dedup W))]) := by
    unfold fListK
    rw [e, bind_ok]
    have dk : dictOf (.ref st.length) (st ++ [.dK (kvW (dedup W))]) = some (st.length, kvW (dedup W)) := by
      unfold dictOf
      dsimp only
      rw [List.getElem?_append_right (Nat.le_refl _), Nat.sub_self]
      rfl
    rw [dk]
    dsimp only
    rw [if_pos (by rw [List.length_map]; exact hw), List.map_map]
    rfl
  exact runD_pure (N := 6) (args := [.p (mD F B D)]) hF ((seq_to t1).trans (ret_to (pure_ok (g := fun w => PyData.str w) l hw)))
/-! ### side_by_side of a tuple -/
theorem sbsT_ok (es : List Pc) (f s : Cs) (st : So) (hF : Flat st) (h : es.length ≤ 1000) (he : OkL es) : d_side_by_side [.p (.tuple (es.map pcD)), sD (csS f), sD (csS s)] st = .ok (.p (.tuple ((sbs f s es).map pcD))) st := by
  have t1 := asg_to (i := 3) (cell_to (fr := disp fNil) (ρ := [some (.p (.tuple (es.map pcD))), some (sD (csS f)), some (sD (csS s)), none, none, none]) (st := st) (disp_to nil_ok (by decide)) (by decide)) (ρ' := slS (.p (.tuple (es.map pcD))) f s st.length none none) rfl
  obtain ⟨x, y, lp⟩ := loopB_ok (.p (.tuple (es.map pcD))) f s st es [] none none (by rw [List.length_nil]; omega) (fun _ h => by cases h) he
  have t2 := (ev_forV (tg := .tp [.nm 4, .nm 5]) (body := bodyB) (fa := fVar 0) (ρ := slS (.p (.tuple (es.map pcD))) f s st.length none none) (st := st ++ [.lst []]) (var_ok rfl) (items_tmap pcD es _)).trans lp
  have hl : (es.foldl (sbs1 f s) []).length ≤ 100000 := by
    have : ∀ (es acc : List Pc), (es.foldl (sbs1 f s) acc).length ≤ acc.length + es.length := fun es => by
      induction es with
      | nil => exact fun acc => Nat.le_refl _
      | cons e es ih =>
        intro acc
        have a := ih (sbs1 f s acc e)
        have b := sbs1_len f s acc e
        rw [List.length_cons, List.foldl_cons]
        omega
    have := this es []
    rw [List.length_nil] at this
    omega
  have g : gTuple [.ref st.length] (st ++ [.lst ((es.foldl (sbs1 f s) []).map pD)]) = some (.p (.tuple ((sbs f s es).map pcD))) := by
    show (match tupOf (.ref st.length) with | some _ => some (Dv.ref st.length) | none => match lstOf (.ref st.length) (st ++ [Cl.lst ((es.foldl (sbs1 f s) []).map pD)]) with
      | some ys => if small ys then some (mkT ys) else none
      | none => none) = _
    rw [lst_end]
    show (if small ((es.foldl (sbs1 f s) []).map pD) then some (mkT ((es.foldl (sbs1 f s) []).map pD)) else none) = _
    rw [small_map, decide_eq_true hl, if_pos rfl]
    have e : (es.foldl (sbs1 f s) []).map pD = ((sbs f s es).map pcD).map Dv.p := by rw [List.map_map]; rfl
    rw [e, mkT_p]
  exact runD_pure (N := 6) (args := [.p (.tuple (es.map pcD)), sD (csS f), sD (csS s)]) hF ((seq_to t1).trans ((seq_to t2).trans (ret_to (cb_ok (cons_ok (var_ok rfl) nil_ok) g))))
/-! ### is_meaning -/
theorem zip_tail : ∀ {D : List Str}, D.Pairwise (fun a b => a.cps.toList < b.cps.toList) → ∀ p ∈ D.zip (D.drop 1), p.1.cps.toList < p.2.cps.toList
  | [], _, p, hp => by cases hp
  | [a], _, p, hp => by cases hp
  | a :: b :: D, h, p, hp => by
    obtain ⟨h1, h2⟩ := List.pairwise_cons.mp h
    have hp : p ∈ (a, b) :: (b :: D).zip D := hp
    rcases List.mem_cons.mp hp with rfl | hp
    · exact h1 b List.mem_cons_self
    · exact zip_tail (D := b :: D) h2 p hp
theorem ix2 {a b c : PyData} {xs : List PyData} {st : So} : gIxA (.p (.tuple (a :: b :: c :: xs))) (.p (.int 2)) st = some (.p c) := by
  show atI ((a :: b :: c :: xs).map Dv.p) 2 = _
  unfold atI
  have e : ixN ((a :: b :: c :: xs).map Dv.p).length 2 = some 2 := by
    unfold ixN
    rw [List.length_map, List.length_cons, List.length_cons, List.length_cons]
    rw [if_pos (by omega), if_pos (by push_cast; omega)]
    rfl
  rw [e]
  rfl
theorem gAll_true {α : Type} (xs : List α) (st : So) : gAll [.p (.list (xs.map fun _ => PyData.bool true))] st = some (.p (.bool true)) := by
  have := gAll_b (xs.map fun _ => true) st
  rw [mkL_b, List.map_map] at this
  have e : (xs.map fun _ => true).all id = true := List.all_eq_true.mpr fun x hx => by
    obtain ⟨_, _, rfl⟩ := List.mem_map.mp hx
    rfl
  rw [e] at this
  exact this
abbrev slE (F B : List Pc) (D : List Str) : Sl := [some (.p (mD F B D)), some (.p (.tuple (F.map pcD))), some (.p (.tuple (B.map pcD))), some (tw D), none, none, none]
theorem is_meaning_ok {F B : List Pc} {D : List Str} {M : List (Pl × Pc)} (h : MOk F B D M) (st : So) (hF : Flat st) : d_is_meaning [.p (mD F B D)] st = .ok (.p (.bool true)) st := by
  have hl := h.len
  have v0 : fVar 0 [some (.p (mD F B D)), none, none, none, none, none, none] st = .ok (.p (mD F B D)) st := var_ok rfl
  have eF := are_entries_ok (l := F) (fun e he => h.okE e (List.mem_append.mpr (.inl he))) st
  have eB := are_entries_ok (l := B) (fun e he => h.okE e (List.mem_append.mpr (.inr he))) st
  have n1 := not_t (tb_ok (isT_ok (T := "tuple") v0 rfl kit_tt))
  have n2 := tb_ok (op_ok (g := gNe) (fb := fC (.int 3)) (cb_ok (g := gLen) (fr := fCons (fVar 0) fNil) (z := .p (.int 3)) (cons_ok v0 nil_ok) rfl) c_ok (gNe_i 3 3 st))
  have n3 := not_t (tb_ok (call_ok (F := d_are_entries) (fr := fCons (fOp gIxA (fVar 0) (fC (.int 0))) fNil) (cons_ok (op_ok v0 c_ok ix0) nil_ok) eF))
  have n4 := not_t (tb_ok (call_ok (F := d_are_entries) (fr := fCons (fOp gIxA (fVar 0) (fC (.int 1))) fNil) (cons_ok (op_ok v0 c_ok ix1) nil_ok) eB))
  have t1 := if_next (ga := sRet (fC (.bool false))) (or_ff n1 (or_ff n2 (or_ff n3 n4)))
  have t2 := asgT_to (fa := fVar 0) (tg := .tp [.nm 1, .nm 2, .nm 3]) v0 (ρ' := slE F B D) (tg3.trans rfl)
  have w0 : fVar 0 (slE F B D) st = .ok (.p (mD F B D)) st := var_ok rfl
  have w1 : fVar 1 (slE F B D) st = .ok (.p (.tuple (F.map pcD))) st := var_ok rfl
  have w2 : fVar 2 (slE F B D) st = .ok (.p (.tuple (B.map pcD))) st := var_ok rfl
  have w3 : fVar 3 (slE F B D) st = .ok (tw D) st := var_ok rfl
  have m1 := not_t (tb_ok (isT_ok (T := "tuple") w3 (ty_tw D st) kit_tt))
  have l3 := lcV_all (fa := fVar 3) (tg := .nm 4) (fe := fCall d_is_word (fCons (fVar 4) (fNil))) (ρ := slE F B D) (slE F B D) (st := st) (xs := D) (f := sD) (fun w => [some (.p (mD F B D)), some (.p (.tuple (F.map pcD))), some (.p (.tuple (B.map pcD))), some (tw D), some (sD w), none, none]) (fun _ => Dv.p (.bool true)) w3 (items_tw D st) (by omega) (by rw [rhoW_one]; rfl) (fun w _ => by rw [tg_nm]; rfl) (fun w hw => call_ok (cons_ok (var_ok rfl) nil_ok) (is_word_ok w st (h.okD w hw)))
  have m2 := not_t (tb_ok (cb_ok (cons_ok (pure_ok (g := fun _ => PyData.bool true) l3 (by omega)) nil_ok) (gAll_true D st)))
  have t3 := if_next (ga := sRet (fC (.bool false))) (or_ff m1 m2)
  -- words in order
  have sl : fSl (fVar 3) (fPt (fC (.int 1))) fNoP (slE F B D) st = .ok (tw (D.drop 1)) st := by
    have s := slT_from (xs := D.map PyData.str) (k := 1) (st := st)
    rw [← List.map_drop] at s
    show (fVar 3 (slE F B D) st).bind _ = _
    rw [w3, bind_ok]
    show toR st (gSl (.p (.tuple (D.map PyData.str))) (some ((1 : Nat) : Int)) none st) = _
    rw [s]; rfl
  have zp : fSt zipOf (fCons (fVar 3) (fCons (fSl (fVar 3) (fPt (fC (.int 1))) fNoP) (fNil))) (slE F B D) st = .ok ((D.zip (D.drop 1)).map fun p => Dv.tupD [sD p.1, sD p.2]) st := by
    rw [ev_fst, cons_ok w3 (cons_ok sl nil_ok), bind_ok]
    have : zipOf [tw D, tw (D.drop 1)] st = some ((D.zip (D.drop 1)).map fun p => Dv.tupD [sD p.1, sD p.2]) := by
      show (match tupOf (tw D), tupOf (tw (D.drop 1)) with
        | some ys, some zs => some (pairL ys zs)
        | none, none => match seqOf (tw D) st, seqOf (tw (D.drop 1)) st with
          | some ys, some zs => some (pairL ys zs)
          | _, _ => none
        | _, _ => none) = _
      rw [tup_tw, tup_tw]
      show some (pairL (D.map sD) ((D.drop 1).map sD)) = _
      unfold pairL
      rw [List.zip_map, List.map_map]; rfl
    rw [this]; rfl
  have l4 := lc_all (fi := fSt zipOf (fCons (fVar 3) (fCons (fSl (fVar 3) (fPt (fC (.int 1))) fNoP) (fNil)))) (tg := .tp [.nm 5, .nm 6]) (fe := fOp gLtS (fVar 5) (fVar 6)) (ρ := slE F B D) (slE F B D) (st := st) (xs := D.zip (D.drop 1)) (f := fun p => Dv.tupD [sD p.1, sD p.2]) (fun p => [some (.p (mD F B D)), some (.p (.tuple (F.map pcD))), some (.p (.tuple (B.map pcD))), some (tw D), none, some (sD p.1), some (sD p.2)]) (fun _ => Dv.p (.bool true)) zp (by rw [List.length_zip]; omega) (by rw [rhoW_two]; rfl) (fun p _ => by simp) (fun p hp => op_ok (var_ok rfl) (var_ok rfl) (by
    show some (Dv.p (.bool (decide (p.1.cps.toList < p.2.cps.toList)))) = _
    rw [decide_eq_true (zip_tail h.srt p hp)]))
  have t4 := if_next (ga := sRet (fC (.bool false))) (not_t (tb_ok (cb_ok (cons_ok (pure_ok (g := fun _ => PyData.bool true) l4 (by rw [List.length_zip]; omega)) nil_ok) (gAll_true (D.zip (D.drop 1)) st))))
  -- few words, one entry for each case
  have wi := call_ok (F := d_words_in) (fr := fCons (fVar 0) (fNil)) (cons_ok w0 nil_ok) (words_in_ok (F := F) (B := B) (D := D) hl st hF)
  have dl : (dedup ((F ++ B).map (·.1) ++ D)).length ≤ 12 := by
    obtain ⟨ws, h1, h2, h3⟩ := h.few
    have := (dedup_nd ((F ++ B).map (·.1) ++ D)).length_le_of_subset (l₂ := ws) (fun x hx => by
      rcases List.mem_append.mp ((dedup_mem _ x).mp hx) with q | q
      · obtain ⟨e, he, rfl⟩ := List.mem_map.mp q
        exact h2 e he
      · exact h3 x q)
    omega
  have q1 : fTB (fOp gGt (fCB gLen (fCons (fCall d_words_in (fCons (fVar 0) (fNil))) (fNil))) (fC (.int 12))) (slE F B D) st = .ok false st := by
    have g := gt_z (i := ((dedup ((F ++ B).map (·.1) ++ D)).length : Int)) (j := 12) (st := st)
    rw [decide_eq_false (by omega)] at g
    exact tb_ok (op_ok (cb_ok (cons_ok wi nil_ok) (gLen_lw _ st)) c_ok g)
  have q2 := not_t (tb_ok (call_ok (F := d_are_single) (fr := fCons (fVar 1) (fCons (fVar 2) (fCons (fVar 3) (fNil)))) (cons_ok w1 (cons_ok w2 (cons_ok w3 nil_ok))) (are_single_ok h.ex h.sep (by rw [List.length_append]; omega) st)))
  have t5 := if_next (ga := sRet (fC (.bool false))) (or_ff q1 q2)
  -- joined
  have sF := sbsT_ok F .absent .present st hF (by omega) h.okF
  have sB := sbsT_ok B .present .absent st hF (by omega) h.okB
  rw [h.jf] at sF
  rw [h.jb] at sB
  have r1 := tb_ok (op_ok (g := gNe) (call_ok (F := d_side_by_side) (fr := fCons (fVar 1) (fCons (fC (.str "absent")) (fCons (fC (.str "present")) (fNil)))) (cons_ok w1 (cons_ok c_ok (cons_ok c_ok nil_ok))) sF) w1 (gNe_same (pct_shaped h.okF)))
  have r2 := tb_ok (op_ok (g := gNe) (call_ok (F := d_side_by_side) (fr := fCons (fVar 2) (fCons (fC (.str "present")) (fCons (fC (.str "absent")) (fNil)))) (cons_ok w2 (cons_ok c_ok (cons_ok c_ok nil_ok))) sB) w2 (gNe_same (pct_shaped h.okB)))
  have t6 := if_next (ga := sRet (fC (.bool false))) (or_ff r1 r2)
  have md := call_ok (F := d_made) (fr := fCons (fVar 1) (fCons (fVar 2) (fNil))) (cons_ok w1 (cons_ok w2 nil_ok)) (made_ok h.mkk h.okF h.okB (by omega) st hF)
  have t7 := ret_to (op_ok (g := gIsNot) (fb := fC .none) md c_ok (show gIsNot (prD (M.map opQ)) (.p .none) st = some (.p (.bool true)) from rfl))
  exact runD_pure0 (N := 7) (args := [.p (mD F B D)]) ((seq_to t1).trans ((seq_to t2).trans ((seq_to t3).trans ((seq_to t4).trans ((seq_to t5).trans ((seq_to t6).trans t7))))))
theorem check_meaning_ok {F B : List Pc} {D : List Str} {M : List (Pl × Pc)} (h : MOk F B D M) (st : So) (hF : Flat st) : d_check_meaning [.p (mD F B D)] st = .ok (.p .none) st :=
  runD_none0 (N := 1) (args := [.p (mD F B D)]) (if_next (not_t (tb_ok (call_ok (cons_ok (var_ok rfl) nil_ok) (is_meaning_ok h st hF)))))
theorem program_of_ok {F B : List Pc} {D : List Str} {M : List (Pl × Pc)} (h : MOk F B D M) (st : So) (hF : Flat st) : d_program_of [.p (mD F B D)] st = .ok (prD (Qof M D)) st := by
  have hl := h.len
  have ml := mk_len h.mkk
  rw [List.length_reverse] at ml
  have v0 : fVar 0 [some (.p (mD F B D)), none] st = .ok (.p (mD F B D)) st := var_ok rfl
  have md := call_ok (F := d_made) (fr := fCons (fOp gIxA (fVar 0) (fC (.int 0))) (fCons (fOp gIxA (fVar 0) (fC (.int 1))) (fNil))) (cons_ok (op_ok v0 c_ok ix0) (cons_ok (op_ok v0 c_ok ix1) nil_ok)) (made_ok h.mkk h.okF h.okB (by omega) st hF)
  have i2 : fOp gIxA (fVar 0) (fC (.int 2)) [some (.p (mD F B D)), none] st = .ok (tw D) st := op_ok v0 c_ok ix2
  have l := lcV_all (fa := fOp gIxA (fVar 0) (fC (.int 2))) (tg := .nm 1) (fe := fTup (fCons (fC (.str "drop")) (fCons (fVar 1) (fNil)))) (ρ := [some (.p (mD F B D)), none]) [some (.p (mD F B D)), none] (st := st) (xs := D) (f := sD) (fun w => [some (.p (mD F B D)), some (sD w)]) (fun w => Dv.p (opD (.drop, w))) i2 (items_tw D st) (by omega) (by rw [rhoW_one]; rfl) (fun w _ => by rw [tg_nm]; rfl) (fun w _ => tupP (xs := [.str "drop", .str w]) (cons_ok c_ok (cons_ok (var_ok rfl) nil_ok)) (show 2 ≤ 100000 by decide))
  have p := pure_ok (g := fun w : Str => opD (.drop, w)) l (by omega)
  have g := gAdd_l (xs := (M.map opQ).map opD) (ys := D.map fun w => opD (.drop, w)) (st := st) (by rw [List.length_map, List.length_map, List.length_map]; omega)
  have e : (M.map opQ).map opD ++ (D.map fun w => opD (.drop, w)) = (Qof M D).map opD := by
    unfold Qof dropQ
    rw [List.map_append, List.map_map (f := fun w => (Vb.drop, w))]; rfl
  rw [e] at g
  exact runD_pure0 (N := 2) (args := [.p (mD F B D)]) (ret_to (op_ok (g := gAdd) md p g))
theorem shortest_ok {F B : List Pc} {D : List Str} {M : List (Pl × Pc)} (h : MOk F B D M) (st : So) (hF : Flat st) : d_shortest [.p (mD F B D)] st = .ok (prD (Qof M D)) st := by
  have so : d_shortest_of [.p (mD F B D)] st = .ok (prD (Qof M D)) st := runD_pure0 (N := 1) (args := [.p (mD F B D)]) (ret_to (call_ok (cons_ok (var_ok rfl) nil_ok) (program_of_ok h st hF)))
  have t1 := drop_to (call_ok (F := d_check_meaning) (fr := fCons (fVar 0) (fNil)) (ρ := [some (.p (mD F B D))]) (cons_ok (var_ok rfl) nil_ok) (check_meaning_ok h st hF))
  exact runD_pure0 (N := 1) (args := [.p (mD F B D)]) ((seq_to t1).trans (ret_to (call_ok (cons_ok (var_ok rfl) nil_ok) so)))
theorem meaning_fn_ok {P : List Op} (h : Prog P) (st : So) (hF : Flat st) : d_meaning [prD P] st = .ok (.p (meanD P)) st := by
  have t1 := drop_to (call_ok (F := d_check_program) (fr := fCons (fVar 0) (fNil)) (ρ := [some (prD P)]) (cons_ok (var_ok rfl) nil_ok) (check_program_ok h st hF))
  exact runD_pure0 (N := 1) (args := [prD P]) ((seq_to t1).trans (ret_to (call_ok (cons_ok (var_ok rfl) nil_ok) (meaning_ok h st hF))))
theorem meanD_J (P : List Op) : meanD P = mD (JF P) (JB P) (JD P) := rfl
theorem meanD_same {P Q : List Op} (h1 : JF Q = JF P) (h2 : JB Q = JB P) (h3 : JD Q = JD P) : meanD Q = meanD P := by rw [meanD_J, meanD_J, h1, h2, h3]
end FB.K64
set_option Elab.async false
set_option linter.all false
set_option maxRecDepth 100000
set_option maxHeartbeats 4000000
/-! O64j: what is drawn. -/
namespace FB.K64
open PySem PySem.Spec PyProof.Rows L2 RZ FB FB.Th
theorem gAdd_pr {P Q : List Op} {st : So} (h : P.length + Q.length ≤ 1000) : gAdd (prD P) (prD Q) st = some (prD (P ++ Q)) := by
  unfold prD
  rw [List.map_append]
  exact gAdd_l (by rw [List.length_map, List.length_map]; omega)
theorem at_set {s : So} {o : Nat} {n m : Int} (h : s[o]? = some (own n)) : (s.set o (own m))[o]? = some (own m) := List.getElem?_set_self (List.getElem?_eq_some_iff.mp h).1
theorem pt_ok {fk : FE} {ρ : Sl} {S : So} {k : Nat} (h : fk ρ S = .ok (zD (k : Int)) S) : fPt fk ρ S = .ok (some (k : Int)) S := by
  show (fk ρ S).bind asI = _
  rw [h]; rfl
theorem slf_ok {fa fk : FE} {ρ : Sl} {S : So} {xs : List PyData} {k : Nat} (h : fa ρ S = .ok (.p (.list xs)) S) (hk : fk ρ S = .ok (zD (k : Int)) S) : fSl fa (fPt fk) fNoP ρ S = .ok (.p (.list (xs.drop k))) S := by
  show (fa ρ S).bind _ = _
  rw [h, bind_ok]
  show (fPt fk ρ S).bind _ = _
  rw [pt_ok hk, bind_ok]
  show toR S (gSl (.p (.list xs)) (some (k : Int)) none S) = _
  rw [slL_from]; rfl
theorem slt_ok {fa fk : FE} {ρ : Sl} {S : So} {xs : List PyData} {k : Nat} (h : fa ρ S = .ok (.p (.list xs)) S) (hk : fk ρ S = .ok (zD (k : Int)) S) : fSl fa fNoP (fPt fk) ρ S = .ok (.p (.list (xs.take k))) S := by
  show (fa ρ S).bind _ = _
  rw [h, bind_ok]
  show (fPt fk ρ S).bind _ = _
  rw [pt_ok hk, bind_ok]
  show toR S (gSl (.p (.list xs)) none (some (k : Int)) S) = _
  rw [slL_to]; rfl
theorem prf_ok {fa fk : FE} {ρ : Sl} {S : So} {P : List Op} {k : Nat} (h : fa ρ S = .ok (prD P) S) (hk : fk ρ S = .ok (zD (k : Int)) S) : fSl fa (fPt fk) fNoP ρ S = .ok (prD (P.drop k)) S := by
  have := slf_ok (xs := P.map opD) h hk
  rw [← List.map_drop] at this
  exact this
theorem prt_ok {fa fk : FE} {ρ : Sl} {S : So} {P : List Op} {k : Nat} (h : fa ρ S = .ok (prD P) S) (hk : fk ρ S = .ok (zD (k : Int)) S) : fSl fa fNoP (fPt fk) ρ S = .ok (prD (P.take k)) S := by
  have := slt_ok (xs := P.map opD) h hk
  rw [← List.map_take] at this
  exact this
/-! ### _law_words -/
abbrev sS : Str := "s"
abbrev sT : Str := "t"
abbrev SOME8 : List Str := ["a", "ab", "b", "front", "x", "abcdefgh", "lift", "z"]
abbrev W5 (k : Nat) : List Str := (SOME8.drop k ++ SOME8.take k).take 5
structure Wd (ws : List Str) : Prop where
  nd1 : (sS :: (ws ++ [sT])).Nodup
  nd2 : (sT :: (ws ++ [sS])).Nodup
  ok : ∀ w ∈ ws, isWord w = true
  len : ws.length = 5
theorem st_ok : isWord "s" = true ∧ isWord "t" = true := by decide +kernel
theorem w5_ok (k : Nat) (h : k < 8) : Wd (W5 k) := by
  have a : ∀ k : Fin 8, (sS :: (W5 k ++ [sT])).Nodup ∧ (sT :: (W5 k ++ [sS])).Nodup ∧ (∀ w ∈ W5 k, isWord w = true) ∧ (W5 k).length = 5 := by decide +kernel
  obtain ⟨h1, h2, h3, h4⟩ := a ⟨k, h⟩
  exact ⟨h1, h2, h3, h4⟩
theorem words_ok {s : So} {o : Nat} {n : Int} (h : s[o]? = some (own n)) : ∃ n' ws, Wd ws ∧ d__law_words [.ref o, zD 5] s = .ok (lw ws) (s.set o (own n')) := by
  have t1 := asg_to (i := 2) (ρ := [some (.ref o), some (zD 5), none, none]) (disp_ok (st := s) (st1 := s) (ws := SOME8) (cons_ok c_ok (cons_ok c_ok (cons_ok c_ok (cons_ok c_ok (cons_ok c_ok (cons_ok c_ok (cons_ok c_ok (cons_ok c_ok nil_ok)))))))) (show 8 ≤ 100000 by decide)) (ρ' := [some (.ref o), some (zD 5), some (lw SOME8), none]) rfl
  obtain ⟨i, e, hi⟩ := draw (n := n) (k := 8) (by decide)
  have e : n % (8 : Int) = (i : Int) := e
  have tk := take_ok (k := 8) h (by decide) (by decide)
  rw [e] at tk
  generalize hS : s.set o (own (n / 8)) = S at tk
  have t2 := asg_to (i := 3) (call_ok (F := d__law_take) (fr := fCons (fVar 0) (fCons (fC (.int 8)) (fNil))) (ρ := [some (.ref o), some (zD 5), some (lw SOME8), none]) (cons_ok (var_ok rfl) (cons_ok c_ok nil_ok)) tk) (ρ' := [some (.ref o), some (zD 5), some (lw SOME8), some (zD (i : Int))]) rfl
  have v2 : fVar 2 [some (.ref o), some (zD 5), some (lw SOME8), some (zD (i : Int))] S = .ok (.p (.list (SOME8.map PyData.str))) S := var_ok rfl
  have v3 : fVar 3 [some (.ref o), some (zD 5), some (lw SOME8), some (zD (i : Int))] S = .ok (zD (i : Int)) S := var_ok rfl
  have ad := op_ok (g := gAdd) (slf_ok v2 v3) (slt_ok v2 v3) (gAdd_l (by rw [List.length_drop, List.length_take, List.length_map]; show 8 - i + min i 8 ≤ 100000; omega))
  have r := slt_ok (k := 5) ad (show fVar 1 [some (.ref o), some (zD 5), some (lw SOME8), some (zD (i : Int))] S = .ok (zD ((5 : Nat) : Int)) S from var_ok rfl)
  rw [← List.map_drop, ← List.map_take, ← List.map_append, ← List.map_take] at r
  have q := runD_ret (N := 4) (body := m__law_words) (args := [.ref o, zD 5]) (st := s) (d := lw (W5 i)) ((seq_to t1).trans ((seq_to t2).trans (ret_to r)))
  rw [trim_same (by rw [← hS, List.length_set]), ← hS] at q
  exact ⟨_, W5 i, w5_ok i hi, q⟩
/-! ### _law_some -/
abbrev vw (vb : List Vb) : Dv := lw (vb.map vs)
abbrev slS2 (o : Nat) (ws : List Str) (vb : List Vb) (m c : Int) (k : Option Dv) : Sl := [some (.ref o), some (lw ws), some (vw vb), some (zD m), some (zD c), k]
abbrev elS : FE := fTup (fCons (fOp gIxA (fVar 2) (fCall d__law_take (fCons (fVar 0) (fCons (fCB gLen (fCons (fVar 2) (fNil))) (fNil))))) (fCons (fOp gIxA (fVar 1) (fCall d__law_take (fCons (fVar 0) (fCons (fCB gLen (fCons (fVar 1) (fNil))) (fNil))))) (fNil)))
theorem loopS {o : Nat} {ws : List Str} {vb : List Vb} (hw : ws ≠ []) (hw2 : ws.length ≤ 100) (hv : vb ≠ []) (hv2 : vb.length ≤ 100) (m c : Int) : ∀ (xs : List Dv) (s : So) (n : Int) (acc : List Dv), s[o]? = some (own n) →
    ∃ (n' : Int) (P : List Op), cmpL (.nm 5) tYesF elS (slS2 o ws vb m c none) xs acc s = .ok (acc ++ P.map fun p : Op => .p (opD p)) (s.set o (own n')) ∧ P.length = xs.length ∧ ∀ p ∈ P, p.2 ∈ ws ∧ p.1 ∈ vb
  | [], s, n, acc, h => ⟨n, [], by rw [← SS_self h, List.map_nil, List.append_nil]; rfl, rfl, fun _ h => by cases h⟩
  | d :: xs, s, n, acc, h => by
    have hpos : 0 < vb.length := List.length_pos_iff.mpr hv
    have hpos2 : 0 < ws.length := List.length_pos_iff.mpr hw
    obtain ⟨i, e, hi⟩ := draw (n := n) (k := vb.length) hpos
    have tk := take_ok (k := (vb.length : Int)) h (by omega) (by omega)
    rw [e] at tk
    generalize n / (vb.length : Int) = n1 at tk
    have h1 := at_set (m := n1) h
    obtain ⟨j, e2, hj⟩ := draw (n := n1) (k := ws.length) hpos2
    have tk2 := take_ok (k := (ws.length : Int)) h1 (by omega) (by omega)
    rw [e2, List.set_set] at tk2
    generalize n1 / (ws.length : Int) = n2 at tk2
    have h2 := at_set (m := n2) h
    have l1 := gLen_lw (vb.map vs) s
    rw [List.length_map] at l1
    have hi' : i < (vb.map vs).length := by rw [List.length_map]; exact hi
    have x1 := ix_lw (ws := vb.map vs) hi' (st := s.set o (own n1))
    rw [List.getElem_map] at x1
    have a1 : fOp gIxA (fVar 2) (fCall d__law_take (fCons (fVar 0) (fCons (fCB gLen (fCons (fVar 2) (fNil))) (fNil)))) (slS2 o ws vb m c (some d)) s = .ok (sD (vs vb[i])) (s.set o (own n1)) :=
      op_ok (var_ok rfl) (call_ok (fr := fCons (fVar 0) (fCons (fCB gLen (fCons (fVar 2) (fNil))) (fNil))) (cons_ok (var_ok rfl) (cons_ok (cb_ok (cons_ok (var_ok rfl) nil_ok) l1) nil_ok)) tk) x1
    have a2 : fOp gIxA (fVar 1) (fCall d__law_take (fCons (fVar 0) (fCons (fCB gLen (fCons (fVar 1) (fNil))) (fNil)))) (slS2 o ws vb m c (some d)) (s.set o (own n1)) = .ok (sD ws[j]) (s.set o (own n2)) :=
      op_ok (var_ok rfl) (call_ok (fr := fCons (fVar 0) (fCons (fCB gLen (fCons (fVar 1) (fNil))) (fNil))) (cons_ok (var_ok rfl) (cons_ok (cb_ok (cons_ok (var_ok rfl) nil_ok) (gLen_lw ws _)) nil_ok)) tk2) (ix_lw hj)
    have tp : elS (slS2 o ws vb m c (some d)) s = .ok (.p (opD (vb[i], ws[j]))) (s.set o (own n2)) := tupP (xs := [.str (vs vb[i]), .str ws[j]]) (cons_ok a1 (cons_ok a2 nil_ok)) (show 2 ≤ 100000 by decide)
    obtain ⟨n', P, q1, q2, q3⟩ := loopS hw hw2 hv hv2 m c xs (s.set o (own n2)) n2 (acc ++ [.p (opD (vb[i], ws[j]))]) h2
    rw [List.set_set] at q1
    refine ⟨n', (vb[i], ws[j]) :: P, ?_, by rw [List.length_cons, List.length_cons, q2], fun p hp => ?_⟩
    · rw [List.append_assoc] at q1
      unfold cmpL
      rw [tg_nm]
      dsimp only
      show (elS (slS2 o ws vb m c (some d)) s).bindN _ = _
      rw [tp, bindN_ok]
      exact q1
    · rcases List.mem_cons.mp hp with rfl | hp
      · exact ⟨List.getElem_mem hj, List.getElem_mem hi⟩
      · exact q3 p hp
theorem some_ok {s : So} {o : Nat} {n : Int} {ws : List Str} {vb : List Vb} (hw : ws ≠ []) (hw2 : ws.length ≤ 100) (hv : vb ≠ []) (hv2 : vb.length ≤ 100) (m : Nat) (hm : m ≤ 60) (h : s[o]? = some (own n)) :
    ∃ n' P, (∀ p ∈ P, p.2 ∈ ws ∧ p.1 ∈ vb) ∧ P.length ≤ m ∧ d__law_some [.ref o, lw ws, vw vb, zD (m : Int)] s = .ok (prD P) (s.set o (own n')) := by
  obtain ⟨i, e, hi⟩ := draw (n := n) (k := m + 1) (by omega)
  have e : n % ((m : Int) + 1) = (i : Int) := by rw [← e]; push_cast; rfl
  have tk := take_ok (k := (m : Int) + 1) h (by omega) (by omega)
  rw [e] at tk
  generalize n / ((m : Int) + 1) = n1 at tk
  have h1 := at_set (m := n1) h
  have t1 := asg_to (i := 4) (call_ok (F := d__law_take) (fr := fCons (fVar 0) (fCons (fOp gAdd (fVar 3) (fC (.int 1))) (fNil))) (ρ := [some (.ref o), some (lw ws), some (vw vb), some (zD (m : Int)), none, none]) (cons_ok (var_ok rfl) (cons_ok (op_ok (var_ok rfl) c_ok add_z) nil_ok)) tk) (ρ' := slS2 o ws vb m i none) rfl
  have rg := rngN (fa := fVar 4) (ρ := slS2 o ws vb m i none) (st := s.set o (own n1)) (z := (i : Int)) (var_ok rfl) (by omega) (by omega)
  rw [Int.toNat_natCast] at rg
  obtain ⟨n', P, q1, q2, q3⟩ := loopS (o := o) hw hw2 hv hv2 m i ((List.range i).map fun k => iD k) (s.set o (own n1)) n1 [] h1
  rw [List.set_set, List.nil_append] at q1
  rw [List.length_map, List.length_range] at q2
  have lc : fLc (fRng rng1 (fCons (fVar 4) (fNil))) (.nm 5) (tYesF) elS (slS2 o ws vb m i none) (s.set o (own n1)) = .ok (P.map fun p : Op => .p (opD p)) (s.set o (own n')) := by
    unfold fLc
    rw [rg, bind_ok, List.length_map, List.length_range, if_pos (by omega), rhoW_one]
    exact q1
  have r := runD_ret (N := 6) (body := m__law_some) (args := [.ref o, lw ws, vw vb, zD (m : Int)]) (st := s) ((seq_to t1).trans (ret_to (pure_ok (g := opD) lc (by omega))))
  rw [trim_same (by rw [List.length_set])] at r
  exact ⟨n', P, q3, by omega, r⟩
/-! ### _law_verbs -/
structure Two (vb : List Vb) : Prop where
  fr : Vb.addfront ∉ vb ∨ Vb.lift ∉ vb
  bk : Vb.addback ∉ vb ∨ Vb.sink ∉ vb
  ne : vb ≠ []
  len : vb.length ≤ 100
abbrev V5 (i j : Nat) : List Vb := [.front, .back, .drop, if i = 0 then .lift else .addfront, if j = 0 then .sink else .addback]
theorem v5_two (i j : Nat) : Two (V5 i j) := by
  refine ⟨?_, ?_, by simp, show 5 ≤ 100 by decide⟩
  · by_cases h : i = 0
    · exact .inl (by simp [h]; split <;> decide)
    · exact .inr (by simp [h]; split <;> decide)
  · by_cases h : j = 0
    · exact .inl (by simp [h]; split <;> decide)
    · exact .inr (by simp [h]; split <;> decide)
theorem pick2 {a b : Str} {o : Nat} {ρ : Sl} {s : So} {n : Int} (h : s[o]? = some (own n)) (h0 : ρ[0]? = some (some (.ref o))) : ∃ n' i, i < 2 ∧ fOp gIxA (fPure (disp (fCons (fC (.str a)) (fCons (fC (.str b)) (fNil))))) (fCall d__law_take (fCons (fVar 0) (fCons (fC (.int 2)) (fNil)))) ρ s = .ok (sD (if i = 0 then a else b)) (s.set o (own n')) := by
  obtain ⟨i, e, hi⟩ := draw (n := n) (k := 2) (by decide)
  have e : n % (2 : Int) = (i : Int) := e
  have tk := take_ok (k := 2) h (by decide) (by decide)
  rw [e] at tk
  have hi' : i < ([a, b] : List Str).length := hi
  have x := ix_lw (ws := [a, b]) hi' (st := s.set o (own (n / 2)))
  have e3 : ([a, b] : List Str)[i] = if i = 0 then a else b := by
    match i, hi with
    | 0, _ => rfl
    | 1, _ => rfl
  rw [e3] at x
  exact ⟨_, i, hi, op_ok (disp_ok (ws := [a, b]) (cons_ok c_ok (cons_ok c_ok nil_ok)) (show 2 ≤ 100000 by decide)) (call_ok (cons_ok (var_ok h0) (cons_ok c_ok nil_ok)) tk) x⟩
theorem verbs_ok {s : So} {o : Nat} {n : Int} (h : s[o]? = some (own n)) : ∃ n' vb, Two vb ∧ d__law_verbs [.ref o] s = .ok (vw vb) (s.set o (own n')) := by
  have t1 := asg_to (i := 1) (ρ := [some (.ref o), none]) (disp_ok (st := s) (st1 := s) (ws := ["front", "back", "drop"]) (cons_ok c_ok (cons_ok c_ok (cons_ok c_ok nil_ok))) (show 3 ≤ 100000 by decide)) (ρ' := [some (.ref o), some (lw ["front", "back", "drop"])]) rfl
  obtain ⟨n1, i, hi, e1⟩ := pick2 (a := "lift") (b := "addfront") (ρ := [some (.ref o), some (lw ["front", "back", "drop"])]) h rfl
  obtain ⟨n2, j, hj, e2⟩ := pick2 (a := "sink") (b := "addback") (ρ := [some (.ref o), some (lw ["front", "back", "drop"])]) (at_set (m := n1) h) rfl
  rw [List.set_set] at e2
  have d := disp_ok (ws := [if i = 0 then "lift" else "addfront", if j = 0 then "sink" else "addback"]) (cons_ok e1 (cons_ok e2 nil_ok)) (show 2 ≤ 100000 by decide)
  have r := ret_to (op_ok (g := gAdd) (fa := fVar 1) (ρ := [some (.ref o), some (lw ["front", "back", "drop"])]) (var_ok rfl) d (gAdd_lw (a := ["front", "back", "drop"]) (b := [if i = 0 then "lift" else "addfront", if j = 0 then "sink" else "addback"]) (show 3 + 2 ≤ 100000 by decide)))
  have q := runD_ret (N := 2) (body := m__law_verbs) (args := [.ref o]) (st := s) ((seq_to t1).trans r)
  rw [trim_same (by rw [List.length_set])] at q
  refine ⟨n2, V5 i j, v5_two i j, ?_⟩
  have e : (V5 i j).map vs = (["front", "back", "drop"] : List Str) ++ ([if i = 0 then ("lift" : Str) else "addfront", if j = 0 then ("sink" : Str) else "addback"] : List Str) := by
    show [vs .front, vs .back, vs .drop, vs (if i = 0 then .lift else .addfront), vs (if j = 0 then .sink else .addback)] = _
    rw [apply_ite vs, apply_ite vs]; rfl
  unfold vw
  rw [e]
  exact q
/-! ### programs over given words -/
structure Ov (ws : List Str) (m : Nat) (P : List Op) : Prop where
  mem : ∀ p ∈ P, p.2 ∈ ws
  len : P.length ≤ m
theorem Ov.sub {ws : List Str} {m : Nat} {P : List Op} (h : Ov ws m P) : ∀ w ∈ wordsOf P, w ∈ ws := fun w hw => by
  obtain ⟨o, ho, e⟩ := (words_mem P w).mp hw
  rw [← e]; exact h.mem o ho
theorem Ov.prog {ws : List Str} {m : Nat} {P : List Op} (h : Ov ws m P) (hw : Wd ws) (hm : m ≤ 60) : Prog P := by
  refine ⟨fun o ho => hw.ok _ (h.mem o ho), Nat.le_trans h.len hm, ?_⟩
  have := (words_nd P).length_le_of_subset (l₂ := ws) (fun x hx => h.sub x hx)
  have := hw.len
  omega
/-! ### _law_near -/
/-- a program near another one -/
structure Nr (ws : List Str) (vb : List Vb) (P Q : List Op) : Prop where
  mem : ∀ p ∈ Q, p.2 ∈ ws
  len : Q.length ≤ P.length + 2
  how : (∀ p ∈ Q, p.1 ∈ vb) ∨ (JF Q = JF P ∧ JB Q = JB P ∧ JD Q = JD P)
abbrev slN (o : Nat) (P : List Op) (ws : List Str) (vb : List Vb) (a w : Option Dv) : Sl := [some (.ref o), some (prD P), some (lw ws), some (vw vb), a, w]
theorem near_ok {s : So} {o : Nat} {n : Int} {ws : List Str} {vb : List Vb} {P : List Op} (hw : Wd ws) (hv : vb ≠ []) (hv2 : vb.length ≤ 100) (hP : ∀ p ∈ P, p.2 ∈ ws ∧ p.1 ∈ vb) (lP : P.length ≤ 12) (h : s[o]? = some (own n)) (hF : Flat s) :
    ∃ n' Q, Nr ws vb P Q ∧ d__law_near [.ref o, prD P, lw ws, vw vb] s = .ok (prD Q) (s.set o (own n')) := by
  have wl := hw.len
  have wne : ws ≠ [] := fun z => by rw [z] at wl; cases wl
  obtain ⟨a, e, ha⟩ := draw (n := n) (k := P.length + 1) (by omega)
  have e : n % ((P.length : Int) + 1) = (a : Int) := by rw [← e]; push_cast; rfl
  have tk := take_ok (k := (P.length : Int) + 1) h (by omega) (by omega)
  rw [e] at tk
  generalize n / ((P.length : Int) + 1) = n1 at tk
  have h1 := at_set (m := n1) h
  obtain ⟨w, e2, hw4⟩ := draw (n := n1) (k := 4) (by decide)
  have e2 : n1 % (4 : Int) = (w : Int) := e2
  have tk2 := take_ok (k := 4) h1 (by decide) (by decide)
  rw [e2, List.set_set] at tk2
  generalize n1 / 4 = n2 at tk2
  have h2 := at_set (m := n2) h
  have hF2 : Flat (s.set o (own n2)) := hF.set (flat_lst [.int n2])
  have sl : ∀ m, (s.set o (own m)).length = s.length := fun m => List.length_set
  have t1 := asg_to (i := 4) (call_ok (F := d__law_take) (fr := fCons (fVar 0) (fCons (fOp gAdd (fCB gLen (fCons (fVar 1) (fNil))) (fC (.int 1))) (fNil))) (ρ := slN o P ws vb none none) (cons_ok (var_ok rfl) (cons_ok (op_ok (cb_ok (cons_ok (var_ok rfl) nil_ok) (gLen_pr P s)) c_ok add_z) nil_ok)) tk) (ρ' := slN o P ws vb (some (zD (a : Int))) none) rfl
  have t2 := asg_to (i := 5) (call_ok (F := d__law_take) (fr := fCons (fVar 0) (fCons (fC (.int 4)) (fNil))) (ρ := slN o P ws vb (some (zD (a : Int))) none) (cons_ok (var_ok rfl) (cons_ok c_ok nil_ok)) tk2) (ρ' := slN o P ws vb (some (zD (a : Int))) (some (zD (w : Int)))) rfl
  have cnd : ∀ j : Int, fTB (fOp gEq (fVar 5) (fC (.int j))) (slN o P ws vb (some (zD (a : Int))) (some (zD (w : Int)))) (s.set o (own n2)) = .ok (decide ((w : Int) = j)) (s.set o (own n2)) := fun j => tb_ok (op_ok (var_ok rfl) c_ok (gEq_i w j _))
  have v1 : fVar 1 (slN o P ws vb (some (zD (a : Int))) (some (zD (w : Int)))) (s.set o (own n2)) = .ok (prD P) (s.set o (own n2)) := var_ok rfl
  have v4 : fVar 4 (slN o P ws vb (some (zD (a : Int))) (some (zD (w : Int)))) (s.set o (own n2)) = .ok (zD (a : Int)) (s.set o (own n2)) := var_ok rfl
  have mt : ∀ p ∈ P.take a, p ∈ P := fun p hp => List.mem_of_mem_take hp
  have md : ∀ k, ∀ p ∈ P.drop k, p ∈ P := fun k p hp => List.mem_of_mem_drop hp
  have wh : w = 0 ∨ w = 1 ∨ w = 2 ∨ w = 3 := by omega
  have fin : ∀ {S : So} {Q : List Op}, m__law_near (slN o P ws vb none none) s = .ret (prD Q) S → S.length = s.length → d__law_near [.ref o, prD P, lw ws, vw vb] s = .ok (prD Q) S := fun {S Q} hm hl => by
    have q := runD_ret (N := 6) (body := m__law_near) (args := [.ref o, prD P, lw ws, vw vb]) (st := s) hm
    rw [trim_same hl] at q
    exact q
  have c0 := cnd 0
  by_cases w0 : w = 0
  · subst w0
    rw [decide_eq_true (show ((0 : Nat) : Int) = 0 from rfl)] at c0
    have k1 : fOp gAdd (fVar 4) (fC (.int 1)) (slN o P ws vb (some (zD (a : Int))) (some (zD ((0 : Nat) : Int)))) (s.set o (own n2)) = .ok (zD ((a + 1 : Nat) : Int)) (s.set o (own n2)) := op_ok v4 c_ok (add_z.trans (by push_cast; rfl))
    have r := op_ok (g := gAdd) (prt_ok v1 v4) (prf_ok v1 k1) (gAdd_pr (by rw [List.length_take, List.length_drop]; omega))
    refine ⟨n2, P.take a ++ P.drop (a + 1), ⟨fun p hp => ?_, ?_, .inl fun p hp => ?_⟩, fin ((seq_to t1).trans ((seq_to t2).trans (seq_ret ((if_true_to c0).trans (ret_to r))))) (sl n2)⟩
    · exact (hP p ((List.mem_append.mp hp).elim (mt p) (md _ p))).1
    · rw [List.length_append, List.length_take, List.length_drop]; omega
    · exact (hP p ((List.mem_append.mp hp).elim (mt p) (md _ p))).2
  rw [decide_eq_false (show ¬ (w : Int) = 0 by omega)] at c0
  have c1 := cnd 1
  by_cases w1 : w = 1
  · subst w1
    rw [decide_eq_true (show ((1 : Nat) : Int) = 1 from rfl)] at c1
    have rv : fUn gRev (fSl (fVar 1) (fPt (fVar 4)) (fNoP)) (slN o P ws vb (some (zD (a : Int))) (some (zD ((1 : Nat) : Int)))) (s.set o (own n2)) = .ok (prD (P.drop a).reverse) (s.set o (own n2)) := by
      have := un_ok (g1 := gRev) (prf_ok v1 v4) (rev_l (xs := (P.drop a).map opD))
      rw [← List.map_reverse] at this
      exact this
    have r := op_ok (g := gAdd) (prt_ok v1 v4) rv (gAdd_pr (by rw [List.length_take, List.length_reverse, List.length_drop]; omega))
    refine ⟨n2, P.take a ++ (P.drop a).reverse, ⟨fun p hp => ?_, ?_, .inl fun p hp => ?_⟩, fin ((seq_to t1).trans ((seq_to t2).trans ((seq_to (if_next c0)).trans (seq_ret ((if_true_to c1).trans (ret_to r)))))) (sl n2)⟩
    · exact (hP p ((List.mem_append.mp hp).elim (mt p) fun z => md _ p (List.mem_reverse.mp z))).1
    · rw [List.length_append, List.length_take, List.length_reverse, List.length_drop]; omega
    · exact (hP p ((List.mem_append.mp hp).elim (mt p) fun z => md _ p (List.mem_reverse.mp z))).2
  rw [decide_eq_false (show ¬ (w : Int) = 1 by omega)] at c1
  have c2 := cnd 2
  by_cases w2 : w = 2
  · subst w2
    rw [decide_eq_true (show ((2 : Nat) : Int) = 2 from rfl)] at c2
    obtain ⟨n3, X, hX, lX, eX⟩ := some_ok wne (by omega) hv hv2 2 (by decide) h2
    rw [List.set_set] at eX
    have sm := call_ok (F := d__law_some) (fr := fCons (fVar 0) (fCons (fVar 2) (fCons (fVar 3) (fCons (fC (.int 2)) (fNil))))) (ρ := slN o P ws vb (some (zD (a : Int))) (some (zD ((2 : Nat) : Int)))) (cons_ok (var_ok rfl) (cons_ok (var_ok rfl) (cons_ok (var_ok rfl) (cons_ok c_ok nil_ok)))) eX
    have v1' : fVar 1 (slN o P ws vb (some (zD (a : Int))) (some (zD ((2 : Nat) : Int)))) (s.set o (own n3)) = .ok (prD P) (s.set o (own n3)) := var_ok rfl
    have v4' : fVar 4 (slN o P ws vb (some (zD (a : Int))) (some (zD ((2 : Nat) : Int)))) (s.set o (own n3)) = .ok (zD (a : Int)) (s.set o (own n3)) := var_ok rfl
    have r := op_ok (g := gAdd) (op_ok (g := gAdd) (prt_ok v1 v4) sm (gAdd_pr (by rw [List.length_take]; omega))) (prf_ok v1' v4') (gAdd_pr (by rw [List.length_append, List.length_take, List.length_drop]; omega))
    refine ⟨n3, P.take a ++ X ++ P.drop a, ⟨fun p hp => ?_, ?_, .inl fun p hp => ?_⟩, fin ((seq_to t1).trans ((seq_to t2).trans ((seq_to (if_next c0)).trans ((seq_to (if_next c1)).trans (seq_ret ((if_true_to c2).trans (ret_to r))))))) (sl n3)⟩
    · rcases List.mem_append.mp hp with hp | hp
      · rcases List.mem_append.mp hp with hp | hp
        · exact (hP p (mt p hp)).1
        · exact (hX p hp).1
      · exact (hP p (md _ p hp)).1
    · rw [List.length_append, List.length_append, List.length_take, List.length_drop]; omega
    · rcases List.mem_append.mp hp with hp | hp
      · rcases List.mem_append.mp hp with hp | hp
        · exact (hP p (mt p hp)).2
        · exact (hX p hp).2
      · exact (hP p (md _ p hp)).2
  rw [decide_eq_false (show ¬ (w : Int) = 2 by omega)] at c2
  have gP : Prog P := Ov.prog (m := 12) ⟨fun p hp => (hP p hp).1, lP⟩ hw (by decide)
  obtain ⟨M, sh⟩ := sh_of gP
  have so := shortest_ok sh.mok (s.set o (own n2)) hF2
  rw [← meanD_J] at so
  have r := call_ok (F := d_shortest) (fr := fCons (fCall d_meaning (fCons (fVar 1) (fNil))) (fNil)) (cons_ok (call_ok (F := d_meaning) (fr := fCons (fVar 1) (fNil)) (cons_ok v1 nil_ok) (meaning_fn_ok gP _ hF2)) nil_ok) so
  have ql := sh.len
  refine ⟨n2, Qof M (JD P), ⟨fun p hp => ?_, by omega, .inr ⟨sh.jf, sh.jb, sh.jd⟩⟩, fin ((seq_to t1).trans ((seq_to t2).trans ((seq_to (if_next c0)).trans ((seq_to (if_next c1)).trans ((seq_to (if_next c2)).trans (ret_to r)))))) (sl n2)⟩
  obtain ⟨o', ho', e'⟩ := (words_mem P p.2).mp (sh.sub p hp)
  rw [← e']; exact (hP o' ho').1
end FB.K64
set_option Elab.async false
set_option linter.all false
set_option maxRecDepth 100000
set_option maxHeartbeats 4000000
/-! O64k: what is asked; the law. -/
namespace FB.K64
open PySem PySem.Spec PyProof.Rows L2 RZ FB FB.Th
/-! ### agreeing -/
theorem eqv_pcs : ∀ l l' : List Pc, PyData.eqvAll (l.map pcD) (l'.map pcD) = decide (l = l')
  | [], [] => rfl
  | [], b :: l' => rfl
  | a :: l, [] => rfl
  | a :: l, b :: l' => by
    show (PyData.eqv (pcD a) (pcD b) && PyData.eqvAll (l.map pcD) (l'.map pcD)) = _
    rw [eqv_pcs l l', pc_eqv, Bool.eq_iff_iff, Bool.and_eq_true, decide_eq_true_eq, decide_eq_true_eq, decide_eq_true_eq, List.cons.injEq]
theorem eqv_strs : ∀ l l' : List Str, PyData.eqvAll (l.map PyData.str) (l'.map PyData.str) = decide (l = l')
  | [], [] => rfl
  | [], b :: l' => rfl
  | a :: l, [] => rfl
  | a :: l, b :: l' => by
    show ((a == b) && PyData.eqvAll (l.map PyData.str) (l'.map PyData.str)) = _
    rw [eqv_strs l l', Bool.eq_iff_iff, Bool.and_eq_true, beq_iff_eq, decide_eq_true_eq, decide_eq_true_eq, List.cons.injEq]
theorem eqv_J (P Q : List Op) : PyData.eqv (meanD P) (meanD Q) = decide (JF P = JF Q ∧ JB P = JB Q ∧ JD P = JD Q) := by
  show (PyData.eqvAll ((JF P).map pcD) ((JF Q).map pcD) && (PyData.eqvAll ((JB P).map pcD) ((JB Q).map pcD) && (PyData.eqvAll ((JD P).map PyData.str) ((JD Q).map PyData.str) && true))) = _
  rw [eqv_pcs, eqv_pcs, eqv_strs, Bool.and_true, Bool.eq_iff_iff, Bool.and_eq_true, Bool.and_eq_true, decide_eq_true_eq, decide_eq_true_eq, decide_eq_true_eq, decide_eq_true_eq]
/-- programs that two rows tell -/
structure Cl1 (ws : List Str) (P : List Op) : Prop where
  ov : Ov ws 14 P
  f : One (JF P)
  b : One (JB P)
structure Cl0 (ws : List Str) (P : List Op) : Prop where
  ov : Ov ws 14 P
  f : ∀ e ∈ JF P, e.2 = .always
  b : ∀ e ∈ JB P, e.2 = .always
theorem tell {ws w2 : List Str} {P Q : List Op} {x y : Str} (hP : Cl1 ws P) (hQ : Cl1 ws Q) (hs : ∀ w, w ∈ w2 ↔ w ∈ ws) (hn : (x :: (w2 ++ [y])).Nodup) : (decide (runL P (x :: (w2 ++ [y])) = runL Q (x :: (w2 ++ [y]))) && decide (runL P [x, y] = runL Q [x, y])) = PyData.eqv (meanD P) (meanD Q) := by
  rw [eqv_J, Bool.eq_iff_iff, Bool.and_eq_true, decide_eq_true_eq, decide_eq_true_eq, decide_eq_true_eq]
  have hb : [x, y].Nodup := by
    obtain ⟨n1, n2⟩ := List.nodup_cons.mp hn
    rw [List.nodup_cons]
    exact ⟨fun z => n1 (List.mem_append.mpr (.inr z)), by simp⟩
  constructor
  · rintro ⟨e1, e2⟩
    exact two_rows hn (fun w h => (hs w).mpr (hP.ov.sub w h)) (fun w h => (hs w).mpr (hQ.ov.sub w h)) hP.f hP.b hQ.f hQ.b e1 e2
  · rintro ⟨h1, h2, h3⟩
    exact ⟨run_mean h1 h2 h3 hn, run_mean h1 h2 h3 hb⟩
theorem tell0 {ws : List Str} {P Q : List Op} {x y : Str} (hP : Cl0 ws P) (hQ : Cl0 ws Q) (hn : (x :: (ws ++ [y])).Nodup) : decide (runL P (x :: (ws ++ [y])) = runL Q (x :: (ws ++ [y]))) = PyData.eqv (meanD P) (meanD Q) := by
  rw [eqv_J, Bool.eq_iff_iff, decide_eq_true_eq, decide_eq_true_eq]
  constructor
  · exact fun e1 => one_row hn hP.ov.sub hQ.ov.sub hP.f hP.b hQ.f hQ.b e1
  · rintro ⟨h1, h2, h3⟩
    exact run_mean h1 h2 h3 hn
/-! ### rows of the words between two strangers -/
theorem row_of {ws w2 : List Str} {x y : Str} (hw : ∀ w ∈ ws, isWord w = true) (hl : ws.length = 5) (hs : ∀ w, w ∈ w2 ↔ w ∈ ws) (hx : isWord x = true) (hy : isWord y = true) (hn : (x :: (w2 ++ [y])).Nodup) : Row (x :: (w2 ++ [y])) := by
  refine ⟨fun w hm => ?_, hn, ?_⟩
  · rcases List.mem_cons.mp hm with rfl | hm
    · exact hx
    · rcases List.mem_append.mp hm with hm | hm
      · exact hw w ((hs w).mp hm)
      · rw [List.mem_singleton.mp hm]; exact hy
  · have := hn.length_le_of_subset (l₂ := x :: (ws ++ [y])) (fun z hz => by
      rcases List.mem_cons.mp hz with rfl | hz
      · exact List.mem_cons_self
      · rcases List.mem_append.mp hz with hz | hz
        · exact List.mem_cons_of_mem _ (List.mem_append.mpr (.inl ((hs z).mp hz)))
        · exact List.mem_cons_of_mem _ (List.mem_append.mpr (.inr hz)))
    rw [List.length_cons (as := ws ++ [y]), List.length_append, hl, List.length_singleton] at this
    omega
theorem row_run {ws : List Str} {P : List Op} {r : List Str} (hr : Row r) (hw : ∀ w ∈ ws, isWord w = true) (hP : ∀ p ∈ P, p.2 ∈ ws) : SOkL (runL P r) := fun w hm => by
  rcases run_sub hr.2.1 P w hm with q | ⟨o, ho, e⟩
  · exact word_ok (hr.1 w q)
  · rw [← e]; exact word_ok (hw _ (hP o ho))
theorem and_b {fa fb : FE} {ρ : Sl} {st : So} {a b : Bool} (h1 : fa ρ st = .ok (.p (.bool a)) st) (h2 : fb ρ st = .ok (.p (.bool b)) st) : fAnd fa fb ρ st = .ok (.p (.bool (a && b))) st := by
  rw [ev_and, tb_ok h1, bind_ok]
  cases a
  · rfl
  · rw [if_pos rfl, h2]; rfl
theorem gNe_bb (a b : Bool) (st : So) : gNe (.p (.bool a)) (.p (.bool b)) st = some (.p (.bool (!decide (a = b)))) := rfl
theorem gEq_bb (a b : Bool) (st : So) : gEq (.p (.bool a)) (.p (.bool b)) st = some (.p (.bool (decide (a = b)))) := rfl
/-- two runs compared -/
theorem runs_eq {ws : List Str} {P Q : List Op} {r : List Str} {f1 f2 fr : FE} {ρ : Sl} {st : So} (hw : Wd ws) (hP : Ov ws 14 P) (hQ : Ov ws 14 Q) (hr : Row r) (hF : Flat st) (e1 : f1 ρ st = .ok (prD P) st) (e2 : f2 ρ st = .ok (prD Q) st) (e3 : fr ρ st = .ok (tw r) st) :
    fOp gEq (fCall d_run (fCons f1 (fCons fr fNil))) (fCall d_run (fCons f2 (fCons fr fNil))) ρ st = .ok (.p (.bool (decide (runL P r = runL Q r)))) st :=
  op_ok (call_ok (cons_ok e1 (cons_ok e3 nil_ok)) (run_ok (hP.prog hw (by decide)) hr st hF)) (call_ok (cons_ok e2 (cons_ok e3 nil_ok)) (run_ok (hQ.prog hw (by decide)) hr st hF)) (gEq_tw _ _ st (row_run hr hw.ok hP.mem) (row_run hr hw.ok hQ.mem))
theorem runs_ne {ws : List Str} {P Q : List Op} {r : List Str} {f1 f2 fr : FE} {ρ : Sl} {st : So} (hw : ∀ w ∈ ws, isWord w = true) (gP : Prog P) (gQ : Prog Q) (hP : ∀ p ∈ P, p.2 ∈ ws) (hQ : ∀ p ∈ Q, p.2 ∈ ws) (hr : Row r) (hF : Flat st) (e1 : f1 ρ st = .ok (prD P) st) (e2 : f2 ρ st = .ok (prD Q) st) (e3 : fr ρ st = .ok (tw r) st) :
    fOp gNe (fCall d_run (fCons f1 (fCons fr fNil))) (fCall d_run (fCons f2 (fCons fr fNil))) ρ st = .ok (.p (.bool (!decide (runL P r = runL Q r)))) st :=
  op_ok (call_ok (cons_ok e1 (cons_ok e3 nil_ok)) (run_ok gP hr st hF)) (call_ok (cons_ok e2 (cons_ok e3 nil_ok)) (run_ok gQ hr st hF)) (gNe_tw _ _ st (row_run hr hw hP) (row_run hr hw hQ))
theorem tup2 {fa fb : FE} {ρ : Sl} {st : So} {a b : Str} (h1 : fa ρ st = .ok (sD a) st) (h2 : fb ρ st = .ok (sD b) st) : fTup (fCons fa (fCons fb fNil)) ρ st = .ok (tw [a, b]) st := tupP (xs := [.str a, .str b]) (cons_ok h1 (cons_ok h2 nil_ok)) (show 2 ≤ 100000 by decide)
theorem full_ok {fa fb fc : FE} {ρ : Sl} {st : So} {a b : Str} {ws : List Str} (h1 : fa ρ st = .ok (sD a) st) (h2 : fb ρ st = .ok (sD b) st) (h3 : fc ρ st = .ok (lw ws) st) (hl : ws.length = 5) : fOp gAdd (fOp gAdd (fTup (fCons fa fNil)) (fCB gTuple (fCons fc fNil))) (fTup (fCons fb fNil)) ρ st = .ok (tw (a :: (ws ++ [b]))) st :=
  op_ok (op_ok (tup1 h1) (cb_ok (cons_ok h3 nil_ok) (gTuple_lw ws st (by omega))) (gAdd_tw (a := [a]) (b := ws) (by rw [hl]; show 1 + 5 ≤ 100000; decide))) (tup1 h2) (gAdd_tw (a := [a] ++ ws) (b := [b]) (by rw [List.length_append, hl]; show 1 + 5 + 1 ≤ 100000; decide))
/-! ### _law_good -/
abbrev slG (P Q : List Op) (ws : List Str) (f b x y a : Option Dv) : Sl := [some (prD P), some (prD Q), some (lw ws), f, b, x, y, a]
abbrev bodyG : FS := sSeq (sAsg (fOp gAdd (fOp gAdd (fTup (fCons (fVar 5) (fNil))) (fCB gTuple (fCons (fVar 2) (fNil)))) (fTup (fCons (fVar 6) (fNil)))) (.nm 3)) (sSeq (sAsg (fAnd (fOp gEq (fCall d_run (fCons (fVar 0) (fCons (fVar 3) (fNil)))) (fCall d_run (fCons (fVar 1) (fCons (fVar 3) (fNil))))) (fOp gEq (fCall d_run (fCons (fVar 0) (fCons (fTup (fCons (fVar 5) (fCons (fVar 6) (fNil)))) (fNil)))) (fCall d_run (fCons (fVar 1) (fCons (fTup (fCons (fVar 5) (fCons (fVar 6) (fNil)))) (fNil)))))) (.nm 7)) (sIf (fTB (fOp gNe (fCall d_agree (fCons (fVar 0) (fCons (fVar 1) (fNil)))) (fVar 7))) (sRet (fC (.bool false))) (sNext)))
theorem bodyG_ok {ws : List Str} {P Q : List Op} (hw : Wd ws) (hP : Cl1 ws P) (hQ : Cl1 ws Q) (st : So) (hF : Flat st) {x y : Str} (hx : isWord x = true) (hy : isWord y = true) (hn : (x :: (ws ++ [y])).Nodup) (f b a : Option Dv) :
    ∃ a', bodyG (slG P Q ws f b (some (sD x)) (some (sD y)) a) st = .nx (slG P Q ws (some (tw (x :: (ws ++ [y])))) b (some (sD x)) (some (sD y)) a') st := by
  have t1 := asg_to (i := 3) (full_ok (fa := fVar 5) (fb := fVar 6) (fc := fVar 2) (ρ := slG P Q ws f b (some (sD x)) (some (sD y)) a) (st := st) (var_ok rfl) (var_ok rfl) (var_ok rfl) hw.len) (ρ' := slG P Q ws (some (tw (x :: (ws ++ [y])))) b (some (sD x)) (some (sD y)) a) rfl
  have r1 := row_of (w2 := ws) hw.ok hw.len (fun _ => Iff.rfl) hx hy hn
  have r2 : Row [x, y] := by
    refine ⟨fun w h => ?_, ?_, show 2 ≤ 20 by decide⟩
    · rcases List.mem_cons.mp h with rfl | h
      · exact hx
      · rw [List.mem_singleton.mp h]; exact hy
    · obtain ⟨n1, n2⟩ := List.nodup_cons.mp hn
      rw [List.nodup_cons]
      exact ⟨fun z => n1 (List.mem_append.mpr (.inr z)), by simp⟩
  have q1 := runs_eq (f1 := fVar 0) (f2 := fVar 1) (fr := fVar 3) (ρ := slG P Q ws (some (tw (x :: (ws ++ [y])))) b (some (sD x)) (some (sD y)) a) hw hP.ov hQ.ov r1 hF (var_ok rfl) (var_ok rfl) (var_ok rfl)
  have q2 := runs_eq (f1 := fVar 0) (f2 := fVar 1) (fr := fTup (fCons (fVar 5) (fCons (fVar 6) (fNil)))) (ρ := slG P Q ws (some (tw (x :: (ws ++ [y])))) b (some (sD x)) (some (sD y)) a) hw hP.ov hQ.ov r2 hF (var_ok rfl) (var_ok rfl) (tup2 (var_ok rfl) (var_ok rfl))
  have q := and_b q1 q2
  rw [tell hP hQ (fun _ => Iff.rfl) hn] at q
  have t2 := asg_to (i := 7) q (ρ' := slG P Q ws (some (tw (x :: (ws ++ [y])))) b (some (sD x)) (some (sD y)) (some (.p (.bool (PyData.eqv (meanD P) (meanD Q)))))) rfl
  have ag := agree_ok (hP.ov.prog hw (by decide)) (hQ.ov.prog hw (by decide)) st hF
  have g := gNe_bb (PyData.eqv (meanD P) (meanD Q)) (PyData.eqv (meanD P) (meanD Q)) st
  rw [decide_eq_true rfl, Bool.not_true] at g
  have t3 := if_next (ga := sRet (fC (.bool false))) (tb_ok (op_ok (g := gNe) (fb := fVar 7) (call_ok (F := d_agree) (fr := fCons (fVar 0) (fCons (fVar 1) (fNil))) (ρ := slG P Q ws (some (tw (x :: (ws ++ [y])))) b (some (sD x)) (some (sD y)) (some (.p (.bool (PyData.eqv (meanD P) (meanD Q)))))) (cons_ok (var_ok rfl) (cons_ok (var_ok rfl) nil_ok)) ag) (var_ok rfl) g))
  exact ⟨_, (seq_to t1).trans ((seq_to t2).trans t3)⟩
theorem good_ok {ws : List Str} {P Q : List Op} (hw : Wd ws) (hP : Cl1 ws P) (hQ : Cl1 ws Q) (st : So) (hF : Flat st) : d__law_good [prD P, prD Q, lw ws] st = .ok (.p (.bool true)) st := by
  obtain ⟨ss, tt⟩ := st_ok
  have fl := full_ok (fa := fC (.str "s")) (fb := fC (.str "t")) (fc := fVar 2) (ρ := slG P Q ws none none none none none) (st := st) (a := "s") (b := "t") c_ok c_ok (var_ok rfl) hw.len
  have br : fTup (fCons (fC (.str "s")) (fCons (fC (.str "t")) fNil)) (slG P Q ws none none none none none) st = .ok (tw ["s", "t"]) st := tup2 c_ok c_ok
  have t1 := par_to (i := 3) (j := 4) (cons_ok fl (cons_ok br nil_ok)) (ρ' := slG P Q ws (some (tw (sS :: (ws ++ [sT])))) (some (tw ["s", "t"])) none none none) rfl
  obtain ⟨a1, b1⟩ := bodyG_ok hw hP hQ st hF ss tt hw.nd1 (some (tw (sS :: (ws ++ [sT])))) (some (tw ["s", "t"])) none
  obtain ⟨a2, b2⟩ := bodyG_ok hw hP hQ st hF tt ss hw.nd2 (some (tw (sS :: (ws ++ [sT])))) (some (tw ["s", "t"])) a1
  have pr : fPure (disp (fCons (fTup (fCons (fC (.str "s")) (fCons (fC (.str "t")) (fNil)))) (fCons (fTup (fCons (fC (.str "t")) (fCons (fC (.str "s")) (fNil)))) (fNil)))) (slG P Q ws (some (tw (sS :: (ws ++ [sT])))) (some (tw ["s", "t"])) none none none) st = .ok (.p (.list [.tuple [.str "s", .str "t"], .tuple [.str "t", .str "s"]])) st := dispP (xs := [.tuple [.str "s", .str "t"], .tuple [.str "t", .str "s"]]) (cons_ok (tup2 c_ok c_ok) (cons_ok (tup2 c_ok c_ok) nil_ok)) (show 2 ≤ 100000 by decide)
  have lp : sForL (.tp [.nm 5, .nm 6]) bodyG [.p (.tuple [.str "s", .str "t"]), .p (.tuple [.str "t", .str "s"])] (slG P Q ws (some (tw (sS :: (ws ++ [sT])))) (some (tw ["s", "t"])) none none none) st = .nx (slG P Q ws (some (tw (sT :: (ws ++ [sS])))) (some (tw ["s", "t"])) (some (sD "t")) (some (sD "s")) a2) st :=
    (forL_next (ρ1 := slG P Q ws (some (tw (sS :: (ws ++ [sT])))) (some (tw ["s", "t"])) (some (sD "s")) (some (sD "t")) none) (tg2.trans rfl) b1).trans ((forL_next (ρ1 := slG P Q ws (some (tw (sS :: (ws ++ [sT])))) (some (tw ["s", "t"])) (some (sD "t")) (some (sD "s")) a1) (tg2.trans rfl) b2).trans rfl)
  have t2 := (ev_forV (tg := .tp [.nm 5, .nm 6]) (body := bodyG) pr (items_l _ st)).trans lp
  have nd : (sS :: (ws.reverse ++ [sT])).Nodup := by
    have := hw.nd2
    have e : sS :: (ws.reverse ++ [sT]) = (sT :: (ws ++ [sS])).reverse := by
      rw [List.reverse_cons, List.reverse_append]; rfl
    rw [e]
    exact (List.reverse_perm _).nodup_iff.mpr this
  have rv : fUn gRev (fVar 3) (slG P Q ws (some (tw (sT :: (ws ++ [sS])))) (some (tw ["s", "t"])) (some (sD "t")) (some (sD "s")) a2) st = .ok (tw (sS :: (ws.reverse ++ [sT]))) st := un_ok (var_ok rfl) (by
    show some (mkT (((sT :: (ws ++ [sS])).map PyData.str).map Dv.p).reverse) = _
    rw [← List.map_reverse, mkT_p, ← List.map_reverse, List.reverse_cons, List.reverse_append]; rfl)
  have rr := row_of (w2 := ws.reverse) hw.ok hw.len (fun w => List.mem_reverse) ss tt nd
  have rb : Row ["s", "t"] := ⟨fun w h => by
    rcases List.mem_cons.mp h with rfl | h
    · exact ss
    · rw [List.mem_singleton.mp h]; exact tt, by decide +kernel, show 2 ≤ 20 by decide⟩
  have q1 := runs_eq (f1 := fVar 0) (f2 := fVar 1) (fr := fUn gRev (fVar 3)) (ρ := slG P Q ws (some (tw (sT :: (ws ++ [sS])))) (some (tw ["s", "t"])) (some (sD "t")) (some (sD "s")) a2) hw hP.ov hQ.ov rr hF (var_ok rfl) (var_ok rfl) rv
  have q2 := runs_eq (f1 := fVar 0) (f2 := fVar 1) (fr := fVar 4) (ρ := slG P Q ws (some (tw (sT :: (ws ++ [sS])))) (some (tw ["s", "t"])) (some (sD "t")) (some (sD "s")) a2) hw hP.ov hQ.ov rb hF (var_ok rfl) (var_ok rfl) (var_ok rfl)
  have q := and_b q1 q2
  rw [tell hP hQ (fun w => List.mem_reverse) nd] at q
  have ag := agree_ok (hP.ov.prog hw (by decide)) (hQ.ov.prog hw (by decide)) st hF
  have g := gEq_bb (PyData.eqv (meanD P) (meanD Q)) (PyData.eqv (meanD P) (meanD Q)) st
  rw [decide_eq_true rfl] at g
  have t3 := ret_to (op_ok (g := gEq) (call_ok (F := d_agree) (fr := fCons (fVar 0) (fCons (fVar 1) (fNil))) (ρ := slG P Q ws (some (tw (sT :: (ws ++ [sS])))) (some (tw ["s", "t"])) (some (sD "t")) (some (sD "s")) a2) (cons_ok (var_ok rfl) (cons_ok (var_ok rfl) nil_ok)) ag) q g)
  exact runD_pure0 (N := 8) (args := [prD P, prD Q, lw ws]) ((seq_to t1).trans ((seq_to t2).trans t3))
theorem plain_good_ok {ws : List Str} {P Q : List Op} (hw : Wd ws) (hP : Cl0 ws P) (hQ : Cl0 ws Q) (st : So) (hF : Flat st) : d__law_plain_good [prD P, prD Q, lw ws] st = .ok (.p (.bool true)) st := by
  obtain ⟨ss, tt⟩ := st_ok
  have fl := full_ok (fa := fC (.str "s")) (fb := fC (.str "t")) (fc := fVar 2) (ρ := [some (prD P), some (prD Q), some (lw ws), none]) (st := st) (a := "s") (b := "t") c_ok c_ok (var_ok rfl) hw.len
  have t1 := asg_to (i := 3) fl (ρ' := [some (prD P), some (prD Q), some (lw ws), some (tw (sS :: (ws ++ [sT])))]) rfl
  have r1 := row_of (w2 := ws) hw.ok hw.len (fun _ => Iff.rfl) ss tt hw.nd1
  have q := runs_eq (f1 := fVar 0) (f2 := fVar 1) (fr := fVar 3) (ρ := [some (prD P), some (prD Q), some (lw ws), some (tw (sS :: (ws ++ [sT])))]) hw hP.ov hQ.ov r1 hF (var_ok rfl) (var_ok rfl) (var_ok rfl)
  rw [tell0 hP hQ hw.nd1] at q
  have ag := agree_ok (hP.ov.prog hw (by decide)) (hQ.ov.prog hw (by decide)) st hF
  have g := gEq_bb (PyData.eqv (meanD P) (meanD Q)) (PyData.eqv (meanD P) (meanD Q)) st
  rw [decide_eq_true rfl] at g
  have t3 := ret_to (op_ok (g := gEq) (call_ok (F := d_agree) (fr := fCons (fVar 0) (fCons (fVar 1) (fNil))) (ρ := [some (prD P), some (prD Q), some (lw ws), some (tw (sS :: (ws ++ [sT])))]) (cons_ok (var_ok rfl) (cons_ok (var_ok rfl) nil_ok)) ag) q g)
  exact runD_pure0 (N := 4) (args := [prD P, prD Q, lw ws]) ((seq_to t1).trans t3)
/-! ### classes -/
theorem cl1_of {ws : List Str} {vb : List Vb} {P : List Op} (h : Two vb) (hP : ∀ p ∈ P, p.2 ∈ ws ∧ p.1 ∈ vb) (hl : P.length ≤ 14) : Cl1 ws P := by
  refine ⟨⟨fun p hp => (hP p hp).1, hl⟩, one_JF ?_, one_JB ?_⟩
  · rcases h.fr with q | q
    · exact .inl fun o ho z => q (z ▸ (hP o ho).2)
    · exact .inr fun o ho z => q (z ▸ (hP o ho).2)
  · rcases h.bk with q | q
    · exact .inl fun o ho z => q (z ▸ (hP o ho).2)
    · exact .inr fun o ho z => q (z ▸ (hP o ho).2)
theorem cl1_near {ws : List Str} {vb : List Vb} {P Q : List Op} (h : Two vb) (hP : Cl1 ws P) (lP : P.length ≤ 12) (hQ : Nr ws vb P Q) : Cl1 ws Q := by
  have l := hQ.len
  rcases hQ.how with q | ⟨q1, q2, q3⟩
  · exact cl1_of h (fun p hp => ⟨hQ.mem p hp, q p hp⟩) (by omega)
  · exact ⟨⟨hQ.mem, by omega⟩, by rw [q1]; exact hP.f, by rw [q2]; exact hP.b⟩
abbrev V3 : List Vb := [.front, .back, .drop]
theorem v3_mem {v : Vb} (h : v ∈ V3) : v = .front ∨ v = .back ∨ v = .drop := by
  rcases List.mem_cons.mp h with h | h
  · exact .inl h
  · rcases List.mem_cons.mp h with h | h
    · exact .inr (.inl h)
    · exact .inr (.inr (List.mem_singleton.mp h))
theorem cl0_of {ws : List Str} {P : List Op} (hP : ∀ p ∈ P, p.2 ∈ ws ∧ p.1 ∈ V3) (hl : P.length ≤ 14) : Cl0 ws P := by
  obtain ⟨h1, h2⟩ := all_JF (P := P) fun o ho => v3_mem (hP o ho).2
  exact ⟨⟨fun p hp => (hP p hp).1, hl⟩, h1, h2⟩
theorem cl0_near {ws : List Str} {P Q : List Op} (hP : Cl0 ws P) (lP : P.length ≤ 12) (hQ : Nr ws V3 P Q) : Cl0 ws Q := by
  have l := hQ.len
  rcases hQ.how with q | ⟨q1, q2, q3⟩
  · exact cl0_of (fun p hp => ⟨hQ.mem p hp, q p hp⟩) (by omega)
  · exact ⟨⟨hQ.mem, by omega⟩, by rw [q1]; exact hP.f, by rw [q2]; exact hP.b⟩
/-! ### law -/
-- script turn row own words k one two twins plain verbs others j
abbrev slW (ns : List Int) (t r o w k p q tw pl v u j : Option Dv) : Sl := [some (.frz ns), t, r, o, w, k, p, q, tw, pl, v, u, j]
abbrev elN : FE := fCall d__law_near (fCons (fVar 3) (fCons (fVar 6) (fCons (fVar 4) (fCons (fVar 10) (fNil)))))
abbrev bodyJ : FS := sIf (fTNot (fTB (fCall d__law_good (fCons (fVar 6) (fCons (fVar 7) (fCons (fVar 4) (fNil))))))) (sRet (fC (.bool false))) (sNext)
abbrev bodyK : FS := sSeq (sAsg (fTup (fCons (fCall d__law_verbs (fCons (fVar 3) (fNil))) (fCons (fCall d__law_verbs (fCons (fVar 3) (fNil))) (fNil)))) (.tp [.nm 10, .nm 11])) (sSeq (sAsg (fCall d__law_some (fCons (fVar 3) (fCons (fVar 4) (fCons (fVar 10) (fCons (fC (.int 12)) (fNil)))))) (.nm 6)) (sSeq (sAsg (fPure (fLc (fRng rng1 (fCons (fC (.int 2)) (fNil))) (.nm 12) (tYesF) elN)) (.nm 8)) (sSeq (sForV (fOp gAdd (fVar 8) (fPure (disp (fCons (fCall d__law_some (fCons (fVar 3) (fCons (fVar 4) (fCons (fVar 11) (fCons (fC (.int 6)) (fNil)))))) (fNil))))) (.nm 7) bodyJ) (sSeq (sAsg (fCall d__law_some (fCons (fVar 3) (fCons (fVar 4) (fCons (fPure (disp (fCons (fC (.str "front")) (fCons (fC (.str "back")) (fCons (fC (.str "drop")) (fNil)))))) (fCons (fC (.int 10)) (fNil)))))) (.nm 9)) (sIf (fTNot (fTB (fCall d__law_plain_good (fCons (fVar 9) (fCons (fCall d__law_near (fCons (fVar 3) (fCons (fVar 9) (fCons (fVar 4) (fCons (fPure (disp (fCons (fC (.str "front")) (fCons (fC (.str "back")) (fCons (fC (.str "drop")) (fNil)))))) (fNil)))))) (fCons (fVar 4) (fNil))))))) (sRet (fC (.bool false))) (sNext))))))
theorem loopJ {ns : List Int} {ws : List Str} {P : List Op} (hw : Wd ws) (hP : Cl1 ws P) (S : So) (hF : Flat S) (t r o k tws pl v u j : Option Dv) : ∀ (Qs : List (List Op)) (q : Option Dv), (∀ Q ∈ Qs, Cl1 ws Q) →
    ∃ q', sForL (.nm 7) bodyJ (Qs.map fun Q => prD Q) (slW ns t r o (some (lw ws)) k (some (prD P)) q tws pl v u j) S = .nx (slW ns t r o (some (lw ws)) k (some (prD P)) q' tws pl v u j) S
  | [], q, _ => ⟨q, rfl⟩
  | Q :: Qs, q, h => by
    have c := call_ok (F := d__law_good) (fr := fCons (fVar 6) (fCons (fVar 7) (fCons (fVar 4) (fNil)))) (ρ := slW ns t r o (some (lw ws)) k (some (prD P)) (some (prD Q)) tws pl v u j) (cons_ok (var_ok rfl) (cons_ok (var_ok rfl) (cons_ok (var_ok rfl) nil_ok))) (good_ok hw hP (h Q List.mem_cons_self) S hF)
    obtain ⟨q', ih⟩ := loopJ (ns := ns) hw hP S hF t r o k tws pl v u j Qs (some (prD Q)) fun X hX => h X (List.mem_cons_of_mem _ hX)
    exact ⟨q', (forL_next (ρ1 := slW ns t r o (some (lw ws)) k (some (prD P)) (some (prD Q)) tws pl v u j) (tg_nm.trans rfl) (if_next (not_t (tb_ok c)))).trans ih⟩
theorem bodyK_ok (ns : List Int) {s : So} {o : Nat} {n : Int} {ws : List Str} (hw : Wd ws) (h : s[o]? = some (own n)) (hF : Flat s) (t r k p q tws pl v u j : Option Dv) :
    ∃ n' p' q' tws' pl' v' u' j', bodyK (slW ns t r (some (.ref o)) (some (lw ws)) k p q tws pl v u j) s = .nx (slW ns t r (some (.ref o)) (some (lw ws)) k p' q' tws' pl' v' u' j') (s.set o (own n')) := by
  have at' : ∀ m : Int, (s.set o (own m))[o]? = some (own m) := fun m => at_set h
  have fl : ∀ m : Int, Flat (s.set o (own m)) := fun m => hF.set (flat_lst [.int m])
  have wl := hw.len
  have wne : ws ≠ [] := fun z => by rw [z] at wl; cases wl
  obtain ⟨n1, va, ha, e1⟩ := verbs_ok h
  obtain ⟨n2, vo, hvo, e2⟩ := verbs_ok (at' n1)
  rw [List.set_set] at e2
  have tp := tupP (xs := [.list ((va.map vs).map PyData.str), .list ((vo.map vs).map PyData.str)]) (ρ := slW ns t r (some (.ref o)) (some (lw ws)) k p q tws pl v u j) (cons_ok (call_ok (F := d__law_verbs) (fr := fCons (fVar 3) (fNil)) (cons_ok (var_ok rfl) nil_ok) e1) (cons_ok (call_ok (F := d__law_verbs) (fr := fCons (fVar 3) (fNil)) (cons_ok (var_ok rfl) nil_ok) e2) nil_ok)) (show 2 ≤ 100000 by decide)
  have t1 := asgT_to (tg := .tp [.nm 10, .nm 11]) tp (ρ' := slW ns t r (some (.ref o)) (some (lw ws)) k p q tws pl (some (vw va)) (some (vw vo)) j) (tg2.trans rfl)
  obtain ⟨n3, P, hP, lP, e3⟩ := some_ok wne (by omega) ha.ne ha.len 12 (by decide) (at' n2)
  rw [List.set_set] at e3
  have t2 := asg_to (i := 6) (call_ok (F := d__law_some) (fr := fCons (fVar 3) (fCons (fVar 4) (fCons (fVar 10) (fCons (fC (.int 12)) (fNil))))) (ρ := slW ns t r (some (.ref o)) (some (lw ws)) k p q tws pl (some (vw va)) (some (vw vo)) j) (cons_ok (var_ok rfl) (cons_ok (var_ok rfl) (cons_ok (var_ok rfl) (cons_ok c_ok nil_ok)))) e3) (ρ' := slW ns t r (some (.ref o)) (some (lw ws)) k (some (prD P)) q tws pl (some (vw va)) (some (vw vo)) j) rfl
  have cP := cl1_of ha hP (by omega)
  obtain ⟨n4, Q1, r1, e4⟩ := near_ok hw ha.ne ha.len hP lP (at' n3) (fl n3)
  rw [List.set_set] at e4
  obtain ⟨n5, Q2, r2, e5⟩ := near_ok hw ha.ne ha.len hP lP (at' n4) (fl n4)
  rw [List.set_set] at e5
  have rg := rngN (fa := fC (.int 2)) (ρ := slW ns t r (some (.ref o)) (some (lw ws)) k (some (prD P)) q tws pl (some (vw va)) (some (vw vo)) j) (st := s.set o (own n3)) (z := 2) c_ok (by decide) (by decide)
  have en : ∀ (i : Nat) {m m' : Int} {Q : List Op}, d__law_near [.ref o, prD P, lw ws, vw va] (s.set o (own m)) = .ok (prD Q) (s.set o (own m')) → elN (slW ns t r (some (.ref o)) (some (lw ws)) k (some (prD P)) q tws pl (some (vw va)) (some (vw vo)) (some (iD i))) (s.set o (own m)) = .ok (prD Q) (s.set o (own m')) := fun i {m m' Q} e => call_ok (cons_ok (var_ok rfl) (cons_ok (var_ok rfl) (cons_ok (var_ok rfl) (cons_ok (var_ok rfl) nil_ok)))) e
  have lc : fLc (fRng rng1 (fCons (fC (.int 2)) (fNil))) (.nm 12) (tYesF) elN (slW ns t r (some (.ref o)) (some (lw ws)) k (some (prD P)) q tws pl (some (vw va)) (some (vw vo)) j) (s.set o (own n3)) = .ok ([Q1, Q2].map fun Q => Dv.p (.list (Q.map opD))) (s.set o (own n5)) := by
    unfold fLc
    rw [rg, bind_ok, List.length_map, List.length_range, if_pos (by decide), rhoW_one]
    show cmpL (.nm 12) tYesF elN (slW ns t r (some (.ref o)) (some (lw ws)) k (some (prD P)) q tws pl (some (vw va)) (some (vw vo)) none) [iD 0, iD 1] [] (s.set o (own n3)) = _
    unfold cmpL
    rw [tg_nm]
    dsimp only
    show (elN (slW ns t r (some (.ref o)) (some (lw ws)) k (some (prD P)) q tws pl (some (vw va)) (some (vw vo)) (some (iD 0))) (s.set o (own n3))).bindN _ = _
    rw [en 0 e4, bindN_ok]
    unfold cmpL
    rw [tg_nm]
    dsimp only
    show (elN (slW ns t r (some (.ref o)) (some (lw ws)) k (some (prD P)) q tws pl (some (vw va)) (some (vw vo)) (some (iD 1))) (s.set o (own n4))).bindN _ = _
    rw [en 1 e5, bindN_ok]
    rfl
  have t3 := asg_to (i := 8) (pure_ok (g := fun Q : List Op => PyData.list (Q.map opD)) lc (show 2 ≤ 100000 by decide)) (ρ' := slW ns t r (some (.ref o)) (some (lw ws)) k (some (prD P)) q (some (.p (.list [.list (Q1.map opD), .list (Q2.map opD)]))) pl (some (vw va)) (some (vw vo)) j) rfl
  obtain ⟨n6, Q3, hQ3, lQ3, e6⟩ := some_ok wne (by omega) hvo.ne hvo.len 6 (by decide) (at' n5)
  rw [List.set_set] at e6
  have d3 := dispP (xs := [.list (Q3.map opD)]) (cons_ok (call_ok (F := d__law_some) (fr := fCons (fVar 3) (fCons (fVar 4) (fCons (fVar 11) (fCons (fC (.int 6)) (fNil))))) (ρ := slW ns t r (some (.ref o)) (some (lw ws)) k (some (prD P)) q (some (.p (.list [.list (Q1.map opD), .list (Q2.map opD)]))) pl (some (vw va)) (some (vw vo)) j) (cons_ok (var_ok rfl) (cons_ok (var_ok rfl) (cons_ok (var_ok rfl) (cons_ok c_ok nil_ok)))) e6) nil_ok) (show 1 ≤ 100000 by decide)
  have ad := op_ok (g := gAdd) (fa := fVar 8) (var_ok rfl) d3 (gAdd_l (xs := [.list (Q1.map opD), .list (Q2.map opD)]) (ys := [.list (Q3.map opD)]) (show 2 + 1 ≤ 100000 by decide))
  obtain ⟨q', la⟩ := loopJ (ns := ns) hw cP (s.set o (own n6)) (fl n6) t r (some (.ref o)) k (some (.p (.list [.list (Q1.map opD), .list (Q2.map opD)]))) pl (some (vw va)) (some (vw vo)) j [Q1, Q2, Q3] q (fun Q hQ => by
    rcases List.mem_cons.mp hQ with rfl | hQ
    · exact cl1_near ha cP lP r1
    · rcases List.mem_cons.mp hQ with rfl | hQ
      · exact cl1_near ha cP lP r2
      · rw [List.mem_singleton.mp hQ]; exact cl1_of hvo hQ3 (by omega))
  have t4 := (ev_forV (tg := .nm 7) (body := bodyJ) ad (items_l [.list (Q1.map opD), .list (Q2.map opD), .list (Q3.map opD)] _)).trans la
  have fbd : ∀ (ρ : Sl) (S : So), fPure (disp (fCons (fC (.str "front")) (fCons (fC (.str "back")) (fCons (fC (.str "drop")) (fNil))))) ρ S = .ok (vw V3) S := fun ρ S => disp_ok (ws := ["front", "back", "drop"]) (cons_ok c_ok (cons_ok c_ok (cons_ok c_ok nil_ok))) (show 3 ≤ 100000 by decide)
  obtain ⟨n7, A, hA, lA, e7⟩ := some_ok (vb := V3) wne (by omega) (by simp) (by decide) 10 (by decide) (at' n6)
  rw [List.set_set] at e7
  have t5 := asg_to (i := 9) (call_ok (F := d__law_some) (fr := fCons (fVar 3) (fCons (fVar 4) (fCons (fPure (disp (fCons (fC (.str "front")) (fCons (fC (.str "back")) (fCons (fC (.str "drop")) (fNil)))))) (fCons (fC (.int 10)) (fNil))))) (ρ := slW ns t r (some (.ref o)) (some (lw ws)) k (some (prD P)) q' (some (.p (.list [.list (Q1.map opD), .list (Q2.map opD)]))) pl (some (vw va)) (some (vw vo)) j) (cons_ok (var_ok rfl) (cons_ok (var_ok rfl) (cons_ok (fbd _ _) (cons_ok c_ok nil_ok)))) e7) (ρ' := slW ns t r (some (.ref o)) (some (lw ws)) k (some (prD P)) q' (some (.p (.list [.list (Q1.map opD), .list (Q2.map opD)]))) (some (prD A)) (some (vw va)) (some (vw vo)) j) rfl
  obtain ⟨n8, Q4, r4, e8⟩ := near_ok hw (vb := V3) (by simp) (by decide) hA (by omega) (at' n7) (fl n7)
  rw [List.set_set] at e8
  have cA := cl0_of hA (by omega)
  generalize hρ : slW ns t r (some (.ref o)) (some (lw ws)) k (some (prD P)) q' (some (.p (.list [.list (Q1.map opD), .list (Q2.map opD)]))) (some (prD A)) (some (vw va)) (some (vw vo)) j = ρ at t5
  have v3 : ∀ S, fVar 3 ρ S = .ok (.ref o) S := fun S => var_ok (by rw [← hρ]; rfl)
  have v4 : ∀ S, fVar 4 ρ S = .ok (lw ws) S := fun S => var_ok (by rw [← hρ]; rfl)
  have v9 : ∀ S, fVar 9 ρ S = .ok (prD A) S := fun S => var_ok (by rw [← hρ]; rfl)
  have nr := call_ok (F := d__law_near) (fr := fCons (fVar 3) (fCons (fVar 9) (fCons (fVar 4) (fCons (fPure (disp (fCons (fC (.str "front")) (fCons (fC (.str "back")) (fCons (fC (.str "drop")) (fNil)))))) (fNil))))) (cons_ok (v3 _) (cons_ok (v9 _) (cons_ok (v4 _) (cons_ok (fbd _ _) nil_ok)))) e8
  have c := call_ok (F := d__law_plain_good) (cons_ok (v9 _) (cons_ok nr (cons_ok (v4 _) nil_ok))) (plain_good_ok hw cA (cl0_near cA (by omega) r4) _ (fl n8))
  have t6 := if_next (ga := sRet (fC (.bool false))) (not_t (tb_ok c))
  subst hρ
  exact ⟨n8, _, _, _, _, _, _, _, (seq_to t1).trans ((seq_to t2).trans ((seq_to t3).trans ((seq_to t4).trans ((seq_to t5).trans t6))))⟩
theorem loopK (ns : List Int) {o : Nat} {ws : List Str} (hw : Wd ws) (t r : Option Dv) : ∀ (xs : List Dv) (s : So) (n : Int) (k p q tws pl v u j : Option Dv), s[o]? = some (own n) → Flat s →
    ∃ n' k' p' q' tws' pl' v' u' j', sForL (.nm 5) bodyK xs (slW ns t r (some (.ref o)) (some (lw ws)) k p q tws pl v u j) s = .nx (slW ns t r (some (.ref o)) (some (lw ws)) k' p' q' tws' pl' v' u' j') (s.set o (own n'))
  | [], s, n, k, p, q, tws, pl, v, u, j, h, hF => ⟨n, k, p, q, tws, pl, v, u, j, by rw [← SS_self h]; rfl⟩
  | d :: xs, s, n, k, p, q, tws, pl, v, u, j, h, hF => by
    obtain ⟨n1, p1, q1, tws1, pl1, v1, u1, j1, tt⟩ := bodyK_ok ns hw h hF t r (some d) p q tws pl v u j
    obtain ⟨n', k', p', q', tws', pl', v', u', j', ih⟩ := loopK ns hw t r xs (s.set o (own n1)) n1 (some d) p1 q1 tws1 pl1 v1 u1 j1 (at_set h) (hF.set (flat_lst [.int n1]))
    rw [List.set_set] at ih
    exact ⟨n', k', p', q', tws', pl', v', u', j', (forL_next (ρ1 := slW ns t r (some (.ref o)) (some (lw ws)) (some d) p q tws pl v u j) (tg_nm.trans rfl) tt).trans ih⟩
abbrev bodyT : FS := sSeq (sAsg (fCell (disp (fCons (fCall d__law_cell (fCons (fVar 0) (fCons (fVar 1) (fNil)))) (fNil)))) (.nm 3)) (sSeq (sAsg (fCall d__law_words (fCons (fVar 3) (fCons (fC (.int 5)) (fNil)))) (.nm 4)) (sFor (fRng rng1 (fCons (fC (.int 2)) (fNil))) (.nm 5) bodyK))
theorem loopT (ns : List Int) (r : Option Dv) : ∀ (ks : List Nat) (t o w k p q tws pl v u j : Option Dv) (s : So), Flat s → (∀ k ∈ ks, k < 1000) → ∃ t' o' w' k' p' q' tws' pl' v' u' j' s', sForL (.nm 1) bodyT (ks.map fun k => iD k) (slW ns t r o w k p q tws pl v u j) s = .nx (slW ns t' r o' w' k' p' q' tws' pl' v' u' j') s' ∧ Flat s'
  | [], t, o, w, k, p, q, tws, pl, v, u, j, s, hF, h => ⟨t, o, w, k, p, q, tws, pl, v, u, j, s, rfl, hF⟩
  | i :: ks, t, o, w, k, p, q, tws, pl, v, u, j, s, hF, h => by
    obtain ⟨z, hv⟩ := cell_ok ns i s (h i List.mem_cons_self)
    have c1 : fCons (fCall d__law_cell (fCons (fVar 0) (fCons (fVar 1) (fNil)))) (fNil) (slW ns (some (iD i)) r o w k p q tws pl v u j) s = .ok [zD z] s := cons_ok (call_ok (cons_ok (var_ok rfl) (cons_ok (var_ok rfl) nil_ok)) hv) nil_ok
    have c3 : fCell (disp (fCons (fCall d__law_cell (fCons (fVar 0) (fCons (fVar 1) (fNil)))) (fNil))) (slW ns (some (iD i)) r o w k p q tws pl v u j) s = .ok (.ref s.length) (s ++ [own z]) := cell_to (disp_to c1 (show 1 ≤ 100000 by decide)) (show 1 ≤ 100000 by decide)
    have hF2 : Flat (s ++ [own z]) := hF.app (Flat.one (flat_lst [.int z]))
    have hat : (s ++ [own z])[s.length]? = some (own z) := by
      rw [List.getElem?_append_right (Nat.le_refl _), Nat.sub_self]; rfl
    have t1 := asg_to (i := 3) c3 (ρ' := slW ns (some (iD i)) r (some (.ref s.length)) w k p q tws pl v u j) rfl
    obtain ⟨n0, ws, hw, e0⟩ := words_ok hat
    have t2 := asg_to (i := 4) (call_ok (F := d__law_words) (fr := fCons (fVar 3) (fCons (fC (.int 5)) (fNil))) (ρ := slW ns (some (iD i)) r (some (.ref s.length)) w k p q tws pl v u j) (cons_ok (var_ok rfl) (cons_ok c_ok nil_ok)) e0) (ρ' := slW ns (some (iD i)) r (some (.ref s.length)) (some (lw ws)) k p q tws pl v u j) rfl
    have hF3 : Flat ((s ++ [own z]).set s.length (own n0)) := hF2.set (flat_lst [.int n0])
    obtain ⟨n1, k1, p1, q1, tws1, pl1, v1, u1, j1, lp⟩ := loopK ns hw (some (iD i)) r ((List.range 2).map fun k => iD k) ((s ++ [own z]).set s.length (own n0)) n0 k p q tws pl v u j (at_set hat) hF3
    rw [List.set_set] at lp
    have rg := rngN (fa := fC (.int 2)) (ρ := slW ns (some (iD i)) r (some (.ref s.length)) (some (lw ws)) k p q tws pl v u j) (st := (s ++ [own z]).set s.length (own n0)) (z := 2) c_ok (by decide) (by decide)
    have t3 : sFor (fRng rng1 (fCons (fC (.int 2)) (fNil))) (.nm 5) bodyK (slW ns (some (iD i)) r (some (.ref s.length)) (some (lw ws)) k p q tws pl v u j) ((s ++ [own z]).set s.length (own n0)) = .nx (slW ns (some (iD i)) r (some (.ref s.length)) (some (lw ws)) k1 p1 q1 tws1 pl1 v1 u1 j1) ((s ++ [own z]).set s.length (own n1)) := by
      rw [ev_for, rg, FB.st_ok]
      exact lp
    obtain ⟨t', o', w', k', p', q', tws', pl', v', u', j', s', ih, hF'⟩ := loopT ns r ks (some (iD i)) (some (.ref s.length)) (some (lw ws)) k1 p1 q1 tws1 pl1 v1 u1 j1 ((s ++ [own z]).set s.length (own n1)) (hF2.set (flat_lst [.int n1])) (fun i hi => h i (List.mem_cons_of_mem _ hi))
    exact ⟨t', o', w', k', p', q', tws', pl', v', u', j', s', (forL_next (ρ1 := slW ns (some (iD i)) r o w k p q tws pl v u j) (tg_nm.trans rfl) ((seq_to t1).trans ((seq_to t2).trans t3))).trans ih, hF'⟩
theorem turns_ok (ns : List Int) (hn : ns.length ≤ 63) (ρ : Sl) (st : So) (h0 : ρ[0]? = some (some (.frz ns))) : ∃ m : Nat, m ≤ 5 ∧ fRng rng1 (fCons (fCB gMax (fCons (fCB gMin (fCons (fCB gLen (fCons (fVar 0) (fNil))) (fCons (fC (.int 5)) (fNil)))) (fCons (fC (.int 1)) (fNil)))) (fNil)) ρ st = .ok ((List.range m).map fun k => iD k) st := by
  have e1 : fCB gMin (fCons (fCB gLen (fCons (fVar 0) (fNil))) (fCons (fC (.int 5)) (fNil))) ρ st = .ok (zD (if (5 : Int) < ns.length then 5 else ns.length)) st :=
    cb_ok (cons_ok (cb_ok (cons_ok (var_ok h0) nil_ok) (frz_len ns st)) (cons_ok c_ok nil_ok)) rfl
  generalize hq : (if (5 : Int) < ns.length then (5 : Int) else ns.length) = q at e1
  have hq5 : q ≤ 5 := by subst hq; split <;> omega
  have hq0 : 0 ≤ q := by subst hq; split <;> omega
  have e2 : fCB gMax (fCons (fCB gMin (fCons (fCB gLen (fCons (fVar 0) (fNil))) (fCons (fC (.int 5)) (fNil)))) (fCons (fC (.int 1)) (fNil))) ρ st = .ok (zD (if (1 : Int) > q then 1 else q)) st :=
    cb_ok (cons_ok e1 (cons_ok c_ok nil_ok)) rfl
  generalize hr : (if (1 : Int) > q then (1 : Int) else q) = r at e2
  have hr5 : r ≤ 5 := by subst hr; split <;> omega
  have hr0 : 0 ≤ r := by subst hr; split <;> omega
  refine ⟨r.toNat, by omega, ?_⟩
  rw [ev_rng, cons_ok e2 nil_ok, bind_ok, rng_pure (okR_small (by omega) (by omega)), rngL_zero]
abbrev A1 : List Op := [(.lift, "x"), (.addfront, "y")]
abbrev A2 : List Op := [(.addfront, "y"), (.lift, "x")]
abbrev XY : List Str := ["x", "y"]
theorem xy_ok : (∀ w ∈ XY, isWord w = true) ∧ (wordsOf A1).length ≤ 12 ∧ (wordsOf A2).length ≤ 12 := by decide +kernel
theorem a1_in : ∀ p ∈ A1, p.2 ∈ XY := by decide +kernel
theorem a2_in : ∀ p ∈ A2, p.2 ∈ XY := by decide +kernel
theorem a1_prog : Prog A1 := ⟨fun o ho => xy_ok.1 _ (a1_in o ho), show 2 ≤ 60 by decide, xy_ok.2.1⟩
theorem a2_prog : Prog A2 := ⟨fun o ho => xy_ok.1 _ (a2_in o ho), show 2 ≤ 60 by decide, xy_ok.2.2⟩
theorem differ : PyData.eqv (meanD A1) (meanD A2) = false := by decide +kernel
theorem rows_eq : runL A1 ["s", "x", "y", "t"] = runL A2 ["s", "x", "y", "t"] ∧ runL A1 ["s", "t"] = runL A2 ["s", "t"] ∧ runL A1 ["s", "x"] ≠ runL A2 ["s", "x"] := by decide +kernel
theorem rows_ok : (∀ w ∈ (["s", "x", "y", "t"] : List Str), isWord w = true) ∧ (["s", "x", "y", "t"] : List Str).Nodup ∧ (["s", "t"] : List Str).Nodup ∧ (["s", "x"] : List Str).Nodup := by decide +kernel
theorem r4_row : Row ["s", "x", "y", "t"] := ⟨rows_ok.1, rows_ok.2.1, show 4 ≤ 20 by decide⟩
theorem r2_row : Row ["s", "t"] := ⟨fun w h => rows_ok.1 w (by
  rcases List.mem_cons.mp h with rfl | h
  · exact List.mem_cons_self
  · rw [List.mem_singleton.mp h]; simp), rows_ok.2.2.1, show 2 ≤ 20 by decide⟩
theorem rx_row : Row ["s", "x"] := ⟨fun w h => rows_ok.1 w (by
  rcases List.mem_cons.mp h with rfl | h
  · exact List.mem_cons_self
  · rw [List.mem_singleton.mp h]; simp), rows_ok.2.2.2, show 2 ≤ 20 by decide⟩
theorem op2 {a b : Str} {ρ : Sl} {st : So} : fTup (fCons (fC (.str a)) (fCons (fC (.str b)) fNil)) ρ st = .ok (.p (.tuple [.str a, .str b])) st := tupP (xs := [.str a, .str b]) (cons_ok c_ok (cons_ok c_ok nil_ok)) (show 2 ≤ 100000 by decide)
abbrev bodyR : FS := sIf (fTB (fOp gNe (fCall d_run (fCons (fVar 6) (fCons (fVar 2) (fNil)))) (fCall d_run (fCons (fVar 7) (fCons (fVar 2) (fNil)))))) (sRet (fC (.bool false))) (sNext)
theorem law_true (ns : List Int) (h : ns.length ≤ 63) : ∃ st', d_law [.frz ns] [] = .ok (.p (.bool true)) st' := by
  obtain ⟨m, hm, hr⟩ := turns_ok ns h (slW ns none none none none none none none none none none none none) [] rfl
  obtain ⟨t, o, w, k, p, q, tws, pl, v, u, j, s, lp, hF⟩ := loopT ns none (List.range m) none none none none none none none none none none none [] Flat.nil (fun k hk => by have := List.mem_range.mp hk; omega)
  have t1 : sFor (fRng rng1 (fCons (fCB gMax (fCons (fCB gMin (fCons (fCB gLen (fCons (fVar 0) (fNil))) (fCons (fC (.int 5)) (fNil)))) (fCons (fC (.int 1)) (fNil)))) (fNil))) (.nm 1) bodyT (slW ns none none none none none none none none none none none none) [] = .nx (slW ns t none o w k p q tws pl v u j) s := by
    rw [ev_for, hr, FB.st_ok, lp]
  have d1 : fPure (disp (fCons (fTup (fCons (fC (.str "lift")) (fCons (fC (.str "x")) (fNil)))) (fCons (fTup (fCons (fC (.str "addfront")) (fCons (fC (.str "y")) (fNil)))) (fNil)))) (slW ns t none o w k p q tws pl v u j) s = .ok (prD A1) s := dispP (xs := A1.map opD) (cons_ok op2 (cons_ok op2 nil_ok)) (show 2 ≤ 100000 by decide)
  have d2 : fPure (disp (fCons (fTup (fCons (fC (.str "addfront")) (fCons (fC (.str "y")) (fNil)))) (fCons (fTup (fCons (fC (.str "lift")) (fCons (fC (.str "x")) (fNil)))) (fNil)))) (slW ns t none o w k p q tws pl v u j) s = .ok (prD A2) s := dispP (xs := A2.map opD) (cons_ok op2 (cons_ok op2 nil_ok)) (show 2 ≤ 100000 by decide)
  have t2 := asgT_to (tg := .tp [.nm 6, .nm 7]) (tupP (xs := [.list (A1.map opD), .list (A2.map opD)]) (cons_ok d1 (cons_ok d2 nil_ok)) (show 2 ≤ 100000 by decide)) (ρ' := slW ns t none o w k (some (prD A1)) (some (prD A2)) tws pl v u j) (tg2.trans rfl)
  have bR : ∀ (r : List Str) (x : Option Dv), Row r → runL A1 r = runL A2 r → bodyR (slW ns t (some (tw r)) o w k (some (prD A1)) (some (prD A2)) tws pl v u j) s = .nx (slW ns t (some (tw r)) o w k (some (prD A1)) (some (prD A2)) tws pl v u j) s := fun r x hr e => by
    have c := runs_ne (f1 := fVar 6) (f2 := fVar 7) (fr := fVar 2) (ρ := slW ns t (some (tw r)) o w k (some (prD A1)) (some (prD A2)) tws pl v u j) xy_ok.1 a1_prog a2_prog a1_in a2_in hr hF (var_ok rfl) (var_ok rfl) (var_ok rfl)
    rw [decide_eq_true e] at c
    exact if_next (tb_ok c)
  have pr : fPure (disp (fCons (fTup (fCons (fC (.str "s")) (fCons (fC (.str "x")) (fCons (fC (.str "y")) (fCons (fC (.str "t")) (fNil)))))) (fCons (fTup (fCons (fC (.str "s")) (fCons (fC (.str "t")) (fNil)))) (fNil)))) (slW ns t none o w k (some (prD A1)) (some (prD A2)) tws pl v u j) s = .ok (.p (.list [.tuple [.str "s", .str "x", .str "y", .str "t"], .tuple [.str "s", .str "t"]])) s :=
    dispP (xs := [.tuple [.str "s", .str "x", .str "y", .str "t"], .tuple [.str "s", .str "t"]]) (cons_ok (tupP (xs := [.str "s", .str "x", .str "y", .str "t"]) (cons_ok c_ok (cons_ok c_ok (cons_ok c_ok (cons_ok c_ok nil_ok)))) (show 4 ≤ 100000 by decide)) (cons_ok op2 nil_ok)) (show 2 ≤ 100000 by decide)
  have lR : sForL (.nm 2) bodyR [.p (.tuple [.str "s", .str "x", .str "y", .str "t"]), .p (.tuple [.str "s", .str "t"])] (slW ns t none o w k (some (prD A1)) (some (prD A2)) tws pl v u j) s = .nx (slW ns t (some (tw ["s", "t"])) o w k (some (prD A1)) (some (prD A2)) tws pl v u j) s :=
    (forL_next (ρ1 := slW ns t (some (tw ["s", "x", "y", "t"])) o w k (some (prD A1)) (some (prD A2)) tws pl v u j) (tg_nm.trans rfl) (bR _ none r4_row rows_eq.1)).trans ((forL_next (ρ1 := slW ns t (some (tw ["s", "t"])) o w k (some (prD A1)) (some (prD A2)) tws pl v u j) (tg_nm.trans rfl) (bR _ none r2_row rows_eq.2.1)).trans rfl)
  have t3 := (ev_forV (tg := .nm 2) (body := bodyR) pr (items_l _ s)).trans lR
  generalize hρ : slW ns t (some (tw ["s", "t"])) o w k (some (prD A1)) (some (prD A2)) tws pl v u j = ρ at t3
  have v6 : fVar 6 ρ s = .ok (prD A1) s := var_ok (by rw [← hρ]; rfl)
  have v7 : fVar 7 ρ s = .ok (prD A2) s := var_ok (by rw [← hρ]; rfl)
  have ag := agree_ok a1_prog a2_prog s hF
  rw [differ] at ag
  have n1 := notE_ok (call_ok (F := d_agree) (fr := fCons (fVar 6) (fCons (fVar 7) (fNil))) (cons_ok v6 (cons_ok v7 nil_ok)) ag)
  have n2 := runs_ne (fr := fTup (fCons (fC (.str "s")) (fCons (fC (.str "x")) (fNil)))) xy_ok.1 a1_prog a2_prog a1_in a2_in rx_row hF v6 v7 (tup2 c_ok c_ok)
  rw [decide_eq_false rows_eq.2.2] at n2
  have t4 := ret_to (and_b n1 n2)
  subst hρ
  exact ⟨_, runD_ret (N := 13) (body := m_law) (args := [.frz ns]) ((seq_to t1).trans ((seq_to t2).trans ((seq_to t3).trans t4)))⟩
end FB.K64
set_option Elab.async false
set_option linter.all false
set_option maxRecDepth 100000
set_option maxHeartbeats 0
namespace FB.K64
open PySem PySem.Spec PyProof.Rows L2 RZ FB
/-! ### the head: facts by names, the run -/
def dd_is_word : He.DefD := ⟨("is_word", none), "is_word", "is_word", defArgs s_is_word, defBody s_is_word, defScope s_is_word, [], []⟩
def dd_are_words : He.DefD := ⟨("are_words", none), "are_words", "are_words", defArgs s_are_words, defBody s_are_words, defScope s_are_words, [], []⟩
def dd_is_row : He.DefD := ⟨("is_row", none), "is_row", "is_row", defArgs s_is_row, defBody s_is_row, defScope s_is_row, [], []⟩
def dd_is_operation : He.DefD := ⟨("is_operation", none), "is_operation", "is_operation", defArgs s_is_operation, defBody s_is_operation, defScope s_is_operation, [], []⟩
def dd_words_of : He.DefD := ⟨("words_of", none), "words_of", "words_of", defArgs s_words_of, defBody s_words_of, defScope s_words_of, [], []⟩
def dd_is_program : He.DefD := ⟨("is_program", none), "is_program", "is_program", defArgs s_is_program, defBody s_is_program, defScope s_is_program, [], []⟩
def dd_check_row : He.DefD := ⟨("check_row", none), "check_row", "check_row", defArgs s_check_row, defBody s_check_row, defScope s_check_row, [], []⟩
def dd_check_program : He.DefD := ⟨("check_program", none), "check_program", "check_program", defArgs s_check_program, defBody s_check_program, defScope s_check_program, [], []⟩
def dd_execute : He.DefD := ⟨("execute", none), "execute", "execute", defArgs s_execute, defBody s_execute, defScope s_execute, [], []⟩
def dd_run_on : He.DefD := ⟨("run_on", none), "run_on", "run_on", defArgs s_run_on, defBody s_run_on, defScope s_run_on, [], []⟩
def dd_run : He.DefD := ⟨("run", none), "run", "run", defArgs s_run, defBody s_run, defScope s_run, [], []⟩
def dd_place_after : He.DefD := ⟨("place_after", none), "place_after", "place_after", defArgs s_place_after, defBody s_place_after, defScope s_place_after, [], []⟩
def dd_moves : He.DefD := ⟨("moves", none), "moves", "moves", defArgs s_moves, defBody s_moves, defScope s_moves, [], []⟩
def dd_ends_of : He.DefD := ⟨("ends_of", none), "ends_of", "ends_of", defArgs s_ends_of, defBody s_ends_of, defScope s_ends_of, [], []⟩
def dd_entries_at : He.DefD := ⟨("entries_at", none), "entries_at", "entries_at", defArgs s_entries_at, defBody s_entries_at, defScope s_entries_at, [], []⟩
def dd_side_by_side : He.DefD := ⟨("side_by_side", none), "side_by_side", "side_by_side", defArgs s_side_by_side, defBody s_side_by_side, defScope s_side_by_side, [], []⟩
def dd_meaning_of : He.DefD := ⟨("meaning_of", none), "meaning_of", "meaning_of", defArgs s_meaning_of, defBody s_meaning_of, defScope s_meaning_of, [], []⟩
def dd_meaning : He.DefD := ⟨("meaning", none), "meaning", "meaning", defArgs s_meaning, defBody s_meaning, defScope s_meaning, [], []⟩
def dd_are_entries : He.DefD := ⟨("are_entries", none), "are_entries", "are_entries", defArgs s_are_entries, defBody s_are_entries, defScope s_are_entries, [], []⟩
def dd_comes_after : He.DefD := ⟨("comes_after", none), "comes_after", "comes_after", defArgs s_comes_after, defBody s_comes_after, defScope s_comes_after, [], []⟩
def dd_made : He.DefD := ⟨("made", none), "made", "made", defArgs s_made, defBody s_made, defScope s_made, [], []⟩
def dd_are_single : He.DefD := ⟨("are_single", none), "are_single", "are_single", defArgs s_are_single, defBody s_are_single, defScope s_are_single, [], []⟩
def dd_is_meaning : He.DefD := ⟨("is_meaning", none), "is_meaning", "is_meaning", defArgs s_is_meaning, defBody s_is_meaning, defScope s_is_meaning, [], []⟩
def dd_words_in : He.DefD := ⟨("words_in", none), "words_in", "words_in", defArgs s_words_in, defBody s_words_in, defScope s_words_in, [], []⟩
def dd_check_meaning : He.DefD := ⟨("check_meaning", none), "check_meaning", "check_meaning", defArgs s_check_meaning, defBody s_check_meaning, defScope s_check_meaning, [], []⟩
def dd_agree : He.DefD := ⟨("agree", none), "agree", "agree", defArgs s_agree, defBody s_agree, defScope s_agree, [], []⟩
def dd_program_of : He.DefD := ⟨("program_of", none), "program_of", "program_of", defArgs s_program_of, defBody s_program_of, defScope s_program_of, [], []⟩
def dd_shortest_of : He.DefD := ⟨("shortest_of", none), "shortest_of", "shortest_of", defArgs s_shortest_of, defBody s_shortest_of, defScope s_shortest_of, [], []⟩
def dd_shortest : He.DefD := ⟨("shortest", none), "shortest", "shortest", defArgs s_shortest, defBody s_shortest, defScope s_shortest, [], []⟩
def dd__law_mixed : He.DefD := ⟨("_law_mixed", none), "_law_mixed", "_law_mixed", defArgs s__law_mixed, defBody s__law_mixed, defScope s__law_mixed, [], []⟩
def dd__law_cell : He.DefD := ⟨("_law_cell", none), "_law_cell", "_law_cell", defArgs s__law_cell, defBody s__law_cell, defScope s__law_cell, [], []⟩
def dd__law_take : He.DefD := ⟨("_law_take", none), "_law_take", "_law_take", defArgs s__law_take, defBody s__law_take, defScope s__law_take, [], []⟩
def dd__law_words : He.DefD := ⟨("_law_words", none), "_law_words", "_law_words", defArgs s__law_words, defBody s__law_words, defScope s__law_words, [], []⟩
def dd__law_some : He.DefD := ⟨("_law_some", none), "_law_some", "_law_some", defArgs s__law_some, defBody s__law_some, defScope s__law_some, [], []⟩
def dd__law_verbs : He.DefD := ⟨("_law_verbs", none), "_law_verbs", "_law_verbs", defArgs s__law_verbs, defBody s__law_verbs, defScope s__law_verbs, [], []⟩
def dd__law_near : He.DefD := ⟨("_law_near", none), "_law_near", "_law_near", defArgs s__law_near, defBody s__law_near, defScope s__law_near, [], []⟩
def dd__law_good : He.DefD := ⟨("_law_good", none), "_law_good", "_law_good", defArgs s__law_good, defBody s__law_good, defScope s__law_good, [], []⟩
def dd__law_plain_good : He.DefD := ⟨("_law_plain_good", none), "_law_plain_good", "_law_plain_good", defArgs s__law_plain_good, defBody s__law_plain_good, defScope s__law_plain_good, [], []⟩
def dd_law : He.DefD := ⟨("law", none), "law", "law", defArgs s_law, defBody s_law, defScope s_law, [], []⟩
def fnL : List He.DefD := [dd_is_word, dd_are_words, dd_is_row, dd_is_operation, dd_words_of, dd_is_program, dd_check_row, dd_check_program, dd_execute, dd_run_on, dd_run, dd_place_after, dd_moves, dd_ends_of, dd_entries_at, dd_side_by_side, dd_meaning_of, dd_meaning, dd_are_entries, dd_comes_after, dd_made, dd_are_single, dd_is_meaning, dd_words_in, dd_check_meaning, dd_agree, dd_program_of, dd_shortest_of, dd_shortest, dd__law_mixed, dd__law_cell, dd__law_take, dd__law_words, dd__law_some, dd__law_verbs, dd__law_near, dd__law_good, dd__law_plain_good, dd_law]
def faL : List He.Fa := [.glo "is_word", .glo "are_words", .glo "is_row", .glo "is_operation", .glo "words_of", .glo "is_program", .glo "check_row", .glo "check_program", .glo "execute", .glo "run_on", .glo "run", .glo "place_after", .glo "moves", .glo "ends_of", .glo "entries_at", .glo "side_by_side", .glo "meaning_of", .glo "meaning", .glo "are_entries", .glo "comes_after", .glo "made", .glo "are_single", .glo "is_meaning", .glo "words_in", .glo "check_meaning", .glo "agree", .glo "program_of", .glo "shortest_of", .glo "shortest", .glo "_law_mixed", .glo "_law_cell", .glo "_law_take", .glo "_law_words", .glo "_law_some", .glo "_law_verbs", .glo "_law_near", .glo "_law_good", .glo "_law_plain_good", .glo "law", .free "all", .free "enumerate", .free "int", .free "isinstance", .free "len", .free "list", .free "max", .free "min", .free "range", .free "set", .free "sorted", .free "str", .free "tuple", .free "zip", .str "LETTERS" "abcdefghijklmnopqrstuvwxyz", .int "LONGEST" 8, .int "MOST_OPERATIONS" 60, .int "MOST_ROW" 20, .int "MOST_WORDS" 12, .glo "InvalidMeaning", .exc "InvalidMeaning", .glo "InvalidProgram", .exc "InvalidProgram", .glo "InvalidRow", .exc "InvalidRow", .glo "CASES", .glo "IF_ABSENT", .glo "IF_PRESENT", .glo "TO_FRONT", .glo "VERBS"]
abbrev R : PySem.W.OpenRow := PySem.W.OpenLaw.row PySem.Challenge.rw_frontback_k64_whole_two_rows_are_enough
def exL : List (PySem.W.Frag → Bool) := [ktupB "CASES" ["always", "present", "absent"], ktupB "IF_ABSENT" ["addfront", "addback"], ktupB "IF_PRESENT" ["lift", "sink", "drop"], ktupB "TO_FRONT" ["front", "addfront", "lift"], ktupB "VERBS" ["front", "back", "drop", "addfront", "addback", "lift", "sink"]]
abbrev hk : PySem.W.Hook := hookX 4 faL fnL exL
def ob (s : PySem.W.SharedT) : He.AlD := obsXG 4 faL fnL exL (HandSHeadRun.getT s)
theorem ob_eq (s : PySem.W.SharedT) : ob s = hk.obs s.abs := obsXG_eq (HandSHeadRun.getT_eq s)
def loose0 : List Str := ["FrontBackError", "InvalidRow", "InvalidProgram", "InvalidMeaning", "LETTERS", "LONGEST", "MOST_ROW", "MOST_OPERATIONS", "MOST_WORDS", "VERBS", "TO_FRONT", "IF_ABSENT", "IF_PRESENT", "is_word", "are_words", "is_row", "is_operation", "words_of", "is_program", "check_row"]
def loose1 : List Str := ["check_program", "execute", "run_on", "run", "place_after", "CASES", "moves", "ends_of", "entries_at", "side_by_side", "meaning_of", "meaning", "are_entries", "comes_after", "made", "are_single", "is_meaning", "words_in", "check_meaning", "agree"]
def loose2 : List Str := ["program_of", "shortest_of", "shortest", "_law_mixed", "_law_cell", "_law_take", "_law_words", "_law_some", "_law_verbs", "_law_near", "_law_good", "_law_plain_good"]
abbrev looseL : List Str := loose0 ++ loose1 ++ loose2
theorem run (w : World) : HandSHeadRun.RunEq R (PySem.W.view R.prog [57]) hk ob 20000 looseL w := by
  intro os
  kernel_rfl
theorem facts {K : PySem.W.Frag} {h : Heap} {mg : Str → Option Value} {f : Addr} (X : K.In h) (G : h.Ns mainGlobals mg) (hfa : mg ("law" : Str) = some (.ref f)) (cx : SaysX faL fnL exL K) :
    ∃ S : Fs K mg, S.a_law = f := by
  have c := cx.d
  obtain ⟨h_is_word, F_is_word⟩ := c.def_ 0 (d := dd_is_word) rfl
  obtain ⟨h_are_words, F_are_words⟩ := c.def_ 1 (d := dd_are_words) rfl
  obtain ⟨h_is_row, F_is_row⟩ := c.def_ 2 (d := dd_is_row) rfl
  obtain ⟨h_is_operation, F_is_operation⟩ := c.def_ 3 (d := dd_is_operation) rfl
  obtain ⟨h_words_of, F_words_of⟩ := c.def_ 4 (d := dd_words_of) rfl
  obtain ⟨h_is_program, F_is_program⟩ := c.def_ 5 (d := dd_is_program) rfl
  obtain ⟨h_check_row, F_check_row⟩ := c.def_ 6 (d := dd_check_row) rfl
  obtain ⟨h_check_program, F_check_program⟩ := c.def_ 7 (d := dd_check_program) rfl
  obtain ⟨h_execute, F_execute⟩ := c.def_ 8 (d := dd_execute) rfl
  obtain ⟨h_run_on, F_run_on⟩ := c.def_ 9 (d := dd_run_on) rfl
  obtain ⟨h_run, F_run⟩ := c.def_ 10 (d := dd_run) rfl
  obtain ⟨h_place_after, F_place_after⟩ := c.def_ 11 (d := dd_place_after) rfl
  obtain ⟨h_moves, F_moves⟩ := c.def_ 12 (d := dd_moves) rfl
  obtain ⟨h_ends_of, F_ends_of⟩ := c.def_ 13 (d := dd_ends_of) rfl
  obtain ⟨h_entries_at, F_entries_at⟩ := c.def_ 14 (d := dd_entries_at) rfl
  obtain ⟨h_side_by_side, F_side_by_side⟩ := c.def_ 15 (d := dd_side_by_side) rfl
  obtain ⟨h_meaning_of, F_meaning_of⟩ := c.def_ 16 (d := dd_meaning_of) rfl
  obtain ⟨h_meaning, F_meaning⟩ := c.def_ 17 (d := dd_meaning) rfl
  obtain ⟨h_are_entries, F_are_entries⟩ := c.def_ 18 (d := dd_are_entries) rfl
  obtain ⟨h_comes_after, F_comes_after⟩ := c.def_ 19 (d := dd_comes_after) rfl
  obtain ⟨h_made, F_made⟩ := c.def_ 20 (d := dd_made) rfl
  obtain ⟨h_are_single, F_are_single⟩ := c.def_ 21 (d := dd_are_single) rfl
  obtain ⟨h_is_meaning, F_is_meaning⟩ := c.def_ 22 (d := dd_is_meaning) rfl
  obtain ⟨h_words_in, F_words_in⟩ := c.def_ 23 (d := dd_words_in) rfl
  obtain ⟨h_check_meaning, F_check_meaning⟩ := c.def_ 24 (d := dd_check_meaning) rfl
  obtain ⟨h_agree, F_agree⟩ := c.def_ 25 (d := dd_agree) rfl
  obtain ⟨h_program_of, F_program_of⟩ := c.def_ 26 (d := dd_program_of) rfl
  obtain ⟨h_shortest_of, F_shortest_of⟩ := c.def_ 27 (d := dd_shortest_of) rfl
  obtain ⟨h_shortest, F_shortest⟩ := c.def_ 28 (d := dd_shortest) rfl
  obtain ⟨h__law_mixed, F__law_mixed⟩ := c.def_ 29 (d := dd__law_mixed) rfl
  obtain ⟨h__law_cell, F__law_cell⟩ := c.def_ 30 (d := dd__law_cell) rfl
  obtain ⟨h__law_take, F__law_take⟩ := c.def_ 31 (d := dd__law_take) rfl
  obtain ⟨h__law_words, F__law_words⟩ := c.def_ 32 (d := dd__law_words) rfl
  obtain ⟨h__law_some, F__law_some⟩ := c.def_ 33 (d := dd__law_some) rfl
  obtain ⟨h__law_verbs, F__law_verbs⟩ := c.def_ 34 (d := dd__law_verbs) rfl
  obtain ⟨h__law_near, F__law_near⟩ := c.def_ 35 (d := dd__law_near) rfl
  obtain ⟨h__law_good, F__law_good⟩ := c.def_ 36 (d := dd__law_good) rfl
  obtain ⟨h__law_plain_good, F__law_plain_good⟩ := c.def_ 37 (d := dd__law_plain_good) rfl
  obtain ⟨h_law, F_law⟩ := c.def_ 38 (d := dd_law) rfl
  refine ⟨{
    a_is_word := _
    h_is_word := h_is_word
    F_is_word := F_is_word
    g_is_word := He.glo_ok X G (c.fact 0 (f := .glo "is_word") rfl)
    a_are_words := _
    h_are_words := h_are_words
    F_are_words := F_are_words
    g_are_words := He.glo_ok X G (c.fact 1 (f := .glo "are_words") rfl)
    a_is_row := _
    h_is_row := h_is_row
    F_is_row := F_is_row
    g_is_row := He.glo_ok X G (c.fact 2 (f := .glo "is_row") rfl)
    a_is_operation := _
    h_is_operation := h_is_operation
    F_is_operation := F_is_operation
    g_is_operation := He.glo_ok X G (c.fact 3 (f := .glo "is_operation") rfl)
    a_words_of := _
    h_words_of := h_words_of
    F_words_of := F_words_of
    g_words_of := He.glo_ok X G (c.fact 4 (f := .glo "words_of") rfl)
    a_is_program := _
    h_is_program := h_is_program
    F_is_program := F_is_program
    g_is_program := He.glo_ok X G (c.fact 5 (f := .glo "is_program") rfl)
    a_check_row := _
    h_check_row := h_check_row
    F_check_row := F_check_row
    g_check_row := He.glo_ok X G (c.fact 6 (f := .glo "check_row") rfl)
    a_check_program := _
    h_check_program := h_check_program
    F_check_program := F_check_program
    g_check_program := He.glo_ok X G (c.fact 7 (f := .glo "check_program") rfl)
    a_execute := _
    h_execute := h_execute
    F_execute := F_execute
    g_execute := He.glo_ok X G (c.fact 8 (f := .glo "execute") rfl)
    a_run_on := _
    h_run_on := h_run_on
    F_run_on := F_run_on
    g_run_on := He.glo_ok X G (c.fact 9 (f := .glo "run_on") rfl)
    a_run := _
    h_run := h_run
    F_run := F_run
    g_run := He.glo_ok X G (c.fact 10 (f := .glo "run") rfl)
    a_place_after := _
    h_place_after := h_place_after
    F_place_after := F_place_after
    g_place_after := He.glo_ok X G (c.fact 11 (f := .glo "place_after") rfl)
    a_moves := _
    h_moves := h_moves
    F_moves := F_moves
    g_moves := He.glo_ok X G (c.fact 12 (f := .glo "moves") rfl)
    a_ends_of := _
    h_ends_of := h_ends_of
    F_ends_of := F_ends_of
    g_ends_of := He.glo_ok X G (c.fact 13 (f := .glo "ends_of") rfl)
    a_entries_at := _
    h_entries_at := h_entries_at
    F_entries_at := F_entries_at
    g_entries_at := He.glo_ok X G (c.fact 14 (f := .glo "entries_at") rfl)
    a_side_by_side := _
    h_side_by_side := h_side_by_side
    F_side_by_side := F_side_by_side
    g_side_by_side := He.glo_ok X G (c.fact 15 (f := .glo "side_by_side") rfl)
    a_meaning_of := _
    h_meaning_of := h_meaning_of
    F_meaning_of := F_meaning_of
    g_meaning_of := He.glo_ok X G (c.fact 16 (f := .glo "meaning_of") rfl)
    a_meaning := _
    h_meaning := h_meaning
    F_meaning := F_meaning
    g_meaning := He.glo_ok X G (c.fact 17 (f := .glo "meaning") rfl)
    a_are_entries := _
    h_are_entries := h_are_entries
    F_are_entries := F_are_entries
    g_are_entries := He.glo_ok X G (c.fact 18 (f := .glo "are_entries") rfl)
    a_comes_after := _
    h_comes_after := h_comes_after
    F_comes_after := F_comes_after
    g_comes_after := He.glo_ok X G (c.fact 19 (f := .glo "comes_after") rfl)
    a_made := _
    h_made := h_made
    F_made := F_made
    g_made := He.glo_ok X G (c.fact 20 (f := .glo "made") rfl)
    a_are_single := _
    h_are_single := h_are_single
    F_are_single := F_are_single
    g_are_single := He.glo_ok X G (c.fact 21 (f := .glo "are_single") rfl)
    a_is_meaning := _
    h_is_meaning := h_is_meaning
    F_is_meaning := F_is_meaning
    g_is_meaning := He.glo_ok X G (c.fact 22 (f := .glo "is_meaning") rfl)
    a_words_in := _
    h_words_in := h_words_in
    F_words_in := F_words_in
    g_words_in := He.glo_ok X G (c.fact 23 (f := .glo "words_in") rfl)
    a_check_meaning := _
    h_check_meaning := h_check_meaning
    F_check_meaning := F_check_meaning
    g_check_meaning := He.glo_ok X G (c.fact 24 (f := .glo "check_meaning") rfl)
    a_agree := _
    h_agree := h_agree
    F_agree := F_agree
    g_agree := He.glo_ok X G (c.fact 25 (f := .glo "agree") rfl)
    a_program_of := _
    h_program_of := h_program_of
    F_program_of := F_program_of
    g_program_of := He.glo_ok X G (c.fact 26 (f := .glo "program_of") rfl)
    a_shortest_of := _
    h_shortest_of := h_shortest_of
    F_shortest_of := F_shortest_of
    g_shortest_of := He.glo_ok X G (c.fact 27 (f := .glo "shortest_of") rfl)
    a_shortest := _
    h_shortest := h_shortest
    F_shortest := F_shortest
    g_shortest := He.glo_ok X G (c.fact 28 (f := .glo "shortest") rfl)
    a__law_mixed := _
    h__law_mixed := h__law_mixed
    F__law_mixed := F__law_mixed
    g__law_mixed := He.glo_ok X G (c.fact 29 (f := .glo "_law_mixed") rfl)
    a__law_cell := _
    h__law_cell := h__law_cell
    F__law_cell := F__law_cell
    g__law_cell := He.glo_ok X G (c.fact 30 (f := .glo "_law_cell") rfl)
    a__law_take := _
    h__law_take := h__law_take
    F__law_take := F__law_take
    g__law_take := He.glo_ok X G (c.fact 31 (f := .glo "_law_take") rfl)
    a__law_words := _
    h__law_words := h__law_words
    F__law_words := F__law_words
    g__law_words := He.glo_ok X G (c.fact 32 (f := .glo "_law_words") rfl)
    a__law_some := _
    h__law_some := h__law_some
    F__law_some := F__law_some
    g__law_some := He.glo_ok X G (c.fact 33 (f := .glo "_law_some") rfl)
    a__law_verbs := _
    h__law_verbs := h__law_verbs
    F__law_verbs := F__law_verbs
    g__law_verbs := He.glo_ok X G (c.fact 34 (f := .glo "_law_verbs") rfl)
    a__law_near := _
    h__law_near := h__law_near
    F__law_near := F__law_near
    g__law_near := He.glo_ok X G (c.fact 35 (f := .glo "_law_near") rfl)
    a__law_good := _
    h__law_good := h__law_good
    F__law_good := F__law_good
    g__law_good := He.glo_ok X G (c.fact 36 (f := .glo "_law_good") rfl)
    a__law_plain_good := _
    h__law_plain_good := h__law_plain_good
    F__law_plain_good := F__law_plain_good
    g__law_plain_good := He.glo_ok X G (c.fact 37 (f := .glo "_law_plain_good") rfl)
    a_law := _
    h_law := h_law
    F_law := F_law
    g_law := He.glo_ok X G (c.fact 38 (f := .glo "law") rfl)
    b_all := He.free_ok X G (c.fact 39 (f := .free "all") rfl)
    b_enumerate := He.free_ok X G (c.fact 40 (f := .free "enumerate") rfl)
    b_int := He.free_ok X G (c.fact 41 (f := .free "int") rfl)
    b_isinstance := He.free_ok X G (c.fact 42 (f := .free "isinstance") rfl)
    b_len := He.free_ok X G (c.fact 43 (f := .free "len") rfl)
    b_list := He.free_ok X G (c.fact 44 (f := .free "list") rfl)
    b_max := He.free_ok X G (c.fact 45 (f := .free "max") rfl)
    b_min := He.free_ok X G (c.fact 46 (f := .free "min") rfl)
    b_range := He.free_ok X G (c.fact 47 (f := .free "range") rfl)
    b_set := He.free_ok X G (c.fact 48 (f := .free "set") rfl)
    b_sorted := He.free_ok X G (c.fact 49 (f := .free "sorted") rfl)
    b_str := He.free_ok X G (c.fact 50 (f := .free "str") rfl)
    b_tuple := He.free_ok X G (c.fact 51 (f := .free "tuple") rfl)
    b_zip := He.free_ok X G (c.fact 52 (f := .free "zip") rfl)
    c_LETTERS := He.str_ok X G (c.fact 53 (f := .str "LETTERS" "abcdefghijklmnopqrstuvwxyz") rfl)
    c_LONGEST := He.int_ok X G (c.fact 54 (f := .int "LONGEST" 8) rfl)
    c_MOST_OPERATIONS := He.int_ok X G (c.fact 55 (f := .int "MOST_OPERATIONS" 60) rfl)
    c_MOST_ROW := He.int_ok X G (c.fact 56 (f := .int "MOST_ROW" 20) rfl)
    c_MOST_WORDS := He.int_ok X G (c.fact 57 (f := .int "MOST_WORDS" 12) rfl)
    C_InvalidMeaning := _
    x_InvalidMeaning := ⟨(He.exc_ok (c.fact 59 (f := .exc "InvalidMeaning") rfl)).1, He.glo_ok X G (c.fact 58 (f := .glo "InvalidMeaning") rfl), (He.exc_ok (c.fact 59 (f := .exc "InvalidMeaning") rfl)).2⟩
    C_InvalidProgram := _
    x_InvalidProgram := ⟨(He.exc_ok (c.fact 61 (f := .exc "InvalidProgram") rfl)).1, He.glo_ok X G (c.fact 60 (f := .glo "InvalidProgram") rfl), (He.exc_ok (c.fact 61 (f := .exc "InvalidProgram") rfl)).2⟩
    C_InvalidRow := _
    x_InvalidRow := ⟨(He.exc_ok (c.fact 63 (f := .exc "InvalidRow") rfl)).1, He.glo_ok X G (c.fact 62 (f := .glo "InvalidRow") rfl), (He.exc_ok (c.fact 63 (f := .exc "InvalidRow") rfl)).2⟩
    c_CASES := ⟨_, He.glo_ok X G (c.fact 64 (f := .glo "CASES") rfl), ktupB_ok (cx.ex 0 (p := ktupB "CASES" ["always", "present", "absent"]) rfl)⟩
    c_IF_ABSENT := ⟨_, He.glo_ok X G (c.fact 65 (f := .glo "IF_ABSENT") rfl), ktupB_ok (cx.ex 1 (p := ktupB "IF_ABSENT" ["addfront", "addback"]) rfl)⟩
    c_IF_PRESENT := ⟨_, He.glo_ok X G (c.fact 66 (f := .glo "IF_PRESENT") rfl), ktupB_ok (cx.ex 2 (p := ktupB "IF_PRESENT" ["lift", "sink", "drop"]) rfl)⟩
    c_TO_FRONT := ⟨_, He.glo_ok X G (c.fact 67 (f := .glo "TO_FRONT") rfl), ktupB_ok (cx.ex 3 (p := ktupB "TO_FRONT" ["front", "addfront", "lift"]) rfl)⟩
    c_VERBS := ⟨_, He.glo_ok X G (c.fact 68 (f := .glo "VERBS") rfl), ktupB_ok (cx.ex 4 (p := ktupB "VERBS" ["front", "back", "drop", "addfront", "addback", "lift", "sink"]) rfl)⟩ }, ?_⟩
  have e := hfa.symm.trans (He.glo_ok X G (c.fact 38 (f := .glo "law") rfl))
  cases e
  rfl
end FB.K64
open PySem PySem.W PySem.Calls PyProof.Rows
theorem PySem.Challenge.cw_frontback_k64_whole_two_rows_are_enough_holds : PySem.Challenge.rw_frontback_k64_whole_two_rows_are_enough.Holds := by
  w_on; o_law
  refine HandSHeadRun.head_any (r := OpenLaw.row PySem.Challenge.rw_frontback_k64_whole_two_rows_are_enough) (q := view (OpenLaw.row PySem.Challenge.rw_frontback_k64_whole_two_rows_are_enough).prog [57]) (H := FB.K64.hk) (ob := FB.K64.ob) (M := 20000) (loose := FB.K64.looseL) (d := HandSHeadRun.topDef (OpenLaw.row PySem.Challenge.rw_frontback_k64_whole_two_rows_are_enough).prog 57) (kwd := []) FB.K64.ob_eq
    (by kernel_rfl) (fun s => by kernel_rfl) FB.K64.run (by kernel_rfl) (by kernel_rfl) (by kernel_rfl) (by rfl) (by first | assumption | decide +kernel) (by decide +kernel) ⟨rfl, rfl, rfl, rfl, rfl, by decide +kernel⟩ ?hw ?hc
  case hw => w_witness2
  case hc =>
    refine FB.walk_ofW (l := PySem.Challenge.rw_frontback_k64_whole_two_rows_are_enough) (n := 63) (k := 7) (x := "script") rfl (by decide) (by kernel_rfl) ⟨rfl, by decide, by decide⟩ ?F
    intro w mg fa h Y G hmg0
    obtain ⟨K, KX, c⟩ := Y
    have hmg : mg ("law" : PySem.Str) = some (.ref fa) := by
      have e : (HandSHeadRun.topDef (OpenLaw.row PySem.Challenge.rw_frontback_k64_whole_two_rows_are_enough).prog 57).name = ("law" : PySem.Str) := by kernel_rfl
      rw [← e]
      exact hmg0
    obtain ⟨S, rfl⟩ := FB.K64.facts KX G hmg c
    refine ⟨K, S.h_law, _, KX, ?_, ?_, fun base _ _ => FB.K64.ok_law S⟩
    · exact fun s v => (S.F_law.bindsA (ps := ["script"]) fun _ _ _ _ _ _ us hl => match us, hl with | [_], _ => rfl) s [v] rfl
    · exact fun H a ns hl hO hS => let ⟨st', e⟩ := FB.K64.law_true ns hl; FB.end_sp hO hS e

import PyProof.Rows.All
import Wide.All
import OpenK.AllK
import Wide.FinOn
import PyProof.TupleOfStr
import HandS.Base
import HandS.Call
import HandS.List
import HandS.TupAny
import HandS.Style
import HandS.Strs
import HandS.ForMost
import HandS.ForExc
import HandS.Wide
import HandS.TupMul
import HandS.Deep
import HandS.IsInst
import HandS.Zip
import HandS.Rev
import HandS.Steps
import PyProof.StrOps2
import HandS.Dict
import HandS.DictComp
import HandS.More
import KE.GoesMore
import KE.GoesEnum
import PyProof.EnumMake
import HandS.Iter
import HandS.WordsExc
import HandS.Defaults
import HandS.WideBits
import HandS.HeadEnd
import HandS.Exc
import HandS.ExcIs
import HandS.ExcOwn
import HandS.HeadHook2
import HandS.HeadHook1
import PySem.Challenge.RW_frontback_k52_errors_of_routes
import HandS.Head0
import HandS.Head1
import HandS.Head2
import KE.KStateDown
set_option Elab.async false
set_option linter.all false
set_option maxRecDepth 100000
set_option maxHeartbeats 4000000
/-! FBT: tuples of which it is known that they carry no attributes (so their methods can be called). -/
namespace FB
open PySem PySem.Spec PyProof.Rows L2 HT
/-- a tuple is laid -/
def NewT (H : Hp) (xs : List V) (Q : VK) : Prop := ∀ p o, H p = none → o.dict = none → Q (.ref p) (upd H p (.frz o (.tup xs)))
section
variable {X : Cx} {e : Expr} {es : List Expr} {te : TE} {t : TA} {pos : Pos}
theorem newT_end {pins : List (Addr × Obj)} {σ : L2.St} {H : Hp} {s : Shared} {xs : List V} {its : List Value} {Q : VK} {h' : Heap} {tk : Nat} (I : Inv X pins σ H s) (k : ∀ b u, s.heap.get? b = some u → h'.get? b = some u) (hle : s.heap.objs.size ≤ h'.objs.size)
    (r : Vals xs its) (hz : xs.length ≤ sizeLine) (q : NewT H xs Q) : EP X pins σ Q (.ref h'.objs.size) { s with heap := h'.push { cls := .type "tuple", data := .seq its.toArray }, toks := tk } := by
  refine ⟨.ref h'.objs.size, upd H h'.objs.size (.frz { cls := .type "tuple", data := .seq its.toArray } (.tup xs)), I.laid (t' := tk) (fun b u e => Heap.get?_push_of_some _ (k b u e)) hle ?_, rfl, q _ _ (I.hok.fresh hle) rfl⟩
  exact ⟨Heap.get?_push_size _ rfl, hz, its, r, ⟨_, Heap.get?_push_size _ rfl, rfl, _, rfl⟩⟩
theorem size_kept {h h' : Heap} (k : ∀ b u, h.get? b = some u → h'.get? b = some u) (F : h.objs.size ≤ h'.objs.size) : h.objs.size ≤ h'.objs.size := F
def tTupX (t : TA) : TE := fun σ H Q => t σ H fun xs H1 => xs.length ≤ sizeLine ∧ NewT H1 xs Q
theorem pe_tupX {x1} (h : PA X es t) : PE X (.Tuple es x1 pos) (tTupX t) := by
  refine ⟨fun pins s σ H Q I hq => ?_⟩
  refine wpAny_Tuple_spliced (thn (h.run pos pins s σ H _ I hq) fun us s1 ⟨xs, H1, I1, r, z, q⟩ => ⟨by rw [← r.length]; exact z, ?_⟩)
  exact newT_end (tk := s1.toks) I1 (fun _ _ e => e) (Nat.le_refl _) r z q
def rCatX (K : PySem.W.Frag) : R2 := fun x y H Q => ∃ a b xs ys, x = .ref a ∧ y = .ref b ∧ SqT K H a xs ∧ SqT K H b ys ∧ xs.length + ys.length ≤ sizeLine ∧
  (xs = [] → Q (.ref b) H) ∧ (xs ≠ [] → ys = [] → Q (.ref a) H) ∧ (xs ≠ [] → ys ≠ [] → NewT H (xs ++ ys) Q)
theorem op_catX : OpR X (binaryOp .Add) (rCatX X.K) := by
  intro pins s σ H x y v u Q I rx ry h
  obtain ⟨a, b, xs, ys, rfl, rfl, ha, hb, hz, q0, q1, q2⟩ := h
  cases rx
  cases ry
  obtain ⟨its, r1, p1, _⟩ := I.tuple ha
  obtain ⟨its2, r2, p2, _⟩ := I.tuple hb
  by_cases hx : xs = []
  · subst hx
    cases r1
    exact cat_tup0 p1 p2 ⟨.ref b, H, I, rfl, q0 rfl⟩
  · refine HT.cat_tup p1 p2 (fun z => hx (r1.nil_iff.mp z)) (fun z => ⟨.ref a, H, I, rfl, q1 hx (r2.nil_iff.mp z)⟩) (fun z => ?_) (by rw [← r1.length, ← r2.length]; exact hz)
    exact newT_end (tk := s.toks) I (fun _ _ e => e) (Nat.le_refl _) (r1.append r2) (by rw [List.length_append]; exact hz) (q2 hx (fun w => z (r2.nil_iff.mpr w)))
def rSlX (K : PySem.W.Frag) : V → Option Int → Option Int → Hp → VK → Prop := fun x lo hi H Q => ∃ a xs, x = .ref a ∧ SqT K H a xs ∧
  (HT.sIx xs.length 0 lo = 0 ∧ HT.sIx xs.length xs.length hi = xs.length → Q (.ref a) H) ∧ (¬ (HT.sIx xs.length 0 lo = 0 ∧ HT.sIx xs.length xs.length hi = xs.length) → NewT H (cutV xs lo hi) Q)
theorem sl_tupX : SlR X (rSlX X.K) := by
  intro pins s σ H x v vl vu lo hi sl Q I rx hs pl pu h
  obtain ⟨a, xs, rfl, hx, q1, q2⟩ := h
  cases rx
  obtain ⟨its, r, ht, hz⟩ := I.tuple hx
  have hlen : its.toArray.size = xs.length := by rw [List.size_toArray]; exact r.length.symm
  refine ⟨"tuple", _, PyProof.Rows.slot_tuple_getitem.lookup, ht.typeIs, ?_⟩
  by_cases hw : HT.sIx xs.length 0 lo = 0 ∧ HT.sIx xs.length xs.length hi = xs.length
  · exact getItem_tuple_whole ht hs pl pu (by rw [hlen]; exact hw) ⟨.ref a, H, I, rfl, q1 hw⟩
  · refine HT.getItem_tuple_cut ht hs pl pu (by rw [hlen]; exact hw) ?_ (by rw [hlen]; exact hz)
    rw [hlen]
    exact newT_end (tk := s.toks) I (fun _ _ e => e) (Nat.le_refl _) ((r.drop (HT.sIx xs.length 0 lo)).take (HT.sIx xs.length xs.length hi - HT.sIx xs.length 0 lo)) (Nat.le_trans (cutV_length xs lo hi) hz) (q2 hw)
/-- tuple(x): a list, a tuple, a text -/
def rTupX (K : PySem.W.Frag) : List V → Hp → VK → Prop := fun xs H Q => (∃ p ys, xs = [.ref p] ∧ ((SqL K H p ys ∧ NewT H ys Q) ∨ (SqT K H p ys ∧ Q (.ref p) H))) ∨ ∃ z : Str, xs = [.str z] ∧ z.length ≤ sizeLine ∧ NewT H (z.cps.toList.map fun c => V.str ⟨#[c]⟩) Q
theorem vals_get : ∀ {xs : List V} {us : List Value}, xs.length = us.length → (∀ (j : Nat) (x : V) (u : Value), xs[j]? = some x → us[j]? = some u → RelV x u) → Vals xs us
  | [], [], _, _ => .nil
  | x :: xs, u :: us, h, f => .cons (f 0 x u rfl rfl) (vals_get (by simpa using h) fun j y w h1 h2 => f (j + 1) y w (by simpa using h1) (by simpa using h2))
theorem call_tupX (hc : X.calm = true) : CallR X (.type "tuple") (rTupX X.K) := by
  intro pins s σ H xs us Q I r h
  rcases h with ⟨p, ys, rfl, h⟩ | ⟨z, rfl, hz, q⟩
  · obtain ⟨u, rfl, rx⟩ := vals1 r
    cases rx
    rcases h with ⟨hq, q⟩ | ⟨hq, q⟩
    · obtain ⟨its, r', pl, hz⟩ := I.list hq
      have hlen := r'.length
      refine call_tuple_list pl.isList (fun h' kp => ?_) (by simp only [List.size_toArray] <;> omega)
      have I1 : Inv X pins σ H { s with heap := h' } := I.kept (t' := s.toks) kp
      exact newT_end (s := { s with heap := h' }) (tk := s.toks) I1 (fun _ _ e => e) (Nat.le_refl _) r' hz q
    · obtain ⟨its, r', pl, hz⟩ := I.tuple hq
      exact call_tuple_same pl ⟨.ref p, H, I, rfl, q⟩
  · obtain ⟨u, rfl, t, rfl⟩ := vals1 r
    refine call_tuple_str (I.ok.hd hc) z t (fun h' tk acc kp hacc => ?_) hz
    have I1 : Inv X pins σ H { s with heap := h', toks := tk } := I.kept kp
    have e : acc = acc.toList.toArray := by simp
    rw [e]
    refine newT_end (s := { s with heap := h', toks := tk }) (tk := tk) I1 (fun _ _ e => e) (Nat.le_refl _) (vals_get (by simp [hacc.1]) fun j x u h1 h2 => ?_) (by rw [List.length_map]; exact hz) q
    rw [Array.getElem?_toList] at h2
    obtain ⟨c, t', h3, h4⟩ := hacc.2 j u h2
    rw [List.getElem?_map, Array.getElem?_toList, h3] at h1
    cases h1
    exact ⟨t', h4⟩

/-! ### t[::-1] -/
theorem adjust_rev (n : Nat) : Builtin.Slice.sliceAdjust none none (-1) (n : Int) = ((n : Int) - 1, -1) := by
  unfold Builtin.Slice.sliceAdjust
  simp
theorem places_rev (n : Nat) : Builtin.Slice.slicePlaces ((n : Int) - 1) (-1) (-1) = n := by
  unfold Builtin.Slice.slicePlaces
  simp
  split <;> omega
theorem fm_some {α β : Type} {f : α → Option β} {g : α → β} : ∀ {l : List α}, (∀ a ∈ l, f a = some (g a)) → l.filterMap f = l.map g
  | [], _ => rfl
  | a :: l, h => by
    rw [List.filterMap_cons, h a List.mem_cons_self, List.map_cons, fm_some fun b hb => h b (List.mem_cons_of_mem _ hb)]
theorem pick_rev (its : List Value) : ((List.range its.length).filterMap fun (k : Nat) => its.toArray[(((its.length : Int) - 1) + (k : Int) * (-1)).toNat]?) = its.reverse := by
  rw [fm_some (g := fun k => its.getD (its.length - 1 - k) .none) fun k hk => ?_]
  · apply List.ext_getElem?
    intro i
    by_cases h : i < its.length
    · rw [List.getElem?_reverse h, List.getElem?_map, List.getElem?_range h]
      show some (its.getD (its.length - 1 - i) .none) = _
      rw [List.getD_eq_getElem?_getD, List.getElem?_eq_getElem (by omega)]
      rfl
    · rw [List.getElem?_eq_none (by simpa using h), List.getElem?_eq_none (by simpa using h)]
  · have hk := List.mem_range.mp hk
    have e1 : (((its.length : Int) - 1) + ((k : Nat) : Int) * (-1)).toNat = its.length - 1 - k := by omega
    rw [e1, List.getElem?_toArray, List.getD_eq_getElem?_getD, List.getElem?_eq_getElem (by omega)]
    rfl
section
variable {prog : Program} {w : World} {A : Around} {E : Value → Shared → Prop} {s : Shared}
theorem sliceApplied_rev {sl : Addr} {t : Tok} {n : Nat} {Q : Int × Int × Nat → Shared → Prop} (hs : s.heap.IsSliceOf sl .none .none (.int (-1) t)) (h : Q ((n : Int) - 1, -1, n) s) : wpAny (model prog w) A (Builtin.Slice.sliceApplied (.ref sl) (pure (n : Int))) Q E s := by
  obtain ⟨os, hos, hcs, hds⟩ := id hs
  unfold Builtin.Slice.sliceApplied Builtin.Slice.sliceFields
  refine wpAny_bind (wpAny_bind (wpAny_field hos hds (x := .none) rfl (wpAny_bind (wpAny_field hos hds (x := .none) rfl (wpAny_bind (wpAny_field hos hds (x := .int (-1) t) rfl (wpAny_pure ?_)))))))
  refine wpAny_bind (slicePart_int ?_)
  show wpAny _ _ (if ((-1 : Int) == 0) = true then _ else _) _ _ s
  rw [if_neg (by decide)]
  refine wpAny_bind (slicePart_none (wpAny_bind (slicePart_none (wpAny_bind (wpAny_pure ?_)))))
  show wpAny _ _ (match Builtin.Slice.sliceAdjust none none (-1) (n : Int) with | (lo, hi) => pure (lo, (-1 : Int), Builtin.Slice.slicePlaces lo hi (-1))) _ _ s
  rw [adjust_rev n]
  show wpAny _ _ (pure ((n : Int) - 1, (-1 : Int), Builtin.Slice.slicePlaces ((n : Int) - 1) (-1) (-1))) _ _ s
  rw [places_rev]
  exact wpAny_pure h
theorem getItem_tuple_rev {t sl : Addr} {its : List Value} {k : Tok} {Q : Value → Shared → Prop} (ht : IsTup s.heap t its.toArray) (hs : s.heap.IsSliceOf sl .none .none (.int (-1) k))
    (h : Q (.ref s.heap.objs.size) { s with heap := s.heap.push { cls := .type "tuple", data := .seq its.reverse.toArray } })
    (hsz : its.length ≤ sizeLine) : wpAny (model prog w) A (getItem (.ref t) (.ref sl)) Q E s := by
  have htake : sizeOk (.seq its.reverse.toArray) := by
    show its.reverse.toArray.size ≤ sizeLine
    rw [List.size_toArray, List.length_reverse]
    exact hsz
  obtain ⟨os, hos, hcs, hds⟩ := id hs
  have hTs : s.TypeIs (.ref sl) "slice" := ⟨os, hos, hcs⟩
  unfold getItem
  try with_reducible refine wpAny_holding ?_
  first | refine wpAny_bind (wpAny_pure ?_) | skip
  refine wpAny_bind (wpAny_sequenceKey ht.typeIs (by decide) ?_)
  refine wpAny_bind (wpAny_callSpecial?_slot (name := Str.ofString "__getitem__") ht.typeIs PyProof.Rows.slot_tuple_getitem
    (wpAny_call_entry PyProof.Rows.slot_tuple_getitem ht.typeIs entry_tuple_getitem ?_ (args_tuple_getitem _ _)))
  show wpAny _ _ (Builtin.Tuple.tupleItemsOf (.ref t) >>= _) _ _ s
  refine wpAny_bind (tupleItemsOf_ ht ?_)
  refine wpAny_bind (wpAny_typeOf hTs ?_)
  rw [if_pos (by decide)]
  refine wpAny_bind (sliceApplied_rev hs ?_)
  have hno : ¬ ((((its.toArray.size : Int) - 1) == 0 && (-1 : Int) == 1 && its.toArray.size == its.toArray.size) = true) := by simp
  show wpAny _ _ (if (((its.toArray.size : Int) - 1) == 0 && (-1 : Int) == 1 && its.toArray.size == its.toArray.size) = true then _ else _) _ _ s
  rw [if_neg hno]
  have e : ((List.range its.toArray.size).filterMap fun (k : Nat) => its.toArray[(((its.toArray.size : Int) - 1) + (k : Int) * (-1)).toNat]?).toArray = its.reverse.toArray := by
    rw [List.size_toArray, pick_rev]
  rw [e]
  first
    | exact wpAny_bind (m := Builtin.Tuple.tupleExact _) (wpAny_newObj_type (wpAny_pure ⟨_, rfl, wpAny_pure h⟩) htake)
    | exact wpAny_bind (m := Builtin.Tuple.tupleExact _) (wpAny_newObj_type (wpAny_bind (wpAny_pure (wpAny_pure ⟨_, rfl, wpAny_pure h⟩))) htake)
    | exact wpAny_bind (wpAny_bind (m := Builtin.Tuple.tupleExact _) (wpAny_newObj_type (wpAny_pure (wpAny_pure ⟨_, rfl, wpAny_pure h⟩)) htake))
    | exact wpAny_bind (wpAny_bind (m := Builtin.Tuple.tupleExact _) (wpAny_newObj_type (wpAny_pure ⟨_, rfl, wpAny_pure h⟩) htake))
end
/-- x[::-1]: a list, a tuple -/
def tRev (K : PySem.W.Frag) (te : TE) : TE := fun σ H Q => te σ H fun x H1 => ∃ a xs, x = .ref a ∧ ((SqL K H1 a xs ∧ ∀ p, H1 p = none → Q (.ref p) (upd H1 p (.lst xs.reverse))) ∨ (SqT K H1 a xs ∧ NewT H1 xs.reverse Q))
theorem pe_rev {k : Nat} {p1 p2 p3 : Pos} (he : PE X e te) : PE X (.Subscript e (.Slice none none (some (.UnaryOp .USub (.Constant (.int 1) k p1) p2)) p3) pos) (tRev X.K te) := by
  refine ⟨fun pins s σ H Q I h => ?_⟩
  refine Subscript_ (thn (he.run pins s σ H _ I h) fun v s1 ⟨x, H1, I1, r1, q1⟩ => ?_)
  obtain ⟨a, xs, ex, q⟩ := q1
  subst ex
  cases r1
  have hst : PO X (some (.UnaryOp .USub (.Constant (.int 1) k p1) p2)) (tPart (tUn (rU fun i => .int (-i)) (tC (.int 1)))) := po_some (pe_un un_neg pe_int)
  refine wpAny_Slice (thn (po_none.run pins s1 σ H1 (fun o H2 => o = none ∧ H2 = H1) I1 ⟨rfl, rfl⟩) fun vl s2 ⟨l, H2, I2, pl, el, e2⟩ => ?_)
  subst el e2
  refine thn (po_none.run pins s2 σ H2 (fun o H3 => o = none ∧ H3 = H2) I2 ⟨rfl, rfl⟩) fun vu s3 ⟨u, H3, I3, pu, eu, e3⟩ => ?_
  subst eu e3
  refine thn (hst.run pins s3 σ H3 (fun o H4 => o = some (-1) ∧ H4 = H3) I3 ⟨1, rfl, -1, rfl, rfl, rfl⟩) fun vs s4 ⟨o, H4, I4, ps, eo, e4⟩ => ?_
  subst eo e4
  have I5 : Inv X pins σ H4 { s4 with heap := s4.heap.push { cls := .type "slice", data := .fields #[vl, vu, vs] } } := I4.kept (t' := s4.toks) fun b ob q => Heap.get?_push_of_some _ q
  rcases q with ⟨hx, q⟩ | ⟨hx, q⟩
  · obtain ⟨its, r, ht, hz⟩ := I5.list hx
    have hlen := r.length
    show wpAny (model X.prog X.w) X.A (subscriptTail e (.Slice none none (some (.UnaryOp .USub (.Constant (.int 1) k p1) p2)) p3) (.ref a) (.ref s4.heap.objs.size)) (EP X pins σ Q) X.xe { s4 with heap := s4.heap.push { cls := .type "slice", data := .fields #[vl, vu, vs] } }
    refine tail_any (ops := [.ref a, .ref s4.heap.objs.size]) ht.isList.typeIs (PySem.slot_list_getitem.lookup) ?_ (by with_unfolding_all rfl)
    refine wpAny_getItem_list_slice ht.isList (Heap.IsSliceOf.new _ vl vu vs) pl pu ps (by decide) ?_ (by rw [List.size_toArray]; omega)
    rw [PySem.W.krv_pick]
    refine ⟨.ref _, _, I5.laid (t' := s4.toks) (o := .lst xs.reverse) (fun b ob q => Heap.get?_push_of_some _ q) (Nat.le_refl _) ?_, rfl, q _ (I5.hok.fresh (Nat.le_refl _))⟩
    exact ⟨by rw [List.length_reverse]; exact hz, _, 0, r.reverse, Heap.get?_push_size _ rfl⟩
  · obtain ⟨its, r, ht, hz⟩ := I5.tuple hx
    show wpAny (model X.prog X.w) X.A (subscriptTail e (.Slice none none (some (.UnaryOp .USub (.Constant (.int 1) k p1) p2)) p3) (.ref a) (.ref s4.heap.objs.size)) (EP X pins σ Q) X.xe { s4 with heap := s4.heap.push { cls := .type "slice", data := .fields #[vl, vu, vs] } }
    cases pl
    cases pu
    cases ps with
    | int _ tk =>
    refine tail_any (ops := [.ref a, .ref s4.heap.objs.size]) ht.typeIs PyProof.Rows.slot_tuple_getitem.lookup ?_ (by with_unfolding_all rfl)
    refine getItem_tuple_rev ht (Heap.IsSliceOf.new _ _ _ _) ?_ (by rw [← r.length]; exact hz)
    exact newT_end (tk := s4.toks) I5 (fun _ _ e => e) (Nat.le_refl _) r.reverse (by rw [List.length_reverse]; exact hz) q

/-! ### a tuple's method -/
/-- a tuple without attributes -/
def TupM (K : PySem.W.Frag) (H : Hp) (p : Addr) (xs : List V) : Prop := (∃ o, o.dict = none ∧ H p = some (.frz o (.tup xs))) ∨
  ∃ (o : Obj) (its : Array Value) (n : Nat), K.lookup p = some o ∧ o.cls = .type "tuple" ∧ o.data = .seq its n ∧ its.size ≤ sizeLine ∧ Vals xs its.toList ∧ o.dict = none
def tTM (K : PySem.W.Frag) (r : V → List V → Hp → VK → Prop) (to : TE) (t : TA) : TE := fun σ H Q => to σ H fun x H1 => (∃ p xs, x = .ref p ∧ TupM K H1 p xs) ∧ t σ H1 fun xs H2 => r x xs H2 Q
variable {o : Expr} {to : TE} {name : Str} {apos cpos : Pos} {id : String} {r : V → List V → Hp → VK → Prop}
theorem pe_tm (pa : PlainAttrs "tuple") (slot : Slot "tuple" name id) (hty : typeOf (.builtin id) = pure (.type "method_descriptor")) (hm : MtR X id r) (ho : PE X o to) (ha : PA X (e :: es) t)
    (hbase : attributeBase o name X.env (eval o X.env) = eval o X.env := by rfl)
    (hfew : ((backTo cpos (starEach (e :: es) X.env)).all (fun x => !x.1) && (backToKw cpos (keywordEach [] X.env)).all (fun x => x.1.isSome)
      && decide ((e :: es).length + ([] : List Keyword).length + (if ([] : List Keyword).isEmpty then 0 else 1) < 30)) = true := by rfl)
    (hline : (apos.endLine == cpos.line) = true := by rfl) (hs : starEach (e :: es) X.env = (false, eval e X.env) :: starEach es X.env := by rfl) (hplain : (backTo cpos (starEach es X.env)).any (·.1) = false := by rfl) :
    PE X (.Call (.Attribute o name apos) (e :: es) [] cpos) (tTM X.K r to t) := by
  refine ⟨fun pins s σ H Q I h => ?_⟩
  refine wpAny_Call_method_late hbase hfew hline rfl (thn (ho.run pins s σ H _ I h) fun v s1 ⟨x, H1, I1, r1, ty, q1⟩ => ?_)
  have h12 : s1.TypeIs v "tuple" ∧ ∀ a, v = .ref a → ∃ ob, s1.heap.get? a = some ob ∧ ob.dict = none := by
    obtain ⟨p, xs, rfl, ⟨ob, hd, e⟩ | ⟨ob, its, n, hk, hc, hdt, hz, r, hd⟩⟩ := ty
    · cases r1
      obtain ⟨h1, h2, its, r, hT⟩ := (show ObjOk X.prog X.w H1 s1.heap p (.frz ob (.tup xs)) from I1.hok p _ e)
      obtain ⟨ob', h3, h4, _⟩ := hT
      rw [h1] at h3
      cases h3
      exact ⟨⟨ob, h1, h4⟩, fun a e => by cases e; exact ⟨ob, h1, hd⟩⟩
    · cases r1
      exact ⟨⟨ob, I1.kIn p ob hk, hc⟩, fun a e => by cases e; exact ⟨ob, I1.kIn _ ob hk, hd⟩⟩
  obtain ⟨h1, h2⟩ := h12
  refine ⟨"tuple", id, pa, slot, hty, h1, h2, ?_⟩
  have hA := ha.run cpos pins s1 σ H1 _ I1 q1
  rw [hs] at hA ⊢
  refine Calls.callWith_builtin (by show (false || (backTo cpos (starEach es X.env)).any (·.1)) = false; rw [hplain] <;> rfl) (Calls.evalArgs_plain ?_)
  exact thn hA fun us s2 ⟨vs, H2, I2, r2, q2⟩ => hm pins s2 σ H2 x vs v us Q I2 r1 r2 q2
end
end FB
set_option Elab.async false
set_option linter.all false
set_option maxRecDepth 100000
set_option maxHeartbeats 4000000
/-! FB0: values as data, a store of mutable cells, what represents what. -/
namespace FB
open PySem PySem.Spec PyProof.Rows L2

/-- a value: pure data, a mutable cell of the store, sequences of such, an exception -/
inductive Dv where
  | p (x : PyData)
  | ref (i : Nat)
  | tupD (xs : List Dv)
  | lstD (xs : List Dv)
  | exc (c : Str) (fs : List (Str × PyData))
  | frz (ns : List Int)
  deriving Inhabited

inductive Cl where
  | lst (xs : List Dv)
  | dK (kvs : List (Key × Dv))
  | dT (kvs : List (List Key × Dv))
  | dead
  deriving Inhabited

abbrev So := List Cl
abbrev Sl := List (Option Dv)

inductive Rs (α : Type) where
  | ok (a : α) (st : So)
  | exc (c : Str) (fs : List (Str × PyData)) (st : So)
  | stuck

inductive Ss where
  | nx (ρ : Sl) (st : So)
  | ret (d : Dv) (st : So)
  | brk (ρ : Sl) (st : So)
  | cnt (ρ : Sl) (st : So)
  | exc (c : Str) (fs : List (Str × PyData)) (ρ : Sl) (st : So)
  | stuck

def Rs.bind {α β : Type} : Rs α → (α → So → Rs β) → Rs β
  | .ok a st, f => f a st
  | .exc c fs st, _ => .exc c fs st
  | .stuck, _ => .stuck

abbrev FE := Sl → So → Rs Dv
abbrev FT := Sl → So → Rs Bool
abbrev FA := Sl → So → Rs (List Dv)
abbrev FS := Sl → So → Ss
abbrev FG := Dv → Sl → So → Rs Sl
abbrev FD := List Dv → So → Rs Dv

/-- where the cells stand; which addresses stay as they are -/
structure Wd where
  m : Nat → Addr
  I : Addr → Prop
  /-- what is neither data nor a cell, and stays (a list in the making) -/
  F : Addr → Prop

def KTup (K : PySem.W.Frag) (a : Addr) (xs : List V) : Prop :=
  ∃ (o : Obj) (its : Array Value) (n : Nat), K.lookup a = some o ∧ o.cls = .type "tuple" ∧ o.data = .seq its n ∧ its.size ≤ sizeLine ∧ Vals xs its.toList ∧ o.dict = none
def SL (I : Addr → Prop) (H : Hp) (a : Addr) (xs : List V) : Prop := I a ∧ H a = some (.lst xs)
/-- a tuple without attributes -/
def ST (K : PySem.W.Frag) (I : Addr → Prop) (H : Hp) (a : Addr) (xs : List V) : Prop := (I a ∧ ∃ o, o.dict = none ∧ H a = some (.frz o (.tup xs))) ∨ KTup K a xs
/-- any tuple -/
def SU (K : PySem.W.Frag) (I : Addr → Prop) (H : Hp) (a : Addr) (xs : List V) : Prop := (I a ∧ H a = some (.tup xs)) ∨ ST K I H a xs
theorem SL.sq {K : PySem.W.Frag} {I : Addr → Prop} {H : Hp} {a : Addr} {xs : List V} (h : SL I H a xs) : SqL K H a xs := .of h.2
theorem ST.sq {K : PySem.W.Frag} {I : Addr → Prop} {H : Hp} {a : Addr} {xs : List V} (h : ST K I H a xs) : SqT K H a xs := h.elim (fun ⟨_, o, _, e⟩ => .inl (.inr ⟨o, e⟩)) fun ⟨o, its, n, h1, h2, h3, h4, h5, _⟩ => .inr ⟨o, its, n, h1, h2, h3, h4, h5⟩
theorem ST.tm {K : PySem.W.Frag} {I : Addr → Prop} {H : Hp} {a : Addr} {xs : List V} (h : ST K I H a xs) : TupM K H a xs := h.elim (fun ⟨_, o, d, e⟩ => .inl ⟨o, d, e⟩) .inr
theorem SU.sq {K : PySem.W.Frag} {I : Addr → Prop} {H : Hp} {a : Addr} {xs : List V} (h : SU K I H a xs) : SqT K H a xs := h.elim (fun z => .of z.2) ST.sq

/-- the script: a list that is only read -/
def FZ (K : PySem.W.Frag) (I : Addr → Prop) (H : Hp) (a : Addr) (xs : List V) : Prop := (I a ∧ ∃ o, H a = some (.frz o (.lst xs))) ∨
  ∃ (o : Obj) (its : Array Value) (n : Nat), K.lookup a = some o ∧ o.cls = .type "list" ∧ o.dict = none ∧ o.data = .seq its n ∧ its.size ≤ sizeLine ∧ Vals xs its.toList
theorem FZ.sq {K : PySem.W.Frag} {I : Addr → Prop} {H : Hp} {a : Addr} {xs : List V} (h : FZ K I H a xs) : SqL K H a xs := h.elim (fun ⟨_, o, e⟩ => .inl (.inr ⟨o, e⟩)) .inr
/-- a key of a dict, as data -/
def keyP : Key → PyData
  | .inl i => .int i
  | .inr x => .str x

mutual
inductive RP (K : PySem.W.Frag) (I : Addr → Prop) (H : Hp) : PyData → V → Prop
  | non : RP K I H .none .non
  | bl (b : Bool) : RP K I H (.bool b) (.bl b)
  | int (i : Int) : RP K I H (.int i) (.int i)
  | str (x : Str) : RP K I H (.str x) (.str x)
  | lst {a : Addr} {vs : List V} {ds : List PyData} : SL I H a vs → RPs K I H ds vs → RP K I H (.list ds) (.ref a)
  | tup {a : Addr} {vs : List V} {ds : List PyData} : ST K I H a vs → RPs K I H ds vs → RP K I H (.tuple ds) (.ref a)
  | dct {a : Addr} {kvs : List (Key × V)} {ds : List (PyData × PyData)} : I a → H a = some (.dK kvs) → RPk K I H ds kvs → RP K I H (.dict ds) (.ref a)
inductive RPs (K : PySem.W.Frag) (I : Addr → Prop) (H : Hp) : List PyData → List V → Prop
  | nil : RPs K I H [] []
  | cons {d : PyData} {v : V} {ds : List PyData} {vs : List V} : RP K I H d v → RPs K I H ds vs → RPs K I H (d :: ds) (v :: vs)
inductive RPk (K : PySem.W.Frag) (I : Addr → Prop) (H : Hp) : List (PyData × PyData) → List (Key × V) → Prop
  | nil : RPk K I H [] []
  | cons {k : Key} {d : PyData} {v : V} {ds : List (PyData × PyData)} {kvs : List (Key × V)} : RP K I H d v → RPk K I H ds kvs → RPk K I H ((keyP k, d) :: ds) ((k, v) :: kvs)
end

/-- I and what is readable there only grows -/
structure Gro (I : Addr → Prop) (H : Hp) (I' : Addr → Prop) (H' : Hp) : Prop where
  inc : ∀ a, I a → I' a
  imm : ∀ a u, I a → H a = some u → H' a = some u
theorem Gro.refl {I : Addr → Prop} {H : Hp} : Gro I H I H := ⟨fun _ h => h, fun _ _ _ h => h⟩
theorem Gro.trans {I I1 I2 : Addr → Prop} {H H1 H2 : Hp} (a : Gro I H I1 H1) (b : Gro I1 H1 I2 H2) : Gro I H I2 H2 := ⟨fun x h => b.inc x (a.inc x h), fun x u h r => b.imm x u (a.inc x h) (a.imm x u h r)⟩

section
variable {K : PySem.W.Frag} {I I' : Addr → Prop} {H H' : Hp}
theorem SL.mono (g : Gro I H I' H') {a : Addr} {xs : List V} (h : SL I H a xs) : SL I' H' a xs := ⟨g.inc _ h.1, g.imm _ _ h.1 h.2⟩
theorem ST.mono (g : Gro I H I' H') {a : Addr} {xs : List V} (h : ST K I H a xs) : ST K I' H' a xs := h.elim (fun ⟨i, o, d, e⟩ => .inl ⟨g.inc _ i, o, d, g.imm _ _ i e⟩) .inr
theorem SU.mono (g : Gro I H I' H') {a : Addr} {xs : List V} (h : SU K I H a xs) : SU K I' H' a xs := h.elim (fun z => .inl ⟨g.inc _ z.1, g.imm _ _ z.1 z.2⟩) fun z => .inr (z.mono g)
theorem FZ.mono (g : Gro I H I' H') {a : Addr} {xs : List V} (h : FZ K I H a xs) : FZ K I' H' a xs := h.elim (fun ⟨i, o, e⟩ => .inl ⟨g.inc _ i, o, g.imm _ _ i e⟩) .inr
mutual
theorem RP.mono (g : Gro I H I' H') : ∀ {d : PyData} {v : V}, RP K I H d v → RP K I' H' d v
  | _, _, .non => .non
  | _, _, .bl b => .bl b
  | _, _, .int i => .int i
  | _, _, .str x => .str x
  | _, _, .lst h hs => .lst (h.mono g) (RPs.mono g hs)
  | _, _, .tup h hs => .tup (h.mono g) (RPs.mono g hs)
  | _, _, .dct h r hs => .dct (g.inc _ h) (g.imm _ _ h r) (RPk.mono g hs)
theorem RPs.mono (g : Gro I H I' H') : ∀ {ds : List PyData} {vs : List V}, RPs K I H ds vs → RPs K I' H' ds vs
  | _, _, .nil => .nil
  | _, _, .cons h hs => .cons (RP.mono g h) (RPs.mono g hs)
theorem RPk.mono (g : Gro I H I' H') : ∀ {ds : List (PyData × PyData)} {vs : List (Key × V)}, RPk K I H ds vs → RPk K I' H' ds vs
  | _, _, .nil => .nil
  | _, _, .cons h hs => .cons (RP.mono g h) (RPk.mono g hs)
end
theorem RPs.length : ∀ {ds : List PyData} {vs : List V}, RPs K I H ds vs → ds.length = vs.length
  | _, _, .nil => rfl
  | _, _, .cons _ hs => by simp only [List.length_cons, RPs.length hs]
theorem RPs.append : ∀ {ds es : List PyData} {vs us : List V}, RPs K I H ds vs → RPs K I H es us → RPs K I H (ds ++ es) (vs ++ us)
  | _, _, _, _, .nil, h => h
  | _, _, _, _, .cons h hs, h' => .cons h (RPs.append hs h')
theorem RPs.get : ∀ {ds : List PyData} {vs : List V} {i : Nat} {d : PyData}, RPs K I H ds vs → ds[i]? = some d → ∃ v, vs[i]? = some v ∧ RP K I H d v
  | _, _, _, _, .nil, h => by simp at h
  | _, _, 0, _, .cons h _, e => by
    simp only [List.getElem?_cons_zero, Option.some.injEq] at e
    subst e
    exact ⟨_, rfl, h⟩
  | _, _, i + 1, d, .cons _ hs, e => by
    obtain ⟨v, h1, h2⟩ := RPs.get (i := i) (d := d) hs (by simpa using e)
    exact ⟨v, by simpa using h1, h2⟩
theorem RPs.take : ∀ {ds : List PyData} {vs : List V} (n : Nat), RPs K I H ds vs → RPs K I H (ds.take n) (vs.take n)
  | _, _, 0, _ => by simpa using RPs.nil
  | _, _, _ + 1, .nil => .nil
  | _, _, n + 1, .cons h hs => .cons h (RPs.take n hs)
theorem RPs.drop : ∀ {ds : List PyData} {vs : List V} (n : Nat), RPs K I H ds vs → RPs K I H (ds.drop n) (vs.drop n)
  | _, _, 0, h => h
  | _, _, _ + 1, .nil => .nil
  | _, _, n + 1, .cons _ hs => RPs.drop n hs
theorem RPs.reverse : ∀ {ds : List PyData} {vs : List V}, RPs K I H ds vs → RPs K I H ds.reverse vs.reverse
  | _, _, .nil => .nil
  | _, _, .cons h hs => by
    rw [List.reverse_cons, List.reverse_cons]
    exact (RPs.reverse hs).append (.cons h .nil)
mutual
theorem RP.dp : ∀ {d : PyData} {v : V}, RP K I H d v → d.canLay0 = true → Dp K H v d
  | _, _, .non, _ => .non
  | _, _, .bl b, _ => .bl b
  | _, _, .int i, _ => .int i
  | _, _, .str x, _ => .str x
  | _, _, .lst h hs, e => .lst h.sq (RPs.dp hs (by simpa [PyData.canLay0] using e))
  | _, _, .tup h hs, e => .tup h.sq (RPs.dp hs (by simpa [PyData.canLay0] using e))
  | _, _, .dct _ _ _, e => by simp [PyData.canLay0] at e
theorem RPs.dp : ∀ {ds : List PyData} {vs : List V}, RPs K I H ds vs → PyData.canLayAll0 ds = true → DpAll K H vs ds
  | _, _, .nil, _ => .nil
  | _, _, .cons h hs, e => by
    simp only [PyData.canLayAll0, Bool.and_eq_true] at e
    exact .cons (RP.dp h e.1) (RPs.dp hs e.2)
end
end

/-- an exception without attributes: its class -/
def excT (a C : Addr) : HO := .ext fun h => ∃ o, h.get? a = some o ∧ o.cls = .ref C ∧ o.dict = none ∧ ∃ vs, o.data = .fields vs
mutual
inductive RD (K : PySem.W.Frag) (mg : Str → Option Value) (n : Nat) (w : Wd) (H : Hp) : Dv → V → Prop
  | p {x : PyData} {v : V} : RP K w.I H x v → RD K mg n w H (.p x) v
  | ref {i : Nat} : i < n → RD K mg n w H (.ref i) (.ref (w.m i))
  | tupD {a : Addr} {vs : List V} {ds : List Dv} : SU K w.I H a vs → RDs K mg n w H ds vs → RD K mg n w H (.tupD ds) (.ref a)
  | lstD {a : Addr} {vs : List V} {ds : List Dv} : SL w.I H a vs → RDs K mg n w H ds vs → RD K mg n w H (.lstD ds) (.ref a)
  | frz {a : Addr} {ns : List Int} : FZ K w.I H a (ns.map V.int) → RD K mg n w H (.frz ns) (.ref a)
  | exc {a C : Addr} {c : Str} : mg c = some (.ref C) → w.I a → H a = some (excT a C) → RD K mg n w H (.exc c []) (.ref a)
inductive RDs (K : PySem.W.Frag) (mg : Str → Option Value) (n : Nat) (w : Wd) (H : Hp) : List Dv → List V → Prop
  | nil : RDs K mg n w H [] []
  | cons {d : Dv} {v : V} {ds : List Dv} {vs : List V} : RD K mg n w H d v → RDs K mg n w H ds vs → RDs K mg n w H (d :: ds) (v :: vs)
end

/-- from one state to a later one -/
structure Stp (n : Nat) (w : Wd) (H : Hp) (n' : Nat) (w' : Wd) (H' : Hp) : Prop where
  le : n ≤ n'
  ext : ∀ i, i < n → w'.m i = w.m i
  gro : Gro w.I H w'.I H'
  frm : Gro w.F H w'.F H'
theorem Stp.refl {n : Nat} {w : Wd} {H : Hp} : Stp n w H n w H := ⟨Nat.le_refl _, fun _ _ => rfl, .refl, .refl⟩
theorem Stp.trans {n n1 n2 : Nat} {w w1 w2 : Wd} {H H1 H2 : Hp} (a : Stp n w H n1 w1 H1) (b : Stp n1 w1 H1 n2 w2 H2) : Stp n w H n2 w2 H2 :=
  ⟨Nat.le_trans a.le b.le, fun i h => (b.ext i (Nat.lt_of_lt_of_le h a.le)).trans (a.ext i h), a.gro.trans b.gro, a.frm.trans b.frm⟩

section
variable {K : PySem.W.Frag} {mg : Str → Option Value} {n n' : Nat} {w w' : Wd} {H H' : Hp}
mutual
theorem RD.mono (g : Stp n w H n' w' H') : ∀ {d : Dv} {v : V}, RD K mg n w H d v → RD K mg n' w' H' d v
  | _, _, .p h => .p (h.mono g.gro)
  | _, _, .ref h => by
    rw [← g.ext _ h]
    exact .ref (Nat.lt_of_lt_of_le h g.le)
  | _, _, .tupD h hs => .tupD (h.mono g.gro) (RDs.mono g hs)
  | _, _, .lstD h hs => .lstD (h.mono g.gro) (RDs.mono g hs)
  | _, _, .frz h => .frz (h.mono g.gro)
  | _, _, .exc m i e => .exc m (g.gro.inc _ i) (g.gro.imm _ _ i e)
theorem RDs.mono (g : Stp n w H n' w' H') : ∀ {ds : List Dv} {vs : List V}, RDs K mg n w H ds vs → RDs K mg n' w' H' ds vs
  | _, _, .nil => .nil
  | _, _, .cons h hs => .cons (RD.mono g h) (RDs.mono g hs)
end
theorem RDs.length : ∀ {ds : List Dv} {vs : List V}, RDs K mg n w H ds vs → ds.length = vs.length
  | _, _, .nil => rfl
  | _, _, .cons _ hs => by simp only [List.length_cons, RDs.length hs]
theorem RDs.append : ∀ {ds es : List Dv} {vs us : List V}, RDs K mg n w H ds vs → RDs K mg n w H es us → RDs K mg n w H (ds ++ es) (vs ++ us)
  | _, _, _, _, .nil, h => h
  | _, _, _, _, .cons h hs, h' => .cons h (RDs.append hs h')
theorem RDs.get : ∀ {ds : List Dv} {vs : List V} {i : Nat} {d : Dv}, RDs K mg n w H ds vs → ds[i]? = some d → ∃ v, vs[i]? = some v ∧ RD K mg n w H d v
  | _, _, _, _, .nil, h => by simp at h
  | _, _, 0, _, .cons h _, e => by
    simp only [List.getElem?_cons_zero, Option.some.injEq] at e
    subst e
    exact ⟨_, rfl, h⟩
  | _, _, i + 1, d, .cons _ hs, e => by
    obtain ⟨v, h1, h2⟩ := RDs.get (i := i) (d := d) hs (by simpa using e)
    exact ⟨v, by simpa using h1, h2⟩
theorem RDs.set {d : Dv} {v : V} (h : RD K mg n w H d v) : ∀ {ds : List Dv} {vs : List V} (i : Nat), RDs K mg n w H ds vs → RDs K mg n w H (ds.set i d) (vs.set i v)
  | _, _, _, .nil => .nil
  | _, _, 0, .cons _ hs => .cons h hs
  | _, _, i + 1, .cons q hs => .cons q (RDs.set h i hs)
theorem RDs.take : ∀ {ds : List Dv} {vs : List V} (k : Nat), RDs K mg n w H ds vs → RDs K mg n w H (ds.take k) (vs.take k)
  | _, _, 0, _ => by simpa using RDs.nil
  | _, _, _ + 1, .nil => .nil
  | _, _, k + 1, .cons h hs => .cons h (RDs.take k hs)
theorem RDs.drop : ∀ {ds : List Dv} {vs : List V} (k : Nat), RDs K mg n w H ds vs → RDs K mg n w H (ds.drop k) (vs.drop k)
  | _, _, 0, h => h
  | _, _, _ + 1, .nil => .nil
  | _, _, k + 1, .cons _ hs => RDs.drop k hs
theorem RDs.eraseIdx : ∀ {ds : List Dv} {vs : List V} (k : Nat), RDs K mg n w H ds vs → RDs K mg n w H (ds.eraseIdx k) (vs.eraseIdx k)
  | _, _, _, .nil => .nil
  | _, _, 0, .cons _ hs => hs
  | _, _, k + 1, .cons h hs => .cons h (RDs.eraseIdx k hs)
theorem RDs.ofP : ∀ {ds : List PyData} {vs : List V}, RPs K w.I H ds vs → RDs K mg n w H (ds.map Dv.p) vs
  | _, _, .nil => .nil
  | _, _, .cons h hs => .cons (.p h) (RDs.ofP hs)
/-- all of them pure data -/
def pures : List Dv → Option (List PyData)
  | [] => some []
  | .p x :: r => (pures r).map (x :: ·)
  | _ :: _ => none
theorem pures_map : ∀ ds : List PyData, pures (ds.map Dv.p) = some ds
  | [] => rfl
  | d :: ds => by
    show (pures (ds.map Dv.p)).map (d :: ·) = some (d :: ds)
    rw [pures_map ds]; rfl
theorem pures_eq : ∀ {ds : List Dv} {xs : List PyData}, pures ds = some xs → ds = xs.map Dv.p
  | [], xs, h => by cases h; rfl
  | .p x :: r, xs, h => by
    have h' : (pures r).map (x :: ·) = some xs := h
    cases e : pures r with
    | none => rw [e] at h'; cases h'
    | some ys =>
      rw [e] at h'
      cases h'
      rw [pures_eq e]; rfl
  | .ref _ :: _, _, h => by cases h
  | .tupD _ :: _, _, h => by cases h
  | .lstD _ :: _, _, h => by cases h
  | .exc _ _ :: _, _, h => by cases h
  | .frz _ :: _, _, h => by cases h
theorem RDs.toP : ∀ {ds : List Dv} {xs : List PyData} {vs : List V}, RDs K mg n w H ds vs → pures ds = some xs → RPs K w.I H xs vs
  | _, _, _, h, e => by
    rw [pures_eq e] at h
    exact go h
where go : ∀ {xs : List PyData} {vs : List V}, RDs K mg n w H (xs.map Dv.p) vs → RPs K w.I H xs vs
  | [], _, h => by cases h; exact .nil
  | x :: xs, _, h => by
    cases h with
    | cons h1 h2 =>
      cases h1 with
      | p q => exact .cons q (go h2)
end

/-! ### the store -/
def live (st : So) (i : Nat) : Prop := ∃ c, st[i]? = some c ∧ c ≠ .dead
def CellOk (K : PySem.W.Frag) (mg : Str → Option Value) (n : Nat) (w : Wd) (H : Hp) (a : Addr) : Cl → Prop
  | .lst xs => ∃ vs, H a = some (.lst vs) ∧ RDs K mg n w H xs vs ∧ ¬ w.I a
  | .dK kvs => ∃ kws, H a = some (.dK kws) ∧ Paired (fun (p : Key × Dv) (q : Key × V) => p.1 = q.1 ∧ RD K mg n w H p.2 q.2) kvs kws ∧ ¬ w.I a
  | .dT kvs => ∃ kws, H a = some (.dT kws) ∧ Paired (fun (p : List Key × Dv) (q : List Key × V) => p.1 = q.1 ∧ RD K mg n w H p.2 q.2) kvs kws ∧ ¬ w.I a
  | .dead => True
structure Sim (K : PySem.W.Frag) (mg : Str → Option Value) (w : Wd) (st : So) (H : Hp) : Prop where
  cell : ∀ i c, st[i]? = some c → CellOk K mg st.length w H (w.m i) c
  inj : ∀ i j, live st i → live st j → w.m i = w.m j → i = j
  trk : ∀ a, w.I a → ∃ o, H a = some o
  fr : ∀ a, w.F a → (∃ o, H a = some o) ∧ ¬ w.I a ∧ ∀ i, live st i → w.m i ≠ a
section
variable {K : PySem.W.Frag} {mg : Str → Option Value} {n n' : Nat} {w w' : Wd} {st : So} {H H' : Hp} {a p : Addr} {c : Cl} {o : HO}
theorem Paired.imp {α β : Type} {F G : α → β → Prop} (f : ∀ a b, F a b → G a b) : ∀ {l : List α} {m : List β}, Paired F l m → Paired G l m
  | _, _, .nil => .nil
  | _, _, .cons h t => .cons (f _ _ h) (Paired.imp f t)
theorem CellOk.mono (g : Stp n w H n' w' H') (hH : c ≠ .dead → H' a = H a ∧ (w'.I a → w.I a)) (h : CellOk K mg n w H a c) : CellOk K mg n' w' H' a c := by
  cases c with
  | lst xs =>
    obtain ⟨vs, e, r, ni⟩ := h
    obtain ⟨e1, e2⟩ := hH (by simp)
    exact ⟨vs, by rw [e1, e], r.mono g, fun z => ni (e2 z)⟩
  | dK kvs =>
    obtain ⟨vs, e, r, ni⟩ := h
    obtain ⟨e1, e2⟩ := hH (by simp)
    exact ⟨vs, by rw [e1, e], Paired.imp (fun _ _ z => ⟨z.1, z.2.mono g⟩) r, fun z => ni (e2 z)⟩
  | dT kvs =>
    obtain ⟨vs, e, r, ni⟩ := h
    obtain ⟨e1, e2⟩ := hH (by simp)
    exact ⟨vs, by rw [e1, e], Paired.imp (fun _ _ z => ⟨z.1, z.2.mono g⟩) r, fun z => ni (e2 z)⟩
  | dead => trivial
theorem CellOk.tracked (h : CellOk K mg n w H a c) (hc : c ≠ .dead) : (∃ o, H a = some o) ∧ ¬ w.I a := by
  cases c with
  | lst xs => obtain ⟨_, e, _, ni⟩ := h; exact ⟨⟨_, e⟩, ni⟩
  | dK kvs => obtain ⟨_, e, _, ni⟩ := h; exact ⟨⟨_, e⟩, ni⟩
  | dT kvs => obtain ⟨_, e, _, ni⟩ := h; exact ⟨⟨_, e⟩, ni⟩
  | dead => exact absurd rfl hc
mutual
theorem RD.noF {F : Addr → Prop} : ∀ {d : Dv} {v : V}, RD K mg n w H d v → RD K mg n { w with F := F } H d v
  | _, _, .p h => .p h
  | _, _, .ref h => .ref (w := { w with F := F }) h
  | _, _, .tupD h hs => .tupD h (RDs.noF hs)
  | _, _, .lstD h hs => .lstD h (RDs.noF hs)
  | _, _, .frz h => .frz h
  | _, _, .exc m i e => .exc m i e
theorem RDs.noF {F : Addr → Prop} : ∀ {ds : List Dv} {vs : List V}, RDs K mg n w H ds vs → RDs K mg n { w with F := F } H ds vs
  | _, _, .nil => .nil
  | _, _, .cons h hs => .cons (RD.noF h) (RDs.noF hs)
end
theorem CellOk.noF (h : CellOk K mg n w H a c) : CellOk K mg n { w with F := fun _ => False } H a c := by
  cases c with
  | lst xs =>
    obtain ⟨vs, e, r, ni⟩ := h
    exact ⟨vs, e, r.noF, ni⟩
  | dK kvs =>
    obtain ⟨vs, e, r, ni⟩ := h
    exact ⟨vs, e, Paired.imp (fun _ _ z => ⟨z.1, z.2.noF⟩) r, ni⟩
  | dT kvs =>
    obtain ⟨vs, e, r, ni⟩ := h
    exact ⟨vs, e, Paired.imp (fun _ _ z => ⟨z.1, z.2.noF⟩) r, ni⟩
  | dead => trivial
theorem Sim.tracked (s : Sim K mg w st H) {i : Nat} (h : live st i) : (∃ o, H (w.m i) = some o) ∧ ¬ w.I (w.m i) := by
  obtain ⟨c, e, hc⟩ := h
  exact (s.cell i c e).tracked hc
/-- I with one more -/
def Wd.imm (w : Wd) (p : Addr) : Wd := { w with I := fun a => a = p ∨ w.I a }
/-- m with one more -/
def Wd.cel (w : Wd) (n : Nat) (p : Addr) : Wd := { w with m := fun i => if i = n then p else w.m i }
theorem rd_upd (hp : H p = none) {u : HO} (h : H a = some u) : upd H p o a = some u := by
  rw [upd_ne (ne_of_none h hp)]; exact h
/-- a new object that stays: a tuple, a list, a dict that nothing changes -/
theorem Sim.newP (s : Sim K mg w st H) (hp : H p = none) : Stp st.length w H st.length (w.imm p) (upd H p o) ∧ Sim K mg (w.imm p) st (upd H p o) := by
  have g : Stp st.length w H st.length (w.imm p) (upd H p o) := ⟨Nat.le_refl _, fun _ _ => rfl, ⟨fun a h => .inr h, fun a u _ r => rd_upd hp r⟩, ⟨fun a h => h, fun a u _ r => rd_upd hp r⟩⟩
  refine ⟨g, fun i c e => ?_, s.inj, fun a h => ?_, fun a h => ?_⟩
  · refine (s.cell i c e).mono g fun hc => ?_
    obtain ⟨⟨z, hz⟩, _⟩ := (s.cell i c e).tracked hc
    have ne : w.m i ≠ p := ne_of_none hz hp
    exact ⟨upd_ne ne, fun q => q.elim (fun q => absurd q ne) id⟩
  · rcases h with h | h
    · exact ⟨o, by rw [h, upd_same]⟩
    · obtain ⟨z, hz⟩ := s.trk a h
      exact ⟨z, by rw [upd_ne (ne_of_none hz hp)]; exact hz⟩
  · obtain ⟨⟨z, hz⟩, h2, h3⟩ := s.fr a h
    exact ⟨⟨z, rd_upd hp hz⟩, fun q => q.elim (fun q => ne_of_none hz hp q) h2, h3⟩
theorem live_append {st : So} {c : Cl} {i : Nat} (h : live (st ++ [c]) i) : live st i ∨ i = st.length := by
  obtain ⟨d, e, hd⟩ := h
  by_cases hi : i < st.length
  · rw [List.getElem?_append_left hi] at e
    exact .inl ⟨d, e, hd⟩
  · have : i < (st ++ [c]).length := (List.getElem?_eq_some_iff.mp e).1
    rw [List.length_append, List.length_singleton] at this
    exact .inr (by omega)
theorem live_lt {st : So} {i : Nat} (h : live st i) : i < st.length := by
  obtain ⟨c, e, _⟩ := h
  exact (List.getElem?_eq_some_iff.mp e).1
/-- a new cell -/
theorem Sim.newC (s : Sim K mg w st H) (hp : H p = none) (hc : ∀ {n' w' H'}, Stp st.length w H n' w' H' → H' p = some o → ¬ w'.I p → CellOk K mg n' w' H' p c) :
    Stp st.length w H (st.length + 1) (w.cel st.length p) (upd H p o) ∧ Sim K mg (w.cel st.length p) (st ++ [c]) (upd H p o) := by
  have g : Stp st.length w H (st.length + 1) (w.cel st.length p) (upd H p o) := by
    refine ⟨Nat.le_succ _, fun i hi => ?_, ⟨fun a h => h, fun a u _ r => rd_upd hp r⟩, ⟨fun a h => h, fun a u _ r => rd_upd hp r⟩⟩
    show (if i = st.length then p else w.m i) = w.m i
    rw [if_neg (Nat.ne_of_lt hi)]
  have nI : ¬ w.I p := fun z => by
    obtain ⟨q, e⟩ := s.trk p z
    rw [hp] at e; cases e
  have mi : ∀ i, i < st.length → (w.cel st.length p).m i = w.m i := fun i hi => g.ext i hi
  have ml : (w.cel st.length p).m st.length = p := by
    show (if st.length = st.length then p else _) = p
    rw [if_pos rfl]
  refine ⟨g, fun i d e => ?_, fun i j hi hj e => ?_, fun a h => ?_, fun a h => ?_⟩
  · rw [List.length_append, List.length_singleton]
    by_cases hi : i < st.length
    · rw [List.getElem?_append_left hi] at e
      rw [mi i hi]
      refine (s.cell i d e).mono g fun hd => ?_
      obtain ⟨⟨z, hz⟩, _⟩ := (s.cell i d e).tracked hd
      exact ⟨upd_ne (ne_of_none hz hp), id⟩
    · have hl : i < (st ++ [c]).length := (List.getElem?_eq_some_iff.mp e).1
      rw [List.length_append, List.length_singleton] at hl
      have ei : i = st.length := by omega
      subst ei
      rw [List.getElem?_append_right (Nat.le_refl _), Nat.sub_self] at e
      simp only [List.getElem?_cons_zero, Option.some.injEq] at e
      subst e
      rw [ml]
      exact hc g upd_same nI
  · rcases live_append hi with li | ei <;> rcases live_append hj with lj | ej
    · rw [mi i (live_lt li), mi j (live_lt lj)] at e
      exact s.inj i j li lj e
    · subst ej
      rw [mi i (live_lt li), ml] at e
      obtain ⟨⟨z, hz⟩, _⟩ := s.tracked li
      exact absurd e (ne_of_none hz hp)
    · subst ei
      rw [mi j (live_lt lj), ml] at e
      obtain ⟨⟨z, hz⟩, _⟩ := s.tracked lj
      exact absurd e.symm (ne_of_none hz hp)
    · rw [ei, ej]
  · obtain ⟨z, hz⟩ := s.trk a h
    exact ⟨z, by rw [upd_ne (ne_of_none hz hp)]; exact hz⟩
  · obtain ⟨⟨z, hz⟩, h2, h3⟩ := s.fr a h
    refine ⟨⟨z, rd_upd hp hz⟩, h2, fun i hi => ?_⟩
    rcases live_append hi with li | ei
    · rw [mi i (live_lt li)]
      exact h3 i li
    · subst ei
      rw [ml]
      exact (ne_of_none hz hp).symm
theorem live_set {st : So} {c : Cl} {i j : Nat} (hj : live st j) (h : live (st.set j c) i) : live st i := by
  obtain ⟨d, e, hd⟩ := h
  by_cases hij : j = i
  · subst hij; exact hj
  · rw [List.getElem?_set_ne hij] at e
    exact ⟨d, e, hd⟩
/-- a cell is written -/
theorem Sim.wr (s : Sim K mg w st H) {j : Nat} (hj : live st j) (hc : ∀ {w' H'}, Stp st.length w H st.length w' H' → H' (w.m j) = some o → ¬ w'.I (w.m j) → CellOk K mg st.length w' H' (w.m j) c) :
    Stp st.length w H st.length w (upd H (w.m j) o) ∧ Sim K mg w (st.set j c) (upd H (w.m j) o) := by
  obtain ⟨⟨oj, hoj⟩, nI⟩ := s.tracked hj
  have g : Stp st.length w H st.length w (upd H (w.m j) o) := by
    refine ⟨Nat.le_refl _, fun i hi => rfl, ⟨fun a h => h, fun a u ia r => ?_⟩, ⟨fun a h => h, fun a u ia r => ?_⟩⟩
    · have ne : a ≠ w.m j := fun z => nI (z ▸ ia)
      rw [upd_ne ne]; exact r
    · rw [upd_ne ((s.fr a ia).2.2 j hj).symm]; exact r
  refine ⟨g, fun i d e => ?_, fun i k hi hk e => s.inj i k (live_set hj hi) (live_set hj hk) e, fun a h => ?_, fun a h => ?_⟩
  · rw [List.length_set]
    by_cases hij : j = i
    · subst hij
      rw [List.getElem?_set_self (live_lt hj)] at e
      simp only [Option.some.injEq] at e
      subst e
      exact hc g upd_same nI
    · rw [List.getElem?_set_ne hij] at e
      refine (s.cell i d e).mono g fun hd => ?_
      have ne : w.m i ≠ w.m j := fun z => hij (s.inj i j ⟨d, e, hd⟩ hj z).symm
      exact ⟨upd_ne ne, id⟩
  · by_cases e : a = w.m j
    · exact ⟨o, by rw [e, upd_same]⟩
    · obtain ⟨z, hz⟩ := s.trk a h
      exact ⟨z, by rw [upd_ne e]; exact hz⟩
  · obtain ⟨⟨z, hz⟩, h2, h3⟩ := s.fr a h
    exact ⟨⟨z, by rw [upd_ne (h3 j hj).symm]; exact hz⟩, h2, fun i hi => h3 i (live_set hj hi)⟩
/-- a cell that is not changed any more becomes data -/
theorem Sim.frz (s : Sim K mg w st H) {j : Nat} (hj : live st j) : Stp st.length w H st.length (w.imm (w.m j)) H ∧ Sim K mg (w.imm (w.m j)) (st.set j .dead) H := by
  obtain ⟨⟨oj, hoj⟩, nI⟩ := s.tracked hj
  have g : Stp st.length w H st.length (w.imm (w.m j)) H := ⟨Nat.le_refl _, fun _ _ => rfl, ⟨fun a h => .inr h, fun _ _ _ r => r⟩, .refl⟩
  refine ⟨g, fun i d e => ?_, fun i k hi hk e => s.inj i k (live_set hj hi) (live_set hj hk) e, fun a h => ?_, fun a h => ?_⟩
  · rw [List.length_set]
    by_cases hij : j = i
    · subst hij
      rw [List.getElem?_set_self (live_lt hj)] at e
      simp only [Option.some.injEq] at e
      subst e
      trivial
    · rw [List.getElem?_set_ne hij] at e
      refine (s.cell i d e).mono g fun hd => ⟨rfl, fun q => q.elim (fun q => ?_) id⟩
      exact absurd (s.inj i j ⟨d, e, hd⟩ hj q).symm hij
  · rcases h with h | h
    · exact ⟨oj, by rw [h]; exact hoj⟩
    · exact s.trk a h
  · obtain ⟨h1, h2, h3⟩ := s.fr a h
    exact ⟨h1, fun q => q.elim (fun q => h3 j hj q.symm) h2, fun i hi => h3 i (live_set hj hi)⟩
/-- something is set aside: neither data nor a cell -/
def Wd.aside (w : Wd) (p : Addr) : Wd := { w with F := fun a => a = p ∨ w.F a }
theorem Sim.put (s : Sim K mg w st H) (hp : H p = none) : Stp st.length w H st.length (w.aside p) (upd H p o) ∧ Sim K mg (w.aside p) st (upd H p o) := by
  have g : Stp st.length w H st.length (w.aside p) (upd H p o) := ⟨Nat.le_refl _, fun _ _ => rfl, ⟨fun a h => h, fun a u _ r => rd_upd hp r⟩, ⟨fun a h => .inr h, fun a u _ r => rd_upd hp r⟩⟩
  refine ⟨g, fun i c e => ?_, s.inj, fun a h => ?_, fun a h => ?_⟩
  · refine (s.cell i c e).mono g fun hc => ?_
    obtain ⟨⟨z, hz⟩, _⟩ := (s.cell i c e).tracked hc
    exact ⟨upd_ne (ne_of_none hz hp), id⟩
  · obtain ⟨z, hz⟩ := s.trk a h
    exact ⟨z, rd_upd hp hz⟩
  · rcases h with h | h
    · subst h
      refine ⟨⟨o, upd_same⟩, fun q => ?_, fun i hi => ?_⟩
      · obtain ⟨z, hz⟩ := s.trk a q
        rw [hp] at hz; cases hz
      · obtain ⟨⟨z, hz⟩, _⟩ := s.tracked hi
        exact ne_of_none hz hp
    · obtain ⟨⟨z, hz⟩, h2, h3⟩ := s.fr a h
      exact ⟨⟨z, rd_upd hp hz⟩, h2, h3⟩
/-- it is no longer set aside, and gone -/
def Wd.back (w : Wd) (F : Addr → Prop) : Wd := { w with F := F }
def era (H : Hp) (p : Addr) : Hp := fun b => if b = p then none else H b
theorem era_same : era H p p = none := by unfold era; rw [if_pos rfl]
theorem era_ne {b : Addr} (h : b ≠ p) : era H p b = H b := by unfold era; rw [if_neg h]
theorem upd_era : upd (era H p) p o = upd H p o := by
  funext b
  by_cases h : b = p
  · subst h; rw [upd_same, upd_same]
  · rw [upd_ne h, upd_ne h, era_ne h]
theorem era_upd (hp : H p = none) : era (upd H p o) p = H := by
  funext b
  by_cases h : b = p
  · subst h; rw [era_same, hp]
  · rw [era_ne h, upd_ne h]
theorem Sim.drop {F : Addr → Prop} (s : Sim K mg w st H) (hp : w.F p) (hF : ∀ a, F a → w.F a ∧ a ≠ p) : Sim K mg (w.back F) st (era H p) ∧
    (∀ {n0 w0 H0}, Stp n0 w0 H0 st.length w H → (∀ a, w0.F a → F a) → Stp n0 w0 H0 st.length (w.back F) (era H p)) ∧
    Stp st.length { w with F := fun _ => False } H st.length (w.back F) (era H p) := by
  obtain ⟨⟨z, hz⟩, h2, h3⟩ := s.fr p hp
  have nI : ∀ a, w.I a → a ≠ p := fun a h q => by rw [q] at h; exact h2 h
  have g0 : Stp st.length { w with F := fun _ => False } H st.length (w.back F) (era H p) :=
    ⟨Nat.le_refl _, fun _ _ => rfl, ⟨fun _ h => h, fun a u ia r => by rw [era_ne (nI a ia)]; exact r⟩, ⟨fun _ h => h.elim, fun _ _ h => h.elim⟩⟩
  refine ⟨⟨fun i c e => ?_, s.inj, fun a h => ?_, fun a h => ?_⟩, fun {n0 w0 H0} g hF0 => ⟨g.le, g.ext, ⟨g.gro.inc, fun a u ha e => ?_⟩, ⟨hF0, fun a u ha e => ?_⟩⟩, g0⟩
  · have hc := s.cell i c e
    by_cases hd : c = .dead
    · subst hd; trivial
    · have ne : w.m i ≠ p := h3 i ⟨c, e, hd⟩
      exact CellOk.mono g0 (fun _ => ⟨era_ne ne, id⟩) (CellOk.noF hc)
  · obtain ⟨y, hy⟩ := s.trk a h
    exact ⟨y, by rw [era_ne (nI a h)]; exact hy⟩
  · obtain ⟨ha, hne⟩ := hF a h
    obtain ⟨⟨y, hy⟩, q2, q3⟩ := s.fr a ha
    exact ⟨⟨y, by rw [era_ne hne]; exact hy⟩, q2, q3⟩
  · rw [era_ne (nI a (g.gro.inc a ha))]
    exact g.gro.imm a u ha e
  · rw [era_ne (hF a (hF0 a ha)).2]
    exact g.frm.imm a u ha e
theorem RD.back {d : Dv} {v : V} (g : Stp n { w with F := fun _ => False } H n' w' H') (h : RD K mg n w H d v) : RD K mg n' w' H' d v := h.noF.mono g
theorem RDs.back {d : List Dv} {v : List V} (g : Stp n { w with F := fun _ => False } H n' w' H') (h : RDs K mg n w H d v) : RDs K mg n' w' H' d v := h.noF.mono g
end
end FB
set_option Elab.async false
set_option linter.all false
set_option maxRecDepth 100000
set_option maxHeartbeats 4000000
/-! FB1: functions over data and store as readings; the rules of expressions, tests, arguments, statements. -/
namespace FB
open PySem PySem.Spec PyProof.Rows L2

def EnvR (K : PySem.W.Frag) (mg : Str → Option Value) (n : Nat) (w : Wd) (H : Hp) (ρ : Sl) (σ : L2.St) : Prop :=
  ρ.length = σ.length ∧ ∀ (i : Nat) (d : Dv), ρ[i]? = some (some d) → ∃ v, σ[i]? = some (some v) ∧ RD K mg n w H d v
def ExR (K : PySem.W.Frag) (mg : Str → Option Value) (w : Wd) (H : Hp) (c : Str) (fs : List (Str × PyData)) (cv : Value) (dd : Option Addr) : Prop :=
  ∃ C, mg c = some (.ref C) ∧ cv = .ref C ∧ ((fs = [] ∧ dd = none) ∨ ∃ d vs, fs ≠ [] ∧ dd = some d ∧ w.I d ∧ H d = some (.xd vs) ∧ Paired (fun (p : Str × PyData) (q : Str × V) => p.1 = q.1 ∧ RP K w.I H p.2 q.2) fs vs)

def Good {α β : Type} (Rel : Nat → Wd → Hp → α → β → Prop) (K : PySem.W.Frag) (mg : Str → Option Value) (W : WX) (σ : L2.St) (n : Nat) (w : Wd) (H : Hp) (Q : β → Hp → Prop) : Rs α → Prop
  | .ok a st' => ∀ w' H' b, Stp n w H st'.length w' H' → Sim K mg w' st' H' → Rel st'.length w' H' a b → Q b H'
  | .exc c fs st' => ∀ w' H' cv dd, Stp n w H st'.length w' H' → Sim K mg w' st' H' → ExR K mg w' H' c fs cv dd → W cv dd σ H'
  | .stuck => False
def RelB : Nat → Wd → Hp → Bool → Bool → Prop := fun _ _ _ a b => a = b

section
variable {K : PySem.W.Frag} {mg : Str → Option Value} {W : WX} {σ : L2.St} {n n' : Nat} {w w' : Wd} {H H' : Hp} {ρ : Sl} {st : So}
theorem EnvR.mono (g : Stp n w H n' w' H') (h : EnvR K mg n w H ρ σ) : EnvR K mg n' w' H' ρ σ := ⟨h.1, fun i d e => by
  obtain ⟨v, e1, r⟩ := h.2 i d e
  exact ⟨v, e1, r.mono g⟩⟩
theorem EnvR.set {d : Dv} {v : V} (h : EnvR K mg n w H ρ σ) (r : RD K mg n w H d v) (i : Nat) : EnvR K mg n w H (ρ.set i (some d)) (σ.set i (some v)) := by
  refine ⟨by rw [List.length_set, List.length_set, h.1], fun j e he => ?_⟩
  by_cases hij : i = j
  · subst hij
    by_cases hi : i < ρ.length
    · rw [List.getElem?_set_self hi] at he
      cases he
      exact ⟨v, List.getElem?_set_self (by rw [← h.1]; exact hi), r⟩
    · rw [List.getElem?_eq_none (by rw [List.length_set]; omega)] at he
      cases he
  · rw [List.getElem?_set_ne hij] at he
    rw [List.getElem?_set_ne hij]
    exact h.2 j e he
theorem EnvR.setN (h : EnvR K mg n w H ρ σ) (i : Nat) : EnvR K mg n w H (ρ.set i none) (σ.set i none) := by
  refine ⟨by rw [List.length_set, List.length_set, h.1], fun j e he => ?_⟩
  by_cases hij : i = j
  · subst hij
    by_cases hi : i < ρ.length
    · rw [List.getElem?_set_self hi] at he
      cases he
    · rw [List.getElem?_eq_none (by rw [List.length_set]; omega)] at he
      cases he
  · rw [List.getElem?_set_ne hij] at he
    rw [List.getElem?_set_ne hij]
    exact h.2 j e he
theorem Good.later {α β : Type} {Rel : Nat → Wd → Hp → α → β → Prop} {Q : β → Hp → Prop} {r : Rs α} (g : Stp n w H n' w' H') (h : Good Rel K mg W σ n w H Q r) : Good Rel K mg W σ n' w' H' Q r := by
  cases r with
  | ok a st' => exact fun w2 H2 b s => h w2 H2 b (g.trans s)
  | exc c fs st' => exact fun w2 H2 cv dd s => h w2 H2 cv dd (g.trans s)
  | stuck => exact h
theorem Good.imp {α β : Type} {Rel : Nat → Wd → Hp → α → β → Prop} {Q Q' : β → Hp → Prop} {r : Rs α} (hq : ∀ b H', Q b H' → Q' b H') (h : Good Rel K mg W σ n w H Q r) : Good Rel K mg W σ n w H Q' r := by
  cases r with
  | ok a st' => exact fun w2 H2 b s s' q => hq _ _ (h w2 H2 b s s' q)
  | exc c fs st' => exact h
  | stuck => exact h
theorem Good.bind {α β γ δ : Type} {Rel : Nat → Wd → Hp → α → β → Prop} {Rel' : Nat → Wd → Hp → γ → δ → Prop} {Q : δ → Hp → Prop} {r : Rs α} {f : α → So → Rs γ} (h : Good Rel' K mg W σ n w H Q (r.bind f)) :
    Good Rel K mg W σ n w H (fun b H1 => ∃ st1 w1 a, Sim K mg w1 st1 H1 ∧ Stp n w H st1.length w1 H1 ∧ Rel st1.length w1 H1 a b ∧ Good Rel' K mg W σ st1.length w1 H1 Q (f a st1)) r := by
  cases r with
  | ok a st' =>
    intro w1 H1 b s sim rel
    exact ⟨st', w1, a, sim, s, rel, Good.later s h⟩
  | exc c fs st' => exact h
  | stuck => exact h
end

/-- readings of functions over data -/
def TF (K : PySem.W.Frag) (mg : Str → Option Value) (W : WX) (f : FE) : TE := fun σ H Q => ∃ ρ st w, Sim K mg w st H ∧ EnvR K mg st.length w H ρ σ ∧ Good (RD K mg) K mg W σ st.length w H Q (f ρ st)
def TFT (K : PySem.W.Frag) (mg : Str → Option Value) (W : WX) (f : FT) : TT := fun σ H Q => ∃ ρ st w, Sim K mg w st H ∧ EnvR K mg st.length w H ρ σ ∧ Good RelB K mg W σ st.length w H Q (f ρ st)
def TFA (K : PySem.W.Frag) (mg : Str → Option Value) (W : WX) (f : FA) : TA := fun σ H Q => ∃ ρ st w, Sim K mg w st H ∧ EnvR K mg st.length w H ρ σ ∧ Good (RDs K mg) K mg W σ st.length w H Q (f ρ st)
/-- a new list that nothing else holds: its items -/
def TFL (K : PySem.W.Frag) (mg : Str → Option Value) (W : WX) (f : FA) : TE := fun σ H Q => ∃ ρ st w, Sim K mg w st H ∧ EnvR K mg st.length w H ρ σ ∧
  Good (RDs K mg) K mg W σ st.length w H (fun vs H' => ∀ p, H' p = none → vs.length ≤ sizeLine → Q (.ref p) (upd H' p (.lst vs))) (f ρ st)
def GoodS (K : PySem.W.Frag) (mg : Str → Option Value) (W : WX) (n : Nat) (w : Wd) (H : Hp) (D : Ends) : Ss → Prop
  | .nx ρ' st' => ∀ w' H' σ', Stp n w H st'.length w' H' → Sim K mg w' st' H' → EnvR K mg st'.length w' H' ρ' σ' → D.nx σ' H'
  | .ret d st' => ∀ w' H' v, Stp n w H st'.length w' H' → Sim K mg w' st' H' → RD K mg st'.length w' H' d v → D.rt v H'
  | .brk ρ' st' => ∀ w' H' σ', Stp n w H st'.length w' H' → Sim K mg w' st' H' → EnvR K mg st'.length w' H' ρ' σ' → D.bk σ' H'
  | .cnt ρ' st' => ∀ w' H' σ', Stp n w H st'.length w' H' → Sim K mg w' st' H' → EnvR K mg st'.length w' H' ρ' σ' → D.ct σ' H'
  | .exc c fs ρ' st' => ∀ w' H' σ' cv dd, Stp n w H st'.length w' H' → Sim K mg w' st' H' → EnvR K mg st'.length w' H' ρ' σ' → ExR K mg w' H' c fs cv dd → W cv dd σ' H'
  | .stuck => False
def TFS (K : PySem.W.Frag) (mg : Str → Option Value) (W : WX) (f : FS) : TS := fun D σ H => ∃ ρ st w, Sim K mg w st H ∧ EnvR K mg st.length w H ρ σ ∧ GoodS K mg W st.length w H D (f ρ st)

def PF (X : Cx) (W : WX) (e : Expr) (f : FE) : Prop := PE X e (TF X.K X.mg W f)
def PFT (X : Cx) (W : WX) (e : Expr) (f : FT) : Prop := PT X e (TFT X.K X.mg W f)
def PFA (X : Cx) (W : WX) (es : List Expr) (f : FA) : Prop := PA X es (TFA X.K X.mg W f)
def PFL (X : Cx) (W : WX) (e : Expr) (f : FA) : Prop := PE X e (TFL X.K X.mg W f)
def PFS (X : Cx) (W : WX) (st : Stmt) (f : FS) : Prop := PS X st (TFS X.K X.mg W f)
def PFSs (X : Cx) (W : WX) (st : List Stmt) (f : FS) : Prop := PSs X st (TFS X.K X.mg W f)

section
variable {X : Cx} {W : WX} {e a b : Expr} {es : List Expr} {fa fb : FE} {f : FE} {pos : Pos}
theorem PE_imp {t t' : TE} (h : PE X e t) (hi : ∀ σ H Q, t' σ H Q → t σ H Q) : PE X e t' := ⟨fun pins s σ H Q I q => h.run pins s σ H Q I (hi σ H Q q)⟩
theorem PT_imp {t t' : TT} (h : PT X e t) (hi : ∀ σ H Q, t' σ H Q → t σ H Q) : PT X e t' := ⟨fun pins s σ H Q I q => h.run pins s σ H Q I (hi σ H Q q)⟩
theorem PA_imp {t t' : TA} (h : PA X es t) (hi : ∀ σ H Q, t' σ H Q → t σ H Q) : PA X es t' := ⟨fun po pins s σ H Q I q => h.run po pins s σ H Q I (hi σ H Q q)⟩
theorem PS_imp {s : Stmt} {t t' : TS} (h : PS X s t) (hi : ∀ D σ H, t' D σ H → t D σ H) : PS X s t' := ⟨fun pins s σ H D I q => h.run pins s σ H D I (hi D σ H q)⟩
theorem PSs_imp {s : List Stmt} {t t' : TS} (h : PSs X s t) (hi : ∀ D σ H, t' D σ H → t D σ H) : PSs X s t' := ⟨fun pins s σ H D I q => h.run pins s σ H D I (hi D σ H q)⟩

/-! ### names, constants -/
def fVar (i : Nat) : FE := fun ρ st => match ρ[i]? with
  | some (some d) => .ok d st
  | _ => .stuck
def fC (d : PyData) : FE := fun _ st => .ok (.p d) st
theorem pf_of_var (i : Nat) (h : PE X e (tVar i)) : PF X W e (fVar i) := PE_imp h fun σ H Q ⟨ρ, st, w, sim, er, g⟩ => by
  unfold fVar at g
  split at g
  · rename_i d hd
    obtain ⟨v, e1, r⟩ := er.2 i d hd
    exact ⟨v, e1, g w H v .refl sim r⟩
  · exact g.elim
theorem pf_of_c {v : V} {d : PyData} (h : PE X e (tC v)) (r : ∀ I H, RP X.K I H d v) : PF X W e (fC d) := PE_imp h fun σ H Q ⟨ρ, st, w, sim, er, g⟩ => g w H v .refl sim (.p (r w.I H))
theorem pf_var (i : Nat) {x : Str} {pos : Pos} (hN : X.N[i]? = some x := by rfl) (hv : Vis X.env.scope x := by first | exact Or.inl rfl | exact Or.inr (Or.inl rfl) | exact Or.inr (Or.inr rfl)) (hd : (x == ("__debug__" : Str)) = false := by decide)
    (hcd : (x == ("__classdict__" : Str)) = false := by decide) : PF X W (.Name x pos) (fVar i) := pf_of_var i (pe_var hN hv hd hcd)
theorem pf_int {i : Int} {j : Nat} {pos : Pos} : PF X W (.Constant (.int i) j pos) (fC (.int i)) := pf_of_c pe_int fun _ _ => .int i
theorem pf_bl {i : Bool} {j : Nat} {pos : Pos} : PF X W (.Constant (.bool i) j pos) (fC (.bool i)) := pf_of_c pe_bl fun _ _ => .bl i
theorem pf_non {j : Nat} {pos : Pos} : PF X W (.Constant .none j pos) (fC .none) := pf_of_c pe_non fun _ _ => .non
theorem pf_str {x : Str} {j : Nat} {pos : Pos} : PF X W (.Constant (.str x) j pos) (fC (.str x)) := pf_of_c pe_str fun _ _ => .str x
/-- a module's constant that is data -/
theorem pf_glob {x : Str} {u : Value} {v : V} {d : PyData} {pos : Pos} (hg : Gl X x) (hm : X.mg x = some u) (r : RelV v u) (rp : ∀ I H, RP X.K I H d v) (hd : (x == ("__debug__" : Str)) = false := by decide) : PF X W (.Name x pos) (fC d) := pf_of_c (pe_glob hg hm r hd) rp

/-! ### two-place operations, one-place ones -/
abbrev G2 := Dv → Dv → So → Option Dv
abbrev G1 := Dv → So → Option Dv
abbrev GA := List Dv → So → Option Dv
def toR (st : So) : Option Dv → Rs Dv
  | some d => .ok d st
  | none => .stuck
def fOp (g : G2) (fa fb : FE) : FE := fun ρ st => (fa ρ st).bind fun x st1 => (fb ρ st1).bind fun y st2 => toR st2 (g x y st2)
def fUn (g : G1) (fa : FE) : FE := fun ρ st => (fa ρ st).bind fun x st1 => toR st1 (g x st1)
/-- what is given lies well: the goal of a rule by values -/
def Lies (K : PySem.W.Frag) (mg : Str → Option Value) (st : So) (w : Wd) (H : Hp) (Q : VK) (d : Dv) : Prop :=
  ∀ w' H' v, Stp st.length w H st.length w' H' → Sim K mg w' st H' → RD K mg st.length w' H' d v → Q v H'
def Im2 (X : Cx) (r : R2) (g : G2) : Prop := ∀ (st : So) (w : Wd) (H : Hp) (x y : Dv) (vx vy : V) (Q : VK) (d : Dv), Sim X.K X.mg w st H → RD X.K X.mg st.length w H x vx → RD X.K X.mg st.length w H y vy →
  g x y st = some d → Lies X.K X.mg st w H Q d → r vx vy H Q
def Im1 (X : Cx) (r : V → Hp → VK → Prop) (g : G1) : Prop := ∀ (st : So) (w : Wd) (H : Hp) (x : Dv) (vx : V) (Q : VK) (d : Dv), Sim X.K X.mg w st H → RD X.K X.mg st.length w H x vx →
  g x st = some d → Lies X.K X.mg st w H Q d → r vx H Q
def ImA (X : Cx) (r : List V → Hp → VK → Prop) (g : GA) : Prop := ∀ (st : So) (w : Wd) (H : Hp) (xs : List Dv) (vs : List V) (Q : VK) (d : Dv), Sim X.K X.mg w st H → RDs X.K X.mg st.length w H xs vs →
  g xs st = some d → Lies X.K X.mg st w H Q d → r vs H Q
theorem lies_of {K : PySem.W.Frag} {mg : Str → Option Value} {σ : L2.St} {st : So} {w : Wd} {H : Hp} {Q : VK} {o : Option Dv} (g : Good (RD K mg) K mg W σ st.length w H Q (toR st o)) : ∃ d, o = some d ∧ Lies K mg st w H Q d := by
  cases o with
  | none => exact g.elim
  | some d => exact ⟨d, rfl, g⟩
theorem tf_op {r : R2} {g : G2} (hi : Im2 X r g) (σ : L2.St) (H : Hp) (Q : VK) (h : TF X.K X.mg W (fOp g fa fb) σ H Q) : tOp r (TF X.K X.mg W fa) (TF X.K X.mg W fb) σ H Q := by
  obtain ⟨ρ, st, w, sim, er, gd⟩ := h
  refine ⟨ρ, st, w, sim, er, Good.imp (fun x H1 q => ?_) (Good.bind gd)⟩
  obtain ⟨st1, w1, d1, sim1, s1, r1, gd1⟩ := q
  refine ⟨ρ, st1, w1, sim1, er.mono s1, Good.imp (fun y H2 q => ?_) (Good.bind gd1)⟩
  obtain ⟨st2, w2, d2, sim2, s2, r2, gd2⟩ := q
  obtain ⟨d, e, l⟩ := lies_of gd2
  exact hi st2 w2 H2 d1 d2 x y Q d sim2 (r1.mono s2) r2 e l
theorem tf_un {r : V → Hp → VK → Prop} {g : G1} (hi : Im1 X r g) (σ : L2.St) (H : Hp) (Q : VK) (h : TF X.K X.mg W (fUn g fa) σ H Q) : tUn r (TF X.K X.mg W fa) σ H Q := by
  obtain ⟨ρ, st, w, sim, er, gd⟩ := h
  refine ⟨ρ, st, w, sim, er, Good.imp (fun x H1 q => ?_) (Good.bind gd)⟩
  obtain ⟨st1, w1, d1, sim1, s1, r1, gd1⟩ := q
  obtain ⟨d, e, l⟩ := lies_of gd1
  exact hi st1 w1 H1 d1 x Q d sim1 r1 e l
theorem pf_op {op : Operator} {r : R2} {g : G2} (ho : OpR X (binaryOp op) r) (hi : Im2 X r g) (ha : PF X W a fa) (hb : PF X W b fb) : PF X W (.BinOp a op b pos) (fOp g fa fb) := PE_imp (pe_op ho ha hb) (tf_op hi)
theorem pf_un {op : UnaryOp} {r : V → Hp → VK → Prop} {g : G1} (ho : UnR X (unaryOp op) r) (hi : Im1 X r g) (ha : PF X W a fa) : PF X W (.UnaryOp op a pos) (fUn g fa) := PE_imp (pe_un ho ha) (tf_un hi)
theorem pf_cmp {op : CmpOp} {r : R2} {g : G2} (ho : OpR X (compareOp op) r) (hi : Im2 X r g) (ha : PF X W a fa) (hb : PF X W b fb) (hm : behindInMarks op b = false := by first | exact nomark _ | rfl) : PF X W (.Compare a [op] [b] pos) (fOp g fa fb) := PE_imp (pe_cmpR ho ha hb hm) (tf_op hi)
theorem pf_ix {r : R2} {g : G2} (ho : IxR X r) (hi : Im2 X r g) (ha : PF X W a fa) (hb : PF X W b fb) (hs : PlainIx b := by intro _ _; rfl) : PF X W (.Subscript a b pos) (fOp g fa fb) := PE_imp (pe_ix ho ha hb hs) (tf_op hi)

/-! ### tests -/
def asB (d : Dv) (st : So) : Rs Bool := match d with
  | .p (.bool b) => .ok b st
  | _ => .stuck
/-- an expression that gives a bool, as a test -/
def fTB (fa : FE) : FT := fun ρ st => (fa ρ st).bind asB
theorem tft_of (σ : L2.St) (H : Hp) (Q : Bool → Hp → Prop) (h : TFT X.K X.mg W (fTB fa) σ H Q) : TF X.K X.mg W fa σ H (fun x H' => ∃ k, x = .bl k ∧ Q k H') := by
  obtain ⟨ρ, st, w, sim, er, gd⟩ := h
  refine ⟨ρ, st, w, sim, er, Good.imp (fun x H1 q => ?_) (Good.bind gd)⟩
  obtain ⟨st1, w1, d1, sim1, s1, r1, gd1⟩ := q
  unfold asB at gd1
  split at gd1
  · rename_i b
    cases r1 with
    | p h1 =>
      cases h1
      exact ⟨b, rfl, gd1 w1 H1 b .refl sim1 rfl⟩
  · exact gd1.elim
theorem pft_cmp {op : CmpOp} {r : R2} {g : G2} (ho : OpR X (compareOp op) r) (hi : Im2 X r g) (ha : PF X W a fa) (hb : PF X W b fb) (hm : behindInMarks op b = false := by first | exact nomark _ | rfl) : PFT X W (.Compare a [op] [b] pos) (fTB (fOp g fa fb)) :=
  PT_imp (pt_cmpR ho ha hb hm) fun σ H Q h => tf_op hi σ H _ (tft_of σ H Q h)
theorem pft_val (ha : PF X W a fa) (he : ∀ whole, isTrue a X.env whole = (do let v ← whole; standAt a.pos; holding [v] (truthy v)) := by intro _; rfl) : PFT X W a (fTB fa) :=
  PT_imp (pt_val ha he) fun σ H Q h => tft_of σ H Q h
def fTNot (t : FT) : FT := fun ρ st => (t ρ st).bind fun b st1 => .ok (!b) st1
def fTAnd (t u : FT) : FT := fun ρ st => (t ρ st).bind fun b st1 => if b then u ρ st1 else .ok false st1
def fTOr (t u : FT) : FT := fun ρ st => (t ρ st).bind fun b st1 => if b then .ok true st1 else u ρ st1
variable {t u : FT} {rest : List Expr}
theorem pft_not (ha : PFT X W a t) : PFT X W (.UnaryOp .Not a pos) (fTNot t) := PT_imp (pt_not ha) fun σ H Q h => by
  obtain ⟨ρ, st, w, sim, er, gd⟩ := h
  refine ⟨ρ, st, w, sim, er, Good.imp (fun x H1 q => ?_) (Good.bind gd)⟩
  obtain ⟨st1, w1, d1, sim1, s1, r1, gd1⟩ := q
  obtain rfl : d1 = x := r1
  exact gd1 w1 H1 (!d1) .refl sim1 rfl
def PFW (X : Cx) (W : WX) (e : Expr) (f : FT) : Prop := PW X e (TFT X.K X.mg W f)
theorem PW_imp {t t' : TT} (h : PW X e t) (hi : ∀ σ H Q, t' σ H Q → t σ H Q) : PW X e t' := ⟨fun wh pins s σ H Q I q => h.run wh pins s σ H Q I (hi σ H Q q)⟩
theorem PFW.pt {f : FT} (h : PFW X W e f) : PFT X W e f := PW.pt h
theorem pfw_and1 (ha : PFT X W a t) : PFW X W (.BoolOp .And [a] pos) t := pw_and1 ha
theorem pfw_or1 (ha : PFT X W a t) : PFW X W (.BoolOp .Or [a] pos) t := pw_or1 ha
theorem tft_and (σ : L2.St) (H : Hp) (Q : Bool → Hp → Prop) (h : TFT X.K X.mg W (fTAnd t u) σ H Q) : tAnd (TFT X.K X.mg W t) (TFT X.K X.mg W u) σ H Q := by
  obtain ⟨ρ, st, w, sim, er, gd⟩ := h
  refine ⟨ρ, st, w, sim, er, Good.imp (fun x H1 q => ?_) (Good.bind gd)⟩
  obtain ⟨st1, w1, d1, sim1, s1, r1, gd1⟩ := q
  obtain rfl : d1 = x := r1
  cases d1 with
  | true => exact ⟨ρ, st1, w1, sim1, er.mono s1, gd1⟩
  | false => exact gd1 w1 H1 false .refl sim1 rfl
theorem tft_or (σ : L2.St) (H : Hp) (Q : Bool → Hp → Prop) (h : TFT X.K X.mg W (fTOr t u) σ H Q) : tOr (TFT X.K X.mg W t) (TFT X.K X.mg W u) σ H Q := by
  obtain ⟨ρ, st, w, sim, er, gd⟩ := h
  refine ⟨ρ, st, w, sim, er, Good.imp (fun x H1 q => ?_) (Good.bind gd)⟩
  obtain ⟨st1, w1, d1, sim1, s1, r1, gd1⟩ := q
  obtain rfl : d1 = x := r1
  cases d1 with
  | true => exact gd1 w1 H1 true .refl sim1 rfl
  | false => exact ⟨ρ, st1, w1, sim1, er.mono s1, gd1⟩
theorem pfw_and (ha : PFT X W a t) (hb : PFW X W (.BoolOp .And (b :: rest) pos) u) : PFW X W (.BoolOp .And (a :: b :: rest) pos) (fTAnd t u) := PW_imp (pw_and ha hb) tft_and
theorem pfw_or (ha : PFT X W a t) (hb : PFW X W (.BoolOp .Or (b :: rest) pos) u) : PFW X W (.BoolOp .Or (a :: b :: rest) pos) (fTOr t u) := PW_imp (pw_or ha hb) tft_or
/-- as values, all but the last bools -/
def fAnd (fa fb : FE) : FE := fun ρ st => (fTB fa ρ st).bind fun b st1 => if b then fb ρ st1 else .ok (.p (.bool false)) st1
def fOr (fa fb : FE) : FE := fun ρ st => (fTB fa ρ st).bind fun b st1 => if b then .ok (.p (.bool true)) st1 else fb ρ st1
def fNot (fa : FE) : FE := fun ρ st => (fTB fa ρ st).bind fun b st1 => .ok (.p (.bool (!b))) st1
theorem tft_ofK {α β : Type} {Rel : Nat → Wd → Hp → α → β → Prop} {k : Bool → So → Rs α} {Q : β → Hp → Prop} {ρ : Sl} {st : So} {w : Wd} {σ : L2.St} {H : Hp} (sim : Sim X.K X.mg w st H) (er : EnvR X.K X.mg st.length w H ρ σ)
    (gd : Good Rel X.K X.mg W σ st.length w H Q ((fTB fa ρ st).bind k)) : TF X.K X.mg W fa σ H (fun x H' => ∃ c, x = .bl c ∧ ∃ st1 w1, Sim X.K X.mg w1 st1 H' ∧ EnvR X.K X.mg st1.length w1 H' ρ σ ∧ Good Rel X.K X.mg W σ st1.length w1 H' Q (k c st1)) := by
  have gd2 := Good.bind (Rel := RelB) gd
  refine ⟨ρ, st, w, sim, er, Good.imp (fun x H1 q => ?_) (Good.bind gd2)⟩
  obtain ⟨st1, w1, d1, sim1, s1, r1, gd1⟩ := q
  unfold asB at gd1
  split at gd1
  · rename_i b
    cases r1 with
    | p h1 =>
      cases h1
      obtain ⟨st2, w2, c, sim2, s2, rfl, gd3⟩ := gd1 w1 H1 b .refl sim1 rfl
      exact ⟨_, rfl, st2, w2, sim2, er.mono s2, gd3⟩
  · exact gd1.elim
theorem pf_and (ha : PF X W a fa) (hb : PF X W (.BoolOp .And (b :: rest) pos) fb) : PF X W (.BoolOp .And (a :: b :: rest) pos) (fAnd fa fb) := PE_imp (pe_and ha hb) fun σ H Q h => by
  obtain ⟨ρ, st, w, sim, er, gd⟩ := h
  obtain ⟨ρ', st', w', s', er', g'⟩ := tft_ofK sim er gd
  refine ⟨ρ', st', w', s', er', Good.imp (fun x H1 q => ?_) g'⟩
  obtain ⟨c, rfl, st1, w1, sim1, er1, gd1⟩ := q
  refine ⟨c, rfl, ?_⟩
  cases c with
  | true => exact ⟨ρ, st1, w1, sim1, er1, gd1⟩
  | false => exact gd1 w1 H1 _ .refl sim1 (.p (.bl false))
theorem pf_or (ha : PF X W a fa) (hb : PF X W (.BoolOp .Or (b :: rest) pos) fb) : PF X W (.BoolOp .Or (a :: b :: rest) pos) (fOr fa fb) := PE_imp (pe_or ha hb) fun σ H Q h => by
  obtain ⟨ρ, st, w, sim, er, gd⟩ := h
  obtain ⟨ρ', st', w', s', er', g'⟩ := tft_ofK sim er gd
  refine ⟨ρ', st', w', s', er', Good.imp (fun x H1 q => ?_) g'⟩
  obtain ⟨c, rfl, st1, w1, sim1, er1, gd1⟩ := q
  refine ⟨c, rfl, ?_⟩
  cases c with
  | true => exact gd1 w1 H1 _ .refl sim1 (.p (.bl true))
  | false => exact ⟨ρ, st1, w1, sim1, er1, gd1⟩
theorem pf_one {op : BoolOp} (ha : PF X W a fa) : PF X W (.BoolOp op [a] pos) fa := pe_one ha
theorem pf_not (ha : PF X W a fa) : PF X W (.UnaryOp .Not a pos) (fNot fa) := PE_imp (pe_not ha) fun σ H Q h => by
  obtain ⟨ρ, st, w, sim, er, gd⟩ := h
  obtain ⟨ρ', st', w', s', er', g'⟩ := tft_ofK sim er gd
  refine ⟨ρ', st', w', s', er', Good.imp (fun x H1 q => ?_) g'⟩
  obtain ⟨c, rfl, st1, w1, sim1, er1, gd1⟩ := q
  exact ⟨c, rfl, gd1 w1 H1 _ .refl sim1 (.p (.bl _))⟩
def fIf (t : FT) (fa fb : FE) : FE := fun ρ st => (t ρ st).bind fun b st1 => if b then fa ρ st1 else fb ρ st1
theorem pf_if {c : Expr} (hc : PFT X W c t) (ha : PF X W a fa) (hb : PF X W b fb) : PF X W (.IfExp c a b pos) (fIf t fa fb) := PE_imp (pe_ifExp hc ha hb) fun σ H Q h => by
  obtain ⟨ρ, st, w, sim, er, gd⟩ := h
  refine ⟨ρ, st, w, sim, er, Good.imp (fun x H1 q => ?_) (Good.bind gd)⟩
  obtain ⟨st1, w1, d1, sim1, s1, r1, gd1⟩ := q
  obtain rfl : d1 = x := r1
  cases d1 with
  | true => exact ⟨ρ, st1, w1, sim1, er.mono s1, gd1⟩
  | false => exact ⟨ρ, st1, w1, sim1, er.mono s1, gd1⟩

/-! ### arguments, displays -/
def fNil : FA := fun _ st => .ok [] st
def fCons (fa : FE) (fr : FA) : FA := fun ρ st => (fa ρ st).bind fun x st1 => (fr ρ st1).bind fun xs st2 => .ok (x :: xs) st2
theorem pfa_nil : PFA X W [] fNil := PA_imp pa_nil fun σ H Q ⟨ρ, st, w, sim, er, g⟩ => g w H [] .refl sim .nil
theorem pfa_cons {fr : FA} (ha : PF X W a fa) (hr : PFA X W es fr) (hs : starEach (a :: es) X.env = (false, eval a X.env) :: starEach es X.env := by rfl) : PFA X W (a :: es) (fCons fa fr) := PA_imp (pa_cons ha hr hs) fun σ H Q h => by
  obtain ⟨ρ, st, w, sim, er, gd⟩ := h
  refine ⟨ρ, st, w, sim, er, Good.imp (fun x H1 q => ?_) (Good.bind gd)⟩
  obtain ⟨st1, w1, d1, sim1, s1, r1, gd1⟩ := q
  refine ⟨ρ, st1, w1, sim1, er.mono s1, Good.imp (fun y H2 q => ?_) (Good.bind gd1)⟩
  obtain ⟨st2, w2, d2, sim2, s2, r2, gd2⟩ := q
  exact gd2 w2 H2 _ .refl sim2 (.cons (r1.mono s2) r2)
def mkT (ds : List Dv) : Dv := match pures ds with
  | some xs => .p (.tuple xs)
  | none => .tupD ds
def mkL (ds : List Dv) : Dv := match pures ds with
  | some xs => .p (.list xs)
  | none => .lstD ds
theorem rd_mkT {K : PySem.W.Frag} {mg : Str → Option Value} {n : Nat} {w : Wd} {H : Hp} {ds : List Dv} {vs : List V} {p : Addr} (h : ST K w.I H p vs) (r : RDs K mg n w H ds vs) : RD K mg n w H (mkT ds) (.ref p) := by
  unfold mkT
  split
  · rename_i xs e
    exact .p (.tup h (r.toP e))
  · exact .tupD (.inr h) r
theorem rd_mkL {K : PySem.W.Frag} {mg : Str → Option Value} {n : Nat} {w : Wd} {H : Hp} {ds : List Dv} {vs : List V} {p : Addr} (h : SL w.I H p vs) (r : RDs K mg n w H ds vs) : RD K mg n w H (mkL ds) (.ref p) := by
  unfold mkL
  split
  · rename_i xs e
    exact .p (.lst h (r.toP e))
  · exact .lstD h r
def small (ds : List Dv) : Bool := decide (ds.length ≤ 100000)
theorem small_ok {ds : List Dv} (h : small ds = true) : ds.length ≤ sizeLine := Nat.le_trans (of_decide_eq_true h) (by decide)
/-- (a, b, ..) -/
def fTup (fr : FA) : FE := fun ρ st => (fr ρ st).bind fun xs st1 => if small xs then .ok (mkT xs) st1 else .stuck
theorem pf_tup {fr : FA} {x1 : _} (h : PFA X W es fr) : PF X W (.Tuple es x1 pos) (fTup fr) := PE_imp (pe_tupX h) fun σ H Q hh => by
  obtain ⟨ρ, st, w, sim, er, gd⟩ := hh
  refine ⟨ρ, st, w, sim, er, Good.imp (fun vs H1 q => ?_) (Good.bind gd)⟩
  obtain ⟨st1, w1, ds, sim1, s1, r1, gd1⟩ := q
  by_cases hs : small ds = true
  · rw [if_pos hs] at gd1
    refine ⟨by rw [← r1.length]; exact small_ok hs, fun p o hp ho => ?_⟩
    obtain ⟨s2, sim2⟩ := sim1.newP (o := .frz o (.tup vs)) hp
    exact gd1 _ _ _ s2 sim2 (rd_mkT (.inl ⟨.inl rfl, o, ho, upd_same⟩) (r1.mono s2))
  · rw [if_neg hs] at gd1
    exact gd1.elim
/-- [a, b, ..]: a new list -/
theorem pfl_lst {fr : FA} (h : PFA X W es fr) (hn : es.length ≤ 100000 := by decide) : PFL X W (.List es pos) (fun ρ st => (fr ρ st).bind fun xs st1 => if small xs then .ok xs st1 else .stuck) := PE_imp (pe_lst h) fun σ H Q hh => by
  obtain ⟨ρ, st, w, sim, er, gd⟩ := hh
  refine ⟨ρ, st, w, sim, er, Good.imp (fun vs H1 q => ?_) (Good.bind gd)⟩
  obtain ⟨st1, w1, ds, sim1, s1, r1, gd1⟩ := q
  by_cases hs : small ds = true
  · rw [if_pos hs] at gd1
    have hl : vs.length ≤ sizeLine := by rw [← r1.length]; exact small_ok hs
    exact ⟨hl, fun p hp => gd1 w1 H1 vs .refl sim1 r1 p hp hl⟩
  · rw [if_neg hs] at gd1
    exact gd1.elim
/-- a new list, as data | as a cell -/
def fPure (fr : FA) : FE := fun ρ st => (fr ρ st).bind fun xs st1 => if small xs then .ok (mkL xs) st1 else .stuck
def fCell (fr : FA) : FE := fun ρ st => (fr ρ st).bind fun xs st1 => if small xs then .ok (.ref st1.length) (st1 ++ [.lst xs]) else .stuck
theorem pf_pure {fr : FA} (h : PFL X W e fr) : PF X W e (fPure fr) := PE_imp h fun σ H Q hh => by
  obtain ⟨ρ, st, w, sim, er, gd⟩ := hh
  refine ⟨ρ, st, w, sim, er, Good.imp (fun vs H1 q => ?_) (Good.bind gd)⟩
  obtain ⟨st1, w1, ds, sim1, s1, r1, gd1⟩ := q
  intro p hp hl
  by_cases hs : small ds = true
  · rw [if_pos hs] at gd1
    obtain ⟨s2, sim2⟩ := sim1.newP (o := .lst vs) hp
    exact gd1 _ _ _ s2 sim2 (rd_mkL ⟨.inl rfl, upd_same⟩ (r1.mono s2))
  · rw [if_neg hs] at gd1
    exact gd1.elim
theorem pf_cell {fr : FA} (h : PFL X W e fr) : PF X W e (fCell fr) := PE_imp h fun σ H Q hh => by
  obtain ⟨ρ, st, w, sim, er, gd⟩ := hh
  refine ⟨ρ, st, w, sim, er, Good.imp (fun vs H1 q => ?_) (Good.bind gd)⟩
  obtain ⟨st1, w1, ds, sim1, s1, r1, gd1⟩ := q
  intro p hp hl
  by_cases hs : small ds = true
  · rw [if_pos hs] at gd1
    obtain ⟨s2, sim2⟩ := sim1.newC (o := .lst vs) (c := .lst ds) hp fun {n' w' H'} g e nI => ⟨vs, e, r1.mono g, nI⟩
    have hm : V.ref p = V.ref ((w1.cel st1.length p).m st1.length) := by
      show V.ref p = V.ref (if st1.length = st1.length then p else _)
      rw [if_pos rfl]
    rw [hm]
    refine gd1 _ _ _ ?_ sim2 (.ref ?_)
    · rw [List.length_append, List.length_singleton]; exact s2
    · rw [List.length_append, List.length_singleton]; exact Nat.lt_succ_self _
  · rw [if_neg hs] at gd1
    exact gd1.elim
/-- what a name holds, no longer changed: as data -/
def fFrz (fa : FE) : FE := fun ρ st => (fa ρ st).bind fun x st1 => match x with
  | .ref i => match st1[i]? with
    | some (.lst xs) => .ok (mkL xs) (st1.set i .dead)
    | _ => .stuck
  | _ => .stuck
theorem pf_frz (h : PF X W e fa) : PF X W e (fFrz fa) := PE_imp h fun σ H Q hh => by
  obtain ⟨ρ, st, w, sim, er, gd⟩ := hh
  refine ⟨ρ, st, w, sim, er, Good.imp (fun v H1 q => ?_) (Good.bind gd)⟩
  obtain ⟨st1, w1, d, sim1, s1, r1, gd1⟩ := q
  split at gd1
  · rename_i i
    split at gd1
    · rename_i xs hx
      have lv : live st1 i := ⟨_, hx, by simp⟩
      obtain ⟨s2, sim2⟩ := sim1.frz lv
      obtain ⟨vs, e1, r2, nI⟩ := sim1.cell i _ hx
      cases r1
      refine gd1 _ _ _ ?_ sim2 (rd_mkL ⟨.inl rfl, e1⟩ ?_)
      · rw [List.length_set]; exact s2
      · rw [List.length_set]; exact r2.mono s2
    · exact gd1.elim
  · exact gd1.elim

/-! ### built-ins by values -/
def fCB (g : GA) (fr : FA) : FE := fun ρ st => (fr ρ st).bind fun xs st1 => toR st1 (g xs st1)
theorem tf_cb {r : List V → Hp → VK → Prop} {g : GA} {fr : FA} (hi : ImA X r g) (σ : L2.St) (H : Hp) (Q : VK) (h : TF X.K X.mg W (fCB g fr) σ H Q) : tCB r (TFA X.K X.mg W fr) σ H Q := by
  obtain ⟨ρ, st, w, sim, er, gd⟩ := h
  refine ⟨ρ, st, w, sim, er, Good.imp (fun vs H1 q => ?_) (Good.bind gd)⟩
  obtain ⟨st1, w1, ds, sim1, s1, r1, gd1⟩ := q
  obtain ⟨d, e, l⟩ := lies_of gd1
  exact hi st1 w1 H1 ds vs Q d sim1 r1 e l
variable {x : Str} {p : Pos} {id T : String}
theorem pf_callB {r : List V → Hp → VK → Prop} {g : GA} {fr : FA} (hc : CallR X (.builtin id) r) (hi : ImA X r g) (hg : Gl X x) (hm : X.mg x = none) (hv : bootBuiltins x = some (.builtin id)) (ha : PFA X W (e :: es) fr)
    (hn : x ≠ "__name__" := by decide) (hdb : (x == ("__debug__" : Str)) = false := by decide) (he : starEach (e :: es) X.env = (false, eval e X.env) :: starEach es X.env := by rfl) (hpl : (backTo pos (starEach es X.env)).any (·.1) = false := by rfl) :
    PF X W (.Call (.Name x p) (e :: es) [] pos) (fCB g fr) := PE_imp (pe_callB hc hg hm hv ha hn hdb he hpl) (tf_cb hi)
theorem pf_callTy {r : List V → Hp → VK → Prop} {g : GA} {fr : FA} (hc : CallR X (.type T) r) (hi : ImA X r g) (hg : Gl X x) (hm : X.mg x = none) (hv : bootBuiltins x = some (.type T)) (ha : PFA X W (e :: es) fr)
    (hn : x ≠ "__name__" := by decide) (hdb : (x == ("__debug__" : Str)) = false := by decide) (he : starEach (e :: es) X.env = (false, eval e X.env) :: starEach es X.env := by rfl) (hpl : (backTo pos (starEach es X.env)).any (·.1) = false := by rfl) :
    PF X W (.Call (.Name x p) (e :: es) [] pos) (fCB g fr) := PE_imp (pe_callTy hc hg hm hv ha hn hdb he hpl) (tf_cb hi)

/-! ### statements -/
variable {sa : Stmt} {ss : List Stmt} {ga gb : FS}
def Rs.st {α : Type} (r : Rs α) (ρ : Sl) (f : α → So → Ss) : Ss := match r with
  | .ok a st => f a st
  | .exc c fs st => .exc c fs ρ st
  | .stuck => .stuck
def sNext : FS := fun ρ st => .nx ρ st
def sSeq (g h : FS) : FS := fun ρ st => match g ρ st with
  | .nx ρ' st' => h ρ' st'
  | r => r
theorem GoodS.later {K : PySem.W.Frag} {mg : Str → Option Value} {n n' : Nat} {w w' : Wd} {H H' : Hp} {D : Ends} {r : Ss} (g : Stp n w H n' w' H') (h : GoodS K mg W n w H D r) : GoodS K mg W n' w' H' D r := by
  cases r with
  | nx ρ st => exact fun w2 H2 σ s => h w2 H2 σ (g.trans s)
  | ret d st => exact fun w2 H2 σ s => h w2 H2 σ (g.trans s)
  | brk ρ st => exact fun w2 H2 σ s => h w2 H2 σ (g.trans s)
  | cnt ρ st => exact fun w2 H2 σ s => h w2 H2 σ (g.trans s)
  | exc c fs ρ st => exact fun w2 H2 σ cv dd s => h w2 H2 σ cv dd (g.trans s)
  | stuck => exact h
theorem pfss_nil : PFSs X W [] sNext := PSs_imp pss_nil fun D σ H ⟨ρ, st, w, sim, er, g⟩ => g w H σ .refl sim er
theorem tfs_seq {g h : FS} {D : Ends} {σ : L2.St} {H : Hp} (q : TFS X.K X.mg W (sSeq g h) D σ H) : tSeq (TFS X.K X.mg W g) (TFS X.K X.mg W h) D σ H := by
  obtain ⟨ρ, st, w, sim, er, gd⟩ := q
  refine ⟨ρ, st, w, sim, er, ?_⟩
  unfold sSeq at gd
  cases e : g ρ st with
  | nx ρ' st' =>
    rw [e] at gd
    exact fun w' H' σ' s sim' er' => ⟨ρ', st', w', sim', er', gd.later s⟩
  | ret d st' => rw [e] at gd; exact gd
  | brk ρ' st' => rw [e] at gd; exact gd
  | cnt ρ' st' => rw [e] at gd; exact gd
  | exc c fs ρ' st' => rw [e] at gd; exact gd
  | stuck => rw [e] at gd; exact gd
theorem pfss_cons (h1 : PFS X W sa ga) (h2 : PFSs X W ss gb) : PFSs X W (sa :: ss) (sSeq ga gb) := PSs_imp (pss_cons h1 h2) fun D σ H q => tfs_seq q
theorem pfss_one (h1 : PFS X W sa ga) : PFSs X W [sa] ga := pss_one h1
def sPass : FS := sNext
theorem pfs_pass : PFS X W (.Pass pos) sPass := PS_imp ps_pass fun D σ H ⟨ρ, st, w, sim, er, g⟩ => g w H σ .refl sim er
def sBreak : FS := fun ρ st => .brk ρ st
def sCont : FS := fun ρ st => .cnt ρ st
theorem pfs_break : PFS X W (.Break pos) sBreak := PS_imp ps_break fun D σ H ⟨ρ, st, w, sim, er, g⟩ => g w H σ .refl sim er
theorem pfs_cont : PFS X W (.Continue pos) sCont := PS_imp ps_continue fun D σ H ⟨ρ, st, w, sim, er, g⟩ => g w H σ .refl sim er
def sDrop (fa : FE) : FS := fun ρ st => (fa ρ st).st ρ fun _ st1 => .nx ρ st1
/-- an expression's end, then a statement's -/
theorem good_st {α β : Type} {Rel : Nat → Wd → Hp → α → β → Prop} {K : PySem.W.Frag} {mg : Str → Option Value} {σ : L2.St} {w : Wd} {H : Hp} {st : So} {D : Ends} {r : Rs α} {ρ : Sl} {f : α → So → Ss} (er : EnvR K mg st.length w H ρ σ)
    (gd : GoodS K mg W st.length w H D (r.st ρ f)) : Good Rel K mg W σ st.length w H (fun b H1 => ∃ st1 w1 a, Sim K mg w1 st1 H1 ∧ Stp st.length w H st1.length w1 H1 ∧ Rel st1.length w1 H1 a b ∧ EnvR K mg st1.length w1 H1 ρ σ ∧ GoodS K mg W st1.length w1 H1 D (f a st1)) r := by
  cases r with
  | ok a st' => exact fun w1 H1 b s sim rel => ⟨st', w1, a, sim, s, rel, er.mono s, gd.later s⟩
  | exc c fs st' => exact fun w1 H1 cv dd s sim ex => gd w1 H1 σ cv dd s sim (er.mono s) ex
  | stuck => exact gd
theorem pfs_expr (he : PF X W e fa) (hs : swapsWith e none pos.line X.env = pure false := by rfl) : PFS X W (.Expr e pos) (sDrop fa) := PS_imp (ps_expr he hs) fun D σ H q => by
  obtain ⟨ρ, st, w, sim, er, gd⟩ := q
  refine ⟨ρ, st, w, sim, er, Good.imp (fun v H1 q => ?_) (good_st er gd)⟩
  obtain ⟨st1, w1, d, sim1, s1, r1, er1, gd1⟩ := q
  exact gd1 w1 H1 σ .refl sim1 er1
def sRet (fa : FE) : FS := fun ρ st => (fa ρ st).st ρ fun d st1 => .ret d st1
theorem pfs_ret (he : PF X W e fa) : PFS X W (.Return (some e) pos) (sRet fa) := PS_imp (ps_ret he) fun D σ H q => by
  obtain ⟨ρ, st, w, sim, er, gd⟩ := q
  refine ⟨ρ, st, w, sim, er, Good.imp (fun v H1 q => ?_) (good_st er gd)⟩
  obtain ⟨st1, w1, d, sim1, s1, r1, er1, gd1⟩ := q
  exact gd1 w1 H1 v .refl sim1 r1
def sRetN : FS := fun _ st => .ret (.p .none) st
theorem pfs_retN : PFS X W (.Return none pos) sRetN := PS_imp ps_retN fun D σ H ⟨ρ, st, w, sim, er, g⟩ => g w H .non .refl sim (.p .non)
def sIf (t : FT) (g h : FS) : FS := fun ρ st => (t ρ st).st ρ fun b st1 => if b then g ρ st1 else h ρ st1
theorem pfs_if {c : Expr} {as bs : List Stmt} (hc : PFT X W c t) (ha : PFSs X W as ga) (hb : PFSs X W bs gb) : PFS X W (.If c as bs pos) (sIf t ga gb) := PS_imp (ps_if hc ha hb) fun D σ H q => by
  obtain ⟨ρ, st, w, sim, er, gd⟩ := q
  refine ⟨ρ, st, w, sim, er, Good.imp (fun b H1 q => ?_) (good_st er gd)⟩
  obtain ⟨st1, w1, d, sim1, s1, r1, er1, gd1⟩ := q
  obtain rfl : d = b := r1
  cases d with
  | true => exact ⟨ρ, st1, w1, sim1, er1, gd1⟩
  | false => exact ⟨ρ, st1, w1, sim1, er1, gd1⟩

/-! ### targets: names, tuples of them -/
inductive Tg where
  | nm (i : Nat)
  | tp (ts : List Tg)
/-- the items that a value is unpacked to -/
def unT : Dv → Option (List Dv)
  | .p (.tuple xs) => some (xs.map Dv.p)
  | .tupD xs => some xs
  | _ => none
mutual
def tgF : Tg → Dv → Sl → Option Sl
  | .nm i, d, ρ => some (ρ.set i (some d))
  | .tp ts, d, ρ => match unT d with
    | some xs => if xs.length = ts.length then tgFs ts xs ρ else none
    | none => none
def tgFs : List Tg → List Dv → Sl → Option Sl
  | [], [], ρ => some ρ
  | t :: ts, d :: ds, ρ => match tgF t d ρ with
    | some ρ' => tgFs ts ds ρ'
    | none => none
  | _, _, _ => none
end
mutual
def tgG (K : PySem.W.Frag) : Tg → TG
  | .nm i => gName i
  | .tp ts => gTup K ts.length (tgGs K ts)
def tgGs (K : PySem.W.Frag) : List Tg → TGs
  | [] => gNil
  | t :: ts => gCons (tgG K t) (tgGs K ts)
end
mutual
def tgS : Tg → List Nat
  | .nm i => [i]
  | .tp ts => tgSs ts
def tgSs : List Tg → List Nat
  | [] => []
  | t :: ts => tgS t ++ tgSs ts
end
theorem wipe_set {σ : L2.St} {i : Nat} {o : Option V} : ∀ {vs : List Nat}, i ∈ vs → wipe (σ.set i o) vs = wipe σ vs
  | [], h => by cases h
  | v :: vs, h => by
    unfold wipe
    by_cases hv : i = v
    · subst hv
      by_cases hm : i ∈ vs
      · rw [wipe_set hm]
      · rw [wipe_comm hm, List.set_set]
    · have hm : i ∈ vs := (List.mem_cons.mp h).resolve_left hv
      rw [wipe_set hm]
where wipe_comm {σ : L2.St} {i : Nat} {o : Option V} : ∀ {vs : List Nat}, i ∉ vs → wipe (σ.set i o) vs = (wipe σ vs).set i o
  | [], _ => rfl
  | v :: vs, h => by
    unfold wipe
    rw [wipe_comm (fun z => h (List.mem_cons_of_mem _ z)), List.set_comm _ _ (fun e => h (by rw [e]; exact List.mem_cons_self))]
theorem unT_rd {K : PySem.W.Frag} {mg : Str → Option Value} {n : Nat} {w : Wd} {H : Hp} {d : Dv} {v : V} {xs : List Dv} (r : RD K mg n w H d v) (h : unT d = some xs) : ∃ a vs, v = .ref a ∧ SU K w.I H a vs ∧ RDs K mg n w H xs vs := by
  unfold unT at h
  split at h
  · cases h
    cases r with
    | p q => cases q with
      | tup hs hr => exact ⟨_, _, rfl, .inr hs, RDs.ofP hr⟩
  · cases h
    cases r with
    | tupD hs hr => exact ⟨_, _, rfl, hs, hr⟩
  · cases h
section
variable {K : PySem.W.Frag} {mg : Str → Option Value} {n : Nat} {w : Wd} {H : Hp} {vs : List Nat}
mutual
theorem tg_ok : ∀ (t : Tg) (d : Dv) (v : V) (ρ ρ' : Sl) (σ σ0 : L2.St) (Q : L2.St → Hp → Prop), RD K mg n w H d v → EnvR K mg n w H ρ σ → tgF t d ρ = some ρ' → (∀ i ∈ tgS t, i ∈ vs) → wipe σ vs = wipe σ0 vs →
    (∀ σ', EnvR K mg n w H ρ' σ' → wipe σ' vs = wipe σ0 vs → Q σ' H) → tgG K t v σ H Q
  | .nm i, d, v, ρ, ρ', σ, σ0, Q, r, er, h, hv, hw, q => by
    unfold tgF at h
    cases h
    unfold tgG
    exact q _ (er.set r i) (by rw [wipe_set (hv i (by simp [tgS])), hw])
  | .tp ts, d, v, ρ, ρ', σ, σ0, Q, r, er, h, hv, hw, q => by
    unfold tgF at h
    split at h
    · rename_i xs hx
      split at h
      · rename_i hl
        obtain ⟨a, us, rfl, hs, rs⟩ := unT_rd r hx
        unfold tgG
        exact ⟨a, us, rfl, hs.sq, by rw [← rs.length, hl], tgs_ok ts xs us ρ ρ' σ σ0 Q rs er h (fun i hi => hv i (by simpa [tgS] using hi)) hw q⟩
      · cases h
    · cases h
theorem tgs_ok : ∀ (ts : List Tg) (ds : List Dv) (us : List V) (ρ ρ' : Sl) (σ σ0 : L2.St) (Q : L2.St → Hp → Prop), RDs K mg n w H ds us → EnvR K mg n w H ρ σ → tgFs ts ds ρ = some ρ' → (∀ i ∈ tgSs ts, i ∈ vs) → wipe σ vs = wipe σ0 vs →
    (∀ σ', EnvR K mg n w H ρ' σ' → wipe σ' vs = wipe σ0 vs → Q σ' H) → tgGs K ts us σ H Q
  | [], [], us, ρ, ρ', σ, σ0, Q, r, er, h, hv, hw, q => by
    unfold tgFs at h
    cases h
    cases r
    unfold tgGs
    exact ⟨rfl, q _ er hw⟩
  | t :: ts, d :: ds, us, ρ, ρ', σ, σ0, Q, r, er, h, hv, hw, q => by
    unfold tgFs at h
    split at h
    · rename_i ρ1 h1
      cases r with
      | cons r1 r2 =>
        rename_i v1 vs1
        unfold tgGs
        refine ⟨v1, vs1, rfl, ?_⟩
        exact tg_ok t d v1 ρ ρ1 σ σ0 _ r1 er h1 (fun i hi => hv i (by simp [tgSs, hi])) hw fun σ1 er1 hw1 =>
          tgs_ok ts ds vs1 ρ1 ρ' σ1 σ0 Q r2 er1 h (fun i hi => hv i (by simp [tgSs, hi])) hw1 q
    · cases h
  | [], _ :: _, us, ρ, ρ', σ, σ0, Q, r, er, h, hv, hw, q => by simp [tgFs] at h
  | _ :: _, [], us, ρ, ρ', σ, σ0, Q, r, er, h, hv, hw, q => by simp [tgFs] at h
end
end
def toE (o : Option Sl) (f : Sl → Ss) : Ss := match o with
  | some ρ => f ρ
  | none => .stuck
def sAsg (fa : FE) (tg : Tg) : FS := fun ρ st => (fa ρ st).st ρ fun d st1 => toE (tgF tg d ρ) fun ρ' => .nx ρ' st1
theorem tfs_asg {tg : Tg} {D : Ends} {σ : L2.St} {H : Hp} (q : TFS X.K X.mg W (sAsg fa tg) D σ H) : tAsg (TF X.K X.mg W fa) (tgG X.K tg) D σ H := by
  obtain ⟨ρ, st, w, sim, er, gd⟩ := q
  refine ⟨ρ, st, w, sim, er, Good.imp (fun v H1 q => ?_) (good_st er gd)⟩
  obtain ⟨st1, w1, d, sim1, s1, r1, er1, gd1⟩ := q
  unfold toE at gd1
  split at gd1
  · rename_i ρ' he
    exact tg_ok (vs := tgS tg) tg d v ρ ρ' σ σ _ r1 er1 he (fun _ h => h) rfl fun σ' er' _ => gd1 w1 H1 σ' .refl sim1 er'
  · exact gd1.elim
theorem pfs_asg {tg : Tg} {te : Expr} (he : PF X W e fa) (hg : PG X te (tgG X.K tg)) (hs : swapsWithSole [te] e pos.line X.env = pure false := by rfl) (hw : swappedStores [te] e X.env = pure none := by rfl)
    (h1 : (assignEach [te] X.env).map (·.2) = [assign te X.env] := by rfl) : PFS X W (.Assign [te] e pos) (sAsg fa tg) := PS_imp (ps_asg he hg hs hw h1) fun D σ H q => tfs_asg q
theorem pfs_set {i : Nat} {x : Str} {pos' : Pos} (hN : X.N.Nodup) (he : PF X W e fa) (hi : X.N[i]? = some x := by rfl) (hx : Loc X.env.scope x := by first | exact .inl rfl | exact .inr rfl) (hs : swapsWith e (some (.Name x pos')) pos.line X.env = pure false := by rfl)
    (hf : X.fn x = true ∨ X.env.scope.names.lookup x = some .local := by first | exact .inl rfl | exact .inr rfl) : PFS X W (.Assign [.Name x pos'] e pos) (sAsg fa (.nm i)) := PS_imp (ps_set hN hi hx he hs hf) fun D σ H q => tfs_asg q
end
end FB
set_option Elab.async false
set_option linter.all false
set_option maxRecDepth 100000
set_option maxHeartbeats 4000000
/-! FB2: loops, comprehensions, calls of defs, errors, methods of cells. -/
namespace FB
open PySem PySem.Spec PyProof.Rows L2

/-! ### what is walked -/
structure ItOk (K : PySem.W.Frag) (mg : Str → Option Value) (n : Nat) (w : Wd) (H : Hp) (items : List Dv) (J : It) : Prop where
  stop : ∀ n' w' H', Stp n w H n' w' H' → J.stop items.length H'
  go : ∀ (k : Nat) d w' H' (st' : So), items[k]? = some d → Stp n w H st'.length w' H' → Sim K mg w' st' H' → J.go k H' ∧ ∀ x H'', J.yld k H' x H'' → ∃ w'', Stp st'.length w' H' st'.length w'' H'' ∧ Sim K mg w'' st' H'' ∧ RD K mg st'.length w'' H'' d x
theorem ItOk.later {K : PySem.W.Frag} {mg : Str → Option Value} {n n' : Nat} {w w' : Wd} {H H' : Hp} {items : List Dv} {J : It} (g : Stp n w H n' w' H') (h : ItOk K mg n w H items J) : ItOk K mg n' w' H' items J :=
  ⟨fun n2 w2 H2 s => h.stop n2 w2 H2 (g.trans s), fun k d w2 H2 st2 e s sim => h.go k d w2 H2 st2 e (g.trans s) sim⟩
def RelI (K : PySem.W.Frag) (mg : Str → Option Value) : Nat → Wd → Hp → List Dv → It → Prop := fun n w H items J => ItOk K mg n w H items J
def TFI (K : PySem.W.Frag) (mg : Str → Option Value) (W : WX) (f : FA) : TI := fun σ H R => ∃ ρ st w, Sim K mg w st H ∧ EnvR K mg st.length w H ρ σ ∧ Good (RelI K mg) K mg W σ st.length w H R (f ρ st)
def PFI (X : Cx) (W : WX) (tg iter : Expr) (f : FA) : Prop := PI X tg iter (TFI X.K X.mg W f)
theorem PI_imp {X : Cx} {tg iter : Expr} {t t' : TI} (h : PI X tg iter t) (hi : ∀ σ H R, t' σ H R → t σ H R) : PI X tg iter t' := ⟨fun pins s σ H R I q => h.run pins s σ H R I (hi σ H R q)⟩

/-! ### for -/
def sForL (tg : Tg) (body : FS) : List Dv → FS
  | [], ρ, st => .nx ρ st
  | d :: ds, ρ, st => toE (tgF tg d ρ) fun ρ' => match body ρ' st with
    | .nx ρ2 st2 => sForL tg body ds ρ2 st2
    | .cnt ρ2 st2 => sForL tg body ds ρ2 st2
    | .brk ρ2 st2 => .nx ρ2 st2
    | r => r
def sFor (fi : FA) (tg : Tg) (body : FS) : FS := fun ρ st => (fi ρ st).st ρ fun items st1 => sForL tg body items ρ st1
section
variable {X : Cx} {W : WX} {pos : Pos}
theorem tfs_forL {K : PySem.W.Frag} {mg : Str → Option Value} {tg : Tg} {body : FS} {D : Ends} {σ : L2.St} {J : It} {items : List Dv} {st1 : So} {w1 : Wd} {H1 : Hp} {ρ : Sl} (it : ItOk K mg st1.length w1 H1 items J) (sim1 : Sim K mg w1 st1 H1) (er1 : EnvR K mg st1.length w1 H1 ρ σ) (gd1 : GoodS K mg W st1.length w1 H1 D (sForL tg body items ρ st1)) :
    ∃ Wn : Nat → Nat → L2.St → Hp → Prop, (∃ m, Wn 0 m σ H1) ∧ ∀ i m σ H, Wn i m σ H → (J.stop i H ∧ D.nx σ H) ∨ (J.go i H ∧ ∃ N : L2.St → Hp → Prop, (∀ σ' H', N σ' H' → ∃ m', m' < m ∧ Wn (i + 1) m' σ' H') ∧ ∀ x H', J.yld i H x H' → tgG K tg x σ H' fun σ2 H2 => TFS K mg W body { D with nx := N, ct := N, bk := D.nx } σ2 H2) := by
  refine ⟨fun i m σ2 H2 => ∃ ρ2 st2 w2, Sim K mg w2 st2 H2 ∧ EnvR K mg st2.length w2 H2 ρ2 σ2 ∧ Stp st1.length w1 H1 st2.length w2 H2 ∧ m = items.length - i ∧ i ≤ items.length ∧ GoodS K mg W st2.length w2 H2 D (sForL tg body (items.drop i) ρ2 st2),
    ⟨items.length, ρ, st1, w1, sim1, er1, .refl, rfl, Nat.zero_le _, gd1⟩, ?_⟩
  rintro i m σ2 H2 ⟨ρ2, st2, w2, sim2, er2, s2, rfl, hi, gd2⟩
  by_cases hlt : i < items.length
  · have e0 : items[i]? = some items[i] := List.getElem?_eq_getElem hlt
    obtain ⟨go, yl⟩ := it.go i _ w2 H2 st2 e0 s2 sim2
    refine .inr ⟨go, fun σ' H' => ∃ ρ3 st3 w3, Sim K mg w3 st3 H' ∧ EnvR K mg st3.length w3 H' ρ3 σ' ∧ Stp st1.length w1 H1 st3.length w3 H' ∧ GoodS K mg W st3.length w3 H' D (sForL tg body (items.drop (i + 1)) ρ3 st3), ?_, ?_⟩
    · rintro σ' H' ⟨ρ3, st3, w3, sim3, er3, s3, gd3⟩
      exact ⟨items.length - (i + 1), by omega, ρ3, st3, w3, sim3, er3, s3, rfl, hlt, gd3⟩
    · intro x H3 hy
      obtain ⟨w3, s3, sim3, r3⟩ := yl x H3 hy
      rw [List.drop_eq_getElem_cons hlt] at gd2
      have gd3 := gd2.later s3
      unfold sForL toE at gd3
      split at gd3
      · rename_i ρ' hρ
        dsimp only at gd3
        refine tg_ok (vs := tgS tg) tg _ x ρ2 ρ' σ2 σ2 _ r3 (er2.mono s3) hρ (fun _ h => h) rfl fun σ4 er4 _ => ⟨ρ', st2, w3, sim3, er4, ?_⟩
        cases eb : body ρ' st2 with
        | nx ρ5 st5 =>
          rw [eb] at gd3
          exact fun w5 H5 σ5 s5 sim5 er5 => ⟨ρ5, st5, w5, sim5, er5, (s2.trans s3).trans s5, gd3.later s5⟩
        | cnt ρ5 st5 =>
          rw [eb] at gd3
          exact fun w5 H5 σ5 s5 sim5 er5 => ⟨ρ5, st5, w5, sim5, er5, (s2.trans s3).trans s5, gd3.later s5⟩
        | brk ρ5 st5 => rw [eb] at gd3; exact gd3
        | ret d st5 => rw [eb] at gd3; exact gd3
        | exc c fs ρ5 st5 => rw [eb] at gd3; exact gd3
        | stuck => rw [eb] at gd3; exact gd3.elim
      · exact gd3.elim
  · have e : i = items.length := by omega
    subst e
    rw [List.drop_length] at gd2
    exact .inl ⟨it.stop _ _ _ s2, gd2 w2 H2 σ2 .refl sim2 er2⟩
theorem tfs_for {K : PySem.W.Frag} {mg : Str → Option Value} {fi : FA} {tg : Tg} {body : FS} {D : Ends} {σ : L2.St} {H : Hp} (h : TFS K mg W (sFor fi tg body) D σ H) : tFor (TFI K mg W fi) (tgG K tg) (TFS K mg W body) D σ H := by
  obtain ⟨ρ, st, w, sim, er, gd⟩ := h
  refine ⟨ρ, st, w, sim, er, Good.imp (fun J H1 q => ?_) (good_st er gd)⟩
  obtain ⟨st1, w1, items, sim1, s1, it, er1, gd1⟩ := q
  exact tfs_forL it sim1 er1 gd1
theorem pfs_for {te iter : Expr} {bs : List Stmt} {fi : FA} {tg : Tg} {body : FS} (hp : PassesOwn (model X.prog X.w) X.A X.env X.xe) (hc : X.calm = true) (hi : PFI X W te iter fi) (hg : PG X te (tgG X.K tg)) (hb : PFSs X W bs body)
    (hs : ∀ x, foldedSetIterable iter X.env x = pure x := by intro _; rfl) : PFS X W (.For te iter bs [] pos) (sFor fi tg body) := PS_imp (ps_for hp hc hi hg hb hs) fun D σ H q => tfs_for q
/-! ### while -/
def sWhN (t : FT) (body : FS) : Nat → FS
  | 0, _, _ => .stuck
  | k + 1, ρ, st => (t ρ st).st ρ fun b st1 => if b then match body ρ st1 with
      | .nx ρ2 st2 => sWhN t body k ρ2 st2
      | .cnt ρ2 st2 => sWhN t body k ρ2 st2
      | .brk ρ2 st2 => .nx ρ2 st2
      | r => r
    else .nx ρ st1
def sWh (t : FT) (body : FS) (fuel : Nat) : FS := sWhN t body fuel
theorem tfs_while {K : PySem.W.Frag} {mg : Str → Option Value} {t : FT} {body : FS} {fuel : Nat} {D : Ends} {σ : L2.St} {H : Hp} (h : TFS K mg W (sWh t body fuel) D σ H) : tWhile (TFT K mg W t) (TFS K mg W body) D σ H := by
  obtain ⟨ρ, st, w, sim, er, gd⟩ := h
  refine ⟨fun m σ2 H2 => ∃ ρ2 st2 w2, Sim K mg w2 st2 H2 ∧ EnvR K mg st2.length w2 H2 ρ2 σ2 ∧ GoodS K mg W st2.length w2 H2 D (sWhN t body m ρ2 st2), ⟨fuel, ρ, st, w, sim, er, gd⟩, ?_⟩
  rintro m σ2 H2 ⟨ρ2, st2, w2, sim2, er2, gd2⟩
  cases m with
  | zero => exact gd2.elim
  | succ k =>
    unfold sWhN at gd2
    refine ⟨ρ2, st2, w2, sim2, er2, Good.imp (fun b H3 q => ?_) (good_st er2 gd2)⟩
    obtain ⟨st3, w3, d, sim3, s3, r3, er3, gd3⟩ := q
    obtain rfl : d = b := r3
    cases d with
    | false => exact gd3 w3 H3 σ2 .refl sim3 er3
    | true =>
      refine ⟨fun σ' H' => ∃ ρ4 st4 w4, Sim K mg w4 st4 H' ∧ EnvR K mg st4.length w4 H' ρ4 σ' ∧ GoodS K mg W st4.length w4 H' D (sWhN t body k ρ4 st4), fun σ' H' q => ⟨k, Nat.lt_succ_self _, q⟩, ρ2, st3, w3, sim3, er3, ?_⟩
      simp only [if_true] at gd3
      cases eb : body ρ2 st3 with
      | nx ρ5 st5 =>
        rw [eb] at gd3
        exact fun w5 H5 σ5 s5 sim5 er5 => ⟨ρ5, st5, w5, sim5, er5, gd3.later s5⟩
      | cnt ρ5 st5 =>
        rw [eb] at gd3
        exact fun w5 H5 σ5 s5 sim5 er5 => ⟨ρ5, st5, w5, sim5, er5, gd3.later s5⟩
      | brk ρ5 st5 => rw [eb] at gd3; exact gd3
      | ret d st5 => rw [eb] at gd3; exact gd3
      | exc c fs ρ5 st5 => rw [eb] at gd3; exact gd3
      | stuck => rw [eb] at gd3; exact gd3.elim
theorem pfs_while {c : Expr} {bs : List Stmt} {t : FT} {body : FS} (fuel : Nat) (hp : PassesOwn (model X.prog X.w) X.A X.env X.xe) (hc : PFT X W c t) (hb : PFSs X W bs body) : PFS X W (.While c bs [] pos) (sWh t body fuel) := PS_imp (ps_while hp hc hb) fun D σ H q => tfs_while q

/-! ### comprehensions -/
/-- no error leaves a comprehension -/
abbrev W0 : WX := fun _ _ _ _ => False
def Rs.bindN {α β : Type} : Rs α → (α → So → Rs β) → Rs β
  | .ok a st, f => f a st
  | _, _ => .stuck
def cmpL (tg : Tg) (tt : FT) (fe : FE) (ρ : Sl) : List Dv → List Dv → So → Rs (List Dv)
  | [], acc, st => .ok acc st
  | d :: ds, acc, st => match tgF tg d ρ with
    | none => .stuck
    | some ρ' => (tt ρ' st).bindN fun b st1 => if b then (fe ρ' st1).bindN fun y st2 => cmpL tg tt fe ρ ds (acc ++ [y]) st2 else cmpL tg tt fe ρ ds acc st1
def rhoW (ρ : Sl) : List Nat → Sl
  | [] => ρ
  | v :: vs => (rhoW ρ vs).set v none
/-- [elt for tg in iter if ..]: the new list's items -/
def fLc (fi : FA) (tg : Tg) (tt : FT) (fe : FE) : FA := fun ρ st => (fi ρ st).bind fun items st1 => if items.length ≤ 100000 then cmpL tg tt fe (rhoW ρ (tgS tg)) items [] st1 else .stuck
def tYesF : FT := fun _ st => .ok true st
theorem envW {K : PySem.W.Frag} {mg : Str → Option Value} {n : Nat} {w : Wd} {H : Hp} {ρ : Sl} {σ : L2.St} (h : EnvR K mg n w H ρ σ) : ∀ vs : List Nat, EnvR K mg n w H (rhoW ρ vs) (wipe σ vs)
  | [] => h
  | v :: vs => (envW h vs).setN v
theorem wipe_idem {σ : L2.St} {ws : List Nat} : ∀ {vs : List Nat}, (∀ v ∈ vs, v ∈ ws) → wipe (wipe σ vs) ws = wipe σ ws
  | [], _ => rfl
  | v :: vs, h => by
    show wipe ((wipe σ vs).set v none) ws = wipe σ ws
    rw [wipe_set (h v List.mem_cons_self), wipe_idem fun u hu => h u (List.mem_cons_of_mem _ hu)]
/-- the making of a comprehension: the items so far, the new list put away -/
theorem cmp_ok {K : PySem.W.Frag} {mg : Str → Option Value} {Wc : WX} {σ : L2.St} {st1 : So} {w1 : Wd} {H1 : Hp} {J : It} {items : List Dv} {tg : Tg} {tt : FT} {fe : FE} {ρ : Sl} {D : Addr} {Q : VK}
    (it : ItOk K mg st1.length w1 H1 items J) (hn : items.length ≤ 100000) (er : EnvR K mg st1.length w1 H1 ρ (wipe σ (tgS tg))) (sim1 : Sim K mg w1 st1 H1) (hD : H1 D = none)
    (gd : Good (RDs K mg) K mg Wc σ st1.length w1 H1 (fun vs H' => ∀ p, H' p = none → vs.length ≤ sizeLine → Q (.ref p) (upd H' p (.lst vs))) (cmpL tg tt fe ρ items [] st1)) :
    ∃ Wn : Nat → Nat → Hp → Prop, (∃ m, Wn 0 m (upd H1 D (.lst []))) ∧ ∀ i m H, Wn i m H →
      (J.stop i H ∧ Q (.ref D) H) ∨ (J.go i H ∧ ∃ Nx : Hp → Prop, (∀ H', Nx H' → ∃ m', m' < m ∧ Wn (i + 1) m' H') ∧ ∀ x H', J.yld i H x H' → tgG K tg x (wipe σ (tgS tg)) H' fun σ2 H2 => wipe σ2 (tgS tg) = wipe σ (tgS tg) ∧ TFT K mg W0 tt σ2 H2 fun b H3 =>
        if b = true then TF K mg W0 fe σ2 H3 fun y H4 => ∃ acc, H4 D = some (.lst acc) ∧ acc.length < sizeLine ∧ Nx (upd H4 D (.lst (acc ++ [y]))) else Nx H3) := by
  have big : ∀ {k : Nat}, k ≤ 100000 → k < sizeLine := fun h => Nat.lt_of_le_of_lt h (by decide)
  refine ⟨fun i m H => m = items.length - i ∧ i ≤ items.length ∧ ∃ st w Hb acc vs, Sim K mg w st Hb ∧ Hb D = none ∧ H = upd Hb D (.lst vs) ∧ RDs K mg st.length w Hb acc vs ∧ Stp st1.length w1 H1 st.length w Hb ∧ acc.length ≤ i ∧
    Good (RDs K mg) K mg Wc σ st.length w Hb (fun vs H' => ∀ p, H' p = none → vs.length ≤ sizeLine → Q (.ref p) (upd H' p (.lst vs))) (cmpL tg tt fe ρ (items.drop i) acc st),
    ⟨items.length, rfl, Nat.zero_le _, st1, w1, H1, [], [], sim1, hD, rfl, .nil, .refl, Nat.le_refl _, gd⟩, ?_⟩
  rintro i m H ⟨rfl, hi, st, w, Hb, acc, vs, sim, hDb, rfl, racc, s0, hacc, gd0⟩
  obtain ⟨s2, sim2⟩ := sim.put (o := .lst vs) hDb
  by_cases hlt : i < items.length
  · have e0 : items[i]? = some items[i] := List.getElem?_eq_getElem hlt
    obtain ⟨go, yl⟩ := it.go i _ (w.aside D) _ st e0 (s0.trans s2) sim2
    refine .inr ⟨go, fun H' => ∃ st' w' Hb' acc' vs', Sim K mg w' st' Hb' ∧ Hb' D = none ∧ H' = upd Hb' D (.lst vs') ∧ RDs K mg st'.length w' Hb' acc' vs' ∧ Stp st1.length w1 H1 st'.length w' Hb' ∧ acc'.length ≤ i + 1 ∧
      Good (RDs K mg) K mg Wc σ st'.length w' Hb' (fun vs H' => ∀ p, H' p = none → vs.length ≤ sizeLine → Q (.ref p) (upd H' p (.lst vs))) (cmpL tg tt fe ρ (items.drop (i + 1)) acc' st'), ?_, ?_⟩
    · rintro H' ⟨st', w', Hb', acc', vs', q⟩
      exact ⟨items.length - (i + 1), by omega, rfl, hlt, st', w', Hb', acc', vs', q⟩
    · intro x H3 hy
      obtain ⟨w3, s3, sim3, r3⟩ := yl x H3 hy
      rw [List.drop_eq_getElem_cons hlt] at gd0
      unfold cmpL at gd0
      split at gd0
      · exact gd0.elim
      · rename_i ρ' hρ
        have s23 := s2.trans s3
        have fD : ∀ {n' w' H'}, Stp st.length w3 H3 n' w' H' → w'.F D ∧ H' D = some (.lst vs) := fun {n' w' H'} g =>
          ⟨g.frm.inc D (s3.frm.inc D (.inl rfl)), g.frm.imm D _ (s3.frm.inc D (.inl rfl)) (s3.frm.imm D _ (.inl rfl) upd_same)⟩
        have hFF : ∀ {n' w' H'}, Stp st.length w3 H3 n' w' H' → ∀ a, w.F a → w'.F a ∧ a ≠ D := fun {n' w' H'} g a ha => by
          obtain ⟨⟨z, hz⟩, _⟩ := sim.fr a ha
          exact ⟨g.frm.inc a (s23.frm.inc a ha), ne_of_none hz hDb⟩
        -- back on the ground
        have land : ∀ {st' w' H'}, Stp st.length w3 H3 (List.length st') w' H' → Sim K mg w' st' H' → Sim K mg (w'.back w.F) st' (era H' D) ∧ Stp st.length w Hb st'.length (w'.back w.F) (era H' D) ∧
            Stp st'.length { w' with F := fun _ => False } H' st'.length (w'.back w.F) (era H' D) := fun {st' w' H'} g sm => by
          obtain ⟨a1, a2, a3⟩ := sm.drop (F := w.F) (fD g).1 (hFF g)
          exact ⟨a1, a2 (s23.trans g) fun _ h => h, a3⟩
        refine tg_ok (vs := tgS tg) tg _ x ρ ρ' _ (wipe σ (tgS tg)) _ r3 (er.mono ((s0.trans s2).trans s3)) hρ (fun _ h => h) rfl fun σ4 er4 hw4 => ⟨hw4.trans (wipe_idem fun _ h => h), ρ', st, w3, sim3, er4, ?_⟩
        cases et : tt ρ' st with
        | stuck => rw [et] at gd0; exact gd0.elim
        | exc c fs st' => rw [et] at gd0; exact gd0.elim
        | ok b st4 =>
          rw [et] at gd0
          intro w4 H4 b' s4 sim4 eb
          obtain rfl : b = b' := eb
          have gd0 : Good (RDs K mg) K mg Wc σ st.length w Hb (fun vs H' => ∀ p, H' p = none → vs.length ≤ sizeLine → Q (.ref p) (upd H' p (.lst vs))) (if b = true then (fe ρ' st4).bindN fun y st2 => cmpL tg tt fe ρ (items.drop (i + 1)) (acc ++ [y]) st2 else cmpL tg tt fe ρ (items.drop (i + 1)) acc st4) := gd0
          cases b with
          | false =>
            rw [if_neg Bool.false_ne_true] at gd0 ⊢
            obtain ⟨a1, a2, a3⟩ := land s4 sim4
            refine ⟨st4, w4.back w.F, era H4 D, acc, vs, a1, era_same, ?_, racc.mono a2, s0.trans a2, Nat.le_succ_of_le hacc, gd0.later a2⟩
            rw [upd_era]
            funext c
            by_cases hc : c = D
            · subst hc; rw [upd_same]; exact (fD s4).2
            · rw [upd_ne hc]
          | true =>
            rw [if_pos rfl] at gd0 ⊢
            refine ⟨ρ', st4, w4, sim4, er4.mono s4, ?_⟩
            cases ef : fe ρ' st4 with
            | stuck => rw [ef] at gd0; exact gd0.elim
            | exc c fs st' => rw [ef] at gd0; exact gd0.elim
            | ok y st5 =>
              rw [ef] at gd0
              intro w5 H5 v s5 sim5 r5
              have s45 := s4.trans s5
              obtain ⟨a1, a2, a3⟩ := land s45 sim5
              have lv : vs.length < sizeLine := by rw [← racc.length]; exact big (by omega)
              refine ⟨vs, (fD s45).2, lv, st5, w5.back w.F, era H5 D, acc ++ [y], vs ++ [v], a1, era_same, by rw [upd_era], (racc.mono a2).append (.cons (r5.back a3) .nil), s0.trans a2, ?_, ?_⟩
              · rw [List.length_append, List.length_singleton]; omega
              · exact Good.later a2 gd0
  · have e : i = items.length := by omega
    subst e
    rw [List.drop_length] at gd0
    refine .inl ⟨it.stop _ _ _ (s0.trans s2), ?_⟩
    exact gd0 w Hb vs .refl sim racc D hDb (by rw [← racc.length]; exact Nat.le_of_lt (big (by omega)))
theorem tfl_lc {K : PySem.W.Frag} {mg : Str → Option Value} {fi : FA} {tg : Tg} {tt : FT} {fe : FE} {σ : L2.St} {H : Hp} {Q : VK} (h : TFL K mg W (fLc fi tg tt fe) σ H Q) : tLc (TFI K mg W fi) (tgG K tg) (TFT K mg W0 tt) (TF K mg W0 fe) (tgS tg) σ H Q := by
  obtain ⟨ρ, st, w, sim, er, gd⟩ := h
  refine ⟨ρ, st, w, sim, er, Good.imp (fun J H1 q => ?_) (Good.bind gd)⟩
  obtain ⟨st1, w1, items, sim1, s1, it, gd1⟩ := q
  intro D hD
  by_cases hn : items.length ≤ 100000
  · rw [if_pos hn] at gd1
    exact cmp_ok it hn (envW (er.mono s1) _) sim1 hD gd1
  · rw [if_neg hn] at gd1
    exact gd1.elim
theorem pfl_lc {elt te iter : Expr} {ifs : List Expr} {scope : Scope} {own : List (Str × Nat)} {fi : FA} {tg : Tg} {tt : FT} {fe : FE} (hc : X.calm = true) (hN : X.N.Nodup) (hi : PFI X W te iter fi) (ok : BlkOk X.N X.env.scope scope own) (ho : own.map (·.2) = tgS tg)
    (hg : ∀ (s : Shared) (H : Hp) (C : Addr) (cl : List (Str × Addr)) (fp : List Addr), PG (X.blk s H scope (compEnvC scope cl C X.env) fp) te (tgG X.K tg)) (ht : ∀ (s : Shared) (H : Hp) (C : Addr) (cl : List (Str × Addr)) (fp : List Addr), PTs (X.blk s H scope (compEnvC scope cl C X.env) fp) ifs (TFT X.K X.mg W0 tt))
    (he : ∀ (s : Shared) (H : Hp) (C : Addr) (cl : List (Str × Addr)) (fp : List Addr), PF (X.blk s H scope (compEnvC scope cl C X.env) fp) W0 elt fe) (hs : ∀ x, foldedSetIterable iter X.env x = pure x := by intro _; rfl) :
    PFL X W (.ListComp elt [⟨te, iter, ifs, 0⟩] scope pos) (fLc fi tg tt fe) := PE_imp (pe_lc (te := TF X.K X.mg W0 fe) hc hN hi ok hg ht he hs) fun σ H Q h => by
  rw [ho]
  exact tfl_lc h
theorem pts_yes {Y : Cx} {K : PySem.W.Frag} {mg : Str → Option Value} : PTs Y [] (TFT K mg W0 tYesF) := ⟨fun pins s σ H Q I h => pts_nil.run pins s σ H Q I (by
  obtain ⟨ρ, st, w, sim, er, g⟩ := h
  exact g w H true .refl sim rfl)⟩
theorem pts_if {Y : Cx} {c : Expr} {t : FT} (h : PFT Y W0 c t) : PTs Y [c] (TFT Y.K Y.mg W0 t) := pts_one h
/-- name = [..], as data | as a cell -/
theorem pfs_setLc {i : Nat} {y : Str} {py spos : Pos} {elt te iter : Expr} {ifs : List Expr} {scope : Scope} {own : List (Str × Nat)} {fi : FA} {tg : Tg} {tt : FT} {fe : FE} {fr : FE} (hc : X.calm = true) (hN : X.N.Nodup) (hi : PFI X W te iter fi) (ok : BlkOk X.N X.env.scope scope own) (ho : own.map (·.2) = tgS tg)
    (hg : ∀ (s : Shared) (H : Hp) (C : Addr) (cl : List (Str × Addr)) (fp : List Addr), PG (X.blk s H scope (compEnvC scope cl C X.env) fp) te (tgG X.K tg)) (ht : ∀ (s : Shared) (H : Hp) (C : Addr) (cl : List (Str × Addr)) (fp : List Addr), PTs (X.blk s H scope (compEnvC scope cl C X.env) fp) ifs (TFT X.K X.mg W0 tt))
    (he : ∀ (s : Shared) (H : Hp) (C : Addr) (cl : List (Str × Addr)) (fp : List Addr), PF (X.blk s H scope (compEnvC scope cl C X.env) fp) W0 elt fe)
    (hsw : swapsWith (.ListComp elt [⟨te, iter, ifs, 0⟩] scope pos) (some (.Name y py)) spos.line X.env = pure true) (hfr : ∀ σ H Q, TF X.K X.mg W fr σ H Q → TFL X.K X.mg W (fLc fi tg tt fe) σ H Q)
    (hy : X.N[i]? = some y := by rfl) (hyl : X.env.scope.names.lookup y = some .local := by rfl) (hs : ∀ x, foldedSetIterable iter X.env x = pure x := by intro _; rfl) :
    PFS X W (.Assign [.Name y py] (.ListComp elt [⟨te, iter, ifs, 0⟩] scope pos) spos) (sAsg fr (.nm i)) := PS_imp (ps_setLc (te := TF X.K X.mg W0 fe) hc hN hy hyl hsw hi ok hg ht he hs) fun D σ H h => by
  have h2 := tfs_asg h
  rw [ho]
  exact tfl_lc (hfr σ H _ h2)
theorem tf_pure {K : PySem.W.Frag} {mg : Str → Option Value} {fr : FA} (σ : L2.St) (H : Hp) (Q : VK) (hh : TF K mg W (fPure fr) σ H Q) : TFL K mg W fr σ H Q := by
  obtain ⟨ρ, st, w, sim, er, gd⟩ := hh
  refine ⟨ρ, st, w, sim, er, Good.imp (fun vs H1 q => ?_) (Good.bind gd)⟩
  obtain ⟨st1, w1, ds, sim1, s1, r1, gd1⟩ := q
  intro p hp hl
  by_cases hs : small ds = true
  · rw [if_pos hs] at gd1
    obtain ⟨s2, sim2⟩ := sim1.newP (o := .lst vs) hp
    exact gd1 _ _ _ s2 sim2 (rd_mkL ⟨.inl rfl, upd_same⟩ (r1.mono s2))
  · rw [if_neg hs] at gd1
    exact gd1.elim
theorem tf_cell {K : PySem.W.Frag} {mg : Str → Option Value} {fr : FA} (σ : L2.St) (H : Hp) (Q : VK) (hh : TF K mg W (fCell fr) σ H Q) : TFL K mg W fr σ H Q := by
  obtain ⟨ρ, st, w, sim, er, gd⟩ := hh
  refine ⟨ρ, st, w, sim, er, Good.imp (fun vs H1 q => ?_) (Good.bind gd)⟩
  obtain ⟨st1, w1, ds, sim1, s1, r1, gd1⟩ := q
  intro p hp hl
  by_cases hs : small ds = true
  · rw [if_pos hs] at gd1
    obtain ⟨s2, sim2⟩ := sim1.newC (o := .lst vs) (c := .lst ds) hp fun {n' w' H'} g e nI => ⟨vs, e, r1.mono g, nI⟩
    have hm : V.ref p = V.ref ((w1.cel st1.length p).m st1.length) := by
      show V.ref p = V.ref (if st1.length = st1.length then p else _)
      rw [if_pos rfl]
    rw [hm]
    refine gd1 _ _ _ ?_ sim2 (.ref ?_)
    · rw [List.length_append, List.length_singleton]; exact s2
    · rw [List.length_append, List.length_singleton]; exact Nat.lt_succ_self _
  · rw [if_neg hs] at gd1
    exact gd1.elim

/-! ### calls of defs -/
def lowD (n : Nat) : Dv → Bool
  | .ref i => decide (i < n)
  | .tupD xs => go xs
  | .lstD xs => go xs
  | _ => true
where go : List Dv → Bool
  | [] => true
  | x :: xs => lowD n x && go xs
def lowC (n : Nat) : Cl → Bool
  | .lst xs => lowD.go n xs
  | .dK kvs => kvs.all fun p => lowD n p.2
  | .dT kvs => kvs.all fun p => lowD n p.2
  | .dead => true
def trim (n : Nat) (d : Dv) (st : So) : So := if lowD n d && (st.take n).all (lowC n) then st.take n else st
def runD (N : Nat) (body : FS) : FD := fun args st => match body (args.map some ++ List.replicate (N - args.length) none) st with
  | .nx _ st' => .ok (.p .none) (trim st.length (.p .none) st')
  | .ret d st' => .ok d (trim st.length d st')
  | .exc c fs _ st' => .exc c fs (trim st.length (.p .none) st')
  | _ => .stuck
def spD (K : PySem.W.Frag) (mg : Str → Option Value) (n : Nat) (F : FD) : Sp := fun vs H Q E => vs.length = n ∧ ∃ ds st w, Sim K mg w st H ∧ RDs K mg st.length w H ds vs ∧ Good (RD K mg) K mg (fun cv dd _ H' => E cv dd H') [] st.length w H Q (F ds st)
section
variable {K : PySem.W.Frag} {mg : Str → Option Value} {n m : Nat} {w : Wd} {H : Hp} {st : So}
mutual
theorem RD.low (hm : n ≤ m) : ∀ {d : Dv} {v : V}, RD K mg m w H d v → lowD n d = true → RD K mg n w H d v
  | _, _, .p h, _ => .p h
  | _, _, .ref h, e => .ref (of_decide_eq_true e)
  | _, _, .tupD h hs, e => .tupD h (RDs.low hm hs e)
  | _, _, .lstD h hs, e => .lstD h (RDs.low hm hs e)
  | _, _, .frz h, _ => .frz h
  | _, _, .exc m i e, _ => .exc m i e
theorem RDs.low (hm : n ≤ m) : ∀ {ds : List Dv} {vs : List V}, RDs K mg m w H ds vs → lowD.go n ds = true → RDs K mg n w H ds vs
  | _, _, .nil, _ => .nil
  | _, _, .cons h hs, e => by
    have e' : (lowD n _ && lowD.go n _) = true := e
    rw [Bool.and_eq_true] at e'
    exact .cons (RD.low hm h e'.1) (RDs.low hm hs e'.2)
end
theorem paired_low {κ : Type} (hm : n ≤ m) : ∀ {kvs : List (κ × Dv)} {kws : List (κ × V)}, Paired (fun p q => p.1 = q.1 ∧ RD K mg m w H p.2 q.2) kvs kws → (kvs.all fun p => lowD n p.2) = true → Paired (fun p q => p.1 = q.1 ∧ RD K mg n w H p.2 q.2) kvs kws
  | _, _, .nil, _ => .nil
  | _, _, .cons h t, e => by
    rw [List.all_cons, Bool.and_eq_true] at e
    exact .cons ⟨h.1, h.2.low hm e.1⟩ (paired_low hm t e.2)
theorem CellOk.low {a : Addr} {c : Cl} (hm : n ≤ m) (h : CellOk K mg m w H a c) (e : lowC n c = true) : CellOk K mg n w H a c := by
  cases c with
  | lst xs => obtain ⟨vs, e1, r, ni⟩ := h; exact ⟨vs, e1, r.low hm e, ni⟩
  | dK kvs => obtain ⟨vs, e1, r, ni⟩ := h; exact ⟨vs, e1, paired_low hm r e, ni⟩
  | dT kvs => obtain ⟨vs, e1, r, ni⟩ := h; exact ⟨vs, e1, paired_low hm r e, ni⟩
  | dead => trivial
theorem live_take {i : Nat} (h : live (st.take n) i) : live st i := by
  obtain ⟨c, e, hc⟩ := h
  rw [List.getElem?_take] at e
  split at e
  · exact ⟨c, e, hc⟩
  · cases e
/-- behind the trimming -/
theorem Sim.trim (s : Sim K mg w st H) {d : Dv} {n0 : Nat} {w0 : Wd} {H0 : Hp} (g : Stp n0 w0 H0 st.length w H) : Sim K mg w (trim n0 d st) H ∧ Stp n0 w0 H0 (trim n0 d st).length w H ∧ ∀ v, RD K mg st.length w H d v → RD K mg (trim n0 d st).length w H d v := by
  unfold FB.trim
  split
  · rename_i h
    rw [Bool.and_eq_true] at h
    obtain ⟨h1, h2⟩ := h
    have hl : (st.take n0).length = n0 := by rw [List.length_take]; exact Nat.min_eq_left g.le
    rw [hl]
    refine ⟨⟨fun i c e => ?_, fun i j hi hj => s.inj i j (live_take hi) (live_take hj), s.trk, fun a h => ?_⟩, ⟨Nat.le_refl _, g.ext, g.gro, g.frm⟩, fun v r => r.low g.le h1⟩
    · rw [hl]
      have hc := List.all_eq_true.mp h2 c (List.mem_of_getElem? e)
      rw [List.getElem?_take] at e
      split at e
      · exact (s.cell i c e).low g.le hc
      · cases e
    · obtain ⟨q1, q2, q3⟩ := s.fr a h
      exact ⟨q1, q2, fun i hi => q3 i (live_take hi)⟩
  · exact ⟨s, g, fun _ r => r⟩
end
theorem envStart {K : PySem.W.Frag} {mg : Str → Option Value} {n : Nat} {w : Wd} {H : Hp} {ds : List Dv} {vs : List V} {N : List Str} (r : RDs K mg n w H ds vs) : EnvR K mg n w H (ds.map some ++ List.replicate (N.length - ds.length) none) (L2.start N vs) := by
  unfold L2.start
  rw [r.length]
  refine ⟨by rw [List.length_append, List.length_append, List.length_map, List.length_map, List.length_replicate, List.length_replicate, r.length], fun i d e => ?_⟩
  by_cases hi : i < ds.length
  · rw [List.getElem?_append_left (by rw [List.length_map]; exact hi), List.getElem?_map] at e
    cases e1 : ds[i]? with
    | none => rw [e1] at e; cases e
    | some d' =>
      rw [e1] at e
      cases e
      obtain ⟨v, h1, h2⟩ := r.get e1
      refine ⟨v, ?_, h2⟩
      rw [List.getElem?_append_left (by rw [List.length_map, ← r.length]; exact hi), List.getElem?_map, h1]
      rfl
  · rw [List.getElem?_append_right (by rw [List.length_map]; omega), List.getElem?_replicate] at e
    split at e <;> cases e
/-- a def's body keeps the def's promise -/
theorem body_ok {K : PySem.W.Frag} {mg : Str → Option Value} {N : List Str} {a : Nat} {body : FS} {vs : List V} {H : Hp} {Q : VK} {E : XK} (h : spD K mg a (runD N.length body) vs H Q E) :
    TFS K mg (fun cv dd _ H' => E cv dd H') body { nx := fun _ H' => Q .non H', rt := Q } (L2.start N vs) H := by
  obtain ⟨_, ds, st, w, sim, r, gd⟩ := h
  refine ⟨_, st, w, sim, envStart r, ?_⟩
  unfold runD at gd
  generalize body (ds.map some ++ List.replicate (N.length - ds.length) none) st = res at gd ⊢
  cases res with
  | nx ρ' st' =>
    intro w' H' σ' s sim' er'
    obtain ⟨a1, a2, a3⟩ := sim'.trim (d := .p .none) s
    exact gd w' H' .non a2 a1 (.p .non)
  | ret d st' =>
    intro w' H' v s sim' rv
    obtain ⟨a1, a2, a3⟩ := sim'.trim (d := d) s
    exact gd w' H' v a2 a1 (a3 v rv)
  | exc c fs ρ' st' =>
    intro w' H' σ' cv dd s sim' er' ex
    obtain ⟨a1, a2, a3⟩ := sim'.trim (d := .p .none) s
    exact gd w' H' cv dd a2 a1 ex
  | brk ρ' st' => exact gd.elim
  | cnt ρ' st' => exact gd.elim
  | stuck => exact gd.elim
section
variable {P : Program} {w : World} {K : PySem.W.Frag} {mg : Str → Option Value} {base : Heap}
theorem fn_ok {x qual : Str} {st : Stmt} {f : Addr} {fd : FuncData} {N ps : List Str} {k : Nat} {body : FS} (F : Fun K x qual st f fd) (S : FnScope N ps (defScope st))
    (hbody : ∀ (cdv : Value) (A : Around) (outer : List Env) (s : Shared) (H : Hp) (E : XK), Room k (A.deeper (envOfC qual (defScope st) s.heap.objs.size f cdv)) →
      PFSs (cxOf (L2.CX P w) P w K mg base N qual (defScope st) f cdv A outer s H E) (fun cv dd _ H' => E cv dd H') (defBody st) body) : FnOk P w K mg base (L2.CX P w) (k + 1) f fd ps (spD K mg ps.length (runD N.length body)) :=
  F.okX S (fun vs H Q E h => h.1) fun cdv A outer s H vs Q E hr h => ⟨_, hbody cdv A outer s H E hr, body_ok h⟩
end
def fCall (F : FD) (fr : FA) : FE := fun ρ st => (fr ρ st).bind F
theorem pf_call {k a : Nat} {f : Addr} {fd : FuncData} {ps : List Str} {F : FD} {x : Str} {p : Pos} {e : Expr} {es : List Expr} {fr : FA} (G : FnOk X.prog X.w X.K X.mg X.base (L2.CX X.prog X.w) k f fd ps (spD X.K X.mg a F)) (hr : Room k X.A) (hg : Gl X x) (hm : X.mg x = some (.ref f))
    (hk : PySem.W.keepIn X.K (.ref f) = true) (hb : Binds X.K fd ps []) (tk : Takes X W) (ha : PFA X W (e :: es) fr) (hlen : ((e :: es).length == a) = true := by rfl) (hdb : (x == ("__debug__" : Str)) = false := by decide) (he : starEach (e :: es) X.env = (false, eval e X.env) :: starEach es X.env := by rfl) (hpl : (backTo pos (starEach es X.env)).any (·.1) = false := by rfl)
    (hfl : ∀ ρ st, ∀ xs st', fr ρ st = .ok xs st' → xs.length = (e :: es).length) :
    PF X W (.Call (.Name x p) (e :: es) [] pos) (fCall F fr) := PE_imp (pe_callS G hr hg hm hk hb (fun σ => passAt tk σ) ha hdb he hpl) fun σ H Q h => by
  obtain ⟨ρ, st, w, sim, er, gd⟩ := h
  have key := Good.bind (Rel := RDs X.K X.mg) gd
  refine ⟨ρ, st, w, sim, er, ?_⟩
  cases ef : fr ρ st with
  | stuck => rw [ef] at key; exact key
  | exc c fs st' => rw [ef] at key; exact key
  | ok xs st' =>
    rw [ef] at key
    intro w1 H1 vs s sim' rv
    obtain ⟨st1, w2, ds, sim1, s1, r1, gd1⟩ := key w1 H1 vs s sim' rv
    refine ⟨?_, ds, st1, w2, sim1, r1, ?_⟩
    · rw [← rv.length, hfl ρ st xs st' ef]
      exact beq_iff_eq.mp hlen
    · cases eF : F ds st1 with
      | ok d st2 => rw [eF] at gd1; exact gd1
      | exc c fs st2 => rw [eF] at gd1; exact gd1
      | stuck => rw [eF] at gd1; exact gd1
/-- how many arguments -/
theorem fnil_len : ∀ (ρ : Sl) (st : So) (xs : List Dv) (st' : So), fNil ρ st = .ok xs st' → xs.length = 0 := fun _ _ _ _ h => by cases h; rfl
theorem fcons_len {fa : FE} {fr : FA} {k : Nat} (h : ∀ (ρ : Sl) (st : So) (xs : List Dv) (st' : So), fr ρ st = .ok xs st' → xs.length = k) : ∀ (ρ : Sl) (st : So) (xs : List Dv) (st' : So), fCons fa fr ρ st = .ok xs st' → xs.length = k + 1 := fun ρ st xs st' e => by
  unfold fCons at e
  cases e1 : fa ρ st with
  | stuck => rw [e1] at e; cases e
  | exc c fs st2 => rw [e1] at e; cases e
  | ok x st2 =>
    rw [e1] at e
    have e : (fr ρ st2).bind (fun xs st2 => Rs.ok (x :: xs) st2) = .ok xs st' := e
    cases e2 : fr ρ st2 with
    | stuck => rw [e2] at e; cases e
    | exc c fs st3 => rw [e2] at e; cases e
    | ok ys st3 =>
      rw [e2] at e
      cases e
      rw [List.length_cons, h ρ st2 ys _ e2]
/-! ### raise -/
def sRaise (c : Str) : FS := fun ρ st => .exc c [] ρ st
theorem pfs_raise {x m : Str} {C : Addr} {j : Nat} {p p2 pos' : Pos} (hc : X.calm = true) (tk : Takes X W) (q : PySem.W.excIn X.K C [Value.type "ValueError", Value.type "Exception", Value.type "BaseException", Value.type "object"] "ValueError.__new__" = true) (gC : X.mg x = some (.ref C)) (kC : PySem.W.keepIn X.K (.ref C) = true) (r : Raises X (.ref C)) (hg : Gl X x)
    (hdb : (x == ("__debug__" : Str)) = false := by decide) : PFS X W (.Raise (some (.Call (.Name x p) [.Constant (.str m) j p2] [] pos)) none pos') (sRaise x) :=
  PS_imp (ps_raise hc tk (pmk_own PySem.F.excBase_ValueError q gC kC r hg hdb)) fun D σ H ⟨ρ, st, w, sim, er, g⟩ => g w H σ (.ref C) none .refl sim er ⟨C, gC, rfl, .inl ⟨rfl, rfl⟩⟩
end
end FB
set_option Elab.async false
set_option linter.all false
set_option maxRecDepth 100000
set_option maxHeartbeats 4000000
/-! FB3: operators and built-ins over data. -/
namespace FB
open PySem PySem.Spec PyProof.Rows L2

/-! ### reading values -/
def lstOf (d : Dv) (st : So) : Option (List Dv) := match d with
  | .p (.list xs) => some (xs.map Dv.p)
  | .lstD xs => some xs
  | .ref i => match st[i]? with
    | some (.lst xs) => some xs
    | _ => none
  | _ => none
def tupOf (d : Dv) : Option (List Dv) := match d with
  | .p (.tuple xs) => some (xs.map Dv.p)
  | .tupD xs => some xs
  | _ => none
/-- a list (the script too) or a tuple -/
def seqOf (d : Dv) (st : So) : Option (List Dv) := match d with
  | .frz ns => some (ns.map fun n => .p (.int n))
  | d => match tupOf d with
    | some xs => some xs
    | none => lstOf d st
def datOf (d : Dv) (st : So) : Option PyData := match d with
  | .p x => some x
  | .ref i => match st[i]? with
    | some (.lst xs) => (pures xs).map PyData.list
    | _ => none
  | .frz ns => some (.list (ns.map PyData.int))
  | _ => none
section
variable {K : PySem.W.Frag} {mg : Str → Option Value} {st : So} {w : Wd} {H : Hp} {d : Dv} {v : V} {xs : List Dv}
theorem lst_rd (s : Sim K mg w st H) (r : RD K mg st.length w H d v) (h : lstOf d st = some xs) : ∃ a vs, v = .ref a ∧ RDs K mg st.length w H xs vs ∧ H a = some (.lst vs) := by
  unfold lstOf at h
  split at h
  · cases h
    cases r with
    | p q => cases q with
      | lst hs hr => exact ⟨_, _, rfl, RDs.ofP hr, hs.2⟩
  · cases h
    cases r with
    | lstD hs hr => exact ⟨_, _, rfl, hr, hs.2⟩
  · rename_i i
    split at h
    · rename_i ys e
      cases h
      cases r
      obtain ⟨vs, e1, r1, _⟩ := s.cell i _ e
      exact ⟨_, vs, rfl, r1, e1⟩
    · cases h
  · cases h
theorem tup_rd (r : RD K mg st.length w H d v) (h : tupOf d = some xs) : ∃ a vs, v = .ref a ∧ RDs K mg st.length w H xs vs ∧ SU K w.I H a vs := by
  unfold tupOf at h
  split at h
  · cases h
    cases r with
    | p q => cases q with
      | tup hs hr => exact ⟨_, _, rfl, RDs.ofP hr, .inr hs⟩
  · cases h
    cases r with
    | tupD hs hr => exact ⟨_, _, rfl, hr, hs⟩
  · cases h
theorem frz_rds {ns : List Int} : RDs K mg st.length w H (ns.map fun n => Dv.p (.int n)) (ns.map V.int) := by
  induction ns with
  | nil => exact .nil
  | cons n ns ih => exact .cons (.p (.int n)) ih
theorem seq_rd (s : Sim K mg w st H) (r : RD K mg st.length w H d v) (h : seqOf d st = some xs) : ∃ a vs, v = .ref a ∧ RDs K mg st.length w H xs vs ∧ (SqL K H a vs ∨ SqT K H a vs) := by
  unfold seqOf at h
  split at h
  · cases h
    cases r with
    | frz e => exact ⟨_, _, rfl, frz_rds, .inl e.sq⟩
  · split at h
    · rename_i ys e
      cases h
      obtain ⟨a, vs, h1, h2, h3⟩ := tup_rd r e
      exact ⟨a, vs, h1, h2, .inr h3.sq⟩
    · obtain ⟨a, vs, h1, h2, h3⟩ := lst_rd s r h
      exact ⟨a, vs, h1, h2, .inl (.of h3)⟩
theorem dat_dp (s : Sim K mg w st H) (r : RD K mg st.length w H d v) {x : PyData} (h : datOf d st = some x) (e : x.canLay0 = true) : Dp K H v x := by
  unfold datOf at h
  split at h
  · cases h
    cases r with
    | p q => exact q.dp e
  · rename_i i
    split at h
    · rename_i ys e1
      cases e2 : pures ys with
      | none => rw [e2] at h; cases h
      | some zs =>
        rw [e2] at h
        cases h
        cases r
        obtain ⟨vs, e3, r1, _⟩ := s.cell i _ e1
        exact .lst (.of e3) ((r1.toP e2).dp (by simpa [PyData.canLay0] using e))
    · cases h
  · rename_i ns
    cases h
    cases r with
    | frz e1 =>
      refine .lst e1.sq ?_
      clear e e1
      induction ns with
      | nil => exact .nil
      | cons n ns ih => exact .cons (.int n) ih
  · cases h
end

/-! ### equality -/
def eqD (x y : Dv) (st : So) : Option Bool := match x, y with
  | .p (.str a), .p (.str b) => some (decide (a = b))
  | .p (.int a), .p (.int b) => some (decide (a = b))
  | .p (.bool a), .p (.bool b) => some (decide (a = b))
  | x, y => match datOf x st, datOf y st with
    | some a, some b => if SeqAt.shaped a && SeqAt.shaped b then some (PyData.eqv a b) else none
    | _, _ => none
def gEq : G2 := fun x y st => (eqD x y st).map fun b => .p (.bool b)
def gNe : G2 := fun x y st => (eqD x y st).map fun b => .p (.bool (!b))
def rEqA (K : PySem.W.Frag) : R2 := fun x y H Q => rEq x y H Q ∨ rEqD K x y H Q
def rNeA (K : PySem.W.Frag) : R2 := fun x y H Q => rNe x y H Q ∨ rNeD K x y H Q
section
variable {X : Cx}
theorem op_eqA (hu : X.A.units + 64 < cLine) : OpR X (compareOp .Eq) (rEqA X.K) := op_eq.or (op_eqD hu)
theorem op_neA (hu : X.A.units + 64 < cLine) : OpR X (compareOp .NotEq) (rNeA X.K) := op_ne.or (op_neD hu)
theorem eq_core {st : So} {w : Wd} {H : Hp} {x y : Dv} {vx vy : V} {b : Bool} (sim : Sim X.K X.mg w st H) (rx : RD X.K X.mg st.length w H x vx) (ry : RD X.K X.mg st.length w H y vy) (h : eqD x y st = some b) :
    (scal vx vy = true ∧ decide (vx = vy) = b) ∨ ∃ d e, Dp X.K H vx d ∧ Dp X.K H vy e ∧ SeqAt.shaped d = true ∧ SeqAt.shaped e = true ∧ PyData.eqv d e = b := by
  unfold eqD at h
  split at h
  · cases h
    cases rx with | p qx => cases qx; cases ry with | p qy => cases qy; exact .inl ⟨rfl, by simp⟩
  · cases h
    cases rx with | p qx => cases qx; cases ry with | p qy => cases qy; exact .inl ⟨rfl, by simp⟩
  · cases h
    cases rx with | p qx => cases qx; cases ry with | p qy => cases qy; exact .inl ⟨rfl, by simp⟩
  · split at h
    · rename_i a b' ea eb
      split at h
      · rename_i hs
        cases h
        rw [Bool.and_eq_true] at hs
        exact .inr ⟨a, b', dat_dp sim rx ea (SeqAt.canLay_of_shaped hs.1), dat_dp sim ry eb (SeqAt.canLay_of_shaped hs.2), hs.1, hs.2, rfl⟩
      · cases h
    · cases h
theorem im_eq : Im2 X (rEqA X.K) gEq := fun st w H x y vx vy Q d sim rx ry h l => by
  unfold gEq at h
  cases e : eqD x y st with
  | none => rw [e] at h; cases h
  | some b =>
    rw [e] at h
    cases h
    have q : Q (.bl b) H := l w H _ .refl sim (.p (.bl b))
    rcases eq_core sim rx ry e with ⟨h1, h2⟩ | ⟨d, e', h1, h2, h3, h4, h5⟩
    · exact .inl ⟨h1, by rw [h2]; exact q⟩
    · exact .inr ⟨d, e', h1, h2, h3, h4, by rw [h5]; exact q⟩
theorem im_ne : Im2 X (rNeA X.K) gNe := fun st w H x y vx vy Q d sim rx ry h l => by
  unfold gNe at h
  cases e : eqD x y st with
  | none => rw [e] at h; cases h
  | some b =>
    rw [e] at h
    cases h
    have q : Q (.bl (!b)) H := l w H _ .refl sim (.p (.bl (!b)))
    rcases eq_core sim rx ry e with ⟨h1, h2⟩ | ⟨d, e', h1, h2, h3, h4, h5⟩
    · exact .inl ⟨h1, by rw [h2]; exact q⟩
    · exact .inr ⟨d, e', h1, h2, h3, h4, by rw [h5]; exact q⟩
end

/-! ### numbers, texts, lists, tuples: + - * // % ** << -/
def gAdd : G2 := fun x y st => match x, y with
  | .p (.int i), .p (.int j) => some (.p (.int (i + j)))
  | .p (.str a), .p (.str b) => if a.length + b.length ≤ 100000 then some (.p (.str (a ++ b))) else none
  | x, y => match tupOf x, tupOf y with
    | some xs, some ys => if xs.length + ys.length ≤ 100000 then some (if xs.isEmpty then y else if ys.isEmpty then x else mkT (xs ++ ys)) else none
    | _, _ => match lstOf x st, lstOf y st with
      | some xs, some ys => if xs.length + ys.length ≤ 100000 then some (mkL (xs ++ ys)) else none
      | _, _ => none
def rAddStr : R2 := fun x y H Q => ∃ i j : Str, x = .str i ∧ y = .str j ∧ i.length + j.length ≤ sizeLine ∧ Q (.str (i ++ j)) H
def rAddI : R2 := rI0 fun i j => .int (i + j)
def rAddA (K : PySem.W.Frag) : R2 := fun x y H Q => rAddI x y H Q ∨ rAddStr x y H Q ∨ rCatX K x y H Q ∨ rCat x y H Q
theorem le_line {n : Nat} (h : n ≤ 100000) : n ≤ sizeLine := Nat.le_trans h (by decide)
section
variable {X : Cx}
theorem op_addA : OpR X (binaryOp .Add) (rAddA X.K) := OpR.or (r := rAddI) op_add (OpR.or (r := rAddStr) op_add_str (OpR.or op_catX op_cat))
theorem im_add : Im2 X (rAddA X.K) gAdd := fun st w H x y vx vy Q d sim rx ry h l => by
  unfold gAdd at h
  split at h
  · cases h
    cases rx with | p qx => cases qx; cases ry with | p qy => cases qy; exact .inl ⟨_, _, rfl, rfl, l w H _ .refl sim (.p (.int _))⟩
  · split at h
    · rename_i hl
      cases h
      cases rx with | p qx => cases qx; cases ry with | p qy => cases qy; exact .inr (.inl ⟨_, _, rfl, rfl, le_line hl, l w H _ .refl sim (.p (.str _))⟩)
    · cases h
  · split at h
    · rename_i xs ys ex ey
      split at h
      · rename_i hl
        cases h
        obtain ⟨a, vs, rfl, r1, t1⟩ := tup_rd rx ex
        obtain ⟨b, us, rfl, r2, t2⟩ := tup_rd ry ey
        refine .inr (.inr (.inl ⟨a, b, vs, us, rfl, rfl, t1.sq, t2.sq, by rw [← r1.length, ← r2.length]; exact le_line hl, fun e => ?_, fun e1 e2 => ?_, fun e1 e2 p o hp ho => ?_⟩))
        · subst e
          cases r1
          exact l w H _ .refl sim ry
        · subst e2
          cases r2
          cases r1 with
          | nil => exact absurd rfl e1
          | cons h1 h2 => exact l w H _ .refl sim rx
        · obtain ⟨s2, sim2⟩ := sim.newP (o := .frz o (.tup (vs ++ us))) hp
          cases r1 with
          | nil => exact absurd rfl e1
          | cons h1 h2 =>
            cases r2 with
            | nil => exact absurd rfl e2
            | cons h3 h4 => exact l _ _ _ s2 sim2 (rd_mkT (.inl ⟨.inl rfl, o, ho, upd_same⟩) (((RDs.cons h1 h2).append (.cons h3 h4)).mono s2))
      · cases h
    · split at h
      · rename_i xs ys ex ey
        split at h
        · rename_i hl
          cases h
          obtain ⟨a, vs, rfl, r1, t1⟩ := lst_rd sim rx ex
          obtain ⟨b, us, rfl, r2, t2⟩ := lst_rd sim ry ey
          refine .inr (.inr (.inr ⟨a, b, vs, us, rfl, rfl, t1, t2, by rw [← r1.length, ← r2.length]; exact le_line hl, fun p hp => ?_⟩))
          obtain ⟨s2, sim2⟩ := sim.newP (o := .lst (vs ++ us)) hp
          exact l _ _ _ s2 sim2 (rd_mkL ⟨.inl rfl, upd_same⟩ ((r1.append r2).mono s2))
        · cases h
      · cases h
end
def gI (C : Int → Int → Bool) (f : Int → Int → PyData) : G2 := fun x y _ => match x, y with
  | .p (.int i), .p (.int j) => if C i j then some (.p (f i j)) else none
  | _, _ => none
def gI0 (f : Int → Int → PyData) : G2 := fun x y _ => match x, y with
  | .p (.int i), .p (.int j) => some (.p (f i j))
  | _, _ => none
section
variable {X : Cx}
theorem im_I {C : Int → Int → Prop} {c : Int → Int → Bool} {g : Int → Int → V} {f : Int → Int → PyData} (hc : ∀ i j, c i j = true → C i j) (hf : ∀ i j I H, RP X.K I H (f i j) (g i j)) : Im2 X (rI C g) (gI c f) := fun st w H x y vx vy Q d sim rx ry h l => by
  unfold gI at h
  split at h
  · rename_i i j
    split at h
    · rename_i e
      cases h
      cases rx with | p qx => cases qx; cases ry with | p qy => cases qy; exact ⟨i, j, rfl, rfl, hc i j e, l w H _ .refl sim (.p (hf i j _ _))⟩
    · cases h
  · cases h
theorem im_I0 {g : Int → Int → V} {f : Int → Int → PyData} (hf : ∀ i j I H, RP X.K I H (f i j) (g i j)) : Im2 X (rI0 g) (gI0 f) := fun st w H x y vx vy Q d sim rx ry h l => by
  unfold gI0 at h
  split at h
  · rename_i i j
    cases h
    cases rx with | p qx => cases qx; cases ry with | p qy => cases qy; exact ⟨i, j, rfl, rfl, l w H _ .refl sim (.p (hf i j _ _))⟩
  · cases h
abbrev gSub : G2 := gI0 fun i j => .int (i - j)
abbrev gLt : G2 := gI0 fun i j => .bool (decide (i < j))
abbrev gLe : G2 := gI0 fun i j => .bool (decide (i ≤ j))
abbrev gGt : G2 := gI0 fun i j => .bool (decide (j < i))
abbrev gGe : G2 := gI0 fun i j => .bool (decide (j ≤ i))
theorem im_sub : Im2 X (rI0 fun i j => .int (i - j)) gSub := im_I0 fun _ _ _ _ => .int _
theorem im_lt : Im2 X (rI0 fun i j => .bl (decide (i < j))) gLt := im_I0 fun _ _ _ _ => .bl _
theorem im_le : Im2 X (rI0 fun i j => .bl (decide (i ≤ j))) gLe := im_I0 fun _ _ _ _ => .bl _
theorem im_gt : Im2 X (rI0 fun i j => .bl (decide (j < i))) gGt := im_I0 fun _ _ _ _ => .bl _
theorem im_ge : Im2 X (rI0 fun i j => .bl (decide (j ≤ i))) gGe := im_I0 fun _ _ _ _ => .bl _
abbrev gMod : G2 := gI (fun _ j => decide (0 < j)) fun i j => .int (i % j)
theorem im_mod : Im2 X (rI (fun _ j => 0 < j) fun i j => .int (i % j)) gMod := im_I (fun _ _ h => of_decide_eq_true h) fun _ _ _ _ => .int _
/-- // by a positive divisor -/
abbrev gDiv : G2 := gI (fun _ j => decide (0 < j) && decide (j < 2 ^ 8000)) fun i j => .int (i / j)
theorem im_div : Im2 X (rI CDivW fun i j => .int (i / j)) gDiv := im_I (fun i j h => by
  rw [Bool.and_eq_true] at h
  have h1 := of_decide_eq_true h.1
  have h2 := of_decide_eq_true h.2
  exact wide_div (b := 8000) h1 (by omega) (by decide) (by decide)) fun _ _ _ _ => .int _
abbrev gPow : G2 := gI (fun i j => decide (0 ≤ j) && decide (j ≤ 1000000) && decide (i.natAbs < 2 ^ 64)) fun i j => .int (i ^ j.toNat)
theorem im_pow : Im2 X (rI CPow fun i j => .int (i ^ j.toNat)) gPow := im_I (fun i j h => by
  rw [Bool.and_eq_true, Bool.and_eq_true] at h
  exact ⟨of_decide_eq_true h.1.1, of_decide_eq_true h.1.2, of_decide_eq_true h.2⟩) fun _ _ _ _ => .int _
abbrev gShl : G2 := gI (fun i j => decide (0 ≤ j) && decide (j ≤ 1000000) && decide (i.natAbs < 2 ^ 64)) fun i j => .int (i * 2 ^ j.toNat)
theorem im_shl : Im2 X (rI CPow fun i j => .int (i * 2 ^ j.toNat)) gShl := im_I (fun i j h => by
  rw [Bool.and_eq_true, Bool.and_eq_true] at h
  exact ⟨of_decide_eq_true h.1.1, of_decide_eq_true h.1.2, of_decide_eq_true h.2⟩) fun _ _ _ _ => .int _
/-- << of a number below 2 ^ 1000 -/
def gMul : G2 := fun x y st => match x, y with
  | .p (.int i), .p (.int j) => if decide (i.natAbs < 2 ^ 64) || decide (j.natAbs < 2 ^ 64) then some (.p (.int (i * j)))
      else if decide (i.natAbs < 2 ^ 4000) && decide (j.natAbs < 2 ^ 4000) then some (.p (.int (i * j))) else none
  | .p (.str a), .p (.int k) => if decide (0 ≤ k) && decide (k < 10000) && decide (a.length < 1000) then some (.p (.str ⟨(List.replicate k.toNat a.cps.toList).flatten.toArray⟩)) else none
  | x, .p (.int k) => match tupOf x with
    | some xs => if decide (2 ≤ k) && decide (k ≤ 1000) && decide (xs.length ≤ 1000) && !xs.isEmpty then some (mkT (List.replicate k.toNat xs).flatten) else none
    | none => match lstOf x st with
      | some xs => if decide (0 ≤ k) && decide (k < 2 ^ 62) && decide (xs.length * k.toNat ≤ 100000) then some (mkL (List.replicate k.toNat xs).flatten) else none
      | none => none
  | _, _ => none
end
end FB
set_option Elab.async false
set_option linter.all false
set_option maxRecDepth 100000
set_option maxHeartbeats 4000000
/-! FB4: what is walked; subscripts, slices, membership, built-ins. -/
namespace FB
open PySem PySem.Spec PyProof.Rows L2 RZ

/-! ### what a loop walks -/
def optR {α : Type} (st : So) : Option α → Rs α
  | some a => .ok a st
  | none => .stuck
/-- a value that is walked: a list, a tuple, a text -/
def itemsOf (d : Dv) (st : So) : Option (List Dv) := match d with
  | .p (.str x) => some (x.cps.toList.map fun c => .p (.str ⟨#[c]⟩))
  | .ref _ => none
  | d => seqOf d st
def fIter (fa : FE) : FA := fun ρ st => (fa ρ st).bind fun d st1 => optR st1 (itemsOf d st1)
/-- a seq that stands: not a cell -/
theorem stays_rd {K : PySem.W.Frag} {mg : Str → Option Value} {st : So} {w : Wd} {H : Hp} {d : Dv} {v : V} {xs : List Dv} (s : Sim K mg w st H) (r : RD K mg st.length w H d v) (hn : ∀ i, d ≠ .ref i) (h : seqOf d st = some xs) :
    ∃ a vs, v = .ref a ∧ RDs K mg st.length w H xs vs ∧ ((∀ n' w' H', Stp st.length w H n' w' H' → SqL K H' a vs) ∨ (∀ n' w' H', Stp st.length w H n' w' H' → SqT K H' a vs)) := by
  unfold seqOf at h
  split at h
  · cases h
    cases r with
    | frz e => exact ⟨_, _, rfl, frz_rds, .inl fun _ _ _ g => (e.mono g.gro).sq⟩
  · split at h
    · rename_i ys e
      cases h
      obtain ⟨a, vs, h1, h2, h3⟩ := tup_rd r e
      exact ⟨a, vs, h1, h2, .inr fun _ _ _ g => (h3.mono g.gro).sq⟩
    · unfold lstOf at h
      split at h
      · cases h
        cases r with
        | p q => cases q with
          | lst hs hr => exact ⟨_, _, rfl, RDs.ofP hr, .inl fun _ _ _ g => (hs.mono g.gro).sq⟩
      · cases h
        cases r with
        | lstD hs hr => exact ⟨_, _, rfl, hr, .inl fun _ _ _ g => (hs.mono g.gro).sq⟩
      · exact absurd rfl (hn _)
      · cases h
section
variable {X : Cx} {W : WX} {tg : Expr}
def iSeq (K : PySem.W.Frag) (te : TE) : TI := fun σ H R => te σ H fun x H1 => (∃ a, x = .ref a ∧ (∃ xs, SqL K H1 a xs) ∧ R (Itl K a) H1) ∨ (∃ a, x = .ref a ∧ (∃ xs, SqT K H1 a xs) ∧ R (Itt K a) H1) ∨ ∃ z, x = .str z ∧ R (Its z) H1
theorem pi_seq {e : Expr} {te : TE} (he : PE X e te) : PI X tg e (iSeq X.K te) := by
  refine ⟨fun pins s σ H R I h => ?_⟩
  refine thn (he.run pins s σ H _ I h) fun v s1 ⟨x, H1, I1, r1, q1⟩ => ?_
  rcases q1 with ⟨a, ex, ⟨xs, hq⟩, q⟩ | ⟨a, ex, ⟨xs, hq⟩, q⟩ | ⟨z, ex, q⟩
  · subst ex
    cases r1
    obtain ⟨its, rv, p, hz⟩ := I1.list hq
    exact wpAny_pyIter_list p.isList (pi_one (tk := s1.toks) I1 _ (turn_list a _) ⟨_, Heap.get?_push_size _ rfl, rfl, rfl⟩ q)
  · subst ex
    cases r1
    obtain ⟨its, rv, p, hz⟩ := I1.tuple hq
    exact wpAny_pyIter_tuple (show s1.heap.IsTuple a its.toArray from p) (pi_one (tk := s1.toks) I1 _ (turn_tuple a _) ⟨_, Heap.get?_push_size _ rfl, rfl, rfl⟩ q)
  · subst ex
    obtain ⟨t, rfl⟩ := r1
    cases ha : z.cps.all (· < 128)
    · exact wpAny_pyIter_wide ha (pi_one (tk := s1.toks) I1 _ (turn_str _ z t "str_iterator" (.inr rfl)) ⟨_, Heap.get?_push_size _ rfl, rfl, rfl⟩ q)
    · exact wpAny_pyIter_ascii ha (pi_one (tk := s1.toks) I1 _ (turn_str _ z t "str_ascii_iterator" (.inl rfl)) ⟨_, Heap.get?_push_size _ rfl, rfl, rfl⟩ q)
variable {K : PySem.W.Frag} {mg : Str → Option Value} {n : Nat} {w : Wd} {H : Hp} {st : So} {items : List Dv}
theorem it_list {a : Addr} {vs : List V} (r : RDs K mg n w H items vs) (h : ∀ n' w' H', Stp n w H n' w' H' → SqL K H' a vs) : ItOk K mg n w H items (Itl K a) where
  stop := fun n' w' H' g => ⟨vs, h _ _ _ g, by rw [r.length]; exact Nat.le_refl _⟩
  go := fun k d w' H' st' e g sim => by
    obtain ⟨v, e1, r1⟩ := r.get e
    refine ⟨⟨vs, v, h _ _ _ g, e1⟩, fun x H'' y => ?_⟩
    obtain ⟨rfl, y⟩ := y
    have e2 := y vs (h _ _ _ g)
    rw [e1] at e2
    cases e2
    exact ⟨w', .refl, sim, r1.mono g⟩
theorem it_tup {a : Addr} {vs : List V} (r : RDs K mg n w H items vs) (h : ∀ n' w' H', Stp n w H n' w' H' → SqT K H' a vs) : ItOk K mg n w H items (Itt K a) where
  stop := fun n' w' H' g => ⟨vs, h _ _ _ g, by rw [r.length]; exact Nat.le_refl _⟩
  go := fun k d w' H' st' e g sim => by
    obtain ⟨v, e1, r1⟩ := r.get e
    refine ⟨⟨vs, v, h _ _ _ g, e1⟩, fun x H'' y => ?_⟩
    obtain ⟨rfl, y⟩ := y
    have e2 := y vs (h _ _ _ g)
    rw [e1] at e2
    cases e2
    exact ⟨w', .refl, sim, r1.mono g⟩
theorem it_str {z : Str} : ItOk K mg n w H (z.cps.toList.map fun c => Dv.p (.str ⟨#[c]⟩)) (Its z) where
  stop := fun n' w' H' g => by
    show z.cps.size ≤ _
    rw [List.length_map, Array.length_toList]
    exact Nat.le_refl _
  go := fun k d w' H' st' e g sim => by
    rw [List.getElem?_map] at e
    cases e1 : z.cps.toList[k]? with
    | none => rw [e1] at e; cases e
    | some c =>
      rw [e1] at e
      cases e
      rw [Array.getElem?_toList] at e1
      refine ⟨(Array.getElem?_eq_some_iff.mp e1).1, fun x H'' y => ?_⟩
      obtain ⟨rfl, c', e2, rfl⟩ := y
      rw [e1] at e2
      cases e2
      exact ⟨w', .refl, sim, .p (.str _)⟩
def rngL (lo : Int) (n : Nat) : List Dv := (List.range n).map fun (k : Nat) => .p (.int (lo + k))
theorem it_rng {lo : Int} {m : Nat} : ItOk K mg n w H (rngL lo m) (Itr lo m) where
  stop := fun n' w' H' g => by
    show m ≤ _
    rw [rngL, List.length_map, List.length_range]
    exact Nat.le_refl _
  go := fun k d w' H' st' e g sim => by
    rw [rngL, List.getElem?_map] at e
    cases e1 : (List.range m)[k]? with
    | none => rw [e1] at e; cases e
    | some c =>
      rw [e1] at e
      cases e
      obtain ⟨h1, h2⟩ := List.getElem?_eq_some_iff.mp e1
      rw [List.getElem_range] at h2
      subst h2
      rw [List.length_range] at h1
      refine ⟨h1, fun x H'' y => ?_⟩
      obtain ⟨rfl, rfl⟩ := y
      exact ⟨w', .refl, sim, .p (.int _)⟩
def rngLC (lo c : Int) (n : Nat) : List Dv := (List.range n).map fun (k : Nat) => .p (.int (lo + k * c))
theorem it_rngC {lo c : Int} {m : Nat} : ItOk K mg n w H (rngLC lo c m) (Itc lo c m) where
  stop := fun n' w' H' g => by
    show m ≤ _
    rw [rngLC, List.length_map, List.length_range]
    exact Nat.le_refl _
  go := fun k d w' H' st' e g sim => by
    rw [rngLC, List.getElem?_map] at e
    cases e1 : (List.range m)[k]? with
    | none => rw [e1] at e; cases e
    | some c =>
      rw [e1] at e
      cases e
      obtain ⟨h1, h2⟩ := List.getElem?_eq_some_iff.mp e1
      rw [List.getElem_range] at h2
      subst h2
      rw [List.length_range] at h1
      refine ⟨h1, fun x H'' y => ?_⟩
      obtain ⟨rfl, rfl⟩ := y
      exact ⟨w', .refl, sim, .p (.int _)⟩
/-- pairs that are made on the way -/
def pairL (xs ys : List Dv) : List Dv := (xs.zip ys).map fun p => .tupD [p.1, p.2]
theorem pair_turn {w' : Wd} {H' : Hp} {st' : So} {T : Addr} {x y : Dv} {vx vy : V} (sim : Sim K mg w' st' H') (hT : H' T = none) (rx : RD K mg st'.length w' H' x vx) (ry : RD K mg st'.length w' H' y vy) :
    ∃ w'', Stp st'.length w' H' st'.length w'' (upd H' T (.tup [vx, vy])) ∧ Sim K mg w'' st' (upd H' T (.tup [vx, vy])) ∧ RD K mg st'.length w'' (upd H' T (.tup [vx, vy])) (.tupD [x, y]) (.ref T) := by
  obtain ⟨s2, sim2⟩ := sim.newP (o := .tup [vx, vy]) hT
  exact ⟨_, s2, sim2, .tupD (.inl ⟨.inl rfl, upd_same⟩) (.cons (rx.mono s2) (.cons (ry.mono s2) .nil))⟩
theorem zip_get {xs ys : List Dv} {k : Nat} {d : Dv} (e : (pairL xs ys)[k]? = some d) : ∃ x y, xs[k]? = some x ∧ ys[k]? = some y ∧ d = .tupD [x, y] := by
  unfold pairL at e
  rw [List.getElem?_map] at e
  cases e1 : (xs.zip ys)[k]? with
  | none => rw [e1] at e; cases e
  | some p =>
    rw [e1] at e
    cases e
    rw [List.getElem?_zip_eq_some] at e1
    exact ⟨p.1, p.2, e1.1, e1.2, rfl⟩
theorem it_enum {a : Addr} {vs : List V} (r : RDs K mg n w H items vs) (h : ∀ n' w' H', Stp n w H n' w' H' → SqL K H' a vs) : ItOk K mg n w H (pairL (rngL 0 items.length) items) (Ite K a) where
  stop := fun n' w' H' g => ⟨vs, h _ _ _ g, by
    rw [pairL, List.length_map, List.length_zip, rngL, List.length_map, List.length_range, r.length]
    omega⟩
  go := fun k d w' H' st' e g sim => by
    obtain ⟨x, y, ex, ey, rfl⟩ := zip_get e
    obtain ⟨v, e1, r1⟩ := r.get ey
    refine ⟨⟨vs, v, h _ _ _ g, e1⟩, fun z H'' y' => ?_⟩
    obtain ⟨T, u, rfl, hT, rfl, hu⟩ := y'
    have e2 := hu vs (h _ _ _ g)
    rw [e1] at e2
    cases e2
    rw [rngL, List.getElem?_map] at ex
    cases e3 : (List.range items.length)[k]? with
    | none => rw [e3] at ex; cases ex
    | some c =>
      rw [e3] at ex
      cases ex
      obtain ⟨h1, h2⟩ := List.getElem?_eq_some_iff.mp e3
      rw [List.getElem_range] at h2
      subst h2
      refine pair_turn sim hT (.p ?_) (r1.mono g)
      rw [Int.zero_add]
      exact .int _
theorem it_zip {a b : Addr} {xs ys : List Dv} {vs us : List V} (r : RDs K mg n w H xs vs) (r' : RDs K mg n w H ys us) (h : ∀ n' w' H', Stp n w H n' w' H' → SqL K H' a vs) (h' : ∀ n' w' H', Stp n w H n' w' H' → SqL K H' b us) :
    ItOk K mg n w H (pairL xs ys) (Itz K a b) where
  stop := fun n' w' H' g => ⟨vs, us, h _ _ _ g, h' _ _ _ g, by
    rw [pairL, List.length_map, List.length_zip, ← r.length, ← r'.length]
    omega⟩
  go := fun k d w' H' st' e g sim => by
    obtain ⟨x, y, ex, ey, rfl⟩ := zip_get e
    obtain ⟨v, e1, r1⟩ := r.get ex
    obtain ⟨u, e2, r2⟩ := r'.get ey
    refine ⟨⟨vs, us, v, u, h _ _ _ g, h' _ _ _ g, e1, e2⟩, fun z H'' y' => ?_⟩
    obtain ⟨T, p, q, rfl, hT, rfl, hp, hq⟩ := y'
    have e3 := hp vs (h _ _ _ g)
    have e4 := hq us (h' _ _ _ g)
    rw [e1] at e3
    rw [e2] at e4
    cases e3
    cases e4
    exact pair_turn sim hT (r1.mono g) (r2.mono g)
theorem it_zipT {a b : Addr} {xs ys : List Dv} {vs us : List V} (r : RDs K mg n w H xs vs) (r' : RDs K mg n w H ys us) (h : ∀ n' w' H', Stp n w H n' w' H' → SqT K H' a vs) (h' : ∀ n' w' H', Stp n w H n' w' H' → SqT K H' b us) :
    ItOk K mg n w H (pairL xs ys) (ItzT K a b) where
  stop := fun n' w' H' g => ⟨vs, us, h _ _ _ g, h' _ _ _ g, by
    rw [pairL, List.length_map, List.length_zip, ← r.length, ← r'.length]
    omega⟩
  go := fun k d w' H' st' e g sim => by
    obtain ⟨x, y, ex, ey, rfl⟩ := zip_get e
    obtain ⟨v, e1, r1⟩ := r.get ex
    obtain ⟨u, e2, r2⟩ := r'.get ey
    refine ⟨⟨vs, us, v, u, h _ _ _ g, h' _ _ _ g, e1, e2⟩, fun z H'' y' => ?_⟩
    obtain ⟨T, p, q, rfl, hT, rfl, hp, hq⟩ := y'
    have e3 := hp vs (h _ _ _ g)
    have e4 := hq us (h' _ _ _ g)
    rw [e1] at e3
    rw [e2] at e4
    cases e3
    cases e4
    exact pair_turn sim hT (r1.mono g) (r2.mono g)
theorem pfi_seq {e : Expr} {fa : FE} (h : PF X W e fa) : PFI X W tg e (fIter fa) := PI_imp (pi_seq h) fun σ H R q => by
  obtain ⟨ρ, st, w, sim, er, gd⟩ := q
  refine ⟨ρ, st, w, sim, er, Good.imp (fun v H1 q => ?_) (Good.bind gd)⟩
  obtain ⟨st1, w1, d, sim1, s1, r1, gd1⟩ := q
  have key : ∀ xs, itemsOf d st1 = some xs → ∀ J, ItOk X.K X.mg st1.length w1 H1 xs J → R J H1 := fun xs e J it => by
    rw [e] at gd1
    exact gd1 w1 H1 J .refl sim1 it
  cases e : itemsOf d st1 with
  | none => rw [e] at gd1; exact gd1.elim
  | some xs =>
    have e' := e
    unfold itemsOf at e'
    split at e'
    · cases e'
      cases r1 with
      | p q =>
        cases q
        exact .inr (.inr ⟨_, rfl, key _ e _ it_str⟩)
    · cases e'
    · rename_i hn1 hn2
      obtain ⟨a, vs, rfl, rv, hs | hs⟩ := stays_rd sim1 r1 (fun i hi => hn2 i hi) e'
      · exact .inl ⟨a, rfl, ⟨vs, hs _ _ _ .refl⟩, key _ e _ (it_list rv hs)⟩
      · exact .inr (.inl ⟨a, rfl, ⟨vs, hs _ _ _ .refl⟩, key _ e _ (it_tup rv hs)⟩)
/-- range(n), range(a, b), range(a, b, -1) -/
def okR (i : Int) : Bool := decide (-(2 ^ 40) ≤ i) && decide (i < 2 ^ 40)
theorem okR_ok {i : Int} (h : okR i = true) : -(2 ^ 62) ≤ i ∧ i < 2 ^ 62 := by
  unfold okR at h
  rw [Bool.and_eq_true] at h
  have h1 := of_decide_eq_true h.1
  have h2 := of_decide_eq_true h.2
  omega
def rng1 (xs : List Dv) : Option (List Dv) := match xs with
  | [.p (.int j)] => if okR j then some (rngL 0 j.toNat) else none
  | _ => none
def rng2 (xs : List Dv) : Option (List Dv) := match xs with
  | [.p (.int i), .p (.int j)] => if okR i && okR j then some (rngL i (j - i).toNat) else none
  | _ => none
def rng3 (xs : List Dv) : Option (List Dv) := match xs with
  | [.p (.int i), .p (.int j), .p (.int c)] => if okR i && okR j && decide (c = -1) then some (rngLC i (-1) (i - j).toNat) else none
  | _ => none
def fRng (g : List Dv → Option (List Dv)) (fr : FA) : FA := fun ρ st => (fr ρ st).bind fun xs st1 => optR st1 (g xs)
theorem rds1 {x : Dv} {vs : List V} (r : RDs K mg n w H [x] vs) : ∃ v, vs = [v] ∧ RD K mg n w H x v := by
  cases r with | cons h t => cases t; exact ⟨_, rfl, h⟩
theorem rds2 {x y : Dv} {vs : List V} (r : RDs K mg n w H [x, y] vs) : ∃ v u, vs = [v, u] ∧ RD K mg n w H x v ∧ RD K mg n w H y u := by
  cases r with | cons h t => cases t with | cons h2 t => cases t; exact ⟨_, _, rfl, h, h2⟩
theorem rd_int {i : Int} {v : V} (r : RD K mg n w H (.p (.int i)) v) : v = .int i := by
  cases r with | p q => cases q; rfl
theorem rd_str {i : Str} {v : V} (r : RD K mg n w H (.p (.str i)) v) : v = .str i := by
  cases r with | p q => cases q; rfl
theorem rd_bl {i : Bool} {v : V} (r : RD K mg n w H (.p (.bool i)) v) : v = .bl i := by
  cases r with | p q => cases q; rfl
theorem rd_non {v : V} (r : RD K mg n w H (.p .none) v) : v = .non := by
  cases r with | p q => cases q; rfl
variable {a b c : Expr} {fr : FA} {p pos : Pos}
theorem pfi_rng1 (hm : X.mg "range" = none) (h : PFA X W [a] fr) (hg : Gl X "range" := by rfl) (hs : starEach [a] X.env = [(false, eval a X.env)] := by rfl) : PFI X W tg (.Call (.Name "range" p) [a] [] pos) (fRng rng1 fr) := PI_imp (pi_range1 hg hm h hs) fun σ H R q => by
  obtain ⟨ρ, st, w, sim, er, gd⟩ := q
  refine ⟨ρ, st, w, sim, er, Good.imp (fun v H1 q => ?_) (Good.bind gd)⟩
  obtain ⟨st1, w1, d, sim1, s1, r1, gd1⟩ := q
  unfold rng1 at gd1
  split at gd1
  · rename_i j
    split at gd1
    · rename_i hj
      obtain ⟨v, rfl, rv⟩ := rds1 r1
      obtain rfl := rd_int rv
      obtain ⟨h1, h2⟩ := okR_ok hj
      exact ⟨j, rfl, h1, h2, gd1 w1 H1 _ .refl sim1 it_rng⟩
    · exact gd1.elim
  · exact gd1.elim
theorem pfi_rng2 (hm : X.mg "range" = none) (h : PFA X W [a, b] fr) (hg : Gl X "range" := by rfl) (hs : starEach [a, b] X.env = [(false, eval a X.env), (false, eval b X.env)] := by rfl) (hs2 : starEach [b] X.env = [(false, eval b X.env)] := by rfl) :
    PFI X W tg (.Call (.Name "range" p) [a, b] [] pos) (fRng rng2 fr) := PI_imp (pi_range2 hg hm h hs hs2) fun σ H R q => by
  obtain ⟨ρ, st, w, sim, er, gd⟩ := q
  refine ⟨ρ, st, w, sim, er, Good.imp (fun v H1 q => ?_) (Good.bind gd)⟩
  obtain ⟨st1, w1, d, sim1, s1, r1, gd1⟩ := q
  unfold rng2 at gd1
  split at gd1
  · rename_i i j
    split at gd1
    · rename_i hj
      rw [Bool.and_eq_true] at hj
      obtain ⟨v, u, rfl, rv, ru⟩ := rds2 r1
      obtain rfl := rd_int rv
      obtain rfl := rd_int ru
      obtain ⟨h1, h2⟩ := okR_ok hj.1
      obtain ⟨h3, h4⟩ := okR_ok hj.2
      exact ⟨i, j, rfl, ⟨h1, h2, h3, h4⟩, gd1 w1 H1 _ .refl sim1 it_rng⟩
    · exact gd1.elim
  · exact gd1.elim
theorem pfi_rng3 (hm : X.mg "range" = none) (h : PFA X W [a, b, c] fr) (hg : Gl X "range" := by rfl) (hs : starEach [a, b, c] X.env = (false, eval a X.env) :: starEach [b, c] X.env := by rfl) (hpl : (backTo pos (starEach [b, c] X.env)).any (·.1) = false := by rfl) :
    PFI X W tg (.Call (.Name "range" p) [a, b, c] [] pos) (fRng rng3 fr) := PI_imp (pi_range3 hg hm h hs hpl) fun σ H R q => by
  obtain ⟨ρ, st, w, sim, er, gd⟩ := q
  refine ⟨ρ, st, w, sim, er, Good.imp (fun v H1 q => ?_) (Good.bind gd)⟩
  obtain ⟨st1, w1, d, sim1, s1, r1, gd1⟩ := q
  unfold rng3 at gd1
  split at gd1
  · rename_i i j c
    split at gd1
    · rename_i hj
      rw [Bool.and_eq_true, Bool.and_eq_true] at hj
      cases r1 with | cons ra t => cases t with | cons rb t => cases t with | cons rc t => 
      cases t
      obtain rfl := rd_int ra
      obtain rfl := rd_int rb
      obtain rfl := rd_int rc
      obtain rfl : c = -1 := of_decide_eq_true hj.2
      obtain ⟨h1, h2⟩ := okR_ok hj.1.1
      obtain ⟨h3, h4⟩ := okR_ok hj.1.2
      exact ⟨i, j, -1, _, rfl, RgC.neg h1 h2 h3 h4, gd1 w1 H1 _ .refl sim1 it_rngC⟩
    · exact gd1.elim
  · exact gd1.elim
/-- enumerate(a list that stands) -/
def isRef : Dv → Bool
  | .ref _ => true
  | _ => false
theorem notRef {d : Dv} (h : ¬ isRef d = true) : ∀ i, d ≠ .ref i := fun i e => by
  subst e
  exact h rfl
def enumOf (xs : List Dv) (st : So) : Option (List Dv) := match xs with
  | [d] => if isRef d then none else match tupOf d with
    | some _ => none
    | none => (seqOf d st).map fun ys => pairL (rngL 0 ys.length) ys
  | _ => none
def zipOf (xs : List Dv) (st : So) : Option (List Dv) := match xs with
  | [d, e] => if isRef d || isRef e then none else match tupOf d, tupOf e with
    | some ys, some zs => some (pairL ys zs)
    | none, none => match seqOf d st, seqOf e st with
      | some ys, some zs => some (pairL ys zs)
      | _, _ => none
    | _, _ => none
  | _ => none
def fSt (g : List Dv → So → Option (List Dv)) (fr : FA) : FA := fun ρ st => (fr ρ st).bind fun xs st1 => optR st1 (g xs st1)
theorem lst_stays {st : So} {d : Dv} {v : V} {xs : List Dv} (r : RD K mg st.length w H d v) (hn : ∀ i, d ≠ .ref i) (ht : tupOf d = none) (h : seqOf d st = some xs) :
    ∃ a vs, v = .ref a ∧ RDs K mg st.length w H xs vs ∧ ∀ n' w' H', Stp st.length w H n' w' H' → SqL K H' a vs := by
  unfold seqOf at h
  split at h
  · cases h
    cases r with
    | frz e => exact ⟨_, _, rfl, frz_rds, fun _ _ _ g => (e.mono g.gro).sq⟩
  · rw [ht] at h
    unfold lstOf at h
    dsimp only at h
    split at h
    · cases h
      cases r with
      | p q => cases q with
        | lst hs hr => exact ⟨_, _, rfl, RDs.ofP hr, fun _ _ _ g => (hs.mono g.gro).sq⟩
    · cases h
      cases r with
      | lstD hs hr => exact ⟨_, _, rfl, hr, fun _ _ _ g => (hs.mono g.gro).sq⟩
    · exact absurd rfl (hn _)
    · cases h
variable {elts : List Expr} {kk : _} {tpos : Pos}
theorem pfi_enum (hm : X.mg "enumerate" = none) (h : PFA X W [a] fr) (hg : Gl X "enumerate" := by rfl) (hs : starEach [a] X.env = [(false, eval a X.env)] := by rfl) : PFI X W (.Tuple elts kk tpos) (.Call (.Name "enumerate" p) [a] [] pos) (fSt enumOf fr) := PI_imp (pi_enum hg hm h hs) fun σ H R q => by
  obtain ⟨ρ, st, w, sim, er, gd⟩ := q
  refine ⟨ρ, st, w, sim, er, Good.imp (fun v H1 q => ?_) (Good.bind gd)⟩
  obtain ⟨st1, w1, d, sim1, s1, r1, gd1⟩ := q
  unfold enumOf at gd1
  split at gd1
  · rename_i d
    split at gd1
    · exact gd1.elim
    rename_i hn
    split at gd1
    · exact gd1.elim
    · rename_i ht
      cases e : seqOf d st1 with
      | none => rw [e] at gd1; exact gd1.elim
      | some ys =>
        rw [e] at gd1
        obtain ⟨v, rfl, rv⟩ := rds1 r1
        obtain ⟨a', vs, rfl, rr, hs⟩ := lst_stays rv (notRef hn) ht e
        exact ⟨a', vs, rfl, hs _ _ _ .refl, gd1 w1 H1 _ .refl sim1 (it_enum rr hs)⟩
  · exact gd1.elim
theorem pfi_zip (hm : X.mg "zip" = none) (h : PFA X W [a, b] fr) (hg : Gl X "zip" := by rfl) (hs : starEach [a, b] X.env = (false, eval a X.env) :: starEach [b] X.env := by rfl) (hpl : (backTo pos (starEach [b] X.env)).any (·.1) = false := by rfl) :
    PFI X W (.Tuple elts kk tpos) (.Call (.Name "zip" p) [a, b] [] pos) (fSt zipOf fr) := PI_imp (pi_zipA hg hm h hs hpl) fun σ H R q => by
  obtain ⟨ρ, st, w, sim, er, gd⟩ := q
  refine ⟨ρ, st, w, sim, er, Good.imp (fun v H1 q => ?_) (Good.bind gd)⟩
  obtain ⟨st1, w1, d, sim1, s1, r1, gd1⟩ := q
  unfold zipOf at gd1
  split at gd1
  · rename_i d e
    obtain ⟨v, u, rfl, rv, ru⟩ := rds2 r1
    split at gd1
    · exact gd1.elim
    rename_i hn
    rw [Bool.or_eq_true, not_or] at hn
    split at gd1
    · rename_i ys zs e1 e2
      obtain ⟨a', vs, rfl, rr, hs⟩ := tup_rd rv e1
      obtain ⟨b', us, rfl, rr', hs'⟩ := tup_rd ru e2
      exact ⟨a', b', vs, us, rfl, .inr ⟨hs.sq, hs'.sq, gd1 w1 H1 _ .refl sim1 (it_zipT rr rr' (fun _ _ _ g => (hs.mono g.gro).sq) fun _ _ _ g => (hs'.mono g.gro).sq)⟩⟩
    · rename_i t1 t2
      cases e1 : seqOf d st1 with
      | none => rw [e1] at gd1; exact gd1.elim
      | some ys =>
        cases e2 : seqOf e st1 with
        | none => rw [e1, e2] at gd1; exact gd1.elim
        | some zs =>
          rw [e1, e2] at gd1
          obtain ⟨a', vs, rfl, rr, hs⟩ := lst_stays rv (notRef hn.1) t1 e1
          obtain ⟨b', us, rfl, rr', hs'⟩ := lst_stays ru (notRef hn.2) t2 e2
          exact ⟨a', b', vs, us, rfl, .inl ⟨hs _ _ _ .refl, hs' _ _ _ .refl, gd1 w1 H1 _ .refl sim1 (it_zip rr rr' hs hs')⟩⟩
    · exact gd1.elim
  · exact gd1.elim

/-! ### subscripts -/
def gIx : G2 := fun x y st => match x, y with
  | .p (.str z), .p (.int i) => if z.length ≤ 100000 then (atI z.cps.toList i).map fun c => .p (.str ⟨#[c]⟩) else none
  | x, .p (.int i) => match seqOf x st with
    | some xs => atI xs i
    | none => none
  | _, _ => none
theorem rds_at {xs : List Dv} {vs : List V} {i : Int} {d : Dv} (r : RDs K mg n w H xs vs) (h : atI xs i = some d) : ∃ v, atI vs i = some v ∧ RD K mg n w H d v := by
  unfold atI at h ⊢
  rw [← r.length]
  cases e : ixN xs.length i with
  | none => rw [e] at h; cases h
  | some j =>
    rw [e] at h
    exact r.get h
theorem im_ix : Im2 X (rIx X.K) gIx := fun st w H x y vx vy Q d sim rx ry h l => by
  unfold gIx at h
  split at h
  · rename_i z i
    split at h
    · rename_i hz
      cases e : atI z.cps.toList i with
      | none => rw [e] at h; cases h
      | some c =>
        rw [e] at h
        cases h
        obtain rfl := rd_str rx
        obtain rfl := rd_int ry
        exact .inr (.inr ⟨z, i, c, rfl, rfl, le_line hz, e, l w H _ .refl sim (.p (.str _))⟩)
    · cases h
  · rename_i i hn
    split at h
    · rename_i xs e
      obtain ⟨a, vs, rfl, r1, hs⟩ := seq_rd sim rx e
      obtain rfl := rd_int ry
      obtain ⟨v, e1, r2⟩ := rds_at r1 h
      rcases hs with hs | hs
      · exact .inl ⟨a, vs, i, v, rfl, rfl, hs, e1, l w H _ .refl sim r2⟩
      · exact .inr (.inl ⟨a, vs, i, v, rfl, rfl, hs, e1, l w H _ .refl sim r2⟩)
    · cases h
  · cases h

/-! ### len, truth, list, tuple -/
def gLen : GA := fun xs st => match xs with
  | [.p (.str z)] => if z.length ≤ 100000 then some (.p (.int z.length)) else none
  | [d] => (seqOf d st).map fun ys => .p (.int ys.length)
  | _ => none
def rLenA (K : PySem.W.Frag) : List V → Hp → VK → Prop := fun xs H Q => (∃ p ys, xs = [.ref p] ∧ (SqL K H p ys ∨ SqT K H p ys) ∧ Q (.int (ys.length : Nat)) H) ∨ ∃ z : Str, xs = [.str z] ∧ z.length ≤ sizeLine ∧ Q (.int (z.length : Nat)) H
theorem call_lenA : CallR X (.builtin "len") (rLenA X.K) := CallR.or call_len_seq call_len_str
theorem im_len : ImA X (rLenA X.K) gLen := fun st w H xs vs Q d sim r h l => by
  unfold gLen at h
  split at h
  · rename_i z
    split at h
    · rename_i hz
      cases h
      obtain ⟨v, rfl, rv⟩ := rds1 r
      obtain rfl := rd_str rv
      exact .inr ⟨z, rfl, le_line hz, l w H _ .refl sim (.p (.int _))⟩
    · cases h
  · rename_i d' hn
    cases e : seqOf d' st with
    | none => rw [e] at h; cases h
    | some ys =>
      rw [e] at h
      cases h
      obtain ⟨v, rfl, rv⟩ := rds1 r
      obtain ⟨a, us, rfl, r1, hs⟩ := seq_rd sim rv e
      refine .inl ⟨a, us, rfl, hs, l w H _ .refl sim ?_⟩
      rw [← r1.length]
      exact .p (.int _)
  · cases h
/-- list(x): a new list -/
def fListOf (fa : FE) : FA := fun ρ st => (fa ρ st).bind fun d st1 => match seqOf d st1 with
  | some ys => if small ys then .ok ys st1 else .stuck
  | none => .stuck
theorem pfl_list {e : Expr} {fa : FE} (hm : X.mg "list" = none) (h : PF X W e fa) (hg : Gl X "list" := by rfl) (he : starEach [e] X.env = (false, eval e X.env) :: starEach [] X.env := by rfl) (hpl : (backTo pos (starEach [] X.env)).any (·.1) = false := by rfl) :
    PFL X W (.Call (.Name "list" p) [e] [] pos) (fListOf fa) := PE_imp (pe_callTy call_list_of hg hm (by decide +kernel) (pa_cons h pa_nil he) (by decide) (by decide) he hpl) fun σ H Q q => by
  obtain ⟨ρ, st, w, sim, er, gd⟩ := q
  refine ⟨ρ, st, w, sim, er, Good.imp (fun v H1 q => ?_) (Good.bind gd)⟩
  obtain ⟨st1, w1, d, sim1, s1, r1, gd1⟩ := q
  cases e : seqOf d st1 with
  | none => rw [e] at gd1; exact gd1.elim
  | some ys =>
    rw [e] at gd1
    by_cases hy : small ys = true
    · simp only [hy, if_true] at gd1
      obtain ⟨a, us, rfl, r2, hs⟩ := seq_rd sim1 r1 e
      refine ⟨a, us, rfl, hs, fun p hp => gd1 w1 H1 us .refl sim1 r2 p hp ?_⟩
      rw [← r2.length]
      exact small_ok hy
    · simp only [hy] at gd1
      exact gd1.elim
/-- tuple(x): a list, a tuple, a text -/
def gTuple : GA := fun xs st => match xs with
  | [.p (.str z)] => if z.length ≤ 100000 then some (mkT (z.cps.toList.map fun c => .p (.str ⟨#[c]⟩))) else none
  | [d] => match tupOf d with
    | some _ => some d
    | none => match lstOf d st with
      | some ys => if small ys then some (mkT ys) else none
      | none => none
  | _ => none
theorem rds_signs (w : Wd) (H : Hp) : ∀ cs : List Nat, RDs K mg n w H (cs.map fun c => Dv.p (.str ⟨#[c]⟩)) (cs.map fun c => V.str ⟨#[c]⟩)
  | [] => .nil
  | c :: cs => .cons (.p (.str _)) (rds_signs w H cs)
theorem im_tuple : ImA X (rTupX X.K) gTuple := fun st w H xs vs Q d sim r h l => by
  unfold gTuple at h
  split at h
  · rename_i z
    split at h
    · rename_i hz
      cases h
      obtain ⟨v, rfl, rv⟩ := rds1 r
      obtain rfl := rd_str rv
      refine .inr ⟨z, rfl, le_line hz, fun p o hp ho => ?_⟩
      obtain ⟨s2, sim2⟩ := sim.newP (o := .frz o (.tup (z.cps.toList.map fun c => V.str ⟨#[c]⟩))) hp
      exact l _ _ _ s2 sim2 (rd_mkT (.inl ⟨.inl rfl, o, ho, upd_same⟩) (rds_signs _ _ _))
    · cases h
  · rename_i d' _
    obtain ⟨v, rfl, rv⟩ := rds1 r
    split at h
    · rename_i ys e
      cases h
      obtain ⟨a, us, rfl, r1, hs⟩ := tup_rd rv e
      exact .inl ⟨a, us, rfl, .inr ⟨hs.sq, l w H _ .refl sim rv⟩⟩
    · split at h
      · rename_i ys e
        split at h
        · cases h
          obtain ⟨a, us, rfl, r1, hs⟩ := lst_rd sim rv e
          refine .inl ⟨a, us, rfl, .inl ⟨.of hs, fun p o hp ho => ?_⟩⟩
          obtain ⟨s2, sim2⟩ := sim.newP (o := .frz o (.tup us)) hp
          exact l _ _ _ s2 sim2 (rd_mkT (.inl ⟨.inl rfl, o, ho, upd_same⟩) (r1.mono s2))
        · cases h
      · cases h
  · cases h
/-- bools of a list -/
def bools : List Dv → Option (List Bool)
  | [] => some []
  | .p (.bool b) :: r => (bools r).map (b :: ·)
  | _ :: _ => none
theorem bools_rd : ∀ {xs : List Dv} {vs : List V} {bs : List Bool}, RDs K mg n w H xs vs → bools xs = some bs → vs = bs.map V.bl
  | [], _, _, r, h => by cases h; cases r; rfl
  | x :: xs, _, bs, r, h => by
    cases r with
    | cons r1 r2 =>
      unfold bools at h
      split at h
      · rename_i e; cases e
      · rename_i b r' e
        cases e
        cases e2 : bools xs with
        | none => rw [e2] at h; cases h
        | some cs =>
          rw [e2] at h
          cases h
          rw [rd_bl r1, bools_rd r2 e2]
          rfl
      · cases h
def gAll : GA := fun xs st => match xs with
  | [d] => match lstOf d st with
    | some ys => (bools ys).map fun bs => .p (.bool (bs.all id))
    | none => none
  | _ => none
def gAny : GA := fun xs st => match xs with
  | [d] => match lstOf d st with
    | some ys => (bools ys).map fun bs => .p (.bool (bs.any id))
    | none => none
  | _ => none
theorem im_all : ImA X (rAll X.K) gAll := fun st w H xs vs Q d sim r h l => by
  unfold gAll at h
  split at h
  · rename_i d'
    obtain ⟨v, rfl, rv⟩ := rds1 r
    split at h
    · rename_i ys e
      cases e2 : bools ys with
      | none => rw [e2] at h; cases h
      | some bs =>
        rw [e2] at h
        cases h
        obtain ⟨a, us, rfl, r1, hs⟩ := lst_rd sim rv e
        obtain rfl := bools_rd r1 e2
        exact ⟨a, bs, rfl, .of hs, l w H _ .refl sim (.p (.bl _))⟩
    · cases h
  · cases h
theorem im_any : ImA X (rAny X.K) gAny := fun st w H xs vs Q d sim r h l => by
  unfold gAny at h
  split at h
  · rename_i d'
    obtain ⟨v, rfl, rv⟩ := rds1 r
    split at h
    · rename_i ys e
      cases e2 : bools ys with
      | none => rw [e2] at h; cases h
      | some bs =>
        rw [e2] at h
        cases h
        obtain ⟨a, us, rfl, r1, hs⟩ := lst_rd sim rv e
        obtain rfl := bools_rd r1 e2
        exact ⟨a, bs, rfl, .of hs, l w H _ .refl sim (.p (.bl _))⟩
    · cases h
  · cases h
def intsD : List Dv → Option (List Int)
  | [] => some []
  | .p (.int b) :: r => (intsD r).map (b :: ·)
  | _ :: _ => none
theorem intsD_rd : ∀ {xs : List Dv} {vs : List V} {bs : List Int}, RDs K mg n w H xs vs → intsD xs = some bs → vs = bs.map V.int
  | [], _, _, r, h => by cases h; cases r; rfl
  | x :: xs, _, bs, r, h => by
    cases r with
    | cons r1 r2 =>
      unfold intsD at h
      split at h
      · rename_i e; cases e
      · rename_i b r' e
        cases e
        cases e2 : intsD xs with
        | none => rw [e2] at h; cases h
        | some cs =>
          rw [e2] at h
          cases h
          rw [rd_int r1, intsD_rd r2 e2]
          rfl
      · cases h
/-- the greatest of a list of intsD -/
def maxL : List Int → Int
  | [] => 0
  | x :: xs => xs.foldl (fun m y => if m < y then y else m) x
theorem maxL_go : ∀ (xs : List Int) (x m : Int), (m = x ∨ m ∈ xs) → (x ≤ m ∧ ∀ y ∈ xs, y ≤ m) → xs.foldl (fun m y => if m < y then y else m) x = m
  | [], x, m, h, hm => by
    rcases h with h | h
    · exact h.symm
    · cases h
  | y :: ys, x, m, h, hm => by
    rw [List.foldl_cons]
    have hy := hm.2 y List.mem_cons_self
    by_cases hxy : x < y
    · rw [if_pos hxy]
      refine maxL_go ys y m ?_ ⟨hy, fun z hz => hm.2 z (List.mem_cons_of_mem _ hz)⟩
      rcases h with h | h
      · exfalso; omega
      · exact List.mem_cons.mp h
    · rw [if_neg hxy]
      refine maxL_go ys x m ?_ ⟨hm.1, fun z hz => hm.2 z (List.mem_cons_of_mem _ hz)⟩
      rcases h with h | h
      · exact .inl h
      · rcases List.mem_cons.mp h with e | e
        · left; omega
        · exact .inr e
theorem maxL_eq {xs : List Int} {m : Int} (h : m ∈ xs) (hm : ∀ y ∈ xs, y ≤ m) : maxL xs = m := by
  cases xs with
  | nil => cases h
  | cons x xs => exact maxL_go xs x m (List.mem_cons.mp h) ⟨hm x List.mem_cons_self, fun y hy => hm y (List.mem_cons_of_mem _ hy)⟩
/-- max(xs); max(i, j); min(i, j) -/
def gMax : GA := fun xs st => match xs with
  | [.p (.int i), .p (.int j)] => some (.p (.int (if j > i then j else i)))
  | [d] => match lstOf d st with
    | some ys => match intsD ys with
      | some (x :: r) => some (.p (.int (maxL (x :: r))))
      | _ => none
    | none => none
  | _ => none
def rMaxA (K : PySem.W.Frag) : List V → Hp → VK → Prop := fun xs H Q => (∃ i j, xs = [.int i, .int j] ∧ Q (.int (if j > i then j else i)) H) ∨ rMax K xs H Q
theorem call_maxA (hc : X.calm = true) : CallR X (.builtin "max") (rMaxA X.K) := CallR.or (call_max2 hc) (cr_max hc)
theorem im_max : ImA X (rMaxA X.K) gMax := fun st w H xs vs Q d sim r h l => by
  unfold gMax at h
  split at h
  · rename_i i j
    cases h
    obtain ⟨v, u, rfl, rv, ru⟩ := rds2 r
    obtain rfl := rd_int rv
    obtain rfl := rd_int ru
    exact .inl ⟨i, j, rfl, l w H _ .refl sim (.p (.int _))⟩
  · rename_i d' hn
    obtain ⟨v, rfl, rv⟩ := rds1 r
    split at h
    · rename_i ys e
      split at h
      · rename_i x t e2
        cases h
        obtain ⟨a, us, rfl, r1, hs⟩ := lst_rd sim rv e
        obtain rfl := intsD_rd r1 e2
        refine .inr ⟨a, x :: t, rfl, .of hs, Nat.zero_lt_succ _, fun m hm hle => ?_⟩
        rw [← maxL_eq hm hle]
        exact l w H _ .refl sim (.p (.int _))
      · cases h
    · cases h
  · cases h
def gMin : GA := fun xs _ => match xs with
  | [.p (.int i), .p (.int j)] => some (.p (.int (if j < i then j else i)))
  | _ => none
theorem im_min : ImA X (fun xs H Q => ∃ i j, xs = [.int i, .int j] ∧ Q (.int (if j < i then j else i)) H) gMin := fun st w H xs vs Q d sim r h l => by
  unfold gMin at h
  split at h
  · rename_i i j
    cases h
    obtain ⟨v, u, rfl, rv, ru⟩ := rds2 r
    obtain rfl := rd_int rv
    obtain rfl := rd_int ru
    exact ⟨i, j, rfl, l w H _ .refl sim (.p (.int _))⟩
  · cases h
/-- int(n), int(flag) -/
def gInt : GA := fun xs _ => match xs with
  | [.p (.int i)] => some (.p (.int i))
  | [.p (.bool b)] => some (.p (.int (if b then 1 else 0)))
  | _ => none
theorem im_int : ImA X (fun xs H Q => (∃ i, xs = [.int i] ∧ Q (.int i) H) ∨ ∃ k, xs = [.bl k] ∧ Q (.int (if k then 1 else 0)) H) gInt := fun st w H xs vs Q d sim r h l => by
  unfold gInt at h
  split at h
  · cases h
    obtain ⟨v, rfl, rv⟩ := rds1 r
    obtain rfl := rd_int rv
    exact .inl ⟨_, rfl, l w H _ .refl sim (.p (.int _))⟩
  · cases h
    obtain ⟨v, rfl, rv⟩ := rds1 r
    obtain rfl := rd_bl rv
    exact .inr ⟨_, rfl, l w H _ .refl sim (.p (.int _))⟩
  · cases h

/-! ### isinstance of a built-in type -/
def tyOf (d : Dv) (st : So) : Option String := match d with
  | .p .none => some "NoneType"
  | .p (.bool _) => some "bool"
  | .p (.int _) => some "int"
  | .p (.str _) => some "str"
  | .p (.list _) => some "list"
  | .p (.tuple _) => some "tuple"
  | .p (.dict _) => some "dict"
  | .tupD _ => some "tuple"
  | .lstD _ => some "list"
  | .frz _ => some "list"
  | .ref i => match st[i]? with
    | some (.lst _) => some "list"
    | some (.dK _) => some "dict"
    | some (.dT _) => some "dict"
    | _ => none
  | .exc _ _ => none
def fIsT (T : String) (fa : FE) : FE := fun ρ st => (fa ρ st).bind fun d st1 => match tyOf d st1 with
  | some n => match kitB n T with
    | some b => .ok (.p (.bool b)) st1
    | none => .stuck
  | none => .stuck
theorem ktup_ty {a : Addr} {vs : List V} (h : SU K w.I H a vs) : TyX K H (.ref a) (.type "tuple") := by
  rcases h with h | ⟨_, o, _, h⟩ | ⟨o, its, n, e, c, _⟩
  · exact .base (.tup h.2)
  · exact .fTuple h
  · exact .kTuple e c
theorem ty_rd {st : So} {d : Dv} {v : V} {T : String} (s : Sim K mg w st H) (r : RD K mg st.length w H d v) (h : tyOf d st = some T) : TyX K H v (.type T) := by
  cases r with
  | p q =>
    cases q with
    | non => cases h; exact .base .non
    | bl b => cases h; exact .base (.bl b)
    | int i => cases h; exact .base (.int i)
    | str x => cases h; exact .base (.str x)
    | lst hs hr => cases h; exact .base (.lst hs.2)
    | tup hs hr => cases h; exact ktup_ty (.inr hs)
    | dct ia e hr => cases h; exact .base (.dK e)
  | tupD hs hr => cases h; exact ktup_ty hs
  | lstD hs hr => cases h; exact .base (.lst hs.2)
  | frz e =>
    cases h
    rcases e with ⟨_, o, e⟩ | ⟨o, its, n, e, c, _⟩
    · exact .base (.frz e)
    · exact .kList e c
  | exc m i e => cases h
  | ref hi =>
    rename_i i
    unfold tyOf at h
    dsimp only at h
    split at h
    · rename_i xs e
      cases h
      obtain ⟨vs, e1, _⟩ := s.cell i _ e
      exact .base (.lst e1)
    · rename_i xs e
      cases h
      obtain ⟨vs, e1, _⟩ := s.cell i _ e
      exact .base (.dK e1)
    · rename_i xs e
      cases h
      obtain ⟨vs, e1, _⟩ := s.cell i _ e
      exact .base (.dT e1)
    · cases h
theorem pf_isT {T : String} {x : Str} {e : Expr} {fa : FE} {pt : Pos} (hm : X.mg "isinstance" = none) (hx : X.mg x = none) (hv : bootBuiltins x = some (.type T)) (h : PF X W e fa) (hg : Gl X "isinstance" := by rfl) (hgx : Gl X x := by rfl) (hnx : x ≠ "__name__" := by decide) (hdx : (x == ("__debug__" : Str)) = false := by decide)
    (he : starEach [e, .Name x pt] X.env = (false, eval e X.env) :: starEach [.Name x pt] X.env := by rfl) (he2 : starEach [.Name x pt] X.env = (false, eval (.Name x pt) X.env) :: starEach [] X.env := by rfl) (hpl : (backTo pos (starEach [.Name x pt] X.env)).any (·.1) = false := by rfl) :
    PF X W (.Call (.Name "isinstance" p) [e, .Name x pt] [] pos) (fIsT T fa) :=
  PE_imp (pe_callB call_isi hg hm (by decide +kernel) (pa_cons h (pa_cons (pe_bltn (v := .ty T) hgx hx hv rfl hnx hdx) pa_nil he2) he) (by decide) (by decide) he hpl) fun σ H Q q => by
    obtain ⟨ρ, st, w, sim, er, gd⟩ := q
    refine ⟨ρ, st, w, sim, er, Good.imp (fun v H1 q => ?_) (Good.bind gd)⟩
    obtain ⟨st1, w1, d, sim1, s1, r1, gd1⟩ := q
    split at gd1
    · rename_i nm e1
      split at gd1
      · rename_i b e2
        exact ⟨v, .ty T, .type nm, .type T, b, rfl, .ty T, ty_rd sim1 r1 e1, kit_ty e2, gd1 w1 H1 _ .refl sim1 (.p (.bl b))⟩
      · exact gd1.elim
    · exact gd1.elim
end
end FB
set_option Elab.async false
set_option linter.all false
set_option maxRecDepth 100000
set_option maxHeartbeats 4000000
/-! FB5: in, is, chains, slices, products. -/
namespace FB
open PySem PySem.Spec PyProof.Rows L2 RZ

/-! ### in, not in -/
def flV : Dv → Option V
  | .p .none => some .non
  | .p (.bool b) => some (.bl b)
  | .p (.int i) => some (.int i)
  | .p (.str x) => some (.str x)
  | _ => none
def flVs : List Dv → Option (List V)
  | [] => some []
  | d :: r => match flV d, flVs r with
    | some v, some vs => some (v :: vs)
    | _, _ => none
def memD (x y : Dv) (st : So) : Option Bool := match x, y with
  | .p (.str a), .p (.str z) => match a.cps with
    | ⟨[c]⟩ => some (decide (c ∈ z.cps.toList))
    | _ => none
  | x, y => match seqOf y st with
    | none => none
    | some ys => match flV x, flVs ys with
      | some v, some vs => some (inV v vs)
      | _, _ => match datOf x st, datOf y st with
        | some a, some (.list ds) => if SeqAt.shaped a && SeqAt.shaped (.list ds) then some (ds.any fun z => PyData.eqv z a) else none
        | _, _ => none
def gIn : G2 := fun x y st => (memD x y st).map fun b => .p (.bool b)
def gNotIn : G2 := fun x y st => (memD x y st).map fun b => .p (.bool (!b))
def rInA (K : PySem.W.Frag) : R2 := fun x y H Q => rInS x y H Q ∨ rIn K false x y H Q ∨ rInD K x y H Q
def rNotInA (K : PySem.W.Frag) : R2 := fun x y H Q => rNotInS x y H Q ∨ rIn K true x y H Q ∨ rNotInD K x y H Q
section
variable {X : Cx} {K : PySem.W.Frag} {mg : Str → Option Value} {n : Nat} {w : Wd} {H : Hp}
theorem op_inA (hu : X.A.units + 65 < cLine) : OpR X (compareOp .In) (rInA X.K) := op_inS.or (op_in_seq.or (op_inD hu))
theorem op_notInA (hu : X.A.units + 65 < cLine) : OpR X (compareOp .NotIn) (rNotInA X.K) := op_notInS.or (op_notIn_seq.or (op_notInD hu))
theorem flV_rd {d : Dv} {v u : V} (r : RD K mg n w H d v) (h : flV d = some u) : v = u ∧ flatV u = true := by
  unfold flV at h
  split at h
  · cases h; exact ⟨rd_non r, rfl⟩
  · cases h; exact ⟨rd_bl r, rfl⟩
  · cases h; exact ⟨rd_int r, rfl⟩
  · cases h; exact ⟨rd_str r, rfl⟩
  · cases h
theorem flVs_rd : ∀ {ds : List Dv} {vs us : List V}, RDs K mg n w H ds vs → flVs ds = some us → vs = us ∧ us.all flatV = true
  | _, _, _, .nil, h => by cases h; exact ⟨rfl, rfl⟩
  | d :: ds, _, us, .cons r rs, h => by
    unfold flVs at h
    cases e1 : flV d with
    | none => rw [e1] at h; cases h
    | some a =>
      cases e2 : flVs ds with
      | none => rw [e1, e2] at h; cases h
      | some as =>
        rw [e1, e2] at h
        cases h
        obtain ⟨rfl, f1⟩ := flV_rd r e1
        obtain ⟨rfl, f2⟩ := flVs_rd rs e2
        exact ⟨rfl, by rw [List.all_cons, f1, f2]; rfl⟩
theorem mem_core {st : So} {x y : Dv} {vx vy : V} {b : Bool} (sim : Sim X.K X.mg w st H) (rx : RD X.K X.mg st.length w H x vx) (ry : RD X.K X.mg st.length w H y vy) (h : memD x y st = some b) :
    (∃ (c : Nat) (z : Str), vx = .str ⟨#[c]⟩ ∧ vy = .str z ∧ decide (c ∈ z.cps.toList) = b) ∨ (∃ p xs, vy = .ref p ∧ (SqL X.K H p xs ∨ SqT X.K H p xs) ∧ flatV vx = true ∧ xs.all flatV = true ∧ inV vx xs = b) ∨
    ∃ d ds, Dp X.K H vx d ∧ Dp X.K H vy (.list ds) ∧ SeqAt.shaped d = true ∧ SeqAt.shaped (.list ds) = true ∧ (ds.any fun z => PyData.eqv z d) = b := by
  unfold memD at h
  split at h
  · rename_i a z
    split at h
    · rename_i c e
      cases h
      obtain rfl := rd_str rx
      obtain rfl := rd_str ry
      refine .inl ⟨c, z, ?_, rfl, rfl⟩
      cases a
      simp only at e
      subst e
      rfl
    · cases h
  · split at h
    · cases h
    · rename_i ys e
      split at h
      · rename_i v vs e1 e2
        cases h
        obtain ⟨a, us, rfl, r1, hs⟩ := seq_rd sim ry e
        obtain ⟨rfl, f1⟩ := flV_rd rx e1
        obtain ⟨rfl, f2⟩ := flVs_rd r1 e2
        exact .inr (.inl ⟨a, _, rfl, hs, f1, f2, rfl⟩)
      · split at h
        · rename_i a ds ea eb
          split at h
          · rename_i hs
            cases h
            rw [Bool.and_eq_true] at hs
            exact .inr (.inr ⟨a, ds, dat_dp sim rx ea (SeqAt.canLay_of_shaped hs.1), dat_dp sim ry eb (SeqAt.canLay_of_shaped hs.2), hs.1, hs.2, rfl⟩)
          · cases h
        · cases h
theorem im_in : Im2 X (rInA X.K) gIn := fun st w H x y vx vy Q d sim rx ry h l => by
  unfold gIn at h
  cases e : memD x y st with
  | none => rw [e] at h; cases h
  | some b =>
    rw [e] at h
    cases h
    have q : Q (.bl b) H := l w H _ .refl sim (.p (.bl b))
    rcases mem_core sim rx ry e with ⟨c, z, h1, h2, h3⟩ | ⟨p, xs, h1, h2, h3, h4, h5⟩ | ⟨d, ds, h1, h2, h3, h4, h5⟩
    · exact .inl ⟨c, z, h1, h2, by rw [h3]; exact q⟩
    · exact .inr (.inl ⟨p, xs, h1, h2, h3, h4, by rw [if_neg Bool.false_ne_true, h5]; exact q⟩)
    · exact .inr (.inr ⟨d, ds, h1, h2, h3, h4, by rw [h5]; exact q⟩)
theorem im_notIn : Im2 X (rNotInA X.K) gNotIn := fun st w H x y vx vy Q d sim rx ry h l => by
  unfold gNotIn at h
  cases e : memD x y st with
  | none => rw [e] at h; cases h
  | some b =>
    rw [e] at h
    cases h
    have q : Q (.bl (!b)) H := l w H _ .refl sim (.p (.bl (!b)))
    rcases mem_core sim rx ry e with ⟨c, z, h1, h2, h3⟩ | ⟨p, xs, h1, h2, h3, h4, h5⟩ | ⟨d, ds, h1, h2, h3, h4, h5⟩
    · exact .inl ⟨c, z, h1, h2, by rw [h3]; exact q⟩
    · exact .inr (.inl ⟨p, xs, h1, h2, h3, h4, by rw [if_pos rfl, h5]; exact q⟩)
    · exact .inr (.inr ⟨d, ds, h1, h2, h3, h4, by rw [h5]; exact q⟩)

/-! ### is, is not -/
def isD (x y : Dv) : Option Bool := match x, y with
  | .p (.bool a), .p (.bool b) => some (decide (a = b))
  | .p .none, .p .none => some true
  | _, .p .none => some false
  | _, _ => none
def gIs : G2 := fun x y _ => (isD x y).map fun b => .p (.bool b)
def gIsNot : G2 := fun x y _ => (isD x y).map fun b => .p (.bool (!b))
def rIsA : R2 := fun x y H Q => rIsB x y H Q ∨ rIsN x y H Q
def rIsNotA : R2 := fun x y H Q => rNotB x y H Q ∨ rNotN x y H Q
theorem op_isA : OpR X (compareOp .Is) rIsA := op_isBl.or op_isN1
theorem op_isNotA : OpR X (compareOp .IsNot) rIsNotA := op_notBl.or op_notN1
theorem is_core {x y : Dv} {vx vy : V} {b : Bool} (rx : RD K mg n w H x vx) (ry : RD K mg n w H y vy) (h : isD x y = some b) : (∃ a c : Bool, vx = .bl a ∧ vy = .bl c ∧ decide (a = c) = b) ∨ (vy = .non ∧ decide (vx = .non) = b) := by
  unfold isD at h
  split at h
  · cases h
    exact .inl ⟨_, _, rd_bl rx, rd_bl ry, rfl⟩
  · cases h
    exact .inr ⟨rd_non ry, by rw [rd_non rx]; rfl⟩
  · rename_i hn
    cases h
    refine .inr ⟨rd_non ry, decide_eq_false fun e => ?_⟩
    subst e
    cases rx with
    | p q => cases q; exact hn rfl
  · cases h
theorem im_is : Im2 X rIsA gIs := fun st w H x y vx vy Q d sim rx ry h l => by
  unfold gIs at h
  cases e : isD x y with
  | none => rw [e] at h; cases h
  | some b =>
    rw [e] at h
    cases h
    have q : Q (.bl b) H := l w H _ .refl sim (.p (.bl b))
    rcases is_core rx ry e with ⟨a, c, h1, h2, h3⟩ | ⟨h1, h2⟩
    · exact .inl ⟨a, c, h1, h2, by rw [h3]; exact q⟩
    · exact .inr ⟨h1, by rw [h2]; exact q⟩
theorem im_isNot : Im2 X rIsNotA gIsNot := fun st w H x y vx vy Q d sim rx ry h l => by
  unfold gIsNot at h
  cases e : isD x y with
  | none => rw [e] at h; cases h
  | some b =>
    rw [e] at h
    cases h
    have q : Q (.bl (!b)) H := l w H _ .refl sim (.p (.bl (!b)))
    rcases is_core rx ry e with ⟨a, c, h1, h2, h3⟩ | ⟨h1, h2⟩
    · exact .inl ⟨a, c, h1, h2, by rw [h3]; exact q⟩
    · exact .inr ⟨h1, by rw [h2]; exact q⟩

/-! ### products -/
def repS (a : Str) (k : Int) : Str := ⟨(List.replicate k.toNat a.cps).foldl (· ++ ·) #[]⟩
def gMulA : G2 := fun x y st => match x, y with
  | .p (.int i), .p (.int j) => if decide (i.natAbs < 2 ^ 64) || decide (j.natAbs < 2 ^ 64) then some (.p (.int (i * j)))
      else if decide (i.natAbs < 2 ^ 4000) && decide (j.natAbs < 2 ^ 4000) then some (.p (.int (i * j))) else none
  | .p (.str a), .p (.int k) => if decide (2 ≤ k) && decide (k ≤ 1000) && decide (a.length ≤ 1000) && decide (1 ≤ a.length) && decide ((repS a k).length ≤ 1000000) then some (.p (.str (repS a k))) else none
  | x, .p (.int k) => match lstOf x st with
    | some xs => if decide (0 ≤ k) && decide (k ≤ 1000) && decide (xs.length ≤ 1000) then some (mkL (List.replicate k.toNat xs).flatten) else none
    | none => none
  | _, _ => none
def rMulS : R2 := fun x y H Q => ∃ (a : Str) (k : Int), x = .str a ∧ y = .int k ∧ 2 ≤ k ∧ k ≤ 1000 ∧ a.length ≤ 1000 ∧ 1 ≤ a.length ∧ (repS a k).length ≤ 1000000 ∧ Q (.str (repS a k)) H
def rMulA : R2 := fun x y H Q => rI CMul (fun i j => .int (i * j)) x y H Q ∨ rI CMulW (fun i j => .int (i * j)) x y H Q ∨ rMulS x y H Q ∨ rRep x y H Q
theorem op_mulS : OpR X (binaryOp .Mult) rMulS := by
  intro pins s σ H x y v u Q I rx ry h
  obtain ⟨a, k, rfl, rfl, h1, h2, h3, h4, h5, q⟩ := h
  obtain ⟨t, rfl⟩ := rx
  obtain ⟨t', rfl⟩ := ry
  have n1 : ¬ k < 1 := by omega
  have e0 : (k == 1 || a.length == 0) = false := by
    rw [Bool.or_eq_false_iff]
    exact ⟨beq_eq_false_iff_ne.mpr (by omega), beq_eq_false_iff_ne.mpr (by omega)⟩
  have hm : a.length * k.toNat ≤ 1000 * 1000 := Nat.mul_le_mul h3 (by omega)
  refine PySem.P.mul_str (by rw [decide_eq_false (by omega), decide_eq_false (by omega)]; rfl) (fun _ _ z => ?_) (fun _ _ => ?_) ?_
  · have q1 : ((2 : Int) ^ 63 - 1) / 1000 ≤ (2 ^ 63 - 1) / k := by
      rw [Int.le_ediv_iff_mul_le (by omega)]
      have : ((2 : Int) ^ 63 - 1) / 1000 * k ≤ ((2 : Int) ^ 63 - 1) / 1000 * 1000 := Int.mul_le_mul_of_nonneg_left h2 (by decide)
      omega
    omega
  · exact decide_eq_false (by rw [sizeLine_eq]; omega)
  · rw [if_neg n1, e0, if_neg Bool.false_ne_true]
    exact ⟨by show (repS a k).length ≤ sizeLine; rw [sizeLine_eq]; omega, .str (repS a k), H, I.tok _, ⟨_, rfl⟩, q⟩
theorem op_mulA : OpR X (binaryOp .Mult) rMulA := OpR.or (r := rI CMul fun i j => .int (i * j)) op_mul (OpR.or (r := rI CMulW fun i j => .int (i * j)) op_mulW (op_mulS.or op_rep))
theorem rds_rep {xs : List Dv} {vs : List V} (r : RDs K mg n w H xs vs) : ∀ k : Nat, RDs K mg n w H (List.replicate k xs).flatten (List.replicate k vs).flatten
  | 0 => .nil
  | k + 1 => by
    rw [List.replicate_succ, List.replicate_succ, List.flatten_cons, List.flatten_cons]
    exact r.append (rds_rep r k)
theorem im_mul : Im2 X rMulA gMulA := fun st w H x y vx vy Q d sim rx ry h l => by
  unfold gMulA at h
  split at h
  · rename_i i j
    obtain rfl := rd_int rx
    obtain rfl := rd_int ry
    split at h
    · rename_i e
      cases h
      rw [Bool.or_eq_true] at e
      refine .inl ⟨i, j, rfl, rfl, ?_, l w H _ .refl sim (.p (.int _))⟩
      rcases e with e | e
      · have := of_decide_eq_true e
        exact .inl (by omega)
      · have := of_decide_eq_true e
        exact .inr (by omega)
    · split at h
      · rename_i e
        cases h
        rw [Bool.and_eq_true] at e
        exact .inr (.inl ⟨i, j, rfl, rfl, wide_mul (of_decide_eq_true e.1) (of_decide_eq_true e.2) (by decide) (by decide) (by decide), l w H _ .refl sim (.p (.int _))⟩)
      · cases h
  · rename_i a k
    split at h
    · rename_i e
      cases h
      simp only [Bool.and_eq_true, decide_eq_true_eq] at e
      obtain ⟨⟨⟨⟨h1, h2⟩, h3⟩, h4⟩, h5⟩ := e
      obtain rfl := rd_str rx
      obtain rfl := rd_int ry
      exact .inr (.inr (.inl ⟨a, k, rfl, rfl, h1, h2, h3, h4, h5, l w H _ .refl sim (.p (.str _))⟩))
    · cases h
  · rename_i k _ _
    split at h
    · rename_i xs e
      split at h
      · rename_i h0
        cases h
        simp only [Bool.and_eq_true, decide_eq_true_eq] at h0
        obtain ⟨⟨h1, h2⟩, h3⟩ := h0
        obtain rfl := rd_int ry
        obtain ⟨a, vs, rfl, r1, t1⟩ := lst_rd sim rx e
        have hm : xs.length * k.toNat ≤ 1000 * 1000 := Nat.mul_le_mul h3 (by omega)
        refine .inr (.inr (.inr ⟨a, k, vs, rfl, rfl, t1, by omega, by omega, by rw [← r1.length, sizeLine_eq]; omega, fun p hp => ?_⟩))
        obtain ⟨s2, sim2⟩ := sim.newP (o := .lst (List.replicate k.toNat vs).flatten) hp
        exact l _ _ _ s2 sim2 (rd_mkL ⟨.inl rfl, upd_same⟩ ((rds_rep r1 _).mono s2))
      · cases h
    · cases h
  · cases h

/-! ### -i -/
def gNeg : G1 := fun x _ => match x with
  | .p (.int i) => some (.p (.int (-i)))
  | _ => none
theorem im_neg : Im1 X (rU fun i => .int (-i)) gNeg := fun st w H x vx Q d sim rx h l => by
  unfold gNeg at h
  split at h
  · cases h
    obtain rfl := rd_int rx
    exact ⟨_, rfl, l w H _ .refl sim (.p (.int _))⟩
  · cases h

/-! ### a op b op' c -/
variable {W : WX} {a b c e : Expr} {fa fb fc : FE} {pos p2 : Pos}
def fChain (g g' : G2) (fa fb fc : FE) : FE := fun ρ st => (fa ρ st).bind fun x st1 => (fb ρ st1).bind fun y st2 => match g x y st2 with
  | some (.p (.bool true)) => (fc ρ st2).bind fun z st3 => toR st3 (g' y z st3)
  | some (.p (.bool false)) => .ok (.p (.bool false)) st2
  | _ => .stuck
theorem pf_chain {op op' : CmpOp} {r r' : R2} {g g' : G2} (ho : OpR X (compareOp op) r) (ho' : OpR X (compareOp op') r') (hi : Im2 X r g) (hi' : Im2 X r' g') (ha : PF X W a fa) (hb : PF X W b fb) (hc : PF X W c fc)
    (hm : lastMarks [op, op'] [b, c] = false := by with_unfolding_all rfl) : PF X W (.Compare a [op, op'] [b, c] pos) (fChain g g' fa fb fc) := PE_imp (pe_chain ho ho' ha hb hc hm) fun σ H Q h => by
  obtain ⟨ρ, st, w, sim, er, gd⟩ := h
  refine ⟨ρ, st, w, sim, er, Good.imp (fun x H1 q => ?_) (Good.bind gd)⟩
  obtain ⟨st1, w1, d1, sim1, s1, r1, gd1⟩ := q
  refine ⟨ρ, st1, w1, sim1, er.mono s1, Good.imp (fun y H2 q => ?_) (Good.bind gd1)⟩
  obtain ⟨st2, w2, d2, sim2, s2, r2, gd2⟩ := q
  split at gd2
  · rename_i e
    refine hi st2 w2 H2 d1 d2 x y _ _ sim2 (r1.mono s2) r2 e fun w' H' v s' sim' rv => ?_
    obtain rfl := rd_bl rv
    refine ⟨true, rfl, ?_⟩
    rw [if_pos rfl]
    refine ⟨ρ, st2, w', sim', ((er.mono s1).mono s2).mono s', Good.imp (fun z H3 q => ?_) (Good.bind (gd2.later s'))⟩
    obtain ⟨st3, w3, d3, sim3, s3, r3, gd3⟩ := q
    obtain ⟨d, e', l⟩ := lies_of gd3
    exact hi' st3 w3 H3 d2 d3 y z Q d sim3 (r2.mono (s'.trans s3)) r3 e' l
  · rename_i e
    refine hi st2 w2 H2 d1 d2 x y _ _ sim2 (r1.mono s2) r2 e fun w' H' v s' sim' rv => ?_
    obtain rfl := rd_bl rv
    refine ⟨false, rfl, ?_⟩
    rw [if_neg Bool.false_ne_true]
    exact gd2 w' H' _ s' sim' (.p (.bl false))
  · exact gd2.elim

/-! ### slices -/
abbrev FO := Sl → So → Rs (Option Int)
def RelO2 : Nat → Wd → Hp → Option Int → Option Int → Prop := fun _ _ _ a b => a = b
def TFO (K : PySem.W.Frag) (mg : Str → Option Value) (W : WX) (fa : FO) : TO := fun σ H Q => ∃ ρ st w, Sim K mg w st H ∧ EnvR K mg st.length w H ρ σ ∧ Good RelO2 K mg W σ st.length w H Q (fa ρ st)
def PFO (X : Cx) (W : WX) (o : Option Expr) (fa : FO) : Prop := PO X o (TFO X.K X.mg W fa)
theorem PO_imp {o : Option Expr} {t t' : TO} (h : PO X o t) (hi : ∀ σ H Q, t' σ H Q → t σ H Q) : PO X o t' := ⟨fun pins s σ H Q I q => h.run pins s σ H Q I (hi σ H Q q)⟩
def fNoP : FO := fun _ st => .ok none st
def asI (d : Dv) (st : So) : Rs (Option Int) := match d with
  | .p (.int i) => .ok (some i) st
  | _ => .stuck
def fPt (fa : FE) : FO := fun ρ st => (fa ρ st).bind asI
theorem pfo_none : PFO X W none fNoP := PO_imp po_none fun σ H Q ⟨ρ, st, w, sim, er, g⟩ => g w H none .refl sim rfl
theorem pfo_some (h : PF X W e fa) : PFO X W (some e) (fPt fa) := PO_imp (po_some h) fun σ H Q q => by
  obtain ⟨ρ, st, w, sim, er, gd⟩ := q
  refine ⟨ρ, st, w, sim, er, Good.imp (fun x H1 q => ?_) (Good.bind gd)⟩
  obtain ⟨st1, w1, d1, sim1, s1, r1, gd1⟩ := q
  unfold asI at gd1
  split at gd1
  · rename_i i
    obtain rfl := rd_int r1
    exact ⟨i, rfl, gd1 w1 H1 _ .refl sim1 rfl⟩
  · exact gd1.elim
theorem seqL_rd {st : So} {d : Dv} {v : V} {xs : List Dv} (s : Sim K mg w st H) (r : RD K mg st.length w H d v) (ht : tupOf d = none) (h : seqOf d st = some xs) : ∃ a vs, v = .ref a ∧ RDs K mg st.length w H xs vs ∧ SqL K H a vs := by
  unfold seqOf at h
  split at h
  · cases h
    cases r with
    | frz e => exact ⟨_, _, rfl, frz_rds, e.sq⟩
  · rw [ht] at h
    obtain ⟨a, vs, h1, h2, h3⟩ := lst_rd s r h
    exact ⟨a, vs, h1, h2, .of h3⟩
def cutD (xs : List Dv) (lo hi : Option Int) : List Dv := (xs.drop (HT.sIx xs.length 0 lo)).take (HT.sIx xs.length xs.length hi - HT.sIx xs.length 0 lo)
theorem rds_cut {xs : List Dv} {vs : List V} {lo hi : Option Int} (r : RDs K mg n w H xs vs) : RDs K mg n w H (cutD xs lo hi) (cutV vs lo hi) := by
  unfold cutD cutV
  rw [r.length]
  exact (r.drop _).take _
def whole (n : Nat) (lo hi : Option Int) : Bool := decide (HT.sIx n 0 lo = 0) && decide (HT.sIx n n hi = n)
def gSl (x : Dv) (lo hi : Option Int) (st : So) : Option Dv := match x with
  | .p (.str z) => if z.length ≤ 100000 then some (.p (.str (cutS z lo hi))) else none
  | x => match tupOf x with
    | some xs => some (if whole xs.length lo hi then x else mkT (cutD xs lo hi))
    | none => (seqOf x st).map fun xs => mkL (cutD xs lo hi)
def rSlAny (K : PySem.W.Frag) : V → Option Int → Option Int → Hp → VK → Prop := fun x lo hi H Q => rSlS x lo hi H Q ∨ rSlX K x lo hi H Q ∨ rSlL K x lo hi H Q
theorem sl_any : SlR X (rSlAny X.K) := SlR.or sl_str (SlR.or sl_tupX sl_list)
theorem im_sl {st : So} {d : Dv} {x : V} {lo hi : Option Int} {Q : VK} {r : Dv} (sim : Sim X.K X.mg w st H) (rx : RD X.K X.mg st.length w H d x) (h : gSl d lo hi st = some r) (l : Lies X.K X.mg st w H Q r) : rSlAny X.K x lo hi H Q := by
  unfold gSl at h
  split at h
  · rename_i z
    split at h
    · rename_i hz
      cases h
      obtain rfl := rd_str rx
      exact .inl ⟨z, rfl, le_line hz, l w H _ .refl sim (.p (.str _))⟩
    · cases h
  · rename_i hn
    split at h
    · rename_i xs e
      cases h
      obtain ⟨a, vs, rfl, r1, hs⟩ := tup_rd rx e
      refine .inr (.inl ⟨a, vs, rfl, hs.sq, fun hw => ?_, fun hw p o hp ho => ?_⟩)
      · rw [← r1.length] at hw
        have e1 : whole xs.length lo hi = true := by unfold whole; rw [decide_eq_true hw.1, decide_eq_true hw.2]; rfl
        rw [e1, if_pos rfl] at l
        exact l w H _ .refl sim rx
      · rw [← r1.length] at hw
        have e1 : ¬ whole xs.length lo hi = true := fun z => by
          unfold whole at z
          rw [Bool.and_eq_true] at z
          exact hw ⟨of_decide_eq_true z.1, of_decide_eq_true z.2⟩
        rw [if_neg e1] at l
        obtain ⟨s2, sim2⟩ := sim.newP (o := .frz o (.tup (cutV vs lo hi))) hp
        exact l _ _ _ s2 sim2 (rd_mkT (.inl ⟨.inl rfl, o, ho, upd_same⟩) ((rds_cut r1).mono s2))
    · rename_i ht
      cases e : seqOf d st with
      | none => rw [e] at h; cases h
      | some xs =>
        rw [e] at h
        cases h
        obtain ⟨a, vs, rfl, r1, hs⟩ := seqL_rd sim rx ht e
        refine .inr (.inr ⟨a, vs, rfl, hs, fun p hp => ?_⟩)
        obtain ⟨s2, sim2⟩ := sim.newP (o := .lst (cutV vs lo hi)) hp
        exact l _ _ _ s2 sim2 (rd_mkL ⟨.inl rfl, upd_same⟩ ((rds_cut r1).mono s2))
def fSl (fa : FE) (fl fh : FO) : FE := fun ρ st => (fa ρ st).bind fun x st1 => (fl ρ st1).bind fun lo st2 => (fh ρ st2).bind fun hi st3 => toR st3 (gSl x lo hi st3)
theorem pf_sl {lo hi : Option Expr} {fl fh : FO} (he : PF X W e fa) (hl : PFO X W lo fl) (hh : PFO X W hi fh) : PF X W (.Subscript e (.Slice lo hi none p2) pos) (fSl fa fl fh) := PE_imp (pe_slice sl_any he hl hh) fun σ H Q h => by
  obtain ⟨ρ, st, w, sim, er, gd⟩ := h
  refine ⟨ρ, st, w, sim, er, Good.imp (fun x H1 q => ?_) (Good.bind gd)⟩
  obtain ⟨st1, w1, d1, sim1, s1, r1, gd1⟩ := q
  refine ⟨ρ, st1, w1, sim1, er.mono s1, Good.imp (fun y H2 q => ?_) (Good.bind gd1)⟩
  obtain ⟨st2, w2, d2, sim2, s2, r2, gd2⟩ := q
  obtain rfl : d2 = y := r2
  refine ⟨ρ, st2, w2, sim2, (er.mono s1).mono s2, Good.imp (fun z H3 q => ?_) (Good.bind gd2)⟩
  obtain ⟨st3, w3, d3, sim3, s3, r3, gd3⟩ := q
  obtain rfl : d3 = z := r3
  obtain ⟨d, e', l⟩ := lies_of gd3
  exact im_sl sim3 ((r1.mono s2).mono s3) e' l
/-- x[::-1] of a list, of a tuple -/
def gRev : G1 := fun x st => match tupOf x with
  | some xs => some (mkT xs.reverse)
  | none => (seqOf x st).map fun xs => mkL xs.reverse
theorem rds_rev : ∀ {xs : List Dv} {vs : List V}, RDs K mg n w H xs vs → RDs K mg n w H xs.reverse vs.reverse
  | _, _, .nil => .nil
  | _, _, .cons h hs => by
    rw [List.reverse_cons, List.reverse_cons]
    exact (rds_rev hs).append (.cons h .nil)
theorem pf_rev {k : Nat} {p1 p3 : Pos} (he : PF X W e fa) : PF X W (.Subscript e (.Slice none none (some (.UnaryOp .USub (.Constant (.int 1) k p1) p2)) p3) pos) (fUn gRev fa) := PE_imp (pe_rev he) fun σ H Q h => by
  obtain ⟨ρ, st, w, sim, er, gd⟩ := h
  refine ⟨ρ, st, w, sim, er, Good.imp (fun x H1 q => ?_) (Good.bind gd)⟩
  obtain ⟨st1, w1, d1, sim1, s1, r1, gd1⟩ := q
  obtain ⟨d, e', l⟩ := lies_of gd1
  unfold gRev at e'
  split at e'
  · rename_i xs e
    cases e'
    obtain ⟨a, vs, rfl, r2, hs⟩ := tup_rd r1 e
    refine ⟨a, vs, rfl, .inr ⟨hs.sq, fun p o hp ho => ?_⟩⟩
    obtain ⟨s2, sim2⟩ := sim1.newP (o := .frz o (.tup vs.reverse)) hp
    exact l _ _ _ s2 sim2 (rd_mkT (.inl ⟨.inl rfl, o, ho, upd_same⟩) ((rds_rev r2).mono s2))
  · rename_i ht
    cases e : seqOf d1 st1 with
    | none => rw [e] at e'; cases e'
    | some xs =>
      rw [e] at e'
      cases e'
      obtain ⟨a, vs, rfl, r2, hs⟩ := seqL_rd sim1 r1 ht e
      refine ⟨a, vs, rfl, .inl ⟨hs, fun p hp => ?_⟩⟩
      obtain ⟨s2, sim2⟩ := sim1.newP (o := .lst vs.reverse) hp
      exact l _ _ _ s2 sim2 (rd_mkL ⟨.inl rfl, upd_same⟩ ((rds_rev r2).mono s2))

/-! ### t.index(x), t a tuple of texts -/
def firstAt (z : Str) : List Dv → Nat → Option Nat
  | [], _ => none
  | .p (.str y) :: r, k => if y = z then some k else firstAt z r (k + 1)
  | _ :: _, _ => none
def txts : List Dv → Option (List Str)
  | [] => some []
  | .p (.str y) :: r => (txts r).map (y :: ·)
  | _ :: _ => none
def gIndexT (x : Dv) (xs : List Dv) : Option Dv := match x, xs with
  | .p (.tuple ds), [.p (.str z)] => match txts (ds.map Dv.p) with
    | some ys => if ys.contains z then some (.p (.int (ys.idxOf z : Nat))) else none
    | none => none
  | _, _ => none
def fIndexT (fa : FE) (fr : FA) : FE := fun ρ st => (fa ρ st).bind fun x st1 => match x with
  | .p (.tuple ds) => (fr ρ st1).bind fun xs st2 => toR st2 (gIndexT (.p (.tuple ds)) xs)
  | _ => .stuck
theorem txts_rd : ∀ {ds : List Dv} {ys : List Str} {vs : List V}, RDs K mg n w H ds vs → txts ds = some ys → vs = ys.map V.str
  | _, _, _, .nil, h => by cases h; rfl
  | d :: ds, ys, _, .cons r rs, h => by
    unfold txts at h
    split at h
    · rename_i e; cases e
    · rename_i y r' e
      cases e
      cases e2 : txts ds with
      | none => rw [e2] at h; cases h
      | some zs =>
        rw [e2] at h
        cases h
        rw [rd_str r, txts_rd rs e2]; rfl
    · cases h
theorem idx_before {ys : List Str} {z : Str} {m : Nat} (h : m < ys.idxOf z) : ys[m]? ≠ some z := fun e => by
  have h1 := List.not_of_lt_findIdx (p := (· == z)) (xs := ys) (i := m) h
  have h2 : m < ys.length := (List.getElem?_eq_some_iff.mp e).1
  rw [List.getElem?_eq_getElem h2] at e
  cases e
  simp at h1
variable {apos cpos : Pos} {es : List Expr} {fr : FA}
theorem pf_indexT (ho : PF X W a fa) (ha : PFA X W (e :: es) fr) (hbase : attributeBase a "index" X.env (eval a X.env) = eval a X.env := by rfl)
    (hfew : ((backTo cpos (starEach (e :: es) X.env)).all (fun x => !x.1) && (backToKw cpos (keywordEach [] X.env)).all (fun x => x.1.isSome)
      && decide ((e :: es).length + ([] : List Keyword).length + (if ([] : List Keyword).isEmpty then 0 else 1) < 30)) = true := by rfl)
    (hline : (apos.endLine == cpos.line) = true := by rfl) (hs : starEach (e :: es) X.env = (false, eval e X.env) :: starEach es X.env := by rfl) (hplain : (backTo cpos (starEach es X.env)).any (·.1) = false := by rfl) :
    PF X W (.Call (.Attribute a "index" apos) (e :: es) [] cpos) (fIndexT fa fr) := PE_imp (pe_tm PySem.F.plainAttrs_tuple PySem.F.slot_tuple_index PySem.F.type_tuple_index mt_tup_index ho ha hbase hfew hline hs hplain) fun σ H Q h => by
  obtain ⟨ρ, st, w, sim, er, gd⟩ := h
  refine ⟨ρ, st, w, sim, er, Good.imp (fun x H1 q => ?_) (Good.bind gd)⟩
  obtain ⟨st1, w1, d1, sim1, s1, r1, gd1⟩ := q
  split at gd1
  · rename_i ds
    cases r1 with
    | p q0 =>
    cases q0 with
    | tup hs0 hr0 =>
    rename_i p us
    refine ⟨⟨p, us, rfl, hs0.tm⟩, ρ, st1, w1, sim1, er.mono s1, Good.imp (fun vs H2 q => ?_) (Good.bind gd1)⟩
    obtain ⟨st2, w2, d2, sim2, s2, r2, gd2⟩ := q
    obtain ⟨d, e', l⟩ := lies_of gd2
    unfold gIndexT at e'
    split at e'
    · rename_i ds' z e0
      cases e0
      obtain ⟨v, rfl, rv⟩ := rds1 r2
      obtain rfl := rd_str rv
      split at e'
      · rename_i ys e1
        split at e'
        · rename_i hc
          cases e'
          have hr2 : RDs X.K X.mg st2.length w2 H2 (ds.map Dv.p) us := (RDs.ofP hr0).mono s2
          obtain rfl := txts_rd hr2 e1
          have hz : z ∈ ys := by simpa using hc
          refine ⟨p, ys, z, ys.idxOf z, rfl, rfl, (hs0.mono s2.gro).sq, ?_, fun m hm => idx_before hm, l w2 H2 _ .refl sim2 (.p (.int _))⟩
          rw [List.getElem?_eq_getElem (List.idxOf_lt_length_of_mem hz)]
          simp
        · cases e'
      · cases e'
    · cases e'
  · exact gd1.elim
end
end FB
set_option Elab.async false
set_option linter.all false
set_option maxRecDepth 100000
set_option maxHeartbeats 4000000
/-! FB6: methods of lists, dicts, stores, augmented assignment. -/
namespace FB
open PySem PySem.Spec PyProof.Rows L2 RZ

/-! ### methods that may write -/
abbrev GM := Dv → List Dv → So → Option (Dv × So)
def LiesM (K : PySem.W.Frag) (mg : Str → Option Value) (st : So) (w : Wd) (H : Hp) (Q : VK) (d : Dv) (st2 : So) : Prop :=
  ∀ w' H' v, Stp st.length w H st2.length w' H' → Sim K mg w' st2 H' → RD K mg st2.length w' H' d v → Q v H'
def ImM (X : Cx) (r : V → List V → Hp → VK → Prop) (g : GM) : Prop := ∀ (st : So) (w : Wd) (H : Hp) (x : Dv) (xs : List Dv) (vx : V) (vs : List V) (Q : VK) (d : Dv) (st2 : So), Sim X.K X.mg w st H → RD X.K X.mg st.length w H x vx → RDs X.K X.mg st.length w H xs vs →
  g x xs st = some (d, st2) → LiesM X.K X.mg st w H Q d st2 → r vx vs H Q
def isLst (d : Dv) (st : So) : Bool := match tupOf d with
  | some _ => false
  | none => (seqOf d st).isSome
def toM : Option (Dv × So) → Rs Dv
  | some (d, st) => .ok d st
  | none => .stuck
def fMth (g : GM) (fo : FE) (fr : FA) : FE := fun ρ st => (fo ρ st).bind fun x st1 => if isLst x st1 then (fr ρ st1).bind fun xs st2 => toM (g x xs st2) else .stuck
def fMth0 (g : GM) (fo : FE) : FE := fun ρ st => (fo ρ st).bind fun x st1 => if isLst x st1 then toM (g x [] st1) else .stuck
section
variable {X : Cx} {K : PySem.W.Frag} {mg : Str → Option Value} {n : Nat} {w : Wd} {H : Hp} {W : WX} {a e o : Expr} {es : List Expr} {fa fo : FE} {fr : FA} {apos cpos pos : Pos} {name : Str} {id : String} {r : V → List V → Hp → VK → Prop} {g : GM}
theorem isLst_ty {st : So} {d : Dv} {v : V} (s : Sim K mg w st H) (rd : RD K mg st.length w H d v) (h : isLst d st = true) : tyV K "list" v H := by
  unfold isLst at h
  split at h
  · cases h
  · rename_i ht
    cases e : seqOf d st with
    | none => rw [e] at h; cases h
    | some xs =>
      obtain ⟨a, vs, rfl, _, hs⟩ := seqL_rd s rd ht e
      exact .inl ⟨rfl, vs, hs⟩
theorem liesM_of {σ : L2.St} {st : So} {Q : VK} {o : Option (Dv × So)} (g : Good (RD K mg) K mg W σ st.length w H Q (toM o)) : ∃ d st2, o = some (d, st2) ∧ LiesM K mg st w H Q d st2 := by
  cases o with
  | none => exact g.elim
  | some p => exact ⟨p.1, p.2, rfl, g⟩
theorem pf_mth (slot : Slot "list" name id) (hty : typeOf (.builtin id) = pure (.type "method_descriptor")) (hm : MtR X id r) (hi : ImM X r g) (ho : PF X W o fo) (ha : PFA X W (e :: es) fr)
    (hbase : attributeBase o name X.env (eval o X.env) = eval o X.env := by rfl)
    (hfew : ((backTo cpos (starEach (e :: es) X.env)).all (fun x => !x.1) && (backToKw cpos (keywordEach [] X.env)).all (fun x => x.1.isSome)
      && decide ((e :: es).length + ([] : List Keyword).length + (if ([] : List Keyword).isEmpty then 0 else 1) < 30)) = true := by rfl)
    (hline : (apos.endLine == cpos.line) = true := by rfl) (hs : starEach (e :: es) X.env = (false, eval e X.env) :: starEach es X.env := by rfl) (hplain : (backTo cpos (starEach es X.env)).any (·.1) = false := by rfl) :
    PF X W (.Call (.Attribute o name apos) (e :: es) [] cpos) (fMth g fo fr) := PE_imp (pe_bm PySem.F.plainAttrs_list slot hty hm ho ha hbase hfew hline hs hplain) fun σ H Q h => by
  obtain ⟨ρ, st, w, sim, er, gd⟩ := h
  refine ⟨ρ, st, w, sim, er, Good.imp (fun x H1 q => ?_) (Good.bind gd)⟩
  obtain ⟨st1, w1, d1, sim1, s1, r1, gd1⟩ := q
  by_cases hl : isLst d1 st1 = true
  · rw [if_pos hl] at gd1
    refine ⟨isLst_ty sim1 r1 hl, ρ, st1, w1, sim1, er.mono s1, Good.imp (fun vs H2 q => ?_) (Good.bind gd1)⟩
    obtain ⟨st2, w2, d2, sim2, s2, r2, gd2⟩ := q
    obtain ⟨d, st3, e', l⟩ := liesM_of gd2
    exact hi st2 w2 H2 d1 d2 x vs Q d st3 sim2 (r1.mono s2) r2 e' l
  · rw [if_neg hl] at gd1
    exact gd1.elim
theorem pf_mth0 (slot : Slot "list" name id) (hty : typeOf (.builtin id) = pure (.type "method_descriptor")) (hm : MtR X id r) (hi : ImM X r g) (ho : PF X W o fo)
    (hbase : attributeBase o name X.env (eval o X.env) = eval o X.env := by rfl) (hline : (apos.endLine == cpos.line) = true := by rfl) :
    PF X W (.Call (.Attribute o name apos) [] [] cpos) (fMth0 g fo) := PE_imp (pe_bm0 PySem.F.plainAttrs_list slot hty hm ho hbase hline) fun σ H Q h => by
  obtain ⟨ρ, st, w, sim, er, gd⟩ := h
  refine ⟨ρ, st, w, sim, er, Good.imp (fun x H1 q => ?_) (Good.bind gd)⟩
  obtain ⟨st1, w1, d1, sim1, s1, r1, gd1⟩ := q
  by_cases hl : isLst d1 st1 = true
  · rw [if_pos hl] at gd1
    obtain ⟨d, st3, e', l⟩ := liesM_of gd1
    exact ⟨isLst_ty sim1 r1 hl, hi st1 w1 H1 d1 [] x [] Q d st3 sim1 r1 .nil e' l⟩
  · rw [if_neg hl] at gd1
    exact gd1.elim
/-- the list cell at d -/
def cellL (d : Dv) (st : So) : Option (Nat × List Dv) := match d with
  | .ref i => match st[i]? with
    | some (.lst xs) => some (i, xs)
    | _ => none
  | _ => none
theorem cellL_rd {st : So} {d : Dv} {v : V} {i : Nat} {xs : List Dv} (s : Sim K mg w st H) (rd : RD K mg st.length w H d v) (h : cellL d st = some (i, xs)) :
    ∃ vs, v = .ref (w.m i) ∧ H (w.m i) = some (.lst vs) ∧ RDs K mg st.length w H xs vs ∧ live st i ∧ st[i]? = some (.lst xs) := by
  unfold cellL at h
  split at h
  · rename_i j
    split at h
    · rename_i ys e
      cases h
      cases rd
      obtain ⟨vs, e1, r1, _⟩ := s.cell _ _ e
      exact ⟨vs, rfl, e1, r1, ⟨_, e, by simp⟩, e⟩
    · cases h
  · cases h
/-- a list cell rewritten -/
theorem cell_wr {st : So} {i : Nat} {ys : List Dv} {vs : List V} (s : Sim K mg w st H) (hl : live st i) (r : RDs K mg st.length w H ys vs) :
    Stp st.length w H (st.set i (.lst ys)).length w (upd H (w.m i) (.lst vs)) ∧ Sim K mg w (st.set i (.lst ys)) (upd H (w.m i) (.lst vs)) := by
  rw [List.length_set]
  exact s.wr (o := .lst vs) (c := .lst ys) hl fun {w' H'} g e nI => ⟨vs, e, r.mono g, nI⟩
def gAppend : GM := fun x xs st => match cellL x st, xs with
  | some (i, ys), [d] => if ys.length < 100000 then some (.p .none, st.set i (.lst (ys ++ [d]))) else none
  | _, _ => none
theorem im_append : ImM X rAppend gAppend := fun st w H x xs vx vs Q d st2 sim rx rs h l => by
  unfold gAppend at h
  split at h
  · rename_i i ys d' e
    split at h
    · rename_i hl
      cases h
      obtain ⟨us, rfl, e1, r1, lv, _⟩ := cellL_rd sim rx e
      obtain ⟨v, rfl, rv⟩ := rds1 rs
      obtain ⟨s2, sim2⟩ := cell_wr sim lv (r1.append (.cons rv .nil))
      refine ⟨w.m i, us, v, rfl, rfl, e1, ?_, l _ _ _ s2 sim2 (.p .non)⟩
      rw [← r1.length, sizeLine_eq]; omega
    · cases h
  · cases h
def gPop : GM := fun x xs st => match cellL x st, xs with
  | some (i, ys), [] => match ys[ys.length - 1]? with
    | some d => some (d, st.set i (.lst ys.dropLast))
    | none => none
  | _, _ => none
theorem rds_dropLast {xs : List Dv} {vs : List V} (r : RDs K mg n w H xs vs) : RDs K mg n w H xs.dropLast vs.dropLast := by
  rw [List.dropLast_eq_take, List.dropLast_eq_take, r.length]
  exact r.take _
theorem im_pop : ImM X rPop gPop := fun st w H x xs vx vs Q d st2 sim rx rs h l => by
  unfold gPop at h
  split at h
  · rename_i i ys e
    split at h
    · rename_i d' ed
      cases h
      obtain ⟨us, rfl, e1, r1, lv, _⟩ := cellL_rd sim rx e
      cases rs
      obtain ⟨v, ev, rv⟩ := r1.get ed
      obtain ⟨s2, sim2⟩ := cell_wr sim lv (rds_dropLast r1)
      refine ⟨w.m i, us, v, rfl, rfl, e1, by rw [← r1.length]; exact ev, l _ _ _ s2 sim2 (rv.mono s2)⟩
    · cases h
  · cases h
def gPopAt : GM := fun x xs st => match cellL x st, xs with
  | some (i, ys), [.p (.int k)] => match ixN ys.length k with
    | some j => match ys[j]? with
      | some d => if ys.length ≤ 100000 then some (d, st.set i (.lst (ys.eraseIdx j))) else none
      | none => none
    | none => none
  | _, _ => none
theorem line62 : sizeLine < 2 ^ 62 := by rw [sizeLine_eq]; decide
theorem im_popAt : ImM X rPopAt gPopAt := fun st w H x xs vx vs Q d st2 sim rx rs h l => by
  unfold gPopAt at h
  split at h
  · rename_i i ys k e
    split at h
    · rename_i j ej
      split at h
      · rename_i d' ed
        split at h
        · rename_i hz
          cases h
          obtain ⟨us, rfl, e1, r1, lv, _⟩ := cellL_rd sim rx e
          obtain ⟨vk, rfl, rk⟩ := rds1 rs
          obtain rfl := rd_int rk
          obtain ⟨v, ev, rv⟩ := r1.get ed
          obtain ⟨h1, h2, h3, h4⟩ := ixN_seq ej
          obtain ⟨s2, sim2⟩ := cell_wr sim lv (r1.eraseIdx j)
          have hl := r1.length
          exact ⟨w.m i, us, k, j, v, rfl, rfl, e1, by omega, by omega, by rw [← hl]; exact h1, ev, l _ _ _ s2 sim2 (rv.mono s2)⟩
        · cases h
      · cases h
    · cases h
  · cases h
def rInsert : V → List V → Hp → VK → Prop := fun x vs H Q => ∃ (l : Addr) (xs : List V) (i : Int) (y : V), x = .ref l ∧ vs = [.int i, y] ∧ H l = some (.lst xs) ∧ xs.length < sizeLine ∧ 0 ≤ i ∧ i < 2 ^ 63 ∧
    Q .non (upd H l (.lst (xs.take i.toNat ++ [y] ++ xs.drop i.toNat)))
theorem mt_insertA : MtR X "list.insert" rInsert := mt_insert
def gInsert : GM := fun x xs st => match cellL x st, xs with
  | some (i, ys), [.p (.int k), d] => if ys.length < 100000 ∧ 0 ≤ k ∧ k ≤ 100000 then some (.p .none, st.set i (.lst (ys.take k.toNat ++ [d] ++ ys.drop k.toNat))) else none
  | _, _ => none
theorem im_insert : ImM X rInsert gInsert := fun st w H x xs vx vs Q d st2 sim rx rs h l => by
  unfold gInsert at h
  split at h
  · rename_i i ys k d' e
    split at h
    · rename_i hl
      cases h
      obtain ⟨us, rfl, e1, r1, lv, _⟩ := cellL_rd sim rx e
      obtain ⟨vk, v, rfl, rk, rv⟩ := rds2 rs
      obtain rfl := rd_int rk
      obtain ⟨s2, sim2⟩ := cell_wr sim lv (((r1.take k.toNat).append (.cons rv .nil)).append (r1.drop k.toNat))
      refine ⟨w.m i, us, k, v, rfl, rfl, e1, ?_, hl.2.1, by omega, l _ _ _ s2 sim2 (.p .non)⟩
      rw [← r1.length, sizeLine_eq]; omega
    · cases h
  · cases h

/-! ### xs[k] = v, xs a list cell -/
def tgSet (fo fi : FE) : Dv → Sl → So → Rs Unit := fun d ρ st => (fo ρ st).bind fun x st1 => (fi ρ st1).bind fun y st2 => match cellL x st2, y with
  | some (i, ys), .p (.int k) => match ixN ys.length k with
    | some j => .ok () (st2.set i (.lst (ys.set j d)))
    | none => .stuck
  | _, _ => .stuck
def sSet (fa fo fi : FE) : FS := fun ρ st => (fa ρ st).st ρ fun d st1 => (tgSet fo fi d ρ st1).st ρ fun _ st2 => .nx ρ st2
variable {sa : Stmt} {i : Expr} {fi : FE} {p2 : Pos}
theorem pfs_setIx (he : PF X W e fa) (ho : PF X W o fo) (hi : PF X W i fi) (hs : swapsWithSole [.Subscript o i p2] e pos.line X.env = pure false := by rfl) (hw : swappedStores [.Subscript o i p2] e X.env = pure none := by rfl)
    (h1 : (assignEach [.Subscript o i p2] X.env).map (·.2) = [assign (.Subscript o i p2) X.env] := by rfl)
    (ha : ∀ v, assign (.Subscript o i p2) X.env v = (do
      let ov ← holding [v] (eval o X.env)
      let iv ← holding [v, ov] (eval i X.env)
      standAt p2
      holding [v, ov, iv] (setItem ov iv v)
      release [v, ov, iv] []) := by intro _; rfl) : PFS X W (.Assign [.Subscript o i p2] e pos) (sSet fa fo fi) := PS_imp (ps_asg he (pg_sub ho hi set_list ha) hs hw h1) fun D σ H q => by
  obtain ⟨ρ, st, w, sim, er, gd⟩ := q
  refine ⟨ρ, st, w, sim, er, Good.imp (fun v H1 q => ?_) (good_st er gd)⟩
  obtain ⟨st1, w1, d, sim1, s1, r1, er1, gd1⟩ := q
  unfold tgSet at gd1
  refine ⟨ρ, st1, w1, sim1, er1, ?_⟩
  have gd2 := gd1
  clear gd1 gd
  cases e1 : fo ρ st1 with
  | stuck => rw [e1] at gd2; exact gd2.elim
  | exc c fs st' => rw [e1] at gd2; exact fun w2 H2 cv dd s2 sim2 ex => gd2 w2 H2 σ cv dd s2 sim2 (er1.mono s2) ex
  | ok x st2 =>
    rw [e1] at gd2
    intro w2 H2 vx s2 sim2 rx
    refine ⟨ρ, st2, w2, sim2, er1.mono s2, ?_⟩
    have gd3 : GoodS X.K X.mg W st1.length w1 H1 D (((fi ρ st2).bind fun y st2 => match cellL x st2, y with
      | some (i, ys), .p (.int k) => match ixN ys.length k with
        | some j => Rs.ok () (st2.set i (.lst (ys.set j d)))
        | none => .stuck
      | _, _ => .stuck).st ρ fun _ st2 => .nx ρ st2) := gd2
    cases e2 : fi ρ st2 with
    | stuck => rw [e2] at gd3; exact gd3.elim
    | exc c fs st' => rw [e2] at gd3; exact fun w3 H3 cv dd s3 sim3 ex => gd3 w3 H3 σ cv dd (s2.trans s3) sim3 ((er1.mono s2).mono s3) ex
    | ok y st3 =>
      rw [e2] at gd3
      intro w3 H3 vy s3 sim3 ry
      have gd4 : GoodS X.K X.mg W st1.length w1 H1 D (Rs.st (match cellL x st3, y with
      | some (i, ys), .p (.int k) => match ixN ys.length k with
        | some j => Rs.ok () (st3.set i (.lst (ys.set j d)))
        | none => .stuck
      | _, _ => .stuck) ρ fun _ st2 => .nx ρ st2) := gd3
      split at gd4
      · rename_i j ys k ec
        split at gd4
        · rename_i j' ej
          obtain ⟨us, rfl, e5, r5, lv, _⟩ := cellL_rd sim3 (rx.mono s3) ec
          obtain rfl := rd_int ry
          obtain ⟨s4, sim4⟩ := cell_wr sim3 lv (r5.set (((r1.mono s2).mono s3)) j')
          refine ⟨_, us, k, j', rfl, rfl, e5, by rw [← r5.length]; exact ej, ?_⟩
          exact gd4 _ _ σ ((s2.trans s3).trans s4) sim4 (((er1.mono s2).mono s3).mono s4)
        · exact gd4.elim
      · exact gd4.elim

/-! ### name op= e -/
def sAug (i : Nat) (g : G2) (fe : FE) : FS := fun ρ st => match ρ[i]? with
  | some (some d) => (fe ρ st).st ρ fun y st1 => match g d y st1 with
    | some z => .nx (ρ.set i (some z)) st1
    | none => .stuck
  | _ => .stuck
theorem pfs_aug {j : Nat} {x : Str} {op : Operator} {rr : R2} {g2 : G2} (hN : X.N.Nodup) (hop : OpR X (inplaceOp op) rr) (him : Im2 X rr g2) (he : PF X W e fa) (hj : X.N[j]? = some x := by rfl) (hx : Loc X.env.scope x := by first | exact .inl rfl | exact .inr rfl)
    (hf : X.fn x = true ∨ X.env.scope.names.lookup x = some .local := by first | exact .inl rfl | exact .inr rfl) : PFS X W (.AugAssign (.Name x p2) op e pos) (sAug j g2 fa) := PS_imp (ps_aug hN hj hx he (ti := rr) hop hf) fun D σ H q => by
  obtain ⟨ρ, st, w, sim, er, gd⟩ := q
  unfold sAug at gd
  split at gd
  · rename_i d hd
    obtain ⟨v, ev, rv⟩ := er.2 j d hd
    refine ⟨v, ev, ρ, st, w, sim, er, Good.imp (fun y H1 q => ?_) (good_st er gd)⟩
    obtain ⟨st1, w1, d1, sim1, s1, r1, er1, gd1⟩ := q
    split at gd1
    · rename_i z hz
      exact him st1 w1 H1 d d1 v y _ z sim1 (rv.mono s1) r1 hz fun w' H' v' s' sim' r' => gd1 w' H' _ s' sim' ((er1.mono s').set r' j)
    · exact gd1.elim
  · exact gd.elim
theorem op_iaddI : OpR X (inplaceOp .Add) (rI0 fun i j => .int (i + j)) := iop_add
abbrev gAddI : G2 := gI0 fun i j => .int (i + j)
theorem im_addI : Im2 X (rI0 fun i j => .int (i + j)) gAddI := im_I0 fun _ _ _ _ => .int _
/-- found *= i, small factors -/
abbrev gMulI : G2 := gI (fun _ j => decide (j.natAbs < 2 ^ 64)) fun i j => .int (i * j)
theorem im_mulI : Im2 X (rI CMul fun i j => .int (i * j)) gMulI := im_I (fun i j h => by
  have := of_decide_eq_true h
  exact .inr (by omega)) fun _ _ _ _ => .int _
/-- xs += ys on a list cell: the tracked list grows -/
def sExt (i : Nat) (fe : FE) : FS := fun ρ st => match ρ[i]? with
  | some (some d) => (fe ρ st).st ρ fun y st1 => match cellL d st1, lstOf y st1 with
    | some (j, xs), some ys => if xs.length + ys.length ≤ 100000 then .nx ρ (st1.set j (.lst (xs ++ ys))) else .stuck
    | _, _ => .stuck
  | _ => .stuck
theorem pfs_ext {j : Nat} {x : Str} (hN : X.N.Nodup) (he : PF X W e fa) (hj : X.N[j]? = some x := by rfl) (hx : Loc X.env.scope x := by first | exact .inl rfl | exact .inr rfl)
    (hf : X.fn x = true ∨ X.env.scope.names.lookup x = some .local := by first | exact .inl rfl | exact .inr rfl) : PFS X W (.AugAssign (.Name x p2) .Add e pos) (sExt j fa) := PS_imp (ps_aug hN hj hx he (ti := rExt2) iop_ext hf) fun D σ H q => by
  obtain ⟨ρ, st, w, sim, er, gd⟩ := q
  unfold sExt at gd
  split at gd
  · rename_i d hd
    obtain ⟨v, ev, rv⟩ := er.2 j d hd
    refine ⟨v, ev, ρ, st, w, sim, er, Good.imp (fun y H1 q => ?_) (good_st er gd)⟩
    obtain ⟨st1, w1, d1, sim1, s1, r1, er1, gd1⟩ := q
    split at gd1
    · rename_i k xs ys ec el
      split at gd1
      · rename_i hl
        obtain ⟨us, rfl, e1, r2, lv, _⟩ := cellL_rd sim1 (rv.mono s1) ec
        obtain ⟨b, vs, rfl, r3, e3⟩ := lst_rd sim1 r1 el
        obtain ⟨s4, sim4⟩ := cell_wr sim1 lv (r2.append r3)
        refine ⟨w1.m k, b, us, vs, rfl, rfl, e1, e3, by rw [← r2.length, ← r3.length]; exact le_line hl, ?_⟩
        have hσ : σ.set j (some (V.ref (w1.m k))) = σ := by
          obtain ⟨h1, h2⟩ := List.getElem?_eq_some_iff.mp ev
          rw [← h2]
          exact List.set_getElem_self h1
        show D.nx (σ.set j (some (V.ref (w1.m k)))) _
        rw [hσ]
        exact gd1 _ _ σ s4 sim4 (er1.mono s4)
      · exact gd1.elim
    · exact gd1.elim
  · exact gd.elim

/-! ### dicts with ints and texts as keys: cells -/
def keyD : Dv → Option Key
  | .p (.int i) => some (.inl i)
  | .p (.str x) => some (.inr x)
  | _ => none
def dictOf (d : Dv) (st : So) : Option (Nat × List (Key × Dv)) := match d with
  | .ref i => match st[i]? with
    | some (.dK kvs) => some (i, kvs)
    | _ => none
  | _ => none
def atK (kvs : List (Key × Dv)) (k : Key) : Option Dv := (kvs.find? fun kv => decide (kv.1 = k)).map (·.2)
def putD (kvs : List (Key × Dv)) (k : Key) (v : Dv) : List (Key × Dv) :=
  if (kvs.any fun kv => decide (kv.1 = k)) = true then kvs.map (fun kv => if kv.1 = k then (kv.1, v) else kv) else kvs ++ [(k, v)]
abbrev PKV (K : PySem.W.Frag) (mg : Str → Option Value) (n : Nat) (w : Wd) (H : Hp) : List (Key × Dv) → List (Key × V) → Prop := Paired fun p q => p.1 = q.1 ∧ RD K mg n w H p.2 q.2
theorem keyD_rd {d : Dv} {v : V} {k : Key} (r : RD K mg n w H d v) (h : keyD d = some k) : v = kV k := by
  unfold keyD at h
  split at h
  · cases h; exact rd_int r
  · cases h; exact rd_str r
  · cases h
theorem dict_rd {st : So} {d : Dv} {v : V} {i : Nat} {kvs : List (Key × Dv)} (s : Sim K mg w st H) (rd : RD K mg st.length w H d v) (h : dictOf d st = some (i, kvs)) :
    ∃ kws, v = .ref (w.m i) ∧ H (w.m i) = some (.dK kws) ∧ PKV K mg st.length w H kvs kws ∧ live st i ∧ st[i]? = some (.dK kvs) := by
  unfold dictOf at h
  split at h
  · rename_i j
    split at h
    · rename_i ys e
      cases h
      cases rd
      obtain ⟨vs, e1, r1, _⟩ := s.cell _ _ e
      exact ⟨vs, rfl, e1, r1, ⟨_, e, by simp⟩, e⟩
    · cases h
  · cases h
theorem pkv_at {k : Key} : ∀ {kvs : List (Key × Dv)} {kws : List (Key × V)}, PKV K mg n w H kvs kws → (atK kvs k = none ∧ valV kws k = none) ∨ ∃ d v, atK kvs k = some d ∧ valV kws k = some v ∧ RD K mg n w H d v
  | _, _, .nil => .inl ⟨rfl, rfl⟩
  | p :: kvs, q :: kws, .cons h t => by
    obtain ⟨h1, h2⟩ := h
    by_cases hk : p.1 = k
    · have hq : q.1 = k := h1 ▸ hk
      refine .inr ⟨p.2, q.2, ?_, valV_pos hq, h2⟩
      unfold atK
      rw [List.find?_cons, decide_eq_true hk]; rfl
    · have hq : ¬ q.1 = k := fun z => hk (h1.trans z)
      have e1 : atK (p :: kvs) k = atK kvs k := by
        unfold atK
        rw [List.find?_cons, decide_eq_false hk]
      rw [e1, valV_neg hq]
      exact pkv_at t
theorem pkv_any {k : Key} : ∀ {kvs : List (Key × Dv)} {kws : List (Key × V)}, PKV K mg n w H kvs kws → (kvs.any fun kv => decide (kv.1 = k)) = (kws.any fun kv => decide (kv.1 = k))
  | _, _, .nil => rfl
  | _, _, .cons h t => by rw [List.any_cons, List.any_cons, pkv_any t, h.1]
theorem pkv_map {k : Key} {d : Dv} {v : V} (r : RD K mg n w H d v) : ∀ {kvs : List (Key × Dv)} {kws : List (Key × V)}, PKV K mg n w H kvs kws →
    PKV K mg n w H (kvs.map fun kv => if kv.1 = k then (kv.1, d) else kv) (kws.map fun kv => if kv.1 = k then (kv.1, v) else kv)
  | _, _, .nil => .nil
  | p :: kvs, q :: kws, .cons h t => by
    rw [List.map_cons, List.map_cons]
    refine .cons ?_ (pkv_map r t)
    by_cases hk : p.1 = k
    · rw [if_pos hk, if_pos (h.1 ▸ hk)]
      exact ⟨h.1, r⟩
    · rw [if_neg hk, if_neg (fun z => hk (h.1.trans z))]
      exact h
theorem pkv_app : ∀ {kvs kvs' : List (Key × Dv)} {kws kws' : List (Key × V)}, PKV K mg n w H kvs kws → PKV K mg n w H kvs' kws' → PKV K mg n w H (kvs ++ kvs') (kws ++ kws')
  | _, _, _, _, .nil, h => h
  | _, _, _, _, .cons h t, h' => .cons h (pkv_app t h')
theorem pkv_put {k : Key} {d : Dv} {v : V} {kvs : List (Key × Dv)} {kws : List (Key × V)} (h : PKV K mg n w H kvs kws) (r : RD K mg n w H d v) : PKV K mg n w H (putD kvs k d) (putK kws k v) := by
  unfold putD putK
  rw [pkv_any h]
  split
  · exact pkv_map r h
  · exact pkv_app h (.cons ⟨rfl, r⟩ .nil)
theorem pkv_len : ∀ {kvs : List (Key × Dv)} {kws : List (Key × V)}, PKV K mg n w H kvs kws → kvs.length = kws.length
  | _, _, .nil => rfl
  | _, _, .cons _ t => by rw [List.length_cons, List.length_cons, pkv_len t]
theorem pkv_mono {n' : Nat} {w' : Wd} {H' : Hp} {kvs : List (Key × Dv)} {kws : List (Key × V)} (g : Stp n w H n' w' H') (h : PKV K mg n w H kvs kws) : PKV K mg n' w' H' kvs kws := Paired.imp (fun _ _ z => ⟨z.1, z.2.mono g⟩) h
theorem dcell_wr {st : So} {i : Nat} {kvs : List (Key × Dv)} {kws : List (Key × V)} (s : Sim K mg w st H) (hl : live st i) (r : PKV K mg st.length w H kvs kws) :
    Stp st.length w H (st.set i (.dK kvs)).length w (upd H (w.m i) (.dK kws)) ∧ Sim K mg w (st.set i (.dK kvs)) (upd H (w.m i) (.dK kws)) := by
  rw [List.length_set]
  exact s.wr (o := .dK kws) (c := .dK kvs) hl fun {w' H'} g e nI => ⟨kws, e, pkv_mono g r, nI⟩
/-- d[k] -/
def rDix : R2 := fun x y H Q => ∃ a v, x = .ref a ∧ DGet H a y (some v) ∧ Q v H
theorem ix_dict (hu : X.A.units + 1 < cLine) : IxR X rDix := by
  intro value slice pins s σ H x y v u Q I rx ry h hs
  obtain ⟨a, z, rfl, g, q⟩ := h
  cases rx
  exact tail_any (dict_typeIs I g) PySem.F.slot_dict_getitem.lookup (d_getItem hu I g ry fun w' s3 I3 rw' => ⟨z, H, I3, rw', q⟩) hs
def gIxA : G2 := fun x y st => match dictOf x st with
  | some (_, kvs) => match keyD y with
    | some k => atK kvs k
    | none => none
  | none => gIx x y st
def rIxA (K : PySem.W.Frag) : R2 := fun x y H Q => rIx K x y H Q ∨ rDix x y H Q
theorem ix_any (hu : X.A.units + 1 < cLine) : IxR X (rIxA X.K) := IxR.or ix_seq (ix_dict hu)
theorem im_ixA : Im2 X (rIxA X.K) gIxA := fun st w H x y vx vy Q d sim rx ry h l => by
  unfold gIxA at h
  split at h
  · rename_i i kvs e
    split at h
    · rename_i k ek
      obtain ⟨kws, rfl, e1, r1, lv, _⟩ := dict_rd sim rx e
      obtain rfl := keyD_rd ry ek
      rcases pkv_at (k := k) r1 with ⟨h1, _⟩ | ⟨d', v, h1, h2, h3⟩
      · rw [h] at h1; cases h1
      · rw [h] at h1
        cases h1
        exact .inr ⟨_, v, rfl, by rw [← h2]; exact DGet.k e1, l w H _ .refl sim h3⟩
    · cases h
  · exact .inl (im_ix st w H x y vx vy Q d sim rx ry h l)
/-- d.get(k, x) -/
def fGet2 (fo fk fd : FE) : FE := fun ρ st => (fo ρ st).bind fun x st1 => match dictOf x st1 with
  | some _ => (fk ρ st1).bind fun y st2 => (fd ρ st2).bind fun z st3 => match dictOf x st3, keyD y with
    | some (_, kvs), some k => .ok ((atK kvs k).getD z) st3
    | _, _ => .stuck
  | none => .stuck
variable {k f : Expr} {fk fd : FE}
theorem pf_get2 (hu : X.A.units + 1 < cLine) (ho : PF X W o fo) (hk : PF X W k fk) (hf : PF X W f fd) (m : M2 X o "get" apos k f cpos := by exact ⟨by rfl, by rfl, by rfl, by rfl⟩) : PF X W (.Call (.Attribute o "get" apos) [k, f] [] cpos) (fGet2 fo fk fd) := PE_imp (pe_dget2 hu ho hk hf m) fun σ H Q h => by
  obtain ⟨ρ, st, w, sim, er, gd⟩ := h
  refine ⟨ρ, st, w, sim, er, Good.imp (fun x H1 q => ?_) (Good.bind gd)⟩
  obtain ⟨st1, w1, d1, sim1, s1, r1, gd1⟩ := q
  split at gd1
  · rename_i pr ex
    obtain ⟨kws, rfl, e1, _, _, _⟩ := dict_rd (i := pr.1) (kvs := pr.2) sim1 r1 ex
    refine ⟨_, rfl, .inl ⟨kws, .inl e1⟩, ρ, st1, w1, sim1, er.mono s1, Good.imp (fun y H2 q => ?_) (Good.bind gd1)⟩
    obtain ⟨st2, w2, d2, sim2, s2, r2, gd2⟩ := q
    refine ⟨ρ, st2, w2, sim2, (er.mono s1).mono s2, Good.imp (fun z H3 q => ?_) (Good.bind gd2)⟩
    obtain ⟨st3, w3, d3, sim3, s3, r3, gd3⟩ := q
    split at gd3
    · rename_i i kvs kk e3 ek
      obtain ⟨kws', e4, e5, r5, _, _⟩ := dict_rd sim3 ((r1.mono s2).mono s3) e3
      obtain rfl := keyD_rd (r2.mono s3) ek
      have ea : w1.m pr.1 = w3.m i := V.ref.inj e4
      rw [ea]
      refine ⟨_, DGet.k e5, ?_⟩
      rcases pkv_at (k := kk) r5 with ⟨h1, h2⟩ | ⟨d', v, h1, h2, h3⟩
      · rw [h1] at gd3
        rw [h2]
        exact gd3 w3 H3 _ .refl sim3 r3
      · rw [h1] at gd3
        rw [h2]
        exact gd3 w3 H3 _ .refl sim3 h3
    · exact gd3.elim
  · exact gd1.elim
end
end FB
set_option Elab.async false
set_option linter.all false
set_option maxRecDepth 100000
set_option maxHeartbeats 4000000
/-! FB7: comprehensions that make dicts. -/
namespace FB
open PySem PySem.Spec PyProof.Rows L2 RZ

def dcL (n : Nat) (tg : Tg) (tt : FT) (fk fv : FE) (ρ : Sl) : List Dv → So → Rs Dv
  | [], st => .ok (.ref n) st
  | d :: ds, st => match tgF tg d ρ with
    | none => .stuck
    | some ρ' => (tt ρ' st).bindN fun b st1 => if b then (fk ρ' st1).bindN fun y st2 => (fv ρ' st2).bindN fun z st3 => match keyD y, dictOf (.ref n) st3 with
        | some k, some (_, kvs) => if kvs.length ≤ 100000 then dcL n tg tt fk fv ρ ds (st3.set n (.dK (putD kvs k z))) else .stuck
        | _, _ => .stuck
      else dcL n tg tt fk fv ρ ds st1
/-- {k: v for tg in iter if ..}: a new cell -/
def fDc (fi : FA) (tg : Tg) (tt : FT) (fk fv : FE) : FE := fun ρ st => (fi ρ st).bind fun items st1 => dcL st1.length tg tt fk fv (rhoW ρ (tgS tg)) items (st1 ++ [.dK []])
section
variable {X : Cx} {K : PySem.W.Frag} {mg : Str → Option Value} {W : WX} {pos : Pos}
theorem dcmp_ok {Wc : WX} {σ : L2.St} {n0 : Nat} {st1 : So} {w1 : Wd} {H1 : Hp} {J : It} {items : List Dv} {tg : Tg} {tt : FT} {fk fv : FE} {ρ : Sl} {D : Addr} {Q : VK}
    (it : ItOk K mg st1.length w1 H1 items J) (er : EnvR K mg st1.length w1 H1 ρ (wipe σ (tgS tg))) (sim1 : Sim K mg w1 st1 H1) (hn0 : n0 < st1.length) (hD : w1.m n0 = D)
    (gd : Good (RD K mg) K mg Wc σ st1.length w1 H1 Q (dcL n0 tg tt fk fv ρ items st1)) :
    ∃ Wn : Nat → Nat → Hp → Prop, (∃ m, Wn 0 m H1) ∧ ∀ i m H, Wn i m H →
      (J.stop i H ∧ Q (.ref D) H) ∨ (J.go i H ∧ ∃ Nx : Hp → Prop, (∀ H', Nx H' → ∃ m', m' < m ∧ Wn (i + 1) m' H') ∧ ∀ x H', J.yld i H x H' → tgG K tg x (wipe σ (tgS tg)) H' fun σ2 H2 => wipe σ2 (tgS tg) = wipe σ (tgS tg) ∧ TFT K mg W0 tt σ2 H2 fun b H3 =>
        if b = true then TF K mg W0 fk σ2 H3 fun y H4 => TF K mg W0 fv σ2 H4 fun z H5 => ∃ kvs k, y = kV k ∧ H5 D = some (.dK kvs) ∧ kvs.length < sizeLine ∧ Nx (upd H5 D (.dK (putK kvs k z))) else Nx H3) := by
  refine ⟨fun i m H => m = items.length - i ∧ i ≤ items.length ∧ ∃ st w, Sim K mg w st H ∧ Stp st1.length w1 H1 st.length w H ∧
    Good (RD K mg) K mg Wc σ st.length w H Q (dcL n0 tg tt fk fv ρ (items.drop i) st),
    ⟨items.length, rfl, Nat.zero_le _, st1, w1, sim1, .refl, gd⟩, ?_⟩
  rintro i m H ⟨rfl, hi, st, w, sim, s0, gd0⟩
  by_cases hlt : i < items.length
  · have e0 : items[i]? = some items[i] := List.getElem?_eq_getElem hlt
    obtain ⟨go, yl⟩ := it.go i _ w _ st e0 s0 sim
    refine .inr ⟨go, fun H' => ∃ st' w', Sim K mg w' st' H' ∧ Stp st1.length w1 H1 st'.length w' H' ∧ Good (RD K mg) K mg Wc σ st'.length w' H' Q (dcL n0 tg tt fk fv ρ (items.drop (i + 1)) st'), ?_, ?_⟩
    · rintro H' ⟨st', w', q⟩
      exact ⟨items.length - (i + 1), by omega, rfl, hlt, st', w', q⟩
    · intro x H3 hy
      obtain ⟨w3, s3, sim3, r3⟩ := yl x H3 hy
      rw [List.drop_eq_getElem_cons hlt] at gd0
      unfold dcL at gd0
      split at gd0
      · exact gd0.elim
      · rename_i ρ' hρ
        refine tg_ok (vs := tgS tg) tg _ x ρ ρ' _ (wipe σ (tgS tg)) _ r3 (er.mono (s0.trans s3)) hρ (fun _ h => h) rfl fun σ4 er4 hw4 => ⟨hw4.trans (wipe_idem fun _ h => h), ρ', st, w3, sim3, er4, ?_⟩
        cases et : tt ρ' st with
        | stuck => rw [et] at gd0; exact gd0.elim
        | exc c fs st' => rw [et] at gd0; exact gd0.elim
        | ok b st4 =>
          rw [et] at gd0
          intro w4 H4 b' s4 sim4 eb
          obtain rfl : b = b' := eb
          cases b with
          | false =>
            have gd0 : Good (RD K mg) K mg Wc σ st.length w H Q (dcL n0 tg tt fk fv ρ (items.drop (i + 1)) st4) := gd0
            rw [if_neg Bool.false_ne_true]
            exact ⟨st4, w4, sim4, (s0.trans s3).trans s4, gd0.later (s3.trans s4)⟩
          | true =>
            have gd0 : Good (RD K mg) K mg Wc σ st.length w H Q ((fk ρ' st4).bindN fun y st2 => (fv ρ' st2).bindN fun z st3 => match keyD y, dictOf (.ref n0) st3 with
              | some k, some (_, kvs) => if kvs.length ≤ 100000 then dcL n0 tg tt fk fv ρ (items.drop (i + 1)) (st3.set n0 (.dK (putD kvs k z))) else .stuck
              | _, _ => .stuck) := gd0
            rw [if_pos rfl]
            refine ⟨ρ', st4, w4, sim4, er4.mono s4, ?_⟩
            cases ef : fk ρ' st4 with
            | stuck => rw [ef] at gd0; exact gd0.elim
            | exc c fs st' => rw [ef] at gd0; exact gd0.elim
            | ok y st5 =>
              rw [ef] at gd0
              intro w5 H5 vy s5 sim5 r5
              refine ⟨ρ', st5, w5, sim5, (er4.mono s4).mono s5, ?_⟩
              have gd0 : Good (RD K mg) K mg Wc σ st.length w H Q ((fv ρ' st5).bindN fun z st3 => match keyD y, dictOf (.ref n0) st3 with
                | some k, some (_, kvs) => if kvs.length ≤ 100000 then dcL n0 tg tt fk fv ρ (items.drop (i + 1)) (st3.set n0 (.dK (putD kvs k z))) else .stuck
                | _, _ => .stuck) := gd0
              cases eg : fv ρ' st5 with
              | stuck => rw [eg] at gd0; exact gd0.elim
              | exc c fs st' => rw [eg] at gd0; exact gd0.elim
              | ok z st6 =>
                rw [eg] at gd0
                intro w6 H6 vz s6 sim6 r6
                have gd0 : Good (RD K mg) K mg Wc σ st.length w H Q (match keyD y, dictOf (.ref n0) st6 with
                  | some k, some (_, kvs) => if kvs.length ≤ 100000 then dcL n0 tg tt fk fv ρ (items.drop (i + 1)) (st6.set n0 (.dK (putD kvs k z))) else .stuck
                  | _, _ => .stuck) := gd0
                have sAll : Stp st1.length w1 H1 st6.length w6 H6 := (((s0.trans s3).trans s4).trans s5).trans s6
                have rD : RD K mg st6.length w6 H6 (.ref n0) (.ref D) := by
                  rw [← hD, ← sAll.ext n0 hn0]
                  exact .ref (Nat.lt_of_lt_of_le hn0 sAll.le)
                split at gd0
                · rename_i k j kvs ek ed
                  split at gd0
                  · rename_i hl
                    obtain ⟨kws, e1, e2, r2, lv, e3⟩ := dict_rd sim6 rD ed
                    obtain rfl := keyD_rd (r5.mono s6) ek
                    have ej : j = n0 := by
                      unfold dictOf at ed
                      dsimp only at ed
                      split at ed
                      · cases ed; rfl
                      · cases ed
                    subst ej
                    have eD : D = w6.m j := V.ref.inj e1
                    obtain ⟨s7, sim7⟩ := dcell_wr sim6 lv (pkv_put (k := k) r2 r6)
                    rw [eD]
                    refine ⟨kws, k, rfl, e2, ?_, _, w6, sim7, sAll.trans s7, gd0.later ((((s3.trans s4).trans s5).trans s6).trans s7)⟩
                    rw [← pkv_len r2, sizeLine_eq]; omega
                  · exact gd0.elim
                · exact gd0.elim
  · have e : i = items.length := by omega
    subst e
    rw [List.drop_length] at gd0
    refine .inl ⟨it.stop _ _ _ s0, ?_⟩
    refine gd0 w H _ .refl sim ?_
    rw [← hD, ← s0.ext n0 hn0]
    exact .ref (Nat.lt_of_lt_of_le hn0 s0.le)
theorem tf_dc {fi : FA} {tg : Tg} {tt : FT} {fk fv : FE} {σ : L2.St} {H : Hp} {Q : VK} (h : TF K mg W (fDc fi tg tt fk fv) σ H Q) : tDc (TFI K mg W fi) (tgG K tg) (TFT K mg W0 tt) (TF K mg W0 fk) (TF K mg W0 fv) (tgS tg) σ H Q := by
  obtain ⟨ρ, st, w, sim, er, gd⟩ := h
  refine ⟨ρ, st, w, sim, er, Good.imp (fun J H1 q => ?_) (Good.bind gd)⟩
  obtain ⟨st1, w1, items, sim1, s1, it, gd1⟩ := q
  intro D hD
  obtain ⟨s2, sim2⟩ := sim1.newC (o := .dK []) (c := .dK []) hD fun {n' w' H'} g e nI => ⟨[], e, .nil, nI⟩
  have hlen : (st1 ++ [Cl.dK []]).length = st1.length + 1 := by rw [List.length_append, List.length_singleton]
  rw [← hlen] at s2
  refine dcmp_ok (n0 := st1.length) (it.later s2) ((envW (er.mono s1) _).mono s2) sim2 (by rw [hlen]; exact Nat.lt_succ_self _) ?_ (gd1.later s2)
  show (if st1.length = st1.length then D else _) = D
  rw [if_pos rfl]
theorem pf_dc {kx vx te iter : Expr} {ifs : List Expr} {scope : Scope} {own : List (Str × Nat)} {fi : FA} {tg : Tg} {tt : FT} {fk fv : FE} (hc : X.calm = true) (hN : X.N.Nodup) (hi : PFI X W te iter fi) (ok : BlkOk X.N X.env.scope scope own) (ho : own.map (·.2) = tgS tg)
    (hg : ∀ (s : Shared) (H : Hp) (C : Addr) (cl : List (Str × Addr)) (fp : List Addr), PG (X.blk s H scope (compEnvC scope cl C X.env) fp) te (tgG X.K tg)) (ht : ∀ (s : Shared) (H : Hp) (C : Addr) (cl : List (Str × Addr)) (fp : List Addr), PTs (X.blk s H scope (compEnvC scope cl C X.env) fp) ifs (TFT X.K X.mg W0 tt))
    (hk : ∀ (s : Shared) (H : Hp) (C : Addr) (cl : List (Str × Addr)) (fp : List Addr), PF (X.blk s H scope (compEnvC scope cl C X.env) fp) W0 kx fk)
    (he : ∀ (s : Shared) (H : Hp) (C : Addr) (cl : List (Str × Addr)) (fp : List Addr), PF (X.blk s H scope (compEnvC scope cl C X.env) fp) W0 vx fv) (hs : ∀ x, foldedSetIterable iter X.env x = pure x := by intro _; rfl) :
    PF X W (.DictComp kx vx [⟨te, iter, ifs, 0⟩] scope pos) (fDc fi tg tt fk fv) := PE_imp (pe_dc (tk := TF X.K X.mg W0 fk) (tv := TF X.K X.mg W0 fv) hc hN hi ok hg ht hk he hs) fun σ H Q h => by
  rw [ho]
  exact tf_dc h

theorem sw_trueD {kx vx : Expr} {gs : List Comprehension} {scope : Scope} {pos py : Pos} {y : Str} {l : Nat} {env : Env} (hk : env.scope.kind = .function) (hy : env.scope.names.lookup y = some .local) (hl : (py.line == pos.line) = true)
    (ha : (scope.names.any fun (n, k) => n == y && (k == .local || k == .cell)) = false) : swapsWith (.DictComp kx vx gs scope pos) (some (.Name y py)) l env = pure true := by
  have ky : env.kindOf y = some .local := hy
  have hb : env.blockKind = .function := by unfold Env.blockKind; rw [hk]; rfl
  unfold swapsWith
  simp only [hb, ky, ha, Expr.pos, hl]
  rfl
theorem ps_setDc {i : Nat} {y : Str} {py : Pos} {kx vx tg iter : Expr} {ifs : List Expr} {scope : Scope} {own : List (Str × Nat)} {pos spos : Pos} {wi : TI} {g : TG} {tt : TT} {tk tv : TE} (hc : X.calm = true) (hN : X.N.Nodup) (hy : X.N[i]? = some y) (hyl : X.env.scope.names.lookup y = some .local)
    (hsw : swapsWith (.DictComp kx vx [⟨tg, iter, ifs, 0⟩] scope pos) (some (.Name y py)) spos.line X.env = pure true) (hi : PI X tg iter wi) (ok : BlkOk X.N X.env.scope scope own)
    (hg : ∀ (s : Shared) (H : Hp) (C : Addr) (cl : List (Str × Addr)) (fp : List Addr), PG (X.blk s H scope (compEnvC scope cl C X.env) fp) tg g) (ht : ∀ (s : Shared) (H : Hp) (C : Addr) (cl : List (Str × Addr)) (fp : List Addr), PTs (X.blk s H scope (compEnvC scope cl C X.env) fp) ifs tt)
    (hk : ∀ (s : Shared) (H : Hp) (C : Addr) (cl : List (Str × Addr)) (fp : List Addr), PE (X.blk s H scope (compEnvC scope cl C X.env) fp) kx tk)
    (he : ∀ (s : Shared) (H : Hp) (C : Addr) (cl : List (Str × Addr)) (fp : List Addr), PE (X.blk s H scope (compEnvC scope cl C X.env) fp) vx tv) (hs : ∀ x, foldedSetIterable iter X.env x = pure x := by intro _; rfl) :
    PS X (.Assign [.Name y py] (.DictComp kx vx [⟨tg, iter, ifs, 0⟩] scope pos) spos) (tAsg (tDc wi g tt tk tv (own.map (·.2))) (gName i)) := by
  refine ⟨fun pins s σ H D I h => ?_⟩
  rw [exec_Assign_Name_used _ _ _ _ hsw]
  refine wpAny_bind (wpAny_standAt (wpAny_bind ?_))
  show wpAny _ X.A (do let _ ← comprehension (.DictComp kx vx [⟨tg, iter, ifs, 0⟩] scope pos) scope X.env (firstIterPos [⟨tg, iter, ifs, 0⟩] pos) newDict false (eval iter X.env) (some (assign (.Name y py) X.env))) _ _ s
  have h : tDc wi g tt tk tv (own.map (·.2)) σ H (fun x H1 => gName i x σ H1 D.nx) := h
  refine wpAny_bind (thn (dc_core (Qf := fun _ s' => SP X pins D .next s') hc hN I hi ok hg ht hk he hs h fun L C s' m H' I' q hn f => ?_) fun _ s' hq => wpAny_pure (wpAny_pure hq))
  show wpAny _ _ (assign (.Name y py) X.env (.ref L)) _ _ _
  refine wpAny_assign_Name (store_ok2 (v := V.ref L) I' hN hy (.inl hyl) rfl (fun s2 I2 ⟨a, sb, ha⟩ => ?_) (.inr hyl))
  obtain ⟨f0, f1, f2, f3, f4, f5⟩ := f
  have haC : C ≠ a := by
    rcases ha with z | z
    · rw [z]; exact f1
    · exact fun e => f4 y a z e.symm
  refine ⟨m, hn.sameBut sb haC, fun h3 sb3 => ?_⟩
  exact ⟨_, H', I2.turned (t' := s2.toks) (fun b o hb e => (sb3.2 b hb).trans e) f0 f1 f3 f4 f5, q⟩
theorem pfs_setDc {i : Nat} {y : Str} {py spos : Pos} {kx vx te iter : Expr} {ifs : List Expr} {scope : Scope} {own : List (Str × Nat)} {fi : FA} {tg : Tg} {tt : FT} {fk fv : FE} (hc : X.calm = true) (hN : X.N.Nodup) (hi : PFI X W te iter fi) (ok : BlkOk X.N X.env.scope scope own) (ho : own.map (·.2) = tgS tg)
    (hg : ∀ (s : Shared) (H : Hp) (C : Addr) (cl : List (Str × Addr)) (fp : List Addr), PG (X.blk s H scope (compEnvC scope cl C X.env) fp) te (tgG X.K tg)) (ht : ∀ (s : Shared) (H : Hp) (C : Addr) (cl : List (Str × Addr)) (fp : List Addr), PTs (X.blk s H scope (compEnvC scope cl C X.env) fp) ifs (TFT X.K X.mg W0 tt))
    (hk : ∀ (s : Shared) (H : Hp) (C : Addr) (cl : List (Str × Addr)) (fp : List Addr), PF (X.blk s H scope (compEnvC scope cl C X.env) fp) W0 kx fk)
    (he : ∀ (s : Shared) (H : Hp) (C : Addr) (cl : List (Str × Addr)) (fp : List Addr), PF (X.blk s H scope (compEnvC scope cl C X.env) fp) W0 vx fv)
    (hsw : swapsWith (.DictComp kx vx [⟨te, iter, ifs, 0⟩] scope pos) (some (.Name y py)) spos.line X.env = pure true)
    (hy : X.N[i]? = some y := by rfl) (hyl : X.env.scope.names.lookup y = some .local := by rfl) (hs : ∀ x, foldedSetIterable iter X.env x = pure x := by intro _; rfl) :
    PFS X W (.Assign [.Name y py] (.DictComp kx vx [⟨te, iter, ifs, 0⟩] scope pos) spos) (sAsg (fDc fi tg tt fk fv) (.nm i)) := PS_imp (ps_setDc (tk := TF X.K X.mg W0 fk) (tv := TF X.K X.mg W0 fv) hc hN hy hyl hsw hi ok hg ht hk he hs) fun D σ H h => by
  have h2 := tfs_asg h
  rw [ho]
  exact tf_dc h2
end
end FB
set_option Elab.async false
set_option linter.all false
set_option maxRecDepth 100000
set_option maxHeartbeats 4000000
/-! FBE: enumerate(a tuple). -/
namespace FB
open PySem PySem.Spec PyProof.Rows L2 RZ
set_option maxHeartbeats 4000000 in
theorem meets_enum_newT (t : Addr) (items : Array Value) :
    Meets (Builtin.«enumerate.__new__» ⟨[.type "enumerate", .ref t], []⟩) (fun _ R s => s.heap.IsTuple t items ∧
      R (.ok (.ret (.ref (s.heap.push { cls := .type "tuple_iterator", data := .fields #[.ref t, .int 0 0] }).objs.size))) { s with heap := (s.heap.push { cls := .type "tuple_iterator", data := .fields #[.ref t, .int 0 0] }).push { cls := .type "enumerate", data := .fields #[.none, .bool false, .ref s.heap.objs.size, rawInt 0, .none, .none] } }) :=
  .of_wp fun prog w A R s h => by
    obtain ⟨hp, g, d, tk, os⟩ := s; obtain ⟨h1, h⟩ := h
    have hsub := sub_enumerate
    have q1 : ∀ {A' : Around} {E : Value → Shared → Prop} {Q : Value → Shared → Prop}, Q (.ref hp.objs.size) ⟨hp.push { cls := .type "tuple_iterator", data := .fields #[.ref t, .int 0 0] }, g, d, tk, os⟩ → wpAny (model prog w) A' (pyIter (.ref t)) Q E ⟨hp, g, d, tk, os⟩ :=
      fun q => wpAny_pyIter_tuple h1 q
    wp_walk using q1
    refine wpAny_stack_any fun st => wpAny_pure ?_
    split
    · rename_i c _ _ _ _ _
      cases (c == Value.type "enumerate")
      · wp_walk using q1
        exact ⟨_, rfl, h⟩
      · wp_walk using q1
        exact ⟨_, rfl, h⟩
    · wp_walk using q1
      exact ⟨_, rfl, h⟩
section
variable {prog : Program} {w : World} {A : Around} {E : Value → Shared → Prop} {s : Shared}
theorem call_enumT {t : Addr} {items : Array Value} {Q : Value → Shared → Prop} (hT : s.heap.IsTuple t items)
    (h : ∀ h', IsEnum h' (s.heap.objs.size + 1) s.heap.objs.size 0 .none → h'.IsTupleIter s.heap.objs.size t 0 → h'.objs.size = s.heap.objs.size + 2 →
      (∀ b o, s.heap.get? b = some o → h'.get? b = some o) → Q (.ref (s.heap.objs.size + 1)) { s with heap := h' }) :
    wpAny (model prog w) A (call (.type "enumerate") [.ref t]) Q E s := by
  refine callType_new F.called_enumerate (by decide) (F.typeCall_enumerate_1 _) (F.newCall_enumerate_1 _) (fun obj => F.args_object_init_2 obj _) F.entry_enumerate_new
    (meets_enum_newT t items) ⟨hT, ?_⟩
  have hz : (s.heap.push { cls := .type "tuple_iterator", data := .fields #[.ref t, .int 0 0] }).objs.size = s.heap.objs.size + 1 := Heap.size_push ..
  show _ ∧ _
  rw [hz]
  have he : IsEnum ((s.heap.push { cls := .type "tuple_iterator", data := .fields #[.ref t, .int 0 0] }).push
      { cls := .type "enumerate", data := .fields #[.none, .bool false, .ref s.heap.objs.size, rawInt 0, .none, .none] }) (s.heap.objs.size + 1) s.heap.objs.size 0 .none := by
    have := Heap.get?_push_size (s.heap.push { cls := .type "tuple_iterator", data := .fields #[.ref t, .int 0 0] }) (o := { cls := .type "enumerate", data := .fields #[.none, .bool false, .ref s.heap.objs.size, rawInt 0, .none, .none] }) rfl
    rw [hz] at this; exact this
  exact ⟨⟨_, he, rfl⟩, h _ he ⟨_, Heap.get?_push_of_some _ (Heap.get?_push_size _ rfl), rfl, rfl⟩ (by rw [Heap.size_push, hz]) fun b o x => Heap.get?_push_of_some _ (Heap.get?_push_of_some _ x)⟩
end
/-- the tuple at a, each item in a new pair -/
def IteT (K : PySem.W.Frag) (a : Addr) : It :=
  ⟨fun i H => ∃ (xs : List V) (x : V), SqT K H a xs ∧ xs[i]? = some x, fun i H v H' => ∃ T x, v = .ref T ∧ H T = none ∧ H' = upd H T (.tup [.int (i : Nat), x]) ∧ ∀ xs, SqT K H a xs → xs[i]? = some x, fun i H => ∃ xs : List V, SqT K H a xs ∧ xs.length = i⟩
theorem tup_ne_it {h : Heap} {a it : Addr} {i : Nat} {items : Array Value} (p : h.IsTuple a items) (q : h.IsTupleIter it a i) : a ≠ it := fun e => by
  subst e
  obtain ⟨o, h1, h2, _⟩ := p
  obtain ⟨o', h3, h4, _⟩ := q
  rw [h1] at h3
  cases h3
  rw [h2] at h4
  injection h4 with h5
  exact absurd h5 (by decide)
theorem turn_enumT {P : Program} {w : World} {K : PySem.W.Frag} {elts : List Expr} {kk : Nat} {tpos : Pos} (a e it : Addr) :
    Turn P w K (.Tuple elts kk tpos) (IteT K a) [e, it] e (fun i h => (∃ old, IsEnum h e it ((i : Nat) : Int) old) ∧ h.IsTupleIter it a i ∧ e ≠ it) where
  mem := by simp
  obj := fun i h st b hb => by
    obtain ⟨⟨old, he⟩, ⟨o, ho, hc, hd⟩, _⟩ := st
    have e' : b = e ∨ b = it := by simpa using hb
    rcases e' with z | z
    · rw [z]; exact ⟨_, he, fun v q => nomatch q⟩
    · rw [z]; exact ⟨o, ho, fun v q => by rw [hd] at q; cases q⟩
  keep := fun i h h' st k => let ⟨⟨old, he⟩, hi, hne⟩ := st; ⟨⟨old, k e (by simp) _ he⟩, hi.at fun o q => k it (by simp) o q, hne⟩
  item := by
    intro X hP hw hK hc i pins s σ H E I hf st hg
    subst hP hw hK
    obtain ⟨⟨old, he⟩, hit, hne⟩ := st
    obtain ⟨xs, x, hq, hx⟩ := hg
    obtain ⟨its, rv, p, hz⟩ := I.tuple hq
    obtain ⟨u, hu, ru⟩ := rv.get hx
    have hel : e < s.heap.objs.size := Heap.lt_size he
    have hil : it < s.heap.objs.size := by obtain ⟨_, q, _⟩ := hit; exact Heap.lt_size q
    have hp : s.heap.IsTuple a its.toArray := p
    have hai : a ≠ it := tup_ne_it hp hit
    have hae : a ≠ e := fun z => by
      subst z
      obtain ⟨o, h1, h2, _⟩ := hp
      have h3 : s.heap.get? a = some _ := he
      rw [h1] at h3
      cases h3
      injection h2 with h5
      exact absurd h5 (by decide)
    have hlt : i < its.toArray.size := by
      have := (List.getElem?_eq_some_iff.mp hu).1
      simpa using this
    have D := Draws.tuple (prog := X.prog) (w := X.w) (A := X.A.in1) (show X.A.in1.handled = none from I.ok.hd hc) it a hai its.toArray
    refine wpAny_pyNext_enum_itemD D he ⟨hit, hp⟩ hlt hne (by simp [hne, Ne.symm hae]) fun y h' tk hy ho hst hT hsz hk => ?_
    obtain rfl : u = y := by
      have e1 : its[i]? = some y := by simpa using hy
      rw [hu] at e1
      exact Option.some.inj e1
    refine ⟨_, rfl, wpAny_letOwnedTupleGo_enum (s := { s with heap := h', toks := tk + 1 }) ho fun h'' he' sb => ?_⟩
    have hT2 : h''.get? s.heap.objs.size = some { cls := .type "tuple", data := .seq #[.int i tk, u] } := (sb.2 _ (Nat.ne_of_gt hel)).trans hT
    have new : ObjOk X.prog X.w (upd H s.heap.objs.size (.tup [.int (i : Nat), x])) h'' s.heap.objs.size (.tup [.int (i : Nat), x]) :=
      ⟨by show 2 ≤ sizeLine; decide, [.int i tk, u], .cons ⟨_, rfl⟩ (.cons ru .nil), ⟨_, hT2, rfl, _, rfl⟩⟩
    have I1 : Inv X pins σ (upd H s.heap.objs.size (.tup [.int (i : Nat), x])) { s with heap := h'', toks := tk + 1 } :=
      I.turnedNew (ch := [e, it]) (fun b ob hb q => (sb.2 b (fun z => hb (by simp [z]))).trans (hk b ob (fun z => hb (by simp [z])) (fun z => hb (by simp [z])) q)) hf (Nat.le_refl _) new
    refine ⟨.ref s.heap.objs.size, _, I1, rfl, ⟨_, x, rfl, I.hok.fresh (Nat.le_refl _), rfl, fun ys hy' => by rw [I.tuple_inj hy' hq]; exact hx⟩, ⟨⟨u, ?_⟩, hst.1.at fun o q => (sb.2 it (Ne.symm hne)).trans q, hne⟩, fun b hb => ?_⟩
    · have e1 : ((i + 1 : Nat) : Int) = (i : Int) + 1 := by omega
      rw [e1]; exact he'
    · have hb' : b < s.heap.objs.size := by
        have e' : b = e ∨ b = it := by simpa using hb
        rcases e' with z | z
        · rw [z]; exact hel
        · rw [z]; exact hil
      rw [upd_ne (Nat.ne_of_lt hb')]
      exact (hf b hb).1
  done := by
    intro X hP hw hK hc i pins s σ H E I hf st hg
    subst hP hw hK
    obtain ⟨⟨old, he⟩, hit, hne⟩ := st
    obtain ⟨xs, hq, hx⟩ := hg
    obtain ⟨its, rv, p, hz⟩ := I.tuple hq
    have hp : s.heap.IsTuple a its.toArray := p
    have hai : a ≠ it := tup_ne_it hp hit
    obtain ⟨f0, f1, f2, f3, f4, f5⟩ := hf it (by simp)
    have hl := rv.length
    have D := Draws.tuple (prog := X.prog) (w := X.w) (A := X.A.in1) (show X.A.in1.handled = none from I.ok.hd hc) it a hai its.toArray
    have hn : its.toArray.size = i := by rw [List.size_toArray, ← hl]; exact hx
    refine wpAny_pyNext_enum_endD D he ?_ fun h' eb => ⟨rfl, I.turned (t' := s.toks) (fun b o hb q => eb b o hb q) f0 f1 f3 f4 f5⟩
    rw [hn]
    exact ⟨hit, hp⟩
  self := fun A i s Q E st h => let ⟨⟨_, he⟩, _⟩ := st; wpAny_pyIter_enum he h
def iEnumA (K : PySem.W.Frag) (ta : TA) : TI := fun σ H R => ta σ H fun vs H1 => ∃ a xs, vs = [.ref a] ∧ ((SqL K H1 a xs ∧ R (Ite K a) H1) ∨ (SqT K H1 a xs ∧ R (IteT K a) H1))
theorem pi_enumA {X : Cx} {e : Expr} {ta : TA} {p pos tpos : Pos} {elts : List Expr} {kk : Nat} (hg : Gl X "enumerate") (hm : X.mg "enumerate" = none) (ha : PA X [e] ta) (hs : starEach [e] X.env = [(false, eval e X.env)] := by rfl) :
    PI X (.Tuple elts kk tpos) (.Call (.Name "enumerate" p) [e] [] pos) (iEnumA X.K ta) := by
  refine ⟨fun pins s σ H R I h => ?_⟩
  refine Call_ (ld_blt I hg hm boot_enumerate (PyProof.Rows.callWith_type1 (thn (ha.run pos pins s σ H _ I h) fun us s1 ⟨vs, H1, I1, r1, q1⟩ => ?_) hs rfl))
  obtain ⟨a, xs, ex, q⟩ := q1
  subst ex
  have fpok : ∀ b ∈ [s1.heap.objs.size + 1, s1.heap.objs.size], s1.heap.objs.size ≤ b := fun b hb => by
    have e' : b = s1.heap.objs.size + 1 ∨ b = s1.heap.objs.size := by simpa using hb
    rcases e' with z | z
    · rw [z]; exact Nat.le_add_right _ _
    · rw [z]; exact Nat.le_refl _
  cases r1 with
  | cons r rr =>
    cases rr
    cases r
    rcases q with ⟨hq, q⟩ | ⟨hq, q⟩
    · obtain ⟨its, rv, p', hz⟩ := I1.list hq
      refine call_enumerate_list p'.isList fun h' he hit hsz hk => wpAny_pyIter_enum he ?_
      have I2 : Inv X pins σ H1 { s1 with heap := h' } := I1.kept (t' := s1.toks) hk
      exact ⟨s1.heap.objs.size + 1, [s1.heap.objs.size + 1, s1.heap.objs.size], _, _, H1, rfl, I2, turn_enum a (s1.heap.objs.size + 1) s1.heap.objs.size, ⟨⟨.none, he⟩, hit, Nat.succ_ne_self _⟩, fun b hb => I1.fpOk (fpok b hb) (I1.hok.fresh (fpok b hb)), q⟩
    · obtain ⟨its, rv, p', hz⟩ := I1.tuple hq
      refine call_enumT (show s1.heap.IsTuple a its.toArray from p') fun h' he hit hsz hk => wpAny_pyIter_enum he ?_
      have I2 : Inv X pins σ H1 { s1 with heap := h' } := I1.kept (t' := s1.toks) hk
      exact ⟨s1.heap.objs.size + 1, [s1.heap.objs.size + 1, s1.heap.objs.size], _, _, H1, rfl, I2, turn_enumT a (s1.heap.objs.size + 1) s1.heap.objs.size, ⟨⟨.none, he⟩, hit, Nat.succ_ne_self _⟩, fun b hb => I1.fpOk (fpok b hb) (I1.hok.fresh (fpok b hb)), q⟩
section
variable {X : Cx} {W : WX} {K : PySem.W.Frag} {mg : Str → Option Value} {n : Nat} {w : Wd} {H : Hp} {items : List Dv}
theorem it_enumT {a : Addr} {vs : List V} (r : RDs K mg n w H items vs) (h : ∀ n' w' H', Stp n w H n' w' H' → SqT K H' a vs) : ItOk K mg n w H (pairL (rngL 0 items.length) items) (IteT K a) where
  stop := fun n' w' H' g => ⟨vs, h _ _ _ g, by
    rw [pairL, List.length_map, List.length_zip, rngL, List.length_map, List.length_range, r.length]
    omega⟩
  go := fun k d w' H' st' e g sim => by
    obtain ⟨x, y, ex, ey, rfl⟩ := zip_get e
    obtain ⟨v, e1, r1⟩ := r.get ey
    refine ⟨⟨vs, v, h _ _ _ g, e1⟩, fun z H'' y' => ?_⟩
    obtain ⟨T, u, rfl, hT, rfl, hu⟩ := y'
    have e2 := hu vs (h _ _ _ g)
    rw [e1] at e2
    cases e2
    rw [rngL, List.getElem?_map] at ex
    cases e3 : (List.range items.length)[k]? with
    | none => rw [e3] at ex; cases ex
    | some c =>
      rw [e3] at ex
      cases ex
      obtain ⟨h1, h2⟩ := List.getElem?_eq_some_iff.mp e3
      rw [List.getElem_range] at h2
      subst h2
      refine pair_turn sim hT (.p ?_) (r1.mono g)
      rw [Int.zero_add]
      exact .int _
/-- enumerate of what stands: a list, a tuple -/
def enumAny (xs : List Dv) (st : So) : Option (List Dv) := match xs with
  | [d] => if isRef d then none else (seqOf d st).map fun ys => pairL (rngL 0 ys.length) ys
  | _ => none
variable {e : Expr} {fr : FA} {p pos : Pos} {elts : List Expr} {kk : Nat} {tpos : Pos}
theorem pfi_enumA (hm : X.mg "enumerate" = none) (h : PFA X W [e] fr) (hg : Gl X "enumerate" := by rfl) (hs : starEach [e] X.env = [(false, eval e X.env)] := by rfl) : PFI X W (.Tuple elts kk tpos) (.Call (.Name "enumerate" p) [e] [] pos) (fSt enumAny fr) := PI_imp (pi_enumA hg hm h hs) fun σ H R q => by
  obtain ⟨ρ, st, w, sim, er, gd⟩ := q
  refine ⟨ρ, st, w, sim, er, Good.imp (fun v H1 q => ?_) (Good.bind gd)⟩
  obtain ⟨st1, w1, d, sim1, s1, r1, gd1⟩ := q
  unfold enumAny at gd1
  split at gd1
  · rename_i d
    split at gd1
    · exact gd1.elim
    rename_i hn
    cases e : seqOf d st1 with
    | none => rw [e] at gd1; exact gd1.elim
    | some ys =>
      rw [e] at gd1
      obtain ⟨v, rfl, rv⟩ := rds1 r1
      obtain ⟨a', vs, rfl, rr, hs | hs⟩ := stays_rd sim1 rv (notRef hn) e
      · exact ⟨a', vs, rfl, .inl ⟨hs _ _ _ .refl, gd1 w1 H1 _ .refl sim1 (it_enum rr hs)⟩⟩
      · exact ⟨a', vs, rfl, .inr ⟨hs _ _ _ .refl, gd1 w1 H1 _ .refl sim1 (it_enumT rr hs)⟩⟩
  · exact gd1.elim
end
end FB
set_option Elab.async false
set_option linter.all false
set_option maxRecDepth 100000
set_option maxHeartbeats 4000000
/-! FBS: a set of any number of texts; len(set(..)). -/
namespace FB
open PySem PySem.Spec PyProof.Rows L2 RZ SS
def stepN (σ : List Str) (v : Str) : List Str := if σ.contains v then σ else σ ++ [v]
/-- the texts met up to i, each once -/
def fmN (xs : List Str) (i : Nat) : List Str := (xs.take i).foldl stepN []
theorem fmN_succ (xs : List Str) (i : Nat) (h : i < xs.length) : fmN xs (i + 1) = stepN (fmN xs i) (xs.getD i Str.empty) := by
  unfold fmN
  rw [List.take_succ, List.getElem?_eq_getElem h, List.foldl_append, List.getD_eq_getElem?_getD, List.getElem?_eq_getElem h]
  rfl
theorem fmN_mem (xs : List Str) (k : Str) : ∀ i, i ≤ xs.length → (k ∈ fmN xs i ↔ k ∈ xs.take i)
  | 0, _ => by simp [fmN]
  | i + 1, h => by
    rw [fmN_succ xs i h, List.take_succ, List.getElem?_eq_getElem h, List.mem_append, ← fmN_mem xs k i (by omega), List.getD_eq_getElem?_getD, List.getElem?_eq_getElem h]
    unfold stepN
    by_cases hc : (fmN xs i).contains (xs[i]'h) = true
    · simp only [Option.getD_some, hc, if_true, Option.toList_some, List.mem_singleton]
      refine ⟨.inl, fun z => z.elim id fun e => ?_⟩
      rw [e]; simpa using hc
    · simp only [Option.getD_some, hc, Option.toList_some, List.mem_singleton]
      rw [if_neg (by simp), List.mem_append, List.mem_singleton]
theorem fmN_len (xs : List Str) : ∀ i, i ≤ xs.length → (fmN xs i).length ≤ i
  | 0, _ => by simp [fmN]
  | i + 1, h => by
    rw [fmN_succ xs i h]
    unfold stepN
    have ih := fmN_len xs i (by omega)
    split
    · omega
    · rw [List.length_append, List.length_singleton]; omega
theorem any_take (xs : List Str) (k : Str) (i : Nat) : (xs.take i).any (· == k) = decide (k ∈ xs.take i) := by
  rw [Bool.eq_iff_iff]
  simp only [List.any_eq_true, beq_iff_eq, exists_eq_right, decide_eq_true_eq]
section
variable {prog : Program} {w : World} {A : Around} {R : Result → Shared → Prop} {I : Addr} {fp wr : List Addr} {G : Array GenState → Array GenState → Prop} {n : Nat} {P : Nat → Value → Prop} {St : Nat → Shared → Prop}
theorem loopStrN (W : WalksS prog w A.in1 I fp wr G n P St) (S : Addr) (hSf : S ∉ fp) (xs : List Str) (hsz : xs.length = n) (hn1 : n < 4000)
    (hval : ∀ i v, P i v → ∃ t, v = .str (xs.getD i Str.empty) t) :
    ∀ (k i : Nat) (s : Shared), n - i = k → i ≤ n → St i s →
      s.heap.SetOf (PySem.strKind prog w) S (fun k' => (xs.take i).any (· == k')) (fmN xs i).length →
      (∀ s', Moved (S :: wr) G s s' → s'.heap.SetOf (PySem.strKind prog w) S (fun k' => (xs.take n).any (· == k')) (fmN xs n).length → R (.ok (.ret .none)) s') →
      codeAny (model prog w) A (.builtin "set.update.loop" ⟨[.ref S, .ref I], []⟩) R s := by
  have hSw : S ∉ wr := fun h => hSf (W.sub _ h)
  have hsub : ∀ b ∈ wr, b ∈ S :: wr := fun b hb => List.mem_cons_of_mem _ hb
  intro k
  induction k with
  | zero =>
    intro i s hk hi hst hS hR
    have hin : i = n := by omega
    subst hin
    refine codeAny_builtin PyProof.Rows.F.entry_set_update_loop ?_
    rw [Around.under_plainId PyProof.Rows.F.plain_set_update_loop _]
    show wpAny _ A.in1 (pyNext (.ref I) >>= _) _ _ s
    refine wpAny_bind (W.done s _ _ hst fun s' hm => ?_)
    show wpAny _ A.in1 (ret Value.none) _ _ s'
    exact wpAny_pure (hR s' (hm.mono hsub) (by
      obtain ⟨o, es, ep, t, ho, rest⟩ := hS
      exact ⟨o, es, ep, t, hm.heap S _ hSw ho, rest⟩))
  | succ k ih =>
    intro i s hk hi hst hS hR
    have hlt : i < n := by omega
    have hfl := fmN_len xs i (by omega)
    refine codeAny_builtin PyProof.Rows.F.entry_set_update_loop ?_
    rw [Around.under_plainId PyProof.Rows.F.plain_set_update_loop _]
    show wpAny _ A.in1 (pyNext (.ref I) >>= _) _ _ s
    refine wpAny_bind (W.item i s _ _ hlt hst fun v s' hP hst' hm => ?_)
    obtain ⟨t, rfl⟩ := hval i v hP
    have hS' : s'.heap.SetOf (PySem.strKind prog w) S (fun k' => (xs.take i).any (· == k')) (fmN xs i).length := by
      obtain ⟨o, es, ep, tb, ho, rest⟩ := hS
      exact ⟨o, es, ep, tb, hm.heap S _ hSw ho, rest⟩
    show wpAny _ A.in1 (holding [Value.str (xs.getD i Str.empty) t] (setAdd S (.str (xs.getD i Str.empty) t)) >>= _) _ _ s'
    refine wpAny_bind (wpAny_holding ?_)
    unfold setAdd
    refine wpAny_holding ?_
    refine wpAny_bind ((PySem.strKind prog w).pyHash (k := xs.getD i Str.empty) (strKind_is _ _ _ _) ?_)
    refine wpAny_setAddHashed_of (knd := PySem.strKind prog w) (s := { s' with toks := s'.toks + 1 }) (strKind_is _ _ _ _) rfl hS' (by unfold scanBound; omega) fun h' hsb hS2 => ?_
    have hSi : h'.SetOf (PySem.strKind prog w) S (fun k' => (xs.take (i + 1)).any (· == k')) (fmN xs (i + 1)).length := by
      have hix : i < xs.length := by omega
      have ht : xs.take (i + 1) = xs.take i ++ [xs.getD i Str.empty] := by
        rw [List.take_succ, List.getElem?_eq_getElem hix, List.getD_eq_getElem?_getD, List.getElem?_eq_getElem hix]; rfl
      refine SetOf_congr hS2 (fun k' => ?_) ?_
      · rw [ht, List.any_append, List.any_cons, List.any_nil, Bool.or_false]
        congr 1
        rw [Bool.eq_iff_iff, decide_eq_true_eq, beq_iff_eq]
        exact eq_comm
      · rw [fmN_succ xs i hix]
        unfold stepN
        have hm := fmN_mem xs (xs.getD i Str.empty) i (by omega)
        have e1 : (xs.take i).any (· == xs.getD i Str.empty) = (fmN xs i).contains (xs.getD i Str.empty) := by
          rw [any_take, Bool.eq_iff_iff, decide_eq_true_eq, List.contains_iff_mem]
          exact hm.symm
        simp only [e1]
        split
        · rfl
        · rw [List.length_append, List.length_singleton]
    refine wpAny_pure ⟨plainId_quiet PyProof.Rows.F.plain_set_update_loop _, ih (i + 1) _ (by omega) hlt (W.frame _ s' _ _ hst' (Nat.le_succ _) fun b hb o e => ?_) hSi fun s'' hm'' hS'' => ?_⟩
    · rw [hsb.2 b (fun h : b = S => hSf (by rw [← h]; exact hb))]; exact e
    · refine hR s'' (Moved.trans W.gtrans ((hm.mono hsub).then_heap (Nat.le_succ _) fun b o hb e => ?_) hm'') hS''
      rw [hsb.2 b (fun h : b = S => hb (by rw [h]; exact List.mem_cons_self))]; exact e
end
section
variable {prog : Program} {w : World} {A : Around} {E : Value → Shared → Prop} {s : Shared}
set_option maxHeartbeats 3200000 in
theorem call_set_tupleN {l : Addr} {items : Array Value} {xs : List Str} {Q : Value → Shared → Prop}
    (hh : A.handled = none) (hl : s.heap.IsTuple l items) (hi : PyProof.Rows.StrsAre items.toList xs) (hn1 : xs.length < 4000)
    (h : ∀ (h' : Heap) (tk : Nat), h'.SetOf (PySem.strKind prog w) s.heap.objs.size (fun k' => (xs.take items.size).any (· == k')) (fmN xs items.size).length →
      (∀ b o, b < s.heap.objs.size → s.heap.get? b = some o → h'.get? b = some o) → Q (.ref s.heap.objs.size) { s with heap := h', toks := tk }) :
    wpAny (model prog w) A (call (.type "set") [.ref l]) Q E s := by
  obtain ⟨c, tl, hmro⟩ := PySem.F.called_set.mro
  have hmade := PySem.F.called_set.made
  have hsub := PySem.F.called_set.sub
  refine wpAny_call (codeAny_of_tree ?_)
  show wpAny _ _ (callAny (.type "set") _) _ _ _
  refine wpAny_pure ⟨Code.quiet_builtin _ (by decide +kernel), codeAny_builtin PySem.F.entry_type_call ?_⟩
  rw [Around.under_plain (weight_type_call_type "set" [.ref l] []) rfl]
  have h1 := PySem.F.called_set.notType
  have h2 := PySem.F.called_set.canCreate
  have hct := PySem.F.typeCall_set_1 (.ref l)
  repeat (any_goals (first | assumption | wp_step))

  refine codeAny_mono (code_set_new_1 (.ref l) (E := E) (Q₁ := fun obj s₁ => ∃ led : Bool, obj = .ref s.heap.objs.size ∧ s₁ = { s with heap := s.heap.push { cls := .type "set", dict := none, data := .set #[] 0 (.fresh 0 0 led) } }) fun led => ⟨led, rfl, rfl⟩) fun r s₁ hr => ?_
  cases r with
  | error e => exact hr
  | ok fl =>
    cases fl with
    | ret obj =>
      obtain ⟨led, rfl, rfl⟩ := hr
      have hS : (s.heap.push { cls := .type "set", dict := none, data := .set #[] 0 (.fresh 0 0 led) }).get? s.heap.objs.size = some { cls := .type "set", dict := none, data := .set #[] 0 (.fresh 0 0 led) } := Heap.get?_push_size _ rfl
      have hT : Shared.TypeIs { s with heap := s.heap.push { cls := .type "set", dict := none, data := .set #[] 0 (.fresh 0 0 led) } } (.ref s.heap.objs.size) "set" := ⟨_, hS, rfl⟩
      have hli := PySem.F.called_set.init.lookup
      have hbi := PySem.F.called_set.init.bind (.ref s.heap.objs.size)
      repeat (any_goals (first | assumption | wp_step))

      refine codeAny_mono (codeAny_call_builtin (R := wants (fun r s₂ => r = .none ∧ ∃ h' tk, s₂ = { s with heap := h', toks := tk } ∧
          h'.SetOf (PySem.strKind prog w) s.heap.objs.size (fun k' => (xs.take items.size).any (· == k')) (fmN xs items.size).length ∧
          (∀ b o, b < s.heap.objs.size → s.heap.get? b = some o → h'.get? b = some o)) E) PySem.F.called_set.init.plain PySem.F.entry_set_init (check_set_init_1 hT ?_)) fun r₂ s₂ hr₂ => ?_
      · obtain ⟨ol, hol, hcl, nl, hdl⟩ := hl
        obtain ⟨ocls, odict, odata, oslots⟩ := ol
        simp only at hcl hdl
        subst hcl; subst hdl
        have hol' : (s.heap.push { cls := .type "set", dict := none, data := .set #[] 0 (.fresh 0 0 led) }).get? l = some { cls := .type "tuple", dict := odict, data := .seq items nl, slots := oslots } := Heap.get?_push_of_some _ hol
        have hsls := PySem.F.sub_tuple_set
        have hslf := PySem.F.sub_tuple_frozenset
        have hne : (Value.type "tuple" == Value.type "dict") = false := by decide
        have hl1 : (s.heap.push { cls := .type "set", dict := none, data := .set #[] 0 (.fresh 0 0 led) }).IsTuple l items := ⟨_, hol', rfl, nl, rfl⟩
        unfold Builtin.«set.__init__» noKeywords Builtin.Frozenset.updateFrom
        generalize hPI : pyIter = PI
        wp_walk
        subst hPI

        refine wpAny_pyIter_tuple hl1 ?_
        refine wpAny_bind (wpAny_runValue ?_)
        have hlS : l < s.heap.objs.size := Heap.lt_size hol
        have hh3 : A.in1.in1.in1.handled = none := by simp [hh]
        have hneI : l ≠ (s.heap.push { cls := .type "set", dict := none, data := .set #[] 0 (.fresh 0 0 led) }).objs.size := by
          rw [Heap.size_push]; exact Nat.ne_of_lt (Nat.lt_succ_of_lt hlS)
        have hSf : s.heap.objs.size ∉ [(s.heap.push { cls := .type "set", dict := none, data := .set #[] 0 (.fresh 0 0 led) }).objs.size, l] := by
          rw [Heap.size_push]; simp only [List.mem_cons, List.mem_singleton, List.not_mem_nil, or_false, not_or]
          exact ⟨Nat.ne_of_lt (Nat.lt_succ_self _), Nat.ne_of_gt hlS⟩
        have hsz : xs.length = items.size := by rw [← StrsAre.len_eq hi, Array.length_toList]
        have hval : ∀ (i : Nat) (v : Value), items[i]? = some v → ∃ t, v = .str (xs.getD i Str.empty) t := fun i v hv => strs_at hi i v (by rw [Array.getElem?_toList]; exact hv)
        refine loopStrN ((Walks.tuple hh3 _ l hneI items).toS) s.heap.objs.size
          hSf xs hsz (by rw [← hsz]; exact hn1) hval (items.size - 0) 0 _ (by omega) (Nat.zero_le _)
          ⟨⟨_, Heap.get?_push_size _ rfl, rfl, rfl⟩, (hl1.push _)⟩ ?hS0 ?hR
        case hS0 =>
          have hget : ((s.heap.push { cls := .type "set", dict := none, data := .set #[] 0 (.fresh 0 0 led) }).push { cls := .type "tuple_iterator", data := .fields #[.ref l, .int 0 0] }).get? s.heap.objs.size
              = some { cls := .type "set", dict := none, data := .set #[] 0 (.fresh 0 0 led) } := Heap.get?_push_of_some _ hS
          exact PyProof.Rows.SetOf_congr ((PyProof.Rows.setObjOf_fresh (knd := PySem.strKind prog w) led).setOf hget (by unfold scanBound; omega)) (fun _ => rfl) rfl
        case hR =>
          intro s' hm hS'
          obtain ⟨h', g', d', tk', os'⟩ := s'
          have eg : g' = s.gens := hm.gens
          have ed : d' = s.drawn := hm.drawn
          have eo : os' = s.os := hm.os
          subst eg; subst ed; subst eo
          show wpAny _ _ _ _ _ _
          refine wpAny_pure ?_
          show wpAny _ _ (ret Value.none) _ _ _
          refine wpAny_pure ⟨rfl, h', tk', rfl, hS', fun b o hb e => ?_⟩
          have hb1 : b ≠ s.heap.objs.size := Nat.ne_of_lt hb
          have hb2 : b ≠ (s.heap.push { cls := .type "set", dict := none, data := .set #[] 0 (.fresh 0 0 led) }).objs.size := by
            rw [Heap.size_push]; exact Nat.ne_of_lt (Nat.lt_succ_of_lt hb)
          exact hm.heap b o (by simp only [List.mem_cons, List.mem_singleton, List.not_mem_nil, or_false, not_or]; exact ⟨hb1, hb2⟩) (Heap.get?_push_of_some _ (Heap.get?_push_of_some _ e))

      · cases r₂ with
        | error e => exact hr₂
        | ok fl₂ =>
          cases fl₂ with
          | ret r =>
            obtain ⟨rfl, h', tk, rfl, hS', hk'⟩ := hr₂
            repeat (any_goals (first | assumption | wp_step))
            exact h _ _ hS' hk'
          | _ => exact hr₂.elim
    | _ => exact hr.elim

end

def lenSet (xs : List Str) : Nat := (fmN xs xs.length).length
/-- len(set(t)), t a tuple of texts -/
def tLenSetN (K : PySem.W.Frag) (ta : TE) : TE := fun σ H Q => ta σ H fun x H1 => ∃ l, ∃ xs : List Str, x = .ref l ∧ SqT K H1 l (xs.map V.str) ∧ xs.length < 4000 ∧ Q (.int (lenSet xs : Nat)) H1
theorem pe_lenSetN {X : Cx} {a : Expr} {ta : TE} {p p2 q pos : Pos} (hc : X.calm = true) (hg : Gl X "len") (hm : X.mg "len" = none) (hg2 : Gl X "set") (hm2 : X.mg "set" = none) (ha : PE X a ta)
    (na : starEach [a] X.env = (false, eval a X.env) :: starEach [] X.env := by rfl) : PE X (.Call (.Name "len" p) [.Call (.Name "set" p2) [a] [] q] [] pos) (tLenSetN X.K ta) := by
  refine ⟨fun pins s σ H Q I h => ?_⟩
  refine Call_ (ld_blt I hg hm boot_len ?_)
  refine PyProof.Rows.callWith_builtin1 (PyProof.Rows.args_cons ?_ rfl) rfl rfl
  refine Call_ (ld_blt I hg2 hm2 boot_set ?_)
  refine PyProof.Rows.callWith_type1 (PyProof.Rows.args_cons (thn (ha.run pins s σ H _ I h) fun v s1 ⟨x, H1, I1, r1, q1⟩ => PyProof.Rows.args_nil ?_) na) na rfl
  obtain ⟨l, xs, rfl, hq, h1, q1⟩ := q1
  cases r1
  obtain ⟨its, r, pl, hz⟩ := I1.tuple hq
  refine call_set_tupleN (I1.ok.hd hc) pl (by simpa using strsAre_of r) h1 fun h' tk hS hk => PyProof.Rows.args_nil ?_
  have hl : its.toArray.size = xs.length := by rw [List.size_toArray, ← r.length, List.length_map]
  rw [hl] at hS
  obtain ⟨o, es, ep, t, ho, hex, hd, _, _, _, hf, hn⟩ := hS
  have I2 : Inv X pins σ H1 { s1 with heap := h', toks := tk } := I1.kept fun b o e => hk b o (Heap.lt_size e) e
  have hle := fmN_len xs xs.length (Nat.le_refl _)
  exact call_len_set ho hex hd hf (by rw [hn] <;> omega) ⟨.int (lenSet xs : Nat), H1, I2.tok _, ⟨_, by rw [hn]; rfl⟩, q1⟩
def fLenSet (fa : FE) : FE := fun ρ st => (fa ρ st).bind fun d st1 => match tupOf d with
  | some ds => match txts ds with
    | some xs => if xs.length < 4000 then .ok (.p (.int (lenSet xs : Nat))) st1 else .stuck
    | none => .stuck
  | none => .stuck
theorem pf_lenSet {X : Cx} {W : WX} {a : Expr} {fa : FE} {p p2 q pos : Pos} (hc : X.calm = true) (hm : X.mg "len" = none) (hm2 : X.mg "set" = none) (ha : PF X W a fa) (hg : Gl X "len" := by rfl) (hg2 : Gl X "set" := by rfl)
    (na : starEach [a] X.env = (false, eval a X.env) :: starEach [] X.env := by rfl) : PF X W (.Call (.Name "len" p) [.Call (.Name "set" p2) [a] [] q] [] pos) (fLenSet fa) := PE_imp (pe_lenSetN hc hg hm hg2 hm2 ha na) fun σ H Q h => by
  obtain ⟨ρ, st, w, sim, er, gd⟩ := h
  refine ⟨ρ, st, w, sim, er, Good.imp (fun x H1 q => ?_) (Good.bind gd)⟩
  obtain ⟨st1, w1, d1, sim1, s1, r1, gd1⟩ := q
  split at gd1
  · rename_i ds e1
    split at gd1
    · rename_i xs e2
      split at gd1
      · rename_i hl
        obtain ⟨a, vs, rfl, r2, hs⟩ := tup_rd r1 e1
        obtain rfl := txts_rd r2 e2
        exact ⟨a, xs, rfl, hs.sq, hl, gd1 w1 H1 _ .refl sim1 (.p (.int _))⟩
      · exact gd1.elim
    · exact gd1.elim
  · exact gd1.elim
/-- as many as there are, when no text stands twice; never else -/
theorem fmN_nodup (xs : List Str) (h : xs.Nodup) : ∀ i, i ≤ xs.length → fmN xs i = xs.take i
  | 0, _ => by simp [fmN]
  | i + 1, hi => by
    have hix : i < xs.length := hi
    rw [fmN_succ xs i hix, fmN_nodup xs h i (by omega), List.take_succ, List.getElem?_eq_getElem hix, List.getD_eq_getElem?_getD, List.getElem?_eq_getElem hix]
    unfold stepN
    rw [if_neg]
    · rfl
    · simp only [Option.getD_some, List.contains_iff_mem]
      intro hm
      obtain ⟨j, hj, e⟩ := List.getElem_of_mem hm
      rw [List.length_take] at hj
      rw [List.getElem_take] at e
      have hji : j < i := by omega
      exact List.pairwise_iff_getElem.mp h j i (by omega) hix hji e
theorem lenSet_nodup {xs : List Str} (h : xs.Nodup) : lenSet xs = xs.length := by
  unfold lenSet
  rw [fmN_nodup xs h _ (Nat.le_refl _), List.take_length]
end FB
set_option Elab.async false
set_option linter.all false
set_option maxRecDepth 100000
set_option maxHeartbeats 4000000
/-! FB8: loops and comprehensions over what is data or a list cell. -/
namespace FB
open PySem PySem.Spec PyProof.Rows L2 RZ

inductive Nxt where
  | item (d : Dv)
  | fin
  | bad
/-- the k-th item of the list cell i, as it stands -/
def cellAt (i k : Nat) (st : So) : Nxt := match st[i]? with
  | some (.lst ys) => match ys[k]? with
    | some d => .item d
    | none => .fin
  | _ => .bad
structure SOk (K : PySem.W.Frag) (mg : Str → Option Value) (n : Nat) (w : Wd) (H : Hp) (i : Nat) (J : It) : Prop where
  go : ∀ k w' H' (st' : So), Stp n w H st'.length w' H' → Sim K mg w' st' H' → ∀ d, cellAt i k st' = .item d → J.go k H' ∧ ∀ x H'', J.yld k H' x H'' → ∃ w'', Stp st'.length w' H' st'.length w'' H'' ∧ Sim K mg w'' st' H'' ∧ RD K mg st'.length w'' H'' d x
  fin : ∀ k w' H' (st' : So), Stp n w H st'.length w' H' → Sim K mg w' st' H' → cellAt i k st' = .fin → J.stop k H'
section
variable {X : Cx} {W : WX} {K : PySem.W.Frag} {mg : Str → Option Value} {n : Nat} {w : Wd} {H : Hp} {pos : Pos}
theorem sok_cell {i : Nat} (hi : i < n) : SOk K mg n w H i (Itl K (w.m i)) where
  go := fun k w' H' st' g sim d h => by
    unfold cellAt at h
    split at h
    · rename_i ys e
      split at h
      · rename_i d' e2
        cases h
        obtain ⟨vs, e1, r1, _⟩ := sim.cell i _ e
        obtain ⟨v, e3, r3⟩ := r1.get e2
        rw [g.ext i hi] at e1
        refine ⟨⟨vs, v, .of e1, e3⟩, fun x H'' y => ?_⟩
        obtain ⟨rfl, y⟩ := y
        have e4 := y vs (.of e1)
        rw [e3] at e4
        cases e4
        exact ⟨w', .refl, sim, r3⟩
      · cases h
    · cases h
  fin := fun k w' H' st' g sim h => by
    unfold cellAt at h
    split at h
    · rename_i ys e
      split at h
      · cases h
      · rename_i e2
        obtain ⟨vs, e1, r1, _⟩ := sim.cell i _ e
        rw [g.ext i hi] at e1
        refine ⟨vs, .of e1, ?_⟩
        rw [← r1.length]
        exact List.getElem?_eq_none_iff.mp e2
    · cases h
/-! ### for -/
def sForC (tg : Tg) (body : FS) (i : Nat) : Nat → Nat → FS
  | 0, _, _, _ => .stuck
  | f + 1, k, ρ, st => match cellAt i k st with
    | .bad => .stuck
    | .fin => .nx ρ st
    | .item d => toE (tgF tg d ρ) fun ρ' => match body ρ' st with
      | .nx ρ2 st2 => sForC tg body i f (k + 1) ρ2 st2
      | .cnt ρ2 st2 => sForC tg body i f (k + 1) ρ2 st2
      | .brk ρ2 st2 => .nx ρ2 st2
      | r => r
/-- for tg in e: e a list cell, a list, a tuple, a text -/
def sForV (fa : FE) (tg : Tg) (body : FS) : FS := fun ρ st => (fa ρ st).st ρ fun d st1 => match d with
  | .ref i => sForC tg body i 100001 0 ρ st1
  | d => match itemsOf d st1 with
    | some items => sForL tg body items ρ st1
    | none => .stuck
abbrev LoopW (K : PySem.W.Frag) (mg : Str → Option Value) (W : WX) (tg : Tg) (body : FS) (D : Ends) (σ : L2.St) (J : It) (H1 : Hp) : Prop :=
    ∃ Wn : Nat → Nat → L2.St → Hp → Prop, (∃ m, Wn 0 m σ H1) ∧ ∀ i m σ H, Wn i m σ H → (J.stop i H ∧ D.nx σ H) ∨ (J.go i H ∧ ∃ N : L2.St → Hp → Prop, (∀ σ' H', N σ' H' → ∃ m', m' < m ∧ Wn (i + 1) m' σ' H') ∧ ∀ x H', J.yld i H x H' → tgG K tg x σ H' fun σ2 H2 => TFS K mg W body { D with nx := N, ct := N, bk := D.nx } σ2 H2)
theorem for_core {J : It} {tg : Tg} {body : FS} {D : Ends} {σ : L2.St} {st1 : So} {w1 : Wd} {H1 : Hp} {i : Nat} {ρ : Sl} (it : SOk K mg st1.length w1 H1 i J) (sim1 : Sim K mg w1 st1 H1) (er1 : EnvR K mg st1.length w1 H1 ρ σ) (gd1 : GoodS K mg W st1.length w1 H1 D (sForC tg body i 100001 0 ρ st1)) :
    ∃ Wn : Nat → Nat → L2.St → Hp → Prop, (∃ m, Wn 0 m σ H1) ∧ ∀ i m σ H, Wn i m σ H → (J.stop i H ∧ D.nx σ H) ∨ (J.go i H ∧ ∃ N : L2.St → Hp → Prop, (∀ σ' H', N σ' H' → ∃ m', m' < m ∧ Wn (i + 1) m' σ' H') ∧ ∀ x H', J.yld i H x H' → tgG K tg x σ H' fun σ2 H2 => TFS K mg W body { D with nx := N, ct := N, bk := D.nx } σ2 H2) := by
  refine ⟨fun k m σ2 H2 => ∃ ρ2 st2 w2, Sim K mg w2 st2 H2 ∧ EnvR K mg st2.length w2 H2 ρ2 σ2 ∧ Stp st1.length w1 H1 st2.length w2 H2 ∧ GoodS K mg W st2.length w2 H2 D (sForC tg body i m k ρ2 st2),
    ⟨100001, ρ, st1, w1, sim1, er1, .refl, gd1⟩, ?_⟩
  rintro k m σ2 H2 ⟨ρ2, st2, w2, sim2, er2, s2, gd2⟩
  cases m with
  | zero => exact gd2.elim
  | succ f =>
    unfold sForC at gd2
    split at gd2
    · exact gd2.elim
    · rename_i e
      exact .inl ⟨it.fin k w2 H2 st2 s2 sim2 e, gd2 w2 H2 σ2 .refl sim2 er2⟩
    · rename_i d e
      obtain ⟨go, yl⟩ := it.go k w2 H2 st2 s2 sim2 d e
      refine .inr ⟨go, fun σ' H' => ∃ ρ3 st3 w3, Sim K mg w3 st3 H' ∧ EnvR K mg st3.length w3 H' ρ3 σ' ∧ Stp st1.length w1 H1 st3.length w3 H' ∧ GoodS K mg W st3.length w3 H' D (sForC tg body i f (k + 1) ρ3 st3), ?_, ?_⟩
      · rintro σ' H' ⟨ρ3, st3, w3, sim3, er3, s3, gd3⟩
        exact ⟨f, Nat.lt_succ_self f, ρ3, st3, w3, sim3, er3, s3, gd3⟩
      · intro x H3 hy
        obtain ⟨w3, s3, sim3, r3⟩ := yl x H3 hy
        have gd3 := gd2.later s3
        unfold toE at gd3
        split at gd3
        · rename_i ρ' hρ
          dsimp only at gd3
          refine tg_ok (vs := tgS tg) tg _ x ρ2 ρ' σ2 σ2 _ r3 (er2.mono s3) hρ (fun _ h => h) rfl fun σ4 er4 _ => ⟨ρ', st2, w3, sim3, er4, ?_⟩
          cases eb : body ρ' st2 with
          | nx ρ5 st5 =>
            rw [eb] at gd3
            exact fun w5 H5 σ5 s5 sim5 er5 => ⟨ρ5, st5, w5, sim5, er5, (s2.trans s3).trans s5, gd3.later s5⟩
          | cnt ρ5 st5 =>
            rw [eb] at gd3
            exact fun w5 H5 σ5 s5 sim5 er5 => ⟨ρ5, st5, w5, sim5, er5, (s2.trans s3).trans s5, gd3.later s5⟩
          | brk ρ5 st5 => rw [eb] at gd3; exact gd3
          | ret d st5 => rw [eb] at gd3; exact gd3
          | exc c fs ρ5 st5 => rw [eb] at gd3; exact gd3
          | stuck => rw [eb] at gd3; exact gd3.elim
        · exact gd3.elim
/-- the items that a plain iterable gives -/
theorem iter_ok {st1 : So} {w1 : Wd} {H1 : Hp} {d : Dv} {v : V} {R : It → Hp → Prop} (sim1 : Sim K mg w1 st1 H1) (r1 : RD K mg st1.length w1 H1 d v)
    (h : (∃ i, d = .ref i ∧ ∃ ys, st1[i]? = some (.lst ys) ∧ ∀ J, SOk K mg st1.length w1 H1 i J → R J H1) ∨ ∃ xs, itemsOf d st1 = some xs ∧ ∀ J, ItOk K mg st1.length w1 H1 xs J → R J H1) :
    (∃ a, v = .ref a ∧ (∃ xs, SqL K H1 a xs) ∧ R (Itl K a) H1) ∨ (∃ a, v = .ref a ∧ (∃ xs, SqT K H1 a xs) ∧ R (Itt K a) H1) ∨ ∃ z, v = .str z ∧ R (Its z) H1 := by
  rcases h with ⟨i, rfl, ys, e, hR⟩ | ⟨xs, e, hR⟩
  · cases r1 with
    | ref hi =>
      obtain ⟨vs, e1, _, _⟩ := sim1.cell i _ e
      exact .inl ⟨_, rfl, ⟨vs, .of e1⟩, hR _ (sok_cell hi)⟩
  · have e' := e
    unfold itemsOf at e'
    split at e'
    · cases e'
      cases r1 with
      | p q =>
        cases q
        exact .inr (.inr ⟨_, rfl, hR _ it_str⟩)
    · cases e'
    · rename_i hn1 hn2
      obtain ⟨a, vs, rfl, rv, hs | hs⟩ := stays_rd sim1 r1 (fun i hi => hn2 i hi) e'
      · exact .inl ⟨a, rfl, ⟨vs, hs _ _ _ .refl⟩, hR _ (it_list rv hs)⟩
      · exact .inr (.inl ⟨a, rfl, ⟨vs, hs _ _ _ .refl⟩, hR _ (it_tup rv hs)⟩)
theorem pfs_forV {te iter : Expr} {bs : List Stmt} {fa : FE} {tg : Tg} {body : FS} (hp : PassesOwn (model X.prog X.w) X.A X.env X.xe) (hc : X.calm = true) (hi : PF X W iter fa) (hg : PG X te (tgG X.K tg)) (hb : PFSs X W bs body)
    (hs : ∀ x, foldedSetIterable iter X.env x = pure x := by intro _; rfl) : PFS X W (.For te iter bs [] pos) (sForV fa tg body) := PS_imp (ps_for hp hc (pi_seq hi) hg hb hs) fun D σ H q => by
  obtain ⟨ρ, st, w, sim, er, gd⟩ := q
  refine ⟨ρ, st, w, sim, er, Good.imp (fun v H1 q => ?_) (good_st er gd)⟩
  obtain ⟨st1, w1, d, sim1, s1, r1, er1, gd1⟩ := q
  have key : ∀ xs, itemsOf d st1 = some xs → GoodS X.K X.mg W st1.length w1 H1 D (sForL tg body xs ρ st1) → ∀ J, ItOk X.K X.mg st1.length w1 H1 xs J → ∃ Wn : Nat → Nat → L2.St → Hp → Prop, (∃ m, Wn 0 m σ H1) ∧ ∀ i m σ H, Wn i m σ H →
      (J.stop i H ∧ D.nx σ H) ∨ (J.go i H ∧ ∃ N : L2.St → Hp → Prop, (∀ σ' H', N σ' H' → ∃ m', m' < m ∧ Wn (i + 1) m' σ' H') ∧ ∀ x H', J.yld i H x H' → tgG X.K tg x σ H' fun σ2 H2 => TFS X.K X.mg W body { D with nx := N, ct := N, bk := D.nx } σ2 H2) := fun xs e g J it => by
    exact tfs_forL it sim1 er1 g
  split at gd1
  · rename_i i
    have hys : ∃ ys, st1[i]? = some (.lst ys) := by
      unfold sForC at gd1
      unfold cellAt at gd1
      split at gd1
      · exact gd1.elim
      · rename_i e
        split at e
        · exact ⟨_, by assumption⟩
        · cases e
      · rename_i e
        split at e
        · exact ⟨_, by assumption⟩
        · cases e
    obtain ⟨ys, e⟩ := hys
    exact iter_ok (R := fun J H1 => LoopW X.K X.mg W tg body D σ J H1) sim1 r1 (.inl ⟨i, rfl, ys, e, fun J it => for_core it sim1 er1 gd1⟩)
  · split at gd1
    · rename_i items e
      exact iter_ok (R := fun J H1 => LoopW X.K X.mg W tg body D σ J H1) sim1 r1 (.inr ⟨items, e, key items e gd1⟩)
    · exact gd1.elim

/-! ### [.. for tg in e if ..] -/
def cmpC (tg : Tg) (tt : FT) (fe : FE) (ρ : Sl) (i : Nat) : Nat → Nat → List Dv → So → Rs (List Dv)
  | 0, _, _, _ => .stuck
  | f + 1, k, acc, st => match cellAt i k st with
    | .bad => .stuck
    | .fin => .ok acc st
    | .item d => match tgF tg d ρ with
      | none => .stuck
      | some ρ' => (tt ρ' st).bindN fun b st1 => if b then (fe ρ' st1).bindN fun y st2 => cmpC tg tt fe ρ i f (k + 1) (acc ++ [y]) st2 else cmpC tg tt fe ρ i f (k + 1) acc st1
def fLcV (fa : FE) (tg : Tg) (tt : FT) (fe : FE) : FA := fun ρ st => (fa ρ st).bind fun d st1 => match d with
  | .ref i => cmpC tg tt fe (rhoW ρ (tgS tg)) i 100001 0 [] st1
  | d => match itemsOf d st1 with
    | some items => if items.length ≤ 100000 then cmpL tg tt fe (rhoW ρ (tgS tg)) items [] st1 else .stuck
    | none => .stuck
abbrev LcW (K : PySem.W.Frag) (mg : Str → Option Value) (tg : Tg) (tt : FT) (fe : FE) (σ : L2.St) (Q : VK) (J : It) (H1 : Hp) : Prop :=
    ∀ D, H1 D = none → ∃ Wn : Nat → Nat → Hp → Prop, (∃ m, Wn 0 m (upd H1 D (.lst []))) ∧ ∀ i m H, Wn i m H →
      (J.stop i H ∧ Q (.ref D) H) ∨ (J.go i H ∧ ∃ Nx : Hp → Prop, (∀ H', Nx H' → ∃ m', m' < m ∧ Wn (i + 1) m' H') ∧ ∀ x H', J.yld i H x H' → tgG K tg x (wipe σ (tgS tg)) H' fun σ2 H2 => wipe σ2 (tgS tg) = wipe σ (tgS tg) ∧ TFT K mg W0 tt σ2 H2 fun b H3 =>
        if b = true then TF K mg W0 fe σ2 H3 fun y H4 => ∃ acc, H4 D = some (.lst acc) ∧ acc.length < sizeLine ∧ Nx (upd H4 D (.lst (acc ++ [y]))) else Nx H3)
theorem cmpC_ok {Wc : WX} {σ : L2.St} {st1 : So} {w1 : Wd} {H1 : Hp} {J : It} {src : Nat} {tg : Tg} {tt : FT} {fe : FE} {ρ : Sl} {Q : VK}
    (it : SOk K mg st1.length w1 H1 src J) (er : EnvR K mg st1.length w1 H1 ρ (wipe σ (tgS tg))) (sim1 : Sim K mg w1 st1 H1)
    (gd : Good (RDs K mg) K mg Wc σ st1.length w1 H1 (fun vs H' => ∀ p, H' p = none → vs.length ≤ sizeLine → Q (.ref p) (upd H' p (.lst vs))) (cmpC tg tt fe ρ src 100001 0 [] st1)) : LcW K mg tg tt fe σ Q J H1 := by
  intro D hD
  have big : ∀ {k : Nat}, k ≤ 200000 → k < sizeLine := fun h => Nat.lt_of_le_of_lt h (by decide)
  refine ⟨fun i m H => ∃ st w Hb acc vs, Sim K mg w st Hb ∧ Hb D = none ∧ H = upd Hb D (.lst vs) ∧ RDs K mg st.length w Hb acc vs ∧ Stp st1.length w1 H1 st.length w Hb ∧ acc.length + m ≤ 100001 ∧
    Good (RDs K mg) K mg Wc σ st.length w Hb (fun vs H' => ∀ p, H' p = none → vs.length ≤ sizeLine → Q (.ref p) (upd H' p (.lst vs))) (cmpC tg tt fe ρ src m i acc st),
    ⟨100001, st1, w1, H1, [], [], sim1, hD, rfl, .nil, .refl, Nat.le_refl _, gd⟩, ?_⟩
  rintro i m H ⟨st, w, Hb, acc, vs, sim, hDb, rfl, racc, s0, hacc, gd0⟩
  obtain ⟨s2, sim2⟩ := sim.put (o := .lst vs) hDb
  cases m with
  | zero => exact gd0.elim
  | succ f =>
  unfold cmpC at gd0
  split at gd0
  · exact gd0.elim
  · rename_i e
    refine .inl ⟨it.fin i _ _ st (s0.trans s2) sim2 e, ?_⟩
    exact gd0 w Hb vs .refl sim racc D hDb (by rw [← racc.length]; exact Nat.le_of_lt (big (by omega)))
  · rename_i d0 e
    obtain ⟨go, yl⟩ := it.go i (w.aside D) _ st (s0.trans s2) sim2 d0 e
    refine .inr ⟨go, fun H' => ∃ st' w' Hb' acc' vs', Sim K mg w' st' Hb' ∧ Hb' D = none ∧ H' = upd Hb' D (.lst vs') ∧ RDs K mg st'.length w' Hb' acc' vs' ∧ Stp st1.length w1 H1 st'.length w' Hb' ∧ acc'.length + f ≤ 100001 ∧
      Good (RDs K mg) K mg Wc σ st'.length w' Hb' (fun vs H' => ∀ p, H' p = none → vs.length ≤ sizeLine → Q (.ref p) (upd H' p (.lst vs))) (cmpC tg tt fe ρ src f (i + 1) acc' st'), ?_, ?_⟩
    · rintro H' ⟨st', w', Hb', acc', vs', q⟩
      exact ⟨f, Nat.lt_succ_self f, st', w', Hb', acc', vs', q⟩
    · intro x H3 hy
      obtain ⟨w3, s3, sim3, r3⟩ := yl x H3 hy
      split at gd0
      · exact gd0.elim
      · rename_i ρ' hρ
        have s23 := s2.trans s3
        have fD : ∀ {n' w' H'}, Stp st.length w3 H3 n' w' H' → w'.F D ∧ H' D = some (.lst vs) := fun {n' w' H'} g =>
          ⟨g.frm.inc D (s3.frm.inc D (.inl rfl)), g.frm.imm D _ (s3.frm.inc D (.inl rfl)) (s3.frm.imm D _ (.inl rfl) upd_same)⟩
        have hFF : ∀ {n' w' H'}, Stp st.length w3 H3 n' w' H' → ∀ a, w.F a → w'.F a ∧ a ≠ D := fun {n' w' H'} g a ha => by
          obtain ⟨⟨z, hz⟩, _⟩ := sim.fr a ha
          exact ⟨g.frm.inc a (s23.frm.inc a ha), ne_of_none hz hDb⟩
        have land : ∀ {st' w' H'}, Stp st.length w3 H3 (List.length st') w' H' → Sim K mg w' st' H' → Sim K mg (w'.back w.F) st' (era H' D) ∧ Stp st.length w Hb st'.length (w'.back w.F) (era H' D) ∧
            Stp st'.length { w' with F := fun _ => False } H' st'.length (w'.back w.F) (era H' D) := fun {st' w' H'} g sm => by
          obtain ⟨a1, a2, a3⟩ := sm.drop (F := w.F) (fD g).1 (hFF g)
          exact ⟨a1, a2 (s23.trans g) fun _ h => h, a3⟩
        refine tg_ok (vs := tgS tg) tg _ x ρ ρ' _ (wipe σ (tgS tg)) _ r3 (er.mono ((s0.trans s2).trans s3)) hρ (fun _ h => h) rfl fun σ4 er4 hw4 => ⟨hw4.trans (wipe_idem fun _ h => h), ρ', st, w3, sim3, er4, ?_⟩
        cases et : tt ρ' st with
        | stuck => rw [et] at gd0; exact gd0.elim
        | exc c fs st' => rw [et] at gd0; exact gd0.elim
        | ok b st4 =>
          rw [et] at gd0
          intro w4 H4 b' s4 sim4 eb
          obtain rfl : b = b' := eb
          have gd0 : Good (RDs K mg) K mg Wc σ st.length w Hb (fun vs H' => ∀ p, H' p = none → vs.length ≤ sizeLine → Q (.ref p) (upd H' p (.lst vs))) (if b = true then (fe ρ' st4).bindN fun y st2 => cmpC tg tt fe ρ src f (i + 1) (acc ++ [y]) st2 else cmpC tg tt fe ρ src f (i + 1) acc st4) := gd0
          cases b with
          | false =>
            rw [if_neg Bool.false_ne_true] at gd0 ⊢
            obtain ⟨a1, a2, a3⟩ := land s4 sim4
            refine ⟨st4, w4.back w.F, era H4 D, acc, vs, a1, era_same, ?_, racc.mono a2, s0.trans a2, by omega, gd0.later a2⟩
            rw [upd_era]
            funext c
            by_cases hc : c = D
            · subst hc; rw [upd_same]; exact (fD s4).2
            · rw [upd_ne hc]
          | true =>
            rw [if_pos rfl] at gd0 ⊢
            refine ⟨ρ', st4, w4, sim4, er4.mono s4, ?_⟩
            cases ef : fe ρ' st4 with
            | stuck => rw [ef] at gd0; exact gd0.elim
            | exc c fs st' => rw [ef] at gd0; exact gd0.elim
            | ok y st5 =>
              rw [ef] at gd0
              intro w5 H5 v s5 sim5 r5
              have s45 := s4.trans s5
              obtain ⟨a1, a2, a3⟩ := land s45 sim5
              have lv : vs.length < sizeLine := by rw [← racc.length]; exact big (by omega)
              refine ⟨vs, (fD s45).2, lv, st5, w5.back w.F, era H5 D, acc ++ [y], vs ++ [v], a1, era_same, by rw [upd_era], (racc.mono a2).append (.cons (r5.back a3) .nil), s0.trans a2, ?_, ?_⟩
              · rw [List.length_append, List.length_singleton]; omega
              · exact Good.later a2 gd0
theorem tfl_lcV {fa : FE} {te : TE} {tg : Tg} {tt : FT} {fe : FE} {σ : L2.St} {H : Hp} {Q : VK} (ht : ∀ σ H Q, TF K mg W fa σ H Q → te σ H Q) (h : TFL K mg W (fLcV fa tg tt fe) σ H Q) : tLc (iSeq K te) (tgG K tg) (TFT K mg W0 tt) (TF K mg W0 fe) (tgS tg) σ H Q := by
  obtain ⟨ρ, st, w, sim, er, gd⟩ := h
  refine ht σ H _ ⟨ρ, st, w, sim, er, Good.imp (fun v H1 q => ?_) (Good.bind gd)⟩
  obtain ⟨st1, w1, d, sim1, s1, r1, gd1⟩ := q
  split at gd1
  · rename_i i
    have hys : ∃ ys, st1[i]? = some (.lst ys) := by
      unfold cmpC at gd1
      unfold cellAt at gd1
      split at gd1
      · exact gd1.elim
      · rename_i e
        split at e
        · exact ⟨_, by assumption⟩
        · cases e
      · rename_i e
        split at e
        · exact ⟨_, by assumption⟩
        · cases e
    obtain ⟨ys, e⟩ := hys
    exact iter_ok (R := fun J H1 => LcW K mg tg tt fe σ Q J H1) sim1 r1 (.inl ⟨i, rfl, ys, e, fun J it => cmpC_ok it (envW (er.mono s1) _) sim1 gd1⟩)
  · split at gd1
    · rename_i items e
      split at gd1
      · rename_i hn
        exact iter_ok (R := fun J H1 => LcW K mg tg tt fe σ Q J H1) sim1 r1 (.inr ⟨items, e, fun J it D hD => cmp_ok it hn (envW (er.mono s1) _) sim1 hD gd1⟩)
      · exact gd1.elim
    · exact gd1.elim
theorem pfl_lcV {elt te iter : Expr} {ifs : List Expr} {scope : Scope} {own : List (Str × Nat)} {fa : FE} {tg : Tg} {tt : FT} {fe : FE} (hc : X.calm = true) (hN : X.N.Nodup) (hi : PF X W iter fa) (ok : BlkOk X.N X.env.scope scope own) (ho : own.map (·.2) = tgS tg)
    (hg : ∀ (s : Shared) (H : Hp) (C : Addr) (cl : List (Str × Addr)) (fp : List Addr), PG (X.blk s H scope (compEnvC scope cl C X.env) fp) te (tgG X.K tg)) (ht : ∀ (s : Shared) (H : Hp) (C : Addr) (cl : List (Str × Addr)) (fp : List Addr), PTs (X.blk s H scope (compEnvC scope cl C X.env) fp) ifs (TFT X.K X.mg W0 tt))
    (he : ∀ (s : Shared) (H : Hp) (C : Addr) (cl : List (Str × Addr)) (fp : List Addr), PF (X.blk s H scope (compEnvC scope cl C X.env) fp) W0 elt fe) (hs : ∀ x, foldedSetIterable iter X.env x = pure x := by intro _; rfl) :
    PFL X W (.ListComp elt [⟨te, iter, ifs, 0⟩] scope pos) (fLcV fa tg tt fe) := PE_imp (pe_lc (te := TF X.K X.mg W0 fe) hc hN (pi_seq hi) ok hg ht he hs) fun σ H Q h => by
  rw [ho]
  exact tfl_lcV (fun _ _ _ q => q) h
theorem pfs_setLcV {i : Nat} {y : Str} {py spos : Pos} {elt te iter : Expr} {ifs : List Expr} {scope : Scope} {own : List (Str × Nat)} {fa : FE} {tg : Tg} {tt : FT} {fe : FE} {fr : FE} (hc : X.calm = true) (hN : X.N.Nodup) (hi : PF X W iter fa) (ok : BlkOk X.N X.env.scope scope own) (ho : own.map (·.2) = tgS tg)
    (hg : ∀ (s : Shared) (H : Hp) (C : Addr) (cl : List (Str × Addr)) (fp : List Addr), PG (X.blk s H scope (compEnvC scope cl C X.env) fp) te (tgG X.K tg)) (ht : ∀ (s : Shared) (H : Hp) (C : Addr) (cl : List (Str × Addr)) (fp : List Addr), PTs (X.blk s H scope (compEnvC scope cl C X.env) fp) ifs (TFT X.K X.mg W0 tt))
    (he : ∀ (s : Shared) (H : Hp) (C : Addr) (cl : List (Str × Addr)) (fp : List Addr), PF (X.blk s H scope (compEnvC scope cl C X.env) fp) W0 elt fe)
    (hsw : swapsWith (.ListComp elt [⟨te, iter, ifs, 0⟩] scope pos) (some (.Name y py)) spos.line X.env = pure true) (hfr : ∀ σ H Q, TF X.K X.mg W fr σ H Q → TFL X.K X.mg W (fLcV fa tg tt fe) σ H Q)
    (hy : X.N[i]? = some y := by rfl) (hyl : X.env.scope.names.lookup y = some .local := by rfl) (hs : ∀ x, foldedSetIterable iter X.env x = pure x := by intro _; rfl) :
    PFS X W (.Assign [.Name y py] (.ListComp elt [⟨te, iter, ifs, 0⟩] scope pos) spos) (sAsg fr (.nm i)) := PS_imp (ps_setLc (te := TF X.K X.mg W0 fe) hc hN hy hyl hsw (pi_seq hi) ok hg ht he hs) fun D σ H h => by
  have h2 := tfs_asg h
  rw [ho]
  exact tfl_lcV (fun _ _ _ q => q) (hfr σ H _ h2)
end
end FB
set_option Elab.async false
set_option linter.all false
set_option maxRecDepth 100000
set_option maxHeartbeats 4000000
/-! FB9: a, b = x, y; constants of the module; defs as the head tells them. -/
namespace FB
open PySem PySem.Spec PyProof.Rows L2 RZ
def sPar (i j : Nat) (fr : FA) : FS := fun ρ st => (fr ρ st).st ρ fun vs st1 => match vs with
  | [a, b] => .nx ((ρ.set i (some a)).set j (some b)) st1
  | _ => .stuck
def sPar3 (i j k : Nat) (fr : FA) : FS := fun ρ st => (fr ρ st).st ρ fun vs st1 => match vs with
  | [a, b, c] => .nx (((ρ.set i (some a)).set j (some b)).set k (some c)) st1
  | _ => .stuck
section
variable {X : Cx} {W : WX} {a b c : Expr} {fr : FA} {pos : Pos} {i j k : Nat} {x y z : Str} {px py pz pt pt2 : Pos} {kt k2 : _}
theorem pfs_par (hc : X.calm = true) (hN : X.N.Nodup) (ha : PFA X W [a, b] fr) (hij : i ≠ j) (hi : X.N[i]? = some x := by rfl) (hj : X.N[j]? = some y := by rfl)
    (hx : X.env.scope.names.lookup x = some .local := by rfl) (hy : X.env.scope.names.lookup y = some .local := by rfl)
    (hw : swappedStores [.Tuple [.Name x px, .Name y py] kt pt] (.Tuple [a, b] k2 pt2) X.env = pure (some [x, y]) := by rfl)
    (hs : swapsWithSole [.Tuple [.Name x px, .Name y py] kt pt] (.Tuple [a, b] k2 pt2) pos.line X.env = pure false := by rfl) :
    PFS X W (.Assign [.Tuple [.Name x px, .Name y py] kt pt] (.Tuple [a, b] k2 pt2) pos) (sPar i j fr) := PS_imp (ps_par hc hN hi hj hij hx hy ha hw hs) fun D σ H q => by
  obtain ⟨ρ, st, w, sim, er, gd⟩ := q
  refine ⟨ρ, st, w, sim, er, Good.imp (fun v H1 q => ?_) (good_st er gd)⟩
  obtain ⟨st1, w1, d, sim1, s1, r1, er1, gd1⟩ := q
  split at gd1
  · rename_i d1 d2
    obtain ⟨v1, v2, rfl, q1, q2⟩ := rds2 r1
    exact ⟨v1, v2, rfl, gd1 w1 H1 _ .refl sim1 ((er1.set q1 i).set q2 j)⟩
  · exact gd1.elim
theorem pfs_par3 (hc : X.calm = true) (hN : X.N.Nodup) (ha : PFA X W [a, b, c] fr) (hij : i ≠ j) (hik : i ≠ k) (hjk : j ≠ k) (hi : X.N[i]? = some x := by rfl) (hj : X.N[j]? = some y := by rfl) (hk : X.N[k]? = some z := by rfl)
    (hx : X.env.scope.names.lookup x = some .local := by rfl) (hy : X.env.scope.names.lookup y = some .local := by rfl) (hz : X.env.scope.names.lookup z = some .local := by rfl)
    (hw : swappedStores [.Tuple [.Name x px, .Name y py, .Name z pz] kt pt] (.Tuple [a, b, c] k2 pt2) X.env = pure (some [x, y, z]) := by rfl)
    (hs : swapsWithSole [.Tuple [.Name x px, .Name y py, .Name z pz] kt pt] (.Tuple [a, b, c] k2 pt2) pos.line X.env = pure false := by rfl) :
    PFS X W (.Assign [.Tuple [.Name x px, .Name y py, .Name z pz] kt pt] (.Tuple [a, b, c] k2 pt2) pos) (sPar3 i j k fr) := PS_imp (ps_par3 hc hN hi hj hk hij hik hjk hx hy hz ha hw hs) fun D σ H q => by
  obtain ⟨ρ, st, w, sim, er, gd⟩ := q
  refine ⟨ρ, st, w, sim, er, Good.imp (fun v H1 q => ?_) (good_st er gd)⟩
  obtain ⟨st1, w1, d, sim1, s1, r1, er1, gd1⟩ := q
  split at gd1
  · rename_i d1 d2 d3
    cases r1 with | cons q1 t => cases t with | cons q2 t => cases t with | cons q3 t =>
    cases t
    exact ⟨_, _, _, rfl, gd1 w1 H1 _ .refl sim1 (((er1.set q1 i).set q2 j).set q3 k)⟩
  · exact gd1.elim
/-- constants of the module -/
theorem pf_gint {x : Str} {n : Int} (h : ∃ t, X.mg x = some (.int n t)) (hg : Gl X x := by rfl) (hd : (x == ("__debug__" : Str)) = false := by decide) : PF X W (.Name x pos) (fC (.int n)) := by
  obtain ⟨t, h⟩ := h
  exact pf_glob (v := .int n) hg h ⟨t, rfl⟩ (fun _ _ => .int n) hd
theorem pf_gstr {x s : Str} (h : ∃ t, X.mg x = some (.str s t)) (hg : Gl X x := by rfl) (hd : (x == ("__debug__" : Str)) = false := by decide) : PF X W (.Name x pos) (fC (.str s)) := by
  obtain ⟨t, h⟩ := h
  exact pf_glob (v := .str s) hg h ⟨t, rfl⟩ (fun _ _ => .str s) hd
/-- a function's call in a comprehension: no error -/
theorem takesW0 : Takes X W0 := fun _ _ ⟨_, _, _, _, _, _, _, _, _, _, _, _, _, _, _, _, w⟩ => w.elim
end
section
variable {P : Program} {w : World} {K : PySem.W.Frag} {mg : Str → Option Value} {base : Heap} {x qual : Str} {params : Arguments} {body : List Stmt} {scope : Scope} {f : Addr} {fd : FuncData} {N ps : List Str} {k : Nat} {m : FS}
theorem fn_okD (F : FunD K x qual params body scope [] [] f fd) (S : FnScope N ps scope)
    (hbody : ∀ (cdv : Value) (A : Around) (outer : List Env) (s : Shared) (H : Hp) (E : XK), Room k (A.deeper (envOfC qual scope s.heap.objs.size f cdv)) →
      PFSs (cxOf (L2.CX P w) P w K mg base N qual scope f cdv A outer s H E) (fun cv dd _ H' => E cv dd H') body m) : FnOk P w K mg base (L2.CX P w) (k + 1) f fd ps (spD K mg ps.length (runD N.length m)) :=
  F.ok S (fun vs H Q E h => h.1) fun cdv A outer s H vs Q E hr h => ⟨_, hbody cdv A outer s H E hr, body_ok h⟩
end

theorem Room.hu64 {k : Nat} {A : Around} (r : Room k A) : A.units + 64 < cLine := by have := r.un; omega
theorem Room.hu65 {k : Nat} {A : Around} (r : Room k A) : A.units + 65 < cLine := by have := r.un; omega
theorem Room.hu1 {k : Nat} {A : Around} (r : Room k A) : A.units + 1 < cLine := by have := r.un; omega
section
variable {X : Cx} {W : WX} {a b : Expr} {fa fb : FE} {pos : Pos}
/-- << of a number of at most 1000000 bits -/
abbrev gShlW : G2 := gI (fun i j => decide (0 ≤ j) && decide (j ≤ 1000000) && decide (i.natAbs < 2 ^ 4000)) fun i j => .int (i * 2 ^ j.toNat)
theorem op_shlA : OpR X (binaryOp .LShift) (rI CShl fun i j => .int (i * 2 ^ j.toNat)) := op_shlW
theorem im_shlW : Im2 X (rI CShl fun i j => .int (i * 2 ^ j.toNat)) gShlW := im_I (fun i j h => by
  simp only [Bool.and_eq_true, decide_eq_true_eq] at h
  obtain ⟨⟨h1, h2⟩, h3⟩ := h
  have q := shl_ok (i := i) (j := j.toNat) (n := 4000) h3 (by omega)
  rw [Int.toNat_of_nonneg h1] at q
  exact q) fun _ _ _ _ => .int _
/-- xs + ys, a new list -/
def fCat (fa fb : FE) : FA := fun ρ st => (fa ρ st).bind fun x st1 => (fb ρ st1).bind fun y st2 => match lstOf x st2, lstOf y st2 with
  | some xs, some ys => if xs.length + ys.length ≤ 100000 then .ok (xs ++ ys) st2 else .stuck
  | _, _ => .stuck
theorem pfl_cat (ha : PF X W a fa) (hb : PF X W b fb) : PFL X W (.BinOp a .Add b pos) (fCat fa fb) := PE_imp (pe_op op_cat ha hb) fun σ H Q h => by
  obtain ⟨ρ, st, w, sim, er, gd⟩ := h
  refine ⟨ρ, st, w, sim, er, Good.imp (fun x H1 q => ?_) (Good.bind gd)⟩
  obtain ⟨st1, w1, d1, sim1, s1, r1, gd1⟩ := q
  refine ⟨ρ, st1, w1, sim1, er.mono s1, Good.imp (fun y H2 q => ?_) (Good.bind gd1)⟩
  obtain ⟨st2, w2, d2, sim2, s2, r2, gd2⟩ := q
  split at gd2
  · rename_i xs ys ex ey
    split at gd2
    · rename_i hl
      obtain ⟨a, vs, rfl, q1, t1⟩ := lst_rd sim2 (r1.mono s2) ex
      obtain ⟨b, us, rfl, q2, t2⟩ := lst_rd sim2 r2 ey
      have hz : vs.length + us.length ≤ sizeLine := by rw [← q1.length, ← q2.length]; exact le_line hl
      exact ⟨a, b, vs, us, rfl, rfl, t1, t2, hz, fun p hp => gd2 w2 H2 _ .refl sim2 (q1.append q2) p hp (by rw [List.length_append]; exact hz)⟩
    · exact gd2.elim
  · exact gd2.elim
end
section
variable {P : Program} {w : World} {K : PySem.W.Frag} {mg : Str → Option Value} {base : Heap} {N : List Str} {qual : Str} {scope : Scope} {f : Addr} {cd : Value} {A : Around} {outer : List Env} {s : Shared} {H : Hp} {E : XK}
theorem tk_of : Takes (cxOf (L2.CX P w) P w K mg base N qual scope f cd A outer s H E) (fun cv dd _ H' => E cv dd H') := takes_of rfl rfl rfl rfl
theorem po_of : PassesOwn (model P w) (cxOf (L2.CX P w) P w K mg base N qual scope f cd A outer s H E).A (cxOf (L2.CX P w) P w K mg base N qual scope f cd A outer s H E).env (cxOf (L2.CX P w) P w K mg base N qual scope f cd A outer s H E).xe := passes_of rfl
end
end FB
set_option Elab.async false
set_option linter.all false
set_option maxRecDepth 100000
set_option maxHeartbeats 4000000
/-! FBH: the law's end. -/
namespace FB
open PySem PySem.Spec PyProof.Rows L2 RZ
theorem walk_ofW {l : PySem.W.OpenLaw} {n k : Nat} {q : Program} {loose : List Str} {XP : (Str → Option Value) → Heap → Prop} {YP : World → Heap → Prop} {d : DefRec} {x : Str}
    (hn : l.most = some n) (hn2 : n ≤ sizeLine) (hdf : d.params.defaults = []) (hr : Room k callerA)
    (F : ∀ (w : World) (mg : Str → Option Value) (fa : Addr) (h : Heap), YP w h → h.Ns mainGlobals mg → mg d.name = some (.ref fa) →
      ∃ (K : PySem.W.Frag) (fd : FuncData) (sp : Sp), K.In h ∧ (∀ (s : Shared) (u : Value), BindsTo s fd ⟨[u], []⟩ [(x, u)]) ∧
        (∀ (H : Hp) (a : Addr) (ns : List Int), ns.length ≤ n → Only H → SqL K H a (ns.map V.int) → sp [.ref a] H (fun v _ => v = .bl true) fun _ _ _ => False) ∧
        ∀ base : Heap, K.In base → base.Ns mainGlobals mg → FnOk l.prog w K mg base (L2.CX l.prog w) k fa fd [x] sp) :
    PySem.W.WalkO q loose XP YP l.row.toRowW d [] (fun f vs => PySem.call f vs) := by
  refine Att.attach_call hn hdf fun w s₀ s₁ mg mb fa o pm cd doc a vs ns G Y ho hd hcd hmg hobj hints hlen hg => ?_
  obtain ⟨K, fd, sp, KX, hb, hsp, hF⟩ := F w mg fa _ Y G.T.g hmg
  exact law_call KX G.T.g G.T.b G.T.builtins G.T.nolimit hg hobj hints (Nat.le_trans hlen hn2) hr hF hb (fun H hO hS => hsp H a ns hlen hO hS) fun H e s' c => by
    obtain ⟨_, _, _, _, _, _, _, _, _, _, _, _, q⟩ := c
    exact q.elim
theorem end_sp {K : PySem.W.Frag} {mg : Str → Option Value} {F : FD} {H : Hp} {a : Addr} {ns : List Int} {st' : So} (hO : Only H) (hS : SqL K H a (ns.map V.int)) (h : F [.frz ns] [] = .ok (.p (.bool true)) st') :
    spD K mg 1 F [.ref a] H (fun v _ => v = .bl true) fun _ _ _ => False := by
  refine ⟨rfl, [.frz ns], [], ⟨fun _ => 0, fun b => ∃ o xs, H b = some (.frz o (.lst xs)), fun _ => False⟩, ⟨fun i c e => by simp at e, fun i j hi => ?_, fun b ⟨o, xs, e⟩ => ⟨_, e⟩, fun b hb => hb.elim⟩, .cons (.frz ?_) .nil, ?_⟩
  · obtain ⟨c, e, _⟩ := hi
    simp at e
  · rcases hS with (hS | ⟨o, hS⟩) | hS
    · rcases hO a with e | ⟨o, xs, e⟩
      · rw [hS] at e; cases e
      · rw [hS] at e; cases e
    · exact .inl ⟨⟨o, _, hS⟩, o, hS⟩
    · exact .inr hS
  · rw [h]
    exact fun w' H' v s sim r => rd_bl r
end FB
set_option Elab.async false
set_option linter.all false
set_option maxRecDepth 100000
set_option maxHeartbeats 4000000
/-! FBX: exceptions as values: try .. except X as e, isinstance of them; calls without arguments; {} as data. -/
namespace FB
open PySem PySem.Spec PyProof.Rows L2 RZ
theorem excT_ok {P : Program} {w : World} {H : Hp} {h : Heap} {a C : Addr} {oe : Obj} {vs : Array Value} (e : h.get? a = some oe) (hc : oe.cls = .ref C) (hd : oe.dict = none) (hv : oe.data = .fields vs) : ObjOk P w H h a (excT a C) :=
  ⟨⟨oe, e, hc, hd, vs, hv⟩, ⟨oe, e⟩, fun _ _ ⟨o, e1, r⟩ k => ⟨o, k o e1, r⟩⟩
section
variable {X : Cx} {pins : List (Addr × Obj)} {σ : L2.St} {H : Hp} {sI s' : Shared} {B : Heap} {a : Addr} {ob : HO}
/-- the exception's object is tracked from here on -/
theorem landedX (I : Inv X pins σ H sI) (nb : ∀ b o, sI.heap.get? b = some o → b ∉ frs X.stack → B.get? b = some o) (st : B.StaysIn s'.heap) (up : sI.heap.UpToSlots s'.heap) (os : s'.os = sI.os) (ag : AllBare s'.gens)
    (na : H a = none) (nI : sI.heap.get? a = none) (new : ObjOk X.prog X.w (upd H a ob) s'.heap a ob) : Inv X pins σ (upd H a ob) s' := by
  have nf : ∀ b ∈ frs X.stack, ∀ o, sI.heap.get? b = some o → ∃ sl, s'.heap.get? b = some { o with slots := sl } := fun b hb o e => by
    obtain ⟨_, o', e', hd⟩ := I.stack.mem hb
    rw [e] at e'; cases e'
    exact up b o e hd
  have ne : ∀ b o, sI.heap.get? b = some o → b ≠ a := fun b o e z => by rw [z, nI] at e; cases e
  have hk : HOk X.prog X.w (upd H a ob) s'.heap := fun b u e => by
    by_cases hb : b = a
    · subst hb
      rw [upd_same] at e
      cases e
      exact new
    · rw [upd_ne hb] at e
      exact ((I.inGround nb).kept st b u e).stay (fun _ _ _ q => q) (fun c q => by rw [upd_ne (ne_of_none q na)]; exact q) fun c xs q => by rw [upd_ne (ne_of_none q na)]; exact q
  have J := I.call (ch := []) (h' := s'.heap) (g' := s'.gens) (t' := s'.toks) (d' := s'.drawn) (H' := upd H a ob)
    ⟨fun b o e _ hb _ => st b o (nb b o e hb), fun b o e _ hb _ => nf b hb o e, fun b o e n _ => by rw [upd_ne (ne b o e)]; exact n, fun b o e _ => by
      by_cases hb : b ∈ frs X.stack
      · obtain ⟨sl, q⟩ := nf b hb o e
        exact ⟨_, q⟩
      · exact ⟨o, st b o (nb b o e hb)⟩, fun b xs e => by rw [upd_ne (ne_of_none e na)]; exact e, fun b o u e => by rw [upd_ne (ne_of_none e na)]; exact e, fun b ps e => ⟨#[], by rw [upd_ne (ne_of_none e na), e]; simp⟩⟩
    hk ag (fun _ z => nomatch z)
  obtain ⟨a1, a2, a3, a4, a5⟩ := s'
  have e5 : a5 = sI.os := os
  subst e5
  exact J
theorem suiteX {s : Shared} (I : Inv X pins σ H s) (a : Addr) : Inv (X.suite a (X.pn ++ pins)) [] σ H s :=
  ⟨I.ok.suite _ _, I.os, I.bare, I.base, I.loc, I.cell, I.free, I.freeC, fun p hp => I.pin p (by rw [List.append_nil] at hp; exact hp), I.hok, I.len⟩
theorem unsuiteX {s : Shared} {pn' : List (Addr × Obj)} (I : Inv (X.suite a (X.pn ++ pins)) pn' σ H s) (ok : X.Ok) : Inv X pins σ H s :=
  ⟨ok, I.os, I.bare, I.base, I.loc, I.cell, I.free, I.freeC, fun p hp => I.pin p (List.mem_append_left _ hp), I.hok, I.len⟩
end
/-- what the clause wishes of an exception of the body -/
def wAsX (K : PySem.W.Frag) (cv : Value) (i : Nat) (ts : TS) (Wout : WX) (D : Ends) : WX := fun cls d σ H =>
  ∃ b, PySem.W.exmOne K cls cv = some b ∧ (b = true → ∃ C, cls = .ref C ∧ d = none ∧ ∀ a, H a = none → ts { nx := fun σ' H' => D.nx (σ'.set i none) H', rt := D.rt, bk := fun σ' H' => D.bk (σ'.set i none) H', ct := fun σ' H' => D.ct (σ'.set i none) H' } (σ.set i (some (.ref a))) (upd H a (excT a C))) ∧
    (b = false → Wout cls d σ H)
section
variable {X : Cx} {x n : Str} {cv : Value} {i : Nat} {body suite : List Stmt} {b₀ : Stmt} {np pos pos' : Pos} {tb : WX → TS} {ts : TS} {Wout : WX}
theorem ps_try_asX (hs : X.stack = X.env :: X.outer) (hf : X.env.frame = some X.env.locals) (hN : X.N.Nodup) (hi : X.N[i]? = some n) (hln : X.env.kindOf n = some .local) (hc : Names X x cv) (tk : Takes X Wout)
    (hb : ∀ (W : WX) (pn : List (Addr × Obj)) (xe : Value → Shared → Prop), Takes (X.tr pn xe) W → PassesOwn (model X.prog X.w) X.A X.env xe → PSs (X.tr pn xe) body (tb W))
    (hsu : ∀ (a : Addr) (pn : List (Addr × Obj)), PSs (X.suite a pn) (b₀ :: suite) ts) :
    PS X (.Try body [.ExceptHandler (some (.Name x np)) (some n) (b₀ :: suite) pos'] [] [] pos) (fun D σ H => tb (wAsX X.K cv i ts Wout D) D σ H) := by
  refine ⟨fun pins s σ H D I h => ?_⟩
  have ok := I.ok
  have hfr : X.A.frames = some (X.env :: X.outer) := by rw [ok.frames, hs]
  have hloc : Loc X.env.scope n := .inl hln
  refine wpAny_Try_except ?_
  refine wpAny_mono ((hb (wAsX X.K cv i ts Wout D) (X.pn ++ pins) (fun e s₁ => wpAny (model X.prog X.w) X.A (noteFrame e X.env) (fun _ s₂ => wpAny (model X.prog X.w) X.A (setFlight e none) (fun _ s₃ =>
    wpAny (model X.prog X.w) X.A (handleBy e X.env [.ExceptHandler (some (.Name x np)) (some n) (b₀ :: suite) pos']) (SP X pins D) X.xe s₃) X.xe s₂) X.xe s₁) (fun u s' xx => ?_) PassesOwn.looking).run [] s σ H D (I.toTry _) h) (fun f s1 hsp => ?_) (fun e s1 he => he)
  · obtain ⟨a, B, sI, pins', σ', H', cls, d, rfl, J', nb, up, sky, na, os, ag, b, hb1, hyes, hno⟩ := xx
    have J : Inv X pins σ' H' sI := J'.ofTry ok
    have sky' : Sky B (X.env :: X.outer) a (Zc cls d) X.env.locals s'.heap := by rw [← hs]; exact sky
    show wpAny (model X.prog X.w) X.A (noteFrame (.ref a) X.env) _ _ _
    refine Sky.land Zc.steady hfr hf sky' fun h3 fl3 up3 => ?_
    have J3 : Inv X pins σ' H' { s' with heap := h3 } := J.landed nb fl3.1 (up.trans up3) os ag
    obtain ⟨oe3, vs3, he3, hz3, hd3⟩ := fl3.there
    have notFr : ∀ {h : Heap} {o : Obj} {vs : Array Value}, h.FunFrames B (X.env :: X.outer) → h.get? a = some o → o.data = .fields vs → a ∉ frs (X.env :: X.outer) := fun {h o vs} ff e dd hm => by
      obtain ⟨_, o', e', hnf⟩ := ff.mem hm
      rw [e] at e'; cases e'
      exact hnf _ dd
    have nfr := notFr fl3.2.2.1 he3 hd3
    have nI : sI.heap.get? a = none := by
      cases q : sI.heap.get? a with
      | none => rfl
      | some o =>
        have z := nb a o q (by rw [hs]; exact nfr)
        rw [fl3.2.1] at z
        cases z
    have S3 := suiteX J3 a
    refine wpAny_handleBy_cons (codeAny_handlers_test ?_) (by intro q; cases q)
    have LT : PySem.W.Looks (model X.prog X.w) h3 (typeOf (.ref a)) cls := fun A Q E s k q => wpAny_typeOf_ref (k _ _ he3) (by rw [hz3.1]; exact q)
    have LM := PySem.W.exm_one (M := model X.prog X.w) (J3.kIn) LT hb1
    have test : ∀ {Q : Value → Shared → Prop} {E : Value → Shared → Prop}, Q cv { s' with heap := h3 } → wpAny (model X.prog X.w) (X.A.mark (some (.ref a))) (eval (.Name x np) X.env) Q E { s' with heap := h3 } := fun {Q E} q => by
      obtain ⟨hg, hdbg, hm | ⟨hm, hv, hnn⟩⟩ := hc
      · exact ld_glob (X := X.suite a (X.pn ++ pins)) S3 hg hm q hdbg
      · exact ld_blt (X := X.suite a (X.pn ++ pins)) S3 hg hm hv q hnn hdbg
    refine test (LM.here ?_)
    cases b with
    | true =>
      refine codeAny_handlers_suite_as ?_
      refine HandSPX.lands_againZ fl3 fun h4 fl4 up4 => ?_
      obtain ⟨C, rfl, rfl, hsuite⟩ := hyes rfl
      obtain ⟨oe4, vs4, he4, hz4, hd4⟩ := fl4.there
      have J4 : Inv X pins σ' (upd H' a (excT a C)) { s' with heap := h4 } := landedX (s' := { s' with heap := h4 }) J nb fl4.1 ((up.trans up3).trans up4) os ag na nI (excT_ok he4 hz4.1 hz4.2 hd4)
      have S4 := suiteX J4 a
      refine store_ok (X := X.suite a (X.pn ++ pins)) (v := .ref a) S4 hN hi hloc rfl (fun s5 S5 => ?_) (.inr hln)
      refine wpAny_mono ((hsu a (X.pn ++ pins)).run [] s5 _ (upd H' a (excT a C)) _ S5 (hsuite a na)) (fun f s6 hsp => ?_) (fun _ _ z => False.elim z)
      have end_ : ∀ {σ6 : L2.St} {H6 : Hp} {Q : Shared → Prop}, Inv (X.suite a (X.pn ++ pins)) [] σ6 H6 s6 → (∀ s7, Inv X pins (σ6.set i none) H6 s7 → Q s7) →
          wpAny (model X.prog X.w) X.A (do bindName X.env n .none; unbindBehindTheSuite X.env n pos') (fun _ s7 => Q s7) X.xe s6 := fun {σ6 H6 Q} S6 hq => gone_ok (unsuiteX S6 ok) hN hi hln hq
      cases f with
      | next =>
        obtain ⟨σ6, H6, S6, q6⟩ := hsp
        exact end_ S6 fun s7 J7 => ⟨_, _, J7, q6⟩
      | brk =>
        obtain ⟨σ6, H6, S6, q6⟩ := hsp
        exact end_ S6 fun s7 J7 => ⟨_, _, J7, q6⟩
      | cont =>
        obtain ⟨σ6, H6, S6, q6⟩ := hsp
        exact end_ S6 fun s7 J7 => ⟨_, _, J7, q6⟩
      | ret u =>
        obtain ⟨v6, σ6, H6, S6, r6, q6⟩ := hsp
        exact end_ S6 fun s7 J7 => ⟨_, _, _, J7, r6, q6⟩
    | false =>
      show wpAny _ X.A (handleBy (.ref a) X.env []) _ _ _
      refine wpAny_handleBy_nil ?_
      obtain ⟨k1, k2, k3, oe, vs, T, oT, ts', he, hz, hd, h1, hr⟩ := id fl3
      unfold PySem.passOn
      refine wpAny_bind (wpAny_field he hd h1 ?_)
      rw [if_neg (show ¬ ((Value.ref T == Value.none) = true) from by simp)]
      have fin : wpAny (model X.prog X.w) X.A (setFlight (.ref a) X.env.frame) (fun _ s4 => wpAny (model X.prog X.w) X.A (throw (.ref a) : Sem Flow) (SP X pins D) X.xe s4) X.xe { s' with heap := h3 } := by
        rw [hf]
        refine HandSPX.setFlight_upZ fl3 fun h4 hh4 up4 => wpAny_throw (tk _ _ ?_)
        exact ⟨a, B, sI, pins, σ', H', cls, d, rfl, J, nb, (up.trans up3).trans up4, .inr (.inr (by rw [hs]; exact hh4)), na, os, ag, hno rfl⟩
      first
        | exact wpAny_bind (wpAny_pure (wpAny_bind fin))
        | exact wpAny_bind fin
  · cases f with
    | next =>
      obtain ⟨σ', H', J', q⟩ := hsp
      exact wpAny_execs_nil ⟨σ', H', J'.ofTry ok, q⟩
    | brk =>
      obtain ⟨σ', H', J', q⟩ := hsp
      exact ⟨σ', H', J'.ofTry ok, q⟩
    | cont =>
      obtain ⟨σ', H', J', q⟩ := hsp
      exact ⟨σ', H', J'.ofTry ok, q⟩
    | ret u =>
      obtain ⟨v, σ', H', J', r, q⟩ := hsp
      exact ⟨v, σ', H', J'.ofTry ok, r, q⟩
end
/-! ### try .. except X as e, in the mirror -/
def unsetE (i : Nat) : Ss → Ss
  | .nx ρ st => .nx (ρ.set i none) st
  | .ret d st => .ret d st
  | .brk ρ st => .brk (ρ.set i none) st
  | .cnt ρ st => .cnt (ρ.set i none) st
  | .exc _ _ _ _ => .stuck
  | .stuck => .stuck
def sTryAs (i : Nat) (tst : Str → Option Bool) (body suite : FS) : FS := fun ρ st => match body ρ st with
  | .exc c fs ρ' st' => match fs, tst c with
    | [], some true => unsetE i (suite (ρ'.set i (some (.exc c []))) st')
    | fs, some false => .exc c fs ρ' st'
    | _, _ => .stuck
  | r => r
section
variable {X : Cx} {W : WX} {x n : Str} {cv : Value} {i : Nat} {body suite : List Stmt} {b₀ : Stmt} {np pos pos' : Pos} {gb gs : FS} {tst : Str → Option Bool}
theorem pfs_tryAs (hs : X.stack = X.env :: X.outer) (hf : X.env.frame = some X.env.locals) (hN : X.N.Nodup) (hi : X.N[i]? = some n) (hln : X.env.kindOf n = some .local) (hc : Names X x cv) (tk : Takes X W)
    (ht : ∀ (c : Str) (C : Addr) (b : Bool), X.mg c = some (.ref C) → tst c = some b → PySem.W.exmOne X.K (.ref C) cv = some b)
    (hb : ∀ (W : WX) (pn : List (Addr × Obj)) (xe : Value → Shared → Prop), Takes (X.tr pn xe) W → PassesOwn (model X.prog X.w) X.A X.env xe → PFSs (X.tr pn xe) W body gb)
    (hsu : ∀ (a : Addr) (pn : List (Addr × Obj)), PFSs (X.suite a pn) W0 (b₀ :: suite) gs) :
    PFS X W (.Try body [.ExceptHandler (some (.Name x np)) (some n) (b₀ :: suite) pos'] [] [] pos) (sTryAs i tst gb gs) :=
  PS_imp (ps_try_asX (tb := fun W => TFS X.K X.mg W gb) (ts := TFS X.K X.mg W0 gs) hs hf hN hi hln hc tk hb hsu) fun D σ H q => by
    obtain ⟨ρ, st, w, sim, er, gd⟩ := q
    refine ⟨ρ, st, w, sim, er, ?_⟩
    unfold sTryAs at gd
    cases e : gb ρ st with
    | nx ρ' st' => rw [e] at gd; exact gd
    | ret d st' => rw [e] at gd; exact gd
    | brk ρ' st' => rw [e] at gd; exact gd
    | cnt ρ' st' => rw [e] at gd; exact gd
    | stuck => rw [e] at gd; exact gd
    | exc c fs ρ' st' =>
      rw [e] at gd
      intro w' H' σ' cv2 dd s1 sim1 er1 ex
      obtain ⟨C, hm, rfl, hx⟩ := id ex
      cases et : tst c with
      | none =>
        exfalso
        cases fs with
        | nil => simp only [et] at gd; exact gd
        | cons p ps => simp only [et] at gd; exact gd
      | some b =>
        cases b with
        | false =>
          have gd1 : GoodS X.K X.mg W st.length w H D (.exc c fs ρ' st') := by
            cases fs with
            | nil => simp only [et] at gd; exact gd
            | cons p ps => simp only [et] at gd; exact gd
          exact ⟨false, ht c C false hm et, (fun z => nomatch z), fun _ => gd1 w' H' σ' _ dd s1 sim1 er1 ex⟩
        | true =>
          cases fs with
          | cons p ps =>
            exfalso
            simp only [et] at gd
            exact gd
          | nil =>
            have gd1 : GoodS X.K X.mg W st.length w H D (unsetE i (gs (ρ'.set i (some (.exc c []))) st')) := by
              simp only [et] at gd
              exact gd
            refine ⟨true, ht c C true hm et, fun _ => ⟨C, rfl, ?_, fun a ha => ?_⟩, fun z => nomatch z⟩
            · rcases hx with ⟨_, h⟩ | ⟨_, _, h, _⟩
              · exact h
              · exact absurd rfl h
            · obtain ⟨s2, sim2⟩ := sim1.newP (o := excT a C) ha
              have r : RD X.K X.mg st'.length (w'.imm a) (upd H' a (excT a C)) (.exc c []) (.ref a) := .exc hm (.inl rfl) upd_same
              refine ⟨_, st', w'.imm a, sim2, (er1.mono s2).set r i, ?_⟩
              have gd2 := gd1.later (s1.trans s2)
              cases e2 : gs (ρ'.set i (some (.exc c []))) st' with
              | nx ρ2 st2 =>
                rw [e2] at gd2
                exact fun w3 H3 σ3 s3 sim3 er3 => gd2 w3 H3 _ s3 sim3 (er3.setN i)
              | ret d st2 =>
                rw [e2] at gd2
                exact gd2
              | brk ρ2 st2 =>
                rw [e2] at gd2
                exact fun w3 H3 σ3 s3 sim3 er3 => gd2 w3 H3 _ s3 sim3 (er3.setN i)
              | cnt ρ2 st2 =>
                rw [e2] at gd2
                exact fun w3 H3 σ3 s3 sim3 er3 => gd2 w3 H3 _ s3 sim3 (er3.setN i)
              | exc c2 fs2 ρ2 st2 =>
                rw [e2] at gd2
                exact gd2.elim
              | stuck =>
                rw [e2] at gd2
                exact gd2.elim
end
/-! ### isinstance of an exception -/
def fIsX (tst : Str → Option Bool) (fa : FE) : FE := fun ρ st => (fa ρ st).bind fun d st1 => match d with
  | .exc c [] => match tst c with
    | some b => .ok (.p (.bool b)) st1
    | none => .stuck
  | _ => .stuck
def rIsX (K : PySem.W.Frag) : List V → Hp → VK → Prop := fun xs H Q => ∃ (a D : Addr) (c : V) (cv : Value) (b : Bool), xs = [.ref a, c] ∧ H a = some (excT a D) ∧ ExcC K D ∧ (∀ u, RelV c u → u = cv) ∧ PySem.W.kitOne K (.ref D) cv = some b ∧ Q (.bl b) H
section
variable {X : Cx} {W : WX}
theorem call_isX : CallR X (.builtin "isinstance") (rIsX X.K) := by
  intro pins s σ H xs us Q I r h
  obtain ⟨a, D, c, cv, b, rfl, ha, C, hcv, e, q⟩ := h
  cases r with
  | cons rx rr =>
    cases rr with
    | cons rt rr =>
      cases rr
      cases rx
      have ec := hcv _ rt
      subst ec
      obtain ⟨⟨oe, hget, h1, h2, vs, hv⟩, _⟩ := (show ObjOk X.prog X.w H s.heap a (excT a D) from I.hok a _ ha)
      have J : PySem.W.InstAt s.heap a oe D none := by
        obtain ⟨oc, od, oda, osl⟩ := oe
        dsimp only at h1 h2 hv
        subst h1 h2 hv
        exact ⟨hget, rfl, rfl, trivial⟩
      exact PySem.W.kia_one (PySem.W.handS_kitx_exc C.hg C.hk C.hs C.hd C.ha C.hn C.ht C.hm) I.kIn J e (fun z => nomatch z) fun tk => ⟨.bl b, H, I.kept (t' := tk) fun _ _ z => z, rfl, q⟩
variable {x : Str} {e : Expr} {fa : FE} {pt p pos : Pos} {tst : Str → Option Bool}
/-- a class of the program -/
theorem pf_isX {Cx' : Addr} (hm : X.mg "isinstance" = none) (hx : X.mg x = some (.ref Cx')) (ht : ∀ (c : Str) (C : Addr) (b : Bool), X.mg c = some (.ref C) → tst c = some b → ExcC X.K C ∧ PySem.W.kitOne X.K (.ref C) (.ref Cx') = some b) (h : PF X W e fa)
    (hg : Gl X "isinstance" := by rfl) (hgx : Gl X x := by rfl) (hdx : (x == ("__debug__" : Str)) = false := by decide)
    (he : starEach [e, .Name x pt] X.env = (false, eval e X.env) :: starEach [.Name x pt] X.env := by rfl) (he2 : starEach [.Name x pt] X.env = (false, eval (.Name x pt) X.env) :: starEach [] X.env := by rfl) (hpl : (backTo pos (starEach [.Name x pt] X.env)).any (·.1) = false := by rfl) :
    PF X W (.Call (.Name "isinstance" p) [e, .Name x pt] [] pos) (fIsX tst fa) :=
  PE_imp (pe_callB call_isX hg hm (by decide +kernel) (pa_cons h (pa_cons (pe_glob (v := .ref Cx') hgx hx rfl hdx) pa_nil he2) he) (by decide) (by decide) he hpl) fun σ H Q q => by
    obtain ⟨ρ, st, w, sim, er, gd⟩ := q
    refine ⟨ρ, st, w, sim, er, Good.imp (fun v H1 q => ?_) (Good.bind gd)⟩
    obtain ⟨st1, w1, d, sim1, s1, r1, gd1⟩ := q
    split at gd1
    · rename_i c
      split at gd1
      · rename_i b e2
        cases r1 with
        | exc m i ea =>
          obtain ⟨k1, k2⟩ := ht _ _ b m e2
          exact ⟨_, _, .ref Cx', .ref Cx', b, rfl, ea, k1, fun u r => r, k2, gd1 w1 H1 _ .refl sim1 (.p (.bl b))⟩
      · exact gd1.elim
    · exact gd1.elim
/-- a built-in class -/
theorem pf_isXB {T : String} (hm : X.mg "isinstance" = none) (hx : X.mg x = none) (hv : bootBuiltins x = some (.type T)) (ht : ∀ (c : Str) (C : Addr) (b : Bool), X.mg c = some (.ref C) → tst c = some b → ExcC X.K C ∧ PySem.W.kitOne X.K (.ref C) (.type T) = some b) (h : PF X W e fa)
    (hg : Gl X "isinstance" := by rfl) (hgx : Gl X x := by rfl) (hnx : x ≠ "__name__" := by decide) (hdx : (x == ("__debug__" : Str)) = false := by decide)
    (he : starEach [e, .Name x pt] X.env = (false, eval e X.env) :: starEach [.Name x pt] X.env := by rfl) (he2 : starEach [.Name x pt] X.env = (false, eval (.Name x pt) X.env) :: starEach [] X.env := by rfl) (hpl : (backTo pos (starEach [.Name x pt] X.env)).any (·.1) = false := by rfl) :
    PF X W (.Call (.Name "isinstance" p) [e, .Name x pt] [] pos) (fIsX tst fa) :=
  PE_imp (pe_callB call_isX hg hm (by decide +kernel) (pa_cons h (pa_cons (pe_bltn (v := .ty T) hgx hx hv rfl hnx hdx) pa_nil he2) he) (by decide) (by decide) he hpl) fun σ H Q q => by
    obtain ⟨ρ, st, w, sim, er, gd⟩ := q
    refine ⟨ρ, st, w, sim, er, Good.imp (fun v H1 q => ?_) (Good.bind gd)⟩
    obtain ⟨st1, w1, d, sim1, s1, r1, gd1⟩ := q
    split at gd1
    · rename_i c
      split at gd1
      · rename_i b e2
        cases r1 with
        | exc m i ea =>
          obtain ⟨k1, k2⟩ := ht _ _ b m e2
          exact ⟨_, _, .ty T, .type T, b, rfl, ea, k1, fun u r => r, k2, gd1 w1 H1 _ .refl sim1 (.p (.bl b))⟩
      · exact gd1.elim
    · exact gd1.elim
/-! ### calls without arguments, {} -/
theorem pe_callS0 {CX : CXT} {k : Nat} {f : Addr} {fd : FuncData} {ps : List Str} {sp : Sp} {E : L2.St → XK} (F : FnOk X.prog X.w X.K X.mg X.base CX k f fd ps sp) (hr : Room k X.A) (hg : Gl X x) (hm : X.mg x = some (.ref f)) (hk : PySem.W.keepIn X.K (.ref f) = true) (hb : Binds X.K fd ps []) (hx : ∀ σ, PassesAt CX X σ (E σ))
    (hdb : (x == ("__debug__" : Str)) = false := by decide) : PE X (.Call (.Name x p) [] [] pos) (tCallS sp E tNil) := by
  refine ⟨fun pins s σ H Q I h => ?_⟩
  refine wpAny_Call_Name_kw (ld_glob I hg hm ?_ hdb)
  exact PySem.W.callWith_K0 I.kIn hk (run_fnS (us := []) F hr hb (hx σ) I .nil h)
theorem pf_call0 {k : Nat} {f : Addr} {fd : FuncData} {ps : List Str} {F : FD} (G : FnOk X.prog X.w X.K X.mg X.base (L2.CX X.prog X.w) k f fd ps (spD X.K X.mg 0 F)) (hr : Room k X.A) (hg : Gl X x) (hm : X.mg x = some (.ref f))
    (hk : PySem.W.keepIn X.K (.ref f) = true) (hb : Binds X.K fd ps []) (tk : Takes X W) (hdb : (x == ("__debug__" : Str)) = false := by decide) :
    PF X W (.Call (.Name x p) [] [] pos) (fCall F fNil) := PE_imp (pe_callS0 G hr hg hm hk hb (fun σ => passAt tk σ) hdb) fun σ H Q h => by
  obtain ⟨ρ, st, w, sim, er, gd⟩ := h
  refine ⟨rfl, [], st, w, sim, .nil, ?_⟩
  have gd : Good (RD X.K X.mg) X.K X.mg W σ st.length w H Q (F [] st) := gd
  cases eF : F [] st with
  | ok d st2 => rw [eF] at gd; exact gd
  | exc c fs st2 => rw [eF] at gd; exact gd
  | stuck => rw [eF] at gd; exact gd
def fE0 : FE := fun _ st => .ok (.p (.dict [])) st
theorem pf_e0 : PF X W (.Dict [] [] pos) fE0 := PE_imp pe_dnewK fun σ H Q h => by
  obtain ⟨ρ, st, w, sim, er, gd⟩ := h
  intro q hq
  obtain ⟨s2, sim2⟩ := sim.newP (o := .dK []) hq
  exact gd _ _ _ s2 sim2 (.p (.dct (.inl rfl) upd_same .nil))
end
/-! ### a head with facts of one's own -/
abbrev obsX (fa : List He.Fa) (fn : List He.DefD) (ex : List (PySem.W.Frag → Bool)) (K : PySem.W.Frag) : He.AlD := (((fa.all fun f => f.ok K) && fn.all fun d => d.ok K) && ex.all fun p => p K, fn.map fun d => He.fnW K d.at_)
def SaysX (fa : List He.Fa) (fn : List He.DefD) (ex : List (PySem.W.Frag → Bool)) (K : PySem.W.Frag) : Prop := obsX fa fn ex K = He.valD fn
def obsXG (n : Nat) (fa : List He.Fa) (fn : List He.DefD) (ex : List (PySem.W.Frag → Bool)) (g : Addr → Option Obj) : He.AlD := obsX fa fn ex (He.frG g (He.asD g n))
def hookX (n : Nat) (fa : List He.Fa) (fn : List He.DefD) (ex : List (PySem.W.Frag → Bool)) : PySem.W.Hook where
  α := He.AlD
  obs := fun s => obsXG n fa fn ex s.heap.get?
  val := fun _ => He.valD fn
  says := fun _ h => ∃ K : PySem.W.Frag, K.In h ∧ SaysX fa fn ex K
  of := fun _ _ e => ⟨_, He.frG_in, e⟩
  keeps := fun _ _ _ ⟨K, hK, c⟩ k => ⟨K, PySem.W.Frag.In.keeps hK k, c⟩
theorem obsXG_eq {n : Nat} {fa : List He.Fa} {fn : List He.DefD} {ex : List (PySem.W.Frag → Bool)} {g : Addr → Option Obj} {s : Shared} (h : ∀ a, g a = s.heap.get? a) : obsXG n fa fn ex g = (hookX n fa fn ex).obs s := by
  have e : g = s.heap.get? := funext h
  rw [e] <;> rfl
theorem SaysX.d {fa : List He.Fa} {fn : List He.DefD} {ex : List (PySem.W.Frag → Bool)} {K : PySem.W.Frag} (c : SaysX fa fn ex K) : He.SaysD fa fn K := by
  have h1 := (Bool.and_eq_true_iff.mp (show (((fa.all fun f => f.ok K) && fn.all fun d => d.ok K) && ex.all fun p => p K) = true from congrArg (fun z : He.AlD => z.1) c)).1
  have h2 : fn.map (fun d => He.fnW K d.at_) = fn.map He.DefD.val := congrArg (fun z : He.AlD => z.2) c
  show ((fa.all fun f => f.ok K) && fn.all fun d => d.ok K, fn.map fun d => He.fnW K d.at_) = (true, fn.map He.DefD.val)
  rw [h1, h2]
theorem SaysX.ex {fa : List He.Fa} {fn : List He.DefD} {ex : List (PySem.W.Frag → Bool)} {K : PySem.W.Frag} (c : SaysX fa fn ex K) (i : Nat) {p : PySem.W.Frag → Bool} (h : ex[i]? = some p := by rfl) : p K = true := by
  have h1 := (Bool.and_eq_true_iff.mp (show (((fa.all fun f => f.ok K) && fn.all fun d => d.ok K) && ex.all fun p => p K) = true from congrArg (fun z : He.AlD => z.1) c)).2
  exact List.all_eq_true.mp h1 p (List.mem_of_getElem? h)
/-- what ExcC asks, as a look -/
def excCB (x : Str) (K : PySem.W.Frag) : Bool := decide (PySem.W.findIn K (.ref (He.ga K x)) "__getattribute__" = some (some (.builtin "BaseException.__getattribute__"))) && (decide (PySem.W.findIn K (.ref (He.ga K x)) "__getattr__" = some none) &&
  (decide (PySem.W.subIn K (.ref (He.ga K x)) (.type "BaseException") = some true) && (PySem.W.hasDictIn K (He.ga K x) && (decide (PySem.W.findIn K (.ref (He.ga K x)) "__class__" = some (some (.builtin "object.__class__"))) &&
  (decide (PySem.W.specialIn K (.builtin "object.__class__") "__get__" = some (some (.builtin "getset_descriptor.__get__"))) && (decide (PySem.W.takesIn K (.builtin "object.__class__") = some true) && decide (PySem.W.mroIn K (He.ga K x) (.type "object") = some true)))))))
theorem excCB_ok {x : Str} {K : PySem.W.Frag} (h : excCB x K = true) : ExcC K (He.ga K x) := by
  unfold excCB at h
  simp only [Bool.and_eq_true, decide_eq_true_eq] at h
  obtain ⟨h1, h2, h3, h4, h5, h6, h7, h8⟩ := h
  exact ⟨h1, h2, h3, h4, h5, h6, h7, h8⟩
def tsL : List (Str × Bool) → Str → Option Bool
  | [], _ => none
  | p :: r, c => if c = p.1 then some p.2 else tsL r c
theorem tsL_nil {P : Str → Bool → Prop} : ∀ c b, tsL [] c = some b → P c b := fun _ _ h => nomatch h
theorem tsL_cons {P : Str → Bool → Prop} {x : Str} {b0 : Bool} {r : List (Str × Bool)} (h1 : P x b0) (h2 : ∀ c b, tsL r c = some b → P c b) : ∀ c b, tsL ((x, b0) :: r) c = some b → P c b := fun c b h => by
  unfold tsL at h
  by_cases e : c = x
  · rw [if_pos e] at h
    cases h
    exact e ▸ h1
  · rw [if_neg e] at h
    exact h2 c b h
theorem at_ga {mg : Str → Option Value} {x : Str} {C D : Addr} (h1 : mg x = some (.ref C)) (h2 : mg x = some (.ref D)) : C = D := by
  rw [h1] at h2
  exact Value.ref.inj (Option.some.inj h2)
def kitXB (c x : Str) (b : Bool) (K : PySem.W.Frag) : Bool := decide (PySem.W.kitOne K (.ref (He.ga K c)) (.ref (He.ga K x)) = some b)
def kitTB (c : Str) (T : String) (b : Bool) (K : PySem.W.Frag) : Bool := decide (PySem.W.kitOne K (.ref (He.ga K c)) (.type T) = some b)
end FB
set_option Elab.async false
set_option linter.all false
set_option maxRecDepth 100000
set_option maxHeartbeats 4000000
/-! PL0: reckoning with the mirror functions. -/
namespace FB
open PySem PySem.Spec PyProof.Rows L2 RZ
section
variable {α β : Type} {ρ : Sl} {st : So} {i j : Nat} {fa fb fc : FE} {fr : FA} {t u : FT} {g : G2} {g1 : G1} {ga gb : FS} {a : α} {f : α → So → Rs β} {h : α → So → Ss}
@[simp] theorem bind_ok : (Rs.ok a st).bind f = f a st := (rfl)
@[simp] theorem bindN_ok : (Rs.ok a st).bindN f = f a st := (rfl)
@[simp] theorem st_ok : (Rs.ok a st).st ρ h = h a st := (rfl)
@[simp] theorem toR_some {d : Dv} : toR st (some d) = .ok d st := (rfl)
@[simp] theorem ev_c {d : PyData} : fC d ρ st = .ok (.p d) st := (rfl)
@[simp] theorem ev_op : fOp g fa fb ρ st = (fa ρ st).bind fun x st1 => (fb ρ st1).bind fun y st2 => toR st2 (g x y st2) := (rfl)
@[simp] theorem ev_un : fUn g1 fa ρ st = (fa ρ st).bind fun x st1 => toR st1 (g1 x st1) := (rfl)
@[simp] theorem ev_tb : fTB fa ρ st = (fa ρ st).bind asB := (rfl)
@[simp] theorem ev_asB {b : Bool} : asB (.p (.bool b)) st = .ok b st := (rfl)
@[simp] theorem ev_tnot : fTNot t ρ st = (t ρ st).bind fun b st1 => .ok (!b) st1 := (rfl)
@[simp] theorem ev_tand : fTAnd t u ρ st = (t ρ st).bind fun b st1 => if b then u ρ st1 else .ok false st1 := (rfl)
@[simp] theorem ev_tor : fTOr t u ρ st = (t ρ st).bind fun b st1 => if b then .ok true st1 else u ρ st1 := (rfl)
@[simp] theorem ev_and : fAnd fa fb ρ st = (fTB fa ρ st).bind fun b st1 => if b then fb ρ st1 else .ok (.p (.bool false)) st1 := (rfl)
@[simp] theorem ev_or : fOr fa fb ρ st = (fTB fa ρ st).bind fun b st1 => if b then .ok (.p (.bool true)) st1 else fb ρ st1 := (rfl)
@[simp] theorem ev_not : fNot fa ρ st = (fTB fa ρ st).bind fun b st1 => .ok (.p (.bool (!b))) st1 := (rfl)
@[simp] theorem ev_if : fIf t fa fb ρ st = (t ρ st).bind fun b st1 => if b then fa ρ st1 else fb ρ st1 := (rfl)
@[simp] theorem ev_nil : fNil ρ st = .ok [] st := (rfl)
@[simp] theorem ev_cons : fCons fa fr ρ st = (fa ρ st).bind fun x st1 => (fr ρ st1).bind fun xs st2 => .ok (x :: xs) st2 := (rfl)
@[simp] theorem ev_tup : fTup fr ρ st = (fr ρ st).bind fun xs st1 => if small xs then .ok (mkT xs) st1 else .stuck := (rfl)
@[simp] theorem ev_pure : fPure fr ρ st = (fr ρ st).bind fun xs st1 => if small xs then .ok (mkL xs) st1 else .stuck := (rfl)
@[simp] theorem ev_cell : fCell fr ρ st = (fr ρ st).bind fun xs st1 => if small xs then .ok (.ref st1.length) (st1 ++ [.lst xs]) else .stuck := (rfl)
@[simp] theorem ev_cb {g : GA} : fCB g fr ρ st = (fr ρ st).bind fun xs st1 => toR st1 (g xs st1) := (rfl)
@[simp] theorem ev_next : sNext ρ st = .nx ρ st := (rfl)
@[simp] theorem ev_pass : sPass ρ st = .nx ρ st := (rfl)
@[simp] theorem ev_drop : sDrop fa ρ st = (fa ρ st).st ρ fun _ st1 => .nx ρ st1 := (rfl)
@[simp] theorem ev_ret : sRet fa ρ st = (fa ρ st).st ρ fun d st1 => .ret d st1 := (rfl)
@[simp] theorem ev_sif : sIf t ga gb ρ st = (t ρ st).st ρ fun b st1 => if b then ga ρ st1 else gb ρ st1 := (rfl)
@[simp] theorem ev_asg {tg : Tg} : sAsg fa tg ρ st = (fa ρ st).st ρ fun d st1 => toE (tgF tg d ρ) fun ρ' => .nx ρ' st1 := (rfl)
@[simp] theorem ev_call {F : FD} : fCall F fr ρ st = (fr ρ st).bind F := (rfl)
@[simp] theorem ev_seq : sSeq ga gb ρ st = match ga ρ st with
  | .nx ρ' st' => gb ρ' st'
  | r => r := (rfl)
@[simp] theorem ev_var : fVar i ρ st = match ρ[i]? with
  | some (some d) => .ok d st
  | _ => .stuck := (rfl)
@[simp] theorem toE_some {r : Sl} {k : Sl → Ss} : toE (some r) k = k r := (rfl)
@[simp] theorem tg_nm {d : Dv} : tgF (.nm i) d ρ = some (ρ.set i (some d)) := by unfold tgF; rfl
@[simp] theorem tgs_nil : tgFs [] [] ρ = some ρ := by unfold tgFs; rfl
@[simp] theorem tgs_cons {t : Tg} {ts : List Tg} {d : Dv} {ds : List Dv} : tgFs (t :: ts) (d :: ds) ρ = match tgF t d ρ with
  | some ρ' => tgFs ts ds ρ'
  | none => none := by
  conv => lhs; unfold tgFs
  all_goals rfl
@[simp] theorem tg_tpP {ts : List Tg} {xs : List PyData} : tgF (.tp ts) (.p (.tuple xs)) ρ = if (xs.map Dv.p).length = ts.length then tgFs ts (xs.map Dv.p) ρ else none := by unfold tgF; rfl
@[simp] theorem tg_tpD {ts : List Tg} {xs : List Dv} : tgF (.tp ts) (.tupD xs) ρ = if xs.length = ts.length then tgFs ts xs ρ else none := by unfold tgF; rfl
@[simp] theorem ev_for {fi : FA} {tg : Tg} : sFor fi tg ga ρ st = (fi ρ st).st ρ fun items st1 => sForL tg ga items ρ st1 := (rfl)
@[simp] theorem ev_list : fListOf fa ρ st = (fa ρ st).bind fun d st1 => match seqOf d st1 with
  | some ys => if small ys then .ok ys st1 else .stuck
  | none => .stuck := (rfl)
@[simp] theorem ev_rng {g : List Dv → Option (List Dv)} : fRng g fr ρ st = (fr ρ st).bind fun xs st1 => optR st1 (g xs) := (rfl)
@[simp] theorem ev_fst {g : List Dv → So → Option (List Dv)} : fSt g fr ρ st = (fr ρ st).bind fun xs st1 => optR st1 (g xs st1) := (rfl)
@[simp] theorem optR_some : optR st (some a) = .ok a st := (rfl)
@[simp] theorem ev_nop : fNoP ρ st = .ok none st := (rfl)
@[simp] theorem ev_pt : fPt fa ρ st = (fa ρ st).bind asI := (rfl)
@[simp] theorem ev_asI {k : Int} : asI (.p (.int k)) st = .ok (some k) st := (rfl)
@[simp] theorem ev_sl {fl fh : FO} : fSl fa fl fh ρ st = (fa ρ st).bind fun x st1 => (fl ρ st1).bind fun lo st2 => (fh ρ st2).bind fun hi st3 => toR st3 (gSl x lo hi st3) := (rfl)
@[simp] theorem ev_mth {g : GM} {fo : FE} : fMth g fo fr ρ st = (fo ρ st).bind fun x st1 => if isLst x st1 then (fr ρ st1).bind fun xs st2 => toM (g x xs st2) else .stuck := (rfl)
@[simp] theorem ev_mth0 {g : GM} {fo : FE} : fMth0 g fo ρ st = (fo ρ st).bind fun x st1 => if isLst x st1 then toM (g x [] st1) else .stuck := (rfl)
@[simp] theorem toM_some {d : Dv} : toM (some (d, st)) = .ok d st := (rfl)
@[simp] theorem ev_par : sPar i j fr ρ st = (fr ρ st).st ρ fun vs st1 => match vs with
  | [a, b] => .nx ((ρ.set i (some a)).set j (some b)) st1
  | _ => .stuck := (rfl)
@[simp] theorem ev_par3 {k : Nat} : sPar3 i j k fr ρ st = (fr ρ st).st ρ fun vs st1 => match vs with
  | [a, b, c] => .nx (((ρ.set i (some a)).set j (some b)).set k (some c)) st1
  | _ => .stuck := (rfl)
@[simp] theorem ev_isT {T : String} : fIsT T fa ρ st = (fa ρ st).bind fun d st1 => match tyOf d st1 with
  | some n => match kitB n T with
    | some b => .ok (.p (.bool b)) st1
    | none => .stuck
  | none => .stuck := (rfl)
@[simp] theorem ev_chain {g' : G2} : fChain g g' fa fb fc ρ st = (fa ρ st).bind fun x st1 => (fb ρ st1).bind fun y st2 => match g x y st2 with
  | some (.p (.bool true)) => (fc ρ st2).bind fun z st3 => toR st3 (g' y z st3)
  | some (.p (.bool false)) => .ok (.p (.bool false)) st2
  | _ => .stuck := (rfl)
@[simp] theorem ev_lenSet : fLenSet fa ρ st = (fa ρ st).bind fun d st1 => match tupOf d with
  | some ds => match txts ds with
    | some xs => if xs.length < 4000 then .ok (.p (.int (lenSet xs : Nat))) st1 else .stuck
    | none => .stuck
  | none => .stuck := (rfl)
@[simp] theorem ev_cat : fCat fa fb ρ st = (fa ρ st).bind fun x st1 => (fb ρ st1).bind fun y st2 => match lstOf x st2, lstOf y st2 with
  | some xs, some ys => if xs.length + ys.length ≤ 100000 then .ok (xs ++ ys) st2 else .stuck
  | _, _ => .stuck := (rfl)
@[simp] theorem ev_indexT : fIndexT fa fr ρ st = (fa ρ st).bind fun x st1 => match x with
  | .p (.tuple ds) => (fr ρ st1).bind fun xs st2 => toR st2 (gIndexT (.p (.tuple ds)) xs)
  | _ => .stuck := (rfl)
@[simp] theorem ev_get2 {fo fk fd : FE} : fGet2 fo fk fd ρ st = (fo ρ st).bind fun x st1 => match dictOf x st1 with
  | some _ => (fk ρ st1).bind fun y st2 => (fd ρ st2).bind fun z st3 => match dictOf x st3, keyD y with
    | some (_, kvs), some k => .ok ((atK kvs k).getD z) st3
    | _, _ => .stuck
  | none => .stuck := (rfl)
@[simp] theorem ev_aug {fe : FE} : sAug i g fe ρ st = match ρ[i]? with
  | some (some d) => (fe ρ st).st ρ fun y st1 => match g d y st1 with
    | some z => .nx (ρ.set i (some z)) st1
    | none => .stuck
  | _ => .stuck := (rfl)
@[simp] theorem ev_ext {fe : FE} : sExt i fe ρ st = match ρ[i]? with
  | some (some d) => (fe ρ st).st ρ fun y st1 => match cellL d st1, lstOf y st1 with
    | some (j, xs), some ys => if xs.length + ys.length ≤ 100000 then .nx ρ (st1.set j (.lst (xs ++ ys))) else .stuck
    | _, _ => .stuck
  | _ => .stuck := (rfl)
@[simp] theorem forL_nil {tg : Tg} : sForL tg ga [] ρ st = .nx ρ st := (rfl)
@[simp] theorem forL_cons {tg : Tg} {d : Dv} {ds : List Dv} : sForL tg ga (d :: ds) ρ st = toE (tgF tg d ρ) fun ρ' => match ga ρ' st with
    | .nx ρ2 st2 => sForL tg ga ds ρ2 st2
    | .cnt ρ2 st2 => sForL tg ga ds ρ2 st2
    | .brk ρ2 st2 => .nx ρ2 st2
    | r => r := (rfl)
end
/-! ### the store -/
/-- a cell that names no other cell -/
def flatC (c : Cl) : Prop := ∀ n, lowC n c = true
def Flat (st : So) : Prop := ∀ c ∈ st, flatC c
theorem go_map {n : Nat} : ∀ xs : List PyData, lowD.go n (xs.map Dv.p) = true
  | [] => rfl
  | x :: xs => by
    show (lowD n (.p x) && lowD.go n (xs.map Dv.p)) = true
    rw [go_map xs]; rfl
theorem flat_lst (xs : List PyData) : flatC (.lst (xs.map Dv.p)) := fun n => go_map xs
theorem flat_dead : flatC .dead := fun _ => rfl
theorem Flat.nil : Flat [] := fun c h => by cases h
theorem Flat.app {a b : So} (h : Flat a) (h' : Flat b) : Flat (a ++ b) := fun c hc => (List.mem_append.mp hc).elim (h c) (h' c)
theorem Flat.one {c : Cl} (h : flatC c) : Flat [c] := fun d hd => by rw [List.mem_singleton.mp hd]; exact h
theorem Flat.set {st : So} {i : Nat} {c : Cl} (h : Flat st) (hc : flatC c) : Flat (st.set i c) := fun d hd => (List.mem_or_eq_of_mem_set hd).elim (h d) (fun e => e ▸ hc)
theorem Flat.all {st : So} (h : Flat st) (n : Nat) : st.all (lowC n) = true := List.all_eq_true.mpr fun c hc => h c hc n
theorem trim_same {n : Nat} {d : Dv} {st : So} (h : st.length = n) : trim n d st = st := by
  unfold trim
  split
  · rw [← h, List.take_length]
  · rfl
theorem trim_app {d : Dv} {st ex : So} (h : Flat st) (hd : lowD st.length d = true) : trim st.length d (st ++ ex) = st := by
  unfold trim
  rw [List.take_left, hd, h.all]
  rfl
theorem trim_app' {n : Nat} {d : Dv} {st ex : So} (hn : st.length = n) (h : Flat st) (hd : lowD n d = true) : trim n d (st ++ ex) = st := by
  subst hn; exact trim_app h hd
@[simp] theorem low_p {n : Nat} {x : PyData} : lowD n (.p x) = true := (rfl)
theorem runD_ret {N : Nat} {body : FS} {args : List Dv} {st st' : So} {d : Dv} (h : body (args.map some ++ List.replicate (N - args.length) none) st = .ret d st') : runD N body args st = .ok d (trim st.length d st') := by
  unfold runD; rw [h]
theorem runD_nx {N : Nat} {body : FS} {args : List Dv} {st st' : So} {ρ' : Sl} (h : body (args.map some ++ List.replicate (N - args.length) none) st = .nx ρ' st') : runD N body args st = .ok (.p .none) (trim st.length (.p .none) st') := by
  unfold runD; rw [h]
/-- a def that leaves the store as it was -/
theorem runD_pure {N : Nat} {body : FS} {args : List Dv} {st ex : So} {x : PyData} (hF : Flat st) (h : body (args.map some ++ List.replicate (N - args.length) none) st = .ret (.p x) (st ++ ex)) : runD N body args st = .ok (.p x) st := by
  rw [runD_ret h, trim_app hF rfl]
theorem runD_pure0 {N : Nat} {body : FS} {args : List Dv} {st : So} {x : PyData} (h : body (args.map some ++ List.replicate (N - args.length) none) st = .ret (.p x) st) : runD N body args st = .ok (.p x) st := by
  rw [runD_ret h, trim_same rfl]
theorem runD_none0 {N : Nat} {body : FS} {args : List Dv} {st : So} {ρ' : Sl} (h : body (args.map some ++ List.replicate (N - args.length) none) st = .nx ρ' st) : runD N body args st = .ok (.p .none) st := by
  rw [runD_nx h, trim_same rfl]
/-! ### comprehensions whose parts leave the store -/
theorem cmpL_pure {α : Type} {tg : Tg} {tt : FT} {fe : FE} {ρ : Sl} {st : So} {f : α → Dv} {r : α → Sl} {p : α → Bool} {g : α → Dv} : ∀ (xs : List α) (acc : List Dv),
    (∀ x ∈ xs, tgF tg (f x) ρ = some (r x)) → (∀ x ∈ xs, tt (r x) st = .ok (p x) st) → (∀ x ∈ xs, p x = true → fe (r x) st = .ok (g x) st) → cmpL tg tt fe ρ (xs.map f) acc st = .ok (acc ++ (xs.filter p).map g) st
  | [], acc, _, _, _ => by simp [cmpL]
  | x :: xs, acc, h1, h2, h3 => by
    have ih := fun acc => cmpL_pure (r := r) (p := p) (g := g) xs acc (fun y hy => h1 y (List.mem_cons_of_mem _ hy)) (fun y hy => h2 y (List.mem_cons_of_mem _ hy)) (fun y hy => h3 y (List.mem_cons_of_mem _ hy))
    rw [List.map_cons]
    unfold cmpL
    simp only [h1 x List.mem_cons_self, h2 x List.mem_cons_self, bindN_ok]
    cases e : p x with
    | true => simp [h3 x List.mem_cons_self e, ih, e]
    | false => simp [ih, e]
theorem cmpL_all {α : Type} {tg : Tg} {fe : FE} {ρ : Sl} {st : So} {f : α → Dv} {r : α → Sl} {g : α → Dv} (xs : List α) (h1 : ∀ x ∈ xs, tgF tg (f x) ρ = some (r x)) (h3 : ∀ x ∈ xs, fe (r x) st = .ok (g x) st) : cmpL tg tYesF fe ρ (xs.map f) [] st = .ok (xs.map g) st := by
  rw [cmpL_pure (p := fun _ => true) (g := g) xs [] h1 (fun _ _ => rfl) fun x hx _ => h3 x hx, List.nil_append, List.filter_eq_self.mpr fun _ _ => rfl]
theorem cmpC_pure {α : Type} {tg : Tg} {tt : FT} {fe : FE} {ρ : Sl} {st : So} {i : Nat} {f : α → Dv} {r : α → Sl} {p : α → Bool} {g : α → Dv} {all : List α} (hs : st[i]? = some (.lst (all.map f)))
    (h1 : ∀ x ∈ all, tgF tg (f x) ρ = some (r x)) (h2 : ∀ x ∈ all, tt (r x) st = .ok (p x) st) (h3 : ∀ x ∈ all, p x = true → fe (r x) st = .ok (g x) st) : ∀ (fu k : Nat) (acc : List Dv), all.length - k < fu → cmpC tg tt fe ρ i fu k acc st = .ok (acc ++ ((all.drop k).filter p).map g) st
  | 0, k, acc, h => by omega
  | fu + 1, k, acc, h => by
    unfold cmpC cellAt
    rw [hs]
    dsimp only
    rw [List.getElem?_map]
    by_cases hk : k < all.length
    · have hm : all[k] ∈ all := List.getElem_mem hk
      rw [List.getElem?_eq_getElem hk, List.drop_eq_getElem_cons hk]
      simp only [Option.map_some, h1 _ hm, h2 _ hm, bindN_ok]
      have ih := fun acc => cmpC_pure hs h1 h2 h3 fu (k + 1) acc (by omega)
      cases e : p all[k] with
      | true => simp [h3 _ hm e, ih, e, -List.getElem_cons_drop]
      | false => simp [ih, e, -List.getElem_cons_drop]
    · rw [List.getElem?_eq_none (by omega), List.drop_eq_nil_of_le (by omega)]
      simp
/-! ### words, rows -/
abbrev sD (x : Str) : Dv := .p (.str x)
def tw (ws : List Str) : Dv := .p (.tuple (ws.map PyData.str))
def lw (ws : List Str) : Dv := .p (.list (ws.map PyData.str))
theorem map_sD (ws : List Str) : (ws.map PyData.str).map Dv.p = ws.map sD := by rw [List.map_map]; rfl
@[simp] theorem tup_tw (ws : List Str) : tupOf (tw ws) = some (ws.map sD) := by
  show some ((ws.map PyData.str).map Dv.p) = _
  rw [map_sD]
@[simp] theorem seq_tw (ws : List Str) (st : So) : seqOf (tw ws) st = some (ws.map sD) := by
  unfold seqOf
  show (match tupOf (tw ws) with | some xs => some xs | none => lstOf (tw ws) st) = _
  rw [tup_tw]
@[simp] theorem items_tw (ws : List Str) (st : So) : itemsOf (tw ws) st = some (ws.map sD) := seq_tw ws st
@[simp] theorem tup_lw (ws : List Str) : tupOf (lw ws) = none := (rfl)
@[simp] theorem lst_lw (ws : List Str) (st : So) : lstOf (lw ws) st = some (ws.map sD) := by
  show some ((ws.map PyData.str).map Dv.p) = _
  rw [map_sD]
@[simp] theorem seq_lw (ws : List Str) (st : So) : seqOf (lw ws) st = some (ws.map sD) := by
  unfold seqOf
  show (match tupOf (lw ws) with | some xs => some xs | none => lstOf (lw ws) st) = _
  rw [tup_lw]
  exact lst_lw ws st
@[simp] theorem items_lw (ws : List Str) (st : So) : itemsOf (lw ws) st = some (ws.map sD) := seq_lw ws st
@[simp] theorem mkT_s (ws : List Str) : mkT (ws.map sD) = tw ws := by
  unfold mkT
  rw [← map_sD, pures_map]
  rfl
@[simp] theorem mkL_s (ws : List Str) : mkL (ws.map sD) = lw ws := by
  unfold mkL
  rw [← map_sD, pures_map]
  rfl
theorem mkT_p (xs : List PyData) : mkT (xs.map Dv.p) = .p (.tuple xs) := by unfold mkT; rw [pures_map]
theorem mkL_p (xs : List PyData) : mkL (xs.map Dv.p) = .p (.list xs) := by unfold mkL; rw [pures_map]
@[simp] theorem txts_s : ∀ ws : List Str, txts (ws.map sD) = some ws
  | [] => rfl
  | w :: ws => by
    show (txts (ws.map sD)).map (w :: ·) = _
    rw [txts_s ws]; rfl
theorem flVs_s : ∀ ws : List Str, flVs (ws.map sD) = some (ws.map V.str)
  | [] => rfl
  | w :: ws => by
    show (match flV (sD w), flVs (ws.map sD) with | some v, some vs => some (v :: vs) | _, _ => none) = _
    rw [flVs_s ws]; rfl
theorem inV_s (x : Str) (ws : List Str) : inV (.str x) (ws.map V.str) = decide (x ∈ ws) := by
  unfold inV
  rw [List.any_map, Bool.eq_iff_iff, List.any_eq_true, decide_eq_true_eq]
  constructor
  · rintro ⟨y, hy, e⟩
    have : (y == x) = true := e
    rw [beq_iff_eq] at this
    exact this ▸ hy
  · exact fun h => ⟨x, h, beq_self_eq_true x⟩
theorem mem_seq {x : Str} {d : Dv} {ws : List Str} {st : So} (hd : seqOf d st = some (ws.map sD)) (hn : ∀ z, d ≠ .p (.str z)) : memD (sD x) d st = some (decide (x ∈ ws)) := by
  unfold memD
  split
  · rename_i a z e
    exact absurd rfl (hn z)
  · rw [hd]
    dsimp only
    rw [flVs_s]
    show some (inV (.str x) (ws.map V.str)) = _
    rw [inV_s]
@[simp] theorem gIn_tw (x : Str) (ws : List Str) (st : So) : gIn (sD x) (tw ws) st = some (.p (.bool (decide (x ∈ ws)))) := by
  unfold gIn; rw [mem_seq (seq_tw ws st) (fun z e => by cases e)]; rfl
@[simp] theorem gNotIn_tw (x : Str) (ws : List Str) (st : So) : gNotIn (sD x) (tw ws) st = some (.p (.bool (!decide (x ∈ ws)))) := by
  unfold gNotIn; rw [mem_seq (seq_tw ws st) (fun z e => by cases e)]; rfl
@[simp] theorem gIn_lw (x : Str) (ws : List Str) (st : So) : gIn (sD x) (lw ws) st = some (.p (.bool (decide (x ∈ ws)))) := by
  unfold gIn; rw [mem_seq (seq_lw ws st) (fun z e => by cases e)]; rfl
@[simp] theorem gNotIn_lw (x : Str) (ws : List Str) (st : So) : gNotIn (sD x) (lw ws) st = some (.p (.bool (!decide (x ∈ ws)))) := by
  unfold gNotIn; rw [mem_seq (seq_lw ws st) (fun z e => by cases e)]; rfl
@[simp] theorem gLen_tw (ws : List Str) (st : So) : gLen [tw ws] st = some (.p (.int ws.length)) := by
  show (seqOf (tw ws) st).map (fun ys => Dv.p (.int ys.length)) = _
  rw [seq_tw]; simp
@[simp] theorem gLen_lw (ws : List Str) (st : So) : gLen [lw ws] st = some (.p (.int ws.length)) := by
  show (seqOf (lw ws) st).map (fun ys => Dv.p (.int ys.length)) = _
  rw [seq_lw]; simp
@[simp] theorem ty_tw (ws : List Str) (st : So) : tyOf (tw ws) st = some "tuple" := (rfl)
@[simp] theorem gEq_s (a b : Str) (st : So) : gEq (sD a) (sD b) st = some (.p (.bool (decide (a = b)))) := (rfl)
@[simp] theorem gNe_s (a b : Str) (st : So) : gNe (sD a) (sD b) st = some (.p (.bool (!decide (a = b)))) := (rfl)
@[simp] theorem gEq_i (a b : Int) (st : So) : gEq (.p (.int a)) (.p (.int b)) st = some (.p (.bool (decide (a = b)))) := (rfl)
@[simp] theorem gNe_i (a b : Int) (st : So) : gNe (.p (.int a)) (.p (.int b)) st = some (.p (.bool (!decide (a = b)))) := (rfl)
theorem eqvAll_s : ∀ a b : List Str, PyData.eqvAll (a.map PyData.str) (b.map PyData.str) = decide (a = b)
  | [], [] => rfl
  | [], _ :: _ => rfl
  | _ :: _, [] => rfl
  | x :: a, y :: b => by
    show (PyData.eqv (.str x) (.str y) && PyData.eqvAll (a.map PyData.str) (b.map PyData.str)) = _
    rw [eqvAll_s a b]
    show ((x == y) && decide (a = b)) = _
    rw [Bool.eq_iff_iff]
    simp
def SOkL (a : List Str) : Prop := ∀ w ∈ a, PyData.strOk w = true
theorem canAll_s : ∀ a : List Str, SOkL a → PyData.canLayAll0 (a.map PyData.str) = true
  | [], _ => rfl
  | x :: a, h => by
    show (PyData.canLay0 (.str x) && PyData.canLayAll0 (a.map PyData.str)) = true
    rw [canAll_s a fun w hw => h w (List.mem_cons_of_mem _ hw), Bool.and_true]
    simpa [PyData.canLay0] using h x List.mem_cons_self
theorem depthAll_s : ∀ a : List Str, PyData.depthAll (a.map PyData.str) ≤ 1
  | [] => by simp [PyData.depthAll]
  | x :: a => by
    have := depthAll_s a
    simp [PyData.depthAll, PyData.depth] at this ⊢
    try omega
theorem shaped_tw (a : List Str) (h : SOkL a) : SeqAt.shaped (.tuple (a.map PyData.str)) = true := by
  unfold SeqAt.shaped
  have h1 : PyData.canLay0 (.tuple (a.map PyData.str)) = true := by simpa [PyData.canLay0] using canAll_s a h
  have h2 := depthAll_s a
  have h3 : PyData.depth (.tuple (a.map PyData.str)) ≤ 64 := by simp [PyData.depth]; omega
  rw [h1, decide_eq_true h3]; rfl
theorem eqD_tw (a b : List Str) (st : So) (ha : SOkL a) (hb : SOkL b) : eqD (tw a) (tw b) st = some (decide (a = b)) := by
  show (if SeqAt.shaped (.tuple (a.map PyData.str)) && SeqAt.shaped (.tuple (b.map PyData.str)) then some (PyData.eqv (.tuple (a.map PyData.str)) (.tuple (b.map PyData.str))) else none) = _
  rw [shaped_tw a ha, shaped_tw b hb]
  show some (PyData.eqvAll (a.map PyData.str) (b.map PyData.str)) = _
  rw [eqvAll_s]
theorem gEq_tw (a b : List Str) (st : So) (ha : SOkL a) (hb : SOkL b) : gEq (tw a) (tw b) st = some (.p (.bool (decide (a = b)))) := by unfold gEq; rw [eqD_tw a b st ha hb]; rfl
theorem gNe_tw (a b : List Str) (st : So) (ha : SOkL a) (hb : SOkL b) : gNe (tw a) (tw b) st = some (.p (.bool (!decide (a = b)))) := by unfold gNe; rw [eqD_tw a b st ha hb]; rfl
@[simp] theorem gTuple_lw (ws : List Str) (st : So) (h : ws.length ≤ 100000) : gTuple [lw ws] st = some (tw ws) := by
  show (match tupOf (lw ws) with | some _ => some (lw ws) | none => match lstOf (lw ws) st with | some ys => if small ys then some (mkT ys) else none | none => none) = _
  rw [tup_lw, lst_lw]
  have : small (ws.map sD) = true := by unfold small; rw [List.length_map]; exact decide_eq_true h
  simp only [this, if_true, mkT_s]
@[simp] theorem small_map {α : Type} {f : α → Dv} (xs : List α) : small (xs.map f) = decide (xs.length ≤ 100000) := by unfold small; rw [List.length_map]
theorem bools_b : ∀ bs : List Bool, bools (bs.map fun b => Dv.p (.bool b)) = some bs
  | [] => rfl
  | b :: bs => by
    show (bools (bs.map fun b => Dv.p (.bool b))).map (b :: ·) = _
    rw [bools_b bs]; rfl
theorem intsD_i : ∀ bs : List Int, intsD (bs.map fun b => Dv.p (.int b)) = some bs
  | [] => rfl
  | b :: bs => by
    show (intsD (bs.map fun b => Dv.p (.int b))).map (b :: ·) = _
    rw [intsD_i bs]; rfl
/-- all(a list of bools), as mkL gives it -/
theorem mkL_lst (ds : List Dv) (xs : List PyData) (h : ds = xs.map Dv.p) (st : So) : lstOf (mkL ds) st = some ds := by
  subst h
  rw [mkL_p]; rfl
theorem mkL_b (bs : List Bool) : mkL (bs.map fun b => Dv.p (.bool b)) = .p (.list (bs.map PyData.bool)) := by
  rw [← mkL_p, List.map_map]; rfl
theorem mkL_i (bs : List Int) : mkL (bs.map fun b => Dv.p (.int b)) = .p (.list (bs.map PyData.int)) := by
  rw [← mkL_p, List.map_map]; rfl
theorem gAll_b (bs : List Bool) (st : So) : gAll [mkL (bs.map fun b => Dv.p (.bool b))] st = some (.p (.bool (bs.all id))) := by
  rw [mkL_b]
  show ((bools ((bs.map PyData.bool).map Dv.p)).map fun (bs : List Bool) => Dv.p (.bool (bs.all id))) = _
  rw [List.map_map]
  show ((bools (bs.map fun b => Dv.p (.bool b))).map fun (bs : List Bool) => Dv.p (.bool (bs.all id))) = _
  rw [bools_b]; rfl
theorem gMax_i (b : Int) (bs : List Int) (st : So) : gMax [mkL ((b :: bs).map fun b => Dv.p (.int b))] st = some (.p (.int (maxL (b :: bs)))) := by
  rw [mkL_i]
  show (match intsD (((b :: bs).map PyData.int).map Dv.p) with | some (x :: r) => some (Dv.p (.int (maxL (x :: r)))) | _ => none) = _
  rw [List.map_map]
  have e := intsD_i (b :: bs)
  have e2 : List.map (Dv.p ∘ PyData.int) (b :: bs) = (b :: bs).map fun b => Dv.p (.int b) := (rfl)
  rw [e2, e]
/-! ### plain iterables -/
theorem ev_lcV {fa : FE} {tg : Tg} {tt : FT} {fe : FE} {ρ : Sl} {st st1 : So} {d : Dv} {items : List Dv} (hd : fa ρ st = .ok d st1) (hi : itemsOf d st1 = some items) (hl : items.length ≤ 100000) :
    fLcV fa tg tt fe ρ st = cmpL tg tt fe (rhoW ρ (tgS tg)) items [] st1 := by
  unfold fLcV
  rw [hd]
  cases d with
  | ref i => exact absurd hi (by simp [itemsOf])
  | _ => simp only [bind_ok, hi, if_pos hl]
theorem ev_lcVC {fa : FE} {tg : Tg} {tt : FT} {fe : FE} {ρ : Sl} {st st1 : So} {i : Nat} (hd : fa ρ st = .ok (.ref i) st1) :
    fLcV fa tg tt fe ρ st = cmpC tg tt fe (rhoW ρ (tgS tg)) i 100001 0 [] st1 := by
  unfold fLcV
  rw [hd]
  rfl
theorem ev_forV {fa : FE} {tg : Tg} {body : FS} {ρ : Sl} {st st1 : So} {d : Dv} {items : List Dv} (hd : fa ρ st = .ok d st1) (hi : itemsOf d st1 = some items) : sForV fa tg body ρ st = sForL tg body items ρ st1 := by
  unfold sForV
  rw [hd]
  cases d with
  | ref i => exact absurd hi (by simp [itemsOf])
  | _ => simp only [st_ok, hi]
theorem ev_forVC {fa : FE} {tg : Tg} {body : FS} {ρ : Sl} {st st1 : So} {i : Nat} (hd : fa ρ st = .ok (.ref i) st1) : sForV fa tg body ρ st = sForC tg body i 100001 0 ρ st1 := by
  unfold sForV
  rw [hd]
  rfl
theorem rhoW_one {ρ : Sl} {i : Nat} : rhoW ρ (tgS (.nm i)) = ρ.set i none := by simp [tgS, rhoW]
theorem rhoW_two {ρ : Sl} {i j : Nat} : rhoW ρ (tgS (.tp [.nm i, .nm j])) = (ρ.set j none).set i none := by simp [tgS, tgSs, rhoW]
theorem items_str (x : Str) (st : So) : itemsOf (sD x) st = some (x.cps.toList.map fun c => .p (.str ⟨#[c]⟩)) := (rfl)
theorem ty_s (x : Str) (st : So) : tyOf (sD x) st = some "str" := (rfl)
theorem kit_ss : kitB "str" "str" = some true := by decide +kernel
theorem kit_tt : kitB "tuple" "tuple" = some true := by decide +kernel
theorem kit_ll : kitB "list" "list" = some true := by decide +kernel
theorem kit_ib : kitB "int" "bool" = some false := by decide +kernel
theorem lcV_pure {α : Type} {fa : FE} {tg : Tg} {tt : FT} {fe : FE} {ρ : Sl} (ρ0 : Sl) {st : So} {d : Dv} {xs : List α} {f : α → Dv} (r : α → Sl) (p : α → Bool) (g : α → Dv) (hd : fa ρ st = .ok d st) (hi : itemsOf d st = some (xs.map f)) (hl : xs.length ≤ 100000) (hρ : rhoW ρ (tgS tg) = ρ0)
    (h1 : ∀ x ∈ xs, tgF tg (f x) ρ0 = some (r x)) (h2 : ∀ x ∈ xs, tt (r x) st = .ok (p x) st) (h3 : ∀ x ∈ xs, p x = true → fe (r x) st = .ok (g x) st) : fLcV fa tg tt fe ρ st = .ok ((xs.filter p).map g) st := by
  rw [ev_lcV hd hi (by rw [List.length_map]; exact hl), hρ, cmpL_pure xs [] h1 h2 h3, List.nil_append]
theorem lcV_all {α : Type} {fa : FE} {tg : Tg} {fe : FE} {ρ : Sl} (ρ0 : Sl) {st : So} {d : Dv} {xs : List α} {f : α → Dv} (r : α → Sl) (g : α → Dv) (hd : fa ρ st = .ok d st) (hi : itemsOf d st = some (xs.map f)) (hl : xs.length ≤ 100000) (hρ : rhoW ρ (tgS tg) = ρ0)
    (h1 : ∀ x ∈ xs, tgF tg (f x) ρ0 = some (r x)) (h3 : ∀ x ∈ xs, fe (r x) st = .ok (g x) st) : fLcV fa tg tYesF fe ρ st = .ok (xs.map g) st := by
  rw [ev_lcV hd hi (by rw [List.length_map]; exact hl), hρ, cmpL_all xs h1 h3]
theorem lc_all {α : Type} {fi : FA} {tg : Tg} {fe : FE} {ρ : Sl} (ρ0 : Sl) {st : So} {xs : List α} {f : α → Dv} (r : α → Sl) (g : α → Dv) (hi : fi ρ st = .ok (xs.map f) st) (hl : xs.length ≤ 100000) (hρ : rhoW ρ (tgS tg) = ρ0)
    (h1 : ∀ x ∈ xs, tgF tg (f x) ρ0 = some (r x)) (h3 : ∀ x ∈ xs, fe (r x) st = .ok (g x) st) : fLc fi tg tYesF fe ρ st = .ok (xs.map g) st := by
  unfold fLc
  rw [hi, bind_ok, List.length_map, if_pos hl, hρ, cmpL_all xs h1 h3]
theorem lc_pure {α : Type} {fi : FA} {tg : Tg} {tt : FT} {fe : FE} {ρ : Sl} (ρ0 : Sl) {st : So} {xs : List α} {f : α → Dv} (r : α → Sl) (p : α → Bool) (g : α → Dv) (hi : fi ρ st = .ok (xs.map f) st) (hl : xs.length ≤ 100000) (hρ : rhoW ρ (tgS tg) = ρ0)
    (h1 : ∀ x ∈ xs, tgF tg (f x) ρ0 = some (r x)) (h2 : ∀ x ∈ xs, tt (r x) st = .ok (p x) st) (h3 : ∀ x ∈ xs, p x = true → fe (r x) st = .ok (g x) st) : fLc fi tg tt fe ρ st = .ok ((xs.filter p).map g) st := by
  unfold fLc
  rw [hi, bind_ok, List.length_map, if_pos hl, hρ, cmpL_pure xs [] h1 h2 h3, List.nil_append]
theorem pure_ok {α : Type} {fr : FA} {ρ : Sl} {st st1 : So} {xs : List α} {g : α → PyData} (h : fr ρ st = .ok (xs.map fun x => Dv.p (g x)) st1) (hl : xs.length ≤ 100000) : fPure fr ρ st = .ok (.p (.list (xs.map g))) st1 := by
  rw [ev_pure, h, bind_ok, small_map, decide_eq_true hl, if_pos rfl, ← mkL_p, List.map_map]; rfl
theorem mkL_map {α : Type} (f : α → PyData) (xs : List α) : mkL (xs.map fun x => Dv.p (f x)) = .p (.list (xs.map f)) := by
  rw [← mkL_p, List.map_map]; rfl
theorem items_l (xs : List PyData) (st : So) : itemsOf (.p (.list xs)) st = some (xs.map Dv.p) := (rfl)
theorem items_lmap {α : Type} (f : α → PyData) (xs : List α) (st : So) : itemsOf (.p (.list (xs.map f))) st = some (xs.map fun x => Dv.p (f x)) := by
  rw [items_l, List.map_map]; rfl
theorem rng_pure {a : Int} {st : So} (h : okR a = true) : optR st (rng1 [.p (.int a)]) = .ok (rngL 0 a.toNat) st := by
  show optR st (if okR a then some (rngL 0 a.toNat) else none) = _
  rw [if_pos h]; rfl
theorem rng2_pure {a b : Int} {st : So} (h : okR a = true) (h2 : okR b = true) : optR st (rng2 [.p (.int a), .p (.int b)]) = .ok (rngL a (b - a).toNat) st := by
  show optR st (if okR a && okR b then some (rngL a (b - a).toNat) else none) = _
  rw [h, h2]; rfl
theorem okR_small {a : Int} (h1 : -1000000 ≤ a) (h2 : a ≤ 1000000) : okR a = true := by
  unfold okR
  rw [decide_eq_true (by omega), decide_eq_true (by omega)]; rfl
theorem rngL_zero (n : Nat) : rngL 0 n = (List.range n).map fun k => Dv.p (.int (k : Nat)) := by
  unfold rngL
  apply List.map_congr_left
  intro k _
  rw [Int.zero_add]
theorem rngL_succ (lo : Int) (n : Nat) : rngL lo (n + 1) = .p (.int lo) :: rngL (lo + 1) n := by
  unfold rngL
  rw [List.range_succ_eq_map, List.map_cons, List.map_map]
  congr 1
  · simp
  · apply List.map_congr_left
    intro k _
    simp only [Function.comp]
    congr 2
    push_cast
    omega
theorem small2 (a b : Dv) : small [a, b] = true := decide_eq_true (show 2 ≤ 100000 by decide)
theorem small3 (a b c : Dv) : small [a, b, c] = true := decide_eq_true (show 3 ≤ 100000 by decide)
theorem small1 (a : Dv) : small [a] = true := decide_eq_true (show 1 ≤ 100000 by decide)
theorem small0 : small [] = true := decide_eq_true (show 0 ≤ 100000 by decide)
theorem mkT2 (a b : PyData) : mkT [.p a, .p b] = .p (.tuple [a, b]) := (rfl)
theorem mkT3 (a b c : PyData) : mkT [.p a, .p b, .p c] = .p (.tuple [a, b, c]) := (rfl)
theorem tup2_ok {fa fb : FE} {ρ : Sl} {st st1 st2 : So} {x y : PyData} (h1 : fa ρ st = .ok (.p x) st1) (h2 : fb ρ st1 = .ok (.p y) st2) : fTup (fCons fa (fCons fb fNil)) ρ st = .ok (.p (.tuple [x, y])) st2 := by
  simp only [ev_tup, ev_cons, ev_nil, h1, bind_ok, h2, small2, if_true, mkT2]
end FB
set_option Elab.async false
set_option linter.all false
set_option maxRecDepth 100000
set_option maxHeartbeats 4000000
namespace FB.K52
open PySem PySem.Spec PyProof.Rows L2 RZ FB
abbrev ti_FrontBackError : List (Str × Bool) := [("InvalidRow", true)]
abbrev ti_InvalidFences : List (Str × Bool) := [("InvalidRow", false)]
abbrev ti_InvalidMeaning : List (Str × Bool) := [("InvalidRow", false)]
abbrev ti_InvalidNames : List (Str × Bool) := [("InvalidRow", false)]
abbrev ti_InvalidNumber : List (Str × Bool) := [("InvalidRow", false)]
abbrev ti_InvalidOperation : List (Str × Bool) := [("InvalidRow", false)]
abbrev ti_InvalidProgram : List (Str × Bool) := [("InvalidRow", false)]
abbrev ti_InvalidResults : List (Str × Bool) := [("InvalidRow", false)]
abbrev ti_InvalidRow : List (Str × Bool) := [("InvalidRow", true)]
abbrev ti_InvalidRows : List (Str × Bool) := [("InvalidRow", false)]
abbrev ti_InvalidWord : List (Str × Bool) := [("InvalidRow", false)]
abbrev ti_Locked : List (Str × Bool) := [("InvalidRow", false)]
abbrev ti_TooLarge : List (Str × Bool) := [("InvalidRow", false)]
abbrev ti_ValueError : List (Str × Bool) := [("InvalidRow", true)]
abbrev te_FrontBackError : List (Str × Bool) := [("InvalidRow", true)]
abbrev N_is_word : List Str := ["value", "letter"]
abbrev m_is_word : FS := sRet (fAnd (fIsT "str" (fVar 0)) (fAnd (fChain gLe gLe (fC (.int 1)) (fCB gLen (fCons (fVar 0) (fNil))) (fC (.int 8))) (fCB gAll (fCons (fPure (fLcV (fVar 0) (.nm 1) (tYesF) (fOp gIn (fVar 1) (fC (.str "abcdefghijklmnopqrstuvwxyz"))))) (fNil)))))
def d_is_word : FD := runD 2 m_is_word

abbrev N_stretch_from : List Str := ["row", "other", "begin", "places", "end", "last", "place", "word"]
abbrev m_stretch_from : FS := sSeq (sAsg (fDc (fSt enumAny (fCons (fVar 0) (fNil))) (.tp [.nm 6, .nm 7]) (tYesF) (fVar 7) (fVar 6)) (.nm 3)) (sSeq (sPar 4 5 (fCons (fVar 2) (fCons (fUn gNeg (fC (.int 1))) (fNil)))) (sSeq (sWh (fTAnd (fTB (fOp gLt (fVar 4) (fCB gLen (fCons (fVar 1) (fNil))))) (fTB (fOp gGt (fGet2 (fVar 3) (fOp gIxA (fVar 1) (fVar 4)) (fUn gNeg (fC (.int 1)))) (fVar 5)))) (sSeq (sAsg (fOp gIxA (fVar 3) (fOp gIxA (fVar 1) (fVar 4))) (.nm 5)) (sAug 4 gAddI (fC (.int 1)))) 100000) (sRet (fVar 4))))
def d_stretch_from : FD := runD 8 m_stretch_from

abbrev N_dropped_of : List Str := ["row", "other", "word"]
abbrev m_dropped_of : FS := sRet (fPure (fLcV (fVar 0) (.nm 2) (fTB (fOp gNotIn (fVar 2) (fVar 1))) (fVar 2)))
def d_dropped_of : FD := runD 3 m_dropped_of

abbrev N_factorial : List Str := ["number", "found", "factor"]
abbrev m_factorial : FS := sSeq (sAsg (fC (.int 1)) (.nm 1)) (sSeq (sFor (fRng rng2 (fCons (fC (.int 2)) (fCons (fOp gAdd (fVar 0) (fC (.int 1))) (fNil)))) (.nm 2) (sAug 1 gMulI (fVar 2))) (sRet (fVar 1)))
def d_factorial : FD := runD 3 m_factorial

abbrev N__law_mixed : List Str := ["cell", "k", "mix"]
abbrev m__law_mixed : FS := sSeq (sAsg (fOp gMod (fCB gInt (fCons (fOp gAdd (fOp gAdd (fOp gMulA (fOp gMod (fCB gInt (fCons (fVar 0) (fNil))) (fC (.int 2147483647))) (fC (.int 48271))) (fOp gMulA (fVar 1) (fC (.int 69621)))) (fC (.int 1048583))) (fNil))) (fC (.int 2147483629))) (.nm 2)) (sSeq (sAsg (fOp gMod (fCB gInt (fCons (fOp gMulA (fVar 2) (fVar 2)) (fNil))) (fC (.int 2147483587))) (.nm 2)) (sRet (fOp gMod (fCB gInt (fCons (fOp gMulA (fVar 2) (fOp gAdd (fVar 2) (fC (.int 2)))) (fNil))) (fC (.int 2147483579)))))
def d__law_mixed : FD := runD 3 m__law_mixed

abbrev N__law_take : List Str := ["own", "options", "digit"]
abbrev m__law_take : FS := sSeq (sAsg (fOp gMod (fCB gInt (fCons (fOp gIxA (fVar 0) (fC (.int 0))) (fNil))) (fVar 1)) (.nm 2)) (sSeq (sSet (fOp gDiv (fOp gIxA (fVar 0) (fC (.int 0))) (fVar 1)) (fVar 0) (fC (.int 0))) (sRet (fVar 2)))
def d__law_take : FD := runD 3 m__law_take

abbrev N__law_no_words : List Str := []
abbrev m__law_no_words : FS := sRet (fPure ((fun ρ st => ((fCons (fC .none) (fCons (fC (.bool true)) (fCons (fC (.int 0)) (fCons (fC (.str "")) (fCons (fC (.str "A")) (fCons (fC (.str "a1")) (fCons (fC (.str "a b")) (fCons (fC (.str "abcdefghi")) (fCons (fTup (fCons (fC (.str "a")) (fNil))) (fCons (fPure ((fun ρ st => ((fCons (fC (.str "a")) (fNil)) ρ st).bind fun xs st1 => if small xs then .ok xs st1 else .stuck))) (fCons (fE0) (fCons (fC (.str "a
")) (fCons (fC (.str " a")) (fNil)))))))))))))) ρ st).bind fun xs st1 => if small xs then .ok xs st1 else .stuck)))
def d__law_no_words : FD := runD 0 m__law_no_words

abbrev N__law_kinds : List Str := ["error", "found"]
abbrev m__law_kinds : FS := sSeq (sAsg (fPure ((fun ρ st => ((fCons (fIsX (tsL ti_InvalidRow) (fVar 0)) (fCons (fIsX (tsL ti_InvalidRows) (fVar 0)) (fNil))) ρ st).bind fun xs st1 => if small xs then .ok xs st1 else .stuck))) (.nm 1)) (sSeq (sAsg (fOp gAdd (fVar 1) (fPure ((fun ρ st => ((fCons (fIsX (tsL ti_InvalidProgram) (fVar 0)) (fNil)) ρ st).bind fun xs st1 => if small xs then .ok xs st1 else .stuck)))) (.nm 1)) (sSeq (sAsg (fOp gAdd (fVar 1) (fPure ((fun ρ st => ((fCons (fIsX (tsL ti_InvalidOperation) (fVar 0)) (fCons (fIsX (tsL ti_InvalidWord) (fVar 0)) (fNil))) ρ st).bind fun xs st1 => if small xs then .ok xs st1 else .stuck)))) (.nm 1)) (sSeq (sAsg (fOp gAdd (fVar 1) (fPure ((fun ρ st => ((fCons (fIsX (tsL ti_InvalidNames) (fVar 0)) (fCons (fIsX (tsL ti_InvalidMeaning) (fVar 0)) (fNil))) ρ st).bind fun xs st1 => if small xs then .ok xs st1 else .stuck)))) (.nm 1)) (sSeq (sAsg (fOp gAdd (fVar 1) (fPure ((fun ρ st => ((fCons (fIsX (tsL ti_InvalidNumber) (fVar 0)) (fCons (fIsX (tsL ti_InvalidFences) (fVar 0)) (fNil))) ρ st).bind fun xs st1 => if small xs then .ok xs st1 else .stuck)))) (.nm 1)) (sSeq (sAsg (fOp gAdd (fVar 1) (fPure ((fun ρ st => ((fCons (fIsX (tsL ti_InvalidResults) (fVar 0)) (fCons (fIsX (tsL ti_TooLarge) (fVar 0)) (fNil))) ρ st).bind fun xs st1 => if small xs then .ok xs st1 else .stuck)))) (.nm 1)) (sSeq (sAsg (fOp gAdd (fVar 1) (fPure ((fun ρ st => ((fCons (fIsX (tsL ti_Locked) (fVar 0)) (fNil)) ρ st).bind fun xs st1 => if small xs then .ok xs st1 else .stuck)))) (.nm 1)) (sRet (fVar 1))))))))
def d__law_kinds : FD := runD 2 m__law_kinds

abbrev N_are_words : List Str := ["value", "word"]
abbrev m_are_words : FS := sRet (fAnd (fIsT "tuple" (fVar 0)) (fAnd (fCB gAll (fCons (fPure (fLcV (fVar 0) (.nm 1) (tYesF) (fCall d_is_word (fCons (fVar 1) (fNil))))) (fNil))) (fOp gEq (fLenSet (fVar 0)) (fCB gLen (fCons (fVar 0) (fNil))))))
def d_are_words : FD := runD 2 m_are_words

abbrev N_stretches_of : List Str := ["row", "other", "found", "longest", "begin", "end"]
abbrev m_stretches_of : FS := sSeq (sAsg (fPure (fLc (fRng rng1 (fCons (fOp gAdd (fCB gLen (fCons (fVar 1) (fNil))) (fC (.int 1))) (fNil))) (.nm 4) (tYesF) (fTup (fCons (fVar 4) (fCons (fCall d_stretch_from (fCons (fVar 0) (fCons (fVar 1) (fCons (fVar 4) (fNil))))) (fNil)))))) (.nm 2)) (sSeq (sAsg (fCB gMax (fCons (fPure (fLcV (fVar 2) (.tp [.nm 4, .nm 5]) (tYesF) (fOp gSub (fVar 5) (fVar 4)))) (fNil))) (.nm 3)) (sRet (fPure (fLcV (fVar 2) (.tp [.nm 4, .nm 5]) (fTB (fOp gEq (fOp gSub (fVar 5) (fVar 4)) (fVar 3))) (fTup (fCons (fVar 4) (fCons (fVar 5) (fNil))))))))
def d_stretches_of : FD := runD 6 m_stretches_of

abbrev N__law_cell : List Str := ["script", "k", "cell", "found", "j"]
abbrev m__law_cell : FS := sSeq (sAsg (fC (.int 0)) (.nm 2)) (sSeq (sIf (fTB (fOp gLt (fVar 1) (fCB gLen (fCons (fVar 0) (fNil))))) (sAsg (fOp gIxA (fVar 0) (fVar 1)) (.nm 2)) (sNext)) (sSeq (sIf (fTB (fOp gGe (fVar 2) (fOp gPow (fC (.int 10)) (fC (.int 18))))) (sRet (fOp gMod (fCB gInt (fCons (fOp gSub (fVar 2) (fOp gPow (fC (.int 10)) (fC (.int 18)))) (fNil))) (fOp gMulA (fOp gMulA (fOp gMulA (fOp gPow (fC (.int 10)) (fC (.int 60))) (fOp gPow (fC (.int 10)) (fC (.int 60)))) (fOp gPow (fC (.int 10)) (fC (.int 60)))) (fOp gPow (fC (.int 10)) (fC (.int 60)))))) (sNext)) (sSeq (sAsg (fC (.int 0)) (.nm 3)) (sSeq (sFor (fRng rng1 (fCons (fC (.int 24)) (fNil))) (.nm 4) (sAsg (fOp gAdd (fOp gMulA (fVar 3) (fC (.int 2147483579))) (fCall d__law_mixed (fCons (fVar 2) (fCons (fOp gAdd (fOp gAdd (fOp gMulA (fC (.int 7)) (fVar 1)) (fOp gMulA (fC (.int 100)) (fVar 4))) (fOp gMulA (fVar 4) (fVar 4))) (fNil))))) (.nm 3))) (sRet (fVar 3))))))
def d__law_cell : FD := runD 5 m__law_cell

abbrev N__law_words : List Str := ["own", "many", "some", "at"]
abbrev m__law_words : FS := sSeq (sAsg (fPure ((fun ρ st => ((fCons (fC (.str "a")) (fCons (fC (.str "ab")) (fCons (fC (.str "absent")) (fCons (fC (.str "front")) (fCons (fC (.str "x")) (fCons (fC (.str "abcdefgh")) (fCons (fC (.str "drop")) (fCons (fC (.str "present")) (fNil))))))))) ρ st).bind fun xs st1 => if small xs then .ok xs st1 else .stuck))) (.nm 2)) (sSeq (sAsg (fCall d__law_take (fCons (fVar 0) (fCons (fC (.int 8)) (fNil)))) (.nm 3)) (sRet (fSl (fOp gAdd (fSl (fVar 2) (fPt (fVar 3)) (fNoP)) (fSl (fVar 2) (fNoP) (fPt (fVar 3)))) (fNoP) (fPt (fVar 1)))))
def d__law_words : FD := runD 4 m__law_words

abbrev N__law_row : List Str := ["own", "words", "left", "found", "word"]
abbrev m__law_row : FS := sSeq (sPar 2 3 (fCons (fCell (fListOf (fVar 1))) (fCons (fCell ((fun ρ st => ((fNil) ρ st).bind fun xs st1 => if small xs then .ok xs st1 else .stuck))) (fNil)))) (sSeq (sWh (fTB (fOp gNe (fVar 2) (fPure ((fun ρ st => ((fNil) ρ st).bind fun xs st1 => if small xs then .ok xs st1 else .stuck))))) (sSeq (sAsg (fMth gPopAt (fVar 2) (fCons (fCall d__law_take (fCons (fVar 0) (fCons (fCB gLen (fCons (fVar 2) (fNil))) (fNil)))) (fNil))) (.nm 4)) (sIf (fTB (fOp gGt (fCall d__law_take (fCons (fVar 0) (fCons (fC (.int 3)) (fNil)))) (fC (.int 0)))) (sDrop (fMth gAppend (fVar 3) (fCons (fVar 4) (fNil)))) (sNext))) 100000) (sRet (fCB gTuple (fCons (fVar 3) (fNil)))))
def d__law_row : FD := runD 5 m__law_row

abbrev N__law_no_rows : List Str := ["some", "word"]
abbrev m__law_no_rows : FS := sSeq (sAsg (fPure ((fun ρ st => ((fCons (fC .none) (fCons (fC (.bool true)) (fCons (fC (.int 0)) (fCons (fC (.str "a")) (fCons (fC (.str "")) (fCons (fPure ((fun ρ st => ((fCons (fC (.str "a")) (fNil)) ρ st).bind fun xs st1 => if small xs then .ok xs st1 else .stuck))) (fCons (fPure ((fun ρ st => ((fNil) ρ st).bind fun xs st1 => if small xs then .ok xs st1 else .stuck))) (fCons (fE0) (fCons (fTup (fCons (fC (.str "a")) (fCons (fC (.str "a")) (fNil)))) (fCons (fTup (fCons (fC (.str "a")) (fCons (fC (.str "b")) (fCons (fC (.str "a")) (fNil))))) (fNil))))))))))) ρ st).bind fun xs st1 => if small xs then .ok xs st1 else .stuck))) (.nm 0)) (sSeq (sAsg (fOp gAdd (fVar 0) (fPure ((fun ρ st => ((fCons (fCB gTuple (fCons (fC (.str "abcdefghijklmnopqrstu")) (fNil))) (fNil)) ρ st).bind fun xs st1 => if small xs then .ok xs st1 else .stuck)))) (.nm 0)) (sRet (fOp gAdd (fOp gAdd (fVar 0) (fPure (fLcV (fCall d__law_no_words fNil) (.nm 1) (tYesF) (fTup (fCons (fC (.str "a")) (fCons (fVar 1) (fNil))))))) (fPure (fLcV (fCall d__law_no_words fNil) (.nm 1) (tYesF) (fTup (fCons (fVar 1) (fCons (fC (.str "a")) (fCons (fC (.str "b")) (fNil))))))))))
def d__law_no_rows : FD := runD 2 m__law_no_rows

abbrev N__law_only : List Str := ["error", "kind", "told", "one"]
abbrev m__law_only : FS := sSeq (sAsg (fPure ((fun ρ st => ((fCons (fC (.str "row")) (fCons (fC (.str "rows")) (fCons (fC (.str "program")) (fCons (fC (.str "operation")) (fCons (fC (.str "word")) (fCons (fC (.str "names")) (fCons (fC (.str "meaning")) (fCons (fC (.str "number")) (fNil))))))))) ρ st).bind fun xs st1 => if small xs then .ok xs st1 else .stuck))) (.nm 2)) (sSeq (sAsg (fOp gAdd (fVar 2) (fPure ((fun ρ st => ((fCons (fC (.str "fences")) (fCons (fC (.str "results")) (fNil))) ρ st).bind fun xs st1 => if small xs then .ok xs st1 else .stuck)))) (.nm 2)) (sSeq (sIf (fTOr (fTNot (fTB (fIsX (tsL ti_FrontBackError) (fVar 0)))) (fTNot (fTB (fIsX (tsL ti_ValueError) (fVar 0))))) (sRet (fC (.bool false))) (sNext)) (sRet (fOp gEq (fCall d__law_kinds (fCons (fVar 0) (fNil))) (fPure (fLcV (fOp gAdd (fVar 2) (fPure ((fun ρ st => ((fCons (fC (.str "large")) (fCons (fC (.str "locked")) (fNil))) ρ st).bind fun xs st1 => if small xs then .ok xs st1 else .stuck)))) (.nm 3) (tYesF) (fOp gEq (fVar 3) (fVar 1))))))))
def d__law_only : FD := runD 4 m__law_only

abbrev N_is_row : List Str := ["value"]
abbrev m_is_row : FS := sRet (fAnd (fCall d_are_words (fCons (fVar 0) (fNil))) (fOp gLe (fCB gLen (fCons (fVar 0) (fNil))) (fC (.int 20))))
def d_is_row : FD := runD 1 m_is_row

abbrev N_distance_of : List Str := ["row", "other", "begin", "end"]
abbrev m_distance_of : FS := sSeq (sAsg (fOp gIxA (fCall d_stretches_of (fCons (fVar 0) (fCons (fVar 1) (fNil)))) (fC (.int 0))) (.tp [.nm 2, .nm 3])) (sRet (fOp gAdd (fOp gSub (fCB gLen (fCons (fVar 1) (fNil))) (fOp gSub (fVar 3) (fVar 2))) (fCB gLen (fCons (fCall d_dropped_of (fCons (fVar 0) (fCons (fVar 1) (fNil)))) (fNil)))))
def d_distance_of : FD := runD 4 m_distance_of

abbrev N_route_of : List Str := ["row", "other", "found", "begin", "end", "word"]
abbrev m_route_of : FS := sSeq (sAsg (fOp gIxA (fCall d_stretches_of (fCons (fVar 0) (fCons (fVar 1) (fNil)))) (fC (.int 0))) (.tp [.nm 3, .nm 4])) (sSeq (sAsg (fCell (fLcV (fCall d_dropped_of (fCons (fVar 0) (fCons (fVar 1) (fNil)))) (.nm 5) (tYesF) (fTup (fCons (fC (.str "drop")) (fCons (fVar 5) (fNil)))))) (.nm 2)) (sSeq (sExt 2 (fPure (fLcV (fUn gRev (fSl (fVar 1) (fNoP) (fPt (fVar 3)))) (.nm 5) (tYesF) (fTup (fCons (fC (.str "front")) (fCons (fVar 5) (fNil))))))) (sRet (fOp gAdd (fVar 2) (fPure (fLcV (fSl (fVar 1) (fPt (fVar 4)) (fNoP)) (.nm 5) (tYesF) (fTup (fCons (fC (.str "back")) (fCons (fVar 5) (fNil))))))))))
def d_route_of : FD := runD 6 m_route_of

abbrev N_check_row : List Str := ["row"]
abbrev m_check_row : FS := sIf (fTNot (fTB (fCall d_is_row (fCons (fVar 0) (fNil))))) (sRaise "InvalidRow") (sNext)
def d_check_row : FD := runD 1 m_check_row

abbrev N_distance : List Str := ["row", "other"]
abbrev m_distance : FS := sSeq (sDrop (fCall d_check_row (fCons (fVar 0) (fNil)))) (sSeq (sDrop (fCall d_check_row (fCons (fVar 1) (fNil)))) (sRet (fCall d_distance_of (fCons (fVar 0) (fCons (fVar 1) (fNil))))))
def d_distance : FD := runD 2 m_distance

abbrev N_route : List Str := ["row", "other"]
abbrev m_route : FS := sSeq (sDrop (fCall d_check_row (fCons (fVar 0) (fNil)))) (sSeq (sDrop (fCall d_check_row (fCons (fVar 1) (fNil)))) (sRet (fCall d_route_of (fCons (fVar 0) (fCons (fVar 1) (fNil))))))
def d_route : FD := runD 2 m_route

abbrev N_routes : List Str := ["row", "other", "drops", "found", "begin", "end", "ways", "before", "behind"]
abbrev m_routes : FS := sSeq (sDrop (fCall d_check_row (fCons (fVar 0) (fNil)))) (sSeq (sDrop (fCall d_check_row (fCons (fVar 1) (fNil)))) (sSeq (sPar 2 3 (fCons (fCB gLen (fCons (fCall d_dropped_of (fCons (fVar 0) (fCons (fVar 1) (fNil)))) (fNil))) (fCons (fC (.int 0)) (fNil)))) (sSeq (sForV (fCall d_stretches_of (fCons (fVar 0) (fCons (fVar 1) (fNil)))) (.tp [.nm 4, .nm 5]) (sSeq (sPar 7 8 (fCons (fVar 4) (fCons (fOp gSub (fCB gLen (fCons (fVar 1) (fNil))) (fVar 5)) (fNil)))) (sSeq (sAsg (fOp gDiv (fCall d_factorial (fCons (fOp gAdd (fOp gAdd (fVar 7) (fVar 8)) (fVar 2)) (fNil))) (fOp gMulA (fCall d_factorial (fCons (fVar 7) (fNil))) (fCall d_factorial (fCons (fVar 8) (fNil))))) (.nm 6)) (sAug 3 gAddI (fOp gShlW (fVar 6) (fOp gAdd (fVar 7) (fVar 8))))))) (sRet (fVar 3)))))
def d_routes : FD := runD 9 m_routes

abbrev N__law_asked : List Str := ["way", "one", "two", "error", "e"]
abbrev m__law_asked : FS := sSeq (sAsg (fC .none) (.nm 3)) (sSeq (sTryAs 4 (tsL te_FrontBackError) (sIf (fTB (fOp gEq (fVar 0) (fC (.int 0)))) (sDrop (fCall d_distance (fCons (fVar 1) (fCons (fVar 2) (fNil))))) (sIf (fTB (fOp gEq (fVar 0) (fC (.int 1)))) (sDrop (fCall d_route (fCons (fVar 1) (fCons (fVar 2) (fNil))))) (sDrop (fCall d_routes (fCons (fVar 1) (fCons (fVar 2) (fNil))))))) (sAsg (fVar 4) (.nm 3))) (sRet (fVar 3)))
def d__law_asked : FD := runD 5 m__law_asked

abbrev N__law_good : List Str := ["row", "odd", "wide", "way", "one", "two"]
abbrev m__law_good : FS := sSeq (sForV (fCall d__law_no_rows fNil) (.nm 1) (sFor (fRng rng1 (fCons (fC (.int 3)) (fNil))) (.nm 3) (sForV (fPure ((fun ρ st => ((fCons (fTup (fCons (fVar 1) (fCons (fVar 0) (fNil)))) (fCons (fTup (fCons (fVar 1) (fCons (fC .none) (fNil)))) (fCons (fTup (fCons (fVar 1) (fCons (fVar 1) (fNil)))) (fCons (fTup (fCons (fVar 0) (fCons (fVar 1) (fNil)))) (fCons (fTup (fCons (fTup (fNil)) (fCons (fVar 1) (fNil)))) (fNil)))))) ρ st).bind fun xs st1 => if small xs then .ok xs st1 else .stuck))) (.tp [.nm 4, .nm 5]) (sIf (fTNot (fTB (fCall d__law_only (fCons (fCall d__law_asked (fCons (fVar 3) (fCons (fVar 4) (fCons (fVar 5) (fNil))))) (fCons (fC (.str "row")) (fNil)))))) (sRet (fC (.bool false))) (sNext))))) (sSeq (sAsg (fCB gTuple (fCons (fC (.str "abcdefghijklmnopqrst")) (fNil))) (.nm 2)) (sRet (fCB gAll (fCons (fPure (fLc (fRng rng1 (fCons (fC (.int 3)) (fNil))) (.nm 3) (tYesF) (fAnd (fOp gIs (fCall d__law_asked (fCons (fVar 3) (fCons (fVar 2) (fCons (fVar 0) (fNil))))) (fC .none)) (fOp gIs (fCall d__law_asked (fCons (fVar 3) (fCons (fVar 0) (fCons (fVar 2) (fNil))))) (fC .none))))) (fNil)))))
def d__law_good : FD := runD 6 m__law_good

abbrev N_law : List Str := ["script", "turn", "own"]
abbrev m_law : FS := sSeq (sFor (fRng rng1 (fCons (fCB gMax (fCons (fCB gMin (fCons (fCB gLen (fCons (fVar 0) (fNil))) (fCons (fC (.int 3)) (fNil)))) (fCons (fC (.int 1)) (fNil)))) (fNil))) (.nm 1) (sSeq (sAsg (fCell ((fun ρ st => ((fCons (fCall d__law_cell (fCons (fVar 0) (fCons (fVar 1) (fNil)))) (fNil)) ρ st).bind fun xs st1 => if small xs then .ok xs st1 else .stuck))) (.nm 2)) (sIf (fTNot (fTB (fCall d__law_good (fCons (fCall d__law_row (fCons (fVar 2) (fCons (fCall d__law_words (fCons (fVar 2) (fCons (fC (.int 8)) (fNil)))) (fNil)))) (fNil))))) (sRet (fC (.bool false))) (sNext)))) (sRet (fCall d__law_good (fCons (fTup (fNil)) (fNil))))
def d_law : FD := runD 3 m_law

def top (i : Nat) : Stmt := PySem.Challenge.pw_frontback_k52_errors_of_routes.main.body.getD i (.Pass ⟨0, 0, 0, 0⟩)
abbrev s_is_word : Stmt := top 18
abbrev s_are_words : Stmt := top 19
abbrev s_is_row : Stmt := top 20
abbrev s_check_row : Stmt := top 21
abbrev s_stretch_from : Stmt := top 23
abbrev s_stretches_of : Stmt := top 24
abbrev s_dropped_of : Stmt := top 25
abbrev s_distance_of : Stmt := top 26
abbrev s_distance : Stmt := top 27
abbrev s_route_of : Stmt := top 28
abbrev s_route : Stmt := top 29
abbrev s_factorial : Stmt := top 30
abbrev s_routes : Stmt := top 31
abbrev s__law_mixed : Stmt := top 33
abbrev s__law_cell : Stmt := top 34
abbrev s__law_take : Stmt := top 35
abbrev s__law_words : Stmt := top 36
abbrev s__law_row : Stmt := top 37
abbrev s__law_no_words : Stmt := top 38
abbrev s__law_no_rows : Stmt := top 39
abbrev s__law_kinds : Stmt := top 40
abbrev s__law_only : Stmt := top 41
abbrev s__law_asked : Stmt := top 42
abbrev s__law_good : Stmt := top 43
abbrev s_law : Stmt := top 44
structure Fs (K : PySem.W.Frag) (mg : Str → Option Value) where
  a_is_word : Addr
  h_is_word : FuncData
  F_is_word : FunD K "is_word" "is_word" (defArgs s_is_word) (defBody s_is_word) (defScope s_is_word) [] [] a_is_word h_is_word
  g_is_word : mg "is_word" = some (.ref a_is_word)
  a_are_words : Addr
  h_are_words : FuncData
  F_are_words : FunD K "are_words" "are_words" (defArgs s_are_words) (defBody s_are_words) (defScope s_are_words) [] [] a_are_words h_are_words
  g_are_words : mg "are_words" = some (.ref a_are_words)
  a_is_row : Addr
  h_is_row : FuncData
  F_is_row : FunD K "is_row" "is_row" (defArgs s_is_row) (defBody s_is_row) (defScope s_is_row) [] [] a_is_row h_is_row
  g_is_row : mg "is_row" = some (.ref a_is_row)
  a_check_row : Addr
  h_check_row : FuncData
  F_check_row : FunD K "check_row" "check_row" (defArgs s_check_row) (defBody s_check_row) (defScope s_check_row) [] [] a_check_row h_check_row
  g_check_row : mg "check_row" = some (.ref a_check_row)
  a_stretch_from : Addr
  h_stretch_from : FuncData
  F_stretch_from : FunD K "stretch_from" "stretch_from" (defArgs s_stretch_from) (defBody s_stretch_from) (defScope s_stretch_from) [] [] a_stretch_from h_stretch_from
  g_stretch_from : mg "stretch_from" = some (.ref a_stretch_from)
  a_stretches_of : Addr
  h_stretches_of : FuncData
  F_stretches_of : FunD K "stretches_of" "stretches_of" (defArgs s_stretches_of) (defBody s_stretches_of) (defScope s_stretches_of) [] [] a_stretches_of h_stretches_of
  g_stretches_of : mg "stretches_of" = some (.ref a_stretches_of)
  a_dropped_of : Addr
  h_dropped_of : FuncData
  F_dropped_of : FunD K "dropped_of" "dropped_of" (defArgs s_dropped_of) (defBody s_dropped_of) (defScope s_dropped_of) [] [] a_dropped_of h_dropped_of
  g_dropped_of : mg "dropped_of" = some (.ref a_dropped_of)
  a_distance_of : Addr
  h_distance_of : FuncData
  F_distance_of : FunD K "distance_of" "distance_of" (defArgs s_distance_of) (defBody s_distance_of) (defScope s_distance_of) [] [] a_distance_of h_distance_of
  g_distance_of : mg "distance_of" = some (.ref a_distance_of)
  a_distance : Addr
  h_distance : FuncData
  F_distance : FunD K "distance" "distance" (defArgs s_distance) (defBody s_distance) (defScope s_distance) [] [] a_distance h_distance
  g_distance : mg "distance" = some (.ref a_distance)
  a_route_of : Addr
  h_route_of : FuncData
  F_route_of : FunD K "route_of" "route_of" (defArgs s_route_of) (defBody s_route_of) (defScope s_route_of) [] [] a_route_of h_route_of
  g_route_of : mg "route_of" = some (.ref a_route_of)
  a_route : Addr
  h_route : FuncData
  F_route : FunD K "route" "route" (defArgs s_route) (defBody s_route) (defScope s_route) [] [] a_route h_route
  g_route : mg "route" = some (.ref a_route)
  a_factorial : Addr
  h_factorial : FuncData
  F_factorial : FunD K "factorial" "factorial" (defArgs s_factorial) (defBody s_factorial) (defScope s_factorial) [] [] a_factorial h_factorial
  g_factorial : mg "factorial" = some (.ref a_factorial)
  a_routes : Addr
  h_routes : FuncData
  F_routes : FunD K "routes" "routes" (defArgs s_routes) (defBody s_routes) (defScope s_routes) [] [] a_routes h_routes
  g_routes : mg "routes" = some (.ref a_routes)
  a__law_mixed : Addr
  h__law_mixed : FuncData
  F__law_mixed : FunD K "_law_mixed" "_law_mixed" (defArgs s__law_mixed) (defBody s__law_mixed) (defScope s__law_mixed) [] [] a__law_mixed h__law_mixed
  g__law_mixed : mg "_law_mixed" = some (.ref a__law_mixed)
  a__law_cell : Addr
  h__law_cell : FuncData
  F__law_cell : FunD K "_law_cell" "_law_cell" (defArgs s__law_cell) (defBody s__law_cell) (defScope s__law_cell) [] [] a__law_cell h__law_cell
  g__law_cell : mg "_law_cell" = some (.ref a__law_cell)
  a__law_take : Addr
  h__law_take : FuncData
  F__law_take : FunD K "_law_take" "_law_take" (defArgs s__law_take) (defBody s__law_take) (defScope s__law_take) [] [] a__law_take h__law_take
  g__law_take : mg "_law_take" = some (.ref a__law_take)
  a__law_words : Addr
  h__law_words : FuncData
  F__law_words : FunD K "_law_words" "_law_words" (defArgs s__law_words) (defBody s__law_words) (defScope s__law_words) [] [] a__law_words h__law_words
  g__law_words : mg "_law_words" = some (.ref a__law_words)
  a__law_row : Addr
  h__law_row : FuncData
  F__law_row : FunD K "_law_row" "_law_row" (defArgs s__law_row) (defBody s__law_row) (defScope s__law_row) [] [] a__law_row h__law_row
  g__law_row : mg "_law_row" = some (.ref a__law_row)
  a__law_no_words : Addr
  h__law_no_words : FuncData
  F__law_no_words : FunD K "_law_no_words" "_law_no_words" (defArgs s__law_no_words) (defBody s__law_no_words) (defScope s__law_no_words) [] [] a__law_no_words h__law_no_words
  g__law_no_words : mg "_law_no_words" = some (.ref a__law_no_words)
  a__law_no_rows : Addr
  h__law_no_rows : FuncData
  F__law_no_rows : FunD K "_law_no_rows" "_law_no_rows" (defArgs s__law_no_rows) (defBody s__law_no_rows) (defScope s__law_no_rows) [] [] a__law_no_rows h__law_no_rows
  g__law_no_rows : mg "_law_no_rows" = some (.ref a__law_no_rows)
  a__law_kinds : Addr
  h__law_kinds : FuncData
  F__law_kinds : FunD K "_law_kinds" "_law_kinds" (defArgs s__law_kinds) (defBody s__law_kinds) (defScope s__law_kinds) [] [] a__law_kinds h__law_kinds
  g__law_kinds : mg "_law_kinds" = some (.ref a__law_kinds)
  a__law_only : Addr
  h__law_only : FuncData
  F__law_only : FunD K "_law_only" "_law_only" (defArgs s__law_only) (defBody s__law_only) (defScope s__law_only) [] [] a__law_only h__law_only
  g__law_only : mg "_law_only" = some (.ref a__law_only)
  a__law_asked : Addr
  h__law_asked : FuncData
  F__law_asked : FunD K "_law_asked" "_law_asked" (defArgs s__law_asked) (defBody s__law_asked) (defScope s__law_asked) [] [] a__law_asked h__law_asked
  g__law_asked : mg "_law_asked" = some (.ref a__law_asked)
  a__law_good : Addr
  h__law_good : FuncData
  F__law_good : FunD K "_law_good" "_law_good" (defArgs s__law_good) (defBody s__law_good) (defScope s__law_good) [] [] a__law_good h__law_good
  g__law_good : mg "_law_good" = some (.ref a__law_good)
  a_law : Addr
  h_law : FuncData
  F_law : FunD K "law" "law" (defArgs s_law) (defBody s_law) (defScope s_law) [] [] a_law h_law
  g_law : mg "law" = some (.ref a_law)
  b_ValueError : mg "ValueError" = none
  b_all : mg "all" = none
  b_enumerate : mg "enumerate" = none
  b_int : mg "int" = none
  b_isinstance : mg "isinstance" = none
  b_len : mg "len" = none
  b_list : mg "list" = none
  b_max : mg "max" = none
  b_min : mg "min" = none
  b_range : mg "range" = none
  b_set : mg "set" = none
  b_str : mg "str" = none
  b_tuple : mg "tuple" = none
  c_LETTERS : ∃ t, mg "LETTERS" = some (.str "abcdefghijklmnopqrstuvwxyz" t)
  c_LONGEST : ∃ t, mg "LONGEST" = some (.int 8 t)
  c_MOST_ROW : ∃ t, mg "MOST_ROW" = some (.int 20 t)
  C_InvalidRow : Addr
  x_InvalidRow : PySem.W.excIn K C_InvalidRow He.veBase "ValueError.__new__" = true ∧ mg "InvalidRow" = some (.ref C_InvalidRow) ∧ PySem.W.keepIn K (.ref C_InvalidRow) = true ∧ PySem.W.subIn K (.ref C_InvalidRow) (.type "BaseException") = some true ∧ PySem.W.typeIn K (.ref C_InvalidRow) = some (.type "type")
  K_FrontBackError : Addr
  gx_FrontBackError : mg "FrontBackError" = some (.ref K_FrontBackError)
  K_InvalidFences : Addr
  gx_InvalidFences : mg "InvalidFences" = some (.ref K_InvalidFences)
  K_InvalidMeaning : Addr
  gx_InvalidMeaning : mg "InvalidMeaning" = some (.ref K_InvalidMeaning)
  K_InvalidNames : Addr
  gx_InvalidNames : mg "InvalidNames" = some (.ref K_InvalidNames)
  K_InvalidNumber : Addr
  gx_InvalidNumber : mg "InvalidNumber" = some (.ref K_InvalidNumber)
  K_InvalidOperation : Addr
  gx_InvalidOperation : mg "InvalidOperation" = some (.ref K_InvalidOperation)
  K_InvalidProgram : Addr
  gx_InvalidProgram : mg "InvalidProgram" = some (.ref K_InvalidProgram)
  K_InvalidResults : Addr
  gx_InvalidResults : mg "InvalidResults" = some (.ref K_InvalidResults)
  K_InvalidRow : Addr
  gx_InvalidRow : mg "InvalidRow" = some (.ref K_InvalidRow)
  K_InvalidRows : Addr
  gx_InvalidRows : mg "InvalidRows" = some (.ref K_InvalidRows)
  K_InvalidWord : Addr
  gx_InvalidWord : mg "InvalidWord" = some (.ref K_InvalidWord)
  K_Locked : Addr
  gx_Locked : mg "Locked" = some (.ref K_Locked)
  K_TooLarge : Addr
  gx_TooLarge : mg "TooLarge" = some (.ref K_TooLarge)
  ti_FrontBackError : ∀ c b, tsL ti_FrontBackError c = some b → ∀ C, mg c = some (.ref C) → ExcC K C ∧ PySem.W.kitOne K (.ref C) (.ref K_FrontBackError) = some b
  ti_InvalidFences : ∀ c b, tsL ti_InvalidFences c = some b → ∀ C, mg c = some (.ref C) → ExcC K C ∧ PySem.W.kitOne K (.ref C) (.ref K_InvalidFences) = some b
  ti_InvalidMeaning : ∀ c b, tsL ti_InvalidMeaning c = some b → ∀ C, mg c = some (.ref C) → ExcC K C ∧ PySem.W.kitOne K (.ref C) (.ref K_InvalidMeaning) = some b
  ti_InvalidNames : ∀ c b, tsL ti_InvalidNames c = some b → ∀ C, mg c = some (.ref C) → ExcC K C ∧ PySem.W.kitOne K (.ref C) (.ref K_InvalidNames) = some b
  ti_InvalidNumber : ∀ c b, tsL ti_InvalidNumber c = some b → ∀ C, mg c = some (.ref C) → ExcC K C ∧ PySem.W.kitOne K (.ref C) (.ref K_InvalidNumber) = some b
  ti_InvalidOperation : ∀ c b, tsL ti_InvalidOperation c = some b → ∀ C, mg c = some (.ref C) → ExcC K C ∧ PySem.W.kitOne K (.ref C) (.ref K_InvalidOperation) = some b
  ti_InvalidProgram : ∀ c b, tsL ti_InvalidProgram c = some b → ∀ C, mg c = some (.ref C) → ExcC K C ∧ PySem.W.kitOne K (.ref C) (.ref K_InvalidProgram) = some b
  ti_InvalidResults : ∀ c b, tsL ti_InvalidResults c = some b → ∀ C, mg c = some (.ref C) → ExcC K C ∧ PySem.W.kitOne K (.ref C) (.ref K_InvalidResults) = some b
  ti_InvalidRow : ∀ c b, tsL ti_InvalidRow c = some b → ∀ C, mg c = some (.ref C) → ExcC K C ∧ PySem.W.kitOne K (.ref C) (.ref K_InvalidRow) = some b
  ti_InvalidRows : ∀ c b, tsL ti_InvalidRows c = some b → ∀ C, mg c = some (.ref C) → ExcC K C ∧ PySem.W.kitOne K (.ref C) (.ref K_InvalidRows) = some b
  ti_InvalidWord : ∀ c b, tsL ti_InvalidWord c = some b → ∀ C, mg c = some (.ref C) → ExcC K C ∧ PySem.W.kitOne K (.ref C) (.ref K_InvalidWord) = some b
  ti_Locked : ∀ c b, tsL ti_Locked c = some b → ∀ C, mg c = some (.ref C) → ExcC K C ∧ PySem.W.kitOne K (.ref C) (.ref K_Locked) = some b
  ti_TooLarge : ∀ c b, tsL ti_TooLarge c = some b → ∀ C, mg c = some (.ref C) → ExcC K C ∧ PySem.W.kitOne K (.ref C) (.ref K_TooLarge) = some b
  ti_ValueError : ∀ c b, tsL ti_ValueError c = some b → ∀ C, mg c = some (.ref C) → ExcC K C ∧ PySem.W.kitOne K (.ref C) (.type "ValueError") = some b
  te_FrontBackError : ∀ c b, tsL te_FrontBackError c = some b → ∀ C, mg c = some (.ref C) → PySem.W.exmOne K (.ref C) (.ref K_FrontBackError) = some b
section
variable {P : Program} {w : World} {K : PySem.W.Frag} {mg : Str → Option Value} {base : Heap}
theorem sc_is_word : FnScope N_is_word ["value"] (defScope s_is_word) := ⟨rfl, rfl, rfl, by decide +kernel, rfl, by decide +kernel, by decide +kernel⟩
theorem bd_is_word (S : Fs K mg) : Binds K S.h_is_word ["value"] [] := S.F_is_word.bindsN fun _ _ _ _ _ _ us hl => match us, hl with | [_], _ => rfl
theorem ok_is_word (S : Fs K mg) : FnOk P w K mg base (L2.CX P w) 1 S.a_is_word S.h_is_word ["value"] (spD K mg 1 d_is_word) :=
  fn_okD (k := 0) (N := N_is_word) (m := m_is_word) S.F_is_word sc_is_word fun cdv A outer s H E hr => by
    have sc := sc_is_word
    have tk := tk_of (P := P) (w := w) (K := K) (mg := mg) (base := base) (N := N_is_word) (qual := "is_word") (scope := defScope s_is_word) (f := S.a_is_word) (cd := cdv) (A := A) (outer := outer) (s := s) (H := H) (E := E)
    have po := po_of (P := P) (w := w) (K := K) (mg := mg) (base := base) (N := N_is_word) (qual := "is_word") (scope := defScope s_is_word) (f := S.a_is_word) (cd := cdv) (A := A) (outer := outer) (s := s) (H := H) (E := E)
    have hu := Room.hu64 hr
    have hu65 := Room.hu65 hr
    have hu1 := Room.hu1 hr
    exact (pfss_one (pfs_ret (pf_and (pf_isT S.b_isinstance S.b_str (by decide +kernel) (pf_var 0)) (pf_and (pf_chain op_le op_le im_le im_le (pf_int) (pf_callB call_lenA im_len (by rfl) S.b_len (by decide +kernel) (pfa_cons (pf_var 0) (pfa_nil))) (pf_gint S.c_LONGEST)) (pf_one (pf_callB (cr_all rfl) im_all (by rfl) S.b_all (by decide +kernel) (pfa_cons (pf_pure (pfl_lcV rfl sc.nd (pf_var 0) (own := [("letter", 1)]) (show BlkOk N_is_word (defScope s_is_word) _ _ from ⟨rfl, by decide +kernel, by decide +kernel, by decide +kernel, by decide +kernel⟩) rfl (fun _ _ _ _ _ => pg_name sc.nd (by rfl) (by first | exact .inl rfl | exact .inr rfl)) (fun _ _ _ _ _ => pts_yes) (fun _ _ _ _ _ => pf_cmp (op_inA hu65) im_in (pf_var 1) (pf_gstr S.c_LETTERS)))) (pfa_nil))))))))

theorem sc_stretch_from : FnScope N_stretch_from ["row", "other", "begin"] (defScope s_stretch_from) := ⟨rfl, rfl, rfl, by decide +kernel, rfl, by decide +kernel, by decide +kernel⟩
theorem bd_stretch_from (S : Fs K mg) : Binds K S.h_stretch_from ["row", "other", "begin"] [] := S.F_stretch_from.bindsN fun _ _ _ _ _ _ us hl => match us, hl with | [_, _, _], _ => rfl
theorem ok_stretch_from (S : Fs K mg) : FnOk P w K mg base (L2.CX P w) 1 S.a_stretch_from S.h_stretch_from ["row", "other", "begin"] (spD K mg 3 d_stretch_from) :=
  fn_okD (k := 0) (N := N_stretch_from) (m := m_stretch_from) S.F_stretch_from sc_stretch_from fun cdv A outer s H E hr => by
    have sc := sc_stretch_from
    have tk := tk_of (P := P) (w := w) (K := K) (mg := mg) (base := base) (N := N_stretch_from) (qual := "stretch_from") (scope := defScope s_stretch_from) (f := S.a_stretch_from) (cd := cdv) (A := A) (outer := outer) (s := s) (H := H) (E := E)
    have po := po_of (P := P) (w := w) (K := K) (mg := mg) (base := base) (N := N_stretch_from) (qual := "stretch_from") (scope := defScope s_stretch_from) (f := S.a_stretch_from) (cd := cdv) (A := A) (outer := outer) (s := s) (H := H) (E := E)
    have hu := Room.hu64 hr
    have hu65 := Room.hu65 hr
    have hu1 := Room.hu1 hr
    exact (pfss_cons (pfs_setDc rfl sc.nd (pfi_enumA S.b_enumerate (pfa_cons (pf_var 0) (pfa_nil))) (own := [("place", 6), ("word", 7)]) (show BlkOk N_stretch_from (defScope s_stretch_from) _ _ from ⟨rfl, by decide +kernel, by decide +kernel, by decide +kernel, by decide +kernel⟩) rfl (fun _ _ _ _ _ => pg_tup rfl (pgs_cons (pg_name sc.nd (by rfl) (by first | exact .inl rfl | exact .inr rfl)) (pgs_cons (pg_name sc.nd (by rfl) (by first | exact .inl rfl | exact .inr rfl)) pgs_nil))) (fun _ _ _ _ _ => pts_yes) (fun _ _ _ _ _ => pf_var 7) (fun _ _ _ _ _ => pf_var 6) (by exact sw_trueD rfl rfl rfl (by decide +kernel))) (pfss_cons (pfs_par rfl sc.nd (pfa_cons (pf_var 2) (pfa_cons (pf_un un_neg im_neg (pf_int)) (pfa_nil))) (by decide)) (pfss_cons (pfs_while 100000 po (PFW.pt (pfw_and (pft_cmp op_lt im_lt (pf_var 4) (pf_callB call_lenA im_len (by rfl) S.b_len (by decide +kernel) (pfa_cons (pf_var 1) (pfa_nil)))) (pfw_and1 (pft_cmp op_gt im_gt (pf_get2 hu1 (pf_var 3) (pf_ix (ix_any hu1) im_ixA (pf_var 1) (pf_var 4)) (pf_un un_neg im_neg (pf_int))) (pf_var 5))))) (pfss_cons (pfs_set sc.nd (pf_ix (ix_any hu1) im_ixA (pf_var 3) (pf_ix (ix_any hu1) im_ixA (pf_var 1) (pf_var 4)))) (pfss_one (pfs_aug sc.nd op_iaddI im_addI (pf_int))))) (pfss_one (pfs_ret (pf_var 4))))))

theorem sc_dropped_of : FnScope N_dropped_of ["row", "other"] (defScope s_dropped_of) := ⟨rfl, rfl, rfl, by decide +kernel, rfl, by decide +kernel, by decide +kernel⟩
theorem bd_dropped_of (S : Fs K mg) : Binds K S.h_dropped_of ["row", "other"] [] := S.F_dropped_of.bindsN fun _ _ _ _ _ _ us hl => match us, hl with | [_, _], _ => rfl
theorem ok_dropped_of (S : Fs K mg) : FnOk P w K mg base (L2.CX P w) 1 S.a_dropped_of S.h_dropped_of ["row", "other"] (spD K mg 2 d_dropped_of) :=
  fn_okD (k := 0) (N := N_dropped_of) (m := m_dropped_of) S.F_dropped_of sc_dropped_of fun cdv A outer s H E hr => by
    have sc := sc_dropped_of
    have tk := tk_of (P := P) (w := w) (K := K) (mg := mg) (base := base) (N := N_dropped_of) (qual := "dropped_of") (scope := defScope s_dropped_of) (f := S.a_dropped_of) (cd := cdv) (A := A) (outer := outer) (s := s) (H := H) (E := E)
    have po := po_of (P := P) (w := w) (K := K) (mg := mg) (base := base) (N := N_dropped_of) (qual := "dropped_of") (scope := defScope s_dropped_of) (f := S.a_dropped_of) (cd := cdv) (A := A) (outer := outer) (s := s) (H := H) (E := E)
    have hu := Room.hu64 hr
    have hu65 := Room.hu65 hr
    have hu1 := Room.hu1 hr
    exact (pfss_one (pfs_ret (pf_pure (pfl_lcV rfl sc.nd (pf_var 0) (own := [("word", 2)]) (show BlkOk N_dropped_of (defScope s_dropped_of) _ _ from ⟨rfl, by decide +kernel, by decide +kernel, by decide +kernel, by decide +kernel⟩) rfl (fun _ _ _ _ _ => pg_name sc.nd (by rfl) (by first | exact .inl rfl | exact .inr rfl)) (fun _ _ _ _ _ => pts_if (pft_cmp (op_notInA hu65) im_notIn (pf_var 2) (pf_var 1))) (fun _ _ _ _ _ => pf_var 2)))))

theorem sc_factorial : FnScope N_factorial ["number"] (defScope s_factorial) := ⟨rfl, rfl, rfl, by decide +kernel, rfl, by decide +kernel, by decide +kernel⟩
theorem bd_factorial (S : Fs K mg) : Binds K S.h_factorial ["number"] [] := S.F_factorial.bindsN fun _ _ _ _ _ _ us hl => match us, hl with | [_], _ => rfl
theorem ok_factorial (S : Fs K mg) : FnOk P w K mg base (L2.CX P w) 1 S.a_factorial S.h_factorial ["number"] (spD K mg 1 d_factorial) :=
  fn_okD (k := 0) (N := N_factorial) (m := m_factorial) S.F_factorial sc_factorial fun cdv A outer s H E hr => by
    have sc := sc_factorial
    have tk := tk_of (P := P) (w := w) (K := K) (mg := mg) (base := base) (N := N_factorial) (qual := "factorial") (scope := defScope s_factorial) (f := S.a_factorial) (cd := cdv) (A := A) (outer := outer) (s := s) (H := H) (E := E)
    have po := po_of (P := P) (w := w) (K := K) (mg := mg) (base := base) (N := N_factorial) (qual := "factorial") (scope := defScope s_factorial) (f := S.a_factorial) (cd := cdv) (A := A) (outer := outer) (s := s) (H := H) (E := E)
    have hu := Room.hu64 hr
    have hu65 := Room.hu65 hr
    have hu1 := Room.hu1 hr
    exact (pfss_cons (pfs_set sc.nd (pf_int)) (pfss_cons (pfs_for po rfl (pfi_rng2 S.b_range (pfa_cons (pf_int) (pfa_cons (pf_op op_addA im_add (pf_var 0) (pf_int)) (pfa_nil)))) (pg_name sc.nd (by rfl) (by first | exact .inl rfl | exact .inr rfl)) (pfss_one (pfs_aug sc.nd iop_mul im_mulI (pf_var 2)))) (pfss_one (pfs_ret (pf_var 1)))))

theorem sc__law_mixed : FnScope N__law_mixed ["cell", "k"] (defScope s__law_mixed) := ⟨rfl, rfl, rfl, by decide +kernel, rfl, by decide +kernel, by decide +kernel⟩
theorem bd__law_mixed (S : Fs K mg) : Binds K S.h__law_mixed ["cell", "k"] [] := S.F__law_mixed.bindsN fun _ _ _ _ _ _ us hl => match us, hl with | [_, _], _ => rfl
theorem ok__law_mixed (S : Fs K mg) : FnOk P w K mg base (L2.CX P w) 1 S.a__law_mixed S.h__law_mixed ["cell", "k"] (spD K mg 2 d__law_mixed) :=
  fn_okD (k := 0) (N := N__law_mixed) (m := m__law_mixed) S.F__law_mixed sc__law_mixed fun cdv A outer s H E hr => by
    have sc := sc__law_mixed
    have tk := tk_of (P := P) (w := w) (K := K) (mg := mg) (base := base) (N := N__law_mixed) (qual := "_law_mixed") (scope := defScope s__law_mixed) (f := S.a__law_mixed) (cd := cdv) (A := A) (outer := outer) (s := s) (H := H) (E := E)
    have po := po_of (P := P) (w := w) (K := K) (mg := mg) (base := base) (N := N__law_mixed) (qual := "_law_mixed") (scope := defScope s__law_mixed) (f := S.a__law_mixed) (cd := cdv) (A := A) (outer := outer) (s := s) (H := H) (E := E)
    have hu := Room.hu64 hr
    have hu65 := Room.hu65 hr
    have hu1 := Room.hu1 hr
    exact (pfss_cons (pfs_set sc.nd (pf_op op_mod im_mod (pf_callTy call_int1 im_int (by rfl) S.b_int (by decide +kernel) (pfa_cons (pf_op op_addA im_add (pf_op op_addA im_add (pf_op op_mulA im_mul (pf_op op_mod im_mod (pf_callTy call_int1 im_int (by rfl) S.b_int (by decide +kernel) (pfa_cons (pf_var 0) (pfa_nil))) (pf_int)) (pf_int)) (pf_op op_mulA im_mul (pf_var 1) (pf_int))) (pf_int)) (pfa_nil))) (pf_int))) (pfss_cons (pfs_set sc.nd (pf_op op_mod im_mod (pf_callTy call_int1 im_int (by rfl) S.b_int (by decide +kernel) (pfa_cons (pf_op op_mulA im_mul (pf_var 2) (pf_var 2)) (pfa_nil))) (pf_int))) (pfss_one (pfs_ret (pf_op op_mod im_mod (pf_callTy call_int1 im_int (by rfl) S.b_int (by decide +kernel) (pfa_cons (pf_op op_mulA im_mul (pf_var 2) (pf_op op_addA im_add (pf_var 2) (pf_int))) (pfa_nil))) (pf_int))))))

theorem sc__law_take : FnScope N__law_take ["own", "options"] (defScope s__law_take) := ⟨rfl, rfl, rfl, by decide +kernel, rfl, by decide +kernel, by decide +kernel⟩
theorem bd__law_take (S : Fs K mg) : Binds K S.h__law_take ["own", "options"] [] := S.F__law_take.bindsN fun _ _ _ _ _ _ us hl => match us, hl with | [_, _], _ => rfl
theorem ok__law_take (S : Fs K mg) : FnOk P w K mg base (L2.CX P w) 1 S.a__law_take S.h__law_take ["own", "options"] (spD K mg 2 d__law_take) :=
  fn_okD (k := 0) (N := N__law_take) (m := m__law_take) S.F__law_take sc__law_take fun cdv A outer s H E hr => by
    have sc := sc__law_take
    have tk := tk_of (P := P) (w := w) (K := K) (mg := mg) (base := base) (N := N__law_take) (qual := "_law_take") (scope := defScope s__law_take) (f := S.a__law_take) (cd := cdv) (A := A) (outer := outer) (s := s) (H := H) (E := E)
    have po := po_of (P := P) (w := w) (K := K) (mg := mg) (base := base) (N := N__law_take) (qual := "_law_take") (scope := defScope s__law_take) (f := S.a__law_take) (cd := cdv) (A := A) (outer := outer) (s := s) (H := H) (E := E)
    have hu := Room.hu64 hr
    have hu65 := Room.hu65 hr
    have hu1 := Room.hu1 hr
    exact (pfss_cons (pfs_set sc.nd (pf_op op_mod im_mod (pf_callTy call_int1 im_int (by rfl) S.b_int (by decide +kernel) (pfa_cons (pf_ix (ix_any hu1) im_ixA (pf_var 0) (pf_int)) (pfa_nil))) (pf_var 1))) (pfss_cons (pfs_setIx (pf_op op_fdivW im_div (pf_ix (ix_any hu1) im_ixA (pf_var 0) (pf_int)) (pf_var 1)) (pf_var 0) (pf_int)) (pfss_one (pfs_ret (pf_var 2)))))

theorem sc__law_no_words : FnScope N__law_no_words [] (defScope s__law_no_words) := ⟨rfl, rfl, rfl, by decide +kernel, rfl, by decide +kernel, by decide +kernel⟩
theorem bd__law_no_words (S : Fs K mg) : Binds K S.h__law_no_words [] [] := S.F__law_no_words.bindsN fun _ _ _ _ _ _ us hl => match us, hl with | [], _ => rfl
theorem ok__law_no_words (S : Fs K mg) : FnOk P w K mg base (L2.CX P w) 1 S.a__law_no_words S.h__law_no_words [] (spD K mg 0 d__law_no_words) :=
  fn_okD (k := 0) (N := N__law_no_words) (m := m__law_no_words) S.F__law_no_words sc__law_no_words fun cdv A outer s H E hr => by
    have sc := sc__law_no_words
    have tk := tk_of (P := P) (w := w) (K := K) (mg := mg) (base := base) (N := N__law_no_words) (qual := "_law_no_words") (scope := defScope s__law_no_words) (f := S.a__law_no_words) (cd := cdv) (A := A) (outer := outer) (s := s) (H := H) (E := E)
    have po := po_of (P := P) (w := w) (K := K) (mg := mg) (base := base) (N := N__law_no_words) (qual := "_law_no_words") (scope := defScope s__law_no_words) (f := S.a__law_no_words) (cd := cdv) (A := A) (outer := outer) (s := s) (H := H) (E := E)
    have hu := Room.hu64 hr
    have hu65 := Room.hu65 hr
    have hu1 := Room.hu1 hr
    exact (pfss_one (pfs_ret (pf_pure (pfl_lst (pfa_cons (pf_non) (pfa_cons (pf_bl) (pfa_cons (pf_int) (pfa_cons (pf_str) (pfa_cons (pf_str) (pfa_cons (pf_str) (pfa_cons (pf_str) (pfa_cons (pf_str) (pfa_cons (pf_tup (pfa_cons (pf_str) (pfa_nil))) (pfa_cons (pf_pure (pfl_lst (pfa_cons (pf_str) (pfa_nil)))) (pfa_cons (pf_e0) (pfa_cons (pf_str) (pfa_cons (pf_str) (pfa_nil))))))))))))))))))

theorem sc__law_kinds : FnScope N__law_kinds ["error"] (defScope s__law_kinds) := ⟨rfl, rfl, rfl, by decide +kernel, rfl, by decide +kernel, by decide +kernel⟩
theorem bd__law_kinds (S : Fs K mg) : Binds K S.h__law_kinds ["error"] [] := S.F__law_kinds.bindsN fun _ _ _ _ _ _ us hl => match us, hl with | [_], _ => rfl
theorem ok__law_kinds (S : Fs K mg) : FnOk P w K mg base (L2.CX P w) 1 S.a__law_kinds S.h__law_kinds ["error"] (spD K mg 1 d__law_kinds) :=
  fn_okD (k := 0) (N := N__law_kinds) (m := m__law_kinds) S.F__law_kinds sc__law_kinds fun cdv A outer s H E hr => by
    have sc := sc__law_kinds
    have tk := tk_of (P := P) (w := w) (K := K) (mg := mg) (base := base) (N := N__law_kinds) (qual := "_law_kinds") (scope := defScope s__law_kinds) (f := S.a__law_kinds) (cd := cdv) (A := A) (outer := outer) (s := s) (H := H) (E := E)
    have po := po_of (P := P) (w := w) (K := K) (mg := mg) (base := base) (N := N__law_kinds) (qual := "_law_kinds") (scope := defScope s__law_kinds) (f := S.a__law_kinds) (cd := cdv) (A := A) (outer := outer) (s := s) (H := H) (E := E)
    have hu := Room.hu64 hr
    have hu65 := Room.hu65 hr
    have hu1 := Room.hu1 hr
    exact (pfss_cons (pfs_set sc.nd (pf_pure (pfl_lst (pfa_cons (pf_isX S.b_isinstance S.gx_InvalidRow (fun c C b h1 h2 => S.ti_InvalidRow c b h2 C h1) (pf_var 0)) (pfa_cons (pf_isX S.b_isinstance S.gx_InvalidRows (fun c C b h1 h2 => S.ti_InvalidRows c b h2 C h1) (pf_var 0)) (pfa_nil)))))) (pfss_cons (pfs_set sc.nd (pf_op op_addA im_add (pf_var 1) (pf_pure (pfl_lst (pfa_cons (pf_isX S.b_isinstance S.gx_InvalidProgram (fun c C b h1 h2 => S.ti_InvalidProgram c b h2 C h1) (pf_var 0)) (pfa_nil)))))) (pfss_cons (pfs_set sc.nd (pf_op op_addA im_add (pf_var 1) (pf_pure (pfl_lst (pfa_cons (pf_isX S.b_isinstance S.gx_InvalidOperation (fun c C b h1 h2 => S.ti_InvalidOperation c b h2 C h1) (pf_var 0)) (pfa_cons (pf_isX S.b_isinstance S.gx_InvalidWord (fun c C b h1 h2 => S.ti_InvalidWord c b h2 C h1) (pf_var 0)) (pfa_nil))))))) (pfss_cons (pfs_set sc.nd (pf_op op_addA im_add (pf_var 1) (pf_pure (pfl_lst (pfa_cons (pf_isX S.b_isinstance S.gx_InvalidNames (fun c C b h1 h2 => S.ti_InvalidNames c b h2 C h1) (pf_var 0)) (pfa_cons (pf_isX S.b_isinstance S.gx_InvalidMeaning (fun c C b h1 h2 => S.ti_InvalidMeaning c b h2 C h1) (pf_var 0)) (pfa_nil))))))) (pfss_cons (pfs_set sc.nd (pf_op op_addA im_add (pf_var 1) (pf_pure (pfl_lst (pfa_cons (pf_isX S.b_isinstance S.gx_InvalidNumber (fun c C b h1 h2 => S.ti_InvalidNumber c b h2 C h1) (pf_var 0)) (pfa_cons (pf_isX S.b_isinstance S.gx_InvalidFences (fun c C b h1 h2 => S.ti_InvalidFences c b h2 C h1) (pf_var 0)) (pfa_nil))))))) (pfss_cons (pfs_set sc.nd (pf_op op_addA im_add (pf_var 1) (pf_pure (pfl_lst (pfa_cons (pf_isX S.b_isinstance S.gx_InvalidResults (fun c C b h1 h2 => S.ti_InvalidResults c b h2 C h1) (pf_var 0)) (pfa_cons (pf_isX S.b_isinstance S.gx_TooLarge (fun c C b h1 h2 => S.ti_TooLarge c b h2 C h1) (pf_var 0)) (pfa_nil))))))) (pfss_cons (pfs_set sc.nd (pf_op op_addA im_add (pf_var 1) (pf_pure (pfl_lst (pfa_cons (pf_isX S.b_isinstance S.gx_Locked (fun c C b h1 h2 => S.ti_Locked c b h2 C h1) (pf_var 0)) (pfa_nil)))))) (pfss_one (pfs_ret (pf_var 1))))))))))

theorem sc_are_words : FnScope N_are_words ["value"] (defScope s_are_words) := ⟨rfl, rfl, rfl, by decide +kernel, rfl, by decide +kernel, by decide +kernel⟩
theorem bd_are_words (S : Fs K mg) : Binds K S.h_are_words ["value"] [] := S.F_are_words.bindsN fun _ _ _ _ _ _ us hl => match us, hl with | [_], _ => rfl
theorem ok_are_words (S : Fs K mg) : FnOk P w K mg base (L2.CX P w) 2 S.a_are_words S.h_are_words ["value"] (spD K mg 1 d_are_words) :=
  fn_okD (k := 1) (N := N_are_words) (m := m_are_words) S.F_are_words sc_are_words fun cdv A outer s H E hr => by
    have sc := sc_are_words
    have tk := tk_of (P := P) (w := w) (K := K) (mg := mg) (base := base) (N := N_are_words) (qual := "are_words") (scope := defScope s_are_words) (f := S.a_are_words) (cd := cdv) (A := A) (outer := outer) (s := s) (H := H) (E := E)
    have po := po_of (P := P) (w := w) (K := K) (mg := mg) (base := base) (N := N_are_words) (qual := "are_words") (scope := defScope s_are_words) (f := S.a_are_words) (cd := cdv) (A := A) (outer := outer) (s := s) (H := H) (E := E)
    have hu := Room.hu64 hr
    have hu65 := Room.hu65 hr
    have hu1 := Room.hu1 hr
    exact (pfss_one (pfs_ret (pf_and (pf_isT S.b_isinstance S.b_tuple (by decide +kernel) (pf_var 0)) (pf_and (pf_callB (cr_all rfl) im_all (by rfl) S.b_all (by decide +kernel) (pfa_cons (pf_pure (pfl_lcV rfl sc.nd (pf_var 0) (own := [("word", 1)]) (show BlkOk N_are_words (defScope s_are_words) _ _ from ⟨rfl, by decide +kernel, by decide +kernel, by decide +kernel, by decide +kernel⟩) rfl (fun _ _ _ _ _ => pg_name sc.nd (by rfl) (by first | exact .inl rfl | exact .inr rfl)) (fun _ _ _ _ _ => pts_yes) (fun _ _ _ _ _ => pf_call (ok_is_word S) (hr.mono (by decide)) (by rfl) S.g_is_word S.F_is_word.kp (bd_is_word S) takesW0 (pfa_cons (pf_var 1) (pfa_nil)) (hfl := (fcons_len fnil_len))))) (pfa_nil))) (pf_one (pf_cmp (op_eqA hu) im_eq (pf_lenSet rfl S.b_len S.b_set (pf_var 0)) (pf_callB call_lenA im_len (by rfl) S.b_len (by decide +kernel) (pfa_cons (pf_var 0) (pfa_nil)))))))))

theorem sc_stretches_of : FnScope N_stretches_of ["row", "other"] (defScope s_stretches_of) := ⟨rfl, rfl, rfl, by decide +kernel, rfl, by decide +kernel, by decide +kernel⟩
theorem bd_stretches_of (S : Fs K mg) : Binds K S.h_stretches_of ["row", "other"] [] := S.F_stretches_of.bindsN fun _ _ _ _ _ _ us hl => match us, hl with | [_, _], _ => rfl
theorem ok_stretches_of (S : Fs K mg) : FnOk P w K mg base (L2.CX P w) 2 S.a_stretches_of S.h_stretches_of ["row", "other"] (spD K mg 2 d_stretches_of) :=
  fn_okD (k := 1) (N := N_stretches_of) (m := m_stretches_of) S.F_stretches_of sc_stretches_of fun cdv A outer s H E hr => by
    have sc := sc_stretches_of
    have tk := tk_of (P := P) (w := w) (K := K) (mg := mg) (base := base) (N := N_stretches_of) (qual := "stretches_of") (scope := defScope s_stretches_of) (f := S.a_stretches_of) (cd := cdv) (A := A) (outer := outer) (s := s) (H := H) (E := E)
    have po := po_of (P := P) (w := w) (K := K) (mg := mg) (base := base) (N := N_stretches_of) (qual := "stretches_of") (scope := defScope s_stretches_of) (f := S.a_stretches_of) (cd := cdv) (A := A) (outer := outer) (s := s) (H := H) (E := E)
    have hu := Room.hu64 hr
    have hu65 := Room.hu65 hr
    have hu1 := Room.hu1 hr
    exact (pfss_cons (pfs_setLc rfl sc.nd (pfi_rng1 S.b_range (pfa_cons (pf_op op_addA im_add (pf_callB call_lenA im_len (by rfl) S.b_len (by decide +kernel) (pfa_cons (pf_var 1) (pfa_nil))) (pf_int)) (pfa_nil))) (own := [("begin", 4)]) (show BlkOk N_stretches_of (defScope s_stretches_of) _ _ from ⟨rfl, by decide +kernel, by decide +kernel, by decide +kernel, by decide +kernel⟩) rfl (fun _ _ _ _ _ => pg_name sc.nd (by rfl) (by first | exact .inl rfl | exact .inr rfl)) (fun _ _ _ _ _ => pts_yes) (fun _ _ _ _ _ => pf_tup (pfa_cons (pf_var 4) (pfa_cons (pf_call (ok_stretch_from S) (hr.mono (by decide)) (by rfl) S.g_stretch_from S.F_stretch_from.kp (bd_stretch_from S) takesW0 (pfa_cons (pf_var 0) (pfa_cons (pf_var 1) (pfa_cons (pf_var 4) (pfa_nil)))) (hfl := (fcons_len (fcons_len (fcons_len fnil_len))))) (pfa_nil)))) (by exact sw_true rfl rfl rfl (by decide +kernel)) tf_pure) (pfss_cons (pfs_set sc.nd (pf_callB (call_maxA rfl) im_max (by rfl) S.b_max (by decide +kernel) (pfa_cons (pf_pure (pfl_lcV rfl sc.nd (pf_var 2) (own := [("begin", 4), ("end", 5)]) (show BlkOk N_stretches_of (defScope s_stretches_of) _ _ from ⟨rfl, by decide +kernel, by decide +kernel, by decide +kernel, by decide +kernel⟩) rfl (fun _ _ _ _ _ => pg_tup rfl (pgs_cons (pg_name sc.nd (by rfl) (by first | exact .inl rfl | exact .inr rfl)) (pgs_cons (pg_name sc.nd (by rfl) (by first | exact .inl rfl | exact .inr rfl)) pgs_nil))) (fun _ _ _ _ _ => pts_yes) (fun _ _ _ _ _ => pf_op op_sub im_sub (pf_var 5) (pf_var 4)))) (pfa_nil)))) (pfss_one (pfs_ret (pf_pure (pfl_lcV rfl sc.nd (pf_var 2) (own := [("begin", 4), ("end", 5)]) (show BlkOk N_stretches_of (defScope s_stretches_of) _ _ from ⟨rfl, by decide +kernel, by decide +kernel, by decide +kernel, by decide +kernel⟩) rfl (fun _ _ _ _ _ => pg_tup rfl (pgs_cons (pg_name sc.nd (by rfl) (by first | exact .inl rfl | exact .inr rfl)) (pgs_cons (pg_name sc.nd (by rfl) (by first | exact .inl rfl | exact .inr rfl)) pgs_nil))) (fun _ _ _ _ _ => pts_if (pft_cmp (op_eqA hu) im_eq (pf_op op_sub im_sub (pf_var 5) (pf_var 4)) (pf_var 3))) (fun _ _ _ _ _ => pf_tup (pfa_cons (pf_var 4) (pfa_cons (pf_var 5) (pfa_nil))))))))))

theorem sc__law_cell : FnScope N__law_cell ["script", "k"] (defScope s__law_cell) := ⟨rfl, rfl, rfl, by decide +kernel, rfl, by decide +kernel, by decide +kernel⟩
theorem bd__law_cell (S : Fs K mg) : Binds K S.h__law_cell ["script", "k"] [] := S.F__law_cell.bindsN fun _ _ _ _ _ _ us hl => match us, hl with | [_, _], _ => rfl
theorem ok__law_cell (S : Fs K mg) : FnOk P w K mg base (L2.CX P w) 2 S.a__law_cell S.h__law_cell ["script", "k"] (spD K mg 2 d__law_cell) :=
  fn_okD (k := 1) (N := N__law_cell) (m := m__law_cell) S.F__law_cell sc__law_cell fun cdv A outer s H E hr => by
    have sc := sc__law_cell
    have tk := tk_of (P := P) (w := w) (K := K) (mg := mg) (base := base) (N := N__law_cell) (qual := "_law_cell") (scope := defScope s__law_cell) (f := S.a__law_cell) (cd := cdv) (A := A) (outer := outer) (s := s) (H := H) (E := E)
    have po := po_of (P := P) (w := w) (K := K) (mg := mg) (base := base) (N := N__law_cell) (qual := "_law_cell") (scope := defScope s__law_cell) (f := S.a__law_cell) (cd := cdv) (A := A) (outer := outer) (s := s) (H := H) (E := E)
    have hu := Room.hu64 hr
    have hu65 := Room.hu65 hr
    have hu1 := Room.hu1 hr
    exact (pfss_cons (pfs_set sc.nd (pf_int)) (pfss_cons (pfs_if (pft_cmp op_lt im_lt (pf_var 1) (pf_callB call_lenA im_len (by rfl) S.b_len (by decide +kernel) (pfa_cons (pf_var 0) (pfa_nil)))) (pfss_one (pfs_set sc.nd (pf_ix (ix_any hu1) im_ixA (pf_var 0) (pf_var 1)))) (pfss_nil)) (pfss_cons (pfs_if (pft_cmp op_ge im_ge (pf_var 2) (pf_op op_pow im_pow (pf_int) (pf_int))) (pfss_one (pfs_ret (pf_op op_mod im_mod (pf_callTy call_int1 im_int (by rfl) S.b_int (by decide +kernel) (pfa_cons (pf_op op_sub im_sub (pf_var 2) (pf_op op_pow im_pow (pf_int) (pf_int))) (pfa_nil))) (pf_op op_mulA im_mul (pf_op op_mulA im_mul (pf_op op_mulA im_mul (pf_op op_pow im_pow (pf_int) (pf_int)) (pf_op op_pow im_pow (pf_int) (pf_int))) (pf_op op_pow im_pow (pf_int) (pf_int))) (pf_op op_pow im_pow (pf_int) (pf_int)))))) (pfss_nil)) (pfss_cons (pfs_set sc.nd (pf_int)) (pfss_cons (pfs_for po rfl (pfi_rng1 S.b_range (pfa_cons (pf_int) (pfa_nil))) (pg_name sc.nd (by rfl) (by first | exact .inl rfl | exact .inr rfl)) (pfss_one (pfs_set sc.nd (pf_op op_addA im_add (pf_op op_mulA im_mul (pf_var 3) (pf_int)) (pf_call (ok__law_mixed S) (hr.mono (by decide)) (by rfl) S.g__law_mixed S.F__law_mixed.kp (bd__law_mixed S) tk (pfa_cons (pf_var 2) (pfa_cons (pf_op op_addA im_add (pf_op op_addA im_add (pf_op op_mulA im_mul (pf_int) (pf_var 1)) (pf_op op_mulA im_mul (pf_int) (pf_var 4))) (pf_op op_mulA im_mul (pf_var 4) (pf_var 4))) (pfa_nil))) (hfl := (fcons_len (fcons_len fnil_len)))))))) (pfss_one (pfs_ret (pf_var 3))))))))

theorem sc__law_words : FnScope N__law_words ["own", "many"] (defScope s__law_words) := ⟨rfl, rfl, rfl, by decide +kernel, rfl, by decide +kernel, by decide +kernel⟩
theorem bd__law_words (S : Fs K mg) : Binds K S.h__law_words ["own", "many"] [] := S.F__law_words.bindsN fun _ _ _ _ _ _ us hl => match us, hl with | [_, _], _ => rfl
theorem ok__law_words (S : Fs K mg) : FnOk P w K mg base (L2.CX P w) 2 S.a__law_words S.h__law_words ["own", "many"] (spD K mg 2 d__law_words) :=
  fn_okD (k := 1) (N := N__law_words) (m := m__law_words) S.F__law_words sc__law_words fun cdv A outer s H E hr => by
    have sc := sc__law_words
    have tk := tk_of (P := P) (w := w) (K := K) (mg := mg) (base := base) (N := N__law_words) (qual := "_law_words") (scope := defScope s__law_words) (f := S.a__law_words) (cd := cdv) (A := A) (outer := outer) (s := s) (H := H) (E := E)
    have po := po_of (P := P) (w := w) (K := K) (mg := mg) (base := base) (N := N__law_words) (qual := "_law_words") (scope := defScope s__law_words) (f := S.a__law_words) (cd := cdv) (A := A) (outer := outer) (s := s) (H := H) (E := E)
    have hu := Room.hu64 hr
    have hu65 := Room.hu65 hr
    have hu1 := Room.hu1 hr
    exact (pfss_cons (pfs_set sc.nd (pf_pure (pfl_lst (pfa_cons (pf_str) (pfa_cons (pf_str) (pfa_cons (pf_str) (pfa_cons (pf_str) (pfa_cons (pf_str) (pfa_cons (pf_str) (pfa_cons (pf_str) (pfa_cons (pf_str) (pfa_nil)))))))))))) (pfss_cons (pfs_set sc.nd (pf_call (ok__law_take S) (hr.mono (by decide)) (by rfl) S.g__law_take S.F__law_take.kp (bd__law_take S) tk (pfa_cons (pf_var 0) (pfa_cons (pf_int) (pfa_nil))) (hfl := (fcons_len (fcons_len fnil_len))))) (pfss_one (pfs_ret (pf_sl (pf_op op_addA im_add (pf_sl (pf_var 2) (pfo_some (pf_var 3)) (pfo_none)) (pf_sl (pf_var 2) (pfo_none) (pfo_some (pf_var 3)))) (pfo_none) (pfo_some (pf_var 1)))))))

theorem sc__law_row : FnScope N__law_row ["own", "words"] (defScope s__law_row) := ⟨rfl, rfl, rfl, by decide +kernel, rfl, by decide +kernel, by decide +kernel⟩
theorem bd__law_row (S : Fs K mg) : Binds K S.h__law_row ["own", "words"] [] := S.F__law_row.bindsN fun _ _ _ _ _ _ us hl => match us, hl with | [_, _], _ => rfl
theorem ok__law_row (S : Fs K mg) : FnOk P w K mg base (L2.CX P w) 2 S.a__law_row S.h__law_row ["own", "words"] (spD K mg 2 d__law_row) :=
  fn_okD (k := 1) (N := N__law_row) (m := m__law_row) S.F__law_row sc__law_row fun cdv A outer s H E hr => by
    have sc := sc__law_row
    have tk := tk_of (P := P) (w := w) (K := K) (mg := mg) (base := base) (N := N__law_row) (qual := "_law_row") (scope := defScope s__law_row) (f := S.a__law_row) (cd := cdv) (A := A) (outer := outer) (s := s) (H := H) (E := E)
    have po := po_of (P := P) (w := w) (K := K) (mg := mg) (base := base) (N := N__law_row) (qual := "_law_row") (scope := defScope s__law_row) (f := S.a__law_row) (cd := cdv) (A := A) (outer := outer) (s := s) (H := H) (E := E)
    have hu := Room.hu64 hr
    have hu65 := Room.hu65 hr
    have hu1 := Room.hu1 hr
    exact (pfss_cons (pfs_par rfl sc.nd (pfa_cons (pf_cell (pfl_list S.b_list (pf_var 1))) (pfa_cons (pf_cell (pfl_lst (pfa_nil))) (pfa_nil))) (by decide)) (pfss_cons (pfs_while 100000 po (pft_cmp (op_neA hu) im_ne (pf_var 2) (pf_pure (pfl_lst (pfa_nil)))) (pfss_cons (pfs_set sc.nd (pf_mth PySem.F.slot_list_pop PySem.F.type_list_pop mt_popAt im_popAt (pf_var 2) (pfa_cons (pf_call (ok__law_take S) (hr.mono (by decide)) (by rfl) S.g__law_take S.F__law_take.kp (bd__law_take S) tk (pfa_cons (pf_var 0) (pfa_cons (pf_callB call_lenA im_len (by rfl) S.b_len (by decide +kernel) (pfa_cons (pf_var 2) (pfa_nil))) (pfa_nil))) (hfl := (fcons_len (fcons_len fnil_len)))) (pfa_nil)))) (pfss_one (pfs_if (pft_cmp op_gt im_gt (pf_call (ok__law_take S) (hr.mono (by decide)) (by rfl) S.g__law_take S.F__law_take.kp (bd__law_take S) tk (pfa_cons (pf_var 0) (pfa_cons (pf_int) (pfa_nil))) (hfl := (fcons_len (fcons_len fnil_len)))) (pf_int)) (pfss_one (pfs_expr (pf_mth PySem.F.slot_list_append PySem.F.type_list_append mt_append im_append (pf_var 3) (pfa_cons (pf_var 4) (pfa_nil))))) (pfss_nil))))) (pfss_one (pfs_ret (pf_callTy (call_tupX rfl) im_tuple (by rfl) S.b_tuple (by decide +kernel) (pfa_cons (pf_var 3) (pfa_nil)))))))

theorem sc__law_no_rows : FnScope N__law_no_rows [] (defScope s__law_no_rows) := ⟨rfl, rfl, rfl, by decide +kernel, rfl, by decide +kernel, by decide +kernel⟩
theorem bd__law_no_rows (S : Fs K mg) : Binds K S.h__law_no_rows [] [] := S.F__law_no_rows.bindsN fun _ _ _ _ _ _ us hl => match us, hl with | [], _ => rfl
theorem ok__law_no_rows (S : Fs K mg) : FnOk P w K mg base (L2.CX P w) 2 S.a__law_no_rows S.h__law_no_rows [] (spD K mg 0 d__law_no_rows) :=
  fn_okD (k := 1) (N := N__law_no_rows) (m := m__law_no_rows) S.F__law_no_rows sc__law_no_rows fun cdv A outer s H E hr => by
    have sc := sc__law_no_rows
    have tk := tk_of (P := P) (w := w) (K := K) (mg := mg) (base := base) (N := N__law_no_rows) (qual := "_law_no_rows") (scope := defScope s__law_no_rows) (f := S.a__law_no_rows) (cd := cdv) (A := A) (outer := outer) (s := s) (H := H) (E := E)
    have po := po_of (P := P) (w := w) (K := K) (mg := mg) (base := base) (N := N__law_no_rows) (qual := "_law_no_rows") (scope := defScope s__law_no_rows) (f := S.a__law_no_rows) (cd := cdv) (A := A) (outer := outer) (s := s) (H := H) (E := E)
    have hu := Room.hu64 hr
    have hu65 := Room.hu65 hr
    have hu1 := Room.hu1 hr
    exact (pfss_cons (pfs_set sc.nd (pf_pure (pfl_lst (pfa_cons (pf_non) (pfa_cons (pf_bl) (pfa_cons (pf_int) (pfa_cons (pf_str) (pfa_cons (pf_str) (pfa_cons (pf_pure (pfl_lst (pfa_cons (pf_str) (pfa_nil)))) (pfa_cons (pf_pure (pfl_lst (pfa_nil))) (pfa_cons (pf_e0) (pfa_cons (pf_tup (pfa_cons (pf_str) (pfa_cons (pf_str) (pfa_nil)))) (pfa_cons (pf_tup (pfa_cons (pf_str) (pfa_cons (pf_str) (pfa_cons (pf_str) (pfa_nil))))) (pfa_nil)))))))))))))) (pfss_cons (pfs_set sc.nd (pf_op op_addA im_add (pf_var 0) (pf_pure (pfl_lst (pfa_cons (pf_callTy (call_tupX rfl) im_tuple (by rfl) S.b_tuple (by decide +kernel) (pfa_cons (pf_str) (pfa_nil))) (pfa_nil)))))) (pfss_one (pfs_ret (pf_op op_addA im_add (pf_op op_addA im_add (pf_var 0) (pf_pure (pfl_lcV rfl sc.nd (pf_call0 (ok__law_no_words S) (hr.mono (by decide)) (by rfl) S.g__law_no_words S.F__law_no_words.kp (bd__law_no_words S) tk) (own := [("word", 1)]) (show BlkOk N__law_no_rows (defScope s__law_no_rows) _ _ from ⟨rfl, by decide +kernel, by decide +kernel, by decide +kernel, by decide +kernel⟩) rfl (fun _ _ _ _ _ => pg_name sc.nd (by rfl) (by first | exact .inl rfl | exact .inr rfl)) (fun _ _ _ _ _ => pts_yes) (fun _ _ _ _ _ => pf_tup (pfa_cons (pf_str) (pfa_cons (pf_var 1) (pfa_nil))))))) (pf_pure (pfl_lcV rfl sc.nd (pf_call0 (ok__law_no_words S) (hr.mono (by decide)) (by rfl) S.g__law_no_words S.F__law_no_words.kp (bd__law_no_words S) tk) (own := [("word", 1)]) (show BlkOk N__law_no_rows (defScope s__law_no_rows) _ _ from ⟨rfl, by decide +kernel, by decide +kernel, by decide +kernel, by decide +kernel⟩) rfl (fun _ _ _ _ _ => pg_name sc.nd (by rfl) (by first | exact .inl rfl | exact .inr rfl)) (fun _ _ _ _ _ => pts_yes) (fun _ _ _ _ _ => pf_tup (pfa_cons (pf_var 1) (pfa_cons (pf_str) (pfa_cons (pf_str) (pfa_nil))))))))))))

theorem sc__law_only : FnScope N__law_only ["error", "kind"] (defScope s__law_only) := ⟨rfl, rfl, rfl, by decide +kernel, rfl, by decide +kernel, by decide +kernel⟩
theorem bd__law_only (S : Fs K mg) : Binds K S.h__law_only ["error", "kind"] [] := S.F__law_only.bindsN fun _ _ _ _ _ _ us hl => match us, hl with | [_, _], _ => rfl
theorem ok__law_only (S : Fs K mg) : FnOk P w K mg base (L2.CX P w) 2 S.a__law_only S.h__law_only ["error", "kind"] (spD K mg 2 d__law_only) :=
  fn_okD (k := 1) (N := N__law_only) (m := m__law_only) S.F__law_only sc__law_only fun cdv A outer s H E hr => by
    have sc := sc__law_only
    have tk := tk_of (P := P) (w := w) (K := K) (mg := mg) (base := base) (N := N__law_only) (qual := "_law_only") (scope := defScope s__law_only) (f := S.a__law_only) (cd := cdv) (A := A) (outer := outer) (s := s) (H := H) (E := E)
    have po := po_of (P := P) (w := w) (K := K) (mg := mg) (base := base) (N := N__law_only) (qual := "_law_only") (scope := defScope s__law_only) (f := S.a__law_only) (cd := cdv) (A := A) (outer := outer) (s := s) (H := H) (E := E)
    have hu := Room.hu64 hr
    have hu65 := Room.hu65 hr
    have hu1 := Room.hu1 hr
    exact (pfss_cons (pfs_set sc.nd (pf_pure (pfl_lst (pfa_cons (pf_str) (pfa_cons (pf_str) (pfa_cons (pf_str) (pfa_cons (pf_str) (pfa_cons (pf_str) (pfa_cons (pf_str) (pfa_cons (pf_str) (pfa_cons (pf_str) (pfa_nil)))))))))))) (pfss_cons (pfs_set sc.nd (pf_op op_addA im_add (pf_var 2) (pf_pure (pfl_lst (pfa_cons (pf_str) (pfa_cons (pf_str) (pfa_nil))))))) (pfss_cons (pfs_if (PFW.pt (pfw_or (pft_not (pft_val (pf_isX S.b_isinstance S.gx_FrontBackError (fun c C b h1 h2 => S.ti_FrontBackError c b h2 C h1) (pf_var 0)))) (pfw_or1 (pft_not (pft_val (pf_isXB S.b_isinstance S.b_ValueError (by decide +kernel) (fun c C b h1 h2 => S.ti_ValueError c b h2 C h1) (pf_var 0))))))) (pfss_one (pfs_ret (pf_bl))) (pfss_nil)) (pfss_one (pfs_ret (pf_cmp (op_eqA hu) im_eq (pf_call (ok__law_kinds S) (hr.mono (by decide)) (by rfl) S.g__law_kinds S.F__law_kinds.kp (bd__law_kinds S) tk (pfa_cons (pf_var 0) (pfa_nil)) (hfl := (fcons_len fnil_len))) (pf_pure (pfl_lcV rfl sc.nd (pf_op op_addA im_add (pf_var 2) (pf_pure (pfl_lst (pfa_cons (pf_str) (pfa_cons (pf_str) (pfa_nil)))))) (own := [("one", 3)]) (show BlkOk N__law_only (defScope s__law_only) _ _ from ⟨rfl, by decide +kernel, by decide +kernel, by decide +kernel, by decide +kernel⟩) rfl (fun _ _ _ _ _ => pg_name sc.nd (by rfl) (by first | exact .inl rfl | exact .inr rfl)) (fun _ _ _ _ _ => pts_yes) (fun _ _ _ _ _ => pf_cmp (op_eqA hu) im_eq (pf_var 3) (pf_var 1))))))))))

theorem sc_is_row : FnScope N_is_row ["value"] (defScope s_is_row) := ⟨rfl, rfl, rfl, by decide +kernel, rfl, by decide +kernel, by decide +kernel⟩
theorem bd_is_row (S : Fs K mg) : Binds K S.h_is_row ["value"] [] := S.F_is_row.bindsN fun _ _ _ _ _ _ us hl => match us, hl with | [_], _ => rfl
theorem ok_is_row (S : Fs K mg) : FnOk P w K mg base (L2.CX P w) 3 S.a_is_row S.h_is_row ["value"] (spD K mg 1 d_is_row) :=
  fn_okD (k := 2) (N := N_is_row) (m := m_is_row) S.F_is_row sc_is_row fun cdv A outer s H E hr => by
    have sc := sc_is_row
    have tk := tk_of (P := P) (w := w) (K := K) (mg := mg) (base := base) (N := N_is_row) (qual := "is_row") (scope := defScope s_is_row) (f := S.a_is_row) (cd := cdv) (A := A) (outer := outer) (s := s) (H := H) (E := E)
    have po := po_of (P := P) (w := w) (K := K) (mg := mg) (base := base) (N := N_is_row) (qual := "is_row") (scope := defScope s_is_row) (f := S.a_is_row) (cd := cdv) (A := A) (outer := outer) (s := s) (H := H) (E := E)
    have hu := Room.hu64 hr
    have hu65 := Room.hu65 hr
    have hu1 := Room.hu1 hr
    exact (pfss_one (pfs_ret (pf_and (pf_call (ok_are_words S) (hr.mono (by decide)) (by rfl) S.g_are_words S.F_are_words.kp (bd_are_words S) tk (pfa_cons (pf_var 0) (pfa_nil)) (hfl := (fcons_len fnil_len))) (pf_one (pf_cmp op_le im_le (pf_callB call_lenA im_len (by rfl) S.b_len (by decide +kernel) (pfa_cons (pf_var 0) (pfa_nil))) (pf_gint S.c_MOST_ROW))))))

theorem sc_distance_of : FnScope N_distance_of ["row", "other"] (defScope s_distance_of) := ⟨rfl, rfl, rfl, by decide +kernel, rfl, by decide +kernel, by decide +kernel⟩
theorem bd_distance_of (S : Fs K mg) : Binds K S.h_distance_of ["row", "other"] [] := S.F_distance_of.bindsN fun _ _ _ _ _ _ us hl => match us, hl with | [_, _], _ => rfl
theorem ok_distance_of (S : Fs K mg) : FnOk P w K mg base (L2.CX P w) 3 S.a_distance_of S.h_distance_of ["row", "other"] (spD K mg 2 d_distance_of) :=
  fn_okD (k := 2) (N := N_distance_of) (m := m_distance_of) S.F_distance_of sc_distance_of fun cdv A outer s H E hr => by
    have sc := sc_distance_of
    have tk := tk_of (P := P) (w := w) (K := K) (mg := mg) (base := base) (N := N_distance_of) (qual := "distance_of") (scope := defScope s_distance_of) (f := S.a_distance_of) (cd := cdv) (A := A) (outer := outer) (s := s) (H := H) (E := E)
    have po := po_of (P := P) (w := w) (K := K) (mg := mg) (base := base) (N := N_distance_of) (qual := "distance_of") (scope := defScope s_distance_of) (f := S.a_distance_of) (cd := cdv) (A := A) (outer := outer) (s := s) (H := H) (E := E)
    have hu := Room.hu64 hr
    have hu65 := Room.hu65 hr
    have hu1 := Room.hu1 hr
    exact (pfss_cons (pfs_asg (pf_ix (ix_any hu1) im_ixA (pf_call (ok_stretches_of S) (hr.mono (by decide)) (by rfl) S.g_stretches_of S.F_stretches_of.kp (bd_stretches_of S) tk (pfa_cons (pf_var 0) (pfa_cons (pf_var 1) (pfa_nil))) (hfl := (fcons_len (fcons_len fnil_len)))) (pf_int)) (pg_tup rfl (pgs_cons (pg_name sc.nd (by rfl) (by first | exact .inl rfl | exact .inr rfl)) (pgs_cons (pg_name sc.nd (by rfl) (by first | exact .inl rfl | exact .inr rfl)) pgs_nil)))) (pfss_one (pfs_ret (pf_op op_addA im_add (pf_op op_sub im_sub (pf_callB call_lenA im_len (by rfl) S.b_len (by decide +kernel) (pfa_cons (pf_var 1) (pfa_nil))) (pf_op op_sub im_sub (pf_var 3) (pf_var 2))) (pf_callB call_lenA im_len (by rfl) S.b_len (by decide +kernel) (pfa_cons (pf_call (ok_dropped_of S) (hr.mono (by decide)) (by rfl) S.g_dropped_of S.F_dropped_of.kp (bd_dropped_of S) tk (pfa_cons (pf_var 0) (pfa_cons (pf_var 1) (pfa_nil))) (hfl := (fcons_len (fcons_len fnil_len)))) (pfa_nil)))))))

theorem sc_route_of : FnScope N_route_of ["row", "other"] (defScope s_route_of) := ⟨rfl, rfl, rfl, by decide +kernel, rfl, by decide +kernel, by decide +kernel⟩
theorem bd_route_of (S : Fs K mg) : Binds K S.h_route_of ["row", "other"] [] := S.F_route_of.bindsN fun _ _ _ _ _ _ us hl => match us, hl with | [_, _], _ => rfl
theorem ok_route_of (S : Fs K mg) : FnOk P w K mg base (L2.CX P w) 3 S.a_route_of S.h_route_of ["row", "other"] (spD K mg 2 d_route_of) :=
  fn_okD (k := 2) (N := N_route_of) (m := m_route_of) S.F_route_of sc_route_of fun cdv A outer s H E hr => by
    have sc := sc_route_of
    have tk := tk_of (P := P) (w := w) (K := K) (mg := mg) (base := base) (N := N_route_of) (qual := "route_of") (scope := defScope s_route_of) (f := S.a_route_of) (cd := cdv) (A := A) (outer := outer) (s := s) (H := H) (E := E)
    have po := po_of (P := P) (w := w) (K := K) (mg := mg) (base := base) (N := N_route_of) (qual := "route_of") (scope := defScope s_route_of) (f := S.a_route_of) (cd := cdv) (A := A) (outer := outer) (s := s) (H := H) (E := E)
    have hu := Room.hu64 hr
    have hu65 := Room.hu65 hr
    have hu1 := Room.hu1 hr
    exact (pfss_cons (pfs_asg (pf_ix (ix_any hu1) im_ixA (pf_call (ok_stretches_of S) (hr.mono (by decide)) (by rfl) S.g_stretches_of S.F_stretches_of.kp (bd_stretches_of S) tk (pfa_cons (pf_var 0) (pfa_cons (pf_var 1) (pfa_nil))) (hfl := (fcons_len (fcons_len fnil_len)))) (pf_int)) (pg_tup rfl (pgs_cons (pg_name sc.nd (by rfl) (by first | exact .inl rfl | exact .inr rfl)) (pgs_cons (pg_name sc.nd (by rfl) (by first | exact .inl rfl | exact .inr rfl)) pgs_nil)))) (pfss_cons (pfs_setLcV rfl sc.nd (pf_call (ok_dropped_of S) (hr.mono (by decide)) (by rfl) S.g_dropped_of S.F_dropped_of.kp (bd_dropped_of S) tk (pfa_cons (pf_var 0) (pfa_cons (pf_var 1) (pfa_nil))) (hfl := (fcons_len (fcons_len fnil_len)))) (own := [("word", 5)]) (show BlkOk N_route_of (defScope s_route_of) _ _ from ⟨rfl, by decide +kernel, by decide +kernel, by decide +kernel, by decide +kernel⟩) rfl (fun _ _ _ _ _ => pg_name sc.nd (by rfl) (by first | exact .inl rfl | exact .inr rfl)) (fun _ _ _ _ _ => pts_yes) (fun _ _ _ _ _ => pf_tup (pfa_cons (pf_str) (pfa_cons (pf_var 5) (pfa_nil)))) (by exact sw_true rfl rfl rfl (by decide +kernel)) tf_cell) (pfss_cons (pfs_ext sc.nd (pf_pure (pfl_lcV rfl sc.nd (pf_rev (pf_sl (pf_var 1) (pfo_none) (pfo_some (pf_var 3)))) (own := [("word", 5)]) (show BlkOk N_route_of (defScope s_route_of) _ _ from ⟨rfl, by decide +kernel, by decide +kernel, by decide +kernel, by decide +kernel⟩) rfl (fun _ _ _ _ _ => pg_name sc.nd (by rfl) (by first | exact .inl rfl | exact .inr rfl)) (fun _ _ _ _ _ => pts_yes) (fun _ _ _ _ _ => pf_tup (pfa_cons (pf_str) (pfa_cons (pf_var 5) (pfa_nil))))))) (pfss_one (pfs_ret (pf_op op_addA im_add (pf_var 2) (pf_pure (pfl_lcV rfl sc.nd (pf_sl (pf_var 1) (pfo_some (pf_var 4)) (pfo_none)) (own := [("word", 5)]) (show BlkOk N_route_of (defScope s_route_of) _ _ from ⟨rfl, by decide +kernel, by decide +kernel, by decide +kernel, by decide +kernel⟩) rfl (fun _ _ _ _ _ => pg_name sc.nd (by rfl) (by first | exact .inl rfl | exact .inr rfl)) (fun _ _ _ _ _ => pts_yes) (fun _ _ _ _ _ => pf_tup (pfa_cons (pf_str) (pfa_cons (pf_var 5) (pfa_nil))))))))))))

theorem sc_check_row : FnScope N_check_row ["row"] (defScope s_check_row) := ⟨rfl, rfl, rfl, by decide +kernel, rfl, by decide +kernel, by decide +kernel⟩
theorem bd_check_row (S : Fs K mg) : Binds K S.h_check_row ["row"] [] := S.F_check_row.bindsN fun _ _ _ _ _ _ us hl => match us, hl with | [_], _ => rfl
theorem ok_check_row (S : Fs K mg) : FnOk P w K mg base (L2.CX P w) 4 S.a_check_row S.h_check_row ["row"] (spD K mg 1 d_check_row) :=
  fn_okD (k := 3) (N := N_check_row) (m := m_check_row) S.F_check_row sc_check_row fun cdv A outer s H E hr => by
    have sc := sc_check_row
    have tk := tk_of (P := P) (w := w) (K := K) (mg := mg) (base := base) (N := N_check_row) (qual := "check_row") (scope := defScope s_check_row) (f := S.a_check_row) (cd := cdv) (A := A) (outer := outer) (s := s) (H := H) (E := E)
    have po := po_of (P := P) (w := w) (K := K) (mg := mg) (base := base) (N := N_check_row) (qual := "check_row") (scope := defScope s_check_row) (f := S.a_check_row) (cd := cdv) (A := A) (outer := outer) (s := s) (H := H) (E := E)
    have hu := Room.hu64 hr
    have hu65 := Room.hu65 hr
    have hu1 := Room.hu1 hr
    exact (pfss_one (pfs_if (pft_not (pft_val (pf_call (ok_is_row S) (hr.mono (by decide)) (by rfl) S.g_is_row S.F_is_row.kp (bd_is_row S) tk (pfa_cons (pf_var 0) (pfa_nil)) (hfl := (fcons_len fnil_len))))) (pfss_one (pfs_raise rfl tk S.x_InvalidRow.1 S.x_InvalidRow.2.1 S.x_InvalidRow.2.2.1 (raises_own S.x_InvalidRow.2.2.2.1 S.x_InvalidRow.2.2.2.2) rfl)) (pfss_nil)))

theorem sc_distance : FnScope N_distance ["row", "other"] (defScope s_distance) := ⟨rfl, rfl, rfl, by decide +kernel, rfl, by decide +kernel, by decide +kernel⟩
theorem bd_distance (S : Fs K mg) : Binds K S.h_distance ["row", "other"] [] := S.F_distance.bindsN fun _ _ _ _ _ _ us hl => match us, hl with | [_, _], _ => rfl
theorem ok_distance (S : Fs K mg) : FnOk P w K mg base (L2.CX P w) 5 S.a_distance S.h_distance ["row", "other"] (spD K mg 2 d_distance) :=
  fn_okD (k := 4) (N := N_distance) (m := m_distance) S.F_distance sc_distance fun cdv A outer s H E hr => by
    have sc := sc_distance
    have tk := tk_of (P := P) (w := w) (K := K) (mg := mg) (base := base) (N := N_distance) (qual := "distance") (scope := defScope s_distance) (f := S.a_distance) (cd := cdv) (A := A) (outer := outer) (s := s) (H := H) (E := E)
    have po := po_of (P := P) (w := w) (K := K) (mg := mg) (base := base) (N := N_distance) (qual := "distance") (scope := defScope s_distance) (f := S.a_distance) (cd := cdv) (A := A) (outer := outer) (s := s) (H := H) (E := E)
    have hu := Room.hu64 hr
    have hu65 := Room.hu65 hr
    have hu1 := Room.hu1 hr
    exact (pfss_cons (pfs_expr (pf_call (ok_check_row S) (hr.mono (by decide)) (by rfl) S.g_check_row S.F_check_row.kp (bd_check_row S) tk (pfa_cons (pf_var 0) (pfa_nil)) (hfl := (fcons_len fnil_len)))) (pfss_cons (pfs_expr (pf_call (ok_check_row S) (hr.mono (by decide)) (by rfl) S.g_check_row S.F_check_row.kp (bd_check_row S) tk (pfa_cons (pf_var 1) (pfa_nil)) (hfl := (fcons_len fnil_len)))) (pfss_one (pfs_ret (pf_call (ok_distance_of S) (hr.mono (by decide)) (by rfl) S.g_distance_of S.F_distance_of.kp (bd_distance_of S) tk (pfa_cons (pf_var 0) (pfa_cons (pf_var 1) (pfa_nil))) (hfl := (fcons_len (fcons_len fnil_len))))))))

theorem sc_route : FnScope N_route ["row", "other"] (defScope s_route) := ⟨rfl, rfl, rfl, by decide +kernel, rfl, by decide +kernel, by decide +kernel⟩
theorem bd_route (S : Fs K mg) : Binds K S.h_route ["row", "other"] [] := S.F_route.bindsN fun _ _ _ _ _ _ us hl => match us, hl with | [_, _], _ => rfl
theorem ok_route (S : Fs K mg) : FnOk P w K mg base (L2.CX P w) 5 S.a_route S.h_route ["row", "other"] (spD K mg 2 d_route) :=
  fn_okD (k := 4) (N := N_route) (m := m_route) S.F_route sc_route fun cdv A outer s H E hr => by
    have sc := sc_route
    have tk := tk_of (P := P) (w := w) (K := K) (mg := mg) (base := base) (N := N_route) (qual := "route") (scope := defScope s_route) (f := S.a_route) (cd := cdv) (A := A) (outer := outer) (s := s) (H := H) (E := E)
    have po := po_of (P := P) (w := w) (K := K) (mg := mg) (base := base) (N := N_route) (qual := "route") (scope := defScope s_route) (f := S.a_route) (cd := cdv) (A := A) (outer := outer) (s := s) (H := H) (E := E)
    have hu := Room.hu64 hr
    have hu65 := Room.hu65 hr
    have hu1 := Room.hu1 hr
    exact (pfss_cons (pfs_expr (pf_call (ok_check_row S) (hr.mono (by decide)) (by rfl) S.g_check_row S.F_check_row.kp (bd_check_row S) tk (pfa_cons (pf_var 0) (pfa_nil)) (hfl := (fcons_len fnil_len)))) (pfss_cons (pfs_expr (pf_call (ok_check_row S) (hr.mono (by decide)) (by rfl) S.g_check_row S.F_check_row.kp (bd_check_row S) tk (pfa_cons (pf_var 1) (pfa_nil)) (hfl := (fcons_len fnil_len)))) (pfss_one (pfs_ret (pf_call (ok_route_of S) (hr.mono (by decide)) (by rfl) S.g_route_of S.F_route_of.kp (bd_route_of S) tk (pfa_cons (pf_var 0) (pfa_cons (pf_var 1) (pfa_nil))) (hfl := (fcons_len (fcons_len fnil_len))))))))

theorem sc_routes : FnScope N_routes ["row", "other"] (defScope s_routes) := ⟨rfl, rfl, rfl, by decide +kernel, rfl, by decide +kernel, by decide +kernel⟩
theorem bd_routes (S : Fs K mg) : Binds K S.h_routes ["row", "other"] [] := S.F_routes.bindsN fun _ _ _ _ _ _ us hl => match us, hl with | [_, _], _ => rfl
theorem ok_routes (S : Fs K mg) : FnOk P w K mg base (L2.CX P w) 5 S.a_routes S.h_routes ["row", "other"] (spD K mg 2 d_routes) :=
  fn_okD (k := 4) (N := N_routes) (m := m_routes) S.F_routes sc_routes fun cdv A outer s H E hr => by
    have sc := sc_routes
    have tk := tk_of (P := P) (w := w) (K := K) (mg := mg) (base := base) (N := N_routes) (qual := "routes") (scope := defScope s_routes) (f := S.a_routes) (cd := cdv) (A := A) (outer := outer) (s := s) (H := H) (E := E)
    have po := po_of (P := P) (w := w) (K := K) (mg := mg) (base := base) (N := N_routes) (qual := "routes") (scope := defScope s_routes) (f := S.a_routes) (cd := cdv) (A := A) (outer := outer) (s := s) (H := H) (E := E)
    have hu := Room.hu64 hr
    have hu65 := Room.hu65 hr
    have hu1 := Room.hu1 hr
    exact (pfss_cons (pfs_expr (pf_call (ok_check_row S) (hr.mono (by decide)) (by rfl) S.g_check_row S.F_check_row.kp (bd_check_row S) tk (pfa_cons (pf_var 0) (pfa_nil)) (hfl := (fcons_len fnil_len)))) (pfss_cons (pfs_expr (pf_call (ok_check_row S) (hr.mono (by decide)) (by rfl) S.g_check_row S.F_check_row.kp (bd_check_row S) tk (pfa_cons (pf_var 1) (pfa_nil)) (hfl := (fcons_len fnil_len)))) (pfss_cons (pfs_par rfl sc.nd (pfa_cons (pf_callB call_lenA im_len (by rfl) S.b_len (by decide +kernel) (pfa_cons (pf_call (ok_dropped_of S) (hr.mono (by decide)) (by rfl) S.g_dropped_of S.F_dropped_of.kp (bd_dropped_of S) tk (pfa_cons (pf_var 0) (pfa_cons (pf_var 1) (pfa_nil))) (hfl := (fcons_len (fcons_len fnil_len)))) (pfa_nil))) (pfa_cons (pf_int) (pfa_nil))) (by decide)) (pfss_cons (pfs_forV po rfl (pf_call (ok_stretches_of S) (hr.mono (by decide)) (by rfl) S.g_stretches_of S.F_stretches_of.kp (bd_stretches_of S) tk (pfa_cons (pf_var 0) (pfa_cons (pf_var 1) (pfa_nil))) (hfl := (fcons_len (fcons_len fnil_len)))) (pg_tup rfl (pgs_cons (pg_name sc.nd (by rfl) (by first | exact .inl rfl | exact .inr rfl)) (pgs_cons (pg_name sc.nd (by rfl) (by first | exact .inl rfl | exact .inr rfl)) pgs_nil))) (pfss_cons (pfs_par rfl sc.nd (pfa_cons (pf_var 4) (pfa_cons (pf_op op_sub im_sub (pf_callB call_lenA im_len (by rfl) S.b_len (by decide +kernel) (pfa_cons (pf_var 1) (pfa_nil))) (pf_var 5)) (pfa_nil))) (by decide)) (pfss_cons (pfs_set sc.nd (pf_op op_fdivW im_div (pf_call (ok_factorial S) (hr.mono (by decide)) (by rfl) S.g_factorial S.F_factorial.kp (bd_factorial S) tk (pfa_cons (pf_op op_addA im_add (pf_op op_addA im_add (pf_var 7) (pf_var 8)) (pf_var 2)) (pfa_nil)) (hfl := (fcons_len fnil_len))) (pf_op op_mulA im_mul (pf_call (ok_factorial S) (hr.mono (by decide)) (by rfl) S.g_factorial S.F_factorial.kp (bd_factorial S) tk (pfa_cons (pf_var 7) (pfa_nil)) (hfl := (fcons_len fnil_len))) (pf_call (ok_factorial S) (hr.mono (by decide)) (by rfl) S.g_factorial S.F_factorial.kp (bd_factorial S) tk (pfa_cons (pf_var 8) (pfa_nil)) (hfl := (fcons_len fnil_len)))))) (pfss_one (pfs_aug sc.nd op_iaddI im_addI (pf_op op_shlA im_shlW (pf_var 6) (pf_op op_addA im_add (pf_var 7) (pf_var 8)))))))) (pfss_one (pfs_ret (pf_var 3)))))))

theorem sc__law_asked : FnScope N__law_asked ["way", "one", "two"] (defScope s__law_asked) := ⟨rfl, rfl, rfl, by decide +kernel, rfl, by decide +kernel, by decide +kernel⟩
theorem bd__law_asked (S : Fs K mg) : Binds K S.h__law_asked ["way", "one", "two"] [] := S.F__law_asked.bindsN fun _ _ _ _ _ _ us hl => match us, hl with | [_, _, _], _ => rfl
theorem ok__law_asked (S : Fs K mg) : FnOk P w K mg base (L2.CX P w) 6 S.a__law_asked S.h__law_asked ["way", "one", "two"] (spD K mg 3 d__law_asked) :=
  fn_okD (k := 5) (N := N__law_asked) (m := m__law_asked) S.F__law_asked sc__law_asked fun cdv A outer s H E hr => by
    have sc := sc__law_asked
    have tk := tk_of (P := P) (w := w) (K := K) (mg := mg) (base := base) (N := N__law_asked) (qual := "_law_asked") (scope := defScope s__law_asked) (f := S.a__law_asked) (cd := cdv) (A := A) (outer := outer) (s := s) (H := H) (E := E)
    have po := po_of (P := P) (w := w) (K := K) (mg := mg) (base := base) (N := N__law_asked) (qual := "_law_asked") (scope := defScope s__law_asked) (f := S.a__law_asked) (cd := cdv) (A := A) (outer := outer) (s := s) (H := H) (E := E)
    have hu := Room.hu64 hr
    have hu65 := Room.hu65 hr
    have hu1 := Room.hu1 hr
    exact (pfss_cons (pfs_set sc.nd (pf_non)) (pfss_cons (pfs_tryAs rfl rfl sc.nd (by rfl) (by rfl) ⟨by rfl, by decide, .inl S.gx_FrontBackError⟩ tk (fun c C b h1 h2 => S.te_FrontBackError c b h2 C h1) (fun W pn xe tk po => pfss_one (pfs_if (pft_cmp (op_eqA hu) im_eq (pf_var 0) (pf_int)) (pfss_one (pfs_expr (pf_call (ok_distance S) (hr.mono (by decide)) (by rfl) S.g_distance S.F_distance.kp (bd_distance S) tk (pfa_cons (pf_var 1) (pfa_cons (pf_var 2) (pfa_nil))) (hfl := (fcons_len (fcons_len fnil_len)))))) (pfss_one (pfs_if (pft_cmp (op_eqA hu) im_eq (pf_var 0) (pf_int)) (pfss_one (pfs_expr (pf_call (ok_route S) (hr.mono (by decide)) (by rfl) S.g_route S.F_route.kp (bd_route S) tk (pfa_cons (pf_var 1) (pfa_cons (pf_var 2) (pfa_nil))) (hfl := (fcons_len (fcons_len fnil_len)))))) (pfss_one (pfs_expr (pf_call (ok_routes S) (hr.mono (by decide)) (by rfl) S.g_routes S.F_routes.kp (bd_routes S) tk (pfa_cons (pf_var 1) (pfa_cons (pf_var 2) (pfa_nil))) (hfl := (fcons_len (fcons_len fnil_len)))))))))) (fun a pn => pfss_one (pfs_set sc.nd (pf_var 4)))) (pfss_one (pfs_ret (pf_var 3)))))

theorem sc__law_good : FnScope N__law_good ["row"] (defScope s__law_good) := ⟨rfl, rfl, rfl, by decide +kernel, rfl, by decide +kernel, by decide +kernel⟩
theorem bd__law_good (S : Fs K mg) : Binds K S.h__law_good ["row"] [] := S.F__law_good.bindsN fun _ _ _ _ _ _ us hl => match us, hl with | [_], _ => rfl
theorem ok__law_good (S : Fs K mg) : FnOk P w K mg base (L2.CX P w) 7 S.a__law_good S.h__law_good ["row"] (spD K mg 1 d__law_good) :=
  fn_okD (k := 6) (N := N__law_good) (m := m__law_good) S.F__law_good sc__law_good fun cdv A outer s H E hr => by
    have sc := sc__law_good
    have tk := tk_of (P := P) (w := w) (K := K) (mg := mg) (base := base) (N := N__law_good) (qual := "_law_good") (scope := defScope s__law_good) (f := S.a__law_good) (cd := cdv) (A := A) (outer := outer) (s := s) (H := H) (E := E)
    have po := po_of (P := P) (w := w) (K := K) (mg := mg) (base := base) (N := N__law_good) (qual := "_law_good") (scope := defScope s__law_good) (f := S.a__law_good) (cd := cdv) (A := A) (outer := outer) (s := s) (H := H) (E := E)
    have hu := Room.hu64 hr
    have hu65 := Room.hu65 hr
    have hu1 := Room.hu1 hr
    exact (pfss_cons (pfs_forV po rfl (pf_call0 (ok__law_no_rows S) (hr.mono (by decide)) (by rfl) S.g__law_no_rows S.F__law_no_rows.kp (bd__law_no_rows S) tk) (pg_name sc.nd (by rfl) (by first | exact .inl rfl | exact .inr rfl)) (pfss_one (pfs_for po rfl (pfi_rng1 S.b_range (pfa_cons (pf_int) (pfa_nil))) (pg_name sc.nd (by rfl) (by first | exact .inl rfl | exact .inr rfl)) (pfss_one (pfs_forV po rfl (pf_pure (pfl_lst (pfa_cons (pf_tup (pfa_cons (pf_var 1) (pfa_cons (pf_var 0) (pfa_nil)))) (pfa_cons (pf_tup (pfa_cons (pf_var 1) (pfa_cons (pf_non) (pfa_nil)))) (pfa_cons (pf_tup (pfa_cons (pf_var 1) (pfa_cons (pf_var 1) (pfa_nil)))) (pfa_cons (pf_tup (pfa_cons (pf_var 0) (pfa_cons (pf_var 1) (pfa_nil)))) (pfa_cons (pf_tup (pfa_cons (pf_tup (pfa_nil)) (pfa_cons (pf_var 1) (pfa_nil)))) (pfa_nil)))))))) (pg_tup rfl (pgs_cons (pg_name sc.nd (by rfl) (by first | exact .inl rfl | exact .inr rfl)) (pgs_cons (pg_name sc.nd (by rfl) (by first | exact .inl rfl | exact .inr rfl)) pgs_nil))) (pfss_one (pfs_if (pft_not (pft_val (pf_call (ok__law_only S) (hr.mono (by decide)) (by rfl) S.g__law_only S.F__law_only.kp (bd__law_only S) tk (pfa_cons (pf_call (ok__law_asked S) (hr.mono (by decide)) (by rfl) S.g__law_asked S.F__law_asked.kp (bd__law_asked S) tk (pfa_cons (pf_var 3) (pfa_cons (pf_var 4) (pfa_cons (pf_var 5) (pfa_nil)))) (hfl := (fcons_len (fcons_len (fcons_len fnil_len))))) (pfa_cons (pf_str) (pfa_nil))) (hfl := (fcons_len (fcons_len fnil_len)))))) (pfss_one (pfs_ret (pf_bl))) (pfss_nil)))))))) (pfss_cons (pfs_set sc.nd (pf_callTy (call_tupX rfl) im_tuple (by rfl) S.b_tuple (by decide +kernel) (pfa_cons (pf_str) (pfa_nil)))) (pfss_one (pfs_ret (pf_callB (cr_all rfl) im_all (by rfl) S.b_all (by decide +kernel) (pfa_cons (pf_pure (pfl_lc rfl sc.nd (pfi_rng1 S.b_range (pfa_cons (pf_int) (pfa_nil))) (own := [("way", 3)]) (show BlkOk N__law_good (defScope s__law_good) _ _ from ⟨rfl, by decide +kernel, by decide +kernel, by decide +kernel, by decide +kernel⟩) rfl (fun _ _ _ _ _ => pg_name sc.nd (by rfl) (by first | exact .inl rfl | exact .inr rfl)) (fun _ _ _ _ _ => pts_yes) (fun _ _ _ _ _ => pf_and (pf_cmp op_isA im_is (pf_call (ok__law_asked S) (hr.mono (by decide)) (by rfl) S.g__law_asked S.F__law_asked.kp (bd__law_asked S) takesW0 (pfa_cons (pf_var 3) (pfa_cons (pf_var 2) (pfa_cons (pf_var 0) (pfa_nil)))) (hfl := (fcons_len (fcons_len (fcons_len fnil_len))))) (pf_non)) (pf_one (pf_cmp op_isA im_is (pf_call (ok__law_asked S) (hr.mono (by decide)) (by rfl) S.g__law_asked S.F__law_asked.kp (bd__law_asked S) takesW0 (pfa_cons (pf_var 3) (pfa_cons (pf_var 0) (pfa_cons (pf_var 2) (pfa_nil)))) (hfl := (fcons_len (fcons_len (fcons_len fnil_len))))) (pf_non)))))) (pfa_nil)))))))

theorem sc_law : FnScope N_law ["script"] (defScope s_law) := ⟨rfl, rfl, rfl, by decide +kernel, rfl, by decide +kernel, by decide +kernel⟩
theorem bd_law (S : Fs K mg) : Binds K S.h_law ["script"] [] := S.F_law.bindsN fun _ _ _ _ _ _ us hl => match us, hl with | [_], _ => rfl
theorem ok_law (S : Fs K mg) : FnOk P w K mg base (L2.CX P w) 8 S.a_law S.h_law ["script"] (spD K mg 1 d_law) :=
  fn_okD (k := 7) (N := N_law) (m := m_law) S.F_law sc_law fun cdv A outer s H E hr => by
    have sc := sc_law
    have tk := tk_of (P := P) (w := w) (K := K) (mg := mg) (base := base) (N := N_law) (qual := "law") (scope := defScope s_law) (f := S.a_law) (cd := cdv) (A := A) (outer := outer) (s := s) (H := H) (E := E)
    have po := po_of (P := P) (w := w) (K := K) (mg := mg) (base := base) (N := N_law) (qual := "law") (scope := defScope s_law) (f := S.a_law) (cd := cdv) (A := A) (outer := outer) (s := s) (H := H) (E := E)
    have hu := Room.hu64 hr
    have hu65 := Room.hu65 hr
    have hu1 := Room.hu1 hr
    exact (pfss_cons (pfs_for po rfl (pfi_rng1 S.b_range (pfa_cons (pf_callB (call_maxA rfl) im_max (by rfl) S.b_max (by decide +kernel) (pfa_cons (pf_callB (call_min2 rfl) im_min (by rfl) S.b_min (by decide +kernel) (pfa_cons (pf_callB call_lenA im_len (by rfl) S.b_len (by decide +kernel) (pfa_cons (pf_var 0) (pfa_nil))) (pfa_cons (pf_int) (pfa_nil)))) (pfa_cons (pf_int) (pfa_nil)))) (pfa_nil))) (pg_name sc.nd (by rfl) (by first | exact .inl rfl | exact .inr rfl)) (pfss_cons (pfs_set sc.nd (pf_cell (pfl_lst (pfa_cons (pf_call (ok__law_cell S) (hr.mono (by decide)) (by rfl) S.g__law_cell S.F__law_cell.kp (bd__law_cell S) tk (pfa_cons (pf_var 0) (pfa_cons (pf_var 1) (pfa_nil))) (hfl := (fcons_len (fcons_len fnil_len)))) (pfa_nil))))) (pfss_one (pfs_if (pft_not (pft_val (pf_call (ok__law_good S) (hr.mono (by decide)) (by rfl) S.g__law_good S.F__law_good.kp (bd__law_good S) tk (pfa_cons (pf_call (ok__law_row S) (hr.mono (by decide)) (by rfl) S.g__law_row S.F__law_row.kp (bd__law_row S) tk (pfa_cons (pf_var 2) (pfa_cons (pf_call (ok__law_words S) (hr.mono (by decide)) (by rfl) S.g__law_words S.F__law_words.kp (bd__law_words S) tk (pfa_cons (pf_var 2) (pfa_cons (pf_int) (pfa_nil))) (hfl := (fcons_len (fcons_len fnil_len)))) (pfa_nil))) (hfl := (fcons_len (fcons_len fnil_len)))) (pfa_nil)) (hfl := (fcons_len fnil_len))))) (pfss_one (pfs_ret (pf_bl))) (pfss_nil))))) (pfss_one (pfs_ret (pf_call (ok__law_good S) (hr.mono (by decide)) (by rfl) S.g__law_good S.F__law_good.kp (bd__law_good S) tk (pfa_cons (pf_tup (pfa_nil)) (pfa_nil)) (hfl := (fcons_len fnil_len))))))

end
end FB.K52
set_option Elab.async false
set_option linter.all false
set_option maxRecDepth 100000
set_option maxHeartbeats 4000000
namespace FB.K52
open PySem PySem.Spec PyProof.Rows L2 RZ FB
/-! ### words, rows -/
abbrev LET : Str := "abcdefghijklmnopqrstuvwxyz"
def isWord (x : Str) : Bool := decide (1 ≤ x.length) && decide (x.length ≤ 8) && x.cps.toList.all fun c => decide (c ∈ LET.cps.toList)
theorem signs_bool (x : Str) (st : So) : cmpL (.nm 1) tYesF (fOp gIn (fVar 1) (fC (.str LET))) [some (sD x), none] (x.cps.toList.map fun c => .p (.str ⟨#[c]⟩)) [] st = .ok (x.cps.toList.map fun c => .p (.bool (decide (c ∈ LET.cps.toList)))) st := by
  refine cmpL_all (r := fun c => [some (sD x), some (sD ⟨#[c]⟩)]) _ (fun c _ => by simp) fun c _ => ?_
  simp [gIn, memD]
theorem is_word_ok (x : Str) (st : So) (hw : isWord x = true) : d_is_word [sD x] st = .ok (.p (.bool true)) st := by
  refine runD_pure0 ?_
  unfold isWord at hw
  simp only [Bool.and_eq_true, decide_eq_true_eq] at hw
  obtain ⟨⟨h1, h2⟩, h3⟩ := hw
  have hx : x.length ≤ 100000 := by omega
  have hl : gLen [sD x] st = some (.p (.int x.length)) := by
    show (if x.length ≤ 100000 then some (Dv.p (.int x.length)) else none) = _
    rw [if_pos hx]
  have hc : (x.cps.toList).length ≤ 100000 := by rw [Array.length_toList]; exact hx
  have hcmp := signs_bool x st
  show m_is_word [some (sD x), none] st = _
  unfold m_is_word
  have e1 : gLe (.p (.int 1)) (.p (.int x.length)) st = some (.p (.bool true)) := by
    show some (Dv.p (.bool (decide ((1 : Int) ≤ x.length)))) = _
    rw [decide_eq_true (by omega)]
  have e2 : gLe (.p (.int x.length)) (.p (.int 8)) st = some (.p (.bool true)) := by
    show some (Dv.p (.bool (decide ((x.length : Int) ≤ 8)))) = _
    rw [decide_eq_true (by omega)]
  have e3 : fLcV (fVar 0) (.nm 1) tYesF (fOp gIn (fVar 1) (fC (.str LET))) [some (sD x), none] st = .ok (x.cps.toList.map fun c => .p (.bool (decide (c ∈ LET.cps.toList)))) st := by
    rw [ev_lcV (d := sD x) (by simp) (items_str x st) (by rw [List.length_map]; exact hc), rhoW_one]
    exact hcmp
  simp only [ev_ret, ev_and, ev_tb, ev_isT, ev_var, List.getElem?_cons_zero, bind_ok, ty_s, kit_ss, ev_asB, if_true, ev_chain, ev_c, ev_cb, ev_cons, ev_nil, hl, toR_some, e1, e2, ev_pure, e3, small_map, decide_eq_true hc]
  have e4 := gAll_b (x.cps.toList.map fun c => decide (c ∈ LET.cps.toList)) st
  rw [List.map_map] at e4
  simp only [Function.comp_def] at e4
  rw [e4]
  have e5 : (x.cps.toList.map fun c => decide (c ∈ LET.cps.toList)).all id = true := by
    rw [List.all_map]; exact h3
  rw [e5]
  rfl
/-- a row: words, none twice, at most 20 -/
def Row (ws : List Str) : Prop := (∀ w ∈ ws, isWord w = true) ∧ ws.Nodup ∧ ws.length ≤ 20
theorem are_words_ok (ws : List Str) (st : So) (h : Row ws) : d_are_words [tw ws] st = .ok (.p (.bool true)) st := by
  refine runD_pure0 ?_
  show m_are_words [some (tw ws), none] st = _
  unfold m_are_words
  have hl : ws.length ≤ 100000 := Nat.le_trans h.2.2 (by decide)
  have e3 : fLcV (fVar 0) (.nm 1) tYesF (fCall d_is_word (fCons (fVar 1) fNil)) [some (tw ws), none] st = .ok (ws.map fun _ => .p (.bool true)) st := by
    rw [ev_lcV (d := tw ws) (by simp) (items_tw ws st) (by rw [List.length_map]; exact hl), rhoW_one]
    refine cmpL_all (r := fun x => [some (tw ws), some (sD x)]) ws (fun w _ => by simp) fun w hw => ?_
    simp [is_word_ok w st (h.1 w hw)]
  simp only [ev_ret, ev_and, ev_tb, ev_isT, ev_var, List.getElem?_cons_zero, bind_ok, ty_tw, kit_tt, ev_asB, if_true, ev_cb, ev_cons, ev_nil, toR_some, ev_pure, e3, small_map, decide_eq_true hl]
  have e4 := gAll_b (ws.map fun _ => true) st
  rw [List.map_map] at e4
  simp only [Function.comp_def] at e4
  rw [e4]
  have e5 : (ws.map fun _ => true).all id = true := by simp
  have h4 : ws.length < 4000 := Nat.lt_of_le_of_lt h.2.2 (by decide)
  rw [e5]
  simp only [toR_some, bind_ok, ev_asB, if_true, ev_op, ev_lenSet, ev_var, List.getElem?_cons_zero, tup_tw, txts_s, if_pos h4, ev_cb, ev_cons, ev_nil, gLen_tw, gEq_i, lenSet_nodup h.2.1, decide_true, st_ok]
theorem is_row_ok (ws : List Str) (st : So) (h : Row ws) : d_is_row [tw ws] st = .ok (.p (.bool true)) st := by
  refine runD_pure0 ?_
  show m_is_row [some (tw ws)] st = _
  unfold m_is_row
  have e : gLe (.p (.int ws.length)) (.p (.int 20)) st = some (.p (.bool true)) := by
    show some (Dv.p (.bool (decide ((ws.length : Int) ≤ 20)))) = _
    rw [decide_eq_true (by have := h.2.2; omega)]
  simp [are_words_ok ws st h, e]
theorem check_row_ok (ws : List Str) (st : So) (h : Row ws) : d_check_row [tw ws] st = .ok (.p .none) st := by
  refine runD_none0 (ρ' := [some (tw ws)]) ?_
  show m_check_row [some (tw ws)] st = _
  unfold m_check_row
  simp [is_row_ok ws st h]
end FB.K52
set_option Elab.async false
set_option linter.all false
set_option maxRecDepth 100000
set_option maxHeartbeats 4000000
namespace FB.K52
open PySem PySem.Spec PyProof.Rows L2 RZ FB
/-! ### stretch_from -/
def idx (row : List Str) (w : Str) : Int := if w ∈ row then (row.idxOf w : Int) else -1
def goE (row other : List Str) : Nat → Nat → Int → Nat
  | 0, e, _ => e
  | f + 1, e, last => match other[e]? with
    | none => e
    | some w => if last < idx row w then goE row other f (e + 1) (idx row w) else e
def stretchN (row other : List Str) (b : Nat) : Nat := goE row other (other.length + 1) b (-1)
def kv : List Str → Nat → List (Key × Dv)
  | [], _ => []
  | w :: ws, k => (.inr w, .p (.int (k : Nat))) :: kv ws (k + 1)
def pr : List Str → Nat → List Dv
  | [], _ => []
  | w :: ws, k => .tupD [.p (.int (k : Nat)), sD w] :: pr ws (k + 1)
theorem pairs_eq : ∀ (ws : List Str) (k : Nat), pairL (rngL k ws.length) (ws.map sD) = pr ws k
  | [], k => rfl
  | w :: ws, k => by
    have ih := pairs_eq ws (k + 1)
    rw [List.length_cons, rngL_succ, List.map_cons]
    show .tupD [.p (.int k), sD w] :: pairL (rngL ((k : Int) + 1) ws.length) (ws.map sD) = _
    have e : ((k : Int) + 1) = ((k + 1 : Nat) : Int) := by omega
    rw [e, ih]; rfl
theorem kv_keys : ∀ (ws : List Str) (k : Nat), (kv ws k).map (·.1) = ws.map Sum.inr
  | [], _ => rfl
  | w :: ws, k => by show (Sum.inr w : Key) :: (kv ws (k + 1)).map (·.1) = _; rw [kv_keys ws]; rfl
theorem kv_len : ∀ (ws : List Str) (k : Nat), (kv ws k).length = ws.length
  | [], _ => rfl
  | w :: ws, k => by show (kv ws (k + 1)).length + 1 = _; rw [kv_len ws]; rfl
theorem putD_new {kvs : List (Key × Dv)} {k : Key} {d : Dv} (h : k ∉ kvs.map (·.1)) : putD kvs k d = kvs ++ [(k, d)] := by
  unfold putD
  rw [if_neg]
  intro e
  obtain ⟨p, hp, e2⟩ := List.any_eq_true.mp e
  exact h (by rw [← of_decide_eq_true e2]; exact List.mem_map_of_mem hp)
theorem app_at (st : So) (c : Cl) : (st ++ [c])[st.length]? = some c := by simp
theorem app_set (st : So) (c c' : Cl) : (st ++ [c]).set st.length c' = st ++ [c'] := by simp
theorem dict_loop (st : So) (a b c : Option Dv) : ∀ (ws : List Str) (k : Nat) (kvs : List (Key × Dv)), ws.Nodup → (∀ w ∈ ws, (Sum.inr w : Key) ∉ kvs.map (·.1)) → kvs.length + ws.length ≤ 1000 →
    dcL st.length (.tp [.nm 6, .nm 7]) tYesF (fVar 7) (fVar 6) [a, b, c, none, none, none, none, none] (pr ws k) (st ++ [.dK kvs]) = .ok (.ref st.length) (st ++ [.dK (kvs ++ kv ws k)])
  | [], k, kvs, _, _, _ => by show Rs.ok (Dv.ref st.length) (st ++ [.dK kvs]) = _; rw [kv, List.append_nil]
  | w :: ws, k, kvs, hn, hk, hl => by
    rw [List.nodup_cons] at hn
    have hw := hk w List.mem_cons_self
    have hl' : kvs.length + (ws.length + 1) ≤ 1000 := hl
    have h1 : kvs.length ≤ 100000 := by omega
    have ih := dict_loop st a b c ws (k + 1) (kvs ++ [(.inr w, .p (.int (k : Nat)))]) hn.2 (fun v hv => by
      rw [List.map_append, List.mem_append, not_or]
      refine ⟨hk v (List.mem_cons_of_mem _ hv), fun e => ?_⟩
      simp at e
      exact hn.1 (e ▸ hv)) (by rw [List.length_append, List.length_singleton]; omega)
    rw [pr]
    unfold dcL
    simp only [tg_tpD, List.length_cons, List.length_nil, if_true, tgs_cons, tgs_nil, tg_nm, tYesF, bindN_ok, List.set_cons_succ, List.set_cons_zero, ev_var, List.getElem?_cons_succ, List.getElem?_cons_zero, keyD, dictOf, app_at, if_pos h1, app_set]
    rw [putD_new hw, ih, List.append_assoc]
    rfl
theorem atK_kv : ∀ (ws : List Str) (k : Nat) (w : Str), atK (kv ws k) (.inr w) = if w ∈ ws then some (.p (.int ((k + ws.idxOf w : Nat) : Int))) else none
  | [], k, w => rfl
  | v :: ws, k, w => by
    have ih := atK_kv ws (k + 1) w
    unfold atK at ih ⊢
    rw [kv, List.find?_cons]
    by_cases e : v = w
    · subst e
      simp
    · have e1 : decide ((Sum.inr v : Key) = Sum.inr w) = false := decide_eq_false fun z => e (Sum.inr.inj z)
      have e2 : w ≠ v := fun z => e z.symm
      simp only [e1, ih, List.mem_cons, e2, false_or, List.idxOf_cons]
      have e3 : (v == w) = false := by simpa using e
      rw [e3]
      simp only [cond_false]
      split
      · congr 3
        omega
      · rfl
def bodyS : FS := sSeq (sAsg (fOp gIxA (fVar 3) (fOp gIxA (fVar 1) (fVar 4))) (.nm 5)) (sAug 4 gAddI (fC (.int 1)))
def testS : FT := fTAnd (fTB (fOp gLt (fVar 4) (fCB gLen (fCons (fVar 1) (fNil))))) (fTB (fOp gGt (fGet2 (fVar 3) (fOp gIxA (fVar 1) (fVar 4)) (fUn gNeg (fC (.int 1)))) (fVar 5)))
def rhoS (row other : List Str) (b n : Nat) (e : Nat) (last : Int) : Sl := [some (tw row), some (tw other), some (.p (.int b)), some (.ref n), some (.p (.int e)), some (.p (.int last)), none, none]
theorem ixA_tw (ws : List Str) (e : Nat) (w : Str) (st : So) (h : ws[e]? = some w) : gIxA (tw ws) (.p (.int e)) st = some (sD w) := by
  show gIx (tw ws) (.p (.int e)) st = _
  show (match seqOf (tw ws) st with | some xs => atI xs e | none => none) = _
  rw [seq_tw]
  have hl := (List.getElem?_eq_some_iff.mp h).1
  show atI (ws.map sD) e = _
  unfold atI ixN
  rw [List.length_map, if_pos (by omega), if_pos (by omega)]
  show (ws.map sD)[(e : Int).toNat]? = _
  rw [Int.toNat_natCast, List.getElem?_map, h]; rfl
theorem dictOf_at {st : So} {n : Nat} {kvs : List (Key × Dv)} (h : st[n]? = some (.dK kvs)) : dictOf (.ref n) st = some (n, kvs) := by
  unfold dictOf; dsimp only; rw [h]
theorem idx_ge (row : List Str) (w : Str) : -1 ≤ idx row w := by unfold idx; split <;> omega
theorem atK_idx (row : List Str) (w : Str) : (atK (kv row 0) (.inr w)).getD (.p (.int (-1))) = .p (.int (idx row w)) := by
  rw [atK_kv]
  unfold idx
  split
  · simp
  · rfl
theorem atK_in {row : List Str} {w : Str} (h : w ∈ row) : atK (kv row 0) (.inr w) = some (.p (.int (idx row w))) := by
  rw [atK_kv, if_pos h]
  unfold idx
  rw [if_pos h]
  simp
theorem test_end {row other : List Str} {b n e : Nat} {last : Int} {st : So} (h : other[e]? = none) : testS (rhoS row other b n e last) st = .ok false st := by
  have hl := List.getElem?_eq_none_iff.mp h
  have e1 : gLt (.p (.int e)) (.p (.int other.length)) st = some (.p (.bool false)) := by
    show some (Dv.p (.bool (decide ((e : Int) < other.length)))) = _
    rw [decide_eq_false (by omega)]
  simp [testS, rhoS, e1]
theorem test_at {row other : List Str} {b n e : Nat} {last : Int} {st : So} {w : Str} (h : other[e]? = some w) (hd : st[n]? = some (.dK (kv row 0))) : testS (rhoS row other b n e last) st = .ok (decide (last < idx row w)) st := by
  have hl := (List.getElem?_eq_some_iff.mp h).1
  have e1 : gLt (.p (.int e)) (.p (.int other.length)) st = some (.p (.bool true)) := by
    show some (Dv.p (.bool (decide ((e : Int) < other.length)))) = _
    rw [decide_eq_true (by omega)]
  have e2 := ixA_tw other e w st h
  have e3 : ∀ i : Int, gGt (.p (.int i)) (.p (.int last)) st = some (.p (.bool (decide (last < i)))) := fun _ => rfl
  have e4 : gNeg (.p (.int 1)) st = some (.p (.int (-1))) := rfl
  have e5 := dictOf_at hd
  have e6 : keyD (sD w) = some (.inr w) := rfl
  have e7 := atK_idx row w
  simp only [testS, rhoS, ev_tand, ev_tb, ev_op, ev_var, List.getElem?_cons_succ, List.getElem?_cons_zero, bind_ok, ev_cb, ev_cons, ev_nil, gLen_tw, toR_some, e1, ev_asB, if_true, ev_get2, e5, e2, ev_un, ev_c, e4, e6, e7, e3]
theorem body_at {row other : List Str} {b n e : Nat} {last : Int} {st : So} {w : Str} (h : other[e]? = some w) (hd : st[n]? = some (.dK (kv row 0))) (hw : w ∈ row) : bodyS (rhoS row other b n e last) st = .nx (rhoS row other b n (e + 1) (idx row w)) st := by
  have e2 := ixA_tw other e w st h
  have e5 := dictOf_at hd
  have e6 : keyD (sD w) = some (.inr w) := rfl
  have e7 : gIxA (.ref n) (sD w) st = some (.p (.int (idx row w))) := by
    unfold gIxA
    rw [e5]
    show (match keyD (sD w) with | some k => atK (kv row 0) k | none => none) = _
    rw [e6]
    exact atK_in hw
  have e8 : gAddI (.p (.int (e : Int))) (.p (.int 1)) st = some (.p (.int ((e + 1 : Nat) : Int))) := by
    show some (Dv.p (.int ((e : Int) + 1))) = _
    rw [Int.natCast_add]; rfl
  simp only [bodyS, rhoS, ev_seq, ev_asg, ev_op, ev_var, List.getElem?_cons_succ, List.getElem?_cons_zero, bind_ok, e2, toR_some, e7, st_ok, tg_nm, toE_some, List.set_cons_succ, List.set_cons_zero, ev_aug, ev_c, e8]
theorem while_goE {row other : List Str} {b n : Nat} {st : So} (hd : st[n]? = some (.dK (kv row 0))) : ∀ (f e : Nat) (last : Int), -1 ≤ last → other.length < e + f → e ≤ other.length → ∃ last', sWhN testS bodyS f (rhoS row other b n e last) st = .nx (rhoS row other b n (goE row other f e last) last') st
  | 0, e, last, _, h1, h2 => by omega
  | f + 1, e, last, hl, h1, h2 => by
    unfold sWhN goE
    cases h : other[e]? with
    | none =>
      rw [test_end h]
      exact ⟨last, rfl⟩
    | some w =>
      rw [test_at h hd]
      dsimp only
      by_cases hc : last < idx row w
      · have hw : w ∈ row := by
          by_cases hm : w ∈ row
          · exact hm
          · have : idx row w = -1 := by unfold idx; rw [if_neg hm]
            omega
        obtain ⟨l', ih⟩ := while_goE hd f (e + 1) (idx row w) (by omega) (by omega) (List.getElem?_eq_some_iff.mp h).1
        refine ⟨l', ?_⟩
        rw [if_pos hc, decide_eq_true hc]
        simp only [st_ok, if_true, body_at h hd hw]
        exact ih
      · refine ⟨last, ?_⟩
        rw [if_neg hc, decide_eq_false hc]
        rfl
theorem goE_fuel {row other : List Str} : ∀ (f f' e : Nat) (last : Int), other.length < e + f → other.length < e + f' → e ≤ other.length → goE row other f e last = goE row other f' e last
  | 0, _, e, _, h, _, h2 => by omega
  | _ + 1, 0, e, _, _, h, h2 => by omega
  | f + 1, f' + 1, e, last, h1, h2, h3 => by
    unfold goE
    cases h : other[e]? with
    | none => rfl
    | some w =>
      dsimp only
      split
      · exact goE_fuel f f' (e + 1) _ (by omega) (by omega) (List.getElem?_eq_some_iff.mp h).1
      · rfl
theorem stretch_eq (row other : List Str) (b : Nat) (st : So) (hr : Row row) (ho : other.length ≤ 20) (hb : b ≤ other.length) (hF : Flat st) :
    d_stretch_from [tw row, tw other, .p (.int (b : Nat))] st = .ok (.p (.int (stretchN row other b : Nat))) st := by
  have hrl := hr.2.2
  have e1 : fSt enumAny (fCons (fVar 0) fNil) [some (tw row), some (tw other), some (.p (.int b)), none, none, none, none, none] st = .ok (pr row 0) st := by
    have : enumAny [tw row] st = some (pr row 0) := by
      show (seqOf (tw row) st).map (fun ys => pairL (rngL 0 ys.length) ys) = _
      rw [seq_tw]
      show some (pairL (rngL 0 (row.map sD).length) (row.map sD)) = _
      rw [List.length_map, show (0 : Int) = ((0 : Nat) : Int) from rfl, pairs_eq]
    simp [this]
  have e2 : fDc (fSt enumAny (fCons (fVar 0) fNil)) (.tp [.nm 6, .nm 7]) tYesF (fVar 7) (fVar 6) [some (tw row), some (tw other), some (.p (.int b)), none, none, none, none, none] st = .ok (.ref st.length) (st ++ [.dK (kv row 0)]) := by
    unfold fDc
    rw [e1]
    have := dict_loop st (some (tw row)) (some (tw other)) (some (.p (.int b))) row 0 [] hr.2.1 (fun _ _ => by simp) (by simp; omega)
    simpa [rhoW_two] using this
  have e4 : ∀ k, gNeg (.p (.int 1)) k = some (.p (.int (-1))) := fun _ => rfl
  obtain ⟨l', hw⟩ := while_goE (row := row) (other := other) (b := b) (n := st.length) (st := st ++ [.dK (kv row 0)]) (app_at st _) 100000 b (-1) (by omega) (by omega) hb
  refine runD_pure (ex := [.dK (kv row 0)]) hF ?_
  show m_stretch_from [some (tw row), some (tw other), some (.p (.int b)), none, none, none, none, none] st = _
  unfold m_stretch_from
  rw [ev_seq, ev_asg, e2]
  simp only [st_ok, tg_nm, toE_some, List.set_cons_succ, List.set_cons_zero, ev_seq, ev_par, ev_cons, ev_nil, ev_var, List.getElem?_cons_succ, List.getElem?_cons_zero, bind_ok, ev_un, ev_c, e4, toR_some]
  have hw' : sWh testS bodyS 100000 [some (tw row), some (tw other), some (.p (.int b)), some (.ref st.length), some (.p (.int b)), some (.p (.int (-1))), none, none] (st ++ [.dK (kv row 0)]) = .nx (rhoS row other b st.length (goE row other 100000 b (-1)) l') (st ++ [.dK (kv row 0)]) := hw
  unfold testS bodyS at hw'
  rw [hw', goE_fuel 100000 (other.length + 1) b (-1) (by omega) (by omega) hb]
  rfl
end FB.K52
set_option Elab.async false
set_option linter.all false
set_option maxRecDepth 100000
set_option maxHeartbeats 4000000
namespace FB.K52
open PySem PySem.Spec PyProof.Rows L2 RZ FB
def pD (p : Nat × Nat) : PyData := .tuple [.int (p.1 : Nat), .int (p.2 : Nat)]
def pl (ps : List (Nat × Nat)) : Dv := .p (.list (ps.map pD))
theorem items_pl (ps : List (Nat × Nat)) (st : So) : itemsOf (pl ps) st = some (ps.map fun p => Dv.p (pD p)) := by
  show some ((ps.map pD).map Dv.p) = _
  rw [List.map_map]; rfl
def stf (row other : List Str) : List (Nat × Nat) := (List.range (other.length + 1)).map fun b => (b, stretchN row other b)
def lgst (row other : List Str) : Int := maxL ((stf row other).map fun p => (p.2 : Int) - p.1)
def sts (row other : List Str) : List (Nat × Nat) := (stf row other).filter fun p => decide (((p.2 : Int) - p.1) = lgst row other)
theorem stf_ne (row other : List Str) : ∃ p ps, stf row other = p :: ps := by
  unfold stf
  rw [List.range_succ_eq_map, List.map_cons]
  exact ⟨_, _, rfl⟩
theorem stf_len (row other : List Str) : (stf row other).length = other.length + 1 := by unfold stf; rw [List.length_map, List.length_range]
theorem sts_len (row other : List Str) : (sts row other).length ≤ other.length + 1 := by
  rw [← stf_len row other]; exact List.length_filter_le _ _
theorem rg_t1 (row other : List Str) (st : So) (ho : other.length ≤ 20) : gAdd (.p (.int other.length)) (.p (.int 1)) st = some (.p (.int ((other.length + 1 : Nat) : Int))) := by
    show some (Dv.p (.int ((other.length : Int) + 1))) = _
    rw [Int.natCast_add]; rfl
theorem rg_t2 (other : List Str) (ho : other.length ≤ 20) : okR ((other.length + 1 : Nat) : Int) = true := okR_small (by omega) (by omega)
theorem rg_t3a (other : List Str) (st : So) (ho : other.length ≤ 20) : optR st (rng1 [.p (.int ((other.length + 1 : Nat) : Int))]) = .ok (rngL 0 (((other.length + 1 : Nat) : Int)).toNat) st := rng_pure (rg_t2 other ho)
theorem rg_t3b (other : List Str) (st : So) (ho : other.length ≤ 20) : optR st (rng1 [.p (.int ((other.length + 1 : Nat) : Int))]) = .ok ((List.range (other.length + 1)).map fun k => Dv.p (.int (k : Nat))) st := by
  have h := rg_t3a other st ho
  rw [Int.toNat_natCast, rngL_zero] at h
  exact h
theorem rg_t3c (row other : List Str) (st : So) (ho : other.length ≤ 20) (hn : gAdd (.p (.int other.length)) (.p (.int 1)) st = some (.p (.int ((other.length + 1 : Nat) : Int)))) : fCons (fOp gAdd (fCB gLen (fCons (fVar 1) fNil)) (fC (.int 1))) fNil [some (tw row), some (tw other), none, none, none, none] st = .ok [.p (.int ((other.length + 1 : Nat) : Int))] st := by
  simp only [ev_cons, ev_op, ev_cb, ev_var, List.getElem?_cons_succ, List.getElem?_cons_zero, bind_ok, ev_nil, gLen_tw, toR_some, ev_c, hn]
theorem rg_t3 (row other : List Str) (st : So) (ho : other.length ≤ 20) (hn : gAdd (.p (.int other.length)) (.p (.int 1)) st = some (.p (.int ((other.length + 1 : Nat) : Int)))) : fRng rng1 (fCons (fOp gAdd (fCB gLen (fCons (fVar 1) fNil)) (fC (.int 1))) fNil) [some (tw row), some (tw other), none, none, none, none] st = .ok ((List.range (other.length + 1)).map fun k => Dv.p (.int (k : Nat))) st := by
  rw [ev_rng, rg_t3c row other st ho hn, bind_ok, rg_t3b other st ho]
theorem rg_t4 (row other : List Str) (st : So) (hr : Row row) (ho : other.length ≤ 20) (hF : Flat st) (k : Nat) (hk' : k ≤ other.length) : fCons (fVar 0) (fCons (fVar 1) (fCons (fVar 4) fNil)) [some (tw row), some (tw other), none, none, some (.p (.int (k : Nat))), none] st = .ok [tw row, tw other, .p (.int (k : Nat))] st := by
  simp
theorem rg_t5 (row other : List Str) (st : So) (hr : Row row) (ho : other.length ≤ 20) (hF : Flat st) (k : Nat) (hk' : k ≤ other.length) : fCall d_stretch_from (fCons (fVar 0) (fCons (fVar 1) (fCons (fVar 4) fNil))) [some (tw row), some (tw other), none, none, some (.p (.int (k : Nat))), none] st = .ok (.p (.int (stretchN row other k : Nat))) st := by
  rw [ev_call, rg_t4 row other st hr ho hF k hk', bind_ok, stretch_eq row other k st hr ho hk' hF]
theorem stretches_eq (row other : List Str) (st : So) (hr : Row row) (ho : other.length ≤ 20) (hF : Flat st) : d_stretches_of [tw row, tw other] st = .ok (pl (sts row other)) st := by
  refine runD_pure0 ?_
  show m_stretches_of [some (tw row), some (tw other), none, none, none, none] st = _
  unfold m_stretches_of
  have hn : gAdd (.p (.int other.length)) (.p (.int 1)) st = some (.p (.int ((other.length + 1 : Nat) : Int))) := by
    show some (Dv.p (.int ((other.length : Int) + 1))) = _
    rw [Int.natCast_add]; rfl
  have hlen : (stf row other).length ≤ 100000 := by rw [stf_len]; omega
  have e1 : fPure (fLc (fRng rng1 (fCons (fOp gAdd (fCB gLen (fCons (fVar 1) fNil)) (fC (.int 1))) fNil)) (.nm 4) tYesF (fTup (fCons (fVar 4) (fCons (fCall d_stretch_from (fCons (fVar 0) (fCons (fVar 1) (fCons (fVar 4) fNil)))) fNil)))) [some (tw row), some (tw other), none, none, none, none] st
      = .ok (pl (stf row other)) st := by
    refine pure_ok ?_ hlen
    have e2 := rg_t3 row other st ho hn
    rw [lc_all [some (tw row), some (tw other), none, none, none, none] (fun k : Nat => [some (tw row), some (tw other), none, none, some (.p (.int (k : Nat))), none]) (fun k : Nat => Dv.p (pD (k, stretchN row other k))) e2 (by rw [List.length_range]; omega) rhoW_one (fun k _ => by simp) fun k hk => ?_]
    · unfold stf
      rw [List.map_map]
      rfl
    · have hk' : k ≤ other.length := by have := List.mem_range.mp hk; omega
      exact tup2_ok (st1 := st) (by simp) (rg_t5 row other st hr ho hF k hk')
  have tg : ∀ (p : Nat × Nat) (x : Option Dv), tgF (.tp [.nm 4, .nm 5]) (.p (pD p)) [some (tw row), some (tw other), some (pl (stf row other)), x, none, none] = some [some (tw row), some (tw other), some (pl (stf row other)), x, some (.p (.int (p.1 : Nat))), some (.p (.int (p.2 : Nat)))] := fun p x => by simp [pD]
  have e4 : fLcV (fVar 2) (.tp [.nm 4, .nm 5]) tYesF (fOp gSub (fVar 5) (fVar 4)) [some (tw row), some (tw other), some (pl (stf row other)), none, none, none] st = .ok ((stf row other).map fun p => Dv.p (.int ((p.2 : Int) - p.1))) st :=
    lcV_all _ (fun p => [some (tw row), some (tw other), some (pl (stf row other)), none, some (.p (.int (p.1 : Nat))), some (.p (.int (p.2 : Nat)))]) _ (by simp) (items_pl _ st) hlen (by rw [rhoW_two]; rfl) (fun p _ => tg p none) fun p _ => by
      simp only [ev_op, ev_var, List.getElem?_cons_succ, List.getElem?_cons_zero, bind_ok]; rfl
  have e5 : small ((stf row other).map fun p => Dv.p (.int ((p.2 : Int) - p.1))) = true := by rw [small_map]; exact decide_eq_true hlen
  have e6 : gMax [mkL ((stf row other).map fun p => Dv.p (.int ((p.2 : Int) - p.1)))] st = some (.p (.int (lgst row other))) := by
    unfold lgst
    obtain ⟨p, ps, e⟩ := stf_ne row other
    rw [e]
    have := gMax_i ((p.2 : Int) - p.1) (ps.map fun p => (p.2 : Int) - p.1) st
    rw [List.map_cons, List.map_map] at this
    exact this
  have e7' : fLcV (fVar 2) (.tp [.nm 4, .nm 5]) (fTB (fOp gEq (fOp gSub (fVar 5) (fVar 4)) (fVar 3))) (fTup (fCons (fVar 4) (fCons (fVar 5) fNil))) [some (tw row), some (tw other), some (pl (stf row other)), some (.p (.int (lgst row other))), none, none] st = .ok ((sts row other).map fun p => Dv.p (pD p)) st := by
    unfold sts
    refine lcV_pure [some (tw row), some (tw other), some (pl (stf row other)), some (.p (.int (lgst row other))), none, none] (fun p : Nat × Nat => [some (tw row), some (tw other), some (pl (stf row other)), some (.p (.int (lgst row other))), some (.p (.int (p.1 : Nat))), some (.p (.int (p.2 : Nat)))]) (fun p => decide (((p.2 : Int) - p.1) = lgst row other)) (fun p => Dv.p (pD p)) (d := pl (stf row other)) (by simp) (items_pl _ st) hlen (by rw [rhoW_two]; rfl) (fun p _ => tg p _) (fun p _ => ?_) (fun p _ _ => ?_)
    · have : gSub (.p (.int (p.2 : Nat))) (.p (.int (p.1 : Nat))) st = some (.p (.int ((p.2 : Int) - p.1))) := rfl
      simp only [ev_tb, ev_op, ev_var, List.getElem?_cons_succ, List.getElem?_cons_zero, bind_ok, this, toR_some, gEq_i, ev_asB]
    · exact tup2_ok (st1 := st) (by simp) (by simp)
  have e7 := pure_ok e7' (by have := sts_len row other; omega)
  rw [ev_seq, ev_asg, e1]
  simp only [bind_ok, if_true, st_ok, tg_nm, toE_some, List.set_cons_succ, List.set_cons_zero, ev_seq, ev_asg, ev_cb, ev_cons, ev_pure, e4, e5, ev_nil, e6, toR_some, ev_ret]
  rw [← ev_pure, e7]
  rfl
end FB.K52
set_option Elab.async false
set_option linter.all false
set_option maxRecDepth 100000
set_option maxHeartbeats 4000000
namespace FB.K52
open PySem PySem.Spec PyProof.Rows L2 RZ FB
def drp (row other : List Str) : List Str := row.filter fun w => !decide (w ∈ other)
theorem drp_len (row other : List Str) : (drp row other).length ≤ row.length := List.length_filter_le _ _
theorem dropped_eq (row other : List Str) (st : So) (hr : row.length ≤ 20) : d_dropped_of [tw row, tw other] st = .ok (lw (drp row other)) st := by
  refine runD_pure0 ?_
  show m_dropped_of [some (tw row), some (tw other), none] st = _
  unfold m_dropped_of
  have e1 : fLcV (fVar 0) (.nm 2) (fTB (fOp gNotIn (fVar 2) (fVar 1))) (fVar 2) [some (tw row), some (tw other), none] st = .ok ((drp row other).map fun w => Dv.p (.str w)) st := by
    unfold drp
    refine lcV_pure [some (tw row), some (tw other), none] (fun w => [some (tw row), some (tw other), some (sD w)]) (fun w => !decide (w ∈ other)) (fun w => Dv.p (.str w)) (d := tw row) (by simp) (items_tw row st) (by omega) (by rw [rhoW_one]; rfl) (fun w _ => by simp) (fun w _ => ?_) (fun w _ _ => by simp)
    rw [ev_tb, ev_op]
    simp only [ev_var, List.getElem?_cons_succ, List.getElem?_cons_zero, bind_ok, gNotIn_tw, toR_some, ev_asB]
  have e2 := pure_ok e1 (by have := drp_len row other; omega)
  rw [ev_ret, e2]
  rfl
theorem maxL_go2 : ∀ (xs : List Int) (x : Int), xs.foldl (fun m y => if m < y then y else m) x ∈ x :: xs
  | [], x => List.mem_cons_self
  | y :: ys, x => by
    rw [List.foldl_cons]
    have := maxL_go2 ys (if x < y then y else x)
    rcases List.mem_cons.mp this with h | h
    · rw [h]
      split
      · exact List.mem_cons_of_mem _ List.mem_cons_self
      · exact List.mem_cons_self
    · exact List.mem_cons_of_mem _ (List.mem_cons_of_mem _ h)
theorem maxL_mem (x : Int) (xs : List Int) : maxL (x :: xs) ∈ x :: xs := maxL_go2 xs x
theorem sts_ne {row other : List Str} : ∃ p ps, sts row other = p :: ps := by
  obtain ⟨p, ps, e⟩ := stf_ne row other
  have hm : lgst row other ∈ (stf row other).map fun p => (p.2 : Int) - p.1 := by
    unfold lgst
    rw [e, List.map_cons]
    exact maxL_mem _ _
  obtain ⟨q, hq, e2⟩ := List.mem_map.mp hm
  have : q ∈ sts row other := List.mem_filter.mpr ⟨hq, decide_eq_true e2⟩
  cases h : sts row other with
  | nil => rw [h] at this; cases this
  | cons a b => exact ⟨a, b, rfl⟩
def fst0 (row other : List Str) : Nat × Nat := (sts row other).headD (0, 0)
theorem fst0_mem (row other : List Str) : fst0 row other ∈ sts row other := by
  obtain ⟨p, ps, e⟩ := sts_ne (row := row) (other := other)
  unfold fst0; rw [e]; exact List.mem_cons_self
theorem ix0_pl (row other : List Str) (st : So) : gIxA (pl (sts row other)) (.p (.int 0)) st = some (.p (pD (fst0 row other))) := by
  obtain ⟨p, ps, e⟩ := sts_ne (row := row) (other := other)
  unfold fst0
  rw [e]
  show atI (((p :: ps).map pD).map Dv.p) 0 = _
  unfold atI ixN
  rw [if_pos (by omega), if_pos (by simp)]
  rfl
def due (row other : List Str) : Int := (other.length : Int) - (((fst0 row other).2 : Int) - (fst0 row other).1) + (drp row other).length
theorem distance_of_eq (row other : List Str) (st : So) (hr : Row row) (ho : other.length ≤ 20) (hF : Flat st) : d_distance_of [tw row, tw other] st = .ok (.p (.int (due row other))) st := by
  refine runD_pure0 ?_
  show m_distance_of [some (tw row), some (tw other), none, none] st = _
  unfold m_distance_of
  have e1 : fOp gIxA (fCall d_stretches_of (fCons (fVar 0) (fCons (fVar 1) fNil))) (fC (.int 0)) [some (tw row), some (tw other), none, none] st = .ok (.p (pD (fst0 row other))) st := by
    have a : fCons (fVar 0) (fCons (fVar 1) fNil) [some (tw row), some (tw other), none, none] st = .ok [tw row, tw other] st := by simp
    rw [ev_op, ev_call, a, bind_ok, stretches_eq row other st hr ho hF, bind_ok, ev_c, bind_ok, ix0_pl, toR_some]
  have tg : tgF (.tp [.nm 2, .nm 3]) (.p (pD (fst0 row other))) [some (tw row), some (tw other), none, none] = some [some (tw row), some (tw other), some (.p (.int ((fst0 row other).1 : Nat))), some (.p (.int ((fst0 row other).2 : Nat)))] := by simp [pD]
  have e2 : fCall d_dropped_of (fCons (fVar 0) (fCons (fVar 1) fNil)) [some (tw row), some (tw other), some (.p (.int ((fst0 row other).1 : Nat))), some (.p (.int ((fst0 row other).2 : Nat)))] st = .ok (lw (drp row other)) st := by
    have a : fCons (fVar 0) (fCons (fVar 1) fNil) [some (tw row), some (tw other), some (.p (.int ((fst0 row other).1 : Nat))), some (.p (.int ((fst0 row other).2 : Nat)))] st = .ok [tw row, tw other] st := by simp
    rw [ev_call, a, bind_ok, dropped_eq row other st hr.2.2]
  have g1 : ∀ i j : Int, gSub (.p (.int i)) (.p (.int j)) st = some (.p (.int (i - j))) := fun _ _ => rfl
  have g2 : ∀ i j : Int, gAdd (.p (.int i)) (.p (.int j)) st = some (.p (.int (i + j))) := fun _ _ => rfl
  rw [ev_seq, ev_asg, e1, st_ok, tg, toE_some]
  dsimp only
  rw [ev_ret, ev_op, ev_op]
  simp only [ev_op, ev_cb, ev_cons, ev_var, List.getElem?_cons_succ, List.getElem?_cons_zero, bind_ok, ev_nil, gLen_tw, toR_some, g1, e2, gLen_lw, g2, st_ok]
  rfl
theorem distance_eq (row other : List Str) (st : So) (hr : Row row) (ho : Row other) (hF : Flat st) : d_distance [tw row, tw other] st = .ok (.p (.int (due row other))) st := by
  refine runD_pure0 ?_
  show m_distance [some (tw row), some (tw other)] st = _
  unfold m_distance
  have a : fCons (fVar 0) (fCons (fVar 1) fNil) [some (tw row), some (tw other)] st = .ok [tw row, tw other] st := by simp
  have a1 : fCons (fVar 0) fNil [some (tw row), some (tw other)] st = .ok [tw row] st := by simp
  have a2 : fCons (fVar 1) fNil [some (tw row), some (tw other)] st = .ok [tw other] st := by simp
  rw [ev_seq, ev_drop, ev_call, a1, bind_ok, check_row_ok row st hr, st_ok]
  dsimp only
  rw [ev_seq, ev_drop, ev_call, a2, bind_ok, check_row_ok other st ho, st_ok]
  dsimp only
  rw [ev_ret, ev_call, a, bind_ok, distance_of_eq row other st hr ho.2.2 hF, st_ok]

/-! ### route -/
def opD (o : Str × Str) : PyData := .tuple [.str o.1, .str o.2]
def tags (v : Str) (ws : List Str) : List (Str × Str) := ws.map fun w => (v, w)
def opsC (os : List (Str × Str)) : Cl := .lst (os.map fun o => Dv.p (opD o))
theorem tags_map (v : Str) (ws : List Str) : (tags v ws).map (fun o => Dv.p (opD o)) = ws.map fun w => Dv.p (opD (v, w)) := by unfold tags; rw [List.map_map]; rfl
def opsR (row other : List Str) : List (Str × Str) := tags "drop" (drp row other) ++ tags "front" (other.take (fst0 row other).1).reverse ++ tags "back" (other.drop (fst0 row other).2)
theorem sts_in {row other : List Str} {p : Nat × Nat} (h : p ∈ sts row other) : p.1 ≤ other.length ∧ p.2 = stretchN row other p.1 ∧ ((p.2 : Int) - p.1) = lgst row other := by
  obtain ⟨h1, h2⟩ := List.mem_filter.mp h
  obtain ⟨b, hb, rfl⟩ := List.mem_map.mp h1
  have := List.mem_range.mp hb
  exact ⟨by show b ≤ _; omega, rfl, of_decide_eq_true h2⟩
theorem goE_le {row other : List Str} : ∀ (f e : Nat) (last : Int), e ≤ other.length → e ≤ goE row other f e last ∧ goE row other f e last ≤ other.length
  | 0, e, _, h => ⟨Nat.le_refl _, h⟩
  | f + 1, e, last, h => by
    unfold goE
    cases hw : other[e]? with
    | none => exact ⟨Nat.le_refl _, h⟩
    | some w =>
      dsimp only
      split
      · have := goE_le (row := row) f (e + 1) (idx row w) (List.getElem?_eq_some_iff.mp hw).1
        exact ⟨by omega, this.2⟩
      · exact ⟨Nat.le_refl _, h⟩
theorem sIx_nat {n k : Nat} (d : Nat) (h : k ≤ n) : HT.sIx n d (some (k : Int)) = k := by
  show (if (k : Int) < 0 then ((k : Int) + (n : Int)).toNat else min (k : Int).toNat n) = k
  rw [if_neg (by omega)]
  omega
theorem sl_hi (ws : List Str) (k : Nat) (st : So) (h : k ≤ ws.length) : gSl (tw ws) none (some (k : Int)) st = some (tw (ws.take k)) := by
  show (match tupOf (tw ws) with | some xs => some (if whole xs.length none (some (k : Int)) then tw ws else mkT (cutD xs none (some (k : Int)))) | none => (seqOf (tw ws) st).map fun xs => mkL (cutD xs none (some (k : Int)))) = _
  rw [tup_tw]
  show some (if whole (ws.map sD).length none (some (k : Int)) then tw ws else mkT (cutD (ws.map sD) none (some (k : Int)))) = _
  have e : cutD (ws.map sD) none (some (k : Int)) = (ws.take k).map sD := by
    unfold cutD
    rw [List.length_map, sIx_nat _ h]
    show (List.drop 0 (ws.map sD)).take (k - 0) = _
    rw [List.drop_zero, Nat.sub_zero, List.map_take]
  by_cases hw : whole (ws.map sD).length none (some (k : Int)) = true
  · rw [if_pos hw]
    unfold whole at hw
    rw [List.length_map, sIx_nat _ h, Bool.and_eq_true] at hw
    rw [of_decide_eq_true hw.2, List.take_length]
  · rw [if_neg hw, e, mkT_s]
theorem sl_lo (ws : List Str) (k : Nat) (st : So) (h : k ≤ ws.length) : gSl (tw ws) (some (k : Int)) none st = some (tw (ws.drop k)) := by
  show (match tupOf (tw ws) with | some xs => some (if whole xs.length (some (k : Int)) none then tw ws else mkT (cutD xs (some (k : Int)) none)) | none => (seqOf (tw ws) st).map fun xs => mkL (cutD xs (some (k : Int)) none)) = _
  rw [tup_tw]
  show some (if whole (ws.map sD).length (some (k : Int)) none then tw ws else mkT (cutD (ws.map sD) (some (k : Int)) none)) = _
  have e : cutD (ws.map sD) (some (k : Int)) none = (ws.drop k).map sD := by
    unfold cutD
    rw [List.length_map, sIx_nat _ h]
    show ((ws.map sD).drop k).take (ws.length - k) = _
    rw [← List.map_drop]
    apply List.take_of_length_le
    rw [List.length_map, List.length_drop]
    exact Nat.le_refl _
  by_cases hw : whole (ws.map sD).length (some (k : Int)) none = true
  · rw [if_pos hw]
    unfold whole at hw
    rw [List.length_map, sIx_nat _ h, Bool.and_eq_true] at hw
    rw [of_decide_eq_true hw.1, List.drop_zero]
  · rw [if_neg hw, e, mkT_s]
theorem rev_tw (ws : List Str) (st : So) : gRev (tw ws) st = some (tw ws.reverse) := by
  unfold gRev
  rw [tup_tw]
  show some (mkT (ws.map sD).reverse) = _
  rw [← List.map_reverse, mkT_s]
theorem tagc (v : Str) (ws : List Str) (st : So) (fa : FE) (ρ ρ0 : Sl) (d : Dv) (r : Str → Sl) (hd : fa ρ st = .ok d st) (hi : itemsOf d st = some (ws.map sD)) (hl : ws.length ≤ 20) (hρ : rhoW ρ (tgS (.nm 5)) = ρ0) (h1 : ∀ w ∈ ws, tgF (.nm 5) (sD w) ρ0 = some (r w)) (h2 : ∀ w ∈ ws, fVar 5 (r w) st = .ok (sD w) st) :
    fLcV fa (.nm 5) tYesF (fTup (fCons (fC (.str v)) (fCons (fVar 5) fNil))) ρ st = .ok ((tags v ws).map fun o => Dv.p (opD o)) st := by
  rw [tags_map]
  exact lcV_all ρ0 r (fun w => Dv.p (opD (v, w))) hd hi (by omega) hρ h1 fun w hw => tup2_ok (st1 := st) (ev_c) (h2 w hw)
theorem route_of_eq (row other : List Str) (st : So) (hr : Row row) (ho : other.length ≤ 20) (hF : Flat st) :
    d_route_of [tw row, tw other] st = .ok (.p (.list ((opsR row other).map opD))) st := by
  generalize hp : fst0 row other = p
  have hpm := fst0_mem row other
  rw [hp] at hpm
  obtain ⟨h1, h2, _⟩ := sts_in hpm
  have h3 := (goE_le (row := row) (other.length + 1) p.1 (-1) h1).2
  have h4 : p.2 ≤ other.length := by rw [h2]; exact h3
  have hdl := drp_len row other
  have hrl := hr.2.2
  have e1 : fOp gIxA (fCall d_stretches_of (fCons (fVar 0) (fCons (fVar 1) fNil))) (fC (.int 0)) [some (tw row), some (tw other), none, none, none, none] st = .ok (.p (pD p)) st := by
    have a : fCons (fVar 0) (fCons (fVar 1) fNil) [some (tw row), some (tw other), none, none, none, none] st = .ok [tw row, tw other] st := by simp
    rw [ev_op, ev_call, a, bind_ok, stretches_eq row other st hr ho hF, bind_ok, ev_c, bind_ok, ix0_pl, toR_some, hp]
  have tg : tgF (.tp [.nm 3, .nm 4]) (.p (pD p)) [some (tw row), some (tw other), none, none, none, none] = some [some (tw row), some (tw other), none, some (.p (.int (p.1 : Nat))), some (.p (.int (p.2 : Nat))), none] := by simp [pD]
  have e2 : fLcV (fCall d_dropped_of (fCons (fVar 0) (fCons (fVar 1) fNil))) (.nm 5) tYesF (fTup (fCons (fC (.str "drop")) (fCons (fVar 5) fNil))) [some (tw row), some (tw other), none, some (.p (.int (p.1 : Nat))), some (.p (.int (p.2 : Nat))), none] st = .ok ((tags "drop" (drp row other)).map fun o => Dv.p (opD o)) st := by
    refine tagc "drop" (drp row other) st _ _ [some (tw row), some (tw other), none, some (.p (.int (p.1 : Nat))), some (.p (.int (p.2 : Nat))), none] (lw (drp row other)) (fun w => [some (tw row), some (tw other), none, some (.p (.int (p.1 : Nat))), some (.p (.int (p.2 : Nat))), some (sD w)]) ?_ (items_lw _ st) (by omega) (by rw [rhoW_one]; rfl) (fun w _ => by simp) (fun w _ => by simp)
    have a : fCons (fVar 0) (fCons (fVar 1) fNil) [some (tw row), some (tw other), none, some (.p (.int (p.1 : Nat))), some (.p (.int (p.2 : Nat))), none] st = .ok [tw row, tw other] st := by simp
    rw [ev_call, a, bind_ok, dropped_eq row other st hr.2.2]
  generalize hos : tags "drop" (drp row other) = os at e2 ⊢
  have hosl : os.length ≤ 20 := by rw [← hos]; unfold tags; rw [List.length_map]; omega
  have e3 : ∀ st1 : So, fPure (fLcV (fUn gRev (fSl (fVar 1) fNoP (fPt (fVar 3)))) (.nm 5) tYesF (fTup (fCons (fC (.str "front")) (fCons (fVar 5) fNil)))) [some (tw row), some (tw other), some (.ref st.length), some (.p (.int (p.1 : Nat))), some (.p (.int (p.2 : Nat))), none] st1 = .ok (.p (.list ((tags "front" (other.take p.1).reverse).map opD))) st1 := fun st1 => by
    refine pure_ok (tagc "front" (other.take p.1).reverse st1 _ _ [some (tw row), some (tw other), some (.ref st.length), some (.p (.int (p.1 : Nat))), some (.p (.int (p.2 : Nat))), none] (tw (other.take p.1).reverse) (fun w => [some (tw row), some (tw other), some (.ref st.length), some (.p (.int (p.1 : Nat))), some (.p (.int (p.2 : Nat))), some (sD w)]) ?_ (items_tw _ st1) (by simp; omega) (by rw [rhoW_one]; rfl) (fun w _ => by simp) (fun w _ => by simp)) (by unfold tags; simp; omega)
    have a : fSl (fVar 1) fNoP (fPt (fVar 3)) [some (tw row), some (tw other), some (.ref st.length), some (.p (.int (p.1 : Nat))), some (.p (.int (p.2 : Nat))), none] st1 = .ok (tw (other.take p.1)) st1 := by
      simp [sl_hi other p.1 st1 h1]
    rw [ev_un, a, bind_ok, rev_tw, toR_some]
  have e4 : ∀ st1 : So, fPure (fLcV (fSl (fVar 1) (fPt (fVar 4)) fNoP) (.nm 5) tYesF (fTup (fCons (fC (.str "back")) (fCons (fVar 5) fNil)))) [some (tw row), some (tw other), some (.ref st.length), some (.p (.int (p.1 : Nat))), some (.p (.int (p.2 : Nat))), none] st1 = .ok (.p (.list ((tags "back" (other.drop p.2)).map opD))) st1 := fun st1 => by
    refine pure_ok (tagc "back" (other.drop p.2) st1 _ _ [some (tw row), some (tw other), some (.ref st.length), some (.p (.int (p.1 : Nat))), some (.p (.int (p.2 : Nat))), none] (tw (other.drop p.2)) (fun w => [some (tw row), some (tw other), some (.ref st.length), some (.p (.int (p.1 : Nat))), some (.p (.int (p.2 : Nat))), some (sD w)]) ?_ (items_tw _ st1) (by simp; omega) (by rw [rhoW_one]; rfl) (fun w _ => by simp) (fun w _ => by simp)) (by unfold tags; simp; omega)
    simp [sl_lo other p.2 st1 h4]
  have tgo : ∀ (v : Str) (ws : List Str), (tags v ws).length = ws.length := fun v ws => by unfold tags; rw [List.length_map]
  have hfl : (tags "front" (other.take p.1).reverse).length ≤ 20 := by rw [tgo]; simp; omega
  have hbl : (tags "back" (other.drop p.2)).length ≤ 20 := by rw [tgo]; simp; omega
  generalize hfo : tags "front" (other.take p.1).reverse = fo at e3 hfl
  generalize hbo : tags "back" (other.drop p.2) = bo at e4 hbl
  have hall : opsR row other = os ++ fo ++ bo := by unfold opsR; rw [hp, hos, hfo, hbo]
  rw [hall]
  have key : m_route_of [some (tw row), some (tw other), none, none, none, none] st = .ret (.p (.list ((os ++ fo ++ bo).map opD))) (st ++ [opsC (os ++ fo)]) := by
    unfold m_route_of
    rw [ev_seq, ev_asg, e1, st_ok, tg, toE_some]
    dsimp only
    rw [ev_seq, ev_asg, ev_cell, e2, bind_ok, small_map, decide_eq_true (by omega), if_pos rfl, st_ok, tg_nm, toE_some]
    simp only [List.set_cons_succ, List.set_cons_zero]
    rw [ev_seq, ev_ext]
    simp only [List.getElem?_cons_succ, List.getElem?_cons_zero]
    rw [e3, st_ok]
    have c1 : cellL (.ref st.length) (st ++ [Cl.lst (os.map fun o => Dv.p (opD o))]) = some (st.length, os.map fun o => Dv.p (opD o)) := by
      unfold cellL
      dsimp only
      rw [app_at]
    have c2 : ∀ (xs : List (Str × Str)) (s : So), lstOf (.p (.list (xs.map opD))) s = some (xs.map fun o => Dv.p (opD o)) := fun xs s => by
      show some ((xs.map opD).map Dv.p) = _
      rw [List.map_map]; rfl
    rw [c1, c2]
    dsimp only
    rw [if_pos (by rw [List.length_map, List.length_map]; omega), app_set, ← List.map_append]
    dsimp only
    rw [ev_ret, ev_op]
    simp only [ev_var, List.getElem?_cons_succ, List.getElem?_cons_zero, bind_ok]
    rw [e4, bind_ok]
    have c3 : lstOf (.ref st.length) (st ++ [Cl.lst ((os ++ fo).map fun o => Dv.p (opD o))]) = some ((os ++ fo).map fun o => Dv.p (opD o)) := by
      unfold lstOf
      dsimp only
      rw [app_at]
    have g : gAdd (.ref st.length) (.p (.list (bo.map opD))) (st ++ [Cl.lst ((os ++ fo).map fun o => Dv.p (opD o))]) = some (.p (.list ((os ++ fo ++ bo).map opD))) := by
      show (match lstOf (.ref st.length) (st ++ [Cl.lst ((os ++ fo).map fun o => Dv.p (opD o))]), lstOf (.p (.list (bo.map opD))) (st ++ [Cl.lst ((os ++ fo).map fun o => Dv.p (opD o))]) with
        | some xs, some ys => if xs.length + ys.length ≤ 100000 then some (mkL (xs ++ ys)) else none
        | _, _ => none) = _
      rw [c3, c2]
      dsimp only
      rw [if_pos (by rw [List.length_map, List.length_map, List.length_append]; omega), ← List.map_append, mkL_map]
    rw [g, toR_some, st_ok]
    rfl
  exact runD_pure (N := 6) (args := [tw row, tw other]) hF key
theorem route_eq (row other : List Str) (st : So) (hr : Row row) (ho : Row other) (hF : Flat st) :
    d_route [tw row, tw other] st = .ok (.p (.list ((opsR row other).map opD))) st := by
  have key : m_route [some (tw row), some (tw other)] st = .ret (.p (.list ((opsR row other).map opD))) st := by
    unfold m_route
    have a : fCons (fVar 0) (fCons (fVar 1) fNil) [some (tw row), some (tw other)] st = .ok [tw row, tw other] st := by simp
    have a1 : fCons (fVar 0) fNil [some (tw row), some (tw other)] st = .ok [tw row] st := by simp
    have a2 : fCons (fVar 1) fNil [some (tw row), some (tw other)] st = .ok [tw other] st := by simp
    rw [ev_seq, ev_drop, ev_call, a1, bind_ok, check_row_ok row st hr, st_ok]
    dsimp only
    rw [ev_seq, ev_drop, ev_call, a2, bind_ok, check_row_ok other st ho, st_ok]
    dsimp only
    rw [ev_ret, ev_call, a, bind_ok, route_of_eq row other st hr ho.2.2 hF, st_ok]
  exact runD_pure0 (N := 2) (args := [tw row, tw other]) key
end FB.K52
set_option Elab.async false
set_option linter.all false
set_option maxRecDepth 100000
set_option maxHeartbeats 4000000
namespace FB.K52
open PySem PySem.Spec PyProof.Rows L2 RZ FB
def fct : Nat → Nat
  | 0 => 1
  | n + 1 => fct n * (n + 1)
theorem fct_pos : ∀ n, 0 < fct n
  | 0 => Nat.one_pos
  | n + 1 => Nat.mul_pos (fct_pos n) (Nat.succ_pos n)
theorem fct_le : ∀ n, n ≤ 64 → fct n ≤ 2 ^ (6 * n)
  | 0, _ => Nat.le_refl _
  | n + 1, h => by
    have ih := fct_le n (by omega)
    rw [Nat.mul_succ, Nat.pow_add]
    exact Nat.mul_le_mul ih (by omega)
theorem fct_lt {n : Nat} (h : n ≤ 64) : fct n < 2 ^ 1000 := Nat.lt_of_le_of_lt (fct_le n h) (Nat.lt_of_le_of_lt (Nat.pow_le_pow_right (by decide) (show 6 * n ≤ 384 by omega)) (Nat.pow_lt_pow_right (by decide) (by decide)))
abbrev iD (n : Nat) : Dv := .p (.int (n : Nat))
theorem fact_loop (a : Option Dv) (st : So) : ∀ (m k : Nat) (x : Option Dv), k + m ≤ 1000 → ∃ y, sForL (.nm 2) (sAug 1 gMulI (fVar 2)) (rngL ((k + 1 : Nat) : Int) m) [a, some (iD (fct k)), x] st = .nx [a, some (iD (fct (k + m))), y] st
  | 0, k, x, _ => ⟨x, rfl⟩
  | m + 1, k, x, h => by
    obtain ⟨y, ih⟩ := fact_loop a st m (k + 1) (some (.p (.int ((k + 1 : Nat) : Int)))) (by omega)
    refine ⟨y, ?_⟩
    have e : gMulI (iD (fct k)) (.p (.int ((k + 1 : Nat) : Int))) st = some (iD (fct (k + 1))) := by
      show (if decide ((((k + 1 : Nat) : Int)).natAbs < 2 ^ 64) then some (Dv.p (.int ((fct k : Int) * ((k + 1 : Nat) : Int)))) else none) = _
      rw [decide_eq_true (by omega), if_pos rfl]
      show some (Dv.p (.int ((fct k : Int) * ((k + 1 : Nat) : Int)))) = some (Dv.p (.int ((fct k * (k + 1) : Nat) : Int)))
      rw [Int.natCast_mul]
    rw [rngL_succ, forL_cons, tg_nm, toE_some, ev_aug]
    simp only [List.set_cons_succ, List.set_cons_zero, List.getElem?_cons_succ, List.getElem?_cons_zero, ev_var, st_ok, e]
    have e2 : (((k + 1 : Nat) : Int) + 1) = ((k + 1 + 1 : Nat) : Int) := by omega
    rw [e2, ih, show k + (m + 1) = k + 1 + m by omega]
theorem factorial_eq (n : Nat) (st : So) (h : n ≤ 100) : d_factorial [iD n] st = .ok (iD (fct n)) st := by
  refine runD_pure0 ?_
  show m_factorial [some (iD n), none, none] st = _
  unfold m_factorial
  have e1 : gAdd (iD n) (.p (.int 1)) st = some (.p (.int ((n + 1 : Nat) : Int))) := by
    show some (Dv.p (.int ((n : Int) + 1))) = _
    rw [Int.natCast_add]; rfl
  have e2 : fCons (fC (.int 2)) (fCons (fOp gAdd (fVar 0) (fC (.int 1))) fNil) [some (iD n), some (.p (.int 1)), none] st = .ok [.p (.int 2), .p (.int ((n + 1 : Nat) : Int))] st := by
    simp only [ev_cons, ev_c, ev_op, ev_var, List.getElem?_cons_zero, bind_ok, e1, toR_some, ev_nil]
  have e3 : optR st (rng2 [.p (.int 2), .p (.int ((n + 1 : Nat) : Int))]) = .ok (rngL ((1 + 1 : Nat) : Int) (n - 1)) st := by
    rw [rng2_pure (okR_small (by omega) (by omega)) (okR_small (by omega) (by omega))]
    have : (((n + 1 : Nat) : Int) - 2).toNat = n - 1 := by omega
    rw [this]; rfl
  obtain ⟨y, hy⟩ := fact_loop (some (iD n)) st (n - 1) 1 none (by omega)
  have e4 : fct (1 + (n - 1)) = fct n := by
    cases n with
    | zero => rfl
    | succ m => rw [show 1 + (m + 1 - 1) = m + 1 by omega]
  rw [e4] at hy
  rw [ev_seq, ev_asg, ev_c, st_ok, tg_nm, toE_some]
  simp only [List.set_cons_succ, List.set_cons_zero]
  rw [ev_seq, ev_for, ev_rng, e2, bind_ok, e3, st_ok]
  have hy' : sForL (.nm 2) (sAug 1 gMulI (fVar 2)) (rngL ((1 + 1 : Nat) : Int) (n - 1)) [some (iD n), some (Dv.p (.int 1)), none] st = .nx [some (iD n), some (iD (fct n)), y] st := hy
  rw [hy']
  rfl
/-! ### routes -/
def wy (b h d : Nat) : Int := ((fct (b + h + d) : Nat) : Int) / (((fct b : Nat) : Int) * ((fct h : Nat) : Int)) * 2 ^ (b + h)
def tot (len d : Nat) (ps : List (Nat × Nat)) : Int := (ps.map fun p => wy p.1 (len - p.2) d).foldl (· + ·) 0
def bodyR : FS := sSeq (sPar 7 8 (fCons (fVar 4) (fCons (fOp gSub (fCB gLen (fCons (fVar 1) (fNil))) (fVar 5)) (fNil)))) (sSeq (sAsg (fOp gDiv (fCall d_factorial (fCons (fOp gAdd (fOp gAdd (fVar 7) (fVar 8)) (fVar 2)) (fNil))) (fOp gMulA (fCall d_factorial (fCons (fVar 7) (fNil))) (fCall d_factorial (fCons (fVar 8) (fNil))))) (.nm 6)) (sAug 3 gAddI (fOp gShlW (fVar 6) (fOp gAdd (fVar 7) (fVar 8)))))
theorem mul_big {i j : Nat} {st : So} (h1 : i < 2 ^ 1000) (h2 : j < 2 ^ 1000) : gMulA (iD i) (iD j) st = some (.p (.int ((i : Int) * (j : Int)))) := by
  have a1 : (i : Int).natAbs < 2 ^ 4000 := by rw [Int.natAbs_natCast]; exact Nat.lt_of_lt_of_le h1 (Nat.pow_le_pow_right (by decide) (by decide))
  have a2 : (j : Int).natAbs < 2 ^ 4000 := by rw [Int.natAbs_natCast]; exact Nat.lt_of_lt_of_le h2 (Nat.pow_le_pow_right (by decide) (by decide))
  show (if decide ((i : Int).natAbs < 2 ^ 64) || decide ((j : Int).natAbs < 2 ^ 64) then some (Dv.p (.int ((i : Int) * j))) else if decide ((i : Int).natAbs < 2 ^ 4000) && decide ((j : Int).natAbs < 2 ^ 4000) then some (Dv.p (.int ((i : Int) * j))) else none) = _
  rw [decide_eq_true a1, decide_eq_true a2]
  split <;> rfl
theorem div_big {i : Int} {j : Int} {st : So} (h1 : 0 < j) (h2 : j < 2 ^ 8000) : gDiv (.p (.int i)) (.p (.int j)) st = some (.p (.int (i / j))) := by
  show (if decide (0 < j) && decide (j < 2 ^ 8000) then some (Dv.p (.int (i / j))) else none) = _
  rw [decide_eq_true h1, decide_eq_true h2]; rfl
theorem shl_big {i : Int} {j : Nat} {st : So} (h1 : i.natAbs < 2 ^ 4000) (h2 : j ≤ 1000) : gShlW (.p (.int i)) (iD j) st = some (.p (.int (i * 2 ^ j))) := by
  show (if decide (0 ≤ (j : Int)) && decide ((j : Int) ≤ 1000000) && decide (i.natAbs < 2 ^ 4000) then some (Dv.p (.int (i * 2 ^ (j : Int).toNat))) else none) = _
  rw [decide_eq_true (by omega), decide_eq_true (by omega), decide_eq_true h1, Int.toNat_natCast]; rfl
theorem add_nat {i j : Nat} {st : So} : gAdd (iD i) (iD j) st = some (iD (i + j)) := by
  show some (Dv.p (.int ((i : Int) + j))) = _
  rw [← Int.natCast_add]
theorem sub_nat {i j : Nat} {st : So} (h : j ≤ i) : gSub (iD i) (iD j) st = some (iD (i - j)) := by
  show some (Dv.p (.int ((i : Int) - j))) = some (Dv.p (.int ((i - j : Nat) : Int)))
  rw [Int.natCast_sub h]
theorem ways_lt {b h d : Nat} (hs : b + h + d ≤ 64) : (((fct (b + h + d) : Nat) : Int) / (((fct b : Nat) : Int) * ((fct h : Nat) : Int))).natAbs < 2 ^ 4000 := by
  rw [← Int.natCast_mul, ← Int.natCast_ediv, Int.natAbs_natCast]
  exact Nat.lt_of_le_of_lt (Nat.div_le_self _ _) (Nat.lt_of_lt_of_le (fct_lt hs) (Nat.pow_le_pow_right (by decide) (by decide)))
theorem body_R (row other : List Str) (d : Nat) (acc : Int) (p : Nat × Nat) (x6 x7 x8 : Option Dv) (st : So) (h1 : p.1 ≤ 20) (h2 : p.2 ≤ other.length) (h3 : other.length ≤ 20) (h4 : d ≤ 20) :
    bodyR [some (tw row), some (tw other), some (iD d), some (.p (.int acc)), some (iD p.1), some (iD p.2), x6, x7, x8] st = .nx [some (tw row), some (tw other), some (iD d), some (.p (.int (acc + wy p.1 (other.length - p.2) d))), some (iD p.1), some (iD p.2), some (.p (.int (((fct (p.1 + (other.length - p.2) + d) : Nat) : Int) / (((fct p.1 : Nat) : Int) * ((fct (other.length - p.2) : Nat) : Int))))), some (iD p.1), some (iD (other.length - p.2))] st := by
  generalize hb : p.1 = b at *
  generalize hh : other.length - p.2 = h
  have hh2 : h ≤ 20 := by omega
  have e1 : fCons (fVar 4) (fCons (fOp gSub (fCB gLen (fCons (fVar 1) fNil)) (fVar 5)) fNil) [some (tw row), some (tw other), some (iD d), some (.p (.int acc)), some (iD b), some (iD p.2), x6, x7, x8] st = .ok [iD b, iD h] st := by
    have := sub_nat (st := st) h2
    rw [hh] at this
    simp only [ev_cons, ev_var, List.getElem?_cons_succ, List.getElem?_cons_zero, bind_ok, ev_op, ev_cb, ev_nil, gLen_tw, toR_some, this]
  unfold bodyR
  rw [ev_seq, ev_par, e1, st_ok]
  simp only [List.set_cons_succ, List.set_cons_zero]
  have f1 := factorial_eq b st (by omega)
  have f2 := factorial_eq h st (by omega)
  have f3 := factorial_eq (b + h + d) st (by omega)
  have m1 := mul_big (st := st) (fct_lt (n := b) (by omega)) (fct_lt (n := h) (by omega))
  have hpos : (0 : Int) < (fct b : Int) * (fct h : Int) := by
    have := Nat.mul_pos (fct_pos b) (fct_pos h)
    rw [← Int.natCast_mul]; omega
  have hlt : (fct b : Int) * (fct h : Int) < 2 ^ 8000 := by
    have q := Nat.mul_lt_mul'' (fct_lt (n := b) (by omega)) (fct_lt (n := h) (by omega))
    rw [← Nat.pow_add] at q
    have q2 : fct b * fct h < 2 ^ 8000 := Nat.lt_trans q (Nat.pow_lt_pow_right (by decide) (by decide))
    have e : ((2 : Int) ^ 8000) = ((2 ^ 8000 : Nat) : Int) := by rw [Int.natCast_pow]; rfl
    rw [e, ← Int.natCast_mul]
    exact Int.ofNat_lt.mpr q2
  have d1 := div_big (i := ((fct (b + h + d) : Nat) : Int)) (st := st) hpos hlt
  have s1 := shl_big (j := b + h) (st := st) (ways_lt (b := b) (h := h) (d := d) (by omega)) (by omega)
  have e2 : fOp gDiv (fCall d_factorial (fCons (fOp gAdd (fOp gAdd (fVar 7) (fVar 8)) (fVar 2)) fNil)) (fOp gMulA (fCall d_factorial (fCons (fVar 7) fNil)) (fCall d_factorial (fCons (fVar 8) fNil))) [some (tw row), some (tw other), some (iD d), some (.p (.int acc)), some (iD b), some (iD p.2), x6, some (iD b), some (iD h)] st = .ok (.p (.int (((fct (b + h + d) : Nat) : Int) / (((fct b : Nat) : Int) * ((fct h : Nat) : Int))))) st := by
    simp only [ev_op, ev_call, ev_cons, ev_var, List.getElem?_cons_succ, List.getElem?_cons_zero, bind_ok, ev_nil, add_nat, toR_some, f1, f2, f3, m1, d1]
  rw [ev_seq, ev_asg, e2, st_ok, tg_nm, toE_some]
  simp only [List.set_cons_succ, List.set_cons_zero]
  have e3 : gAddI (.p (.int acc)) (.p (.int (wy b h d))) st = some (.p (.int (acc + wy b h d))) := rfl
  rw [ev_aug]
  simp only [List.getElem?_cons_succ, List.getElem?_cons_zero, ev_op, ev_var, bind_ok, add_nat, toR_some, s1, st_ok]
  have e4 : ((fct (b + h + d) : Nat) : Int) / (((fct b : Nat) : Int) * ((fct h : Nat) : Int)) * 2 ^ (b + h) = wy b h d := rfl
  rw [e4, e3]
  rfl
theorem loop_R (row other : List Str) (d : Nat) (st : So) (h3 : other.length ≤ 20) (h4 : d ≤ 20) : ∀ (ps : List (Nat × Nat)) (acc : Int) (x4 x5 x6 x7 x8 : Option Dv), (∀ p ∈ ps, p.1 ≤ 20 ∧ p.2 ≤ other.length) →
    ∃ y4 y5 y6 y7 y8, sForL (.tp [.nm 4, .nm 5]) bodyR (ps.map fun p => Dv.p (pD p)) [some (tw row), some (tw other), some (iD d), some (.p (.int acc)), x4, x5, x6, x7, x8] st = .nx [some (tw row), some (tw other), some (iD d), some (.p (.int ((ps.map fun p => wy p.1 (other.length - p.2) d).foldl (· + ·) acc))), y4, y5, y6, y7, y8] st
  | [], acc, x4, x5, x6, x7, x8, _ => ⟨x4, x5, x6, x7, x8, rfl⟩
  | p :: ps, acc, x4, x5, x6, x7, x8, hp => by
    obtain ⟨q1, q2⟩ := hp p List.mem_cons_self
    obtain ⟨y4, y5, y6, y7, y8, ih⟩ := loop_R row other d st h3 h4 ps (acc + wy p.1 (other.length - p.2) d) (some (iD p.1)) (some (iD p.2)) (some (.p (.int (((fct (p.1 + (other.length - p.2) + d) : Nat) : Int) / (((fct p.1 : Nat) : Int) * ((fct (other.length - p.2) : Nat) : Int)))))) (some (iD p.1)) (some (iD (other.length - p.2))) (fun q hq => hp q (List.mem_cons_of_mem _ hq))
    refine ⟨y4, y5, y6, y7, y8, ?_⟩
    have tg : tgF (.tp [.nm 4, .nm 5]) (.p (pD p)) [some (tw row), some (tw other), some (iD d), some (.p (.int acc)), x4, x5, x6, x7, x8] = some [some (tw row), some (tw other), some (iD d), some (.p (.int acc)), some (iD p.1), some (iD p.2), x6, x7, x8] := by simp [pD]
    rw [List.map_cons, forL_cons, tg, toE_some, body_R row other d acc p x6 x7 x8 st q1 q2 h3 h4]
    exact ih
theorem routes_eq (row other : List Str) (st : So) (hr : Row row) (ho : Row other) (hF : Flat st) : d_routes [tw row, tw other] st = .ok (.p (.int (tot other.length (drp row other).length (sts row other)))) st := by
  refine runD_pure0 ?_
  show m_routes [some (tw row), some (tw other), none, none, none, none, none, none, none] st = _
  unfold m_routes
  have a1 : fCons (fVar 0) fNil [some (tw row), some (tw other), none, none, none, none, none, none, none] st = .ok [tw row] st := by simp
  have a2 : fCons (fVar 1) fNil [some (tw row), some (tw other), none, none, none, none, none, none, none] st = .ok [tw other] st := by simp
  have a : fCons (fVar 0) (fCons (fVar 1) fNil) [some (tw row), some (tw other), none, none, none, none, none, none, none] st = .ok [tw row, tw other] st := by simp
  have dl := drp_len row other
  have hrl := hr.2.2
  have hol := ho.2.2
  rw [ev_seq, ev_drop, ev_call, a1, bind_ok, check_row_ok row st hr, st_ok]
  dsimp only
  rw [ev_seq, ev_drop, ev_call, a2, bind_ok, check_row_ok other st ho, st_ok]
  dsimp only
  have e1 : fCons (fCB gLen (fCons (fCall d_dropped_of (fCons (fVar 0) (fCons (fVar 1) fNil))) fNil)) (fCons (fC (.int 0)) fNil) [some (tw row), some (tw other), none, none, none, none, none, none, none] st = .ok [iD (drp row other).length, .p (.int 0)] st := by
    rw [ev_cons, ev_cb, ev_cons, ev_call, a, bind_ok, dropped_eq row other st hr.2.2]
    simp only [bind_ok, ev_nil, gLen_lw, toR_some, ev_cons, ev_c]
  rw [ev_seq, ev_par, e1, st_ok]
  simp only [List.set_cons_succ, List.set_cons_zero]
  have e2 : fCall d_stretches_of (fCons (fVar 0) (fCons (fVar 1) fNil)) [some (tw row), some (tw other), some (iD (drp row other).length), some (.p (.int 0)), none, none, none, none, none] st = .ok (pl (sts row other)) st := by
    have a3 : fCons (fVar 0) (fCons (fVar 1) fNil) [some (tw row), some (tw other), some (iD (drp row other).length), some (.p (.int 0)), none, none, none, none, none] st = .ok [tw row, tw other] st := by simp
    rw [ev_call, a3, bind_ok, stretches_eq row other st hr hol hF]
  obtain ⟨y4, y5, y6, y7, y8, hl⟩ := loop_R row other (drp row other).length st hol (by omega) (sts row other) 0 none none none none none (fun p hp => by
    obtain ⟨q1, q2, _⟩ := sts_in hp
    have := (goE_le (row := row) (other.length + 1) p.1 (-1) q1).2
    exact ⟨by omega, by rw [q2]; exact this⟩)
  unfold bodyR at hl
  rw [ev_seq, ev_forV e2 (items_pl _ st), hl]
  rfl
end FB.K52
set_option Elab.async false
set_option linter.all false
set_option maxRecDepth 100000
set_option maxHeartbeats 4000000
namespace FB.K52
open PySem PySem.Spec PyProof.Rows L2 RZ FB
abbrev zD (i : Int) : Dv := .p (.int i)
theorem mulA_r {i j : Int} {st : So} (h : j.natAbs < 2 ^ 64) : gMulA (zD i) (zD j) st = some (zD (i * j)) := by
  show (if decide (i.natAbs < 2 ^ 64) || decide (j.natAbs < 2 ^ 64) then some (Dv.p (.int (i * j))) else if decide (i.natAbs < 2 ^ 4000) && decide (j.natAbs < 2 ^ 4000) then some (Dv.p (.int (i * j))) else none) = _
  rw [decide_eq_true h, Bool.or_true, if_pos rfl]
theorem mulA_w {i j : Int} {st : So} (h1 : i.natAbs < 2 ^ 4000) (h2 : j.natAbs < 2 ^ 4000) : gMulA (zD i) (zD j) st = some (zD (i * j)) := by
  show (if decide (i.natAbs < 2 ^ 64) || decide (j.natAbs < 2 ^ 64) then some (Dv.p (.int (i * j))) else if decide (i.natAbs < 2 ^ 4000) && decide (j.natAbs < 2 ^ 4000) then some (Dv.p (.int (i * j))) else none) = _
  rw [decide_eq_true h1, decide_eq_true h2]
  split <;> rfl
theorem mod_z {i j : Int} {st : So} (h : 0 < j) : gMod (zD i) (zD j) st = some (zD (i % j)) := by
  show (if decide (0 < j) then some (Dv.p (.int (i % j))) else none) = _
  rw [decide_eq_true h, if_pos rfl]
theorem add_z {i j : Int} {st : So} : gAdd (zD i) (zD j) st = some (zD (i + j)) := rfl
theorem sub_z {i j : Int} {st : So} : gSub (zD i) (zD j) st = some (zD (i - j)) := rfl
theorem int_z {i : Int} {st : So} : gInt [zD i] st = some (zD i) := rfl
theorem lt_z {i j : Int} {st : So} : gLt (zD i) (zD j) st = some (.p (.bool (decide (i < j)))) := rfl
theorem ge_z {i j : Int} {st : So} : gGe (zD i) (zD j) st = some (.p (.bool (decide (j ≤ i)))) := rfl
theorem gt_z {i j : Int} {st : So} : gGt (zD i) (zD j) st = some (.p (.bool (decide (j < i)))) := rfl
theorem pow_z {i : Int} {j : Nat} {st : So} (h : i.natAbs < 2 ^ 64) (hj : j ≤ 1000) : gPow (zD i) (zD (j : Int)) st = some (zD (i ^ j)) := by
  show (if decide (0 ≤ (j : Int)) && decide ((j : Int) ≤ 1000000) && decide (i.natAbs < 2 ^ 64) then some (Dv.p (.int (i ^ (j : Int).toNat))) else none) = _
  rw [decide_eq_true (by omega), decide_eq_true (by omega), decide_eq_true h, Int.toNat_natCast]; rfl
theorem mod_small {i j : Int} (h : 0 < j) (hj : j < 2 ^ 32) : (i % j).natAbs < 2 ^ 64 := by
  have h1 := Int.emod_nonneg i (show j ≠ 0 by omega)
  have h2 := Int.emod_lt_of_pos i h
  omega
theorem mixed_ok (c k : Int) (st : So) : ∃ v, d__law_mixed [zD c, zD k] st = .ok (zD v) st := by
  have key : ∃ v, m__law_mixed [some (zD c), some (zD k), none] st = .ret (zD v) st := by
    unfold m__law_mixed
    have e1 : fOp gMod (fCB gInt (fCons (fOp gAdd (fOp gAdd (fOp gMulA (fOp gMod (fCB gInt (fCons (fVar 0) (fNil))) (fC (.int 2147483647))) (fC (.int 48271))) (fOp gMulA (fVar 1) (fC (.int 69621)))) (fC (.int 1048583))) (fNil))) (fC (.int 2147483629)) [some (zD c), some (zD k), none] st = .ok (zD ((c % 2147483647 * 48271 + k * 69621 + 1048583) % 2147483629)) st := by
      have a1 := mod_z (i := c) (j := 2147483647) (st := st) (by decide)
      have a2 := mulA_r (i := c % 2147483647) (j := 48271) (st := st) (by decide)
      have a3 := mulA_r (i := k) (j := 69621) (st := st) (by decide)
      have a4 := mod_z (i := c % 2147483647 * 48271 + k * 69621 + 1048583) (j := 2147483629) (st := st) (by decide)
      simp only [ev_op, ev_cb, ev_cons, ev_var, List.getElem?_cons_succ, List.getElem?_cons_zero, bind_ok, ev_nil, int_z, toR_some, ev_c, a1, a2, a3, add_z, a4]
    generalize hx : (c % 2147483647 * 48271 + k * 69621 + 1048583) % 2147483629 = x at e1
    have e2 : fOp gMod (fCB gInt (fCons (fOp gMulA (fVar 2) (fVar 2)) (fNil))) (fC (.int 2147483587)) [some (zD c), some (zD k), some (zD x)] st = .ok (zD (x * x % 2147483587)) st := by
      have a1 := mulA_r (i := x) (j := x) (st := st) (by rw [← hx]; exact mod_small (by decide) (by decide))
      have a2 := mod_z (i := x * x) (j := 2147483587) (st := st) (by decide)
      simp only [ev_op, ev_cb, ev_cons, ev_var, List.getElem?_cons_succ, List.getElem?_cons_zero, bind_ok, ev_nil, int_z, toR_some, ev_c, a1, a2]
    generalize hy : x * x % 2147483587 = y at e2
    have e3 : fOp gMod (fCB gInt (fCons (fOp gMulA (fVar 2) (fOp gAdd (fVar 2) (fC (.int 2)))) (fNil))) (fC (.int 2147483579)) [some (zD c), some (zD k), some (zD y)] st = .ok (zD (y * (y + 2) % 2147483579)) st := by
      have hb : y.natAbs < 2 ^ 32 := by
        have h1 := Int.emod_nonneg (x * x) (show (2147483587 : Int) ≠ 0 by decide)
        have h2 := Int.emod_lt_of_pos (x * x) (show (0 : Int) < 2147483587 by decide)
        omega
      have a1 := mulA_r (i := y) (j := y + 2) (st := st) (by omega)
      have a2 := mod_z (i := y * (y + 2)) (j := 2147483579) (st := st) (by decide)
      simp only [ev_op, ev_cb, ev_cons, ev_var, List.getElem?_cons_succ, List.getElem?_cons_zero, bind_ok, ev_nil, int_z, toR_some, ev_c, add_z, a1, a2]
    refine ⟨y * (y + 2) % 2147483579, ?_⟩
    rw [ev_seq, ev_asg, e1, st_ok, tg_nm, toE_some]
    simp only [List.set_cons_succ, List.set_cons_zero]
    rw [ev_seq, ev_asg, e2, st_ok, tg_nm, toE_some]
    simp only [List.set_cons_succ, List.set_cons_zero]
    rw [ev_ret, e3, st_ok]
  obtain ⟨v, hv⟩ := key
  exact ⟨v, runD_pure0 hv⟩
/-! ### the drawn numbers -/
def own (n : Int) : Cl := .lst [zD n]
def SS (st : So) (o : Nat) (n : Int) (rest : So) : So := st.set o (own n) ++ rest
theorem SS_at {st : So} {o : Nat} {n : Int} {rest : So} (h : o < st.length) : (SS st o n rest)[o]? = some (own n) := by
  unfold SS
  rw [List.getElem?_append_left (by rw [List.length_set]; exact h), List.getElem?_set_self h]
theorem SS_set {st : So} {o : Nat} {n m : Int} {rest : So} (h : o < st.length) : (SS st o n rest).set o (own m) = SS st o m rest := by
  unfold SS
  rw [List.set_append_left _ _ (by rw [List.length_set]; exact h), List.set_set]
theorem SS_len {st : So} {o : Nat} {n : Int} {rest : So} : (SS st o n rest).length = st.length + rest.length := by
  unfold SS; rw [List.length_append, List.length_set]
theorem take_ok {s : So} {o : Nat} {n k : Int} (h : s[o]? = some (own n)) (hk : 0 < k) (hk2 : k < 2 ^ 32) : d__law_take [.ref o, zD k] s = .ok (zD (n % k)) (s.set o (own (n / k))) := by
  have i0 : ∀ s' : So, s'[o]? = some (own n) → gIxA (.ref o) (.p (.int 0)) s' = some (zD n) := fun s' h' => by
    have d0 : dictOf (.ref o) s' = none := by unfold dictOf; dsimp only; rw [h']; rfl
    unfold gIxA
    rw [d0]
    show (match seqOf (.ref o) s' with | some xs => atI xs 0 | none => none) = _
    have : seqOf (.ref o) s' = some [zD n] := by
      show (match tupOf (.ref o) with | some xs => some xs | none => lstOf (.ref o) s') = _
      show lstOf (.ref o) s' = _
      unfold lstOf
      dsimp only
      rw [h']; rfl
    rw [this]
    rfl
  have e1 := i0 s h
  have a1 := mod_z (i := n) (j := k) (st := s) hk
  have a2 := div_big (i := n) (j := k) (st := s) hk (by
    have q : (2 : Int) ^ 32 ≤ 2 ^ 8000 := by
      have : ((2 ^ 32 : Nat) : Int) ≤ ((2 ^ 8000 : Nat) : Int) := Int.ofNat_le.mpr (Nat.pow_le_pow_right (by decide) (by decide))
      simpa [Int.natCast_pow] using this
    omega)
  have key : m__law_take [some (.ref o), some (zD k), none] s = .ret (zD (n % k)) (s.set o (own (n / k))) := by
    unfold m__law_take
    have s1 : fOp gMod (fCB gInt (fCons (fOp gIxA (fVar 0) (fC (.int 0))) fNil)) (fVar 1) [some (.ref o), some (zD k), none] s = .ok (zD (n % k)) s := by
      simp only [ev_op, ev_cb, ev_cons, ev_var, List.getElem?_cons_succ, List.getElem?_cons_zero, bind_ok, ev_nil, ev_c, e1, toR_some, int_z, a1]
    have s2 : fOp gDiv (fOp gIxA (fVar 0) (fC (.int 0))) (fVar 1) [some (.ref o), some (zD k), some (zD (n % k))] s = .ok (zD (n / k)) s := by
      simp only [ev_op, ev_var, List.getElem?_cons_succ, List.getElem?_cons_zero, bind_ok, ev_c, e1, toR_some, a2]
    have s3 : sSet (fOp gDiv (fOp gIxA (fVar 0) (fC (.int 0))) (fVar 1)) (fVar 0) (fC (.int 0)) [some (.ref o), some (zD k), some (zD (n % k))] s = .nx [some (.ref o), some (zD k), some (zD (n % k))] (s.set o (own (n / k))) := by
      unfold sSet tgSet
      rw [s2, st_ok]
      simp only [ev_var, List.getElem?_cons_zero, bind_ok, ev_c]
      have c : cellL (.ref o) s = some (o, [zD n]) := by
        unfold cellL
        dsimp only
        rw [h]; rfl
      rw [c]
      rfl
    rw [ev_seq, ev_asg, s1, st_ok, tg_nm, toE_some]
    simp only [List.set_cons_succ, List.set_cons_zero]
    rw [ev_seq, s3]
    dsimp only
    rw [ev_ret]
    simp only [ev_var, List.getElem?_cons_succ, List.getElem?_cons_zero, st_ok]
  show runD 3 m__law_take [.ref o, zD k] s = _
  rw [runD_ret (N := 3) (args := [.ref o, zD k]) key, trim_same (by rw [List.length_set])]
theorem take_SS {st : So} {o : Nat} {n k : Int} {rest : So} (h : o < st.length) (hk : 0 < k) (hk2 : k < 2 ^ 32) : d__law_take [.ref o, zD k] (SS st o n rest) = .ok (zD (n % k)) (SS st o (n / k) rest) := by
  rw [take_ok (SS_at h) hk hk2, SS_set h]
end FB.K52
set_option Elab.async false
set_option linter.all false
set_option maxRecDepth 100000
set_option maxHeartbeats 4000000
namespace FB.K52
open PySem PySem.Spec PyProof.Rows L2 RZ FB
def bodyC : FS := sAsg (fOp gAdd (fOp gMulA (fVar 3) (fC (.int 2147483579))) (fCall d__law_mixed (fCons (fVar 2) (fCons (fOp gAdd (fOp gAdd (fOp gMulA (fC (.int 7)) (fVar 1)) (fOp gMulA (fC (.int 100)) (fVar 4))) (fOp gMulA (fVar 4) (fVar 4))) (fNil))))) (.nm 3)
theorem cell_loop (a : Option Dv) (k c : Int) (st : So) : ∀ (xs : List Int) (f : Int) (x4 : Option Dv), (∀ x ∈ xs, x.natAbs < 2 ^ 32) → k.natAbs < 2 ^ 32 → ∃ v y4, sForL (.nm 4) bodyC (xs.map fun x => zD x) [a, some (zD k), some (zD c), some (zD f), x4] st = .nx [a, some (zD k), some (zD c), some (zD v), y4] st
  | [], f, x4, _, _ => ⟨f, x4, rfl⟩
  | x :: xs, f, x4, hx, hk => by
    have hx0 := hx x List.mem_cons_self
    obtain ⟨m, hm⟩ := mixed_ok c (7 * k + 100 * x + x * x) st
    have a1 := mulA_r (i := f) (j := 2147483579) (st := st) (by decide)
    have a2 := mulA_r (i := 7) (j := k) (st := st) (by omega)
    have a3 := mulA_r (i := 100) (j := x) (st := st) (by omega)
    have a4 := mulA_r (i := x) (j := x) (st := st) (by omega)
    have e : bodyC [a, some (zD k), some (zD c), some (zD f), some (zD x)] st = .nx [a, some (zD k), some (zD c), some (zD (f * 2147483579 + m)), some (zD x)] st := by
      unfold bodyC
      have e1 : fCall d__law_mixed (fCons (fVar 2) (fCons (fOp gAdd (fOp gAdd (fOp gMulA (fC (.int 7)) (fVar 1)) (fOp gMulA (fC (.int 100)) (fVar 4))) (fOp gMulA (fVar 4) (fVar 4))) (fNil))) [a, some (zD k), some (zD c), some (zD f), some (zD x)] st = .ok (zD m) st := by
        simp only [ev_call, ev_op, ev_cons, ev_var, List.getElem?_cons_succ, List.getElem?_cons_zero, bind_ok, ev_nil, ev_c, a2, a3, a4, toR_some, add_z, hm]
      rw [ev_asg, ev_op, ev_op]
      simp only [ev_var, List.getElem?_cons_succ, List.getElem?_cons_zero, bind_ok, ev_c, a1, toR_some, e1, add_z, st_ok, tg_nm, toE_some, List.set_cons_succ, List.set_cons_zero]
    obtain ⟨v, y4, ih⟩ := cell_loop a k c st xs (f * 2147483579 + m) (some (zD x)) (fun y hy => hx y (List.mem_cons_of_mem _ hy)) hk
    refine ⟨v, y4, ?_⟩
    rw [List.map_cons, forL_cons, tg_nm, toE_some]
    simp only [List.set_cons_succ, List.set_cons_zero, e]
    exact ih
theorem big60 : ((10 : Int) ^ 60).natAbs < 2 ^ 4000 := by decide +kernel
theorem big120 : ((10 : Int) ^ 60 * 10 ^ 60).natAbs < 2 ^ 4000 := by decide +kernel
theorem big180 : ((10 : Int) ^ 60 * 10 ^ 60 * 10 ^ 60).natAbs < 2 ^ 4000 := by decide +kernel
theorem pos240 : (0 : Int) < (10 : Int) ^ 60 * 10 ^ 60 * 10 ^ 60 * 10 ^ 60 := by decide +kernel
theorem frz_seq (ns : List Int) (st : So) : seqOf (.frz ns) st = some (ns.map fun n => zD n) := rfl
theorem frz_len (ns : List Int) (st : So) : gLen [.frz ns] st = some (zD ns.length) := by
  show (seqOf (.frz ns) st).map (fun ys => Dv.p (.int ys.length)) = _
  rw [frz_seq]; simp
theorem frz_at (ns : List Int) (k : Nat) (st : So) (h : k < ns.length) : gIxA (.frz ns) (zD k) st = some (zD ns[k]) := by
  show (match seqOf (.frz ns) st with | some xs => atI xs k | none => none) = _
  rw [frz_seq]
  show atI (ns.map fun n => zD n) k = _
  unfold atI ixN
  rw [List.length_map, if_pos (by omega), if_pos (by omega)]
  show (ns.map fun n => zD n)[(k : Int).toNat]? = _
  rw [Int.toNat_natCast, List.getElem?_map, List.getElem?_eq_getElem h]; rfl
theorem cell_ok (ns : List Int) (k : Nat) (st : So) (hk : k < 1000) : ∃ v, d__law_cell [.frz ns, zD k] st = .ok (zD v) st := by
  have tail : ∀ c : Int, ∃ v, sSeq (sIf (fTB (fOp gGe (fVar 2) (fOp gPow (fC (.int 10)) (fC (.int 18))))) (sRet (fOp gMod (fCB gInt (fCons (fOp gSub (fVar 2) (fOp gPow (fC (.int 10)) (fC (.int 18)))) (fNil))) (fOp gMulA (fOp gMulA (fOp gMulA (fOp gPow (fC (.int 10)) (fC (.int 60))) (fOp gPow (fC (.int 10)) (fC (.int 60)))) (fOp gPow (fC (.int 10)) (fC (.int 60)))) (fOp gPow (fC (.int 10)) (fC (.int 60)))))) (sNext)) (sSeq (sAsg (fC (.int 0)) (.nm 3)) (sSeq (sFor (fRng rng1 (fCons (fC (.int 24)) (fNil))) (.nm 4) bodyC) (sRet (fVar 3)))) [some (.frz ns), some (zD k), some (zD c), none, none] st = .ret (zD v) st := fun c => by
    have p18 := pow_z (i := 10) (j := 18) (st := st) (by decide) (by decide)
    have p60 := pow_z (i := 10) (j := 60) (st := st) (by decide) (by decide)
    have t1 : fTB (fOp gGe (fVar 2) (fOp gPow (fC (.int 10)) (fC (.int 18)))) [some (.frz ns), some (zD k), some (zD c), none, none] st = .ok (decide ((10 : Int) ^ 18 ≤ c)) st := by
      have p18' : gPow (.p (.int 10)) (.p (.int 18)) st = some (zD (10 ^ 18)) := p18
      simp only [ev_tb, ev_op, ev_var, List.getElem?_cons_succ, List.getElem?_cons_zero, bind_ok, ev_c, p18', toR_some, ge_z, ev_asB]
    by_cases hc : (10 : Int) ^ 18 ≤ c
    · refine ⟨(c - 10 ^ 18) % ((10 : Int) ^ 60 * 10 ^ 60 * 10 ^ 60 * 10 ^ 60), ?_⟩
      have p18' : gPow (.p (.int 10)) (.p (.int 18)) st = some (zD (10 ^ 18)) := p18
      have p60' : gPow (.p (.int 10)) (.p (.int 60)) st = some (zD (10 ^ 60)) := p60
      have m1 := mulA_w (st := st) big60 big60
      have m2 := mulA_w (st := st) big120 big60
      have m3 := mulA_w (st := st) big180 big60
      have m4 := mod_z (i := c - 10 ^ 18) (st := st) pos240
      have t2 : fOp gMod (fCB gInt (fCons (fOp gSub (fVar 2) (fOp gPow (fC (.int 10)) (fC (.int 18)))) (fNil))) (fOp gMulA (fOp gMulA (fOp gMulA (fOp gPow (fC (.int 10)) (fC (.int 60))) (fOp gPow (fC (.int 10)) (fC (.int 60)))) (fOp gPow (fC (.int 10)) (fC (.int 60)))) (fOp gPow (fC (.int 10)) (fC (.int 60)))) [some (.frz ns), some (zD k), some (zD c), none, none] st = .ok (zD ((c - 10 ^ 18) % ((10 : Int) ^ 60 * 10 ^ 60 * 10 ^ 60 * 10 ^ 60))) st := by
        simp only [ev_op, ev_cb, ev_cons, ev_var, List.getElem?_cons_succ, List.getElem?_cons_zero, bind_ok, ev_nil, ev_c, p18', p60', toR_some, sub_z, int_z, m1, m2, m3, m4]
      rw [ev_seq, ev_sif, t1, st_ok, decide_eq_true hc, if_pos rfl, ev_ret, t2, st_ok]
    · have hr : fRng rng1 (fCons (fC (.int 24)) fNil) [some (.frz ns), some (zD k), some (zD c), some (zD 0), none] st = .ok (((List.range 24).map fun (j : Nat) => (j : Int)).map fun x => zD x) st := by
        rw [ev_rng, ev_cons, ev_c, bind_ok, ev_nil, bind_ok, bind_ok, rng_pure (okR_small (by decide) (by decide))]
        show Rs.ok (rngL 0 24) st = _
        rw [rngL_zero, List.map_map]; rfl
      obtain ⟨v, y4, hl⟩ := cell_loop (some (.frz ns)) k c st ((List.range 24).map fun (j : Nat) => (j : Int)) 0 none (fun x hx => by
        obtain ⟨j, hj, rfl⟩ := List.mem_map.mp hx
        have := List.mem_range.mp hj
        omega) (by omega)
      refine ⟨v, ?_⟩
      rw [ev_seq, ev_sif, t1, st_ok, decide_eq_false hc, if_neg Bool.false_ne_true, ev_next]
      dsimp only
      rw [ev_seq, ev_asg, ev_c, st_ok, tg_nm, toE_some]
      simp only [List.set_cons_succ, List.set_cons_zero]
      rw [ev_seq, ev_for, hr, st_ok, hl]
      dsimp only
      rw [ev_ret]
      simp only [ev_var, List.getElem?_cons_succ, List.getElem?_cons_zero, st_ok]
  have t0 : fTB (fOp gLt (fVar 1) (fCB gLen (fCons (fVar 0) fNil))) [some (.frz ns), some (zD k), some (zD 0), none, none] st = .ok (decide ((k : Int) < ns.length)) st := by
    simp only [ev_tb, ev_op, ev_cb, ev_cons, ev_var, List.getElem?_cons_succ, List.getElem?_cons_zero, bind_ok, ev_nil, frz_len, toR_some, lt_z, ev_asB]
  have key : ∃ v, m__law_cell [some (.frz ns), some (zD k), none, none, none] st = .ret (zD v) st := by
    unfold m__law_cell
    by_cases h : k < ns.length
    · obtain ⟨v, hv⟩ := tail ns[k]
      refine ⟨v, ?_⟩
      unfold bodyC at hv
      rw [ev_seq, ev_asg, ev_c, st_ok, tg_nm, toE_some]
      simp only [List.set_cons_succ, List.set_cons_zero]
      rw [ev_seq, ev_sif, t0, st_ok, decide_eq_true (by omega), if_pos rfl, ev_asg, ev_op]
      simp only [ev_var, List.getElem?_cons_succ, List.getElem?_cons_zero, bind_ok, frz_at ns k st h, toR_some, st_ok, tg_nm, toE_some, List.set_cons_succ, List.set_cons_zero]
      exact hv
    · obtain ⟨v, hv⟩ := tail 0
      refine ⟨v, ?_⟩
      unfold bodyC at hv
      rw [ev_seq, ev_asg, ev_c, st_ok, tg_nm, toE_some]
      simp only [List.set_cons_succ, List.set_cons_zero]
      rw [ev_seq, ev_sif, t0, st_ok, decide_eq_false (by omega), if_neg Bool.false_ne_true, ev_next]
      exact hv
  obtain ⟨v, hv⟩ := key
  exact ⟨v, runD_pure0 hv⟩
end FB.K52
set_option Elab.async false
set_option linter.all false
set_option maxRecDepth 100000
set_option maxHeartbeats 4000000
/-! PL1: steps by small lemmas. -/
namespace FB
open PySem PySem.Spec PyProof.Rows L2 RZ
theorem seq_to {ga gb : FS} {ρ ρ' : Sl} {st st' : So} (h : ga ρ st = .nx ρ' st') : sSeq ga gb ρ st = gb ρ' st' := by rw [ev_seq, h]
theorem asg_to {fa : FE} {i : Nat} {ρ ρ' : Sl} {st st' : So} {d : Dv} (h : fa ρ st = .ok d st') (e : ρ.set i (some d) = ρ') : sAsg fa (.nm i) ρ st = .nx ρ' st' := by rw [ev_asg, h, st_ok, tg_nm, toE_some, e]
theorem par_to {fr : FA} {i j : Nat} {ρ ρ' : Sl} {st st' : So} {x y : Dv} (h : fr ρ st = .ok [x, y] st') (e : (ρ.set i (some x)).set j (some y) = ρ') : sPar i j fr ρ st = .nx ρ' st' := by rw [ev_par, h, st_ok]; exact congrArg (fun r => Ss.nx r st') e
theorem if_to {t : FT} {ga gb : FS} {ρ : Sl} {st st' : So} (h : t ρ st = .ok false st') : sIf t ga gb ρ st = gb ρ st' := by rw [ev_sif, h, st_ok, if_neg Bool.false_ne_true]
theorem if_next {t : FT} {ga : FS} {ρ : Sl} {st st' : So} (h : t ρ st = .ok false st') : sIf t ga sNext ρ st = .nx ρ st' := by rw [if_to h]; rfl
theorem or_ff {t u : FT} {ρ : Sl} {st st' st2 : So} (h : t ρ st = .ok false st') (h2 : u ρ st' = .ok false st2) : fTOr t u ρ st = .ok false st2 := by rw [ev_tor, h, bind_ok, if_neg Bool.false_ne_true, h2]
theorem not_t {t : FT} {ρ : Sl} {st st' : So} (h : t ρ st = .ok true st') : fTNot t ρ st = .ok false st' := by rw [ev_tnot, h, bind_ok]; rfl
theorem tb_ok {fa : FE} {ρ : Sl} {st st' : So} {b : Bool} (h : fa ρ st = .ok (.p (.bool b)) st') : fTB fa ρ st = .ok b st' := by rw [ev_tb, h, bind_ok, ev_asB]
theorem op_ok {g : G2} {fa fb : FE} {ρ : Sl} {st st1 st2 : So} {x y z : Dv} (h1 : fa ρ st = .ok x st1) (h2 : fb ρ st1 = .ok y st2) (h3 : g x y st2 = some z) : fOp g fa fb ρ st = .ok z st2 := by rw [ev_op, h1, bind_ok, h2, bind_ok, h3, toR_some]
theorem call_ok {F : FD} {fr : FA} {ρ : Sl} {st st1 st2 : So} {xs : List Dv} {z : Dv} (h1 : fr ρ st = .ok xs st1) (h2 : F xs st1 = .ok z st2) : fCall F fr ρ st = .ok z st2 := by rw [ev_call, h1, bind_ok, h2]
theorem cb_ok {g : GA} {fr : FA} {ρ : Sl} {st st1 : So} {xs : List Dv} {z : Dv} (h1 : fr ρ st = .ok xs st1) (h2 : g xs st1 = some z) : fCB g fr ρ st = .ok z st1 := by rw [ev_cb, h1, bind_ok, h2, toR_some]
theorem var_ok {i : Nat} {ρ : Sl} {st : So} {d : Dv} (h : ρ[i]? = some (some d)) : fVar i ρ st = .ok d st := by rw [ev_var, h]
theorem cons_ok {fa : FE} {fr : FA} {ρ : Sl} {st st1 st2 : So} {x : Dv} {xs : List Dv} (h1 : fa ρ st = .ok x st1) (h2 : fr ρ st1 = .ok xs st2) : fCons fa fr ρ st = .ok (x :: xs) st2 := by rw [ev_cons, h1, bind_ok, h2, bind_ok]
theorem nil_ok {ρ : Sl} {st : So} : fNil ρ st = .ok [] st := (rfl)
theorem c_ok {d : PyData} {ρ : Sl} {st : So} : fC d ρ st = .ok (.p d) st := (rfl)
theorem isT_ok {T n : String} {fa : FE} {ρ : Sl} {st st1 : So} {d : Dv} {b : Bool} (h1 : fa ρ st = .ok d st1) (h2 : tyOf d st1 = some n) (h3 : kitB n T = some b) : fIsT T fa ρ st = .ok (.p (.bool b)) st1 := by
  rw [ev_isT, h1, bind_ok, h2]
  show (match kitB n T with | some b => Rs.ok (Dv.p (.bool b)) st1 | none => .stuck) = _
  rw [h3]
theorem asgT_to {fa : FE} {tg : Tg} {ρ ρ' : Sl} {st st' : So} {d : Dv} (h : fa ρ st = .ok d st') (e : tgF tg d ρ = some ρ') : sAsg fa tg ρ st = .nx ρ' st' := by rw [ev_asg, h, st_ok, e, toE_some]
theorem drop_to {fa : FE} {ρ : Sl} {st st' : So} {d : Dv} (h : fa ρ st = .ok d st') : sDrop fa ρ st = .nx ρ st' := by rw [ev_drop, h, st_ok]
theorem ret_to {fa : FE} {ρ : Sl} {st st' : So} {d : Dv} (h : fa ρ st = .ok d st') : sRet fa ρ st = .ret d st' := by rw [ev_ret, h, st_ok]
theorem mth_ok {g : GM} {fo : FE} {fr : FA} {ρ : Sl} {st st1 st2 st3 : So} {x z : Dv} {xs : List Dv} (h1 : fo ρ st = .ok x st1) (hl : isLst x st1 = true) (h2 : fr ρ st1 = .ok xs st2) (h3 : g x xs st2 = some (z, st3)) : fMth g fo fr ρ st = .ok z st3 := by
  rw [ev_mth, h1, bind_ok, hl, if_pos rfl, h2, bind_ok, h3, toM_some]
theorem and_t {fa fb : FE} {ρ : Sl} {st st1 st2 : So} {z : Dv} (h1 : fa ρ st = .ok (.p (.bool true)) st1) (h2 : fb ρ st1 = .ok z st2) : fAnd fa fb ρ st = .ok z st2 := by rw [ev_and, tb_ok h1, bind_ok, if_pos rfl, h2]
theorem notE_ok {fa : FE} {ρ : Sl} {st st1 : So} {b : Bool} (h1 : fa ρ st = .ok (.p (.bool b)) st1) : fNot fa ρ st = .ok (.p (.bool (!b))) st1 := by rw [ev_not, tb_ok h1, bind_ok]
theorem if_true_to {t : FT} {ga gb : FS} {ρ : Sl} {st st' : So} (h : t ρ st = .ok true st') : sIf t ga gb ρ st = ga ρ st' := by rw [ev_sif, h, st_ok, if_pos rfl]
theorem seq_ret {ga gb : FS} {ρ : Sl} {st st' : So} {d : Dv} (h : ga ρ st = .ret d st') : sSeq ga gb ρ st = .ret d st' := by rw [ev_seq, h]
theorem pure_to {fr : FA} {ρ : Sl} {st st' : So} {xs : List Dv} (h : fr ρ st = .ok xs st') (hl : xs.length ≤ 100000) : fPure fr ρ st = .ok (mkL xs) st' := by
  rw [ev_pure, h, bind_ok, if_pos (show small xs = true from decide_eq_true hl)]
theorem cell_to {fr : FA} {ρ : Sl} {st st' : So} {xs : List Dv} (h : fr ρ st = .ok xs st') (hl : xs.length ≤ 100000) : fCell fr ρ st = .ok (.ref st'.length) (st' ++ [.lst xs]) := by
  rw [ev_cell, h, bind_ok, if_pos (show small xs = true from decide_eq_true hl)]
theorem disp_to {fr : FA} {ρ : Sl} {st st' : So} {xs : List Dv} (h : fr ρ st = .ok xs st') (hl : xs.length ≤ 100000) : (fun ρ st => (fr ρ st).bind fun xs st1 => if small xs then Rs.ok xs st1 else .stuck) ρ st = .ok xs st' := by
  show ((fr ρ st).bind fun xs st1 => if small xs then Rs.ok xs st1 else .stuck) = _
  rw [h, bind_ok, if_pos (show small xs = true from decide_eq_true hl)]
theorem tup_to {fr : FA} {ρ : Sl} {st st' : So} {xs : List Dv} (h : fr ρ st = .ok xs st') (hl : xs.length ≤ 100000) : fTup fr ρ st = .ok (mkT xs) st' := by
  rw [ev_tup, h, bind_ok, if_pos (show small xs = true from decide_eq_true hl)]
end FB
set_option Elab.async false
set_option linter.all false
set_option maxRecDepth 100000
set_option maxHeartbeats 4000000
namespace FB.K52
open PySem PySem.Spec PyProof.Rows L2 RZ FB
def CS (ws : List Str) : Cl := .lst (ws.map sD)
theorem SS_rest {st : So} {o j : Nat} {n : Int} {r : So} : (SS st o n r)[st.length + j]? = r[j]? := by
  unfold SS
  rw [List.getElem?_append_right (by rw [List.length_set]; omega), List.length_set, Nat.add_sub_cancel_left]
theorem SS_rset {st : So} {o j : Nat} {n : Int} {r : So} {c : Cl} : (SS st o n r).set (st.length + j) c = SS st o n (r.set j c) := by
  unfold SS
  rw [List.set_append_right _ _ (by rw [List.length_set]; omega), List.length_set, Nat.add_sub_cancel_left]
theorem isLst_CS {s : So} {c : Nat} {xs : List Dv} (h : s[c]? = some (.lst xs)) : isLst (.ref c) s = true := by
  unfold isLst
  show (seqOf (.ref c) s).isSome = true
  show (lstOf (.ref c) s).isSome = true
  unfold lstOf
  dsimp only
  rw [h]; rfl
theorem seq_ref {s : So} {c : Nat} {xs : List Dv} (h : s[c]? = some (.lst xs)) : seqOf (.ref c) s = some xs := by
  show lstOf (.ref c) s = _
  unfold lstOf
  dsimp only
  rw [h]
theorem cellL_at {s : So} {c : Nat} {xs : List Dv} (h : s[c]? = some (.lst xs)) : cellL (.ref c) s = some (c, xs) := by
  unfold cellL
  dsimp only
  rw [h]
theorem len_ref {s : So} {c : Nat} {ws : List Str} (h : s[c]? = some (CS ws)) : gLen [.ref c] s = some (zD ws.length) := by
  show (seqOf (.ref c) s).map (fun ys => Dv.p (.int ys.length)) = _
  rw [seq_ref h]; simp
theorem map_erase {α β : Type} (f : α → β) : ∀ (l : List α) (i : Nat), (l.map f).eraseIdx i = (l.eraseIdx i).map f
  | [], i => by simp
  | a :: l, 0 => rfl
  | a :: l, i + 1 => by
    have ih := map_erase f l i
    simp [ih]
theorem perm_erase {α : Type} : ∀ (l : List α) (i : Nat) (hi : i < l.length), (l[i] :: l.eraseIdx i).Perm l
  | [], i, hi => by simp at hi
  | a :: l, 0, hi => .refl _
  | a :: l, i + 1, hi => by
    have ih := perm_erase l i (by simpa using hi)
    exact (List.Perm.swap a _ _).trans (ih.cons a)
theorem pop_ok {s : So} {c : Nat} {ws : List Str} {i : Nat} (h : s[c]? = some (CS ws)) (hi : i < ws.length) (hl : ws.length ≤ 1000) : gPopAt (.ref c) [zD i] s = some (sD ws[i], s.set c (CS (ws.eraseIdx i))) := by
  unfold gPopAt
  rw [cellL_at h]
  dsimp only
  have e : ixN (ws.map sD).length (i : Int) = some i := by
    unfold ixN
    rw [List.length_map, if_pos (by omega), if_pos (by omega), Int.toNat_natCast]
  rw [e]
  dsimp only
  rw [List.getElem?_map, List.getElem?_eq_getElem hi]
  dsimp only [Option.map_some]
  rw [if_pos (by rw [List.length_map]; omega)]
  have e2 : (ws.map sD).eraseIdx i = (ws.eraseIdx i).map sD := map_erase sD ws i
  rw [e2]; rfl
theorem app_ok {s : So} {c : Nat} {ws : List Str} {w : Str} (h : s[c]? = some (CS ws)) (hl : ws.length ≤ 1000) : gAppend (.ref c) [sD w] s = some (.p .none, s.set c (CS (ws ++ [w]))) := by
  unfold gAppend
  rw [cellL_at h]
  dsimp only
  rw [if_pos (by rw [List.length_map]; omega)]
  unfold CS
  rw [List.map_append]; rfl
theorem ins_ok {s : So} {c : Nat} {ws : List Str} {w : Str} {i : Nat} (h : s[c]? = some (CS ws)) (hl : ws.length ≤ 1000) (hi : i ≤ 1000) : gInsert (.ref c) [zD i, sD w] s = some (.p .none, s.set c (CS (ws.take i ++ [w] ++ ws.drop i))) := by
  unfold gInsert
  rw [cellL_at h]
  dsimp only
  rw [if_pos ⟨by rw [List.length_map]; omega, by omega, by omega⟩, Int.toNat_natCast]
  unfold CS
  rw [List.map_append, List.map_append, List.map_take, List.map_drop]; rfl
/-- a drawn place -/
theorem draw {n : Int} {k : Nat} (hk : 0 < k) : ∃ i : Nat, n % (k : Int) = (i : Int) ∧ i < k := by
  have h1 := Int.emod_nonneg n (show (k : Int) ≠ 0 by omega)
  have h2 := Int.emod_lt_of_pos n (show (0 : Int) < k by omega)
  exact ⟨(n % k).toNat, by omega, by omega⟩
/-! ### second stirred -/
theorem let_lt : ∀ c ∈ LET.cps.toList, c < 0x110000 := by decide +kernel
theorem word_ok {w : Str} (h : isWord w = true) : PyData.strOk w = true := by
  unfold isWord at h
  simp only [Bool.and_eq_true] at h
  unfold PyData.strOk
  rw [← Array.all_toList]
  refine List.all_eq_true.mpr fun c hc => ?_
  exact decide_eq_true (let_lt c (of_decide_eq_true (List.all_eq_true.mp h.2 c hc)))
theorem eqvAll_nil : ∀ ws : List Str, PyData.eqvAll (ws.map PyData.str) [] = decide (ws = [])
  | [] => rfl
  | _ :: _ => rfl
theorem pures_s (ws : List Str) : pures (ws.map sD) = some (ws.map PyData.str) := by rw [← map_sD, pures_map]
theorem shaped_lw (a : List Str) (h : SOkL a) : SeqAt.shaped (.list (a.map PyData.str)) = true := by
  unfold SeqAt.shaped
  have h1 : PyData.canLay0 (.list (a.map PyData.str)) = true := by simpa [PyData.canLay0] using canAll_s a h
  have h2 := depthAll_s a
  have h3 : PyData.depth (.list (a.map PyData.str)) ≤ 64 := by simp [PyData.depth]; omega
  rw [h1, decide_eq_true h3]; rfl
theorem ne_nil {s : So} {c : Nat} {ws : List Str} (h : s[c]? = some (CS ws)) (hw : SOkL ws) : gNe (.ref c) (lw []) s = some (.p (.bool (!decide (ws = [])))) := by
  have d1 : datOf (.ref c) s = some (.list (ws.map PyData.str)) := by
    unfold datOf
    dsimp only
    rw [h]
    show (pures (ws.map sD)).map PyData.list = _
    rw [pures_s]; rfl
  have : eqD (.ref c) (lw []) s = some (decide (ws = [])) := by
    show (match datOf (.ref c) s, datOf (lw []) s with | some a, some b => if SeqAt.shaped a && SeqAt.shaped b then some (PyData.eqv a b) else none | _, _ => none) = _
    rw [d1]
    show (if SeqAt.shaped (.list (ws.map PyData.str)) && SeqAt.shaped (.list (([] : List Str).map PyData.str)) then some (PyData.eqv (.list (ws.map PyData.str)) (.list [])) else none) = _
    rw [shaped_lw ws hw, shaped_lw [] (fun _ h => by cases h)]
    show some (PyData.eqvAll (ws.map PyData.str) []) = _
    rw [eqvAll_nil]
  unfold gNe
  rw [this]; rfl
abbrev disp (fr : FA) : FA := fun ρ st => (fr ρ st).bind fun xs st1 => if small xs then .ok xs st1 else .stuck
theorem disp_ok {fr : FA} {ρ : Sl} {st st1 : So} {ws : List Str} (h : fr ρ st = .ok (ws.map sD) st1) (hl : ws.length ≤ 100000) : fPure (disp fr) ρ st = .ok (lw ws) st1 := by
  have e : disp fr ρ st = .ok (ws.map fun w => Dv.p (.str w)) st1 := by
    show (fr ρ st).bind _ = _
    rw [h, bind_ok, small_map, decide_eq_true hl, if_pos rfl]
  exact pure_ok e hl
theorem disp_nil {ρ : Sl} {st : So} : fPure (disp fNil) ρ st = .ok (lw []) st := disp_ok (ws := []) rfl (by decide)
end FB.K52
set_option Elab.async false
set_option linter.all false
set_option maxRecDepth 100000
set_option maxHeartbeats 4000000
/-! E52a: is_word, are_words, is_row, check_row of any data. -/
namespace FB.K52
open PySem PySem.Spec PyProof.Rows L2 RZ FB
def isWordV : PyData → Bool
  | .str x => isWord x
  | _ => false
/-- not too long -/
def okS : PyData → Bool
  | .str x => decide (x.length ≤ 1000)
  | _ => true
theorem kit_ns : kitB "NoneType" "str" = some false := by decide +kernel
theorem kit_bs : kitB "bool" "str" = some false := by decide +kernel
theorem kit_is : kitB "int" "str" = some false := by decide +kernel
theorem kit_ls : kitB "list" "str" = some false := by decide +kernel
theorem kit_ts : kitB "tuple" "str" = some false := by decide +kernel
theorem kit_ds : kitB "dict" "str" = some false := by decide +kernel
theorem kit_nt : kitB "NoneType" "tuple" = some false := by decide +kernel
theorem kit_bt : kitB "bool" "tuple" = some false := by decide +kernel
theorem kit_it : kitB "int" "tuple" = some false := by decide +kernel
theorem kit_st : kitB "str" "tuple" = some false := by decide +kernel
theorem kit_lt : kitB "list" "tuple" = some false := by decide +kernel
theorem kit_dt : kitB "dict" "tuple" = some false := by decide +kernel
theorem and_f {fa fb : FE} {ρ : Sl} {st st1 : So} (h1 : fa ρ st = .ok (.p (.bool false)) st1) : fAnd fa fb ρ st = .ok (.p (.bool false)) st1 := by rw [ev_and, tb_ok h1, bind_ok, if_neg Bool.false_ne_true]
theorem and_b {fa fb : FE} {ρ : Sl} {st st1 st2 : So} {a b : Bool} (h1 : fa ρ st = .ok (.p (.bool a)) st1) (h2 : a = true → fb ρ st1 = .ok (.p (.bool b)) st1) : fAnd fa fb ρ st = .ok (.p (.bool (a && b))) st1 := by
  cases a with
  | false => exact and_f h1
  | true => exact and_t h1 (h2 rfl)
theorem notstr {T : String} {v : PyData} {st : So} (ht : tyOf (.p v) st = some T) (hk : kitB T "str" = some false) : d_is_word [.p v] st = .ok (.p (.bool false)) st :=
  runD_pure0 (N := 2) (args := [.p v]) (ret_to (and_f (isT_ok (var_ok rfl) ht hk)))
theorem chain_b {g g' : G2} {fa fb fc : FE} {ρ : Sl} {st : So} {x y z : Dv} {a b : Bool} (h1 : fa ρ st = .ok x st) (h2 : fb ρ st = .ok y st) (hg : g x y st = some (.p (.bool a))) (h3 : fc ρ st = .ok z st) (hg' : g' y z st = some (.p (.bool b))) : fChain g g' fa fb fc ρ st = .ok (.p (.bool (a && b))) st := by
  rw [ev_chain, h1, bind_ok, h2, bind_ok, hg]
  cases a with
  | false => rfl
  | true =>
    show (fc ρ st).bind _ = _
    rw [h3, bind_ok, hg', toR_some, Bool.true_and]
theorem is_word_gen (v : PyData) (st : So) (hv : okS v = true) : d_is_word [.p v] st = .ok (.p (.bool (isWordV v))) st := by
  cases v with
  | none => exact notstr rfl kit_ns
  | bool b => exact notstr rfl kit_bs
  | int i => exact notstr rfl kit_is
  | list xs => exact notstr rfl kit_ls
  | tuple xs => exact notstr rfl kit_ts
  | dict xs => exact notstr rfl kit_ds
  | str x =>
    have hx : x.length ≤ 1000 := of_decide_eq_true hv
    have hl : gLen [sD x] st = some (.p (.int x.length)) := by
      show (if x.length ≤ 100000 then some (Dv.p (.int x.length)) else none) = _
      rw [if_pos (by omega)]
    have hc : (x.cps.toList).length ≤ 100000 := by
      rw [Array.length_toList]
      exact Nat.le_trans hx (by decide)
    have e1 : gLe (.p (.int 1)) (.p (.int x.length)) st = some (.p (.bool (decide (1 ≤ x.length)))) := by
      show some (Dv.p (.bool (decide ((1 : Int) ≤ x.length)))) = _
      congr 3
      rw [Bool.eq_iff_iff, decide_eq_true_eq, decide_eq_true_eq]
      omega
    have e2 : gLe (.p (.int x.length)) (.p (.int 8)) st = some (.p (.bool (decide (x.length ≤ 8)))) := by
      show some (Dv.p (.bool (decide ((x.length : Int) ≤ 8)))) = _
      congr 3
      rw [Bool.eq_iff_iff, decide_eq_true_eq, decide_eq_true_eq]
      omega
    have e3 : fLcV (fVar 0) (.nm 1) tYesF (fOp gIn (fVar 1) (fC (.str LET))) [some (sD x), none] st = .ok (x.cps.toList.map fun c => .p (.bool (decide (c ∈ LET.cps.toList)))) st := by
      rw [ev_lcV (d := sD x) (by simp) (items_str x st) (by rw [List.length_map]; exact hc), rhoW_one]
      exact signs_bool x st
    have e4 := gAll_b (x.cps.toList.map fun c => decide (c ∈ LET.cps.toList)) st
    rw [List.map_map] at e4
    simp only [Function.comp_def] at e4
    have e5 : (x.cps.toList.map fun c => decide (c ∈ LET.cps.toList)).all id = x.cps.toList.all fun c => decide (c ∈ LET.cps.toList) := by
      rw [List.all_map]; rfl
    rw [e5] at e4
    have ch := chain_b (g := gLe) (g' := gLe) (fa := fC (.int 1)) (fb := fCB gLen (fCons (fVar 0) fNil)) (fc := fC (.int 8)) (ρ := [some (sD x), none]) (st := st) c_ok (cb_ok (cons_ok (var_ok rfl) nil_ok) hl) e1 c_ok e2
    have al : fCB gAll (fCons (fPure (fLcV (fVar 0) (.nm 1) tYesF (fOp gIn (fVar 1) (fC (.str LET))))) fNil) [some (sD x), none] st = .ok (.p (.bool (x.cps.toList.all fun c => decide (c ∈ LET.cps.toList)))) st :=
      cb_ok (cons_ok (pure_to e3 (by rw [List.length_map]; exact hc)) nil_ok) e4
    have key := and_t (isT_ok (T := "str") (fa := fVar 0) (ρ := [some (sD x), none]) (st := st) (var_ok rfl) (ty_s x st) kit_ss) (and_b (st2 := st) ch fun _ => al)
    exact runD_pure0 (N := 2) (args := [.p (.str x)]) (ret_to key)
def strsV : List PyData → Option (List Str)
  | [] => some []
  | .str x :: r => (strsV r).map (x :: ·)
  | _ :: _ => none
def areWordsV : PyData → Bool
  | .tuple xs => xs.all isWordV && (match strsV xs with
    | some ws => decide (((lenSet ws : Nat) : Int) = ws.length)
    | none => false)
  | _ => false
def isRowV : PyData → Bool
  | .tuple xs => areWordsV (.tuple xs) && decide (xs.length ≤ 20)
  | _ => false
/-- not too long -/
def okV : PyData → Bool
  | .tuple xs => xs.all okS && decide (xs.length ≤ 1000)
  | _ => true
theorem strsV_eq : ∀ {xs : List PyData}, xs.all isWordV = true → ∃ ws, strsV xs = some ws ∧ xs = ws.map PyData.str
  | [], _ => ⟨[], rfl, rfl⟩
  | x :: xs, h => by
    rw [List.all_cons, Bool.and_eq_true] at h
    obtain ⟨ws, e1, e2⟩ := strsV_eq h.2
    cases x with
    | str y => exact ⟨y :: ws, by show (strsV xs).map (y :: ·) = _; rw [e1]; rfl, by rw [e2]; rfl⟩
    | _ => cases h.1
theorem nottup {T : String} {v : PyData} {st : So} (ht : tyOf (.p v) st = some T) (hk : kitB T "tuple" = some false) : d_are_words [.p v] st = .ok (.p (.bool false)) st :=
  runD_pure0 (N := 2) (args := [.p v]) (ret_to (and_f (isT_ok (var_ok rfl) ht hk)))
theorem are_words_gen (v : PyData) (st : So) (hv : okV v = true) : d_are_words [.p v] st = .ok (.p (.bool (areWordsV v))) st := by
  cases v with
  | none => exact nottup rfl kit_nt
  | bool b => exact nottup rfl kit_bt
  | int i => exact nottup rfl kit_it
  | list xs => exact nottup rfl kit_lt
  | str xs => exact nottup rfl kit_st
  | dict xs => exact nottup rfl kit_dt
  | tuple xs =>
    have hv' : (xs.all okS && decide (xs.length ≤ 1000)) = true := hv
    rw [Bool.and_eq_true, List.all_eq_true] at hv'
    obtain ⟨h1, h2⟩ := hv'
    have h2 : xs.length ≤ 1000 := of_decide_eq_true h2
    have e3 := lcV_all (fa := fVar 0) (tg := .nm 1) (fe := fCall d_is_word (fCons (fVar 1) fNil)) (ρ := [some (.p (.tuple xs)), none]) (st := st) (d := .p (.tuple xs)) (xs := xs) (f := Dv.p) [some (.p (.tuple xs)), none]
      (fun x : PyData => [some (.p (.tuple xs)), some (.p x)]) (fun x : PyData => Dv.p (.bool (isWordV x))) (var_ok rfl) rfl (by omega) rfl (fun x _ => tg_nm) (fun x hx => call_ok (cons_ok (var_ok rfl) nil_ok) (is_word_gen x st (h1 x hx)))
    have e4 := gAll_b (xs.map isWordV) st
    rw [List.map_map] at e4
    simp only [Function.comp_def] at e4
    have e5 : (xs.map isWordV).all id = xs.all isWordV := by rw [List.all_map]; rfl
    rw [e5] at e4
    have al : fCB gAll (fCons (fPure (fLcV (fVar 0) (.nm 1) tYesF (fCall d_is_word (fCons (fVar 1) fNil)))) fNil) [some (.p (.tuple xs)), none] st = .ok (.p (.bool (xs.all isWordV))) st :=
      cb_ok (cons_ok (pure_to e3 (by rw [List.length_map]; omega)) nil_ok) e4
    have last : xs.all isWordV = true → fOp gEq (fLenSet (fVar 0)) (fCB gLen (fCons (fVar 0) (fNil))) [some (.p (.tuple xs)), none] st = .ok (.p (.bool (match strsV xs with
      | some ws => decide (((lenSet ws : Nat) : Int) = ws.length)
      | none => false))) st := fun hw => by
      obtain ⟨ws, e1, e2⟩ := strsV_eq hw
      rw [e1]
      subst e2
      rw [List.length_map] at h2
      have hn : ws.length < 4000 := by omega
      have q : fLenSet (fVar 0) [some (.p (.tuple (ws.map PyData.str))), none] st = .ok (.p (.int (lenSet ws : Nat))) st := by
        rw [ev_lenSet, var_ok (d := tw ws) rfl, bind_ok, tup_tw]
        dsimp only
        rw [txts_s]
        dsimp only
        rw [if_pos hn]
      exact op_ok q (cb_ok (cons_ok (var_ok (d := tw ws) rfl) nil_ok) (gLen_tw ws st)) (gEq_i _ _ st)
    have key := and_t (isT_ok (T := "tuple") (fa := fVar 0) (ρ := [some (.p (.tuple xs)), none]) (st := st) (var_ok rfl) (n := "tuple") rfl kit_tt) (and_b (st2 := st) al last)
    exact runD_pure0 (N := 2) (args := [.p (.tuple xs)]) (ret_to key)
theorem is_row_gen (v : PyData) (st : So) (hv : okV v = true) : d_is_row [.p v] st = .ok (.p (.bool (isRowV v))) st := by
  have a := are_words_gen v st hv
  cases v with
  | tuple xs =>
    have hv' : (xs.all okS && decide (xs.length ≤ 1000)) = true := hv
    rw [Bool.and_eq_true] at hv'
    have h2 : xs.length ≤ 1000 := of_decide_eq_true hv'.2
    have gl : gLen [.p (.tuple xs)] st = some (.p (.int xs.length)) := by
      show some (Dv.p (.int ((xs.map Dv.p).length : Nat))) = _
      rw [List.length_map]
    have le : gLe (.p (.int xs.length)) (.p (.int 20)) st = some (.p (.bool (decide (xs.length ≤ 20)))) := by
      show some (Dv.p (.bool (decide ((xs.length : Int) ≤ 20)))) = _
      congr 3
      rw [Bool.eq_iff_iff, decide_eq_true_eq, decide_eq_true_eq]
      omega
    have key := and_b (st2 := st) (fa := fCall d_are_words (fCons (fVar 0) (fNil))) (fb := fOp gLe (fCB gLen (fCons (fVar 0) (fNil))) (fC (.int 20))) (ρ := [some (.p (.tuple xs))]) (call_ok (cons_ok (var_ok rfl) nil_ok) a) fun _ => op_ok (cb_ok (cons_ok (var_ok rfl) nil_ok) gl) c_ok le
    exact runD_pure0 (N := 1) (args := [.p (.tuple xs)]) (ret_to key)
  | _ => exact runD_pure0 (N := 1) (ret_to (and_f (call_ok (cons_ok (var_ok rfl) nil_ok) a)))
theorem runD_exc0 {N : Nat} {body : FS} {args : List Dv} {st : So} {ρ' : Sl} {c : Str} {fs : List (Str × PyData)} (h : body (args.map some ++ List.replicate (N - args.length) none) st = .exc c fs ρ' st) : runD N body args st = .exc c fs st := by
  unfold runD
  rw [h]
  show Rs.exc c fs (trim st.length (.p .none) st) = _
  rw [trim_same rfl]
theorem check_ok_gen (v : PyData) (st : So) (hv : okV v = true) (h : isRowV v = true) : d_check_row [.p v] st = .ok (.p .none) st := by
  have a := is_row_gen v st hv
  rw [h] at a
  exact runD_none0 (N := 1) (args := [.p v]) (ρ' := [some (.p v)]) (if_next (not_t (tb_ok (call_ok (cons_ok (var_ok rfl) nil_ok) a))))
theorem not_f {t : FT} {ρ : Sl} {st st' : So} (h : t ρ st = .ok false st') : fTNot t ρ st = .ok true st' := by rw [ev_tnot, h, bind_ok]; rfl
theorem check_exc (v : PyData) (st : So) (hv : okV v = true) (h : isRowV v = false) : d_check_row [.p v] st = .exc "InvalidRow" [] st := by
  have a := is_row_gen v st hv
  rw [h] at a
  refine runD_exc0 (N := 1) (args := [.p v]) (ρ' := [some (.p v)]) ?_
  exact (if_true_to (not_f (tb_ok (call_ok (cons_ok (var_ok rfl) nil_ok) a)))).trans rfl
/-! ### errors on their way -/
theorem call_exc {F : FD} {fr : FA} {ρ : Sl} {st st1 st2 : So} {xs : List Dv} {c : Str} {fs : List (Str × PyData)} (h1 : fr ρ st = .ok xs st1) (h2 : F xs st1 = .exc c fs st2) : fCall F fr ρ st = .exc c fs st2 := by rw [ev_call, h1, bind_ok, h2]
theorem drop_exc {fa : FE} {ρ : Sl} {st st' : So} {c : Str} {fs : List (Str × PyData)} (h : fa ρ st = .exc c fs st') : sDrop fa ρ st = .exc c fs ρ st' := by rw [ev_drop, h]; rfl
theorem seq_exc {ga gb : FS} {ρ ρ' : Sl} {st st' : So} {c : Str} {fs : List (Str × PyData)} (h : ga ρ st = .exc c fs ρ' st') : sSeq ga gb ρ st = .exc c fs ρ' st' := by rw [ev_seq, h]
/-- two arguments of which one is no row -/
def Bad (v1 v2 : PyData) : Prop := (okV v1 = true ∧ isRowV v1 = false) ∨ (okV v1 = true ∧ isRowV v1 = true ∧ okV v2 = true ∧ isRowV v2 = false)
theorem two_exc {g : FS} {v1 v2 : PyData} {st : So} {rest : Sl} (h : Bad v1 v2) : sSeq (sDrop (fCall d_check_row (fCons (fVar 0) (fNil)))) (sSeq (sDrop (fCall d_check_row (fCons (fVar 1) (fNil)))) g) (some (.p v1) :: some (.p v2) :: rest) st = .exc "InvalidRow" [] (some (.p v1) :: some (.p v2) :: rest) st := by
  rcases h with ⟨h1, h2⟩ | ⟨h1, h2, h3, h4⟩
  · exact seq_exc (drop_exc (call_exc (cons_ok (var_ok rfl) nil_ok) (check_exc v1 st h1 h2)))
  · exact (seq_to (drop_to (call_ok (cons_ok (var_ok rfl) nil_ok) (check_ok_gen v1 st h1 h2)))).trans (seq_exc (drop_exc (call_exc (cons_ok (var_ok rfl) nil_ok) (check_exc v2 st h3 h4))))
theorem distance_exc {v1 v2 : PyData} {st : So} (h : Bad v1 v2) : d_distance [.p v1, .p v2] st = .exc "InvalidRow" [] st := runD_exc0 (N := 2) (args := [.p v1, .p v2]) (two_exc h)
theorem route_exc {v1 v2 : PyData} {st : So} (h : Bad v1 v2) : d_route [.p v1, .p v2] st = .exc "InvalidRow" [] st := runD_exc0 (N := 2) (args := [.p v1, .p v2]) (two_exc h)
theorem routes_exc {v1 v2 : PyData} {st : So} (h : Bad v1 v2) : d_routes [.p v1, .p v2] st = .exc "InvalidRow" [] st := runD_exc0 (N := 9) (args := [.p v1, .p v2]) (two_exc h)
end FB.K52
set_option Elab.async false
set_option linter.all false
set_option maxRecDepth 100000
set_option maxHeartbeats 4000000
/-! E52b: what is asked of errors. -/
namespace FB.K52
open PySem PySem.Spec PyProof.Rows L2 RZ FB
theorem dispP {fr : FA} {ρ : Sl} {st st1 : So} {xs : List PyData} (h : fr ρ st = .ok (xs.map Dv.p) st1) (hl : xs.length ≤ 100000) : fPure (disp fr) ρ st = .ok (.p (.list xs)) st1 := by
  have s : small (xs.map Dv.p) = true := by rw [small_map]; exact decide_eq_true hl
  have e : disp fr ρ st = .ok (xs.map Dv.p) st1 := by
    show (fr ρ st).bind _ = _
    rw [h, bind_ok, s, if_pos rfl]
  rw [ev_pure, e, bind_ok, s, if_pos rfl, mkL_p]
theorem gAdd_l {xs ys : List PyData} {st : So} (h : xs.length + ys.length ≤ 100000) : gAdd (.p (.list xs)) (.p (.list ys)) st = some (.p (.list (xs ++ ys))) := by
  show (if (xs.map Dv.p).length + (ys.map Dv.p).length ≤ 100000 then some (mkL (xs.map Dv.p ++ ys.map Dv.p)) else none) = _
  rw [List.length_map, List.length_map, if_pos h, ← List.map_append, mkL_p]
theorem gAdd_lw {a b : List Str} {st : So} (h : a.length + b.length ≤ 100000) : gAdd (lw a) (lw b) st = some (lw (a ++ b)) := by
  unfold lw
  rw [List.map_append]
  exact gAdd_l (by rw [List.length_map, List.length_map]; exact h)
theorem forL_next {tg : Tg} {body : FS} {d : Dv} {ds : List Dv} {ρ ρ1 ρ2 : Sl} {st st2 : So} (h1 : tgF tg d ρ = some ρ1) (h2 : body ρ1 st = .nx ρ2 st2) : sForL tg body (d :: ds) ρ st = sForL tg body ds ρ2 st2 := by rw [forL_cons, h1, toE_some, h2]
abbrev eR : Dv := .exc "InvalidRow" []
theorem isX_ok {tst : Str → Option Bool} {fa : FE} {ρ : Sl} {st : So} {c : Str} {b : Bool} (h : fa ρ st = .ok (.exc c []) st) (ht : tst c = some b) : fIsX tst fa ρ st = .ok (.p (.bool b)) st := by
  unfold fIsX
  rw [h, bind_ok]
  dsimp only
  rw [ht]
abbrev kindsL : List PyData := [.bool true, .bool false, .bool false, .bool false, .bool false, .bool false, .bool false, .bool false, .bool false, .bool false, .bool false, .bool false]
theorem is1 : tsL ti_InvalidRow "InvalidRow" = some true := by decide +kernel
theorem is2 : tsL ti_InvalidRows "InvalidRow" = some false := by decide +kernel
theorem is3 : tsL ti_InvalidProgram "InvalidRow" = some false := by decide +kernel
theorem is4 : tsL ti_InvalidOperation "InvalidRow" = some false := by decide +kernel
theorem is5 : tsL ti_InvalidWord "InvalidRow" = some false := by decide +kernel
theorem is6 : tsL ti_InvalidNames "InvalidRow" = some false := by decide +kernel
theorem is7 : tsL ti_InvalidMeaning "InvalidRow" = some false := by decide +kernel
theorem is8 : tsL ti_InvalidNumber "InvalidRow" = some false := by decide +kernel
theorem is9 : tsL ti_InvalidFences "InvalidRow" = some false := by decide +kernel
theorem is10 : tsL ti_InvalidResults "InvalidRow" = some false := by decide +kernel
theorem is11 : tsL ti_TooLarge "InvalidRow" = some false := by decide +kernel
theorem is12 : tsL ti_Locked "InvalidRow" = some false := by decide +kernel
theorem isF : tsL ti_FrontBackError "InvalidRow" = some true := by decide +kernel
theorem isV : tsL ti_ValueError "InvalidRow" = some true := by decide +kernel
theorem teF : tsL te_FrontBackError "InvalidRow" = some true := by decide +kernel
theorem kinds_ok (st : So) : d__law_kinds [eR] st = .ok (.p (.list kindsL)) st := by
  have v : ∀ (x : Option Dv), fVar 0 [some eR, x] st = .ok eR st := fun x => var_ok rfl
  have i : ∀ {T : List (Str × Bool)} {b : Bool} (x : Option Dv), tsL T "InvalidRow" = some b → fIsX (tsL T) (fVar 0) [some eR, x] st = .ok (.p (.bool b)) st := fun x h => isX_ok (v x) h
  have t1 := asg_to (i := 1) (dispP (xs := [.bool true, .bool false]) (ρ := [some eR, none]) (st := st) (cons_ok (i none is1) (cons_ok (i none is2) nil_ok)) (show 2 ≤ 100000 by decide)) (ρ' := [some eR, some (.p (.list [.bool true, .bool false]))]) rfl
  have t2 := asg_to (i := 1) (ρ := [some eR, some (.p (.list [.bool true, .bool false]))]) (op_ok (g := gAdd) (fa := fVar 1) (var_ok rfl) (dispP (xs := [.bool false]) (cons_ok (i _ is3) nil_ok) (show 1 ≤ 100000 by decide)) (gAdd_l (xs := [.bool true, .bool false]) (ys := [.bool false]) (show 2 + 1 ≤ 100000 by decide))) (ρ' := [some eR, some (.p (.list [.bool true, .bool false, .bool false]))]) rfl
  have t3 := asg_to (i := 1) (ρ := [some eR, some (.p (.list [.bool true, .bool false, .bool false]))]) (op_ok (g := gAdd) (fa := fVar 1) (var_ok rfl) (dispP (xs := [.bool false, .bool false]) (cons_ok (i _ is4) (cons_ok (i _ is5) nil_ok)) (show 2 ≤ 100000 by decide)) (gAdd_l (xs := [.bool true, .bool false, .bool false]) (ys := [.bool false, .bool false]) (show 3 + 2 ≤ 100000 by decide))) (ρ' := [some eR, some (.p (.list [.bool true, .bool false, .bool false, .bool false, .bool false]))]) rfl
  have t4 := asg_to (i := 1) (ρ := [some eR, some (.p (.list [.bool true, .bool false, .bool false, .bool false, .bool false]))]) (op_ok (g := gAdd) (fa := fVar 1) (var_ok rfl) (dispP (xs := [.bool false, .bool false]) (cons_ok (i _ is6) (cons_ok (i _ is7) nil_ok)) (show 2 ≤ 100000 by decide)) (gAdd_l (xs := [.bool true, .bool false, .bool false, .bool false, .bool false]) (ys := [.bool false, .bool false]) (show 5 + 2 ≤ 100000 by decide))) (ρ' := [some eR, some (.p (.list [.bool true, .bool false, .bool false, .bool false, .bool false, .bool false, .bool false]))]) rfl
  have t5 := asg_to (i := 1) (ρ := [some eR, some (.p (.list [.bool true, .bool false, .bool false, .bool false, .bool false, .bool false, .bool false]))]) (op_ok (g := gAdd) (fa := fVar 1) (var_ok rfl) (dispP (xs := [.bool false, .bool false]) (cons_ok (i _ is8) (cons_ok (i _ is9) nil_ok)) (show 2 ≤ 100000 by decide)) (gAdd_l (xs := [.bool true, .bool false, .bool false, .bool false, .bool false, .bool false, .bool false]) (ys := [.bool false, .bool false]) (show 7 + 2 ≤ 100000 by decide))) (ρ' := [some eR, some (.p (.list [.bool true, .bool false, .bool false, .bool false, .bool false, .bool false, .bool false, .bool false, .bool false]))]) rfl
  have t6 := asg_to (i := 1) (ρ := [some eR, some (.p (.list [.bool true, .bool false, .bool false, .bool false, .bool false, .bool false, .bool false, .bool false, .bool false]))]) (op_ok (g := gAdd) (fa := fVar 1) (var_ok rfl) (dispP (xs := [.bool false, .bool false]) (cons_ok (i _ is10) (cons_ok (i _ is11) nil_ok)) (show 2 ≤ 100000 by decide)) (gAdd_l (xs := [.bool true, .bool false, .bool false, .bool false, .bool false, .bool false, .bool false, .bool false, .bool false]) (ys := [.bool false, .bool false]) (show 9 + 2 ≤ 100000 by decide))) (ρ' := [some eR, some (.p (.list [.bool true, .bool false, .bool false, .bool false, .bool false, .bool false, .bool false, .bool false, .bool false, .bool false, .bool false]))]) rfl
  have t7 := asg_to (i := 1) (ρ := [some eR, some (.p (.list [.bool true, .bool false, .bool false, .bool false, .bool false, .bool false, .bool false, .bool false, .bool false, .bool false, .bool false]))]) (op_ok (g := gAdd) (fa := fVar 1) (var_ok rfl) (dispP (xs := [.bool false]) (cons_ok (i _ is12) nil_ok) (show 1 ≤ 100000 by decide)) (gAdd_l (xs := [.bool true, .bool false, .bool false, .bool false, .bool false, .bool false, .bool false, .bool false, .bool false, .bool false, .bool false]) (ys := [.bool false]) (show 11 + 1 ≤ 100000 by decide))) (ρ' := [some eR, some (.p (.list kindsL))]) rfl
  have t8 := ret_to (fa := fVar 1) (ρ := [some eR, some (.p (.list kindsL))]) (st := st) (d := .p (.list kindsL)) (var_ok rfl)
  exact runD_pure0 (N := 2) (args := [eR]) ((seq_to t1).trans ((seq_to t2).trans ((seq_to t3).trans ((seq_to t4).trans ((seq_to t5).trans ((seq_to t6).trans ((seq_to t7).trans t8)))))))
abbrev told8 : List Str := ["row", "rows", "program", "operation", "word", "names", "meaning", "number"]
abbrev told10 : List Str := ["row", "rows", "program", "operation", "word", "names", "meaning", "number", "fences", "results"]
abbrev told12 : List Str := ["row", "rows", "program", "operation", "word", "names", "meaning", "number", "fences", "results", "large", "locked"]
theorem told_bools : told12.map (fun w => decide (w = ("row" : Str))) = [true, false, false, false, false, false, false, false, false, false, false, false] := by decide +kernel
theorem told_kinds : told12.map (fun w => PyData.bool (decide (w = ("row" : Str)))) = kindsL := by
  have e : told12.map (fun w => PyData.bool (decide (w = ("row" : Str)))) = (told12.map fun w => decide (w = ("row" : Str))).map PyData.bool := by rw [List.map_map]; rfl
  rw [e, told_bools]; rfl
abbrev sl4 (d : Dv) (a b : Option Dv) : Sl := [some d, some (sD "row"), a, b]
theorem only_ok (st : So) : d__law_only [eR, sD "row"] st = .ok (.p (.bool true)) st := by
  have t1 := asg_to (i := 2) (ρ := sl4 eR none none) (disp_ok (st := st) (st1 := st) (ws := told8) (cons_ok c_ok (cons_ok c_ok (cons_ok c_ok (cons_ok c_ok (cons_ok c_ok (cons_ok c_ok (cons_ok c_ok (cons_ok c_ok nil_ok)))))))) (show 8 ≤ 100000 by decide)) (ρ' := sl4 eR (some (lw told8)) none) rfl
  have t2 := asg_to (i := 2) (ρ := sl4 eR (some (lw told8)) none) (op_ok (g := gAdd) (fa := fVar 2) (var_ok rfl) (disp_ok (st := st) (st1 := st) (ws := ["fences", "results"]) (cons_ok c_ok (cons_ok c_ok nil_ok)) (show 2 ≤ 100000 by decide)) (gAdd_lw (a := told8) (b := ["fences", "results"]) (show 8 + 2 ≤ 100000 by decide))) (ρ' := sl4 eR (some (lw told10)) none) rfl
  have t3 := if_next (ga := sRet (fC (.bool false))) (or_ff (ρ := sl4 eR (some (lw told10)) none) (not_t (tb_ok (isX_ok (fa := fVar 0) (st := st) (c := "InvalidRow") (var_ok rfl) isF))) (not_t (tb_ok (isX_ok (fa := fVar 0) (st := st) (c := "InvalidRow") (var_ok rfl) isV))))
  have l := lcV_all (fa := fOp gAdd (fVar 2) (fPure (disp (fCons (fC (.str "large")) (fCons (fC (.str "locked")) (fNil)))))) (tg := .nm 3) (fe := fOp gEq (fVar 3) (fVar 1)) (ρ := sl4 eR (some (lw told10)) none) (st := st) (d := lw told12) (xs := told12) (f := sD) (sl4 eR (some (lw told10)) none)
    (fun w : Str => sl4 eR (some (lw told10)) (some (sD w))) (fun w : Str => Dv.p (.bool (decide (w = ("row" : Str))))) (op_ok (var_ok rfl) (disp_ok (ws := ["large", "locked"]) (cons_ok c_ok (cons_ok c_ok nil_ok)) (show 2 ≤ 100000 by decide)) (gAdd_lw (a := told10) (b := ["large", "locked"]) (show 10 + 2 ≤ 100000 by decide)))
    (items_lw told12 st) (show 12 ≤ 100000 by decide) rfl (fun w _ => tg_nm) (fun w _ => op_ok (var_ok rfl) (var_ok rfl) (gEq_s w "row" st))
  have l2 := pure_ok (g := fun w : Str => PyData.bool (decide (w = ("row" : Str)))) l (show 12 ≤ 100000 by decide)
  rw [told_kinds] at l2
  have eq : gEq (.p (.list kindsL)) (.p (.list kindsL)) st = some (.p (.bool true)) := rfl
  have t4 := ret_to (op_ok (g := gEq) (fa := fCall d__law_kinds (fCons (fVar 0) (fNil))) (ρ := sl4 eR (some (lw told10)) none) (call_ok (cons_ok (var_ok rfl) nil_ok) (kinds_ok st)) l2 eq)
  exact runD_pure0 (N := 4) (args := [eR, sD "row"]) ((seq_to t1).trans ((seq_to t2).trans ((seq_to t3).trans t4)))
/-! ### _law_asked -/
theorem try_exc {i : Nat} {tst : Str → Option Bool} {body suite : FS} {ρ ρ' ρ2 : Sl} {st st' st2 : So} {c : Str} (h : body ρ st = .exc c [] ρ' st') (ht : tst c = some true) (hs : suite (ρ'.set i (some (.exc c []))) st' = .nx ρ2 st2) : sTryAs i tst body suite ρ st = .nx (ρ2.set i none) st2 := by
  unfold sTryAs
  rw [h]
  dsimp only
  rw [ht]
  dsimp only
  rw [hs]
  rfl
theorem try_nx {i : Nat} {tst : Str → Option Bool} {body suite : FS} {ρ ρ' : Sl} {st st' : So} (h : body ρ st = .nx ρ' st') : sTryAs i tst body suite ρ st = .nx ρ' st' := by
  unfold sTryAs
  rw [h]
abbrev slA (w : Nat) (d1 d2 : Dv) (a b : Option Dv) : Sl := [some (iD w), some d1, some d2, a, b]
abbrev wayS : FS := sIf (fTB (fOp gEq (fVar 0) (fC (.int 0)))) (sDrop (fCall d_distance (fCons (fVar 1) (fCons (fVar 2) (fNil))))) (sIf (fTB (fOp gEq (fVar 0) (fC (.int 1)))) (sDrop (fCall d_route (fCons (fVar 1) (fCons (fVar 2) (fNil))))) (sDrop (fCall d_routes (fCons (fVar 1) (fCons (fVar 2) (fNil))))))
/-- the function that is asked -/
def fW (w : Nat) : FD := if w = 0 then d_distance else if w = 1 then d_route else d_routes
theorem way_to (w : Nat) (d1 d2 : Dv) (a b : Option Dv) (st : So) : wayS (slA w d1 d2 a b) st = sDrop (fCall (fW w) (fCons (fVar 1) (fCons (fVar 2) (fNil)))) (slA w d1 d2 a b) st := by
  have g0 : fTB (fOp gEq (fVar 0) (fC (.int 0))) (slA w d1 d2 a b) st = .ok (decide ((w : Int) = 0)) st := tb_ok (op_ok (var_ok rfl) c_ok (gEq_i _ _ st))
  have g1 : fTB (fOp gEq (fVar 0) (fC (.int 1))) (slA w d1 d2 a b) st = .ok (decide ((w : Int) = 1)) st := tb_ok (op_ok (var_ok rfl) c_ok (gEq_i _ _ st))
  unfold fW
  by_cases h0 : w = 0
  · rw [decide_eq_true (by omega)] at g0
    rw [if_pos h0]
    exact if_true_to g0
  · rw [decide_eq_false (by omega)] at g0
    rw [if_neg h0]
    by_cases h1 : w = 1
    · rw [decide_eq_true (by omega)] at g1
      rw [if_pos h1]
      exact (if_to g0).trans (if_true_to g1)
    · rw [decide_eq_false (by omega)] at g1
      rw [if_neg h1]
      exact (if_to g0).trans (if_to g1)
theorem asked_exc (w : Nat) (d1 d2 : Dv) (st : So) (h : fW w [d1, d2] st = .exc "InvalidRow" [] st) : d__law_asked [iD w, d1, d2] st = .ok eR st := by
  have t1 := asg_to (fa := fC .none) (i := 3) (ρ := slA w d1 d2 none none) (st := st) c_ok (ρ' := slA w d1 d2 (some (.p .none)) none) rfl
  have b : wayS (slA w d1 d2 (some (.p .none)) none) st = .exc "InvalidRow" [] (slA w d1 d2 (some (.p .none)) none) st := (way_to w d1 d2 _ _ st).trans (drop_exc (call_exc (cons_ok (var_ok rfl) (cons_ok (var_ok rfl) nil_ok)) h))
  have t2 := try_exc (i := 4) (suite := sAsg (fVar 4) (.nm 3)) b teF (asg_to (i := 3) (ρ := slA w d1 d2 (some (.p .none)) (some eR)) (var_ok rfl) (ρ' := slA w d1 d2 (some eR) (some eR)) rfl)
  have t3 := ret_to (fa := fVar 3) (ρ := slA w d1 d2 (some eR) none) (st := st) (d := eR) (var_ok rfl)
  have key : m__law_asked [some (iD w), some d1, some d2, none, none] st = .ret eR st := (seq_to t1).trans ((seq_to t2).trans t3)
  have r := runD_ret (N := 5) (body := m__law_asked) (args := [iD w, d1, d2]) key
  rw [trim_same rfl] at r
  exact r
theorem asked_ok (w : Nat) (d1 d2 z : Dv) (st : So) (h : fW w [d1, d2] st = .ok z st) : d__law_asked [iD w, d1, d2] st = .ok (.p .none) st := by
  have t1 := asg_to (fa := fC .none) (i := 3) (ρ := slA w d1 d2 none none) (st := st) c_ok (ρ' := slA w d1 d2 (some (.p .none)) none) rfl
  have b : wayS (slA w d1 d2 (some (.p .none)) none) st = .nx (slA w d1 d2 (some (.p .none)) none) st := (way_to w d1 d2 _ _ st).trans (drop_to (call_ok (cons_ok (var_ok rfl) (cons_ok (var_ok rfl) nil_ok)) h))
  have t2 := try_nx (i := 4) (tst := tsL te_FrontBackError) (suite := sAsg (fVar 4) (.nm 3)) b
  have t3 := ret_to (fa := fVar 3) (ρ := slA w d1 d2 (some (.p .none)) none) (st := st) (d := .p .none) (var_ok rfl)
  exact runD_pure0 (N := 5) (args := [iD w, d1, d2]) ((seq_to t1).trans ((seq_to t2).trans t3))
theorem fW_exc {w : Nat} {v1 v2 : PyData} {st : So} (h : Bad v1 v2) : fW w [.p v1, .p v2] st = .exc "InvalidRow" [] st := by
  unfold fW
  split
  · exact distance_exc h
  · split
    · exact route_exc h
    · exact routes_exc h
theorem fW_ok {w : Nat} {row other : List Str} {st : So} (hr : Row row) (ho : Row other) (hF : Flat st) : ∃ z, fW w [tw row, tw other] st = .ok z st := by
  unfold fW
  split
  · exact ⟨_, distance_eq row other st hr ho hF⟩
  · split
    · exact ⟨_, route_eq row other st hr ho hF⟩
    · exact ⟨_, routes_eq row other st hr ho hF⟩
end FB.K52
set_option Elab.async false
set_option linter.all false
set_option maxRecDepth 100000
set_option maxHeartbeats 4000000
/-! E52c: the odd values; the law. -/
namespace FB.K52
open PySem PySem.Spec PyProof.Rows L2 RZ FB
abbrev NW : List PyData := [.none, .bool true, .int 0, .str "", .str "A", .str "a1", .str "a b", .str "abcdefghi", .tuple [.str "a"], .list [.str "a"], .dict [], .str "a\n", .str " a"]
theorem e0_ok {ρ : Sl} {st : So} : fE0 ρ st = .ok (.p (.dict [])) st := rfl
theorem tupP {fr : FA} {ρ : Sl} {st st' : So} {xs : List PyData} (h : fr ρ st = .ok (xs.map Dv.p) st') (hl : xs.length ≤ 100000) : fTup fr ρ st = .ok (.p (.tuple xs)) st' := by
  rw [ev_tup, h, bind_ok, small_map, decide_eq_true hl, if_pos rfl, mkT_p]
theorem no_words_ok (st : So) : d__law_no_words [] st = .ok (.p (.list NW)) st := by
  have t : ∀ ρ : Sl, fTup (fCons (fC (.str "a")) (fNil)) ρ st = .ok (.p (.tuple [.str "a"])) st := fun ρ => tupP (xs := [.str "a"]) (cons_ok c_ok nil_ok) (show 1 ≤ 100000 by decide)
  have l : ∀ ρ : Sl, fPure (disp (fCons (fC (.str "a")) (fNil))) ρ st = .ok (.p (.list [.str "a"])) st := fun ρ => dispP (xs := [.str "a"]) (cons_ok c_ok nil_ok) (show 1 ≤ 100000 by decide)
  exact runD_pure0 (N := 0) (args := []) (ret_to (dispP (xs := NW) (cons_ok c_ok (cons_ok c_ok (cons_ok c_ok (cons_ok c_ok (cons_ok c_ok (cons_ok c_ok (cons_ok c_ok (cons_ok c_ok (cons_ok (t _) (cons_ok (l _) (cons_ok e0_ok (cons_ok c_ok (cons_ok c_ok nil_ok))))))))))))) (show 13 ≤ 100000 by decide)))
abbrev S21 : Str := "abcdefghijklmnopqrstu"
abbrev S20 : Str := "abcdefghijklmnopqrst"
def chars (s : Str) : List Str := s.cps.toList.map fun c => ⟨#[c]⟩
theorem chars_ok (s : Str) (ρ : Sl) (st : So) (h : s.length ≤ 100000) : fCB gTuple (fCons (fC (.str s)) (fNil)) ρ st = .ok (tw (chars s)) st := by
  refine cb_ok (cons_ok c_ok nil_ok) ?_
  show (if s.length ≤ 100000 then some (mkT (s.cps.toList.map fun c => Dv.p (.str ⟨#[c]⟩))) else none) = _
  rw [if_pos h]
  have : (s.cps.toList.map fun c => Dv.p (.str ⟨#[c]⟩)) = (chars s).map sD := by unfold chars; rw [List.map_map]; rfl
  rw [this, mkT_s]
abbrev O1 : List PyData := [.none, .bool true, .int 0, .str "a", .str "", .list [.str "a"], .list [], .dict [], .tuple [.str "a", .str "a"], .tuple [.str "a", .str "b", .str "a"]]
abbrev O2 : List PyData := O1 ++ [.tuple ((chars S21).map PyData.str)]
abbrev ODD : List PyData := O2 ++ NW.map (fun w => .tuple [.str "a", w]) ++ NW.map (fun w => .tuple [w, .str "a", .str "b"])
theorem odd_all : (ODD.all fun v => okV v && !isRowV v) = true := by decide +kernel
theorem odd_ok {v : PyData} (h : v ∈ ODD) : okV v = true ∧ isRowV v = false := by
  have := List.all_eq_true.mp odd_all v h
  rw [Bool.and_eq_true, Bool.not_eq_true'] at this
  exact this
theorem odd_len : ODD.length = 37 := rfl
theorem no_rows_ok (st : So) : d__law_no_rows [] st = .ok (.p (.list ODD)) st := by
  have l1 : ∀ ρ : Sl, fPure (disp (fCons (fC (.str "a")) (fNil))) ρ st = .ok (.p (.list [.str "a"])) st := fun ρ => dispP (xs := [.str "a"]) (cons_ok c_ok nil_ok) (show 1 ≤ 100000 by decide)
  have l0 : ∀ ρ : Sl, fPure (disp (fNil)) ρ st = .ok (.p (.list [])) st := fun ρ => dispP (xs := []) nil_ok (show 0 ≤ 100000 by decide)
  have u2 : ∀ ρ : Sl, fTup (fCons (fC (.str "a")) (fCons (fC (.str "a")) (fNil))) ρ st = .ok (.p (.tuple [.str "a", .str "a"])) st := fun ρ => tupP (xs := [.str "a", .str "a"]) (cons_ok c_ok (cons_ok c_ok nil_ok)) (show 2 ≤ 100000 by decide)
  have u3 : ∀ ρ : Sl, fTup (fCons (fC (.str "a")) (fCons (fC (.str "b")) (fCons (fC (.str "a")) (fNil)))) ρ st = .ok (.p (.tuple [.str "a", .str "b", .str "a"])) st := fun ρ => tupP (xs := [.str "a", .str "b", .str "a"]) (cons_ok c_ok (cons_ok c_ok (cons_ok c_ok nil_ok))) (show 3 ≤ 100000 by decide)
  have t1 := asg_to (i := 0) (ρ := [none, none]) (dispP (st := st) (xs := O1) (cons_ok c_ok (cons_ok c_ok (cons_ok c_ok (cons_ok c_ok (cons_ok c_ok (cons_ok (l1 _) (cons_ok (l0 _) (cons_ok e0_ok (cons_ok (u2 _) (cons_ok (u3 _) nil_ok)))))))))) (show 10 ≤ 100000 by decide)) (ρ' := [some (.p (.list O1)), none]) rfl
  have t2 := asg_to (i := 0) (ρ := [some (.p (.list O1)), none]) (op_ok (g := gAdd) (fa := fVar 0) (var_ok rfl) (dispP (st := st) (xs := [.tuple ((chars S21).map PyData.str)]) (cons_ok (chars_ok S21 _ st (by decide +kernel)) nil_ok) (show 1 ≤ 100000 by decide)) (gAdd_l (xs := O1) (ys := [.tuple ((chars S21).map PyData.str)]) (show 10 + 1 ≤ 100000 by decide))) (ρ' := [some (.p (.list O2)), none]) rfl
  have q1 := pure_ok (g := fun w : PyData => PyData.tuple [.str "a", w]) (lcV_all (fa := fCall d__law_no_words fNil) (tg := .nm 1) (fe := fTup (fCons (fC (.str "a")) (fCons (fVar 1) (fNil)))) (ρ := [some (.p (.list O2)), none]) (st := st) (d := .p (.list NW)) (xs := NW) (f := Dv.p) [some (.p (.list O2)), none] (fun w : PyData => [some (.p (.list O2)), some (.p w)])
    (fun w : PyData => Dv.p (.tuple [.str "a", w])) (call_ok nil_ok (no_words_ok st)) rfl (show 13 ≤ 100000 by decide) rfl (fun w _ => tg_nm) (fun w _ => tupP (xs := [.str "a", w]) (cons_ok c_ok (cons_ok (var_ok rfl) nil_ok)) (show 2 ≤ 100000 by decide))) (show 13 ≤ 100000 by decide)
  have q2 := pure_ok (g := fun w : PyData => PyData.tuple [w, .str "a", .str "b"]) (lcV_all (fa := fCall d__law_no_words fNil) (tg := .nm 1) (fe := fTup (fCons (fVar 1) (fCons (fC (.str "a")) (fCons (fC (.str "b")) (fNil))))) (ρ := [some (.p (.list O2)), none]) (st := st) (d := .p (.list NW)) (xs := NW) (f := Dv.p) [some (.p (.list O2)), none] (fun w : PyData => [some (.p (.list O2)), some (.p w)])
    (fun w : PyData => Dv.p (.tuple [w, .str "a", .str "b"])) (call_ok nil_ok (no_words_ok st)) rfl (show 13 ≤ 100000 by decide) rfl (fun w _ => tg_nm) (fun w _ => tupP (xs := [w, .str "a", .str "b"]) (cons_ok (var_ok rfl) (cons_ok c_ok (cons_ok c_ok nil_ok))) (show 3 ≤ 100000 by decide))) (show 13 ≤ 100000 by decide)
  have t3 := ret_to (op_ok (g := gAdd) (op_ok (g := gAdd) (fa := fVar 0) (ρ := [some (.p (.list O2)), none]) (var_ok rfl) q1 (gAdd_l (xs := O2) (ys := NW.map fun w : PyData => PyData.tuple [.str "a", w]) (show 11 + 13 ≤ 100000 by decide))) q2 (gAdd_l (xs := O2 ++ NW.map fun w : PyData => PyData.tuple [.str "a", w]) (ys := NW.map fun w : PyData => PyData.tuple [w, .str "a", .str "b"]) (show 24 + 13 ≤ 100000 by decide)))
  exact runD_pure0 (N := 2) (args := []) ((seq_to t1).trans ((seq_to t2).trans t3))
/-! ### _law_good -/
theorem Row_V {r : List Str} (h : Row r) : okV (.tuple (r.map PyData.str)) = true ∧ isRowV (.tuple (r.map PyData.str)) = true := by
  have h1 : okV (.tuple (r.map PyData.str)) = true := by
    show ((r.map PyData.str).all okS && decide ((r.map PyData.str).length ≤ 1000)) = true
    rw [Bool.and_eq_true, List.all_map, List.length_map]
    refine ⟨List.all_eq_true.mpr fun x hx => decide_eq_true ?_, decide_eq_true (Nat.le_trans h.2.2 (by decide))⟩
    have hw := h.1 x hx
    unfold isWord at hw
    simp only [Bool.and_eq_true, decide_eq_true_eq] at hw
    omega
  refine ⟨h1, ?_⟩
  have e1 := is_row_gen (.tuple (r.map PyData.str)) [] h1
  have e2 := is_row_ok r [] h
  have e3 : (Rs.ok (Dv.p (.bool (isRowV (.tuple (r.map PyData.str))))) [] : Rs Dv) = .ok (.p (.bool true)) [] := e1.symm.trans e2
  injection e3 with e4
  injection e4 with e5
  injection e5
theorem nil_V : okV (.tuple []) = true ∧ isRowV (.tuple []) = true := by decide +kernel
abbrev slG (r : List Str) (a1 a2 a3 a4 a5 : Option Dv) : Sl := [some (tw r), a1, a2, a3, a4, a5]
abbrev body5 : FS := sIf (fTNot (fTB (fCall d__law_only (fCons (fCall d__law_asked (fCons (fVar 3) (fCons (fVar 4) (fCons (fVar 5) (fNil))))) (fCons (fC (.str "row")) (fNil)))))) (sRet (fC (.bool false))) (sNext)
theorem body5_ok (r : List Str) (a1 a2 : Option Dv) (w : Nat) (v1 v2 : PyData) (st : So) (h : Bad v1 v2) : body5 (slG r a1 a2 (some (iD w)) (some (.p v1)) (some (.p v2))) st = .nx (slG r a1 a2 (some (iD w)) (some (.p v1)) (some (.p v2))) st :=
  if_next (not_t (tb_ok (call_ok (cons_ok (call_ok (cons_ok (var_ok rfl) (cons_ok (var_ok rfl) (cons_ok (var_ok rfl) nil_ok))) (asked_exc w (.p v1) (.p v2) st (fW_exc h))) (cons_ok c_ok nil_ok)) (only_ok st))))
def pq (p : PyData × PyData) : PyData := .tuple [p.1, p.2]
theorem pairs_loop (r : List Str) (a1 a2 : Option Dv) (w : Nat) (st : So) : ∀ (ps : List (PyData × PyData)) (a4 a5 : Option Dv), (∀ p ∈ ps, Bad p.1 p.2) →
    ∃ b4 b5, sForL (.tp [.nm 4, .nm 5]) body5 (ps.map fun p => Dv.p (pq p)) (slG r a1 a2 (some (iD w)) a4 a5) st = .nx (slG r a1 a2 (some (iD w)) b4 b5) st
  | [], a4, a5, _ => ⟨a4, a5, rfl⟩
  | p :: ps, a4, a5, h => by
    obtain ⟨b4, b5, ih⟩ := pairs_loop r a1 a2 w st ps (some (.p p.1)) (some (.p p.2)) fun q hq => h q (List.mem_cons_of_mem _ hq)
    refine ⟨b4, b5, (forL_next (ρ1 := slG r a1 a2 (some (iD w)) (some (.p p.1)) (some (.p p.2))) ?_ (body5_ok r a1 a2 w p.1 p.2 st (h p List.mem_cons_self))).trans ih⟩
    show tgF (.tp [.nm 4, .nm 5]) (.p (.tuple [p.1, p.2])) _ = _
    rw [tg_tpP, if_pos (by rfl)]
    simp only [List.map_cons, List.map_nil, tgs_cons, tg_nm, tgs_nil]
    rfl
abbrev body3 : FS := sForV (fPure (disp (fCons (fTup (fCons (fVar 1) (fCons (fVar 0) (fNil)))) (fCons (fTup (fCons (fVar 1) (fCons (fC .none) (fNil)))) (fCons (fTup (fCons (fVar 1) (fCons (fVar 1) (fNil)))) (fCons (fTup (fCons (fVar 0) (fCons (fVar 1) (fNil)))) (fCons (fTup (fCons (fTup (fNil)) (fCons (fVar 1) (fNil)))) (fNil)))))))) (.tp [.nm 4, .nm 5]) body5
abbrev ps5 (r : List Str) (v : PyData) : List (PyData × PyData) := [(v, .tuple (r.map PyData.str)), (v, .none), (v, v), (.tuple (r.map PyData.str), v), (.tuple [], v)]
theorem bad5 {r : List Str} (hr : Row r) {v : PyData} (hv : v ∈ ODD) : ∀ p ∈ ps5 r v, Bad p.1 p.2 := fun p hp => by
  obtain ⟨h1, h2⟩ := odd_ok hv
  obtain ⟨h3, h4⟩ := Row_V hr
  obtain ⟨h5, h6⟩ := nil_V
  simp only [List.mem_cons, List.not_mem_nil, or_false] at hp
  rcases hp with rfl | rfl | rfl | rfl | rfl
  · exact .inl ⟨h1, h2⟩
  · exact .inl ⟨h1, h2⟩
  · exact .inl ⟨h1, h2⟩
  · exact .inr ⟨h3, h4, h1, h2⟩
  · exact .inr ⟨h5, h6, h1, h2⟩
theorem body3_ok {r : List Str} (hr : Row r) {v : PyData} (hv : v ∈ ODD) (a2 : Option Dv) (w : Nat) (a4 a5 : Option Dv) (st : So) : ∃ b4 b5, body3 (slG r (some (.p v)) a2 (some (iD w)) a4 a5) st = .nx (slG r (some (.p v)) a2 (some (iD w)) b4 b5) st := by
  obtain ⟨b4, b5, l⟩ := pairs_loop r (some (.p v)) a2 w st (ps5 r v) a4 a5 (bad5 hr hv)
  refine ⟨b4, b5, ?_⟩
  have v1 : fVar 1 (slG r (some (.p v)) a2 (some (iD w)) a4 a5) st = .ok (.p v) st := var_ok rfl
  have v0 : fVar 0 (slG r (some (.p v)) a2 (some (iD w)) a4 a5) st = .ok (.p (.tuple (r.map PyData.str))) st := var_ok rfl
  have two : ∀ {fa fb : FE} {x y : PyData}, fa (slG r (some (.p v)) a2 (some (iD w)) a4 a5) st = .ok (.p x) st → fb (slG r (some (.p v)) a2 (some (iD w)) a4 a5) st = .ok (.p y) st → fTup (fCons fa (fCons fb fNil)) (slG r (some (.p v)) a2 (some (iD w)) a4 a5) st = .ok (.p (pq (x, y))) st :=
    fun {fa fb x y} h1 h2 => tupP (xs := [x, y]) (cons_ok h1 (cons_ok h2 nil_ok)) (show 2 ≤ 100000 by decide)
  have d := dispP (xs := (ps5 r v).map pq) (cons_ok (two v1 v0) (cons_ok (two v1 c_ok) (cons_ok (two v1 v1) (cons_ok (two v0 v1) (cons_ok (two (tupP (xs := []) nil_ok (show 0 ≤ 100000 by decide)) v1) nil_ok))))) (show 5 ≤ 100000 by decide)
  exact (ev_forV d (items_lmap pq (ps5 r v) st)).trans l
theorem ways_loop {r : List Str} (hr : Row r) {v : PyData} (hv : v ∈ ODD) (a2 : Option Dv) (st : So) : ∀ (ws : List Nat) (a3 a4 a5 : Option Dv), ∃ b3 b4 b5, sForL (.nm 3) body3 (ws.map fun w => iD w) (slG r (some (.p v)) a2 a3 a4 a5) st = .nx (slG r (some (.p v)) a2 b3 b4 b5) st
  | [], a3, a4, a5 => ⟨a3, a4, a5, rfl⟩
  | w :: ws, a3, a4, a5 => by
    obtain ⟨c4, c5, e⟩ := body3_ok hr hv a2 w a4 a5 st
    obtain ⟨b3, b4, b5, ih⟩ := ways_loop hr hv a2 st ws (some (iD w)) c4 c5
    exact ⟨b3, b4, b5, (forL_next tg_nm e).trans ih⟩
abbrev body1 : FS := sFor (fRng rng1 (fCons (fC (.int 3)) (fNil))) (.nm 3) body3
theorem rng3 (ρ : Sl) (st : So) : fRng rng1 (fCons (fC (.int 3)) (fNil)) ρ st = .ok ((List.range 3).map fun k => iD k) st := by
  rw [ev_rng, cons_ok c_ok nil_ok, bind_ok, rng_pure (okR_small (by omega) (by omega))]
  exact congrArg (fun l => Rs.ok l st) (rngL_zero 3)
theorem odds_loop {r : List Str} (hr : Row r) (a2 : Option Dv) (st : So) : ∀ (vs : List PyData) (a1 a3 a4 a5 : Option Dv), (∀ v ∈ vs, v ∈ ODD) → ∃ b1 b3 b4 b5, sForL (.nm 1) body1 (vs.map Dv.p) (slG r a1 a2 a3 a4 a5) st = .nx (slG r b1 a2 b3 b4 b5) st
  | [], a1, a3, a4, a5, _ => ⟨a1, a3, a4, a5, rfl⟩
  | v :: vs, a1, a3, a4, a5, h => by
    obtain ⟨c3, c4, c5, e⟩ := ways_loop hr (h v List.mem_cons_self) a2 st (List.range 3) a3 a4 a5
    have e1 : body1 (slG r (some (.p v)) a2 a3 a4 a5) st = .nx (slG r (some (.p v)) a2 c3 c4 c5) st := by
      show sFor (fRng rng1 (fCons (fC (.int 3)) (fNil))) (.nm 3) body3 _ st = _
      rw [ev_for, rng3, st_ok]
      exact e
    obtain ⟨b1, b3, b4, b5, ih⟩ := odds_loop hr a2 st vs (some (.p v)) c3 c4 c5 fun u hu => h u (List.mem_cons_of_mem _ hu)
    exact ⟨b1, b3, b4, b5, (forL_next tg_nm e1).trans ih⟩
abbrev WIDE : List Str := chars S20
theorem Row_WIDE : Row WIDE := by
  have h : ((WIDE.all isWord) && decide WIDE.Nodup && decide (WIDE.length ≤ 20)) = true := by decide +kernel
  rw [Bool.and_eq_true, Bool.and_eq_true, decide_eq_true_eq, decide_eq_true_eq, List.all_eq_true] at h
  exact ⟨h.1.1, h.1.2, h.2⟩
theorem law_good_ok {r : List Str} (hr : Row r) (st : So) (hF : Flat st) : d__law_good [tw r] st = .ok (.p (.bool true)) st := by
  obtain ⟨b1, b3, b4, b5, l⟩ := odds_loop hr none st ODD none none none none fun _ h => h
  have t1 : sForV (fCall d__law_no_rows fNil) (.nm 1) body1 (slG r none none none none none) st = .nx (slG r b1 none b3 b4 b5) st := (ev_forV (call_ok nil_ok (no_rows_ok st)) (items_l ODD st)).trans l
  have t2 := asg_to (i := 2) (ρ := slG r b1 none b3 b4 b5) (chars_ok S20 _ st (by decide +kernel)) (ρ' := slG r b1 (some (tw WIDE)) b3 b4 b5) rfl
  have c := lc_all (fi := fRng rng1 (fCons (fC (.int 3)) (fNil))) (tg := .nm 3) (fe := fAnd (fOp gIs (fCall d__law_asked (fCons (fVar 3) (fCons (fVar 2) (fCons (fVar 0) (fNil))))) (fC .none)) (fOp gIs (fCall d__law_asked (fCons (fVar 3) (fCons (fVar 0) (fCons (fVar 2) (fNil))))) (fC .none)))
    (ρ := slG r b1 (some (tw WIDE)) b3 b4 b5) (st := st) (xs := List.range 3) (f := fun k => iD k) (slG r b1 (some (tw WIDE)) none b4 b5) (fun k : Nat => slG r b1 (some (tw WIDE)) (some (iD k)) b4 b5) (fun k : Nat => Dv.p (.bool true)) (rng3 _ st) (by decide) rfl (fun k _ => tg_nm) (fun k _ => by
      obtain ⟨z1, h1⟩ := fW_ok (w := k) (st := st) Row_WIDE hr hF
      obtain ⟨z2, h2⟩ := fW_ok (w := k) (st := st) hr Row_WIDE hF
      exact and_t (op_ok (call_ok (cons_ok (var_ok rfl) (cons_ok (var_ok rfl) (cons_ok (var_ok rfl) nil_ok))) (asked_ok k _ _ z1 st h1)) c_ok rfl)
        (op_ok (call_ok (cons_ok (var_ok rfl) (cons_ok (var_ok rfl) (cons_ok (var_ok rfl) nil_ok))) (asked_ok k _ _ z2 st h2)) c_ok rfl))
  have g := gAll_b ((List.range 3).map fun _ => true) st
  rw [List.map_map] at g
  have t3 := ret_to (cb_ok (g := gAll) (cons_ok (pure_to c (by rw [List.length_map, List.length_range]; decide)) nil_ok) g)
  exact runD_pure0 (N := 6) (args := [tw r]) ((seq_to t1).trans ((seq_to t2).trans t3))
end FB.K52
set_option Elab.async false
set_option linter.all false
set_option maxRecDepth 100000
set_option maxHeartbeats 4000000
/-! E52d: rows drawn; the law. -/
namespace FB.K52
open PySem PySem.Spec PyProof.Rows L2 RZ FB
theorem sl_ok {fa : FE} {fl fh : FO} {ρ : Sl} {st : So} {x z : Dv} {lo hi : Option Int} (h1 : fa ρ st = .ok x st) (h2 : fl ρ st = .ok lo st) (h3 : fh ρ st = .ok hi st) (h4 : gSl x lo hi st = some z) : fSl fa fl fh ρ st = .ok z st := by
  rw [ev_sl, h1, bind_ok, h2, bind_ok, h3, bind_ok, h4, toR_some]
theorem pt_ok {fa : FE} {ρ : Sl} {st : So} {k : Int} (h : fa ρ st = .ok (.p (.int k)) st) : fPt fa ρ st = .ok (some k) st := by rw [ev_pt, h, bind_ok, ev_asI]
theorem sl_lo_l (ws : List Str) (k : Nat) (st : So) (h : k ≤ ws.length) : gSl (lw ws) (some (k : Int)) none st = some (lw (ws.drop k)) := by
  show (seqOf (lw ws) st).map (fun xs => mkL (cutD xs (some (k : Int)) none)) = _
  rw [seq_lw]
  show some (mkL (cutD (ws.map sD) (some (k : Int)) none)) = _
  have e : cutD (ws.map sD) (some (k : Int)) none = (ws.drop k).map sD := by
    unfold cutD
    rw [List.length_map, sIx_nat _ h]
    show ((ws.map sD).drop k).take (ws.length - k) = _
    rw [← List.map_drop]
    apply List.take_of_length_le
    rw [List.length_map, List.length_drop]
    exact Nat.le_refl _
  rw [e, mkL_s]
theorem sl_hi_l (ws : List Str) (k : Nat) (st : So) (h : k ≤ ws.length) : gSl (lw ws) none (some (k : Int)) st = some (lw (ws.take k)) := by
  show (seqOf (lw ws) st).map (fun xs => mkL (cutD xs none (some (k : Int)))) = _
  rw [seq_lw]
  show some (mkL (cutD (ws.map sD) none (some (k : Int)))) = _
  have e : cutD (ws.map sD) none (some (k : Int)) = (ws.take k).map sD := by
    unfold cutD
    rw [List.length_map, sIx_nat _ h]
    show (List.drop 0 (ws.map sD)).take (k - 0) = _
    rw [List.drop_zero, Nat.sub_zero, List.map_take]
  rw [e, mkL_s]
abbrev SOME8 : List Str := ["a", "ab", "absent", "front", "x", "abcdefgh", "drop", "present"]
def turn8 (i : Nat) : List Str := (SOME8.drop i ++ SOME8.take i).take 8
structure Wds (W : List Str) : Prop where
  nd : W.Nodup
  len : W.length = 8
  ok : ∀ w ∈ W, isWord w = true
theorem turn8_all : ((List.range 8).all fun i => decide (turn8 i).Nodup && decide ((turn8 i).length = 8) && (turn8 i).all isWord) = true := by decide +kernel
theorem turn8_ok {i : Nat} (h : i < 8) : Wds (turn8 i) := by
  have := List.all_eq_true.mp turn8_all i (List.mem_range.mpr h)
  rw [Bool.and_eq_true, Bool.and_eq_true, decide_eq_true_eq, decide_eq_true_eq, List.all_eq_true] at this
  exact ⟨this.1.1, this.1.2, this.2⟩
theorem words_ok {s : So} {o : Nat} {n : Int} (h : s[o]? = some (own n)) : ∃ n' W, Wds W ∧ d__law_words [.ref o, zD 8] s = .ok (lw W) (s.set o (own n')) := by
  obtain ⟨i, e, hi⟩ := draw (n := n) (k := 8) (by decide)
  refine ⟨n / 8, turn8 i, turn8_ok hi, ?_⟩
  have tk := take_ok (k := 8) h (by decide) (by decide)
  have e8 : n % (8 : Int) = (i : Int) := e
  rw [e8] at tk
  have t1 := asg_to (i := 2) (ρ := [some (.ref o), some (zD 8), none, none]) (disp_ok (st := s) (st1 := s) (ws := SOME8) (cons_ok c_ok (cons_ok c_ok (cons_ok c_ok (cons_ok c_ok (cons_ok c_ok (cons_ok c_ok (cons_ok c_ok (cons_ok c_ok nil_ok)))))))) (show 8 ≤ 100000 by decide)) (ρ' := [some (.ref o), some (zD 8), some (lw SOME8), none]) rfl
  have t2 := asg_to (i := 3) (ρ := [some (.ref o), some (zD 8), some (lw SOME8), none]) (call_ok (fr := fCons (fVar 0) (fCons (fC (.int 8)) (fNil))) (cons_ok (var_ok rfl) (cons_ok c_ok nil_ok)) tk) (ρ' := [some (.ref o), some (zD 8), some (lw SOME8), some (iD i)]) rfl
  generalize hz : s.set o (own (n / 8)) = z at *
  have hl8 : SOME8.length = 8 := rfl
  have a : fOp gAdd (fSl (fVar 2) (fPt (fVar 3)) (fNoP)) (fSl (fVar 2) (fNoP) (fPt (fVar 3))) [some (.ref o), some (zD 8), some (lw SOME8), some (iD i)] z = .ok (lw (SOME8.drop i ++ SOME8.take i)) z :=
    op_ok (sl_ok (var_ok rfl) (pt_ok (var_ok rfl)) rfl (sl_lo_l SOME8 i z (by rw [hl8]; omega))) (sl_ok (var_ok rfl) rfl (pt_ok (var_ok rfl)) (sl_hi_l SOME8 i z (by rw [hl8]; omega))) (gAdd_lw (by rw [List.length_drop, List.length_take, hl8]; omega))
  have t3 := ret_to (sl_ok (fl := fNoP) (fh := fPt (fVar 1)) a rfl (pt_ok (var_ok rfl)) (sl_hi_l (SOME8.drop i ++ SOME8.take i) 8 z (by rw [List.length_append, List.length_drop, List.length_take, hl8]; omega)))
  have r := runD_ret (N := 4) (body := m__law_words) (args := [.ref o, zD 8]) ((seq_to t1).trans ((seq_to t2).trans t3))
  rw [trim_same (by rw [← hz, List.length_set])] at r
  exact r
/-! ### _law_row -/
abbrev slR (o : Nat) (W : List Str) (l f : Nat) (w : Option Dv) : Sl := [some (.ref o), some (lw W), some (.ref l), some (.ref f), w]
abbrev testN : FT := fTB (fOp gNe (fVar 2) (fPure (disp fNil)))
abbrev bodyN : FS := sSeq (sAsg (fMth gPopAt (fVar 2) (fCons (fCall d__law_take (fCons (fVar 0) (fCons (fCB gLen (fCons (fVar 2) (fNil))) (fNil)))) (fNil))) (.nm 4)) (sIf (fTB (fOp gGt (fCall d__law_take (fCons (fVar 0) (fCons (fC (.int 3)) (fNil)))) (fC (.int 0)))) (sDrop (fMth gAppend (fVar 3) (fCons (fVar 4) (fNil)))) (sNext))
theorem bodyN_ok {st : So} {o : Nat} {n : Int} {W left found : List Str} {w : Option Dv} (ho : o < st.length) (hl : 0 < left.length) (hl2 : left.length ≤ 100) (hf : found.length ≤ 100) :
    ∃ (n' : Int) (i : Nat) (hi : i < left.length) (w' : Option Dv) (found' : List Str), bodyN (slR o W st.length (st.length + 1) w) (SS st o n [CS left, CS found]) = .nx (slR o W st.length (st.length + 1) w') (SS st o n' [CS (left.eraseIdx i), CS found']) ∧ (found' = found ∨ found' = found ++ [left[i]]) := by
  obtain ⟨i, e, hi⟩ := draw (n := n) hl
  have r0 : ∀ (m : Int) (l f : List Str), (SS st o m [CS l, CS f])[st.length]? = some (CS l) := fun m l f => SS_rest (j := 0)
  have r1 : ∀ (m : Int) (l f : List Str), (SS st o m [CS l, CS f])[st.length + 1]? = some (CS f) := fun m l f => SS_rest (j := 1)
  have t := take_SS (n := n) (k := (left.length : Int)) (rest := [CS left, CS found]) ho (by omega) (by omega)
  rw [e] at t
  generalize hn1 : n / (left.length : Int) = n1 at t
  have p := pop_ok (r0 n1 left found) hi (by omega)
  have sp : (SS st o n1 [CS left, CS found]).set st.length (CS (left.eraseIdx i)) = SS st o n1 [CS (left.eraseIdx i), CS found] := SS_rset (j := 0)
  rw [sp] at p
  have t1 := asg_to (i := 4) (ρ := slR o W st.length (st.length + 1) w) (mth_ok (fo := fVar 2) (var_ok rfl) (isLst_CS (r0 n left found)) (cons_ok (call_ok (fr := fCons (fVar 0) (fCons (fCB gLen (fCons (fVar 2) (fNil))) (fNil))) (cons_ok (var_ok rfl) (cons_ok (cb_ok (cons_ok (var_ok rfl) nil_ok) (len_ref (r0 n left found))) nil_ok)) t) nil_ok) p) (ρ' := slR o W st.length (st.length + 1) (some (sD left[i]))) rfl
  have t3 := take_SS (n := n1) (k := 3) (rest := [CS (left.eraseIdx i), CS found]) ho (by decide) (by decide)
  have tst : fTB (fOp gGt (fCall d__law_take (fCons (fVar 0) (fCons (fC (.int 3)) (fNil)))) (fC (.int 0))) (slR o W st.length (st.length + 1) (some (sD left[i]))) (SS st o n1 [CS (left.eraseIdx i), CS found]) = .ok (decide (0 < n1 % 3)) (SS st o (n1 / 3) [CS (left.eraseIdx i), CS found]) :=
    tb_ok (op_ok (call_ok (cons_ok (var_ok rfl) (cons_ok c_ok nil_ok)) t3) c_ok gt_z)
  by_cases hc : 0 < n1 % 3
  · rw [decide_eq_true hc] at tst
    have q := app_ok (w := left[i]) (r1 (n1 / 3) (left.eraseIdx i) found) (by omega)
    have sq : (SS st o (n1 / 3) [CS (left.eraseIdx i), CS found]).set (st.length + 1) (CS (found ++ [left[i]])) = SS st o (n1 / 3) [CS (left.eraseIdx i), CS (found ++ [left[i]])] := SS_rset (j := 1)
    rw [sq] at q
    exact ⟨n1 / 3, i, hi, _, found ++ [left[i]], (seq_to t1).trans ((if_true_to tst).trans (drop_to (mth_ok (fo := fVar 3) (var_ok rfl) (isLst_CS (r1 (n1 / 3) (left.eraseIdx i) found)) (cons_ok (var_ok rfl) nil_ok) q))), .inr rfl⟩
  · rw [decide_eq_false hc] at tst
    exact ⟨n1 / 3, i, hi, _, found, (seq_to t1).trans (if_next tst), .inl rfl⟩
theorem SOkL_words {ws : List Str} (h : ∀ w ∈ ws, isWord w = true) : SOkL ws := fun w hw => word_ok (h w hw)
theorem loopN_ok {st : So} {o : Nat} {W : List Str} (hW : Wds W) (ho : o < st.length) : ∀ (f : Nat) (n : Int) (w : Option Dv) (left found rest : List Str), left.length < f → (left ++ found ++ rest).Perm W →
    ∃ (n' : Int) (w' : Option Dv) (found' rest' : List Str), sWhN testN bodyN f (slR o W st.length (st.length + 1) w) (SS st o n [CS left, CS found]) = .nx (slR o W st.length (st.length + 1) w') (SS st o n' [CS [], CS found']) ∧ (found' ++ rest').Perm W
  | 0, n, w, left, found, rest, h, _ => absurd h (Nat.not_lt_zero _)
  | f + 1, n, w, left, found, rest, h, p => by
    have plen := p.length_eq
    rw [List.length_append, List.length_append, hW.len] at plen
    have hlw : SOkL left := SOkL_words fun x hx => hW.ok x (p.mem_iff.mp (List.mem_append.mpr (.inl (List.mem_append.mpr (.inl hx)))))
    have r0 : (SS st o n [CS left, CS found])[st.length]? = some (CS left) := SS_rest (j := 0)
    have tst : testN (slR o W st.length (st.length + 1) w) (SS st o n [CS left, CS found]) = .ok (!decide (left = [])) (SS st o n [CS left, CS found]) := tb_ok (op_ok (var_ok rfl) disp_nil (ne_nil r0 hlw))
    unfold sWhN
    rw [tst, st_ok]
    by_cases he : left = []
    · subst he
      rw [decide_eq_true rfl, Bool.not_true, if_neg Bool.false_ne_true]
      exact ⟨n, w, found, rest, rfl, by simpa using p⟩
    · rw [decide_eq_false he, Bool.not_false, if_pos rfl]
      have hpos : 0 < left.length := List.length_pos_iff.mpr he
      obtain ⟨n1, i, hi, w1, found1, e, hf1⟩ := bodyN_ok (n := n) (W := W) (w := w) (left := left) (found := found) ho hpos (by omega) (by omega)
      rw [e]
      have hlen : (left.eraseIdx i).length = left.length - 1 := List.length_eraseIdx_of_lt hi
      have pe := perm_erase left i hi
      have p1 : ∃ rest1, (left.eraseIdx i ++ found1 ++ rest1).Perm W := by
        rcases hf1 with rfl | rfl
        · refine ⟨left[i] :: rest, List.Perm.trans ?_ p⟩
          have q : (left.eraseIdx i ++ found1 ++ left[i] :: rest).Perm (left[i] :: (left.eraseIdx i ++ found1 ++ rest)) := List.perm_middle
          refine q.trans ?_
          have q2 : (left[i] :: (left.eraseIdx i ++ found1 ++ rest)) = (left[i] :: left.eraseIdx i) ++ found1 ++ rest := rfl
          rw [q2]
          exact (pe.append_right found1).append_right rest
        · refine ⟨rest, List.Perm.trans ?_ p⟩
          have q : (left.eraseIdx i ++ (found ++ [left[i]]) ++ rest).Perm (left[i] :: left.eraseIdx i ++ found ++ rest) := by
            refine List.Perm.append_right rest ?_
            rw [← List.append_assoc]
            exact (List.perm_append_comm (l₁ := left.eraseIdx i ++ found) (l₂ := [left[i]]))
          exact q.trans ((pe.append_right found).append_right rest)
      obtain ⟨rest1, p1⟩ := p1
      obtain ⟨n', w', found', rest', e2, p2⟩ := loopN_ok hW ho f n1 w1 (left.eraseIdx i) found1 rest1 (by omega) p1
      exact ⟨n', w', found', rest', e2, p2⟩
theorem gTuple_ref {s : So} {c : Nat} {ws : List Str} (h : s[c]? = some (CS ws)) (hl : ws.length ≤ 1000) : gTuple [.ref c] s = some (tw ws) := by
  have h' : lstOf (.ref c) s = some (ws.map sD) := seq_ref h
  show (match tupOf (.ref c) with | some _ => some (Dv.ref c) | none => match lstOf (.ref c) s with
      | some ys => if small ys then some (mkT ys) else none
      | none => none) = _
  rw [h']
  show (if small (ws.map sD) then some (mkT (ws.map sD)) else none) = _
  rw [small_map, decide_eq_true (by omega), if_pos rfl, mkT_s]
theorem row_ok {s : So} {o : Nat} {n : Int} {W : List Str} (hW : Wds W) (h : s[o]? = some (own n)) (hF : Flat s) : ∃ n' r, Row r ∧ d__law_row [.ref o, lw W] s = .ok (tw r) (s.set o (own n')) := by
  have ho := (List.getElem?_eq_some_iff.mp h).1
  have hs : s = s.set o (own n) := by
    obtain ⟨h1, h2⟩ := List.getElem?_eq_some_iff.mp h
    rw [← h2]
    exact (List.set_getElem_self h1).symm
  obtain ⟨n', w', found', rest', tl, p⟩ := loopN_ok hW (st := s) (o := o) ho 100000 n none W [] [] (by rw [hW.len]; decide) (by rw [List.append_nil, List.append_nil])
  have plen := p.length_eq
  rw [List.length_append, hW.len] at plen
  have hR : Row found' := ⟨fun x hx => hW.ok x (p.mem_iff.mp (List.mem_append.mpr (.inl hx))), (List.nodup_append.mp (p.nodup_iff.mpr hW.nd)).1, by omega⟩
  refine ⟨n', found', hR, ?_⟩
  have c1 : fCell (fListOf (fVar 1)) [some (.ref o), some (lw W), none, none, none] s = .ok (.ref s.length) (s ++ [CS W]) := by
    rw [ev_cell, ev_list, var_ok (d := lw W) rfl, bind_ok, seq_lw]
    dsimp only
    rw [small_map, decide_eq_true (by rw [hW.len]; decide), if_pos rfl, bind_ok, small_map, decide_eq_true (by rw [hW.len]; decide), if_pos rfl]
    rfl
  have c2 : fCell (disp fNil) [some (.ref o), some (lw W), none, none, none] (s ++ [CS W]) = .ok (.ref (s.length + 1)) (s ++ [CS W, CS []]) := by
    have : disp fNil [some (.ref o), some (lw W), none, none, none] (s ++ [CS W]) = .ok [] (s ++ [CS W]) := disp_to nil_ok (by decide)
    rw [ev_cell, this, bind_ok, if_pos (by rfl), List.append_assoc, List.length_append]
    rfl
  have es : s ++ [CS W, CS []] = SS s o n [CS W, CS []] := by
    unfold SS
    rw [← hs]
  rw [es] at c2
  have t1 := par_to (fr := fCons (fCell (fListOf (fVar 1))) (fCons (fCell (disp fNil)) (fNil))) (i := 2) (j := 3) (ρ := [some (.ref o), some (lw W), none, none, none]) (st := s) (cons_ok c1 (cons_ok c2 nil_ok)) (ρ' := slR o W s.length (s.length + 1) none) rfl
  have t2 : sWh testN bodyN 100000 (slR o W s.length (s.length + 1) none) (SS s o n [CS W, CS []]) = .nx (slR o W s.length (s.length + 1) w') (SS s o n' [CS [], CS found']) := tl
  have t3 := ret_to (fa := fCB gTuple (fCons (fVar 3) (fNil))) (ρ := slR o W s.length (s.length + 1) w') (st := SS s o n' [CS [], CS found']) (cb_ok (cons_ok (var_ok rfl) nil_ok) (gTuple_ref (SS_rest (j := 1)) (by omega)))
  have r := runD_ret (N := 5) (body := m__law_row) (args := [.ref o, lw W]) (st := s) ((seq_to t1).trans ((seq_to t2).trans t3))
  have tr : trim s.length (tw found') (SS s o n' [CS [], CS found']) = s.set o (own n') := by
    unfold SS
    exact trim_app' (by rw [List.length_set]) (hF.set (flat_lst [.int n'])) rfl
  rw [tr] at r
  exact r
/-! ### law -/
abbrev slW (ns : List Int) (a1 a2 : Option Dv) : Sl := [some (.frz ns), a1, a2]
abbrev bodyT : FS := sSeq (sAsg (fCell (disp (fCons (fCall d__law_cell (fCons (fVar 0) (fCons (fVar 1) (fNil)))) (fNil)))) (.nm 2)) (sIf (fTNot (fTB (fCall d__law_good (fCons (fCall d__law_row (fCons (fVar 2) (fCons (fCall d__law_words (fCons (fVar 2) (fCons (fC (.int 8)) (fNil)))) (fNil)))) (fNil))))) (sRet (fC (.bool false))) (sNext))
theorem loopT (ns : List Int) : ∀ (ks : List Nat) (a1 a2 : Option Dv) (s : So), Flat s → (∀ k ∈ ks, k < 1000) → ∃ b1 b2 s', sForL (.nm 1) bodyT (ks.map fun k => iD k) (slW ns a1 a2) s = .nx (slW ns b1 b2) s' ∧ Flat s'
  | [], a1, a2, s, hF, h => ⟨_, _, s, rfl, hF⟩
  | k :: ks, a1, a2, s, hF, h => by
    obtain ⟨v, hv⟩ := cell_ok ns k s (h k List.mem_cons_self)
    have c1 : fCons (fCall d__law_cell (fCons (fVar 0) (fCons (fVar 1) (fNil)))) (fNil) (slW ns (some (iD k)) a2) s = .ok [zD v] s := cons_ok (call_ok (cons_ok (var_ok rfl) (cons_ok (var_ok rfl) nil_ok)) hv) nil_ok
    have c3 : fCell (disp (fCons (fCall d__law_cell (fCons (fVar 0) (fCons (fVar 1) (fNil)))) (fNil))) (slW ns (some (iD k)) a2) s = .ok (.ref s.length) (s ++ [own v]) := cell_to (disp_to c1 (show 1 ≤ 100000 by decide)) (show 1 ≤ 100000 by decide)
    have hF2 : Flat (s ++ [own v]) := hF.app (Flat.one (flat_lst [.int v]))
    have hat : (s ++ [own v])[s.length]? = some (own v) := by
      rw [List.getElem?_append_right (Nat.le_refl _), Nat.sub_self]; rfl
    have t1 := asg_to (i := 2) c3 (ρ' := slW ns (some (iD k)) (some (.ref s.length))) rfl
    obtain ⟨n1, W, hW, ew⟩ := words_ok hat
    have hlt := (List.getElem?_eq_some_iff.mp hat).1
    have hF3 : Flat ((s ++ [own v]).set s.length (own n1)) := hF2.set (flat_lst [.int n1])
    obtain ⟨n2, r, hR, er⟩ := row_ok (s := (s ++ [own v]).set s.length (own n1)) (n := n1) hW (List.getElem?_set_self hlt) hF3
    rw [List.set_set] at er
    have hF4 : Flat ((s ++ [own v]).set s.length (own n2)) := hF2.set (flat_lst [.int n2])
    have g := law_good_ok hR ((s ++ [own v]).set s.length (own n2)) hF4
    have t2 := if_next (ga := sRet (fC (.bool false))) (ρ := slW ns (some (iD k)) (some (.ref s.length))) (st := s ++ [own v]) (not_t (tb_ok (call_ok (F := d__law_good) (cons_ok (call_ok (F := d__law_row) (fr := fCons (fVar 2) (fCons (fCall d__law_words (fCons (fVar 2) (fCons (fC (.int 8)) (fNil)))) (fNil))) (cons_ok (var_ok rfl) (cons_ok (call_ok (cons_ok (var_ok rfl) (cons_ok c_ok nil_ok)) ew) nil_ok)) er) nil_ok) g)))
    obtain ⟨b1, b2, s', ih, hF'⟩ := loopT ns ks (some (iD k)) (some (.ref s.length)) _ hF4 (fun j hj => h j (List.mem_cons_of_mem _ hj))
    exact ⟨b1, b2, s', (forL_next tg_nm ((seq_to t1).trans t2)).trans ih, hF'⟩
theorem turns_ok (ns : List Int) (hn : ns.length ≤ 63) (ρ : Sl) (st : So) (h0 : ρ[0]? = some (some (.frz ns))) : ∃ m : Nat, m ≤ 5 ∧ fRng rng1 (fCons (fCB gMax (fCons (fCB gMin (fCons (fCB gLen (fCons (fVar 0) (fNil))) (fCons (fC (.int 3)) (fNil)))) (fCons (fC (.int 1)) (fNil)))) (fNil)) ρ st = .ok ((List.range m).map fun k => iD k) st := by
  have e1 : fCB gMin (fCons (fCB gLen (fCons (fVar 0) (fNil))) (fCons (fC (.int 3)) (fNil))) ρ st = .ok (zD (if (3 : Int) < ns.length then 3 else ns.length)) st :=
    cb_ok (cons_ok (cb_ok (cons_ok (var_ok h0) nil_ok) (frz_len ns st)) (cons_ok c_ok nil_ok)) rfl
  generalize hq : (if (3 : Int) < ns.length then (3 : Int) else ns.length) = q at e1
  have hq5 : q ≤ 3 := by subst hq; split <;> omega
  have hq0 : 0 ≤ q := by subst hq; split <;> omega
  have e2 : fCB gMax (fCons (fCB gMin (fCons (fCB gLen (fCons (fVar 0) (fNil))) (fCons (fC (.int 3)) (fNil)))) (fCons (fC (.int 1)) (fNil))) ρ st = .ok (zD (if (1 : Int) > q then 1 else q)) st :=
    cb_ok (cons_ok e1 (cons_ok c_ok nil_ok)) rfl
  generalize hr : (if (1 : Int) > q then (1 : Int) else q) = r at e2
  have hr5 : r ≤ 5 := by subst hr; split <;> omega
  have hr0 : 0 ≤ r := by subst hr; split <;> omega
  refine ⟨r.toNat, by omega, ?_⟩
  rw [ev_rng, cons_ok e2 nil_ok, bind_ok, rng_pure (okR_small (by omega) (by omega)), rngL_zero]
theorem Row_nil : Row [] := ⟨by decide +kernel, by decide +kernel, by decide⟩
theorem law_true (ns : List Int) (h : ns.length ≤ 63) : ∃ st', d_law [.frz ns] [] = .ok (.p (.bool true)) st' := by
  obtain ⟨m, hm, hr⟩ := turns_ok ns h (slW ns none none) [] rfl
  obtain ⟨b1, b2, st, hl, hF⟩ := loopT ns (List.range m) none none [] Flat.nil (fun k hk => by have := List.mem_range.mp hk; omega)
  have t1 : sFor (fRng rng1 (fCons (fCB gMax (fCons (fCB gMin (fCons (fCB gLen (fCons (fVar 0) (fNil))) (fCons (fC (.int 3)) (fNil)))) (fCons (fC (.int 1)) (fNil)))) (fNil))) (.nm 1) bodyT (slW ns none none) [] = .nx (slW ns b1 b2) st := by
    rw [ev_for, hr, st_ok, hl]
  have t2 := ret_to (fa := fCall d__law_good (fCons (fTup (fNil)) (fNil))) (ρ := slW ns b1 b2) (st := st) (call_ok (cons_ok (tupP (xs := []) nil_ok (show 0 ≤ 100000 by decide)) nil_ok) (law_good_ok Row_nil st hF))
  exact ⟨_, runD_ret (N := 3) (body := m_law) (args := [.frz ns]) ((seq_to t1).trans t2)⟩
end FB.K52
set_option Elab.async false
set_option linter.all false
set_option maxRecDepth 100000
set_option maxHeartbeats 0
namespace FB.K52
open PySem PySem.Spec PyProof.Rows L2 RZ FB
/-! ### the head: facts by names, the run -/
def dd_is_word : He.DefD := ⟨("is_word", none), "is_word", "is_word", defArgs s_is_word, defBody s_is_word, defScope s_is_word, [], []⟩
def dd_are_words : He.DefD := ⟨("are_words", none), "are_words", "are_words", defArgs s_are_words, defBody s_are_words, defScope s_are_words, [], []⟩
def dd_is_row : He.DefD := ⟨("is_row", none), "is_row", "is_row", defArgs s_is_row, defBody s_is_row, defScope s_is_row, [], []⟩
def dd_check_row : He.DefD := ⟨("check_row", none), "check_row", "check_row", defArgs s_check_row, defBody s_check_row, defScope s_check_row, [], []⟩
def dd_stretch_from : He.DefD := ⟨("stretch_from", none), "stretch_from", "stretch_from", defArgs s_stretch_from, defBody s_stretch_from, defScope s_stretch_from, [], []⟩
def dd_stretches_of : He.DefD := ⟨("stretches_of", none), "stretches_of", "stretches_of", defArgs s_stretches_of, defBody s_stretches_of, defScope s_stretches_of, [], []⟩
def dd_dropped_of : He.DefD := ⟨("dropped_of", none), "dropped_of", "dropped_of", defArgs s_dropped_of, defBody s_dropped_of, defScope s_dropped_of, [], []⟩
def dd_distance_of : He.DefD := ⟨("distance_of", none), "distance_of", "distance_of", defArgs s_distance_of, defBody s_distance_of, defScope s_distance_of, [], []⟩
def dd_distance : He.DefD := ⟨("distance", none), "distance", "distance", defArgs s_distance, defBody s_distance, defScope s_distance, [], []⟩
def dd_route_of : He.DefD := ⟨("route_of", none), "route_of", "route_of", defArgs s_route_of, defBody s_route_of, defScope s_route_of, [], []⟩
def dd_route : He.DefD := ⟨("route", none), "route", "route", defArgs s_route, defBody s_route, defScope s_route, [], []⟩
def dd_factorial : He.DefD := ⟨("factorial", none), "factorial", "factorial", defArgs s_factorial, defBody s_factorial, defScope s_factorial, [], []⟩
def dd_routes : He.DefD := ⟨("routes", none), "routes", "routes", defArgs s_routes, defBody s_routes, defScope s_routes, [], []⟩
def dd__law_mixed : He.DefD := ⟨("_law_mixed", none), "_law_mixed", "_law_mixed", defArgs s__law_mixed, defBody s__law_mixed, defScope s__law_mixed, [], []⟩
def dd__law_cell : He.DefD := ⟨("_law_cell", none), "_law_cell", "_law_cell", defArgs s__law_cell, defBody s__law_cell, defScope s__law_cell, [], []⟩
def dd__law_take : He.DefD := ⟨("_law_take", none), "_law_take", "_law_take", defArgs s__law_take, defBody s__law_take, defScope s__law_take, [], []⟩
def dd__law_words : He.DefD := ⟨("_law_words", none), "_law_words", "_law_words", defArgs s__law_words, defBody s__law_words, defScope s__law_words, [], []⟩
def dd__law_row : He.DefD := ⟨("_law_row", none), "_law_row", "_law_row", defArgs s__law_row, defBody s__law_row, defScope s__law_row, [], []⟩
def dd__law_no_words : He.DefD := ⟨("_law_no_words", none), "_law_no_words", "_law_no_words", defArgs s__law_no_words, defBody s__law_no_words, defScope s__law_no_words, [], []⟩
def dd__law_no_rows : He.DefD := ⟨("_law_no_rows", none), "_law_no_rows", "_law_no_rows", defArgs s__law_no_rows, defBody s__law_no_rows, defScope s__law_no_rows, [], []⟩
def dd__law_kinds : He.DefD := ⟨("_law_kinds", none), "_law_kinds", "_law_kinds", defArgs s__law_kinds, defBody s__law_kinds, defScope s__law_kinds, [], []⟩
def dd__law_only : He.DefD := ⟨("_law_only", none), "_law_only", "_law_only", defArgs s__law_only, defBody s__law_only, defScope s__law_only, [], []⟩
def dd__law_asked : He.DefD := ⟨("_law_asked", none), "_law_asked", "_law_asked", defArgs s__law_asked, defBody s__law_asked, defScope s__law_asked, [], []⟩
def dd__law_good : He.DefD := ⟨("_law_good", none), "_law_good", "_law_good", defArgs s__law_good, defBody s__law_good, defScope s__law_good, [], []⟩
def dd_law : He.DefD := ⟨("law", none), "law", "law", defArgs s_law, defBody s_law, defScope s_law, [], []⟩
def fnL : List He.DefD := [dd_is_word, dd_are_words, dd_is_row, dd_check_row, dd_stretch_from, dd_stretches_of, dd_dropped_of, dd_distance_of, dd_distance, dd_route_of, dd_route, dd_factorial, dd_routes, dd__law_mixed, dd__law_cell, dd__law_take, dd__law_words, dd__law_row, dd__law_no_words, dd__law_no_rows, dd__law_kinds, dd__law_only, dd__law_asked, dd__law_good, dd_law]
def faL : List He.Fa := [.glo "is_word", .glo "are_words", .glo "is_row", .glo "check_row", .glo "stretch_from", .glo "stretches_of", .glo "dropped_of", .glo "distance_of", .glo "distance", .glo "route_of", .glo "route", .glo "factorial", .glo "routes", .glo "_law_mixed", .glo "_law_cell", .glo "_law_take", .glo "_law_words", .glo "_law_row", .glo "_law_no_words", .glo "_law_no_rows", .glo "_law_kinds", .glo "_law_only", .glo "_law_asked", .glo "_law_good", .glo "law", .free "ValueError", .free "all", .free "enumerate", .free "int", .free "isinstance", .free "len", .free "list", .free "max", .free "min", .free "range", .free "set", .free "str", .free "tuple", .str "LETTERS" "abcdefghijklmnopqrstuvwxyz", .int "LONGEST" 8, .int "MOST_ROW" 20, .glo "InvalidRow", .exc "InvalidRow", .glo "FrontBackError", .glo "InvalidFences", .glo "InvalidMeaning", .glo "InvalidNames", .glo "InvalidNumber", .glo "InvalidOperation", .glo "InvalidProgram", .glo "InvalidResults", .glo "InvalidRows", .glo "InvalidWord", .glo "Locked", .glo "TooLarge", .exm "InvalidRow" "FrontBackError" true]
abbrev R : PySem.W.OpenRow := PySem.W.OpenLaw.row PySem.Challenge.rw_frontback_k52_errors_of_routes
def exL : List (PySem.W.Frag → Bool) := [excCB "InvalidRow", kitXB "InvalidRow" "FrontBackError" true, kitXB "InvalidRow" "InvalidFences" false, kitXB "InvalidRow" "InvalidMeaning" false, kitXB "InvalidRow" "InvalidNames" false, kitXB "InvalidRow" "InvalidNumber" false, kitXB "InvalidRow" "InvalidOperation" false, kitXB "InvalidRow" "InvalidProgram" false, kitXB "InvalidRow" "InvalidResults" false, kitXB "InvalidRow" "InvalidRow" true, kitXB "InvalidRow" "InvalidRows" false, kitXB "InvalidRow" "InvalidWord" false, kitXB "InvalidRow" "Locked" false, kitXB "InvalidRow" "TooLarge" false, kitTB "InvalidRow" "ValueError" true]
abbrev hk : PySem.W.Hook := hookX 4 faL fnL exL
def ob (s : PySem.W.SharedT) : He.AlD := obsXG 4 faL fnL exL (HandSHeadRun.getT s)
theorem ob_eq (s : PySem.W.SharedT) : ob s = hk.obs s.abs := obsXG_eq (HandSHeadRun.getT_eq s)
def loose0 : List Str := ["FrontBackError", "InvalidRow", "InvalidRows", "InvalidProgram", "InvalidOperation", "InvalidWord", "InvalidNames", "InvalidMeaning", "InvalidNumber", "InvalidFences", "InvalidResults", "TooLarge", "Locked", "LETTERS", "LONGEST", "MOST_ROW", "is_word", "are_words", "is_row", "check_row"]
def loose1 : List Str := ["stretch_from", "stretches_of", "dropped_of", "distance_of", "distance", "route_of", "route", "factorial", "routes", "_law_mixed", "_law_cell", "_law_take", "_law_words", "_law_row", "_law_no_words", "_law_no_rows", "_law_kinds", "_law_only", "_law_asked", "_law_good"]
abbrev looseL : List Str := loose0 ++ loose1
theorem run (w : World) : HandSHeadRun.RunEq R (PySem.W.view R.prog [44]) hk ob 20000 looseL w := by
  intro os
  kernel_rfl
theorem facts {K : PySem.W.Frag} {h : Heap} {mg : Str → Option Value} {f : Addr} (X : K.In h) (G : h.Ns mainGlobals mg) (hfa : mg ("law" : Str) = some (.ref f)) (cx : SaysX faL fnL exL K) :
    ∃ S : Fs K mg, S.a_law = f := by
  have c := cx.d
  obtain ⟨h_is_word, F_is_word⟩ := c.def_ 0 (d := dd_is_word) rfl
  obtain ⟨h_are_words, F_are_words⟩ := c.def_ 1 (d := dd_are_words) rfl
  obtain ⟨h_is_row, F_is_row⟩ := c.def_ 2 (d := dd_is_row) rfl
  obtain ⟨h_check_row, F_check_row⟩ := c.def_ 3 (d := dd_check_row) rfl
  obtain ⟨h_stretch_from, F_stretch_from⟩ := c.def_ 4 (d := dd_stretch_from) rfl
  obtain ⟨h_stretches_of, F_stretches_of⟩ := c.def_ 5 (d := dd_stretches_of) rfl
  obtain ⟨h_dropped_of, F_dropped_of⟩ := c.def_ 6 (d := dd_dropped_of) rfl
  obtain ⟨h_distance_of, F_distance_of⟩ := c.def_ 7 (d := dd_distance_of) rfl
  obtain ⟨h_distance, F_distance⟩ := c.def_ 8 (d := dd_distance) rfl
  obtain ⟨h_route_of, F_route_of⟩ := c.def_ 9 (d := dd_route_of) rfl
  obtain ⟨h_route, F_route⟩ := c.def_ 10 (d := dd_route) rfl
  obtain ⟨h_factorial, F_factorial⟩ := c.def_ 11 (d := dd_factorial) rfl
  obtain ⟨h_routes, F_routes⟩ := c.def_ 12 (d := dd_routes) rfl
  obtain ⟨h__law_mixed, F__law_mixed⟩ := c.def_ 13 (d := dd__law_mixed) rfl
  obtain ⟨h__law_cell, F__law_cell⟩ := c.def_ 14 (d := dd__law_cell) rfl
  obtain ⟨h__law_take, F__law_take⟩ := c.def_ 15 (d := dd__law_take) rfl
  obtain ⟨h__law_words, F__law_words⟩ := c.def_ 16 (d := dd__law_words) rfl
  obtain ⟨h__law_row, F__law_row⟩ := c.def_ 17 (d := dd__law_row) rfl
  obtain ⟨h__law_no_words, F__law_no_words⟩ := c.def_ 18 (d := dd__law_no_words) rfl
  obtain ⟨h__law_no_rows, F__law_no_rows⟩ := c.def_ 19 (d := dd__law_no_rows) rfl
  obtain ⟨h__law_kinds, F__law_kinds⟩ := c.def_ 20 (d := dd__law_kinds) rfl
  obtain ⟨h__law_only, F__law_only⟩ := c.def_ 21 (d := dd__law_only) rfl
  obtain ⟨h__law_asked, F__law_asked⟩ := c.def_ 22 (d := dd__law_asked) rfl
  obtain ⟨h__law_good, F__law_good⟩ := c.def_ 23 (d := dd__law_good) rfl
  obtain ⟨h_law, F_law⟩ := c.def_ 24 (d := dd_law) rfl
  refine ⟨{
    a_is_word := _
    h_is_word := h_is_word
    F_is_word := F_is_word
    g_is_word := He.glo_ok X G (c.fact 0 (f := .glo "is_word") rfl)
    a_are_words := _
    h_are_words := h_are_words
    F_are_words := F_are_words
    g_are_words := He.glo_ok X G (c.fact 1 (f := .glo "are_words") rfl)
    a_is_row := _
    h_is_row := h_is_row
    F_is_row := F_is_row
    g_is_row := He.glo_ok X G (c.fact 2 (f := .glo "is_row") rfl)
    a_check_row := _
    h_check_row := h_check_row
    F_check_row := F_check_row
    g_check_row := He.glo_ok X G (c.fact 3 (f := .glo "check_row") rfl)
    a_stretch_from := _
    h_stretch_from := h_stretch_from
    F_stretch_from := F_stretch_from
    g_stretch_from := He.glo_ok X G (c.fact 4 (f := .glo "stretch_from") rfl)
    a_stretches_of := _
    h_stretches_of := h_stretches_of
    F_stretches_of := F_stretches_of
    g_stretches_of := He.glo_ok X G (c.fact 5 (f := .glo "stretches_of") rfl)
    a_dropped_of := _
    h_dropped_of := h_dropped_of
    F_dropped_of := F_dropped_of
    g_dropped_of := He.glo_ok X G (c.fact 6 (f := .glo "dropped_of") rfl)
    a_distance_of := _
    h_distance_of := h_distance_of
    F_distance_of := F_distance_of
    g_distance_of := He.glo_ok X G (c.fact 7 (f := .glo "distance_of") rfl)
    a_distance := _
    h_distance := h_distance
    F_distance := F_distance
    g_distance := He.glo_ok X G (c.fact 8 (f := .glo "distance") rfl)
    a_route_of := _
    h_route_of := h_route_of
    F_route_of := F_route_of
    g_route_of := He.glo_ok X G (c.fact 9 (f := .glo "route_of") rfl)
    a_route := _
    h_route := h_route
    F_route := F_route
    g_route := He.glo_ok X G (c.fact 10 (f := .glo "route") rfl)
    a_factorial := _
    h_factorial := h_factorial
    F_factorial := F_factorial
    g_factorial := He.glo_ok X G (c.fact 11 (f := .glo "factorial") rfl)
    a_routes := _
    h_routes := h_routes
    F_routes := F_routes
    g_routes := He.glo_ok X G (c.fact 12 (f := .glo "routes") rfl)
    a__law_mixed := _
    h__law_mixed := h__law_mixed
    F__law_mixed := F__law_mixed
    g__law_mixed := He.glo_ok X G (c.fact 13 (f := .glo "_law_mixed") rfl)
    a__law_cell := _
    h__law_cell := h__law_cell
    F__law_cell := F__law_cell
    g__law_cell := He.glo_ok X G (c.fact 14 (f := .glo "_law_cell") rfl)
    a__law_take := _
    h__law_take := h__law_take
    F__law_take := F__law_take
    g__law_take := He.glo_ok X G (c.fact 15 (f := .glo "_law_take") rfl)
    a__law_words := _
    h__law_words := h__law_words
    F__law_words := F__law_words
    g__law_words := He.glo_ok X G (c.fact 16 (f := .glo "_law_words") rfl)
    a__law_row := _
    h__law_row := h__law_row
    F__law_row := F__law_row
    g__law_row := He.glo_ok X G (c.fact 17 (f := .glo "_law_row") rfl)
    a__law_no_words := _
    h__law_no_words := h__law_no_words
    F__law_no_words := F__law_no_words
    g__law_no_words := He.glo_ok X G (c.fact 18 (f := .glo "_law_no_words") rfl)
    a__law_no_rows := _
    h__law_no_rows := h__law_no_rows
    F__law_no_rows := F__law_no_rows
    g__law_no_rows := He.glo_ok X G (c.fact 19 (f := .glo "_law_no_rows") rfl)
    a__law_kinds := _
    h__law_kinds := h__law_kinds
    F__law_kinds := F__law_kinds
    g__law_kinds := He.glo_ok X G (c.fact 20 (f := .glo "_law_kinds") rfl)
    a__law_only := _
    h__law_only := h__law_only
    F__law_only := F__law_only
    g__law_only := He.glo_ok X G (c.fact 21 (f := .glo "_law_only") rfl)
    a__law_asked := _
    h__law_asked := h__law_asked
    F__law_asked := F__law_asked
    g__law_asked := He.glo_ok X G (c.fact 22 (f := .glo "_law_asked") rfl)
    a__law_good := _
    h__law_good := h__law_good
    F__law_good := F__law_good
    g__law_good := He.glo_ok X G (c.fact 23 (f := .glo "_law_good") rfl)
    a_law := _
    h_law := h_law
    F_law := F_law
    g_law := He.glo_ok X G (c.fact 24 (f := .glo "law") rfl)
    b_ValueError := He.free_ok X G (c.fact 25 (f := .free "ValueError") rfl)
    b_all := He.free_ok X G (c.fact 26 (f := .free "all") rfl)
    b_enumerate := He.free_ok X G (c.fact 27 (f := .free "enumerate") rfl)
    b_int := He.free_ok X G (c.fact 28 (f := .free "int") rfl)
    b_isinstance := He.free_ok X G (c.fact 29 (f := .free "isinstance") rfl)
    b_len := He.free_ok X G (c.fact 30 (f := .free "len") rfl)
    b_list := He.free_ok X G (c.fact 31 (f := .free "list") rfl)
    b_max := He.free_ok X G (c.fact 32 (f := .free "max") rfl)
    b_min := He.free_ok X G (c.fact 33 (f := .free "min") rfl)
    b_range := He.free_ok X G (c.fact 34 (f := .free "range") rfl)
    b_set := He.free_ok X G (c.fact 35 (f := .free "set") rfl)
    b_str := He.free_ok X G (c.fact 36 (f := .free "str") rfl)
    b_tuple := He.free_ok X G (c.fact 37 (f := .free "tuple") rfl)
    c_LETTERS := He.str_ok X G (c.fact 38 (f := .str "LETTERS" "abcdefghijklmnopqrstuvwxyz") rfl)
    c_LONGEST := He.int_ok X G (c.fact 39 (f := .int "LONGEST" 8) rfl)
    c_MOST_ROW := He.int_ok X G (c.fact 40 (f := .int "MOST_ROW" 20) rfl)
    C_InvalidRow := _
    x_InvalidRow := ⟨(He.exc_ok (c.fact 42 (f := .exc "InvalidRow") rfl)).1, He.glo_ok X G (c.fact 41 (f := .glo "InvalidRow") rfl), (He.exc_ok (c.fact 42 (f := .exc "InvalidRow") rfl)).2⟩
    K_FrontBackError := _
    gx_FrontBackError := He.glo_ok X G (c.fact 43 (f := .glo "FrontBackError") rfl)
    K_InvalidFences := _
    gx_InvalidFences := He.glo_ok X G (c.fact 44 (f := .glo "InvalidFences") rfl)
    K_InvalidMeaning := _
    gx_InvalidMeaning := He.glo_ok X G (c.fact 45 (f := .glo "InvalidMeaning") rfl)
    K_InvalidNames := _
    gx_InvalidNames := He.glo_ok X G (c.fact 46 (f := .glo "InvalidNames") rfl)
    K_InvalidNumber := _
    gx_InvalidNumber := He.glo_ok X G (c.fact 47 (f := .glo "InvalidNumber") rfl)
    K_InvalidOperation := _
    gx_InvalidOperation := He.glo_ok X G (c.fact 48 (f := .glo "InvalidOperation") rfl)
    K_InvalidProgram := _
    gx_InvalidProgram := He.glo_ok X G (c.fact 49 (f := .glo "InvalidProgram") rfl)
    K_InvalidResults := _
    gx_InvalidResults := He.glo_ok X G (c.fact 50 (f := .glo "InvalidResults") rfl)
    K_InvalidRow := _
    gx_InvalidRow := He.glo_ok X G (c.fact 41 (f := .glo "InvalidRow") rfl)
    K_InvalidRows := _
    gx_InvalidRows := He.glo_ok X G (c.fact 51 (f := .glo "InvalidRows") rfl)
    K_InvalidWord := _
    gx_InvalidWord := He.glo_ok X G (c.fact 52 (f := .glo "InvalidWord") rfl)
    K_Locked := _
    gx_Locked := He.glo_ok X G (c.fact 53 (f := .glo "Locked") rfl)
    K_TooLarge := _
    gx_TooLarge := He.glo_ok X G (c.fact 54 (f := .glo "TooLarge") rfl)
    ti_FrontBackError := (tsL_cons (fun C h => by rw [(at_ga h (He.glo_ok X G (c.fact 41 (f := .glo "InvalidRow") rfl)))]; exact ⟨excCB_ok (cx.ex 0 (p := excCB "InvalidRow") rfl), of_decide_eq_true (cx.ex 1 (p := kitXB "InvalidRow" "FrontBackError" true) rfl)⟩) tsL_nil)
    ti_InvalidFences := (tsL_cons (fun C h => by rw [(at_ga h (He.glo_ok X G (c.fact 41 (f := .glo "InvalidRow") rfl)))]; exact ⟨excCB_ok (cx.ex 0 (p := excCB "InvalidRow") rfl), of_decide_eq_true (cx.ex 2 (p := kitXB "InvalidRow" "InvalidFences" false) rfl)⟩) tsL_nil)
    ti_InvalidMeaning := (tsL_cons (fun C h => by rw [(at_ga h (He.glo_ok X G (c.fact 41 (f := .glo "InvalidRow") rfl)))]; exact ⟨excCB_ok (cx.ex 0 (p := excCB "InvalidRow") rfl), of_decide_eq_true (cx.ex 3 (p := kitXB "InvalidRow" "InvalidMeaning" false) rfl)⟩) tsL_nil)
    ti_InvalidNames := (tsL_cons (fun C h => by rw [(at_ga h (He.glo_ok X G (c.fact 41 (f := .glo "InvalidRow") rfl)))]; exact ⟨excCB_ok (cx.ex 0 (p := excCB "InvalidRow") rfl), of_decide_eq_true (cx.ex 4 (p := kitXB "InvalidRow" "InvalidNames" false) rfl)⟩) tsL_nil)
    ti_InvalidNumber := (tsL_cons (fun C h => by rw [(at_ga h (He.glo_ok X G (c.fact 41 (f := .glo "InvalidRow") rfl)))]; exact ⟨excCB_ok (cx.ex 0 (p := excCB "InvalidRow") rfl), of_decide_eq_true (cx.ex 5 (p := kitXB "InvalidRow" "InvalidNumber" false) rfl)⟩) tsL_nil)
    ti_InvalidOperation := (tsL_cons (fun C h => by rw [(at_ga h (He.glo_ok X G (c.fact 41 (f := .glo "InvalidRow") rfl)))]; exact ⟨excCB_ok (cx.ex 0 (p := excCB "InvalidRow") rfl), of_decide_eq_true (cx.ex 6 (p := kitXB "InvalidRow" "InvalidOperation" false) rfl)⟩) tsL_nil)
    ti_InvalidProgram := (tsL_cons (fun C h => by rw [(at_ga h (He.glo_ok X G (c.fact 41 (f := .glo "InvalidRow") rfl)))]; exact ⟨excCB_ok (cx.ex 0 (p := excCB "InvalidRow") rfl), of_decide_eq_true (cx.ex 7 (p := kitXB "InvalidRow" "InvalidProgram" false) rfl)⟩) tsL_nil)
    ti_InvalidResults := (tsL_cons (fun C h => by rw [(at_ga h (He.glo_ok X G (c.fact 41 (f := .glo "InvalidRow") rfl)))]; exact ⟨excCB_ok (cx.ex 0 (p := excCB "InvalidRow") rfl), of_decide_eq_true (cx.ex 8 (p := kitXB "InvalidRow" "InvalidResults" false) rfl)⟩) tsL_nil)
    ti_InvalidRow := (tsL_cons (fun C h => by rw [(at_ga h (He.glo_ok X G (c.fact 41 (f := .glo "InvalidRow") rfl)))]; exact ⟨excCB_ok (cx.ex 0 (p := excCB "InvalidRow") rfl), of_decide_eq_true (cx.ex 9 (p := kitXB "InvalidRow" "InvalidRow" true) rfl)⟩) tsL_nil)
    ti_InvalidRows := (tsL_cons (fun C h => by rw [(at_ga h (He.glo_ok X G (c.fact 41 (f := .glo "InvalidRow") rfl)))]; exact ⟨excCB_ok (cx.ex 0 (p := excCB "InvalidRow") rfl), of_decide_eq_true (cx.ex 10 (p := kitXB "InvalidRow" "InvalidRows" false) rfl)⟩) tsL_nil)
    ti_InvalidWord := (tsL_cons (fun C h => by rw [(at_ga h (He.glo_ok X G (c.fact 41 (f := .glo "InvalidRow") rfl)))]; exact ⟨excCB_ok (cx.ex 0 (p := excCB "InvalidRow") rfl), of_decide_eq_true (cx.ex 11 (p := kitXB "InvalidRow" "InvalidWord" false) rfl)⟩) tsL_nil)
    ti_Locked := (tsL_cons (fun C h => by rw [(at_ga h (He.glo_ok X G (c.fact 41 (f := .glo "InvalidRow") rfl)))]; exact ⟨excCB_ok (cx.ex 0 (p := excCB "InvalidRow") rfl), of_decide_eq_true (cx.ex 12 (p := kitXB "InvalidRow" "Locked" false) rfl)⟩) tsL_nil)
    ti_TooLarge := (tsL_cons (fun C h => by rw [(at_ga h (He.glo_ok X G (c.fact 41 (f := .glo "InvalidRow") rfl)))]; exact ⟨excCB_ok (cx.ex 0 (p := excCB "InvalidRow") rfl), of_decide_eq_true (cx.ex 13 (p := kitXB "InvalidRow" "TooLarge" false) rfl)⟩) tsL_nil)
    ti_ValueError := (tsL_cons (fun C h => by rw [(at_ga h (He.glo_ok X G (c.fact 41 (f := .glo "InvalidRow") rfl)))]; exact ⟨excCB_ok (cx.ex 0 (p := excCB "InvalidRow") rfl), of_decide_eq_true (cx.ex 14 (p := kitTB "InvalidRow" "ValueError" true) rfl)⟩) tsL_nil)
    te_FrontBackError := (tsL_cons (fun C h => by rw [(at_ga h (He.glo_ok X G (c.fact 41 (f := .glo "InvalidRow") rfl)))]; exact He.exm_ok (c.fact 55 (f := .exm "InvalidRow" "FrontBackError" true) rfl)) tsL_nil) }, ?_⟩
  have e := hfa.symm.trans (He.glo_ok X G (c.fact 24 (f := .glo "law") rfl))
  cases e
  rfl
end FB.K52
open PySem PySem.W PySem.Calls PyProof.Rows
theorem PySem.Challenge.cw_frontback_k52_errors_of_routes_holds : PySem.Challenge.rw_frontback_k52_errors_of_routes.Holds := by
  w_on; o_law
  refine HandSHeadRun.head_any (r := OpenLaw.row PySem.Challenge.rw_frontback_k52_errors_of_routes) (q := view (OpenLaw.row PySem.Challenge.rw_frontback_k52_errors_of_routes).prog [44]) (H := FB.K52.hk) (ob := FB.K52.ob) (M := 20000) (loose := FB.K52.looseL) (d := HandSHeadRun.topDef (OpenLaw.row PySem.Challenge.rw_frontback_k52_errors_of_routes).prog 44) (kwd := []) FB.K52.ob_eq
    (by kernel_rfl) (fun s => by kernel_rfl) FB.K52.run (by kernel_rfl) (by kernel_rfl) (by kernel_rfl) (by rfl) (by first | assumption | decide +kernel) (by decide +kernel) ⟨rfl, rfl, rfl, rfl, rfl, by decide +kernel⟩ ?hw ?hc
  case hw => w_witness2
  case hc =>
    refine FB.walk_ofW (l := PySem.Challenge.rw_frontback_k52_errors_of_routes) (n := 63) (k := 8) (x := "script") rfl (by decide) (by kernel_rfl) ⟨rfl, by decide, by decide⟩ ?F
    intro w mg fa h Y G hmg0
    obtain ⟨K, KX, c⟩ := Y
    have hmg : mg ("law" : PySem.Str) = some (.ref fa) := by
      have e : (HandSHeadRun.topDef (OpenLaw.row PySem.Challenge.rw_frontback_k52_errors_of_routes).prog 44).name = ("law" : PySem.Str) := by kernel_rfl
      rw [← e]
      exact hmg0
    obtain ⟨S, rfl⟩ := FB.K52.facts KX G hmg c
    refine ⟨K, S.h_law, _, KX, ?_, ?_, fun base _ _ => FB.K52.ok_law S⟩
    · exact fun s v => (S.F_law.bindsA (ps := ["script"]) fun _ _ _ _ _ _ us hl => match us, hl with | [_], _ => rfl) s [v] rfl
    · exact fun H a ns hl hO hS => let ⟨st', e⟩ := FB.K52.law_true ns hl; FB.end_sp hO hS e

import PyProof.Rows.All
import Wide.All
import OpenK.AllK
import Wide.FinOn
import PyProof.TupleOfStr
import HandS.Base
import HandS.Call
import HandS.List
import HandS.TupAny
import HandS.Style
import HandS.Strs
import HandS.ForMost
import HandS.ForExc
import HandS.ExcInit
import HandS.Wide
import HandS.TupMul
import HandS.Deep
import HandS.IsInst
import HandS.Zip
import HandS.Rev
import HandS.Steps
import PyProof.StrOps2
import HandS.Dict
import HandS.DictComp
import HandS.More
import KE.GoesMore
import KE.GoesEnum
import PyProof.EnumMake
import HandS.Iter
import HandS.WordsExc
import HandS.Defaults
import HandS.WideBits
import HandS.Exc
import HandS.ExcIs
import HandS.ExcOwn
import HandS.HeadHook2
import HandS.ExcValue
import HandS.ExcField
import KE.KIsAll
import HandS.MakeKw
import HandS.HeadEnd
import HandS.ExcBuiltin
import KE.KExcIs
import HandS.Sort
import HandS.SortRule
import HandS.SortOrd
import HandS.TryOnly
import HandS.Text
import HandS.ReplaceLit
import PyProof.ReprRoads
import KE.DataFind
import HandS.HeadHook1
import PySem.Challenge.RW_frontback_k04_errors_created
import PyProof.ReprLen
import PyProof.StrLawsTight
import PyProof.StrLawsJoin
import PyProof.FitsReplace
import PyProof.Rows.StrFit
import HandS.Head0
import HandS.Head1
import HandS.Head2
import KE.KStateDown
set_option Elab.async false
set_option linter.all false
set_option maxRecDepth 100000
set_option maxHeartbeats 4000000
/-! FBT: tuples of which it is known that they carry no attributes (so their methods can be called). -/
namespace FB
open PySem PySem.Spec PyProof.Rows L2 HT
/-- a tuple is laid -/
def NewT (H : Hp) (xs : List V) (Q : VK) : Prop := ∀ p o, H p = none → o.dict = none → Q (.ref p) (upd H p (.frz o (.tup xs)))
section
variable {X : Cx} {e : Expr} {es : List Expr} {te : TE} {t : TA} {pos : Pos}
theorem newT_end {pins : List (Addr × Obj)} {σ : L2.St} {H : Hp} {s : Shared} {xs : List V} {its : List Value} {Q : VK} {h' : Heap} {tk : Nat} (I : Inv X pins σ H s) (k : ∀ b u, s.heap.get? b = some u → h'.get? b = some u) (hle : s.heap.objs.size ≤ h'.objs.size)
    (r : Vals xs its) (hz : xs.length ≤ sizeLine) (q : NewT H xs Q) : EP X pins σ Q (.ref h'.objs.size) { s with heap := h'.push { cls := .type "tuple", data := .seq its.toArray }, toks := tk } := by
  refine ⟨.ref h'.objs.size, upd H h'.objs.size (.frz { cls := .type "tuple", data := .seq its.toArray } (.tup xs)), I.laid (t' := tk) (fun b u e => Heap.get?_push_of_some _ (k b u e)) hle ?_, rfl, q _ _ (I.hok.fresh hle) rfl⟩
  exact ⟨Heap.get?_push_size _ rfl, hz, its, r, ⟨_, Heap.get?_push_size _ rfl, rfl, _, rfl⟩⟩
theorem size_kept {h h' : Heap} (k : ∀ b u, h.get? b = some u → h'.get? b = some u) (F : h.objs.size ≤ h'.objs.size) : h.objs.size ≤ h'.objs.size := F
def tTupX (t : TA) : TE := fun σ H Q => t σ H fun xs H1 => xs.length ≤ sizeLine ∧ NewT H1 xs Q
theorem pe_tupX {x1} (h : PA X es t) : PE X (.Tuple es x1 pos) (tTupX t) := by
  refine ⟨fun pins s σ H Q I hq => ?_⟩
  refine wpAny_Tuple_spliced (thn (h.run pos pins s σ H _ I hq) fun us s1 ⟨xs, H1, I1, r, z, q⟩ => ⟨by rw [← r.length]; exact z, ?_⟩)
  exact newT_end (tk := s1.toks) I1 (fun _ _ e => e) (Nat.le_refl _) r z q
def rCatX (K : PySem.W.Frag) : R2 := fun x y H Q => ∃ a b xs ys, x = .ref a ∧ y = .ref b ∧ SqT K H a xs ∧ SqT K H b ys ∧ xs.length + ys.length ≤ sizeLine ∧
  (xs = [] → Q (.ref b) H) ∧ (xs ≠ [] → ys = [] → Q (.ref a) H) ∧ (xs ≠ [] → ys ≠ [] → NewT H (xs ++ ys) Q)
theorem op_catX : OpR X (binaryOp .Add) (rCatX X.K) := by
  intro pins s σ H x y v u Q I rx ry h
  obtain ⟨a, b, xs, ys, rfl, rfl, ha, hb, hz, q0, q1, q2⟩ := h
  cases rx
  cases ry
  obtain ⟨its, r1, p1, _⟩ := I.tuple ha
  obtain ⟨its2, r2, p2, _⟩ := I.tuple hb
  by_cases hx : xs = []
  · subst hx
    cases r1
    exact cat_tup0 p1 p2 ⟨.ref b, H, I, rfl, q0 rfl⟩
  · refine HT.cat_tup p1 p2 (fun z => hx (r1.nil_iff.mp z)) (fun z => ⟨.ref a, H, I, rfl, q1 hx (r2.nil_iff.mp z)⟩) (fun z => ?_) (by rw [← r1.length, ← r2.length]; exact hz)
    exact newT_end (tk := s.toks) I (fun _ _ e => e) (Nat.le_refl _) (r1.append r2) (by rw [List.length_append]; exact hz) (q2 hx (fun w => z (r2.nil_iff.mpr w)))
def rSlX (K : PySem.W.Frag) : V → Option Int → Option Int → Hp → VK → Prop := fun x lo hi H Q => ∃ a xs, x = .ref a ∧ SqT K H a xs ∧
  (HT.sIx xs.length 0 lo = 0 ∧ HT.sIx xs.length xs.length hi = xs.length → Q (.ref a) H) ∧ (¬ (HT.sIx xs.length 0 lo = 0 ∧ HT.sIx xs.length xs.length hi = xs.length) → NewT H (cutV xs lo hi) Q)
theorem sl_tupX : SlR X (rSlX X.K) := by
  intro pins s σ H x v vl vu lo hi sl Q I rx hs pl pu h
  obtain ⟨a, xs, rfl, hx, q1, q2⟩ := h
  cases rx
  obtain ⟨its, r, ht, hz⟩ := I.tuple hx
  have hlen : its.toArray.size = xs.length := by rw [List.size_toArray]; exact r.length.symm
  refine ⟨"tuple", _, PyProof.Rows.slot_tuple_getitem.lookup, ht.typeIs, ?_⟩
  by_cases hw : HT.sIx xs.length 0 lo = 0 ∧ HT.sIx xs.length xs.length hi = xs.length
  · exact getItem_tuple_whole ht hs pl pu (by rw [hlen]; exact hw) ⟨.ref a, H, I, rfl, q1 hw⟩
  · refine HT.getItem_tuple_cut ht hs pl pu (by rw [hlen]; exact hw) ?_ (by rw [hlen]; exact hz)
    rw [hlen]
    exact newT_end (tk := s.toks) I (fun _ _ e => e) (Nat.le_refl _) ((r.drop (HT.sIx xs.length 0 lo)).take (HT.sIx xs.length xs.length hi - HT.sIx xs.length 0 lo)) (Nat.le_trans (cutV_length xs lo hi) hz) (q2 hw)
/-- tuple(x): a list, a tuple, a text -/
def rTupX (K : PySem.W.Frag) : List V → Hp → VK → Prop := fun xs H Q => (∃ p ys, xs = [.ref p] ∧ ((SqL K H p ys ∧ NewT H ys Q) ∨ (SqT K H p ys ∧ Q (.ref p) H))) ∨ ∃ z : Str, xs = [.str z] ∧ z.length ≤ sizeLine ∧ NewT H (z.cps.toList.map fun c => V.str ⟨#[c]⟩) Q
theorem vals_get : ∀ {xs : List V} {us : List Value}, xs.length = us.length → (∀ (j : Nat) (x : V) (u : Value), xs[j]? = some x → us[j]? = some u → RelV x u) → Vals xs us
  | [], [], _, _ => .nil
  | x :: xs, u :: us, h, f => .cons (f 0 x u rfl rfl) (vals_get (by simpa using h) fun j y w h1 h2 => f (j + 1) y w (by simpa using h1) (by simpa using h2))
theorem call_tupX (hc : X.calm = true) : CallR X (.type "tuple") (rTupX X.K) := by
  intro pins s σ H xs us Q I r h
  rcases h with ⟨p, ys, rfl, h⟩ | ⟨z, rfl, hz, q⟩
  · obtain ⟨u, rfl, rx⟩ := vals1 r
    cases rx
    rcases h with ⟨hq, q⟩ | ⟨hq, q⟩
    · obtain ⟨its, r', pl, hz⟩ := I.list hq
      have hlen := r'.length
      refine call_tuple_list pl.isList (fun h' kp => ?_) (by simp only [List.size_toArray] <;> omega)
      have I1 : Inv X pins σ H { s with heap := h' } := I.kept (t' := s.toks) kp
      exact newT_end (s := { s with heap := h' }) (tk := s.toks) I1 (fun _ _ e => e) (Nat.le_refl _) r' hz q
    · obtain ⟨its, r', pl, hz⟩ := I.tuple hq
      exact call_tuple_same pl ⟨.ref p, H, I, rfl, q⟩
  · obtain ⟨u, rfl, t, rfl⟩ := vals1 r
    refine call_tuple_str (I.ok.hd hc) z t (fun h' tk acc kp hacc => ?_) hz
    have I1 : Inv X pins σ H { s with heap := h', toks := tk } := I.kept kp
    have e : acc = acc.toList.toArray := by simp
    rw [e]
    refine newT_end (s := { s with heap := h', toks := tk }) (tk := tk) I1 (fun _ _ e => e) (Nat.le_refl _) (vals_get (by simp [hacc.1]) fun j x u h1 h2 => ?_) (by rw [List.length_map]; exact hz) q
    rw [Array.getElem?_toList] at h2
    obtain ⟨c, t', h3, h4⟩ := hacc.2 j u h2
    rw [List.getElem?_map, Array.getElem?_toList, h3] at h1
    cases h1
    exact ⟨t', h4⟩

/-! ### t[::-1] -/
theorem adjust_rev (n : Nat) : Builtin.Slice.sliceAdjust none none (-1) (n : Int) = ((n : Int) - 1, -1) := by
  unfold Builtin.Slice.sliceAdjust
  simp
theorem places_rev (n : Nat) : Builtin.Slice.slicePlaces ((n : Int) - 1) (-1) (-1) = n := by
  unfold Builtin.Slice.slicePlaces
  simp
  split <;> omega
theorem fm_some {α β : Type} {f : α → Option β} {g : α → β} : ∀ {l : List α}, (∀ a ∈ l, f a = some (g a)) → l.filterMap f = l.map g
  | [], _ => rfl
  | a :: l, h => by
    rw [List.filterMap_cons, h a List.mem_cons_self, List.map_cons, fm_some fun b hb => h b (List.mem_cons_of_mem _ hb)]
theorem pick_rev (its : List Value) : ((List.range its.length).filterMap fun (k : Nat) => its.toArray[(((its.length : Int) - 1) + (k : Int) * (-1)).toNat]?) = its.reverse := by
  rw [fm_some (g := fun k => its.getD (its.length - 1 - k) .none) fun k hk => ?_]
  · apply List.ext_getElem?
    intro i
    by_cases h : i < its.length
    · rw [List.getElem?_reverse h, List.getElem?_map, List.getElem?_range h]
      show some (its.getD (its.length - 1 - i) .none) = _
      rw [List.getD_eq_getElem?_getD, List.getElem?_eq_getElem (by omega)]
      rfl
    · rw [List.getElem?_eq_none (by simpa using h), List.getElem?_eq_none (by simpa using h)]
  · have hk := List.mem_range.mp hk
    have e1 : (((its.length : Int) - 1) + ((k : Nat) : Int) * (-1)).toNat = its.length - 1 - k := by omega
    rw [e1, List.getElem?_toArray, List.getD_eq_getElem?_getD, List.getElem?_eq_getElem (by omega)]
    rfl
section
variable {prog : Program} {w : World} {A : Around} {E : Value → Shared → Prop} {s : Shared}
theorem sliceApplied_rev {sl : Addr} {t : Tok} {n : Nat} {Q : Int × Int × Nat → Shared → Prop} (hs : s.heap.IsSliceOf sl .none .none (.int (-1) t)) (h : Q ((n : Int) - 1, -1, n) s) : wpAny (model prog w) A (Builtin.Slice.sliceApplied (.ref sl) (pure (n : Int))) Q E s := by
  obtain ⟨os, hos, hcs, hds⟩ := id hs
  unfold Builtin.Slice.sliceApplied Builtin.Slice.sliceFields
  refine wpAny_bind (wpAny_bind (wpAny_field hos hds (x := .none) rfl (wpAny_bind (wpAny_field hos hds (x := .none) rfl (wpAny_bind (wpAny_field hos hds (x := .int (-1) t) rfl (wpAny_pure ?_)))))))
  refine wpAny_bind (slicePart_int ?_)
  show wpAny _ _ (if ((-1 : Int) == 0) = true then _ else _) _ _ s
  rw [if_neg (by decide)]
  refine wpAny_bind (slicePart_none (wpAny_bind (slicePart_none (wpAny_bind (wpAny_pure ?_)))))
  show wpAny _ _ (match Builtin.Slice.sliceAdjust none none (-1) (n : Int) with | (lo, hi) => pure (lo, (-1 : Int), Builtin.Slice.slicePlaces lo hi (-1))) _ _ s
  rw [adjust_rev n]
  show wpAny _ _ (pure ((n : Int) - 1, (-1 : Int), Builtin.Slice.slicePlaces ((n : Int) - 1) (-1) (-1))) _ _ s
  rw [places_rev]
  exact wpAny_pure h
theorem getItem_tuple_rev {t sl : Addr} {its : List Value} {k : Tok} {Q : Value → Shared → Prop} (ht : IsTup s.heap t its.toArray) (hs : s.heap.IsSliceOf sl .none .none (.int (-1) k))
    (h : Q (.ref s.heap.objs.size) { s with heap := s.heap.push { cls := .type "tuple", data := .seq its.reverse.toArray } })
    (hsz : its.length ≤ sizeLine) : wpAny (model prog w) A (getItem (.ref t) (.ref sl)) Q E s := by
  have htake : sizeOk (.seq its.reverse.toArray) := by
    show its.reverse.toArray.size ≤ sizeLine
    rw [List.size_toArray, List.length_reverse]
    exact hsz
  obtain ⟨os, hos, hcs, hds⟩ := id hs
  have hTs : s.TypeIs (.ref sl) "slice" := ⟨os, hos, hcs⟩
  unfold getItem
  try with_reducible refine wpAny_holding ?_
  first | refine wpAny_bind (wpAny_pure ?_) | skip
  refine wpAny_bind (wpAny_sequenceKey ht.typeIs (by decide) ?_)
  refine wpAny_bind (wpAny_callSpecial?_slot (name := Str.ofString "__getitem__") ht.typeIs PyProof.Rows.slot_tuple_getitem
    (wpAny_call_entry PyProof.Rows.slot_tuple_getitem ht.typeIs entry_tuple_getitem ?_ (args_tuple_getitem _ _)))
  show wpAny _ _ (Builtin.Tuple.tupleItemsOf (.ref t) >>= _) _ _ s
  refine wpAny_bind (tupleItemsOf_ ht ?_)
  refine wpAny_bind (wpAny_typeOf hTs ?_)
  rw [if_pos (by decide)]
  refine wpAny_bind (sliceApplied_rev hs ?_)
  have hno : ¬ ((((its.toArray.size : Int) - 1) == 0 && (-1 : Int) == 1 && its.toArray.size == its.toArray.size) = true) := by simp
  show wpAny _ _ (if (((its.toArray.size : Int) - 1) == 0 && (-1 : Int) == 1 && its.toArray.size == its.toArray.size) = true then _ else _) _ _ s
  rw [if_neg hno]
  have e : ((List.range its.toArray.size).filterMap fun (k : Nat) => its.toArray[(((its.toArray.size : Int) - 1) + (k : Int) * (-1)).toNat]?).toArray = its.reverse.toArray := by
    rw [List.size_toArray, pick_rev]
  rw [e]
  first
    | exact wpAny_bind (m := Builtin.Tuple.tupleExact _) (wpAny_newObj_type (wpAny_pure ⟨_, rfl, wpAny_pure h⟩) htake)
    | exact wpAny_bind (m := Builtin.Tuple.tupleExact _) (wpAny_newObj_type (wpAny_bind (wpAny_pure (wpAny_pure ⟨_, rfl, wpAny_pure h⟩))) htake)
    | exact wpAny_bind (wpAny_bind (m := Builtin.Tuple.tupleExact _) (wpAny_newObj_type (wpAny_pure (wpAny_pure ⟨_, rfl, wpAny_pure h⟩)) htake))
    | exact wpAny_bind (wpAny_bind (m := Builtin.Tuple.tupleExact _) (wpAny_newObj_type (wpAny_pure ⟨_, rfl, wpAny_pure h⟩) htake))
end
/-- x[::-1]: a list, a tuple -/
def tRev (K : PySem.W.Frag) (te : TE) : TE := fun σ H Q => te σ H fun x H1 => ∃ a xs, x = .ref a ∧ ((SqL K H1 a xs ∧ ∀ p, H1 p = none → Q (.ref p) (upd H1 p (.lst xs.reverse))) ∨ (SqT K H1 a xs ∧ NewT H1 xs.reverse Q))
theorem pe_rev {k : Nat} {p1 p2 p3 : Pos} (he : PE X e te) : PE X (.Subscript e (.Slice none none (some (.UnaryOp .USub (.Constant (.int 1) k p1) p2)) p3) pos) (tRev X.K te) := by
  refine ⟨fun pins s σ H Q I h => ?_⟩
  refine Subscript_ (thn (he.run pins s σ H _ I h) fun v s1 ⟨x, H1, I1, r1, q1⟩ => ?_)
  obtain ⟨a, xs, ex, q⟩ := q1
  subst ex
  cases r1
  have hst : PO X (some (.UnaryOp .USub (.Constant (.int 1) k p1) p2)) (tPart (tUn (rU fun i => .int (-i)) (tC (.int 1)))) := po_some (pe_un un_neg pe_int)
  refine wpAny_Slice (thn (po_none.run pins s1 σ H1 (fun o H2 => o = none ∧ H2 = H1) I1 ⟨rfl, rfl⟩) fun vl s2 ⟨l, H2, I2, pl, el, e2⟩ => ?_)
  subst el e2
  refine thn (po_none.run pins s2 σ H2 (fun o H3 => o = none ∧ H3 = H2) I2 ⟨rfl, rfl⟩) fun vu s3 ⟨u, H3, I3, pu, eu, e3⟩ => ?_
  subst eu e3
  refine thn (hst.run pins s3 σ H3 (fun o H4 => o = some (-1) ∧ H4 = H3) I3 ⟨1, rfl, -1, rfl, rfl, rfl⟩) fun vs s4 ⟨o, H4, I4, ps, eo, e4⟩ => ?_
  subst eo e4
  have I5 : Inv X pins σ H4 { s4 with heap := s4.heap.push { cls := .type "slice", data := .fields #[vl, vu, vs] } } := I4.kept (t' := s4.toks) fun b ob q => Heap.get?_push_of_some _ q
  rcases q with ⟨hx, q⟩ | ⟨hx, q⟩
  · obtain ⟨its, r, ht, hz⟩ := I5.list hx
    have hlen := r.length
    show wpAny (model X.prog X.w) X.A (subscriptTail e (.Slice none none (some (.UnaryOp .USub (.Constant (.int 1) k p1) p2)) p3) (.ref a) (.ref s4.heap.objs.size)) (EP X pins σ Q) X.xe { s4 with heap := s4.heap.push { cls := .type "slice", data := .fields #[vl, vu, vs] } }
    refine tail_any (ops := [.ref a, .ref s4.heap.objs.size]) ht.isList.typeIs (PySem.slot_list_getitem.lookup) ?_ (by with_unfolding_all rfl)
    refine wpAny_getItem_list_slice ht.isList (Heap.IsSliceOf.new _ vl vu vs) pl pu ps (by decide) ?_ (by rw [List.size_toArray]; omega)
    rw [PySem.W.krv_pick]
    refine ⟨.ref _, _, I5.laid (t' := s4.toks) (o := .lst xs.reverse) (fun b ob q => Heap.get?_push_of_some _ q) (Nat.le_refl _) ?_, rfl, q _ (I5.hok.fresh (Nat.le_refl _))⟩
    exact ⟨by rw [List.length_reverse]; exact hz, _, 0, r.reverse, Heap.get?_push_size _ rfl⟩
  · obtain ⟨its, r, ht, hz⟩ := I5.tuple hx
    show wpAny (model X.prog X.w) X.A (subscriptTail e (.Slice none none (some (.UnaryOp .USub (.Constant (.int 1) k p1) p2)) p3) (.ref a) (.ref s4.heap.objs.size)) (EP X pins σ Q) X.xe { s4 with heap := s4.heap.push { cls := .type "slice", data := .fields #[vl, vu, vs] } }
    cases pl
    cases pu
    cases ps with
    | int _ tk =>
    refine tail_any (ops := [.ref a, .ref s4.heap.objs.size]) ht.typeIs PyProof.Rows.slot_tuple_getitem.lookup ?_ (by with_unfolding_all rfl)
    refine getItem_tuple_rev ht (Heap.IsSliceOf.new _ _ _ _) ?_ (by rw [← r.length]; exact hz)
    exact newT_end (tk := s4.toks) I5 (fun _ _ e => e) (Nat.le_refl _) r.reverse (by rw [List.length_reverse]; exact hz) q

/-! ### a tuple's method -/
/-- a tuple without attributes -/
def TupM (K : PySem.W.Frag) (H : Hp) (p : Addr) (xs : List V) : Prop := (∃ o, o.dict = none ∧ H p = some (.frz o (.tup xs))) ∨
  ∃ (o : Obj) (its : Array Value) (n : Nat), K.lookup p = some o ∧ o.cls = .type "tuple" ∧ o.data = .seq its n ∧ its.size ≤ sizeLine ∧ Vals xs its.toList ∧ o.dict = none
def tTM (K : PySem.W.Frag) (r : V → List V → Hp → VK → Prop) (to : TE) (t : TA) : TE := fun σ H Q => to σ H fun x H1 => (∃ p xs, x = .ref p ∧ TupM K H1 p xs) ∧ t σ H1 fun xs H2 => r x xs H2 Q
variable {o : Expr} {to : TE} {name : Str} {apos cpos : Pos} {id : String} {r : V → List V → Hp → VK → Prop}
theorem pe_tm (pa : PlainAttrs "tuple") (slot : Slot "tuple" name id) (hty : typeOf (.builtin id) = pure (.type "method_descriptor")) (hm : MtR X id r) (ho : PE X o to) (ha : PA X (e :: es) t)
    (hbase : attributeBase o name X.env (eval o X.env) = eval o X.env := by rfl)
    (hfew : ((backTo cpos (starEach (e :: es) X.env)).all (fun x => !x.1) && (backToKw cpos (keywordEach [] X.env)).all (fun x => x.1.isSome)
      && decide ((e :: es).length + ([] : List Keyword).length + (if ([] : List Keyword).isEmpty then 0 else 1) < 30)) = true := by rfl)
    (hline : (apos.endLine == cpos.line) = true := by rfl) (hs : starEach (e :: es) X.env = (false, eval e X.env) :: starEach es X.env := by rfl) (hplain : (backTo cpos (starEach es X.env)).any (·.1) = false := by rfl) :
    PE X (.Call (.Attribute o name apos) (e :: es) [] cpos) (tTM X.K r to t) := by
  refine ⟨fun pins s σ H Q I h => ?_⟩
  refine wpAny_Call_method_late hbase hfew hline rfl (thn (ho.run pins s σ H _ I h) fun v s1 ⟨x, H1, I1, r1, ty, q1⟩ => ?_)
  have h12 : s1.TypeIs v "tuple" ∧ ∀ a, v = .ref a → ∃ ob, s1.heap.get? a = some ob ∧ ob.dict = none := by
    obtain ⟨p, xs, rfl, ⟨ob, hd, e⟩ | ⟨ob, its, n, hk, hc, hdt, hz, r, hd⟩⟩ := ty
    · cases r1
      obtain ⟨h1, h2, its, r, hT⟩ := (show ObjOk X.prog X.w H1 s1.heap p (.frz ob (.tup xs)) from I1.hok p _ e)
      obtain ⟨ob', h3, h4, _⟩ := hT
      rw [h1] at h3
      cases h3
      exact ⟨⟨ob, h1, h4⟩, fun a e => by cases e; exact ⟨ob, h1, hd⟩⟩
    · cases r1
      exact ⟨⟨ob, I1.kIn p ob hk, hc⟩, fun a e => by cases e; exact ⟨ob, I1.kIn _ ob hk, hd⟩⟩
  obtain ⟨h1, h2⟩ := h12
  refine ⟨"tuple", id, pa, slot, hty, h1, h2, ?_⟩
  have hA := ha.run cpos pins s1 σ H1 _ I1 q1
  rw [hs] at hA ⊢
  refine Calls.callWith_builtin (by show (false || (backTo cpos (starEach es X.env)).any (·.1)) = false; rw [hplain] <;> rfl) (Calls.evalArgs_plain ?_)
  exact thn hA fun us s2 ⟨vs, H2, I2, r2, q2⟩ => hm pins s2 σ H2 x vs v us Q I2 r1 r2 q2
end
end FB
set_option Elab.async false
set_option linter.all false
set_option maxRecDepth 100000
set_option maxHeartbeats 4000000
/-! FB0: values as data, a store of mutable cells, what represents what. -/
namespace FB
open PySem PySem.Spec PyProof.Rows L2

/-- a value: pure data, a mutable cell of the store, sequences of such, an exception -/
inductive Dv where
  | p (x : PyData)
  | ref (i : Nat)
  | tupD (xs : List Dv)
  | lstD (xs : List Dv)
  | exc (c : Str) (fs : List (Str × PyData))
  | frz (ns : List Int)
  /-- an exception with one attribute -/
  | xa (c x : Str) (d : Dv)
  deriving Inhabited

inductive Cl where
  | lst (xs : List Dv)
  | dK (kvs : List (Key × Dv))
  | dT (kvs : List (List Key × Dv))
  | dead
  deriving Inhabited

abbrev So := List Cl
abbrev Sl := List (Option Dv)

inductive Rs (α : Type) where
  | ok (a : α) (st : So)
  | exc (c : Str) (fs : List (Str × PyData)) (st : So)
  | stuck

inductive Ss where
  | nx (ρ : Sl) (st : So)
  | ret (d : Dv) (st : So)
  | brk (ρ : Sl) (st : So)
  | cnt (ρ : Sl) (st : So)
  | exc (c : Str) (fs : List (Str × PyData)) (ρ : Sl) (st : So)
  | stuck

def Rs.bind {α β : Type} : Rs α → (α → So → Rs β) → Rs β
  | .ok a st, f => f a st
  | .exc c fs st, _ => .exc c fs st
  | .stuck, _ => .stuck

abbrev FE := Sl → So → Rs Dv
abbrev FT := Sl → So → Rs Bool
abbrev FA := Sl → So → Rs (List Dv)
abbrev FS := Sl → So → Ss
abbrev FG := Dv → Sl → So → Rs Sl
abbrev FD := List Dv → So → Rs Dv

/-- where the cells stand; which addresses stay as they are -/
structure Wd where
  m : Nat → Addr
  I : Addr → Prop
  /-- what is neither data nor a cell, and stays (a list in the making) -/
  F : Addr → Prop

def KTup (K : PySem.W.Frag) (a : Addr) (xs : List V) : Prop :=
  ∃ (o : Obj) (its : Array Value) (n : Nat), K.lookup a = some o ∧ o.cls = .type "tuple" ∧ o.data = .seq its n ∧ its.size ≤ sizeLine ∧ Vals xs its.toList ∧ o.dict = none
def SL (I : Addr → Prop) (H : Hp) (a : Addr) (xs : List V) : Prop := I a ∧ H a = some (.lst xs)
/-- a tuple without attributes -/
def ST (K : PySem.W.Frag) (I : Addr → Prop) (H : Hp) (a : Addr) (xs : List V) : Prop := (I a ∧ ∃ o, o.dict = none ∧ H a = some (.frz o (.tup xs))) ∨ KTup K a xs
/-- any tuple -/
def SU (K : PySem.W.Frag) (I : Addr → Prop) (H : Hp) (a : Addr) (xs : List V) : Prop := (I a ∧ H a = some (.tup xs)) ∨ ST K I H a xs
theorem SL.sq {K : PySem.W.Frag} {I : Addr → Prop} {H : Hp} {a : Addr} {xs : List V} (h : SL I H a xs) : SqL K H a xs := .of h.2
theorem ST.sq {K : PySem.W.Frag} {I : Addr → Prop} {H : Hp} {a : Addr} {xs : List V} (h : ST K I H a xs) : SqT K H a xs := h.elim (fun ⟨_, o, _, e⟩ => .inl (.inr ⟨o, e⟩)) fun ⟨o, its, n, h1, h2, h3, h4, h5, _⟩ => .inr ⟨o, its, n, h1, h2, h3, h4, h5⟩
theorem ST.tm {K : PySem.W.Frag} {I : Addr → Prop} {H : Hp} {a : Addr} {xs : List V} (h : ST K I H a xs) : TupM K H a xs := h.elim (fun ⟨_, o, d, e⟩ => .inl ⟨o, d, e⟩) .inr
theorem SU.sq {K : PySem.W.Frag} {I : Addr → Prop} {H : Hp} {a : Addr} {xs : List V} (h : SU K I H a xs) : SqT K H a xs := h.elim (fun z => .of z.2) ST.sq

/-- the script: a list that is only read -/
def FZ (K : PySem.W.Frag) (I : Addr → Prop) (H : Hp) (a : Addr) (xs : List V) : Prop := (I a ∧ ∃ o, H a = some (.frz o (.lst xs))) ∨
  ∃ (o : Obj) (its : Array Value) (n : Nat), K.lookup a = some o ∧ o.cls = .type "list" ∧ o.dict = none ∧ o.data = .seq its n ∧ its.size ≤ sizeLine ∧ Vals xs its.toList
theorem FZ.sq {K : PySem.W.Frag} {I : Addr → Prop} {H : Hp} {a : Addr} {xs : List V} (h : FZ K I H a xs) : SqL K H a xs := h.elim (fun ⟨_, o, e⟩ => .inl (.inr ⟨o, e⟩)) .inr
/-- a key of a dict, as data -/
def keyP : Key → PyData
  | .inl i => .int i
  | .inr x => .str x

mutual
inductive RP (K : PySem.W.Frag) (I : Addr → Prop) (H : Hp) : PyData → V → Prop
  | non : RP K I H .none .non
  | bl (b : Bool) : RP K I H (.bool b) (.bl b)
  | int (i : Int) : RP K I H (.int i) (.int i)
  | str (x : Str) : RP K I H (.str x) (.str x)
  | lst {a : Addr} {vs : List V} {ds : List PyData} : SL I H a vs → RPs K I H ds vs → RP K I H (.list ds) (.ref a)
  | tup {a : Addr} {vs : List V} {ds : List PyData} : ST K I H a vs → RPs K I H ds vs → RP K I H (.tuple ds) (.ref a)
  | dct {a : Addr} {kvs : List (Key × V)} {ds : List (PyData × PyData)} : I a → H a = some (.dK kvs) → RPk K I H ds kvs → RP K I H (.dict ds) (.ref a)
inductive RPs (K : PySem.W.Frag) (I : Addr → Prop) (H : Hp) : List PyData → List V → Prop
  | nil : RPs K I H [] []
  | cons {d : PyData} {v : V} {ds : List PyData} {vs : List V} : RP K I H d v → RPs K I H ds vs → RPs K I H (d :: ds) (v :: vs)
inductive RPk (K : PySem.W.Frag) (I : Addr → Prop) (H : Hp) : List (PyData × PyData) → List (Key × V) → Prop
  | nil : RPk K I H [] []
  | cons {k : Key} {d : PyData} {v : V} {ds : List (PyData × PyData)} {kvs : List (Key × V)} : RP K I H d v → RPk K I H ds kvs → RPk K I H ((keyP k, d) :: ds) ((k, v) :: kvs)
end

/-- I and what is readable there only grows -/
structure Gro (I : Addr → Prop) (H : Hp) (I' : Addr → Prop) (H' : Hp) : Prop where
  inc : ∀ a, I a → I' a
  imm : ∀ a u, I a → H a = some u → H' a = some u
theorem Gro.refl {I : Addr → Prop} {H : Hp} : Gro I H I H := ⟨fun _ h => h, fun _ _ _ h => h⟩
theorem Gro.trans {I I1 I2 : Addr → Prop} {H H1 H2 : Hp} (a : Gro I H I1 H1) (b : Gro I1 H1 I2 H2) : Gro I H I2 H2 := ⟨fun x h => b.inc x (a.inc x h), fun x u h r => b.imm x u (a.inc x h) (a.imm x u h r)⟩

section
variable {K : PySem.W.Frag} {I I' : Addr → Prop} {H H' : Hp}
theorem SL.mono (g : Gro I H I' H') {a : Addr} {xs : List V} (h : SL I H a xs) : SL I' H' a xs := ⟨g.inc _ h.1, g.imm _ _ h.1 h.2⟩
theorem ST.mono (g : Gro I H I' H') {a : Addr} {xs : List V} (h : ST K I H a xs) : ST K I' H' a xs := h.elim (fun ⟨i, o, d, e⟩ => .inl ⟨g.inc _ i, o, d, g.imm _ _ i e⟩) .inr
theorem SU.mono (g : Gro I H I' H') {a : Addr} {xs : List V} (h : SU K I H a xs) : SU K I' H' a xs := h.elim (fun z => .inl ⟨g.inc _ z.1, g.imm _ _ z.1 z.2⟩) fun z => .inr (z.mono g)
theorem FZ.mono (g : Gro I H I' H') {a : Addr} {xs : List V} (h : FZ K I H a xs) : FZ K I' H' a xs := h.elim (fun ⟨i, o, e⟩ => .inl ⟨g.inc _ i, o, g.imm _ _ i e⟩) .inr
mutual
theorem RP.mono (g : Gro I H I' H') : ∀ {d : PyData} {v : V}, RP K I H d v → RP K I' H' d v
  | _, _, .non => .non
  | _, _, .bl b => .bl b
  | _, _, .int i => .int i
  | _, _, .str x => .str x
  | _, _, .lst h hs => .lst (h.mono g) (RPs.mono g hs)
  | _, _, .tup h hs => .tup (h.mono g) (RPs.mono g hs)
  | _, _, .dct h r hs => .dct (g.inc _ h) (g.imm _ _ h r) (RPk.mono g hs)
theorem RPs.mono (g : Gro I H I' H') : ∀ {ds : List PyData} {vs : List V}, RPs K I H ds vs → RPs K I' H' ds vs
  | _, _, .nil => .nil
  | _, _, .cons h hs => .cons (RP.mono g h) (RPs.mono g hs)
theorem RPk.mono (g : Gro I H I' H') : ∀ {ds : List (PyData × PyData)} {vs : List (Key × V)}, RPk K I H ds vs → RPk K I' H' ds vs
  | _, _, .nil => .nil
  | _, _, .cons h hs => .cons (RP.mono g h) (RPk.mono g hs)
end
theorem RPs.length : ∀ {ds : List PyData} {vs : List V}, RPs K I H ds vs → ds.length = vs.length
  | _, _, .nil => rfl
  | _, _, .cons _ hs => by simp only [List.length_cons, RPs.length hs]
theorem RPs.append : ∀ {ds es : List PyData} {vs us : List V}, RPs K I H ds vs → RPs K I H es us → RPs K I H (ds ++ es) (vs ++ us)
  | _, _, _, _, .nil, h => h
  | _, _, _, _, .cons h hs, h' => .cons h (RPs.append hs h')
theorem RPs.get : ∀ {ds : List PyData} {vs : List V} {i : Nat} {d : PyData}, RPs K I H ds vs → ds[i]? = some d → ∃ v, vs[i]? = some v ∧ RP K I H d v
  | _, _, _, _, .nil, h => by simp at h
  | _, _, 0, _, .cons h _, e => by
    simp only [List.getElem?_cons_zero, Option.some.injEq] at e
    subst e
    exact ⟨_, rfl, h⟩
  | _, _, i + 1, d, .cons _ hs, e => by
    obtain ⟨v, h1, h2⟩ := RPs.get (i := i) (d := d) hs (by simpa using e)
    exact ⟨v, by simpa using h1, h2⟩
theorem RPs.take : ∀ {ds : List PyData} {vs : List V} (n : Nat), RPs K I H ds vs → RPs K I H (ds.take n) (vs.take n)
  | _, _, 0, _ => by simpa using RPs.nil
  | _, _, _ + 1, .nil => .nil
  | _, _, n + 1, .cons h hs => .cons h (RPs.take n hs)
theorem RPs.drop : ∀ {ds : List PyData} {vs : List V} (n : Nat), RPs K I H ds vs → RPs K I H (ds.drop n) (vs.drop n)
  | _, _, 0, h => h
  | _, _, _ + 1, .nil => .nil
  | _, _, n + 1, .cons _ hs => RPs.drop n hs
theorem RPs.reverse : ∀ {ds : List PyData} {vs : List V}, RPs K I H ds vs → RPs K I H ds.reverse vs.reverse
  | _, _, .nil => .nil
  | _, _, .cons h hs => by
    rw [List.reverse_cons, List.reverse_cons]
    exact (RPs.reverse hs).append (.cons h .nil)
mutual
theorem RP.dp : ∀ {d : PyData} {v : V}, RP K I H d v → d.canLay0 = true → Dp K H v d
  | _, _, .non, _ => .non
  | _, _, .bl b, _ => .bl b
  | _, _, .int i, _ => .int i
  | _, _, .str x, _ => .str x
  | _, _, .lst h hs, e => .lst h.sq (RPs.dp hs (by simpa [PyData.canLay0] using e))
  | _, _, .tup h hs, e => .tup h.sq (RPs.dp hs (by simpa [PyData.canLay0] using e))
  | _, _, .dct _ _ _, e => by simp [PyData.canLay0] at e
theorem RPs.dp : ∀ {ds : List PyData} {vs : List V}, RPs K I H ds vs → PyData.canLayAll0 ds = true → DpAll K H vs ds
  | _, _, .nil, _ => .nil
  | _, _, .cons h hs, e => by
    simp only [PyData.canLayAll0, Bool.and_eq_true] at e
    exact .cons (RP.dp h e.1) (RPs.dp hs e.2)
end
end

/-- an exception without attributes: its class -/
def excT (a C : Addr) : HO := .ext fun h => ∃ o, h.get? a = some o ∧ o.cls = .ref C ∧ o.dict = none ∧ ∃ vs, o.data = .fields vs
mutual
inductive RD (K : PySem.W.Frag) (mg : Str → Option Value) (n : Nat) (w : Wd) (H : Hp) : Dv → V → Prop
  | p {x : PyData} {v : V} : RP K w.I H x v → RD K mg n w H (.p x) v
  | ref {i : Nat} : i < n → RD K mg n w H (.ref i) (.ref (w.m i))
  | tupD {a : Addr} {vs : List V} {ds : List Dv} : SU K w.I H a vs → RDs K mg n w H ds vs → RD K mg n w H (.tupD ds) (.ref a)
  | lstD {a : Addr} {vs : List V} {ds : List Dv} : SL w.I H a vs → RDs K mg n w H ds vs → RD K mg n w H (.lstD ds) (.ref a)
  | frz {a : Addr} {ns : List Int} : FZ K w.I H a (ns.map V.int) → RD K mg n w H (.frz ns) (.ref a)
  | exc {a C : Addr} {c : Str} : mg c = some (.ref C) → w.I a → H a = some (excT a C) → RD K mg n w H (.exc c []) (.ref a)
  | xa {a C dx : Addr} {c x : Str} {d : Dv} {v : V} : mg c = some (.ref C) → w.I a → H a = some (exo a C (some dx)) → w.I dx → H dx = some (exd dx [(x, v)]) → RD K mg n w H d v → RD K mg n w H (.xa c x d) (.ref a)
inductive RDs (K : PySem.W.Frag) (mg : Str → Option Value) (n : Nat) (w : Wd) (H : Hp) : List Dv → List V → Prop
  | nil : RDs K mg n w H [] []
  | cons {d : Dv} {v : V} {ds : List Dv} {vs : List V} : RD K mg n w H d v → RDs K mg n w H ds vs → RDs K mg n w H (d :: ds) (v :: vs)
end

/-- from one state to a later one -/
structure Stp (n : Nat) (w : Wd) (H : Hp) (n' : Nat) (w' : Wd) (H' : Hp) : Prop where
  le : n ≤ n'
  ext : ∀ i, i < n → w'.m i = w.m i
  gro : Gro w.I H w'.I H'
  frm : Gro w.F H w'.F H'
theorem Stp.refl {n : Nat} {w : Wd} {H : Hp} : Stp n w H n w H := ⟨Nat.le_refl _, fun _ _ => rfl, .refl, .refl⟩
theorem Stp.trans {n n1 n2 : Nat} {w w1 w2 : Wd} {H H1 H2 : Hp} (a : Stp n w H n1 w1 H1) (b : Stp n1 w1 H1 n2 w2 H2) : Stp n w H n2 w2 H2 :=
  ⟨Nat.le_trans a.le b.le, fun i h => (b.ext i (Nat.lt_of_lt_of_le h a.le)).trans (a.ext i h), a.gro.trans b.gro, a.frm.trans b.frm⟩

section
variable {K : PySem.W.Frag} {mg : Str → Option Value} {n n' : Nat} {w w' : Wd} {H H' : Hp}
mutual
theorem RD.mono (g : Stp n w H n' w' H') : ∀ {d : Dv} {v : V}, RD K mg n w H d v → RD K mg n' w' H' d v
  | _, _, .p h => .p (h.mono g.gro)
  | _, _, .ref h => by
    rw [← g.ext _ h]
    exact .ref (Nat.lt_of_lt_of_le h g.le)
  | _, _, .tupD h hs => .tupD (h.mono g.gro) (RDs.mono g hs)
  | _, _, .lstD h hs => .lstD (h.mono g.gro) (RDs.mono g hs)
  | _, _, .frz h => .frz (h.mono g.gro)
  | _, _, .exc m i e => .exc m (g.gro.inc _ i) (g.gro.imm _ _ i e)
  | _, _, .xa m i e j f h => .xa m (g.gro.inc _ i) (g.gro.imm _ _ i e) (g.gro.inc _ j) (g.gro.imm _ _ j f) (RD.mono g h)
theorem RDs.mono (g : Stp n w H n' w' H') : ∀ {ds : List Dv} {vs : List V}, RDs K mg n w H ds vs → RDs K mg n' w' H' ds vs
  | _, _, .nil => .nil
  | _, _, .cons h hs => .cons (RD.mono g h) (RDs.mono g hs)
end
theorem RDs.length : ∀ {ds : List Dv} {vs : List V}, RDs K mg n w H ds vs → ds.length = vs.length
  | _, _, .nil => rfl
  | _, _, .cons _ hs => by simp only [List.length_cons, RDs.length hs]
theorem RDs.append : ∀ {ds es : List Dv} {vs us : List V}, RDs K mg n w H ds vs → RDs K mg n w H es us → RDs K mg n w H (ds ++ es) (vs ++ us)
  | _, _, _, _, .nil, h => h
  | _, _, _, _, .cons h hs, h' => .cons h (RDs.append hs h')
theorem RDs.get : ∀ {ds : List Dv} {vs : List V} {i : Nat} {d : Dv}, RDs K mg n w H ds vs → ds[i]? = some d → ∃ v, vs[i]? = some v ∧ RD K mg n w H d v
  | _, _, _, _, .nil, h => by simp at h
  | _, _, 0, _, .cons h _, e => by
    simp only [List.getElem?_cons_zero, Option.some.injEq] at e
    subst e
    exact ⟨_, rfl, h⟩
  | _, _, i + 1, d, .cons _ hs, e => by
    obtain ⟨v, h1, h2⟩ := RDs.get (i := i) (d := d) hs (by simpa using e)
    exact ⟨v, by simpa using h1, h2⟩
theorem RDs.set {d : Dv} {v : V} (h : RD K mg n w H d v) : ∀ {ds : List Dv} {vs : List V} (i : Nat), RDs K mg n w H ds vs → RDs K mg n w H (ds.set i d) (vs.set i v)
  | _, _, _, .nil => .nil
  | _, _, 0, .cons _ hs => .cons h hs
  | _, _, i + 1, .cons q hs => .cons q (RDs.set h i hs)
theorem RDs.take : ∀ {ds : List Dv} {vs : List V} (k : Nat), RDs K mg n w H ds vs → RDs K mg n w H (ds.take k) (vs.take k)
  | _, _, 0, _ => by simpa using RDs.nil
  | _, _, _ + 1, .nil => .nil
  | _, _, k + 1, .cons h hs => .cons h (RDs.take k hs)
theorem RDs.drop : ∀ {ds : List Dv} {vs : List V} (k : Nat), RDs K mg n w H ds vs → RDs K mg n w H (ds.drop k) (vs.drop k)
  | _, _, 0, h => h
  | _, _, _ + 1, .nil => .nil
  | _, _, k + 1, .cons _ hs => RDs.drop k hs
theorem RDs.eraseIdx : ∀ {ds : List Dv} {vs : List V} (k : Nat), RDs K mg n w H ds vs → RDs K mg n w H (ds.eraseIdx k) (vs.eraseIdx k)
  | _, _, _, .nil => .nil
  | _, _, 0, .cons _ hs => hs
  | _, _, k + 1, .cons h hs => .cons h (RDs.eraseIdx k hs)
theorem RDs.ofP : ∀ {ds : List PyData} {vs : List V}, RPs K w.I H ds vs → RDs K mg n w H (ds.map Dv.p) vs
  | _, _, .nil => .nil
  | _, _, .cons h hs => .cons (.p h) (RDs.ofP hs)
/-- all of them pure data -/
def pures : List Dv → Option (List PyData)
  | [] => some []
  | .p x :: r => (pures r).map (x :: ·)
  | _ :: _ => none
theorem pures_map : ∀ ds : List PyData, pures (ds.map Dv.p) = some ds
  | [] => rfl
  | d :: ds => by
    show (pures (ds.map Dv.p)).map (d :: ·) = some (d :: ds)
    rw [pures_map ds]; rfl
theorem pures_eq : ∀ {ds : List Dv} {xs : List PyData}, pures ds = some xs → ds = xs.map Dv.p
  | [], xs, h => by cases h; rfl
  | .p x :: r, xs, h => by
    have h' : (pures r).map (x :: ·) = some xs := h
    cases e : pures r with
    | none => rw [e] at h'; cases h'
    | some ys =>
      rw [e] at h'
      cases h'
      rw [pures_eq e]; rfl
  | .ref _ :: _, _, h => by cases h
  | .tupD _ :: _, _, h => by cases h
  | .lstD _ :: _, _, h => by cases h
  | .exc _ _ :: _, _, h => by cases h
  | .frz _ :: _, _, h => by cases h
  | .xa _ _ _ :: _, _, h => by cases h
theorem RDs.toP : ∀ {ds : List Dv} {xs : List PyData} {vs : List V}, RDs K mg n w H ds vs → pures ds = some xs → RPs K w.I H xs vs
  | _, _, _, h, e => by
    rw [pures_eq e] at h
    exact go h
where go : ∀ {xs : List PyData} {vs : List V}, RDs K mg n w H (xs.map Dv.p) vs → RPs K w.I H xs vs
  | [], _, h => by cases h; exact .nil
  | x :: xs, _, h => by
    cases h with
    | cons h1 h2 =>
      cases h1 with
      | p q => exact .cons q (go h2)
end

/-! ### the store -/
def live (st : So) (i : Nat) : Prop := ∃ c, st[i]? = some c ∧ c ≠ .dead
def CellOk (K : PySem.W.Frag) (mg : Str → Option Value) (n : Nat) (w : Wd) (H : Hp) (a : Addr) : Cl → Prop
  | .lst xs => ∃ vs, H a = some (.lst vs) ∧ RDs K mg n w H xs vs ∧ ¬ w.I a
  | .dK kvs => ∃ kws, H a = some (.dK kws) ∧ Paired (fun (p : Key × Dv) (q : Key × V) => p.1 = q.1 ∧ RD K mg n w H p.2 q.2) kvs kws ∧ ¬ w.I a
  | .dT kvs => ∃ kws, H a = some (.dT kws) ∧ Paired (fun (p : List Key × Dv) (q : List Key × V) => p.1 = q.1 ∧ RD K mg n w H p.2 q.2) kvs kws ∧ ¬ w.I a
  | .dead => True
structure Sim (K : PySem.W.Frag) (mg : Str → Option Value) (w : Wd) (st : So) (H : Hp) : Prop where
  cell : ∀ i c, st[i]? = some c → CellOk K mg st.length w H (w.m i) c
  inj : ∀ i j, live st i → live st j → w.m i = w.m j → i = j
  trk : ∀ a, w.I a → ∃ o, H a = some o
  fr : ∀ a, w.F a → (∃ o, H a = some o) ∧ ¬ w.I a ∧ ∀ i, live st i → w.m i ≠ a
section
variable {K : PySem.W.Frag} {mg : Str → Option Value} {n n' : Nat} {w w' : Wd} {st : So} {H H' : Hp} {a p : Addr} {c : Cl} {o : HO}
theorem Paired.imp {α β : Type} {F G : α → β → Prop} (f : ∀ a b, F a b → G a b) : ∀ {l : List α} {m : List β}, Paired F l m → Paired G l m
  | _, _, .nil => .nil
  | _, _, .cons h t => .cons (f _ _ h) (Paired.imp f t)
theorem CellOk.mono (g : Stp n w H n' w' H') (hH : c ≠ .dead → H' a = H a ∧ (w'.I a → w.I a)) (h : CellOk K mg n w H a c) : CellOk K mg n' w' H' a c := by
  cases c with
  | lst xs =>
    obtain ⟨vs, e, r, ni⟩ := h
    obtain ⟨e1, e2⟩ := hH (by simp)
    exact ⟨vs, by rw [e1, e], r.mono g, fun z => ni (e2 z)⟩
  | dK kvs =>
    obtain ⟨vs, e, r, ni⟩ := h
    obtain ⟨e1, e2⟩ := hH (by simp)
    exact ⟨vs, by rw [e1, e], Paired.imp (fun _ _ z => ⟨z.1, z.2.mono g⟩) r, fun z => ni (e2 z)⟩
  | dT kvs =>
    obtain ⟨vs, e, r, ni⟩ := h
    obtain ⟨e1, e2⟩ := hH (by simp)
    exact ⟨vs, by rw [e1, e], Paired.imp (fun _ _ z => ⟨z.1, z.2.mono g⟩) r, fun z => ni (e2 z)⟩
  | dead => trivial
theorem CellOk.tracked (h : CellOk K mg n w H a c) (hc : c ≠ .dead) : (∃ o, H a = some o) ∧ ¬ w.I a := by
  cases c with
  | lst xs => obtain ⟨_, e, _, ni⟩ := h; exact ⟨⟨_, e⟩, ni⟩
  | dK kvs => obtain ⟨_, e, _, ni⟩ := h; exact ⟨⟨_, e⟩, ni⟩
  | dT kvs => obtain ⟨_, e, _, ni⟩ := h; exact ⟨⟨_, e⟩, ni⟩
  | dead => exact absurd rfl hc
mutual
theorem RD.noF {F : Addr → Prop} : ∀ {d : Dv} {v : V}, RD K mg n w H d v → RD K mg n { w with F := F } H d v
  | _, _, .p h => .p h
  | _, _, .ref h => .ref (w := { w with F := F }) h
  | _, _, .tupD h hs => .tupD h (RDs.noF hs)
  | _, _, .lstD h hs => .lstD h (RDs.noF hs)
  | _, _, .frz h => .frz h
  | _, _, .exc m i e => .exc m i e
  | _, _, .xa m i e j f h => .xa m i e j f (RD.noF h)
theorem RDs.noF {F : Addr → Prop} : ∀ {ds : List Dv} {vs : List V}, RDs K mg n w H ds vs → RDs K mg n { w with F := F } H ds vs
  | _, _, .nil => .nil
  | _, _, .cons h hs => .cons (RD.noF h) (RDs.noF hs)
end
theorem CellOk.noF (h : CellOk K mg n w H a c) : CellOk K mg n { w with F := fun _ => False } H a c := by
  cases c with
  | lst xs =>
    obtain ⟨vs, e, r, ni⟩ := h
    exact ⟨vs, e, r.noF, ni⟩
  | dK kvs =>
    obtain ⟨vs, e, r, ni⟩ := h
    exact ⟨vs, e, Paired.imp (fun _ _ z => ⟨z.1, z.2.noF⟩) r, ni⟩
  | dT kvs =>
    obtain ⟨vs, e, r, ni⟩ := h
    exact ⟨vs, e, Paired.imp (fun _ _ z => ⟨z.1, z.2.noF⟩) r, ni⟩
  | dead => trivial
theorem Sim.tracked (s : Sim K mg w st H) {i : Nat} (h : live st i) : (∃ o, H (w.m i) = some o) ∧ ¬ w.I (w.m i) := by
  obtain ⟨c, e, hc⟩ := h
  exact (s.cell i c e).tracked hc
/-- I with one more -/
def Wd.imm (w : Wd) (p : Addr) : Wd := { w with I := fun a => a = p ∨ w.I a }
/-- m with one more -/
def Wd.cel (w : Wd) (n : Nat) (p : Addr) : Wd := { w with m := fun i => if i = n then p else w.m i }
theorem rd_upd (hp : H p = none) {u : HO} (h : H a = some u) : upd H p o a = some u := by
  rw [upd_ne (ne_of_none h hp)]; exact h
/-- a new object that stays: a tuple, a list, a dict that nothing changes -/
theorem Sim.newP (s : Sim K mg w st H) (hp : H p = none) : Stp st.length w H st.length (w.imm p) (upd H p o) ∧ Sim K mg (w.imm p) st (upd H p o) := by
  have g : Stp st.length w H st.length (w.imm p) (upd H p o) := ⟨Nat.le_refl _, fun _ _ => rfl, ⟨fun a h => .inr h, fun a u _ r => rd_upd hp r⟩, ⟨fun a h => h, fun a u _ r => rd_upd hp r⟩⟩
  refine ⟨g, fun i c e => ?_, s.inj, fun a h => ?_, fun a h => ?_⟩
  · refine (s.cell i c e).mono g fun hc => ?_
    obtain ⟨⟨z, hz⟩, _⟩ := (s.cell i c e).tracked hc
    have ne : w.m i ≠ p := ne_of_none hz hp
    exact ⟨upd_ne ne, fun q => q.elim (fun q => absurd q ne) id⟩
  · rcases h with h | h
    · exact ⟨o, by rw [h, upd_same]⟩
    · obtain ⟨z, hz⟩ := s.trk a h
      exact ⟨z, by rw [upd_ne (ne_of_none hz hp)]; exact hz⟩
  · obtain ⟨⟨z, hz⟩, h2, h3⟩ := s.fr a h
    exact ⟨⟨z, rd_upd hp hz⟩, fun q => q.elim (fun q => ne_of_none hz hp q) h2, h3⟩
theorem live_append {st : So} {c : Cl} {i : Nat} (h : live (st ++ [c]) i) : live st i ∨ i = st.length := by
  obtain ⟨d, e, hd⟩ := h
  by_cases hi : i < st.length
  · rw [List.getElem?_append_left hi] at e
    exact .inl ⟨d, e, hd⟩
  · have : i < (st ++ [c]).length := (List.getElem?_eq_some_iff.mp e).1
    rw [List.length_append, List.length_singleton] at this
    exact .inr (by omega)
theorem live_lt {st : So} {i : Nat} (h : live st i) : i < st.length := by
  obtain ⟨c, e, _⟩ := h
  exact (List.getElem?_eq_some_iff.mp e).1
/-- a new cell -/
theorem Sim.newC (s : Sim K mg w st H) (hp : H p = none) (hc : ∀ {n' w' H'}, Stp st.length w H n' w' H' → H' p = some o → ¬ w'.I p → CellOk K mg n' w' H' p c) :
    Stp st.length w H (st.length + 1) (w.cel st.length p) (upd H p o) ∧ Sim K mg (w.cel st.length p) (st ++ [c]) (upd H p o) := by
  have g : Stp st.length w H (st.length + 1) (w.cel st.length p) (upd H p o) := by
    refine ⟨Nat.le_succ _, fun i hi => ?_, ⟨fun a h => h, fun a u _ r => rd_upd hp r⟩, ⟨fun a h => h, fun a u _ r => rd_upd hp r⟩⟩
    show (if i = st.length then p else w.m i) = w.m i
    rw [if_neg (Nat.ne_of_lt hi)]
  have nI : ¬ w.I p := fun z => by
    obtain ⟨q, e⟩ := s.trk p z
    rw [hp] at e; cases e
  have mi : ∀ i, i < st.length → (w.cel st.length p).m i = w.m i := fun i hi => g.ext i hi
  have ml : (w.cel st.length p).m st.length = p := by
    show (if st.length = st.length then p else _) = p
    rw [if_pos rfl]
  refine ⟨g, fun i d e => ?_, fun i j hi hj e => ?_, fun a h => ?_, fun a h => ?_⟩
  · rw [List.length_append, List.length_singleton]
    by_cases hi : i < st.length
    · rw [List.getElem?_append_left hi] at e
      rw [mi i hi]
      refine (s.cell i d e).mono g fun hd => ?_
      obtain ⟨⟨z, hz⟩, _⟩ := (s.cell i d e).tracked hd
      exact ⟨upd_ne (ne_of_none hz hp), id⟩
    · have hl : i < (st ++ [c]).length := (List.getElem?_eq_some_iff.mp e).1
      rw [List.length_append, List.length_singleton] at hl
      have ei : i = st.length := by omega
      subst ei
      rw [List.getElem?_append_right (Nat.le_refl _), Nat.sub_self] at e
      simp only [List.getElem?_cons_zero, Option.some.injEq] at e
      subst e
      rw [ml]
      exact hc g upd_same nI
  · rcases live_append hi with li | ei <;> rcases live_append hj with lj | ej
    · rw [mi i (live_lt li), mi j (live_lt lj)] at e
      exact s.inj i j li lj e
    · subst ej
      rw [mi i (live_lt li), ml] at e
      obtain ⟨⟨z, hz⟩, _⟩ := s.tracked li
      exact absurd e (ne_of_none hz hp)
    · subst ei
      rw [mi j (live_lt lj), ml] at e
      obtain ⟨⟨z, hz⟩, _⟩ := s.tracked lj
      exact absurd e.symm (ne_of_none hz hp)
    · rw [ei, ej]
  · obtain ⟨z, hz⟩ := s.trk a h
    exact ⟨z, by rw [upd_ne (ne_of_none hz hp)]; exact hz⟩
  · obtain ⟨⟨z, hz⟩, h2, h3⟩ := s.fr a h
    refine ⟨⟨z, rd_upd hp hz⟩, h2, fun i hi => ?_⟩
    rcases live_append hi with li | ei
    · rw [mi i (live_lt li)]
      exact h3 i li
    · subst ei
      rw [ml]
      exact (ne_of_none hz hp).symm
theorem live_set {st : So} {c : Cl} {i j : Nat} (hj : live st j) (h : live (st.set j c) i) : live st i := by
  obtain ⟨d, e, hd⟩ := h
  by_cases hij : j = i
  · subst hij; exact hj
  · rw [List.getElem?_set_ne hij] at e
    exact ⟨d, e, hd⟩
/-- a cell is written -/
theorem Sim.wr (s : Sim K mg w st H) {j : Nat} (hj : live st j) (hc : ∀ {w' H'}, Stp st.length w H st.length w' H' → H' (w.m j) = some o → ¬ w'.I (w.m j) → CellOk K mg st.length w' H' (w.m j) c) :
    Stp st.length w H st.length w (upd H (w.m j) o) ∧ Sim K mg w (st.set j c) (upd H (w.m j) o) := by
  obtain ⟨⟨oj, hoj⟩, nI⟩ := s.tracked hj
  have g : Stp st.length w H st.length w (upd H (w.m j) o) := by
    refine ⟨Nat.le_refl _, fun i hi => rfl, ⟨fun a h => h, fun a u ia r => ?_⟩, ⟨fun a h => h, fun a u ia r => ?_⟩⟩
    · have ne : a ≠ w.m j := fun z => nI (z ▸ ia)
      rw [upd_ne ne]; exact r
    · rw [upd_ne ((s.fr a ia).2.2 j hj).symm]; exact r
  refine ⟨g, fun i d e => ?_, fun i k hi hk e => s.inj i k (live_set hj hi) (live_set hj hk) e, fun a h => ?_, fun a h => ?_⟩
  · rw [List.length_set]
    by_cases hij : j = i
    · subst hij
      rw [List.getElem?_set_self (live_lt hj)] at e
      simp only [Option.some.injEq] at e
      subst e
      exact hc g upd_same nI
    · rw [List.getElem?_set_ne hij] at e
      refine (s.cell i d e).mono g fun hd => ?_
      have ne : w.m i ≠ w.m j := fun z => hij (s.inj i j ⟨d, e, hd⟩ hj z).symm
      exact ⟨upd_ne ne, id⟩
  · by_cases e : a = w.m j
    · exact ⟨o, by rw [e, upd_same]⟩
    · obtain ⟨z, hz⟩ := s.trk a h
      exact ⟨z, by rw [upd_ne e]; exact hz⟩
  · obtain ⟨⟨z, hz⟩, h2, h3⟩ := s.fr a h
    exact ⟨⟨z, by rw [upd_ne (h3 j hj).symm]; exact hz⟩, h2, fun i hi => h3 i (live_set hj hi)⟩
/-- a cell that is not changed any more becomes data -/
theorem Sim.frz (s : Sim K mg w st H) {j : Nat} (hj : live st j) : Stp st.length w H st.length (w.imm (w.m j)) H ∧ Sim K mg (w.imm (w.m j)) (st.set j .dead) H := by
  obtain ⟨⟨oj, hoj⟩, nI⟩ := s.tracked hj
  have g : Stp st.length w H st.length (w.imm (w.m j)) H := ⟨Nat.le_refl _, fun _ _ => rfl, ⟨fun a h => .inr h, fun _ _ _ r => r⟩, .refl⟩
  refine ⟨g, fun i d e => ?_, fun i k hi hk e => s.inj i k (live_set hj hi) (live_set hj hk) e, fun a h => ?_, fun a h => ?_⟩
  · rw [List.length_set]
    by_cases hij : j = i
    · subst hij
      rw [List.getElem?_set_self (live_lt hj)] at e
      simp only [Option.some.injEq] at e
      subst e
      trivial
    · rw [List.getElem?_set_ne hij] at e
      refine (s.cell i d e).mono g fun hd => ⟨rfl, fun q => q.elim (fun q => ?_) id⟩
      exact absurd (s.inj i j ⟨d, e, hd⟩ hj q).symm hij
  · rcases h with h | h
    · exact ⟨oj, by rw [h]; exact hoj⟩
    · exact s.trk a h
  · obtain ⟨h1, h2, h3⟩ := s.fr a h
    exact ⟨h1, fun q => q.elim (fun q => h3 j hj q.symm) h2, fun i hi => h3 i (live_set hj hi)⟩
/-- something is set aside: neither data nor a cell -/
def Wd.aside (w : Wd) (p : Addr) : Wd := { w with F := fun a => a = p ∨ w.F a }
theorem Sim.put (s : Sim K mg w st H) (hp : H p = none) : Stp st.length w H st.length (w.aside p) (upd H p o) ∧ Sim K mg (w.aside p) st (upd H p o) := by
  have g : Stp st.length w H st.length (w.aside p) (upd H p o) := ⟨Nat.le_refl _, fun _ _ => rfl, ⟨fun a h => h, fun a u _ r => rd_upd hp r⟩, ⟨fun a h => .inr h, fun a u _ r => rd_upd hp r⟩⟩
  refine ⟨g, fun i c e => ?_, s.inj, fun a h => ?_, fun a h => ?_⟩
  · refine (s.cell i c e).mono g fun hc => ?_
    obtain ⟨⟨z, hz⟩, _⟩ := (s.cell i c e).tracked hc
    exact ⟨upd_ne (ne_of_none hz hp), id⟩
  · obtain ⟨z, hz⟩ := s.trk a h
    exact ⟨z, rd_upd hp hz⟩
  · rcases h with h | h
    · subst h
      refine ⟨⟨o, upd_same⟩, fun q => ?_, fun i hi => ?_⟩
      · obtain ⟨z, hz⟩ := s.trk a q
        rw [hp] at hz; cases hz
      · obtain ⟨⟨z, hz⟩, _⟩ := s.tracked hi
        exact ne_of_none hz hp
    · obtain ⟨⟨z, hz⟩, h2, h3⟩ := s.fr a h
      exact ⟨⟨z, rd_upd hp hz⟩, h2, h3⟩
/-- it is no longer set aside, and gone -/
def Wd.back (w : Wd) (F : Addr → Prop) : Wd := { w with F := F }
def era (H : Hp) (p : Addr) : Hp := fun b => if b = p then none else H b
theorem era_same : era H p p = none := by unfold era; rw [if_pos rfl]
theorem era_ne {b : Addr} (h : b ≠ p) : era H p b = H b := by unfold era; rw [if_neg h]
theorem upd_era : upd (era H p) p o = upd H p o := by
  funext b
  by_cases h : b = p
  · subst h; rw [upd_same, upd_same]
  · rw [upd_ne h, upd_ne h, era_ne h]
theorem era_upd (hp : H p = none) : era (upd H p o) p = H := by
  funext b
  by_cases h : b = p
  · subst h; rw [era_same, hp]
  · rw [era_ne h, upd_ne h]
theorem Sim.drop {F : Addr → Prop} (s : Sim K mg w st H) (hp : w.F p) (hF : ∀ a, F a → w.F a ∧ a ≠ p) : Sim K mg (w.back F) st (era H p) ∧
    (∀ {n0 w0 H0}, Stp n0 w0 H0 st.length w H → (∀ a, w0.F a → F a) → Stp n0 w0 H0 st.length (w.back F) (era H p)) ∧
    Stp st.length { w with F := fun _ => False } H st.length (w.back F) (era H p) := by
  obtain ⟨⟨z, hz⟩, h2, h3⟩ := s.fr p hp
  have nI : ∀ a, w.I a → a ≠ p := fun a h q => by rw [q] at h; exact h2 h
  have g0 : Stp st.length { w with F := fun _ => False } H st.length (w.back F) (era H p) :=
    ⟨Nat.le_refl _, fun _ _ => rfl, ⟨fun _ h => h, fun a u ia r => by rw [era_ne (nI a ia)]; exact r⟩, ⟨fun _ h => h.elim, fun _ _ h => h.elim⟩⟩
  refine ⟨⟨fun i c e => ?_, s.inj, fun a h => ?_, fun a h => ?_⟩, fun {n0 w0 H0} g hF0 => ⟨g.le, g.ext, ⟨g.gro.inc, fun a u ha e => ?_⟩, ⟨hF0, fun a u ha e => ?_⟩⟩, g0⟩
  · have hc := s.cell i c e
    by_cases hd : c = .dead
    · subst hd; trivial
    · have ne : w.m i ≠ p := h3 i ⟨c, e, hd⟩
      exact CellOk.mono g0 (fun _ => ⟨era_ne ne, id⟩) (CellOk.noF hc)
  · obtain ⟨y, hy⟩ := s.trk a h
    exact ⟨y, by rw [era_ne (nI a h)]; exact hy⟩
  · obtain ⟨ha, hne⟩ := hF a h
    obtain ⟨⟨y, hy⟩, q2, q3⟩ := s.fr a ha
    exact ⟨⟨y, by rw [era_ne hne]; exact hy⟩, q2, q3⟩
  · rw [era_ne (nI a (g.gro.inc a ha))]
    exact g.gro.imm a u ha e
  · rw [era_ne (hF a (hF0 a ha)).2]
    exact g.frm.imm a u ha e
theorem RD.back {d : Dv} {v : V} (g : Stp n { w with F := fun _ => False } H n' w' H') (h : RD K mg n w H d v) : RD K mg n' w' H' d v := h.noF.mono g
theorem RDs.back {d : List Dv} {v : List V} (g : Stp n { w with F := fun _ => False } H n' w' H') (h : RDs K mg n w H d v) : RDs K mg n' w' H' d v := h.noF.mono g
end
end FB
set_option Elab.async false
set_option linter.all false
set_option maxRecDepth 100000
set_option maxHeartbeats 4000000
/-! FB1: functions over data and store as readings; the rules of expressions, tests, arguments, statements. -/
namespace FB
open PySem PySem.Spec PyProof.Rows L2

def EnvR (K : PySem.W.Frag) (mg : Str → Option Value) (n : Nat) (w : Wd) (H : Hp) (ρ : Sl) (σ : L2.St) : Prop :=
  ρ.length = σ.length ∧ ∀ (i : Nat) (d : Dv), ρ[i]? = some (some d) → ∃ v, σ[i]? = some (some v) ∧ RD K mg n w H d v
def ExR (K : PySem.W.Frag) (mg : Str → Option Value) (w : Wd) (H : Hp) (c : Str) (fs : List (Str × PyData)) (cv : Value) (dd : Option Addr) : Prop :=
  ∃ C, mg c = some (.ref C) ∧ cv = .ref C ∧ ((fs = [] ∧ dd = none) ∨ ∃ d vs, fs ≠ [] ∧ dd = some d ∧ w.I d ∧ H d = some (.xd vs) ∧ Paired (fun (p : Str × PyData) (q : Str × V) => p.1 = q.1 ∧ RP K w.I H p.2 q.2) fs vs)

def Good {α β : Type} (Rel : Nat → Wd → Hp → α → β → Prop) (K : PySem.W.Frag) (mg : Str → Option Value) (W : WX) (σ : L2.St) (n : Nat) (w : Wd) (H : Hp) (Q : β → Hp → Prop) : Rs α → Prop
  | .ok a st' => ∀ w' H' b, Stp n w H st'.length w' H' → Sim K mg w' st' H' → Rel st'.length w' H' a b → Q b H'
  | .exc c fs st' => ∀ w' H' cv dd, Stp n w H st'.length w' H' → Sim K mg w' st' H' → ExR K mg w' H' c fs cv dd → W cv dd σ H'
  | .stuck => False
def RelB : Nat → Wd → Hp → Bool → Bool → Prop := fun _ _ _ a b => a = b

section
variable {K : PySem.W.Frag} {mg : Str → Option Value} {W : WX} {σ : L2.St} {n n' : Nat} {w w' : Wd} {H H' : Hp} {ρ : Sl} {st : So}
theorem EnvR.mono (g : Stp n w H n' w' H') (h : EnvR K mg n w H ρ σ) : EnvR K mg n' w' H' ρ σ := ⟨h.1, fun i d e => by
  obtain ⟨v, e1, r⟩ := h.2 i d e
  exact ⟨v, e1, r.mono g⟩⟩
theorem EnvR.set {d : Dv} {v : V} (h : EnvR K mg n w H ρ σ) (r : RD K mg n w H d v) (i : Nat) : EnvR K mg n w H (ρ.set i (some d)) (σ.set i (some v)) := by
  refine ⟨by rw [List.length_set, List.length_set, h.1], fun j e he => ?_⟩
  by_cases hij : i = j
  · subst hij
    by_cases hi : i < ρ.length
    · rw [List.getElem?_set_self hi] at he
      cases he
      exact ⟨v, List.getElem?_set_self (by rw [← h.1]; exact hi), r⟩
    · rw [List.getElem?_eq_none (by rw [List.length_set]; omega)] at he
      cases he
  · rw [List.getElem?_set_ne hij] at he
    rw [List.getElem?_set_ne hij]
    exact h.2 j e he
theorem EnvR.setN (h : EnvR K mg n w H ρ σ) (i : Nat) : EnvR K mg n w H (ρ.set i none) (σ.set i none) := by
  refine ⟨by rw [List.length_set, List.length_set, h.1], fun j e he => ?_⟩
  by_cases hij : i = j
  · subst hij
    by_cases hi : i < ρ.length
    · rw [List.getElem?_set_self hi] at he
      cases he
    · rw [List.getElem?_eq_none (by rw [List.length_set]; omega)] at he
      cases he
  · rw [List.getElem?_set_ne hij] at he
    rw [List.getElem?_set_ne hij]
    exact h.2 j e he
theorem Good.later {α β : Type} {Rel : Nat → Wd → Hp → α → β → Prop} {Q : β → Hp → Prop} {r : Rs α} (g : Stp n w H n' w' H') (h : Good Rel K mg W σ n w H Q r) : Good Rel K mg W σ n' w' H' Q r := by
  cases r with
  | ok a st' => exact fun w2 H2 b s => h w2 H2 b (g.trans s)
  | exc c fs st' => exact fun w2 H2 cv dd s => h w2 H2 cv dd (g.trans s)
  | stuck => exact h
theorem Good.imp {α β : Type} {Rel : Nat → Wd → Hp → α → β → Prop} {Q Q' : β → Hp → Prop} {r : Rs α} (hq : ∀ b H', Q b H' → Q' b H') (h : Good Rel K mg W σ n w H Q r) : Good Rel K mg W σ n w H Q' r := by
  cases r with
  | ok a st' => exact fun w2 H2 b s s' q => hq _ _ (h w2 H2 b s s' q)
  | exc c fs st' => exact h
  | stuck => exact h
theorem Good.bind {α β γ δ : Type} {Rel : Nat → Wd → Hp → α → β → Prop} {Rel' : Nat → Wd → Hp → γ → δ → Prop} {Q : δ → Hp → Prop} {r : Rs α} {f : α → So → Rs γ} (h : Good Rel' K mg W σ n w H Q (r.bind f)) :
    Good Rel K mg W σ n w H (fun b H1 => ∃ st1 w1 a, Sim K mg w1 st1 H1 ∧ Stp n w H st1.length w1 H1 ∧ Rel st1.length w1 H1 a b ∧ Good Rel' K mg W σ st1.length w1 H1 Q (f a st1)) r := by
  cases r with
  | ok a st' =>
    intro w1 H1 b s sim rel
    exact ⟨st', w1, a, sim, s, rel, Good.later s h⟩
  | exc c fs st' => exact h
  | stuck => exact h
end

/-- readings of functions over data -/
def TF (K : PySem.W.Frag) (mg : Str → Option Value) (W : WX) (f : FE) : TE := fun σ H Q => ∃ ρ st w, Sim K mg w st H ∧ EnvR K mg st.length w H ρ σ ∧ Good (RD K mg) K mg W σ st.length w H Q (f ρ st)
def TFT (K : PySem.W.Frag) (mg : Str → Option Value) (W : WX) (f : FT) : TT := fun σ H Q => ∃ ρ st w, Sim K mg w st H ∧ EnvR K mg st.length w H ρ σ ∧ Good RelB K mg W σ st.length w H Q (f ρ st)
def TFA (K : PySem.W.Frag) (mg : Str → Option Value) (W : WX) (f : FA) : TA := fun σ H Q => ∃ ρ st w, Sim K mg w st H ∧ EnvR K mg st.length w H ρ σ ∧ Good (RDs K mg) K mg W σ st.length w H Q (f ρ st)
/-- a new list that nothing else holds: its items -/
def TFL (K : PySem.W.Frag) (mg : Str → Option Value) (W : WX) (f : FA) : TE := fun σ H Q => ∃ ρ st w, Sim K mg w st H ∧ EnvR K mg st.length w H ρ σ ∧
  Good (RDs K mg) K mg W σ st.length w H (fun vs H' => ∀ p, H' p = none → vs.length ≤ sizeLine → Q (.ref p) (upd H' p (.lst vs))) (f ρ st)
def GoodS (K : PySem.W.Frag) (mg : Str → Option Value) (W : WX) (n : Nat) (w : Wd) (H : Hp) (D : Ends) : Ss → Prop
  | .nx ρ' st' => ∀ w' H' σ', Stp n w H st'.length w' H' → Sim K mg w' st' H' → EnvR K mg st'.length w' H' ρ' σ' → D.nx σ' H'
  | .ret d st' => ∀ w' H' v, Stp n w H st'.length w' H' → Sim K mg w' st' H' → RD K mg st'.length w' H' d v → D.rt v H'
  | .brk ρ' st' => ∀ w' H' σ', Stp n w H st'.length w' H' → Sim K mg w' st' H' → EnvR K mg st'.length w' H' ρ' σ' → D.bk σ' H'
  | .cnt ρ' st' => ∀ w' H' σ', Stp n w H st'.length w' H' → Sim K mg w' st' H' → EnvR K mg st'.length w' H' ρ' σ' → D.ct σ' H'
  | .exc c fs ρ' st' => ∀ w' H' σ' cv dd, Stp n w H st'.length w' H' → Sim K mg w' st' H' → EnvR K mg st'.length w' H' ρ' σ' → ExR K mg w' H' c fs cv dd → W cv dd σ' H'
  | .stuck => False
def TFS (K : PySem.W.Frag) (mg : Str → Option Value) (W : WX) (f : FS) : TS := fun D σ H => ∃ ρ st w, Sim K mg w st H ∧ EnvR K mg st.length w H ρ σ ∧ GoodS K mg W st.length w H D (f ρ st)

def PF (X : Cx) (W : WX) (e : Expr) (f : FE) : Prop := PE X e (TF X.K X.mg W f)
def PFT (X : Cx) (W : WX) (e : Expr) (f : FT) : Prop := PT X e (TFT X.K X.mg W f)
def PFA (X : Cx) (W : WX) (es : List Expr) (f : FA) : Prop := PA X es (TFA X.K X.mg W f)
def PFL (X : Cx) (W : WX) (e : Expr) (f : FA) : Prop := PE X e (TFL X.K X.mg W f)
def PFS (X : Cx) (W : WX) (st : Stmt) (f : FS) : Prop := PS X st (TFS X.K X.mg W f)
def PFSs (X : Cx) (W : WX) (st : List Stmt) (f : FS) : Prop := PSs X st (TFS X.K X.mg W f)

section
variable {X : Cx} {W : WX} {e a b : Expr} {es : List Expr} {fa fb : FE} {f : FE} {pos : Pos}
theorem PE_imp {t t' : TE} (h : PE X e t) (hi : ∀ σ H Q, t' σ H Q → t σ H Q) : PE X e t' := ⟨fun pins s σ H Q I q => h.run pins s σ H Q I (hi σ H Q q)⟩
theorem PT_imp {t t' : TT} (h : PT X e t) (hi : ∀ σ H Q, t' σ H Q → t σ H Q) : PT X e t' := ⟨fun pins s σ H Q I q => h.run pins s σ H Q I (hi σ H Q q)⟩
theorem PA_imp {t t' : TA} (h : PA X es t) (hi : ∀ σ H Q, t' σ H Q → t σ H Q) : PA X es t' := ⟨fun po pins s σ H Q I q => h.run po pins s σ H Q I (hi σ H Q q)⟩
theorem PS_imp {s : Stmt} {t t' : TS} (h : PS X s t) (hi : ∀ D σ H, t' D σ H → t D σ H) : PS X s t' := ⟨fun pins s σ H D I q => h.run pins s σ H D I (hi D σ H q)⟩
theorem PSs_imp {s : List Stmt} {t t' : TS} (h : PSs X s t) (hi : ∀ D σ H, t' D σ H → t D σ H) : PSs X s t' := ⟨fun pins s σ H D I q => h.run pins s σ H D I (hi D σ H q)⟩

/-! ### names, constants -/
def fVar (i : Nat) : FE := fun ρ st => match ρ[i]? with
  | some (some d) => .ok d st
  | _ => .stuck
def fC (d : PyData) : FE := fun _ st => .ok (.p d) st
theorem pf_of_var (i : Nat) (h : PE X e (tVar i)) : PF X W e (fVar i) := PE_imp h fun σ H Q ⟨ρ, st, w, sim, er, g⟩ => by
  unfold fVar at g
  split at g
  · rename_i d hd
    obtain ⟨v, e1, r⟩ := er.2 i d hd
    exact ⟨v, e1, g w H v .refl sim r⟩
  · exact g.elim
theorem pf_of_c {v : V} {d : PyData} (h : PE X e (tC v)) (r : ∀ I H, RP X.K I H d v) : PF X W e (fC d) := PE_imp h fun σ H Q ⟨ρ, st, w, sim, er, g⟩ => g w H v .refl sim (.p (r w.I H))
theorem pf_var (i : Nat) {x : Str} {pos : Pos} (hN : X.N[i]? = some x := by rfl) (hv : Vis X.env.scope x := by first | exact Or.inl rfl | exact Or.inr (Or.inl rfl) | exact Or.inr (Or.inr rfl)) (hd : (x == ("__debug__" : Str)) = false := by decide)
    (hcd : (x == ("__classdict__" : Str)) = false := by decide) : PF X W (.Name x pos) (fVar i) := pf_of_var i (pe_var hN hv hd hcd)
theorem pf_int {i : Int} {j : Nat} {pos : Pos} : PF X W (.Constant (.int i) j pos) (fC (.int i)) := pf_of_c pe_int fun _ _ => .int i
theorem pf_bl {i : Bool} {j : Nat} {pos : Pos} : PF X W (.Constant (.bool i) j pos) (fC (.bool i)) := pf_of_c pe_bl fun _ _ => .bl i
theorem pf_non {j : Nat} {pos : Pos} : PF X W (.Constant .none j pos) (fC .none) := pf_of_c pe_non fun _ _ => .non
theorem pf_str {x : Str} {j : Nat} {pos : Pos} : PF X W (.Constant (.str x) j pos) (fC (.str x)) := pf_of_c pe_str fun _ _ => .str x
/-- a module's constant that is data -/
theorem pf_glob {x : Str} {u : Value} {v : V} {d : PyData} {pos : Pos} (hg : Gl X x) (hm : X.mg x = some u) (r : RelV v u) (rp : ∀ I H, RP X.K I H d v) (hd : (x == ("__debug__" : Str)) = false := by decide) : PF X W (.Name x pos) (fC d) := pf_of_c (pe_glob hg hm r hd) rp

/-! ### two-place operations, one-place ones -/
abbrev G2 := Dv → Dv → So → Option Dv
abbrev G1 := Dv → So → Option Dv
abbrev GA := List Dv → So → Option Dv
def toR (st : So) : Option Dv → Rs Dv
  | some d => .ok d st
  | none => .stuck
def fOp (g : G2) (fa fb : FE) : FE := fun ρ st => (fa ρ st).bind fun x st1 => (fb ρ st1).bind fun y st2 => toR st2 (g x y st2)
def fUn (g : G1) (fa : FE) : FE := fun ρ st => (fa ρ st).bind fun x st1 => toR st1 (g x st1)
/-- what is given lies well: the goal of a rule by values -/
def Lies (K : PySem.W.Frag) (mg : Str → Option Value) (st : So) (w : Wd) (H : Hp) (Q : VK) (d : Dv) : Prop :=
  ∀ w' H' v, Stp st.length w H st.length w' H' → Sim K mg w' st H' → RD K mg st.length w' H' d v → Q v H'
def Im2 (X : Cx) (r : R2) (g : G2) : Prop := ∀ (st : So) (w : Wd) (H : Hp) (x y : Dv) (vx vy : V) (Q : VK) (d : Dv), Sim X.K X.mg w st H → RD X.K X.mg st.length w H x vx → RD X.K X.mg st.length w H y vy →
  g x y st = some d → Lies X.K X.mg st w H Q d → r vx vy H Q
def Im1 (X : Cx) (r : V → Hp → VK → Prop) (g : G1) : Prop := ∀ (st : So) (w : Wd) (H : Hp) (x : Dv) (vx : V) (Q : VK) (d : Dv), Sim X.K X.mg w st H → RD X.K X.mg st.length w H x vx →
  g x st = some d → Lies X.K X.mg st w H Q d → r vx H Q
def ImA (X : Cx) (r : List V → Hp → VK → Prop) (g : GA) : Prop := ∀ (st : So) (w : Wd) (H : Hp) (xs : List Dv) (vs : List V) (Q : VK) (d : Dv), Sim X.K X.mg w st H → RDs X.K X.mg st.length w H xs vs →
  g xs st = some d → Lies X.K X.mg st w H Q d → r vs H Q
theorem lies_of {K : PySem.W.Frag} {mg : Str → Option Value} {σ : L2.St} {st : So} {w : Wd} {H : Hp} {Q : VK} {o : Option Dv} (g : Good (RD K mg) K mg W σ st.length w H Q (toR st o)) : ∃ d, o = some d ∧ Lies K mg st w H Q d := by
  cases o with
  | none => exact g.elim
  | some d => exact ⟨d, rfl, g⟩
theorem tf_op {r : R2} {g : G2} (hi : Im2 X r g) (σ : L2.St) (H : Hp) (Q : VK) (h : TF X.K X.mg W (fOp g fa fb) σ H Q) : tOp r (TF X.K X.mg W fa) (TF X.K X.mg W fb) σ H Q := by
  obtain ⟨ρ, st, w, sim, er, gd⟩ := h
  refine ⟨ρ, st, w, sim, er, Good.imp (fun x H1 q => ?_) (Good.bind gd)⟩
  obtain ⟨st1, w1, d1, sim1, s1, r1, gd1⟩ := q
  refine ⟨ρ, st1, w1, sim1, er.mono s1, Good.imp (fun y H2 q => ?_) (Good.bind gd1)⟩
  obtain ⟨st2, w2, d2, sim2, s2, r2, gd2⟩ := q
  obtain ⟨d, e, l⟩ := lies_of gd2
  exact hi st2 w2 H2 d1 d2 x y Q d sim2 (r1.mono s2) r2 e l
theorem tf_un {r : V → Hp → VK → Prop} {g : G1} (hi : Im1 X r g) (σ : L2.St) (H : Hp) (Q : VK) (h : TF X.K X.mg W (fUn g fa) σ H Q) : tUn r (TF X.K X.mg W fa) σ H Q := by
  obtain ⟨ρ, st, w, sim, er, gd⟩ := h
  refine ⟨ρ, st, w, sim, er, Good.imp (fun x H1 q => ?_) (Good.bind gd)⟩
  obtain ⟨st1, w1, d1, sim1, s1, r1, gd1⟩ := q
  obtain ⟨d, e, l⟩ := lies_of gd1
  exact hi st1 w1 H1 d1 x Q d sim1 r1 e l
theorem pf_op {op : Operator} {r : R2} {g : G2} (ho : OpR X (binaryOp op) r) (hi : Im2 X r g) (ha : PF X W a fa) (hb : PF X W b fb) : PF X W (.BinOp a op b pos) (fOp g fa fb) := PE_imp (pe_op ho ha hb) (tf_op hi)
theorem pf_un {op : UnaryOp} {r : V → Hp → VK → Prop} {g : G1} (ho : UnR X (unaryOp op) r) (hi : Im1 X r g) (ha : PF X W a fa) : PF X W (.UnaryOp op a pos) (fUn g fa) := PE_imp (pe_un ho ha) (tf_un hi)
theorem pf_cmp {op : CmpOp} {r : R2} {g : G2} (ho : OpR X (compareOp op) r) (hi : Im2 X r g) (ha : PF X W a fa) (hb : PF X W b fb) (hm : behindInMarks op b = false := by first | exact nomark _ | rfl) : PF X W (.Compare a [op] [b] pos) (fOp g fa fb) := PE_imp (pe_cmpR ho ha hb hm) (tf_op hi)
theorem pf_ix {r : R2} {g : G2} (ho : IxR X r) (hi : Im2 X r g) (ha : PF X W a fa) (hb : PF X W b fb) (hs : PlainIx b := by intro _ _; rfl) : PF X W (.Subscript a b pos) (fOp g fa fb) := PE_imp (pe_ix ho ha hb hs) (tf_op hi)

/-! ### tests -/
def asB (d : Dv) (st : So) : Rs Bool := match d with
  | .p (.bool b) => .ok b st
  | _ => .stuck
/-- an expression that gives a bool, as a test -/
def fTB (fa : FE) : FT := fun ρ st => (fa ρ st).bind asB
theorem tft_of (σ : L2.St) (H : Hp) (Q : Bool → Hp → Prop) (h : TFT X.K X.mg W (fTB fa) σ H Q) : TF X.K X.mg W fa σ H (fun x H' => ∃ k, x = .bl k ∧ Q k H') := by
  obtain ⟨ρ, st, w, sim, er, gd⟩ := h
  refine ⟨ρ, st, w, sim, er, Good.imp (fun x H1 q => ?_) (Good.bind gd)⟩
  obtain ⟨st1, w1, d1, sim1, s1, r1, gd1⟩ := q
  unfold asB at gd1
  split at gd1
  · rename_i b
    cases r1 with
    | p h1 =>
      cases h1
      exact ⟨b, rfl, gd1 w1 H1 b .refl sim1 rfl⟩
  · exact gd1.elim
theorem pft_cmp {op : CmpOp} {r : R2} {g : G2} (ho : OpR X (compareOp op) r) (hi : Im2 X r g) (ha : PF X W a fa) (hb : PF X W b fb) (hm : behindInMarks op b = false := by first | exact nomark _ | rfl) : PFT X W (.Compare a [op] [b] pos) (fTB (fOp g fa fb)) :=
  PT_imp (pt_cmpR ho ha hb hm) fun σ H Q h => tf_op hi σ H _ (tft_of σ H Q h)
theorem pft_val (ha : PF X W a fa) (he : ∀ whole, isTrue a X.env whole = (do let v ← whole; standAt a.pos; holding [v] (truthy v)) := by intro _; rfl) : PFT X W a (fTB fa) :=
  PT_imp (pt_val ha he) fun σ H Q h => tft_of σ H Q h
def fTNot (t : FT) : FT := fun ρ st => (t ρ st).bind fun b st1 => .ok (!b) st1
def fTAnd (t u : FT) : FT := fun ρ st => (t ρ st).bind fun b st1 => if b then u ρ st1 else .ok false st1
def fTOr (t u : FT) : FT := fun ρ st => (t ρ st).bind fun b st1 => if b then .ok true st1 else u ρ st1
variable {t u : FT} {rest : List Expr}
theorem pft_not (ha : PFT X W a t) : PFT X W (.UnaryOp .Not a pos) (fTNot t) := PT_imp (pt_not ha) fun σ H Q h => by
  obtain ⟨ρ, st, w, sim, er, gd⟩ := h
  refine ⟨ρ, st, w, sim, er, Good.imp (fun x H1 q => ?_) (Good.bind gd)⟩
  obtain ⟨st1, w1, d1, sim1, s1, r1, gd1⟩ := q
  obtain rfl : d1 = x := r1
  exact gd1 w1 H1 (!d1) .refl sim1 rfl
def PFW (X : Cx) (W : WX) (e : Expr) (f : FT) : Prop := PW X e (TFT X.K X.mg W f)
theorem PW_imp {t t' : TT} (h : PW X e t) (hi : ∀ σ H Q, t' σ H Q → t σ H Q) : PW X e t' := ⟨fun wh pins s σ H Q I q => h.run wh pins s σ H Q I (hi σ H Q q)⟩
theorem PFW.pt {f : FT} (h : PFW X W e f) : PFT X W e f := PW.pt h
theorem pfw_and1 (ha : PFT X W a t) : PFW X W (.BoolOp .And [a] pos) t := pw_and1 ha
theorem pfw_or1 (ha : PFT X W a t) : PFW X W (.BoolOp .Or [a] pos) t := pw_or1 ha
theorem tft_and (σ : L2.St) (H : Hp) (Q : Bool → Hp → Prop) (h : TFT X.K X.mg W (fTAnd t u) σ H Q) : tAnd (TFT X.K X.mg W t) (TFT X.K X.mg W u) σ H Q := by
  obtain ⟨ρ, st, w, sim, er, gd⟩ := h
  refine ⟨ρ, st, w, sim, er, Good.imp (fun x H1 q => ?_) (Good.bind gd)⟩
  obtain ⟨st1, w1, d1, sim1, s1, r1, gd1⟩ := q
  obtain rfl : d1 = x := r1
  cases d1 with
  | true => exact ⟨ρ, st1, w1, sim1, er.mono s1, gd1⟩
  | false => exact gd1 w1 H1 false .refl sim1 rfl
theorem tft_or (σ : L2.St) (H : Hp) (Q : Bool → Hp → Prop) (h : TFT X.K X.mg W (fTOr t u) σ H Q) : tOr (TFT X.K X.mg W t) (TFT X.K X.mg W u) σ H Q := by
  obtain ⟨ρ, st, w, sim, er, gd⟩ := h
  refine ⟨ρ, st, w, sim, er, Good.imp (fun x H1 q => ?_) (Good.bind gd)⟩
  obtain ⟨st1, w1, d1, sim1, s1, r1, gd1⟩ := q
  obtain rfl : d1 = x := r1
  cases d1 with
  | true => exact gd1 w1 H1 true .refl sim1 rfl
  | false => exact ⟨ρ, st1, w1, sim1, er.mono s1, gd1⟩
theorem pfw_and (ha : PFT X W a t) (hb : PFW X W (.BoolOp .And (b :: rest) pos) u) : PFW X W (.BoolOp .And (a :: b :: rest) pos) (fTAnd t u) := PW_imp (pw_and ha hb) tft_and
theorem pfw_or (ha : PFT X W a t) (hb : PFW X W (.BoolOp .Or (b :: rest) pos) u) : PFW X W (.BoolOp .Or (a :: b :: rest) pos) (fTOr t u) := PW_imp (pw_or ha hb) tft_or
/-- as values, all but the last bools -/
def fAnd (fa fb : FE) : FE := fun ρ st => (fTB fa ρ st).bind fun b st1 => if b then fb ρ st1 else .ok (.p (.bool false)) st1
def fOr (fa fb : FE) : FE := fun ρ st => (fTB fa ρ st).bind fun b st1 => if b then .ok (.p (.bool true)) st1 else fb ρ st1
def fNot (fa : FE) : FE := fun ρ st => (fTB fa ρ st).bind fun b st1 => .ok (.p (.bool (!b))) st1
theorem tft_ofK {α β : Type} {Rel : Nat → Wd → Hp → α → β → Prop} {k : Bool → So → Rs α} {Q : β → Hp → Prop} {ρ : Sl} {st : So} {w : Wd} {σ : L2.St} {H : Hp} (sim : Sim X.K X.mg w st H) (er : EnvR X.K X.mg st.length w H ρ σ)
    (gd : Good Rel X.K X.mg W σ st.length w H Q ((fTB fa ρ st).bind k)) : TF X.K X.mg W fa σ H (fun x H' => ∃ c, x = .bl c ∧ ∃ st1 w1, Sim X.K X.mg w1 st1 H' ∧ EnvR X.K X.mg st1.length w1 H' ρ σ ∧ Good Rel X.K X.mg W σ st1.length w1 H' Q (k c st1)) := by
  have gd2 := Good.bind (Rel := RelB) gd
  refine ⟨ρ, st, w, sim, er, Good.imp (fun x H1 q => ?_) (Good.bind gd2)⟩
  obtain ⟨st1, w1, d1, sim1, s1, r1, gd1⟩ := q
  unfold asB at gd1
  split at gd1
  · rename_i b
    cases r1 with
    | p h1 =>
      cases h1
      obtain ⟨st2, w2, c, sim2, s2, rfl, gd3⟩ := gd1 w1 H1 b .refl sim1 rfl
      exact ⟨_, rfl, st2, w2, sim2, er.mono s2, gd3⟩
  · exact gd1.elim
theorem pf_and (ha : PF X W a fa) (hb : PF X W (.BoolOp .And (b :: rest) pos) fb) : PF X W (.BoolOp .And (a :: b :: rest) pos) (fAnd fa fb) := PE_imp (pe_and ha hb) fun σ H Q h => by
  obtain ⟨ρ, st, w, sim, er, gd⟩ := h
  obtain ⟨ρ', st', w', s', er', g'⟩ := tft_ofK sim er gd
  refine ⟨ρ', st', w', s', er', Good.imp (fun x H1 q => ?_) g'⟩
  obtain ⟨c, rfl, st1, w1, sim1, er1, gd1⟩ := q
  refine ⟨c, rfl, ?_⟩
  cases c with
  | true => exact ⟨ρ, st1, w1, sim1, er1, gd1⟩
  | false => exact gd1 w1 H1 _ .refl sim1 (.p (.bl false))
theorem pf_or (ha : PF X W a fa) (hb : PF X W (.BoolOp .Or (b :: rest) pos) fb) : PF X W (.BoolOp .Or (a :: b :: rest) pos) (fOr fa fb) := PE_imp (pe_or ha hb) fun σ H Q h => by
  obtain ⟨ρ, st, w, sim, er, gd⟩ := h
  obtain ⟨ρ', st', w', s', er', g'⟩ := tft_ofK sim er gd
  refine ⟨ρ', st', w', s', er', Good.imp (fun x H1 q => ?_) g'⟩
  obtain ⟨c, rfl, st1, w1, sim1, er1, gd1⟩ := q
  refine ⟨c, rfl, ?_⟩
  cases c with
  | true => exact gd1 w1 H1 _ .refl sim1 (.p (.bl true))
  | false => exact ⟨ρ, st1, w1, sim1, er1, gd1⟩
theorem pf_one {op : BoolOp} (ha : PF X W a fa) : PF X W (.BoolOp op [a] pos) fa := pe_one ha
theorem pf_not (ha : PF X W a fa) : PF X W (.UnaryOp .Not a pos) (fNot fa) := PE_imp (pe_not ha) fun σ H Q h => by
  obtain ⟨ρ, st, w, sim, er, gd⟩ := h
  obtain ⟨ρ', st', w', s', er', g'⟩ := tft_ofK sim er gd
  refine ⟨ρ', st', w', s', er', Good.imp (fun x H1 q => ?_) g'⟩
  obtain ⟨c, rfl, st1, w1, sim1, er1, gd1⟩ := q
  exact ⟨c, rfl, gd1 w1 H1 _ .refl sim1 (.p (.bl _))⟩
def fIf (t : FT) (fa fb : FE) : FE := fun ρ st => (t ρ st).bind fun b st1 => if b then fa ρ st1 else fb ρ st1
theorem pf_if {c : Expr} (hc : PFT X W c t) (ha : PF X W a fa) (hb : PF X W b fb) : PF X W (.IfExp c a b pos) (fIf t fa fb) := PE_imp (pe_ifExp hc ha hb) fun σ H Q h => by
  obtain ⟨ρ, st, w, sim, er, gd⟩ := h
  refine ⟨ρ, st, w, sim, er, Good.imp (fun x H1 q => ?_) (Good.bind gd)⟩
  obtain ⟨st1, w1, d1, sim1, s1, r1, gd1⟩ := q
  obtain rfl : d1 = x := r1
  cases d1 with
  | true => exact ⟨ρ, st1, w1, sim1, er.mono s1, gd1⟩
  | false => exact ⟨ρ, st1, w1, sim1, er.mono s1, gd1⟩

/-! ### arguments, displays -/
def fNil : FA := fun _ st => .ok [] st
def fCons (fa : FE) (fr : FA) : FA := fun ρ st => (fa ρ st).bind fun x st1 => (fr ρ st1).bind fun xs st2 => .ok (x :: xs) st2
theorem pfa_nil : PFA X W [] fNil := PA_imp pa_nil fun σ H Q ⟨ρ, st, w, sim, er, g⟩ => g w H [] .refl sim .nil
theorem pfa_cons {fr : FA} (ha : PF X W a fa) (hr : PFA X W es fr) (hs : starEach (a :: es) X.env = (false, eval a X.env) :: starEach es X.env := by rfl) : PFA X W (a :: es) (fCons fa fr) := PA_imp (pa_cons ha hr hs) fun σ H Q h => by
  obtain ⟨ρ, st, w, sim, er, gd⟩ := h
  refine ⟨ρ, st, w, sim, er, Good.imp (fun x H1 q => ?_) (Good.bind gd)⟩
  obtain ⟨st1, w1, d1, sim1, s1, r1, gd1⟩ := q
  refine ⟨ρ, st1, w1, sim1, er.mono s1, Good.imp (fun y H2 q => ?_) (Good.bind gd1)⟩
  obtain ⟨st2, w2, d2, sim2, s2, r2, gd2⟩ := q
  exact gd2 w2 H2 _ .refl sim2 (.cons (r1.mono s2) r2)
def mkT (ds : List Dv) : Dv := match pures ds with
  | some xs => .p (.tuple xs)
  | none => .tupD ds
def mkL (ds : List Dv) : Dv := match pures ds with
  | some xs => .p (.list xs)
  | none => .lstD ds
theorem rd_mkT {K : PySem.W.Frag} {mg : Str → Option Value} {n : Nat} {w : Wd} {H : Hp} {ds : List Dv} {vs : List V} {p : Addr} (h : ST K w.I H p vs) (r : RDs K mg n w H ds vs) : RD K mg n w H (mkT ds) (.ref p) := by
  unfold mkT
  split
  · rename_i xs e
    exact .p (.tup h (r.toP e))
  · exact .tupD (.inr h) r
theorem rd_mkL {K : PySem.W.Frag} {mg : Str → Option Value} {n : Nat} {w : Wd} {H : Hp} {ds : List Dv} {vs : List V} {p : Addr} (h : SL w.I H p vs) (r : RDs K mg n w H ds vs) : RD K mg n w H (mkL ds) (.ref p) := by
  unfold mkL
  split
  · rename_i xs e
    exact .p (.lst h (r.toP e))
  · exact .lstD h r
def small (ds : List Dv) : Bool := decide (ds.length ≤ 100000)
theorem small_ok {ds : List Dv} (h : small ds = true) : ds.length ≤ sizeLine := Nat.le_trans (of_decide_eq_true h) (by decide)
/-- (a, b, ..) -/
def fTup (fr : FA) : FE := fun ρ st => (fr ρ st).bind fun xs st1 => if small xs then .ok (mkT xs) st1 else .stuck
theorem pf_tup {fr : FA} {x1 : _} (h : PFA X W es fr) : PF X W (.Tuple es x1 pos) (fTup fr) := PE_imp (pe_tupX h) fun σ H Q hh => by
  obtain ⟨ρ, st, w, sim, er, gd⟩ := hh
  refine ⟨ρ, st, w, sim, er, Good.imp (fun vs H1 q => ?_) (Good.bind gd)⟩
  obtain ⟨st1, w1, ds, sim1, s1, r1, gd1⟩ := q
  by_cases hs : small ds = true
  · rw [if_pos hs] at gd1
    refine ⟨by rw [← r1.length]; exact small_ok hs, fun p o hp ho => ?_⟩
    obtain ⟨s2, sim2⟩ := sim1.newP (o := .frz o (.tup vs)) hp
    exact gd1 _ _ _ s2 sim2 (rd_mkT (.inl ⟨.inl rfl, o, ho, upd_same⟩) (r1.mono s2))
  · rw [if_neg hs] at gd1
    exact gd1.elim
/-- [a, b, ..]: a new list -/
theorem pfl_lst {fr : FA} (h : PFA X W es fr) (hn : es.length ≤ 100000 := by decide) : PFL X W (.List es pos) (fun ρ st => (fr ρ st).bind fun xs st1 => if small xs then .ok xs st1 else .stuck) := PE_imp (pe_lst h) fun σ H Q hh => by
  obtain ⟨ρ, st, w, sim, er, gd⟩ := hh
  refine ⟨ρ, st, w, sim, er, Good.imp (fun vs H1 q => ?_) (Good.bind gd)⟩
  obtain ⟨st1, w1, ds, sim1, s1, r1, gd1⟩ := q
  by_cases hs : small ds = true
  · rw [if_pos hs] at gd1
    have hl : vs.length ≤ sizeLine := by rw [← r1.length]; exact small_ok hs
    exact ⟨hl, fun p hp => gd1 w1 H1 vs .refl sim1 r1 p hp hl⟩
  · rw [if_neg hs] at gd1
    exact gd1.elim
/-- a new list, as data | as a cell -/
def fPure (fr : FA) : FE := fun ρ st => (fr ρ st).bind fun xs st1 => if small xs then .ok (mkL xs) st1 else .stuck
def fCell (fr : FA) : FE := fun ρ st => (fr ρ st).bind fun xs st1 => if small xs then .ok (.ref st1.length) (st1 ++ [.lst xs]) else .stuck
theorem pf_pure {fr : FA} (h : PFL X W e fr) : PF X W e (fPure fr) := PE_imp h fun σ H Q hh => by
  obtain ⟨ρ, st, w, sim, er, gd⟩ := hh
  refine ⟨ρ, st, w, sim, er, Good.imp (fun vs H1 q => ?_) (Good.bind gd)⟩
  obtain ⟨st1, w1, ds, sim1, s1, r1, gd1⟩ := q
  intro p hp hl
  by_cases hs : small ds = true
  · rw [if_pos hs] at gd1
    obtain ⟨s2, sim2⟩ := sim1.newP (o := .lst vs) hp
    exact gd1 _ _ _ s2 sim2 (rd_mkL ⟨.inl rfl, upd_same⟩ (r1.mono s2))
  · rw [if_neg hs] at gd1
    exact gd1.elim
theorem pf_cell {fr : FA} (h : PFL X W e fr) : PF X W e (fCell fr) := PE_imp h fun σ H Q hh => by
  obtain ⟨ρ, st, w, sim, er, gd⟩ := hh
  refine ⟨ρ, st, w, sim, er, Good.imp (fun vs H1 q => ?_) (Good.bind gd)⟩
  obtain ⟨st1, w1, ds, sim1, s1, r1, gd1⟩ := q
  intro p hp hl
  by_cases hs : small ds = true
  · rw [if_pos hs] at gd1
    obtain ⟨s2, sim2⟩ := sim1.newC (o := .lst vs) (c := .lst ds) hp fun {n' w' H'} g e nI => ⟨vs, e, r1.mono g, nI⟩
    have hm : V.ref p = V.ref ((w1.cel st1.length p).m st1.length) := by
      show V.ref p = V.ref (if st1.length = st1.length then p else _)
      rw [if_pos rfl]
    rw [hm]
    refine gd1 _ _ _ ?_ sim2 (.ref ?_)
    · rw [List.length_append, List.length_singleton]; exact s2
    · rw [List.length_append, List.length_singleton]; exact Nat.lt_succ_self _
  · rw [if_neg hs] at gd1
    exact gd1.elim
/-- what a name holds, no longer changed: as data -/
def fFrz (fa : FE) : FE := fun ρ st => (fa ρ st).bind fun x st1 => match x with
  | .ref i => match st1[i]? with
    | some (.lst xs) => .ok (mkL xs) (st1.set i .dead)
    | _ => .stuck
  | _ => .stuck
theorem pf_frz (h : PF X W e fa) : PF X W e (fFrz fa) := PE_imp h fun σ H Q hh => by
  obtain ⟨ρ, st, w, sim, er, gd⟩ := hh
  refine ⟨ρ, st, w, sim, er, Good.imp (fun v H1 q => ?_) (Good.bind gd)⟩
  obtain ⟨st1, w1, d, sim1, s1, r1, gd1⟩ := q
  split at gd1
  · rename_i i
    split at gd1
    · rename_i xs hx
      have lv : live st1 i := ⟨_, hx, by simp⟩
      obtain ⟨s2, sim2⟩ := sim1.frz lv
      obtain ⟨vs, e1, r2, nI⟩ := sim1.cell i _ hx
      cases r1
      refine gd1 _ _ _ ?_ sim2 (rd_mkL ⟨.inl rfl, e1⟩ ?_)
      · rw [List.length_set]; exact s2
      · rw [List.length_set]; exact r2.mono s2
    · exact gd1.elim
  · exact gd1.elim

/-! ### built-ins by values -/
def fCB (g : GA) (fr : FA) : FE := fun ρ st => (fr ρ st).bind fun xs st1 => toR st1 (g xs st1)
theorem tf_cb {r : List V → Hp → VK → Prop} {g : GA} {fr : FA} (hi : ImA X r g) (σ : L2.St) (H : Hp) (Q : VK) (h : TF X.K X.mg W (fCB g fr) σ H Q) : tCB r (TFA X.K X.mg W fr) σ H Q := by
  obtain ⟨ρ, st, w, sim, er, gd⟩ := h
  refine ⟨ρ, st, w, sim, er, Good.imp (fun vs H1 q => ?_) (Good.bind gd)⟩
  obtain ⟨st1, w1, ds, sim1, s1, r1, gd1⟩ := q
  obtain ⟨d, e, l⟩ := lies_of gd1
  exact hi st1 w1 H1 ds vs Q d sim1 r1 e l
variable {x : Str} {p : Pos} {id T : String}
theorem pf_callB {r : List V → Hp → VK → Prop} {g : GA} {fr : FA} (hc : CallR X (.builtin id) r) (hi : ImA X r g) (hg : Gl X x) (hm : X.mg x = none) (hv : bootBuiltins x = some (.builtin id)) (ha : PFA X W (e :: es) fr)
    (hn : x ≠ "__name__" := by decide) (hdb : (x == ("__debug__" : Str)) = false := by decide) (he : starEach (e :: es) X.env = (false, eval e X.env) :: starEach es X.env := by rfl) (hpl : (backTo pos (starEach es X.env)).any (·.1) = false := by rfl) :
    PF X W (.Call (.Name x p) (e :: es) [] pos) (fCB g fr) := PE_imp (pe_callB hc hg hm hv ha hn hdb he hpl) (tf_cb hi)
theorem pf_callTy {r : List V → Hp → VK → Prop} {g : GA} {fr : FA} (hc : CallR X (.type T) r) (hi : ImA X r g) (hg : Gl X x) (hm : X.mg x = none) (hv : bootBuiltins x = some (.type T)) (ha : PFA X W (e :: es) fr)
    (hn : x ≠ "__name__" := by decide) (hdb : (x == ("__debug__" : Str)) = false := by decide) (he : starEach (e :: es) X.env = (false, eval e X.env) :: starEach es X.env := by rfl) (hpl : (backTo pos (starEach es X.env)).any (·.1) = false := by rfl) :
    PF X W (.Call (.Name x p) (e :: es) [] pos) (fCB g fr) := PE_imp (pe_callTy hc hg hm hv ha hn hdb he hpl) (tf_cb hi)

/-! ### statements -/
variable {sa : Stmt} {ss : List Stmt} {ga gb : FS}
def Rs.st {α : Type} (r : Rs α) (ρ : Sl) (f : α → So → Ss) : Ss := match r with
  | .ok a st => f a st
  | .exc c fs st => .exc c fs ρ st
  | .stuck => .stuck
def sNext : FS := fun ρ st => .nx ρ st
def sSeq (g h : FS) : FS := fun ρ st => match g ρ st with
  | .nx ρ' st' => h ρ' st'
  | r => r
theorem GoodS.later {K : PySem.W.Frag} {mg : Str → Option Value} {n n' : Nat} {w w' : Wd} {H H' : Hp} {D : Ends} {r : Ss} (g : Stp n w H n' w' H') (h : GoodS K mg W n w H D r) : GoodS K mg W n' w' H' D r := by
  cases r with
  | nx ρ st => exact fun w2 H2 σ s => h w2 H2 σ (g.trans s)
  | ret d st => exact fun w2 H2 σ s => h w2 H2 σ (g.trans s)
  | brk ρ st => exact fun w2 H2 σ s => h w2 H2 σ (g.trans s)
  | cnt ρ st => exact fun w2 H2 σ s => h w2 H2 σ (g.trans s)
  | exc c fs ρ st => exact fun w2 H2 σ cv dd s => h w2 H2 σ cv dd (g.trans s)
  | stuck => exact h
theorem pfss_nil : PFSs X W [] sNext := PSs_imp pss_nil fun D σ H ⟨ρ, st, w, sim, er, g⟩ => g w H σ .refl sim er
theorem tfs_seq {g h : FS} {D : Ends} {σ : L2.St} {H : Hp} (q : TFS X.K X.mg W (sSeq g h) D σ H) : tSeq (TFS X.K X.mg W g) (TFS X.K X.mg W h) D σ H := by
  obtain ⟨ρ, st, w, sim, er, gd⟩ := q
  refine ⟨ρ, st, w, sim, er, ?_⟩
  unfold sSeq at gd
  cases e : g ρ st with
  | nx ρ' st' =>
    rw [e] at gd
    exact fun w' H' σ' s sim' er' => ⟨ρ', st', w', sim', er', gd.later s⟩
  | ret d st' => rw [e] at gd; exact gd
  | brk ρ' st' => rw [e] at gd; exact gd
  | cnt ρ' st' => rw [e] at gd; exact gd
  | exc c fs ρ' st' => rw [e] at gd; exact gd
  | stuck => rw [e] at gd; exact gd
theorem pfss_cons (h1 : PFS X W sa ga) (h2 : PFSs X W ss gb) : PFSs X W (sa :: ss) (sSeq ga gb) := PSs_imp (pss_cons h1 h2) fun D σ H q => tfs_seq q
theorem pfss_one (h1 : PFS X W sa ga) : PFSs X W [sa] ga := pss_one h1
def sPass : FS := sNext
theorem pfs_pass : PFS X W (.Pass pos) sPass := PS_imp ps_pass fun D σ H ⟨ρ, st, w, sim, er, g⟩ => g w H σ .refl sim er
def sBreak : FS := fun ρ st => .brk ρ st
def sCont : FS := fun ρ st => .cnt ρ st
theorem pfs_break : PFS X W (.Break pos) sBreak := PS_imp ps_break fun D σ H ⟨ρ, st, w, sim, er, g⟩ => g w H σ .refl sim er
theorem pfs_cont : PFS X W (.Continue pos) sCont := PS_imp ps_continue fun D σ H ⟨ρ, st, w, sim, er, g⟩ => g w H σ .refl sim er
def sDrop (fa : FE) : FS := fun ρ st => (fa ρ st).st ρ fun _ st1 => .nx ρ st1
/-- an expression's end, then a statement's -/
theorem good_st {α β : Type} {Rel : Nat → Wd → Hp → α → β → Prop} {K : PySem.W.Frag} {mg : Str → Option Value} {σ : L2.St} {w : Wd} {H : Hp} {st : So} {D : Ends} {r : Rs α} {ρ : Sl} {f : α → So → Ss} (er : EnvR K mg st.length w H ρ σ)
    (gd : GoodS K mg W st.length w H D (r.st ρ f)) : Good Rel K mg W σ st.length w H (fun b H1 => ∃ st1 w1 a, Sim K mg w1 st1 H1 ∧ Stp st.length w H st1.length w1 H1 ∧ Rel st1.length w1 H1 a b ∧ EnvR K mg st1.length w1 H1 ρ σ ∧ GoodS K mg W st1.length w1 H1 D (f a st1)) r := by
  cases r with
  | ok a st' => exact fun w1 H1 b s sim rel => ⟨st', w1, a, sim, s, rel, er.mono s, gd.later s⟩
  | exc c fs st' => exact fun w1 H1 cv dd s sim ex => gd w1 H1 σ cv dd s sim (er.mono s) ex
  | stuck => exact gd
theorem pfs_expr (he : PF X W e fa) (hs : swapsWith e none pos.line X.env = pure false := by rfl) : PFS X W (.Expr e pos) (sDrop fa) := PS_imp (ps_expr he hs) fun D σ H q => by
  obtain ⟨ρ, st, w, sim, er, gd⟩ := q
  refine ⟨ρ, st, w, sim, er, Good.imp (fun v H1 q => ?_) (good_st er gd)⟩
  obtain ⟨st1, w1, d, sim1, s1, r1, er1, gd1⟩ := q
  exact gd1 w1 H1 σ .refl sim1 er1
def sRet (fa : FE) : FS := fun ρ st => (fa ρ st).st ρ fun d st1 => .ret d st1
theorem pfs_ret (he : PF X W e fa) : PFS X W (.Return (some e) pos) (sRet fa) := PS_imp (ps_ret he) fun D σ H q => by
  obtain ⟨ρ, st, w, sim, er, gd⟩ := q
  refine ⟨ρ, st, w, sim, er, Good.imp (fun v H1 q => ?_) (good_st er gd)⟩
  obtain ⟨st1, w1, d, sim1, s1, r1, er1, gd1⟩ := q
  exact gd1 w1 H1 v .refl sim1 r1
def sRetN : FS := fun _ st => .ret (.p .none) st
theorem pfs_retN : PFS X W (.Return none pos) sRetN := PS_imp ps_retN fun D σ H ⟨ρ, st, w, sim, er, g⟩ => g w H .non .refl sim (.p .non)
def sIf (t : FT) (g h : FS) : FS := fun ρ st => (t ρ st).st ρ fun b st1 => if b then g ρ st1 else h ρ st1
theorem pfs_if {c : Expr} {as bs : List Stmt} (hc : PFT X W c t) (ha : PFSs X W as ga) (hb : PFSs X W bs gb) : PFS X W (.If c as bs pos) (sIf t ga gb) := PS_imp (ps_if hc ha hb) fun D σ H q => by
  obtain ⟨ρ, st, w, sim, er, gd⟩ := q
  refine ⟨ρ, st, w, sim, er, Good.imp (fun b H1 q => ?_) (good_st er gd)⟩
  obtain ⟨st1, w1, d, sim1, s1, r1, er1, gd1⟩ := q
  obtain rfl : d = b := r1
  cases d with
  | true => exact ⟨ρ, st1, w1, sim1, er1, gd1⟩
  | false => exact ⟨ρ, st1, w1, sim1, er1, gd1⟩

/-! ### targets: names, tuples of them -/
inductive Tg where
  | nm (i : Nat)
  | tp (ts : List Tg)
/-- the items that a value is unpacked to -/
def unT : Dv → Option (List Dv)
  | .p (.tuple xs) => some (xs.map Dv.p)
  | .tupD xs => some xs
  | _ => none
mutual
def tgF : Tg → Dv → Sl → Option Sl
  | .nm i, d, ρ => some (ρ.set i (some d))
  | .tp ts, d, ρ => match unT d with
    | some xs => if xs.length = ts.length then tgFs ts xs ρ else none
    | none => none
def tgFs : List Tg → List Dv → Sl → Option Sl
  | [], [], ρ => some ρ
  | t :: ts, d :: ds, ρ => match tgF t d ρ with
    | some ρ' => tgFs ts ds ρ'
    | none => none
  | _, _, _ => none
end
mutual
def tgG (K : PySem.W.Frag) : Tg → TG
  | .nm i => gName i
  | .tp ts => gTup K ts.length (tgGs K ts)
def tgGs (K : PySem.W.Frag) : List Tg → TGs
  | [] => gNil
  | t :: ts => gCons (tgG K t) (tgGs K ts)
end
mutual
def tgS : Tg → List Nat
  | .nm i => [i]
  | .tp ts => tgSs ts
def tgSs : List Tg → List Nat
  | [] => []
  | t :: ts => tgS t ++ tgSs ts
end
theorem wipe_set {σ : L2.St} {i : Nat} {o : Option V} : ∀ {vs : List Nat}, i ∈ vs → wipe (σ.set i o) vs = wipe σ vs
  | [], h => by cases h
  | v :: vs, h => by
    unfold wipe
    by_cases hv : i = v
    · subst hv
      by_cases hm : i ∈ vs
      · rw [wipe_set hm]
      · rw [wipe_comm hm, List.set_set]
    · have hm : i ∈ vs := (List.mem_cons.mp h).resolve_left hv
      rw [wipe_set hm]
where wipe_comm {σ : L2.St} {i : Nat} {o : Option V} : ∀ {vs : List Nat}, i ∉ vs → wipe (σ.set i o) vs = (wipe σ vs).set i o
  | [], _ => rfl
  | v :: vs, h => by
    unfold wipe
    rw [wipe_comm (fun z => h (List.mem_cons_of_mem _ z)), List.set_comm _ _ (fun e => h (by rw [e]; exact List.mem_cons_self))]
theorem unT_rd {K : PySem.W.Frag} {mg : Str → Option Value} {n : Nat} {w : Wd} {H : Hp} {d : Dv} {v : V} {xs : List Dv} (r : RD K mg n w H d v) (h : unT d = some xs) : ∃ a vs, v = .ref a ∧ SU K w.I H a vs ∧ RDs K mg n w H xs vs := by
  unfold unT at h
  split at h
  · cases h
    cases r with
    | p q => cases q with
      | tup hs hr => exact ⟨_, _, rfl, .inr hs, RDs.ofP hr⟩
  · cases h
    cases r with
    | tupD hs hr => exact ⟨_, _, rfl, hs, hr⟩
  · cases h
section
variable {K : PySem.W.Frag} {mg : Str → Option Value} {n : Nat} {w : Wd} {H : Hp} {vs : List Nat}
mutual
theorem tg_ok : ∀ (t : Tg) (d : Dv) (v : V) (ρ ρ' : Sl) (σ σ0 : L2.St) (Q : L2.St → Hp → Prop), RD K mg n w H d v → EnvR K mg n w H ρ σ → tgF t d ρ = some ρ' → (∀ i ∈ tgS t, i ∈ vs) → wipe σ vs = wipe σ0 vs →
    (∀ σ', EnvR K mg n w H ρ' σ' → wipe σ' vs = wipe σ0 vs → Q σ' H) → tgG K t v σ H Q
  | .nm i, d, v, ρ, ρ', σ, σ0, Q, r, er, h, hv, hw, q => by
    unfold tgF at h
    cases h
    unfold tgG
    exact q _ (er.set r i) (by rw [wipe_set (hv i (by simp [tgS])), hw])
  | .tp ts, d, v, ρ, ρ', σ, σ0, Q, r, er, h, hv, hw, q => by
    unfold tgF at h
    split at h
    · rename_i xs hx
      split at h
      · rename_i hl
        obtain ⟨a, us, rfl, hs, rs⟩ := unT_rd r hx
        unfold tgG
        exact ⟨a, us, rfl, hs.sq, by rw [← rs.length, hl], tgs_ok ts xs us ρ ρ' σ σ0 Q rs er h (fun i hi => hv i (by simpa [tgS] using hi)) hw q⟩
      · cases h
    · cases h
theorem tgs_ok : ∀ (ts : List Tg) (ds : List Dv) (us : List V) (ρ ρ' : Sl) (σ σ0 : L2.St) (Q : L2.St → Hp → Prop), RDs K mg n w H ds us → EnvR K mg n w H ρ σ → tgFs ts ds ρ = some ρ' → (∀ i ∈ tgSs ts, i ∈ vs) → wipe σ vs = wipe σ0 vs →
    (∀ σ', EnvR K mg n w H ρ' σ' → wipe σ' vs = wipe σ0 vs → Q σ' H) → tgGs K ts us σ H Q
  | [], [], us, ρ, ρ', σ, σ0, Q, r, er, h, hv, hw, q => by
    unfold tgFs at h
    cases h
    cases r
    unfold tgGs
    exact ⟨rfl, q _ er hw⟩
  | t :: ts, d :: ds, us, ρ, ρ', σ, σ0, Q, r, er, h, hv, hw, q => by
    unfold tgFs at h
    split at h
    · rename_i ρ1 h1
      cases r with
      | cons r1 r2 =>
        rename_i v1 vs1
        unfold tgGs
        refine ⟨v1, vs1, rfl, ?_⟩
        exact tg_ok t d v1 ρ ρ1 σ σ0 _ r1 er h1 (fun i hi => hv i (by simp [tgSs, hi])) hw fun σ1 er1 hw1 =>
          tgs_ok ts ds vs1 ρ1 ρ' σ1 σ0 Q r2 er1 h (fun i hi => hv i (by simp [tgSs, hi])) hw1 q
    · cases h
  | [], _ :: _, us, ρ, ρ', σ, σ0, Q, r, er, h, hv, hw, q => by simp [tgFs] at h
  | _ :: _, [], us, ρ, ρ', σ, σ0, Q, r, er, h, hv, hw, q => by simp [tgFs] at h
end
end
def toE (o : Option Sl) (f : Sl → Ss) : Ss := match o with
  | some ρ => f ρ
  | none => .stuck
def sAsg (fa : FE) (tg : Tg) : FS := fun ρ st => (fa ρ st).st ρ fun d st1 => toE (tgF tg d ρ) fun ρ' => .nx ρ' st1
theorem tfs_asg {tg : Tg} {D : Ends} {σ : L2.St} {H : Hp} (q : TFS X.K X.mg W (sAsg fa tg) D σ H) : tAsg (TF X.K X.mg W fa) (tgG X.K tg) D σ H := by
  obtain ⟨ρ, st, w, sim, er, gd⟩ := q
  refine ⟨ρ, st, w, sim, er, Good.imp (fun v H1 q => ?_) (good_st er gd)⟩
  obtain ⟨st1, w1, d, sim1, s1, r1, er1, gd1⟩ := q
  unfold toE at gd1
  split at gd1
  · rename_i ρ' he
    exact tg_ok (vs := tgS tg) tg d v ρ ρ' σ σ _ r1 er1 he (fun _ h => h) rfl fun σ' er' _ => gd1 w1 H1 σ' .refl sim1 er'
  · exact gd1.elim
theorem pfs_asg {tg : Tg} {te : Expr} (he : PF X W e fa) (hg : PG X te (tgG X.K tg)) (hs : swapsWithSole [te] e pos.line X.env = pure false := by rfl) (hw : swappedStores [te] e X.env = pure none := by rfl)
    (h1 : (assignEach [te] X.env).map (·.2) = [assign te X.env] := by rfl) : PFS X W (.Assign [te] e pos) (sAsg fa tg) := PS_imp (ps_asg he hg hs hw h1) fun D σ H q => tfs_asg q
theorem pfs_set {i : Nat} {x : Str} {pos' : Pos} (hN : X.N.Nodup) (he : PF X W e fa) (hi : X.N[i]? = some x := by rfl) (hx : Loc X.env.scope x := by first | exact .inl rfl | exact .inr rfl) (hs : swapsWith e (some (.Name x pos')) pos.line X.env = pure false := by rfl)
    (hf : X.fn x = true ∨ X.env.scope.names.lookup x = some .local := by first | exact .inl rfl | exact .inr rfl) : PFS X W (.Assign [.Name x pos'] e pos) (sAsg fa (.nm i)) := PS_imp (ps_set hN hi hx he hs hf) fun D σ H q => tfs_asg q
end
end FB
set_option Elab.async false
set_option linter.all false
set_option maxRecDepth 100000
set_option maxHeartbeats 4000000
/-! FB2: loops, comprehensions, calls of defs, errors, methods of cells. -/
namespace FB
open PySem PySem.Spec PyProof.Rows L2

/-! ### what is walked -/
structure ItOk (K : PySem.W.Frag) (mg : Str → Option Value) (n : Nat) (w : Wd) (H : Hp) (items : List Dv) (J : It) : Prop where
  stop : ∀ n' w' H', Stp n w H n' w' H' → J.stop items.length H'
  go : ∀ (k : Nat) d w' H' (st' : So), items[k]? = some d → Stp n w H st'.length w' H' → Sim K mg w' st' H' → J.go k H' ∧ ∀ x H'', J.yld k H' x H'' → ∃ w'', Stp st'.length w' H' st'.length w'' H'' ∧ Sim K mg w'' st' H'' ∧ RD K mg st'.length w'' H'' d x
theorem ItOk.later {K : PySem.W.Frag} {mg : Str → Option Value} {n n' : Nat} {w w' : Wd} {H H' : Hp} {items : List Dv} {J : It} (g : Stp n w H n' w' H') (h : ItOk K mg n w H items J) : ItOk K mg n' w' H' items J :=
  ⟨fun n2 w2 H2 s => h.stop n2 w2 H2 (g.trans s), fun k d w2 H2 st2 e s sim => h.go k d w2 H2 st2 e (g.trans s) sim⟩
def RelI (K : PySem.W.Frag) (mg : Str → Option Value) : Nat → Wd → Hp → List Dv → It → Prop := fun n w H items J => ItOk K mg n w H items J
def TFI (K : PySem.W.Frag) (mg : Str → Option Value) (W : WX) (f : FA) : TI := fun σ H R => ∃ ρ st w, Sim K mg w st H ∧ EnvR K mg st.length w H ρ σ ∧ Good (RelI K mg) K mg W σ st.length w H R (f ρ st)
def PFI (X : Cx) (W : WX) (tg iter : Expr) (f : FA) : Prop := PI X tg iter (TFI X.K X.mg W f)
theorem PI_imp {X : Cx} {tg iter : Expr} {t t' : TI} (h : PI X tg iter t) (hi : ∀ σ H R, t' σ H R → t σ H R) : PI X tg iter t' := ⟨fun pins s σ H R I q => h.run pins s σ H R I (hi σ H R q)⟩

/-! ### for -/
def sForL (tg : Tg) (body : FS) : List Dv → FS
  | [], ρ, st => .nx ρ st
  | d :: ds, ρ, st => toE (tgF tg d ρ) fun ρ' => match body ρ' st with
    | .nx ρ2 st2 => sForL tg body ds ρ2 st2
    | .cnt ρ2 st2 => sForL tg body ds ρ2 st2
    | .brk ρ2 st2 => .nx ρ2 st2
    | r => r
def sFor (fi : FA) (tg : Tg) (body : FS) : FS := fun ρ st => (fi ρ st).st ρ fun items st1 => sForL tg body items ρ st1
section
variable {X : Cx} {W : WX} {pos : Pos}
theorem tfs_forL {K : PySem.W.Frag} {mg : Str → Option Value} {tg : Tg} {body : FS} {D : Ends} {σ : L2.St} {J : It} {items : List Dv} {st1 : So} {w1 : Wd} {H1 : Hp} {ρ : Sl} (it : ItOk K mg st1.length w1 H1 items J) (sim1 : Sim K mg w1 st1 H1) (er1 : EnvR K mg st1.length w1 H1 ρ σ) (gd1 : GoodS K mg W st1.length w1 H1 D (sForL tg body items ρ st1)) :
    ∃ Wn : Nat → Nat → L2.St → Hp → Prop, (∃ m, Wn 0 m σ H1) ∧ ∀ i m σ H, Wn i m σ H → (J.stop i H ∧ D.nx σ H) ∨ (J.go i H ∧ ∃ N : L2.St → Hp → Prop, (∀ σ' H', N σ' H' → ∃ m', m' < m ∧ Wn (i + 1) m' σ' H') ∧ ∀ x H', J.yld i H x H' → tgG K tg x σ H' fun σ2 H2 => TFS K mg W body { D with nx := N, ct := N, bk := D.nx } σ2 H2) := by
  refine ⟨fun i m σ2 H2 => ∃ ρ2 st2 w2, Sim K mg w2 st2 H2 ∧ EnvR K mg st2.length w2 H2 ρ2 σ2 ∧ Stp st1.length w1 H1 st2.length w2 H2 ∧ m = items.length - i ∧ i ≤ items.length ∧ GoodS K mg W st2.length w2 H2 D (sForL tg body (items.drop i) ρ2 st2),
    ⟨items.length, ρ, st1, w1, sim1, er1, .refl, rfl, Nat.zero_le _, gd1⟩, ?_⟩
  rintro i m σ2 H2 ⟨ρ2, st2, w2, sim2, er2, s2, rfl, hi, gd2⟩
  by_cases hlt : i < items.length
  · have e0 : items[i]? = some items[i] := List.getElem?_eq_getElem hlt
    obtain ⟨go, yl⟩ := it.go i _ w2 H2 st2 e0 s2 sim2
    refine .inr ⟨go, fun σ' H' => ∃ ρ3 st3 w3, Sim K mg w3 st3 H' ∧ EnvR K mg st3.length w3 H' ρ3 σ' ∧ Stp st1.length w1 H1 st3.length w3 H' ∧ GoodS K mg W st3.length w3 H' D (sForL tg body (items.drop (i + 1)) ρ3 st3), ?_, ?_⟩
    · rintro σ' H' ⟨ρ3, st3, w3, sim3, er3, s3, gd3⟩
      exact ⟨items.length - (i + 1), by omega, ρ3, st3, w3, sim3, er3, s3, rfl, hlt, gd3⟩
    · intro x H3 hy
      obtain ⟨w3, s3, sim3, r3⟩ := yl x H3 hy
      rw [List.drop_eq_getElem_cons hlt] at gd2
      have gd3 := gd2.later s3
      unfold sForL toE at gd3
      split at gd3
      · rename_i ρ' hρ
        dsimp only at gd3
        refine tg_ok (vs := tgS tg) tg _ x ρ2 ρ' σ2 σ2 _ r3 (er2.mono s3) hρ (fun _ h => h) rfl fun σ4 er4 _ => ⟨ρ', st2, w3, sim3, er4, ?_⟩
        cases eb : body ρ' st2 with
        | nx ρ5 st5 =>
          rw [eb] at gd3
          exact fun w5 H5 σ5 s5 sim5 er5 => ⟨ρ5, st5, w5, sim5, er5, (s2.trans s3).trans s5, gd3.later s5⟩
        | cnt ρ5 st5 =>
          rw [eb] at gd3
          exact fun w5 H5 σ5 s5 sim5 er5 => ⟨ρ5, st5, w5, sim5, er5, (s2.trans s3).trans s5, gd3.later s5⟩
        | brk ρ5 st5 => rw [eb] at gd3; exact gd3
        | ret d st5 => rw [eb] at gd3; exact gd3
        | exc c fs ρ5 st5 => rw [eb] at gd3; exact gd3
        | stuck => rw [eb] at gd3; exact gd3.elim
      · exact gd3.elim
  · have e : i = items.length := by omega
    subst e
    rw [List.drop_length] at gd2
    exact .inl ⟨it.stop _ _ _ s2, gd2 w2 H2 σ2 .refl sim2 er2⟩
theorem tfs_for {K : PySem.W.Frag} {mg : Str → Option Value} {fi : FA} {tg : Tg} {body : FS} {D : Ends} {σ : L2.St} {H : Hp} (h : TFS K mg W (sFor fi tg body) D σ H) : tFor (TFI K mg W fi) (tgG K tg) (TFS K mg W body) D σ H := by
  obtain ⟨ρ, st, w, sim, er, gd⟩ := h
  refine ⟨ρ, st, w, sim, er, Good.imp (fun J H1 q => ?_) (good_st er gd)⟩
  obtain ⟨st1, w1, items, sim1, s1, it, er1, gd1⟩ := q
  exact tfs_forL it sim1 er1 gd1
theorem pfs_for {te iter : Expr} {bs : List Stmt} {fi : FA} {tg : Tg} {body : FS} (hp : PassesOwn (model X.prog X.w) X.A X.env X.xe) (hc : X.calm = true) (hi : PFI X W te iter fi) (hg : PG X te (tgG X.K tg)) (hb : PFSs X W bs body)
    (hs : ∀ x, foldedSetIterable iter X.env x = pure x := by intro _; rfl) : PFS X W (.For te iter bs [] pos) (sFor fi tg body) := PS_imp (ps_for hp hc hi hg hb hs) fun D σ H q => tfs_for q
/-! ### while -/
def sWhN (t : FT) (body : FS) : Nat → FS
  | 0, _, _ => .stuck
  | k + 1, ρ, st => (t ρ st).st ρ fun b st1 => if b then match body ρ st1 with
      | .nx ρ2 st2 => sWhN t body k ρ2 st2
      | .cnt ρ2 st2 => sWhN t body k ρ2 st2
      | .brk ρ2 st2 => .nx ρ2 st2
      | r => r
    else .nx ρ st1
def sWh (t : FT) (body : FS) (fuel : Nat) : FS := sWhN t body fuel
theorem tfs_while {K : PySem.W.Frag} {mg : Str → Option Value} {t : FT} {body : FS} {fuel : Nat} {D : Ends} {σ : L2.St} {H : Hp} (h : TFS K mg W (sWh t body fuel) D σ H) : tWhile (TFT K mg W t) (TFS K mg W body) D σ H := by
  obtain ⟨ρ, st, w, sim, er, gd⟩ := h
  refine ⟨fun m σ2 H2 => ∃ ρ2 st2 w2, Sim K mg w2 st2 H2 ∧ EnvR K mg st2.length w2 H2 ρ2 σ2 ∧ GoodS K mg W st2.length w2 H2 D (sWhN t body m ρ2 st2), ⟨fuel, ρ, st, w, sim, er, gd⟩, ?_⟩
  rintro m σ2 H2 ⟨ρ2, st2, w2, sim2, er2, gd2⟩
  cases m with
  | zero => exact gd2.elim
  | succ k =>
    unfold sWhN at gd2
    refine ⟨ρ2, st2, w2, sim2, er2, Good.imp (fun b H3 q => ?_) (good_st er2 gd2)⟩
    obtain ⟨st3, w3, d, sim3, s3, r3, er3, gd3⟩ := q
    obtain rfl : d = b := r3
    cases d with
    | false => exact gd3 w3 H3 σ2 .refl sim3 er3
    | true =>
      refine ⟨fun σ' H' => ∃ ρ4 st4 w4, Sim K mg w4 st4 H' ∧ EnvR K mg st4.length w4 H' ρ4 σ' ∧ GoodS K mg W st4.length w4 H' D (sWhN t body k ρ4 st4), fun σ' H' q => ⟨k, Nat.lt_succ_self _, q⟩, ρ2, st3, w3, sim3, er3, ?_⟩
      simp only [if_true] at gd3
      cases eb : body ρ2 st3 with
      | nx ρ5 st5 =>
        rw [eb] at gd3
        exact fun w5 H5 σ5 s5 sim5 er5 => ⟨ρ5, st5, w5, sim5, er5, gd3.later s5⟩
      | cnt ρ5 st5 =>
        rw [eb] at gd3
        exact fun w5 H5 σ5 s5 sim5 er5 => ⟨ρ5, st5, w5, sim5, er5, gd3.later s5⟩
      | brk ρ5 st5 => rw [eb] at gd3; exact gd3
      | ret d st5 => rw [eb] at gd3; exact gd3
      | exc c fs ρ5 st5 => rw [eb] at gd3; exact gd3
      | stuck => rw [eb] at gd3; exact gd3.elim
theorem pfs_while {c : Expr} {bs : List Stmt} {t : FT} {body : FS} (fuel : Nat) (hp : PassesOwn (model X.prog X.w) X.A X.env X.xe) (hc : PFT X W c t) (hb : PFSs X W bs body) : PFS X W (.While c bs [] pos) (sWh t body fuel) := PS_imp (ps_while hp hc hb) fun D σ H q => tfs_while q

/-! ### comprehensions -/
/-- no error leaves a comprehension -/
abbrev W0 : WX := fun _ _ _ _ => False
def Rs.bindN {α β : Type} : Rs α → (α → So → Rs β) → Rs β
  | .ok a st, f => f a st
  | _, _ => .stuck
def cmpL (tg : Tg) (tt : FT) (fe : FE) (ρ : Sl) : List Dv → List Dv → So → Rs (List Dv)
  | [], acc, st => .ok acc st
  | d :: ds, acc, st => match tgF tg d ρ with
    | none => .stuck
    | some ρ' => (tt ρ' st).bindN fun b st1 => if b then (fe ρ' st1).bindN fun y st2 => cmpL tg tt fe ρ ds (acc ++ [y]) st2 else cmpL tg tt fe ρ ds acc st1
def rhoW (ρ : Sl) : List Nat → Sl
  | [] => ρ
  | v :: vs => (rhoW ρ vs).set v none
/-- [elt for tg in iter if ..]: the new list's items -/
def fLc (fi : FA) (tg : Tg) (tt : FT) (fe : FE) : FA := fun ρ st => (fi ρ st).bind fun items st1 => if items.length ≤ 100000 then cmpL tg tt fe (rhoW ρ (tgS tg)) items [] st1 else .stuck
def tYesF : FT := fun _ st => .ok true st
theorem envW {K : PySem.W.Frag} {mg : Str → Option Value} {n : Nat} {w : Wd} {H : Hp} {ρ : Sl} {σ : L2.St} (h : EnvR K mg n w H ρ σ) : ∀ vs : List Nat, EnvR K mg n w H (rhoW ρ vs) (wipe σ vs)
  | [] => h
  | v :: vs => (envW h vs).setN v
theorem wipe_idem {σ : L2.St} {ws : List Nat} : ∀ {vs : List Nat}, (∀ v ∈ vs, v ∈ ws) → wipe (wipe σ vs) ws = wipe σ ws
  | [], _ => rfl
  | v :: vs, h => by
    show wipe ((wipe σ vs).set v none) ws = wipe σ ws
    rw [wipe_set (h v List.mem_cons_self), wipe_idem fun u hu => h u (List.mem_cons_of_mem _ hu)]
/-- the making of a comprehension: the items so far, the new list put away -/
theorem cmp_ok {K : PySem.W.Frag} {mg : Str → Option Value} {Wc : WX} {σ : L2.St} {st1 : So} {w1 : Wd} {H1 : Hp} {J : It} {items : List Dv} {tg : Tg} {tt : FT} {fe : FE} {ρ : Sl} {D : Addr} {Q : VK}
    (it : ItOk K mg st1.length w1 H1 items J) (hn : items.length ≤ 100000) (er : EnvR K mg st1.length w1 H1 ρ (wipe σ (tgS tg))) (sim1 : Sim K mg w1 st1 H1) (hD : H1 D = none)
    (gd : Good (RDs K mg) K mg Wc σ st1.length w1 H1 (fun vs H' => ∀ p, H' p = none → vs.length ≤ sizeLine → Q (.ref p) (upd H' p (.lst vs))) (cmpL tg tt fe ρ items [] st1)) :
    ∃ Wn : Nat → Nat → Hp → Prop, (∃ m, Wn 0 m (upd H1 D (.lst []))) ∧ ∀ i m H, Wn i m H →
      (J.stop i H ∧ Q (.ref D) H) ∨ (J.go i H ∧ ∃ Nx : Hp → Prop, (∀ H', Nx H' → ∃ m', m' < m ∧ Wn (i + 1) m' H') ∧ ∀ x H', J.yld i H x H' → tgG K tg x (wipe σ (tgS tg)) H' fun σ2 H2 => wipe σ2 (tgS tg) = wipe σ (tgS tg) ∧ TFT K mg W0 tt σ2 H2 fun b H3 =>
        if b = true then TF K mg W0 fe σ2 H3 fun y H4 => ∃ acc, H4 D = some (.lst acc) ∧ acc.length < sizeLine ∧ Nx (upd H4 D (.lst (acc ++ [y]))) else Nx H3) := by
  have big : ∀ {k : Nat}, k ≤ 100000 → k < sizeLine := fun h => Nat.lt_of_le_of_lt h (by decide)
  refine ⟨fun i m H => m = items.length - i ∧ i ≤ items.length ∧ ∃ st w Hb acc vs, Sim K mg w st Hb ∧ Hb D = none ∧ H = upd Hb D (.lst vs) ∧ RDs K mg st.length w Hb acc vs ∧ Stp st1.length w1 H1 st.length w Hb ∧ acc.length ≤ i ∧
    Good (RDs K mg) K mg Wc σ st.length w Hb (fun vs H' => ∀ p, H' p = none → vs.length ≤ sizeLine → Q (.ref p) (upd H' p (.lst vs))) (cmpL tg tt fe ρ (items.drop i) acc st),
    ⟨items.length, rfl, Nat.zero_le _, st1, w1, H1, [], [], sim1, hD, rfl, .nil, .refl, Nat.le_refl _, gd⟩, ?_⟩
  rintro i m H ⟨rfl, hi, st, w, Hb, acc, vs, sim, hDb, rfl, racc, s0, hacc, gd0⟩
  obtain ⟨s2, sim2⟩ := sim.put (o := .lst vs) hDb
  by_cases hlt : i < items.length
  · have e0 : items[i]? = some items[i] := List.getElem?_eq_getElem hlt
    obtain ⟨go, yl⟩ := it.go i _ (w.aside D) _ st e0 (s0.trans s2) sim2
    refine .inr ⟨go, fun H' => ∃ st' w' Hb' acc' vs', Sim K mg w' st' Hb' ∧ Hb' D = none ∧ H' = upd Hb' D (.lst vs') ∧ RDs K mg st'.length w' Hb' acc' vs' ∧ Stp st1.length w1 H1 st'.length w' Hb' ∧ acc'.length ≤ i + 1 ∧
      Good (RDs K mg) K mg Wc σ st'.length w' Hb' (fun vs H' => ∀ p, H' p = none → vs.length ≤ sizeLine → Q (.ref p) (upd H' p (.lst vs))) (cmpL tg tt fe ρ (items.drop (i + 1)) acc' st'), ?_, ?_⟩
    · rintro H' ⟨st', w', Hb', acc', vs', q⟩
      exact ⟨items.length - (i + 1), by omega, rfl, hlt, st', w', Hb', acc', vs', q⟩
    · intro x H3 hy
      obtain ⟨w3, s3, sim3, r3⟩ := yl x H3 hy
      rw [List.drop_eq_getElem_cons hlt] at gd0
      unfold cmpL at gd0
      split at gd0
      · exact gd0.elim
      · rename_i ρ' hρ
        have s23 := s2.trans s3
        have fD : ∀ {n' w' H'}, Stp st.length w3 H3 n' w' H' → w'.F D ∧ H' D = some (.lst vs) := fun {n' w' H'} g =>
          ⟨g.frm.inc D (s3.frm.inc D (.inl rfl)), g.frm.imm D _ (s3.frm.inc D (.inl rfl)) (s3.frm.imm D _ (.inl rfl) upd_same)⟩
        have hFF : ∀ {n' w' H'}, Stp st.length w3 H3 n' w' H' → ∀ a, w.F a → w'.F a ∧ a ≠ D := fun {n' w' H'} g a ha => by
          obtain ⟨⟨z, hz⟩, _⟩ := sim.fr a ha
          exact ⟨g.frm.inc a (s23.frm.inc a ha), ne_of_none hz hDb⟩
        -- back on the ground
        have land : ∀ {st' w' H'}, Stp st.length w3 H3 (List.length st') w' H' → Sim K mg w' st' H' → Sim K mg (w'.back w.F) st' (era H' D) ∧ Stp st.length w Hb st'.length (w'.back w.F) (era H' D) ∧
            Stp st'.length { w' with F := fun _ => False } H' st'.length (w'.back w.F) (era H' D) := fun {st' w' H'} g sm => by
          obtain ⟨a1, a2, a3⟩ := sm.drop (F := w.F) (fD g).1 (hFF g)
          exact ⟨a1, a2 (s23.trans g) fun _ h => h, a3⟩
        refine tg_ok (vs := tgS tg) tg _ x ρ ρ' _ (wipe σ (tgS tg)) _ r3 (er.mono ((s0.trans s2).trans s3)) hρ (fun _ h => h) rfl fun σ4 er4 hw4 => ⟨hw4.trans (wipe_idem fun _ h => h), ρ', st, w3, sim3, er4, ?_⟩
        cases et : tt ρ' st with
        | stuck => rw [et] at gd0; exact gd0.elim
        | exc c fs st' => rw [et] at gd0; exact gd0.elim
        | ok b st4 =>
          rw [et] at gd0
          intro w4 H4 b' s4 sim4 eb
          obtain rfl : b = b' := eb
          have gd0 : Good (RDs K mg) K mg Wc σ st.length w Hb (fun vs H' => ∀ p, H' p = none → vs.length ≤ sizeLine → Q (.ref p) (upd H' p (.lst vs))) (if b = true then (fe ρ' st4).bindN fun y st2 => cmpL tg tt fe ρ (items.drop (i + 1)) (acc ++ [y]) st2 else cmpL tg tt fe ρ (items.drop (i + 1)) acc st4) := gd0
          cases b with
          | false =>
            rw [if_neg Bool.false_ne_true] at gd0 ⊢
            obtain ⟨a1, a2, a3⟩ := land s4 sim4
            refine ⟨st4, w4.back w.F, era H4 D, acc, vs, a1, era_same, ?_, racc.mono a2, s0.trans a2, Nat.le_succ_of_le hacc, gd0.later a2⟩
            rw [upd_era]
            funext c
            by_cases hc : c = D
            · subst hc; rw [upd_same]; exact (fD s4).2
            · rw [upd_ne hc]
          | true =>
            rw [if_pos rfl] at gd0 ⊢
            refine ⟨ρ', st4, w4, sim4, er4.mono s4, ?_⟩
            cases ef : fe ρ' st4 with
            | stuck => rw [ef] at gd0; exact gd0.elim
            | exc c fs st' => rw [ef] at gd0; exact gd0.elim
            | ok y st5 =>
              rw [ef] at gd0
              intro w5 H5 v s5 sim5 r5
              have s45 := s4.trans s5
              obtain ⟨a1, a2, a3⟩ := land s45 sim5
              have lv : vs.length < sizeLine := by rw [← racc.length]; exact big (by omega)
              refine ⟨vs, (fD s45).2, lv, st5, w5.back w.F, era H5 D, acc ++ [y], vs ++ [v], a1, era_same, by rw [upd_era], (racc.mono a2).append (.cons (r5.back a3) .nil), s0.trans a2, ?_, ?_⟩
              · rw [List.length_append, List.length_singleton]; omega
              · exact Good.later a2 gd0
  · have e : i = items.length := by omega
    subst e
    rw [List.drop_length] at gd0
    refine .inl ⟨it.stop _ _ _ (s0.trans s2), ?_⟩
    exact gd0 w Hb vs .refl sim racc D hDb (by rw [← racc.length]; exact Nat.le_of_lt (big (by omega)))
theorem tfl_lc {K : PySem.W.Frag} {mg : Str → Option Value} {fi : FA} {tg : Tg} {tt : FT} {fe : FE} {σ : L2.St} {H : Hp} {Q : VK} (h : TFL K mg W (fLc fi tg tt fe) σ H Q) : tLc (TFI K mg W fi) (tgG K tg) (TFT K mg W0 tt) (TF K mg W0 fe) (tgS tg) σ H Q := by
  obtain ⟨ρ, st, w, sim, er, gd⟩ := h
  refine ⟨ρ, st, w, sim, er, Good.imp (fun J H1 q => ?_) (Good.bind gd)⟩
  obtain ⟨st1, w1, items, sim1, s1, it, gd1⟩ := q
  intro D hD
  by_cases hn : items.length ≤ 100000
  · rw [if_pos hn] at gd1
    exact cmp_ok it hn (envW (er.mono s1) _) sim1 hD gd1
  · rw [if_neg hn] at gd1
    exact gd1.elim
theorem pfl_lc {elt te iter : Expr} {ifs : List Expr} {scope : Scope} {own : List (Str × Nat)} {fi : FA} {tg : Tg} {tt : FT} {fe : FE} (hc : X.calm = true) (hN : X.N.Nodup) (hi : PFI X W te iter fi) (ok : BlkOk X.N X.env.scope scope own) (ho : own.map (·.2) = tgS tg)
    (hg : ∀ (s : Shared) (H : Hp) (C : Addr) (cl : List (Str × Addr)) (fp : List Addr), PG (X.blk s H scope (compEnvC scope cl C X.env) fp) te (tgG X.K tg)) (ht : ∀ (s : Shared) (H : Hp) (C : Addr) (cl : List (Str × Addr)) (fp : List Addr), PTs (X.blk s H scope (compEnvC scope cl C X.env) fp) ifs (TFT X.K X.mg W0 tt))
    (he : ∀ (s : Shared) (H : Hp) (C : Addr) (cl : List (Str × Addr)) (fp : List Addr), PF (X.blk s H scope (compEnvC scope cl C X.env) fp) W0 elt fe) (hs : ∀ x, foldedSetIterable iter X.env x = pure x := by intro _; rfl) :
    PFL X W (.ListComp elt [⟨te, iter, ifs, 0⟩] scope pos) (fLc fi tg tt fe) := PE_imp (pe_lc (te := TF X.K X.mg W0 fe) hc hN hi ok hg ht he hs) fun σ H Q h => by
  rw [ho]
  exact tfl_lc h
theorem pts_yes {Y : Cx} {K : PySem.W.Frag} {mg : Str → Option Value} : PTs Y [] (TFT K mg W0 tYesF) := ⟨fun pins s σ H Q I h => pts_nil.run pins s σ H Q I (by
  obtain ⟨ρ, st, w, sim, er, g⟩ := h
  exact g w H true .refl sim rfl)⟩
theorem pts_if {Y : Cx} {c : Expr} {t : FT} (h : PFT Y W0 c t) : PTs Y [c] (TFT Y.K Y.mg W0 t) := pts_one h
/-- name = [..], as data | as a cell -/
theorem pfs_setLc {i : Nat} {y : Str} {py spos : Pos} {elt te iter : Expr} {ifs : List Expr} {scope : Scope} {own : List (Str × Nat)} {fi : FA} {tg : Tg} {tt : FT} {fe : FE} {fr : FE} (hc : X.calm = true) (hN : X.N.Nodup) (hi : PFI X W te iter fi) (ok : BlkOk X.N X.env.scope scope own) (ho : own.map (·.2) = tgS tg)
    (hg : ∀ (s : Shared) (H : Hp) (C : Addr) (cl : List (Str × Addr)) (fp : List Addr), PG (X.blk s H scope (compEnvC scope cl C X.env) fp) te (tgG X.K tg)) (ht : ∀ (s : Shared) (H : Hp) (C : Addr) (cl : List (Str × Addr)) (fp : List Addr), PTs (X.blk s H scope (compEnvC scope cl C X.env) fp) ifs (TFT X.K X.mg W0 tt))
    (he : ∀ (s : Shared) (H : Hp) (C : Addr) (cl : List (Str × Addr)) (fp : List Addr), PF (X.blk s H scope (compEnvC scope cl C X.env) fp) W0 elt fe)
    (hsw : swapsWith (.ListComp elt [⟨te, iter, ifs, 0⟩] scope pos) (some (.Name y py)) spos.line X.env = pure true) (hfr : ∀ σ H Q, TF X.K X.mg W fr σ H Q → TFL X.K X.mg W (fLc fi tg tt fe) σ H Q)
    (hy : X.N[i]? = some y := by rfl) (hyl : X.env.scope.names.lookup y = some .local := by rfl) (hs : ∀ x, foldedSetIterable iter X.env x = pure x := by intro _; rfl) :
    PFS X W (.Assign [.Name y py] (.ListComp elt [⟨te, iter, ifs, 0⟩] scope pos) spos) (sAsg fr (.nm i)) := PS_imp (ps_setLc (te := TF X.K X.mg W0 fe) hc hN hy hyl hsw hi ok hg ht he hs) fun D σ H h => by
  have h2 := tfs_asg h
  rw [ho]
  exact tfl_lc (hfr σ H _ h2)
theorem tf_pure {K : PySem.W.Frag} {mg : Str → Option Value} {fr : FA} (σ : L2.St) (H : Hp) (Q : VK) (hh : TF K mg W (fPure fr) σ H Q) : TFL K mg W fr σ H Q := by
  obtain ⟨ρ, st, w, sim, er, gd⟩ := hh
  refine ⟨ρ, st, w, sim, er, Good.imp (fun vs H1 q => ?_) (Good.bind gd)⟩
  obtain ⟨st1, w1, ds, sim1, s1, r1, gd1⟩ := q
  intro p hp hl
  by_cases hs : small ds = true
  · rw [if_pos hs] at gd1
    obtain ⟨s2, sim2⟩ := sim1.newP (o := .lst vs) hp
    exact gd1 _ _ _ s2 sim2 (rd_mkL ⟨.inl rfl, upd_same⟩ (r1.mono s2))
  · rw [if_neg hs] at gd1
    exact gd1.elim
theorem tf_cell {K : PySem.W.Frag} {mg : Str → Option Value} {fr : FA} (σ : L2.St) (H : Hp) (Q : VK) (hh : TF K mg W (fCell fr) σ H Q) : TFL K mg W fr σ H Q := by
  obtain ⟨ρ, st, w, sim, er, gd⟩ := hh
  refine ⟨ρ, st, w, sim, er, Good.imp (fun vs H1 q => ?_) (Good.bind gd)⟩
  obtain ⟨st1, w1, ds, sim1, s1, r1, gd1⟩ := q
  intro p hp hl
  by_cases hs : small ds = true
  · rw [if_pos hs] at gd1
    obtain ⟨s2, sim2⟩ := sim1.newC (o := .lst vs) (c := .lst ds) hp fun {n' w' H'} g e nI => ⟨vs, e, r1.mono g, nI⟩
    have hm : V.ref p = V.ref ((w1.cel st1.length p).m st1.length) := by
      show V.ref p = V.ref (if st1.length = st1.length then p else _)
      rw [if_pos rfl]
    rw [hm]
    refine gd1 _ _ _ ?_ sim2 (.ref ?_)
    · rw [List.length_append, List.length_singleton]; exact s2
    · rw [List.length_append, List.length_singleton]; exact Nat.lt_succ_self _
  · rw [if_neg hs] at gd1
    exact gd1.elim

/-! ### calls of defs -/
def lowD (n : Nat) : Dv → Bool
  | .ref i => decide (i < n)
  | .tupD xs => go xs
  | .lstD xs => go xs
  | .xa _ _ d => lowD n d
  | _ => true
where go : List Dv → Bool
  | [] => true
  | x :: xs => lowD n x && go xs
def lowC (n : Nat) : Cl → Bool
  | .lst xs => lowD.go n xs
  | .dK kvs => kvs.all fun p => lowD n p.2
  | .dT kvs => kvs.all fun p => lowD n p.2
  | .dead => true
def trim (n : Nat) (d : Dv) (st : So) : So := if lowD n d && (st.take n).all (lowC n) then st.take n else st
def runD (N : Nat) (body : FS) : FD := fun args st => match body (args.map some ++ List.replicate (N - args.length) none) st with
  | .nx _ st' => .ok (.p .none) (trim st.length (.p .none) st')
  | .ret d st' => .ok d (trim st.length d st')
  | .exc c fs _ st' => .exc c fs (trim st.length (.p .none) st')
  | _ => .stuck
def spD (K : PySem.W.Frag) (mg : Str → Option Value) (n : Nat) (F : FD) : Sp := fun vs H Q E => vs.length = n ∧ ∃ ds st w, Sim K mg w st H ∧ RDs K mg st.length w H ds vs ∧ Good (RD K mg) K mg (fun cv dd _ H' => E cv dd H') [] st.length w H Q (F ds st)
section
variable {K : PySem.W.Frag} {mg : Str → Option Value} {n m : Nat} {w : Wd} {H : Hp} {st : So}
mutual
theorem RD.low (hm : n ≤ m) : ∀ {d : Dv} {v : V}, RD K mg m w H d v → lowD n d = true → RD K mg n w H d v
  | _, _, .p h, _ => .p h
  | _, _, .ref h, e => .ref (of_decide_eq_true e)
  | _, _, .tupD h hs, e => .tupD h (RDs.low hm hs e)
  | _, _, .lstD h hs, e => .lstD h (RDs.low hm hs e)
  | _, _, .frz h, _ => .frz h
  | _, _, .exc m i e, _ => .exc m i e
  | _, _, .xa m i e j f h, e' => .xa m i e j f (RD.low hm h e')
theorem RDs.low (hm : n ≤ m) : ∀ {ds : List Dv} {vs : List V}, RDs K mg m w H ds vs → lowD.go n ds = true → RDs K mg n w H ds vs
  | _, _, .nil, _ => .nil
  | _, _, .cons h hs, e => by
    have e' : (lowD n _ && lowD.go n _) = true := e
    rw [Bool.and_eq_true] at e'
    exact .cons (RD.low hm h e'.1) (RDs.low hm hs e'.2)
end
theorem paired_low {κ : Type} (hm : n ≤ m) : ∀ {kvs : List (κ × Dv)} {kws : List (κ × V)}, Paired (fun p q => p.1 = q.1 ∧ RD K mg m w H p.2 q.2) kvs kws → (kvs.all fun p => lowD n p.2) = true → Paired (fun p q => p.1 = q.1 ∧ RD K mg n w H p.2 q.2) kvs kws
  | _, _, .nil, _ => .nil
  | _, _, .cons h t, e => by
    rw [List.all_cons, Bool.and_eq_true] at e
    exact .cons ⟨h.1, h.2.low hm e.1⟩ (paired_low hm t e.2)
theorem CellOk.low {a : Addr} {c : Cl} (hm : n ≤ m) (h : CellOk K mg m w H a c) (e : lowC n c = true) : CellOk K mg n w H a c := by
  cases c with
  | lst xs => obtain ⟨vs, e1, r, ni⟩ := h; exact ⟨vs, e1, r.low hm e, ni⟩
  | dK kvs => obtain ⟨vs, e1, r, ni⟩ := h; exact ⟨vs, e1, paired_low hm r e, ni⟩
  | dT kvs => obtain ⟨vs, e1, r, ni⟩ := h; exact ⟨vs, e1, paired_low hm r e, ni⟩
  | dead => trivial
theorem live_take {i : Nat} (h : live (st.take n) i) : live st i := by
  obtain ⟨c, e, hc⟩ := h
  rw [List.getElem?_take] at e
  split at e
  · exact ⟨c, e, hc⟩
  · cases e
/-- behind the trimming -/
theorem Sim.trim (s : Sim K mg w st H) {d : Dv} {n0 : Nat} {w0 : Wd} {H0 : Hp} (g : Stp n0 w0 H0 st.length w H) : Sim K mg w (trim n0 d st) H ∧ Stp n0 w0 H0 (trim n0 d st).length w H ∧ ∀ v, RD K mg st.length w H d v → RD K mg (trim n0 d st).length w H d v := by
  unfold FB.trim
  split
  · rename_i h
    rw [Bool.and_eq_true] at h
    obtain ⟨h1, h2⟩ := h
    have hl : (st.take n0).length = n0 := by rw [List.length_take]; exact Nat.min_eq_left g.le
    rw [hl]
    refine ⟨⟨fun i c e => ?_, fun i j hi hj => s.inj i j (live_take hi) (live_take hj), s.trk, fun a h => ?_⟩, ⟨Nat.le_refl _, g.ext, g.gro, g.frm⟩, fun v r => r.low g.le h1⟩
    · rw [hl]
      have hc := List.all_eq_true.mp h2 c (List.mem_of_getElem? e)
      rw [List.getElem?_take] at e
      split at e
      · exact (s.cell i c e).low g.le hc
      · cases e
    · obtain ⟨q1, q2, q3⟩ := s.fr a h
      exact ⟨q1, q2, fun i hi => q3 i (live_take hi)⟩
  · exact ⟨s, g, fun _ r => r⟩
end
theorem envStart {K : PySem.W.Frag} {mg : Str → Option Value} {n : Nat} {w : Wd} {H : Hp} {ds : List Dv} {vs : List V} {N : List Str} (r : RDs K mg n w H ds vs) : EnvR K mg n w H (ds.map some ++ List.replicate (N.length - ds.length) none) (L2.start N vs) := by
  unfold L2.start
  rw [r.length]
  refine ⟨by rw [List.length_append, List.length_append, List.length_map, List.length_map, List.length_replicate, List.length_replicate, r.length], fun i d e => ?_⟩
  by_cases hi : i < ds.length
  · rw [List.getElem?_append_left (by rw [List.length_map]; exact hi), List.getElem?_map] at e
    cases e1 : ds[i]? with
    | none => rw [e1] at e; cases e
    | some d' =>
      rw [e1] at e
      cases e
      obtain ⟨v, h1, h2⟩ := r.get e1
      refine ⟨v, ?_, h2⟩
      rw [List.getElem?_append_left (by rw [List.length_map, ← r.length]; exact hi), List.getElem?_map, h1]
      rfl
  · rw [List.getElem?_append_right (by rw [List.length_map]; omega), List.getElem?_replicate] at e
    split at e <;> cases e
/-- a def's body keeps the def's promise -/
theorem body_ok {K : PySem.W.Frag} {mg : Str → Option Value} {N : List Str} {a : Nat} {body : FS} {vs : List V} {H : Hp} {Q : VK} {E : XK} (h : spD K mg a (runD N.length body) vs H Q E) :
    TFS K mg (fun cv dd _ H' => E cv dd H') body { nx := fun _ H' => Q .non H', rt := Q } (L2.start N vs) H := by
  obtain ⟨_, ds, st, w, sim, r, gd⟩ := h
  refine ⟨_, st, w, sim, envStart r, ?_⟩
  unfold runD at gd
  generalize body (ds.map some ++ List.replicate (N.length - ds.length) none) st = res at gd ⊢
  cases res with
  | nx ρ' st' =>
    intro w' H' σ' s sim' er'
    obtain ⟨a1, a2, a3⟩ := sim'.trim (d := .p .none) s
    exact gd w' H' .non a2 a1 (.p .non)
  | ret d st' =>
    intro w' H' v s sim' rv
    obtain ⟨a1, a2, a3⟩ := sim'.trim (d := d) s
    exact gd w' H' v a2 a1 (a3 v rv)
  | exc c fs ρ' st' =>
    intro w' H' σ' cv dd s sim' er' ex
    obtain ⟨a1, a2, a3⟩ := sim'.trim (d := .p .none) s
    exact gd w' H' cv dd a2 a1 ex
  | brk ρ' st' => exact gd.elim
  | cnt ρ' st' => exact gd.elim
  | stuck => exact gd.elim
section
variable {P : Program} {w : World} {K : PySem.W.Frag} {mg : Str → Option Value} {base : Heap}
theorem fn_ok {x qual : Str} {st : Stmt} {f : Addr} {fd : FuncData} {N ps : List Str} {k : Nat} {body : FS} (F : Fun K x qual st f fd) (S : FnScope N ps (defScope st))
    (hbody : ∀ (cdv : Value) (A : Around) (outer : List Env) (s : Shared) (H : Hp) (E : XK), Room k (A.deeper (envOfC qual (defScope st) s.heap.objs.size f cdv)) →
      PFSs (cxOf (L2.CX P w) P w K mg base N qual (defScope st) f cdv A outer s H E) (fun cv dd _ H' => E cv dd H') (defBody st) body) : FnOk P w K mg base (L2.CX P w) (k + 1) f fd ps (spD K mg ps.length (runD N.length body)) :=
  F.okX S (fun vs H Q E h => h.1) fun cdv A outer s H vs Q E hr h => ⟨_, hbody cdv A outer s H E hr, body_ok h⟩
end
def fCall (F : FD) (fr : FA) : FE := fun ρ st => (fr ρ st).bind F
theorem pf_call {k a : Nat} {f : Addr} {fd : FuncData} {ps : List Str} {F : FD} {x : Str} {p : Pos} {e : Expr} {es : List Expr} {fr : FA} (G : FnOk X.prog X.w X.K X.mg X.base (L2.CX X.prog X.w) k f fd ps (spD X.K X.mg a F)) (hr : Room k X.A) (hg : Gl X x) (hm : X.mg x = some (.ref f))
    (hk : PySem.W.keepIn X.K (.ref f) = true) (hb : Binds X.K fd ps []) (tk : Takes X W) (ha : PFA X W (e :: es) fr) (hlen : ((e :: es).length == a) = true := by rfl) (hdb : (x == ("__debug__" : Str)) = false := by decide) (he : starEach (e :: es) X.env = (false, eval e X.env) :: starEach es X.env := by rfl) (hpl : (backTo pos (starEach es X.env)).any (·.1) = false := by rfl)
    (hfl : ∀ ρ st, ∀ xs st', fr ρ st = .ok xs st' → xs.length = (e :: es).length) :
    PF X W (.Call (.Name x p) (e :: es) [] pos) (fCall F fr) := PE_imp (pe_callS G hr hg hm hk hb (fun σ => passAt tk σ) ha hdb he hpl) fun σ H Q h => by
  obtain ⟨ρ, st, w, sim, er, gd⟩ := h
  have key := Good.bind (Rel := RDs X.K X.mg) gd
  refine ⟨ρ, st, w, sim, er, ?_⟩
  cases ef : fr ρ st with
  | stuck => rw [ef] at key; exact key
  | exc c fs st' => rw [ef] at key; exact key
  | ok xs st' =>
    rw [ef] at key
    intro w1 H1 vs s sim' rv
    obtain ⟨st1, w2, ds, sim1, s1, r1, gd1⟩ := key w1 H1 vs s sim' rv
    refine ⟨?_, ds, st1, w2, sim1, r1, ?_⟩
    · rw [← rv.length, hfl ρ st xs st' ef]
      exact beq_iff_eq.mp hlen
    · cases eF : F ds st1 with
      | ok d st2 => rw [eF] at gd1; exact gd1
      | exc c fs st2 => rw [eF] at gd1; exact gd1
      | stuck => rw [eF] at gd1; exact gd1
/-- how many arguments -/
theorem fnil_len : ∀ (ρ : Sl) (st : So) (xs : List Dv) (st' : So), fNil ρ st = .ok xs st' → xs.length = 0 := fun _ _ _ _ h => by cases h; rfl
theorem fcons_len {fa : FE} {fr : FA} {k : Nat} (h : ∀ (ρ : Sl) (st : So) (xs : List Dv) (st' : So), fr ρ st = .ok xs st' → xs.length = k) : ∀ (ρ : Sl) (st : So) (xs : List Dv) (st' : So), fCons fa fr ρ st = .ok xs st' → xs.length = k + 1 := fun ρ st xs st' e => by
  unfold fCons at e
  cases e1 : fa ρ st with
  | stuck => rw [e1] at e; cases e
  | exc c fs st2 => rw [e1] at e; cases e
  | ok x st2 =>
    rw [e1] at e
    have e : (fr ρ st2).bind (fun xs st2 => Rs.ok (x :: xs) st2) = .ok xs st' := e
    cases e2 : fr ρ st2 with
    | stuck => rw [e2] at e; cases e
    | exc c fs st3 => rw [e2] at e; cases e
    | ok ys st3 =>
      rw [e2] at e
      cases e
      rw [List.length_cons, h ρ st2 ys _ e2]
/-! ### raise -/
def sRaise (c : Str) : FS := fun ρ st => .exc c [] ρ st
theorem pfs_raise {x m : Str} {C : Addr} {j : Nat} {p p2 pos' : Pos} (hc : X.calm = true) (tk : Takes X W) (q : PySem.W.excIn X.K C [Value.type "ValueError", Value.type "Exception", Value.type "BaseException", Value.type "object"] "ValueError.__new__" = true) (gC : X.mg x = some (.ref C)) (kC : PySem.W.keepIn X.K (.ref C) = true) (r : Raises X (.ref C)) (hg : Gl X x)
    (hdb : (x == ("__debug__" : Str)) = false := by decide) : PFS X W (.Raise (some (.Call (.Name x p) [.Constant (.str m) j p2] [] pos)) none pos') (sRaise x) :=
  PS_imp (ps_raise hc tk (pmk_own PySem.F.excBase_ValueError q gC kC r hg hdb)) fun D σ H ⟨ρ, st, w, sim, er, g⟩ => g w H σ (.ref C) none .refl sim er ⟨C, gC, rfl, .inl ⟨rfl, rfl⟩⟩
end
end FB
set_option Elab.async false
set_option linter.all false
set_option maxRecDepth 100000
set_option maxHeartbeats 4000000
/-! FB3: operators and built-ins over data. -/
namespace FB
open PySem PySem.Spec PyProof.Rows L2

/-! ### reading values -/
def lstOf (d : Dv) (st : So) : Option (List Dv) := match d with
  | .p (.list xs) => some (xs.map Dv.p)
  | .lstD xs => some xs
  | .ref i => match st[i]? with
    | some (.lst xs) => some xs
    | _ => none
  | _ => none
def tupOf (d : Dv) : Option (List Dv) := match d with
  | .p (.tuple xs) => some (xs.map Dv.p)
  | .tupD xs => some xs
  | _ => none
/-- a list (the script too) or a tuple -/
def seqOf (d : Dv) (st : So) : Option (List Dv) := match d with
  | .frz ns => some (ns.map fun n => .p (.int n))
  | d => match tupOf d with
    | some xs => some xs
    | none => lstOf d st
def datOf (d : Dv) (st : So) : Option PyData := match d with
  | .p x => some x
  | .ref i => match st[i]? with
    | some (.lst xs) => (pures xs).map PyData.list
    | _ => none
  | .frz ns => some (.list (ns.map PyData.int))
  | _ => none
section
variable {K : PySem.W.Frag} {mg : Str → Option Value} {st : So} {w : Wd} {H : Hp} {d : Dv} {v : V} {xs : List Dv}
theorem lst_rd (s : Sim K mg w st H) (r : RD K mg st.length w H d v) (h : lstOf d st = some xs) : ∃ a vs, v = .ref a ∧ RDs K mg st.length w H xs vs ∧ H a = some (.lst vs) := by
  unfold lstOf at h
  split at h
  · cases h
    cases r with
    | p q => cases q with
      | lst hs hr => exact ⟨_, _, rfl, RDs.ofP hr, hs.2⟩
  · cases h
    cases r with
    | lstD hs hr => exact ⟨_, _, rfl, hr, hs.2⟩
  · rename_i i
    split at h
    · rename_i ys e
      cases h
      cases r
      obtain ⟨vs, e1, r1, _⟩ := s.cell i _ e
      exact ⟨_, vs, rfl, r1, e1⟩
    · cases h
  · cases h
theorem tup_rd (r : RD K mg st.length w H d v) (h : tupOf d = some xs) : ∃ a vs, v = .ref a ∧ RDs K mg st.length w H xs vs ∧ SU K w.I H a vs := by
  unfold tupOf at h
  split at h
  · cases h
    cases r with
    | p q => cases q with
      | tup hs hr => exact ⟨_, _, rfl, RDs.ofP hr, .inr hs⟩
  · cases h
    cases r with
    | tupD hs hr => exact ⟨_, _, rfl, hr, hs⟩
  · cases h
theorem frz_rds {ns : List Int} : RDs K mg st.length w H (ns.map fun n => Dv.p (.int n)) (ns.map V.int) := by
  induction ns with
  | nil => exact .nil
  | cons n ns ih => exact .cons (.p (.int n)) ih
theorem seq_rd (s : Sim K mg w st H) (r : RD K mg st.length w H d v) (h : seqOf d st = some xs) : ∃ a vs, v = .ref a ∧ RDs K mg st.length w H xs vs ∧ (SqL K H a vs ∨ SqT K H a vs) := by
  unfold seqOf at h
  split at h
  · cases h
    cases r with
    | frz e => exact ⟨_, _, rfl, frz_rds, .inl e.sq⟩
  · split at h
    · rename_i ys e
      cases h
      obtain ⟨a, vs, h1, h2, h3⟩ := tup_rd r e
      exact ⟨a, vs, h1, h2, .inr h3.sq⟩
    · obtain ⟨a, vs, h1, h2, h3⟩ := lst_rd s r h
      exact ⟨a, vs, h1, h2, .inl (.of h3)⟩
theorem dat_dp (s : Sim K mg w st H) (r : RD K mg st.length w H d v) {x : PyData} (h : datOf d st = some x) (e : x.canLay0 = true) : Dp K H v x := by
  unfold datOf at h
  split at h
  · cases h
    cases r with
    | p q => exact q.dp e
  · rename_i i
    split at h
    · rename_i ys e1
      cases e2 : pures ys with
      | none => rw [e2] at h; cases h
      | some zs =>
        rw [e2] at h
        cases h
        cases r
        obtain ⟨vs, e3, r1, _⟩ := s.cell i _ e1
        exact .lst (.of e3) ((r1.toP e2).dp (by simpa [PyData.canLay0] using e))
    · cases h
  · rename_i ns
    cases h
    cases r with
    | frz e1 =>
      refine .lst e1.sq ?_
      clear e e1
      induction ns with
      | nil => exact .nil
      | cons n ns ih => exact .cons (.int n) ih
  · cases h
end

/-! ### equality -/
def eqD (x y : Dv) (st : So) : Option Bool := match x, y with
  | .p (.str a), .p (.str b) => some (decide (a = b))
  | .p (.int a), .p (.int b) => some (decide (a = b))
  | .p (.bool a), .p (.bool b) => some (decide (a = b))
  | x, y => match datOf x st, datOf y st with
    | some a, some b => if SeqAt.shaped a && SeqAt.shaped b then some (PyData.eqv a b) else none
    | _, _ => none
def gEq : G2 := fun x y st => (eqD x y st).map fun b => .p (.bool b)
def gNe : G2 := fun x y st => (eqD x y st).map fun b => .p (.bool (!b))
def rEqA (K : PySem.W.Frag) : R2 := fun x y H Q => rEq x y H Q ∨ rEqD K x y H Q
def rNeA (K : PySem.W.Frag) : R2 := fun x y H Q => rNe x y H Q ∨ rNeD K x y H Q
section
variable {X : Cx}
theorem op_eqA (hu : X.A.units + 64 < cLine) : OpR X (compareOp .Eq) (rEqA X.K) := op_eq.or (op_eqD hu)
theorem op_neA (hu : X.A.units + 64 < cLine) : OpR X (compareOp .NotEq) (rNeA X.K) := op_ne.or (op_neD hu)
theorem eq_core {st : So} {w : Wd} {H : Hp} {x y : Dv} {vx vy : V} {b : Bool} (sim : Sim X.K X.mg w st H) (rx : RD X.K X.mg st.length w H x vx) (ry : RD X.K X.mg st.length w H y vy) (h : eqD x y st = some b) :
    (scal vx vy = true ∧ decide (vx = vy) = b) ∨ ∃ d e, Dp X.K H vx d ∧ Dp X.K H vy e ∧ SeqAt.shaped d = true ∧ SeqAt.shaped e = true ∧ PyData.eqv d e = b := by
  unfold eqD at h
  split at h
  · cases h
    cases rx with | p qx => cases qx; cases ry with | p qy => cases qy; exact .inl ⟨rfl, by simp⟩
  · cases h
    cases rx with | p qx => cases qx; cases ry with | p qy => cases qy; exact .inl ⟨rfl, by simp⟩
  · cases h
    cases rx with | p qx => cases qx; cases ry with | p qy => cases qy; exact .inl ⟨rfl, by simp⟩
  · split at h
    · rename_i a b' ea eb
      split at h
      · rename_i hs
        cases h
        rw [Bool.and_eq_true] at hs
        exact .inr ⟨a, b', dat_dp sim rx ea (SeqAt.canLay_of_shaped hs.1), dat_dp sim ry eb (SeqAt.canLay_of_shaped hs.2), hs.1, hs.2, rfl⟩
      · cases h
    · cases h
theorem im_eq : Im2 X (rEqA X.K) gEq := fun st w H x y vx vy Q d sim rx ry h l => by
  unfold gEq at h
  cases e : eqD x y st with
  | none => rw [e] at h; cases h
  | some b =>
    rw [e] at h
    cases h
    have q : Q (.bl b) H := l w H _ .refl sim (.p (.bl b))
    rcases eq_core sim rx ry e with ⟨h1, h2⟩ | ⟨d, e', h1, h2, h3, h4, h5⟩
    · exact .inl ⟨h1, by rw [h2]; exact q⟩
    · exact .inr ⟨d, e', h1, h2, h3, h4, by rw [h5]; exact q⟩
theorem im_ne : Im2 X (rNeA X.K) gNe := fun st w H x y vx vy Q d sim rx ry h l => by
  unfold gNe at h
  cases e : eqD x y st with
  | none => rw [e] at h; cases h
  | some b =>
    rw [e] at h
    cases h
    have q : Q (.bl (!b)) H := l w H _ .refl sim (.p (.bl (!b)))
    rcases eq_core sim rx ry e with ⟨h1, h2⟩ | ⟨d, e', h1, h2, h3, h4, h5⟩
    · exact .inl ⟨h1, by rw [h2]; exact q⟩
    · exact .inr ⟨d, e', h1, h2, h3, h4, by rw [h5]; exact q⟩
end

/-! ### numbers, texts, lists, tuples: + - * // % ** << -/
def gAdd : G2 := fun x y st => match x, y with
  | .p (.int i), .p (.int j) => some (.p (.int (i + j)))
  | .p (.str a), .p (.str b) => if a.length + b.length ≤ 100000 then some (.p (.str (a ++ b))) else none
  | x, y => match tupOf x, tupOf y with
    | some xs, some ys => if xs.length + ys.length ≤ 100000 then some (if xs.isEmpty then y else if ys.isEmpty then x else mkT (xs ++ ys)) else none
    | _, _ => match lstOf x st, lstOf y st with
      | some xs, some ys => if xs.length + ys.length ≤ 100000 then some (mkL (xs ++ ys)) else none
      | _, _ => none
def rAddStr : R2 := fun x y H Q => ∃ i j : Str, x = .str i ∧ y = .str j ∧ i.length + j.length ≤ sizeLine ∧ Q (.str (i ++ j)) H
def rAddI : R2 := rI0 fun i j => .int (i + j)
def rAddA (K : PySem.W.Frag) : R2 := fun x y H Q => rAddI x y H Q ∨ rAddStr x y H Q ∨ rCatX K x y H Q ∨ rCat x y H Q
theorem le_line {n : Nat} (h : n ≤ 100000) : n ≤ sizeLine := Nat.le_trans h (by decide)
section
variable {X : Cx}
theorem op_addA : OpR X (binaryOp .Add) (rAddA X.K) := OpR.or (r := rAddI) op_add (OpR.or (r := rAddStr) op_add_str (OpR.or op_catX op_cat))
theorem im_add : Im2 X (rAddA X.K) gAdd := fun st w H x y vx vy Q d sim rx ry h l => by
  unfold gAdd at h
  split at h
  · cases h
    cases rx with | p qx => cases qx; cases ry with | p qy => cases qy; exact .inl ⟨_, _, rfl, rfl, l w H _ .refl sim (.p (.int _))⟩
  · split at h
    · rename_i hl
      cases h
      cases rx with | p qx => cases qx; cases ry with | p qy => cases qy; exact .inr (.inl ⟨_, _, rfl, rfl, le_line hl, l w H _ .refl sim (.p (.str _))⟩)
    · cases h
  · split at h
    · rename_i xs ys ex ey
      split at h
      · rename_i hl
        cases h
        obtain ⟨a, vs, rfl, r1, t1⟩ := tup_rd rx ex
        obtain ⟨b, us, rfl, r2, t2⟩ := tup_rd ry ey
        refine .inr (.inr (.inl ⟨a, b, vs, us, rfl, rfl, t1.sq, t2.sq, by rw [← r1.length, ← r2.length]; exact le_line hl, fun e => ?_, fun e1 e2 => ?_, fun e1 e2 p o hp ho => ?_⟩))
        · subst e
          cases r1
          exact l w H _ .refl sim ry
        · subst e2
          cases r2
          cases r1 with
          | nil => exact absurd rfl e1
          | cons h1 h2 => exact l w H _ .refl sim rx
        · obtain ⟨s2, sim2⟩ := sim.newP (o := .frz o (.tup (vs ++ us))) hp
          cases r1 with
          | nil => exact absurd rfl e1
          | cons h1 h2 =>
            cases r2 with
            | nil => exact absurd rfl e2
            | cons h3 h4 => exact l _ _ _ s2 sim2 (rd_mkT (.inl ⟨.inl rfl, o, ho, upd_same⟩) (((RDs.cons h1 h2).append (.cons h3 h4)).mono s2))
      · cases h
    · split at h
      · rename_i xs ys ex ey
        split at h
        · rename_i hl
          cases h
          obtain ⟨a, vs, rfl, r1, t1⟩ := lst_rd sim rx ex
          obtain ⟨b, us, rfl, r2, t2⟩ := lst_rd sim ry ey
          refine .inr (.inr (.inr ⟨a, b, vs, us, rfl, rfl, t1, t2, by rw [← r1.length, ← r2.length]; exact le_line hl, fun p hp => ?_⟩))
          obtain ⟨s2, sim2⟩ := sim.newP (o := .lst (vs ++ us)) hp
          exact l _ _ _ s2 sim2 (rd_mkL ⟨.inl rfl, upd_same⟩ ((r1.append r2).mono s2))
        · cases h
      · cases h
end
def gI (C : Int → Int → Bool) (f : Int → Int → PyData) : G2 := fun x y _ => match x, y with
  | .p (.int i), .p (.int j) => if C i j then some (.p (f i j)) else none
  | _, _ => none
def gI0 (f : Int → Int → PyData) : G2 := fun x y _ => match x, y with
  | .p (.int i), .p (.int j) => some (.p (f i j))
  | _, _ => none
section
variable {X : Cx}
theorem im_I {C : Int → Int → Prop} {c : Int → Int → Bool} {g : Int → Int → V} {f : Int → Int → PyData} (hc : ∀ i j, c i j = true → C i j) (hf : ∀ i j I H, RP X.K I H (f i j) (g i j)) : Im2 X (rI C g) (gI c f) := fun st w H x y vx vy Q d sim rx ry h l => by
  unfold gI at h
  split at h
  · rename_i i j
    split at h
    · rename_i e
      cases h
      cases rx with | p qx => cases qx; cases ry with | p qy => cases qy; exact ⟨i, j, rfl, rfl, hc i j e, l w H _ .refl sim (.p (hf i j _ _))⟩
    · cases h
  · cases h
theorem im_I0 {g : Int → Int → V} {f : Int → Int → PyData} (hf : ∀ i j I H, RP X.K I H (f i j) (g i j)) : Im2 X (rI0 g) (gI0 f) := fun st w H x y vx vy Q d sim rx ry h l => by
  unfold gI0 at h
  split at h
  · rename_i i j
    cases h
    cases rx with | p qx => cases qx; cases ry with | p qy => cases qy; exact ⟨i, j, rfl, rfl, l w H _ .refl sim (.p (hf i j _ _))⟩
  · cases h
abbrev gSub : G2 := gI0 fun i j => .int (i - j)
abbrev gLt : G2 := gI0 fun i j => .bool (decide (i < j))
abbrev gLe : G2 := gI0 fun i j => .bool (decide (i ≤ j))
abbrev gGt : G2 := gI0 fun i j => .bool (decide (j < i))
abbrev gGe : G2 := gI0 fun i j => .bool (decide (j ≤ i))
theorem im_sub : Im2 X (rI0 fun i j => .int (i - j)) gSub := im_I0 fun _ _ _ _ => .int _
theorem im_lt : Im2 X (rI0 fun i j => .bl (decide (i < j))) gLt := im_I0 fun _ _ _ _ => .bl _
theorem im_le : Im2 X (rI0 fun i j => .bl (decide (i ≤ j))) gLe := im_I0 fun _ _ _ _ => .bl _
theorem im_gt : Im2 X (rI0 fun i j => .bl (decide (j < i))) gGt := im_I0 fun _ _ _ _ => .bl _
theorem im_ge : Im2 X (rI0 fun i j => .bl (decide (j ≤ i))) gGe := im_I0 fun _ _ _ _ => .bl _
abbrev gMod : G2 := gI (fun _ j => decide (0 < j)) fun i j => .int (i % j)
theorem im_mod : Im2 X (rI (fun _ j => 0 < j) fun i j => .int (i % j)) gMod := im_I (fun _ _ h => of_decide_eq_true h) fun _ _ _ _ => .int _
/-- // by a positive divisor -/
abbrev gDiv : G2 := gI (fun _ j => decide (0 < j) && decide (j < 2 ^ 8000)) fun i j => .int (i / j)
theorem im_div : Im2 X (rI CDivW fun i j => .int (i / j)) gDiv := im_I (fun i j h => by
  rw [Bool.and_eq_true] at h
  have h1 := of_decide_eq_true h.1
  have h2 := of_decide_eq_true h.2
  exact wide_div (b := 8000) h1 (by omega) (by decide) (by decide)) fun _ _ _ _ => .int _
abbrev gPow : G2 := gI (fun i j => decide (0 ≤ j) && decide (j ≤ 1000000) && decide (i.natAbs < 2 ^ 64)) fun i j => .int (i ^ j.toNat)
theorem im_pow : Im2 X (rI CPow fun i j => .int (i ^ j.toNat)) gPow := im_I (fun i j h => by
  rw [Bool.and_eq_true, Bool.and_eq_true] at h
  exact ⟨of_decide_eq_true h.1.1, of_decide_eq_true h.1.2, of_decide_eq_true h.2⟩) fun _ _ _ _ => .int _
abbrev gShl : G2 := gI (fun i j => decide (0 ≤ j) && decide (j ≤ 1000000) && decide (i.natAbs < 2 ^ 64)) fun i j => .int (i * 2 ^ j.toNat)
theorem im_shl : Im2 X (rI CPow fun i j => .int (i * 2 ^ j.toNat)) gShl := im_I (fun i j h => by
  rw [Bool.and_eq_true, Bool.and_eq_true] at h
  exact ⟨of_decide_eq_true h.1.1, of_decide_eq_true h.1.2, of_decide_eq_true h.2⟩) fun _ _ _ _ => .int _
/-- << of a number below 2 ^ 1000 -/
def gMul : G2 := fun x y st => match x, y with
  | .p (.int i), .p (.int j) => if decide (i.natAbs < 2 ^ 64) || decide (j.natAbs < 2 ^ 64) then some (.p (.int (i * j)))
      else if decide (i.natAbs < 2 ^ 4000) && decide (j.natAbs < 2 ^ 4000) then some (.p (.int (i * j))) else none
  | .p (.str a), .p (.int k) => if decide (0 ≤ k) && decide (k < 10000) && decide (a.length < 1000) then some (.p (.str ⟨(List.replicate k.toNat a.cps.toList).flatten.toArray⟩)) else none
  | x, .p (.int k) => match tupOf x with
    | some xs => if decide (2 ≤ k) && decide (k ≤ 1000) && decide (xs.length ≤ 1000) && !xs.isEmpty then some (mkT (List.replicate k.toNat xs).flatten) else none
    | none => match lstOf x st with
      | some xs => if decide (0 ≤ k) && decide (k < 2 ^ 62) && decide (xs.length * k.toNat ≤ 100000) then some (mkL (List.replicate k.toNat xs).flatten) else none
      | none => none
  | _, _ => none
end
end FB
set_option Elab.async false
set_option linter.all false
set_option maxRecDepth 100000
set_option maxHeartbeats 4000000
/-! FB4: what is walked; subscripts, slices, membership, built-ins. -/
namespace FB
open PySem PySem.Spec PyProof.Rows L2 RZ

/-! ### what a loop walks -/
def optR {α : Type} (st : So) : Option α → Rs α
  | some a => .ok a st
  | none => .stuck
/-- a value that is walked: a list, a tuple, a text -/
def itemsOf (d : Dv) (st : So) : Option (List Dv) := match d with
  | .p (.str x) => some (x.cps.toList.map fun c => .p (.str ⟨#[c]⟩))
  | .ref _ => none
  | d => seqOf d st
def fIter (fa : FE) : FA := fun ρ st => (fa ρ st).bind fun d st1 => optR st1 (itemsOf d st1)
/-- a seq that stands: not a cell -/
theorem stays_rd {K : PySem.W.Frag} {mg : Str → Option Value} {st : So} {w : Wd} {H : Hp} {d : Dv} {v : V} {xs : List Dv} (s : Sim K mg w st H) (r : RD K mg st.length w H d v) (hn : ∀ i, d ≠ .ref i) (h : seqOf d st = some xs) :
    ∃ a vs, v = .ref a ∧ RDs K mg st.length w H xs vs ∧ ((∀ n' w' H', Stp st.length w H n' w' H' → SqL K H' a vs) ∨ (∀ n' w' H', Stp st.length w H n' w' H' → SqT K H' a vs)) := by
  unfold seqOf at h
  split at h
  · cases h
    cases r with
    | frz e => exact ⟨_, _, rfl, frz_rds, .inl fun _ _ _ g => (e.mono g.gro).sq⟩
  · split at h
    · rename_i ys e
      cases h
      obtain ⟨a, vs, h1, h2, h3⟩ := tup_rd r e
      exact ⟨a, vs, h1, h2, .inr fun _ _ _ g => (h3.mono g.gro).sq⟩
    · unfold lstOf at h
      split at h
      · cases h
        cases r with
        | p q => cases q with
          | lst hs hr => exact ⟨_, _, rfl, RDs.ofP hr, .inl fun _ _ _ g => (hs.mono g.gro).sq⟩
      · cases h
        cases r with
        | lstD hs hr => exact ⟨_, _, rfl, hr, .inl fun _ _ _ g => (hs.mono g.gro).sq⟩
      · exact absurd rfl (hn _)
      · cases h
section
variable {X : Cx} {W : WX} {tg : Expr}
def iSeq (K : PySem.W.Frag) (te : TE) : TI := fun σ H R => te σ H fun x H1 => (∃ a, x = .ref a ∧ (∃ xs, SqL K H1 a xs) ∧ R (Itl K a) H1) ∨ (∃ a, x = .ref a ∧ (∃ xs, SqT K H1 a xs) ∧ R (Itt K a) H1) ∨ ∃ z, x = .str z ∧ R (Its z) H1
theorem pi_seq {e : Expr} {te : TE} (he : PE X e te) : PI X tg e (iSeq X.K te) := by
  refine ⟨fun pins s σ H R I h => ?_⟩
  refine thn (he.run pins s σ H _ I h) fun v s1 ⟨x, H1, I1, r1, q1⟩ => ?_
  rcases q1 with ⟨a, ex, ⟨xs, hq⟩, q⟩ | ⟨a, ex, ⟨xs, hq⟩, q⟩ | ⟨z, ex, q⟩
  · subst ex
    cases r1
    obtain ⟨its, rv, p, hz⟩ := I1.list hq
    exact wpAny_pyIter_list p.isList (pi_one (tk := s1.toks) I1 _ (turn_list a _) ⟨_, Heap.get?_push_size _ rfl, rfl, rfl⟩ q)
  · subst ex
    cases r1
    obtain ⟨its, rv, p, hz⟩ := I1.tuple hq
    exact wpAny_pyIter_tuple (show s1.heap.IsTuple a its.toArray from p) (pi_one (tk := s1.toks) I1 _ (turn_tuple a _) ⟨_, Heap.get?_push_size _ rfl, rfl, rfl⟩ q)
  · subst ex
    obtain ⟨t, rfl⟩ := r1
    cases ha : z.cps.all (· < 128)
    · exact wpAny_pyIter_wide ha (pi_one (tk := s1.toks) I1 _ (turn_str _ z t "str_iterator" (.inr rfl)) ⟨_, Heap.get?_push_size _ rfl, rfl, rfl⟩ q)
    · exact wpAny_pyIter_ascii ha (pi_one (tk := s1.toks) I1 _ (turn_str _ z t "str_ascii_iterator" (.inl rfl)) ⟨_, Heap.get?_push_size _ rfl, rfl, rfl⟩ q)
variable {K : PySem.W.Frag} {mg : Str → Option Value} {n : Nat} {w : Wd} {H : Hp} {st : So} {items : List Dv}
theorem it_list {a : Addr} {vs : List V} (r : RDs K mg n w H items vs) (h : ∀ n' w' H', Stp n w H n' w' H' → SqL K H' a vs) : ItOk K mg n w H items (Itl K a) where
  stop := fun n' w' H' g => ⟨vs, h _ _ _ g, by rw [r.length]; exact Nat.le_refl _⟩
  go := fun k d w' H' st' e g sim => by
    obtain ⟨v, e1, r1⟩ := r.get e
    refine ⟨⟨vs, v, h _ _ _ g, e1⟩, fun x H'' y => ?_⟩
    obtain ⟨rfl, y⟩ := y
    have e2 := y vs (h _ _ _ g)
    rw [e1] at e2
    cases e2
    exact ⟨w', .refl, sim, r1.mono g⟩
theorem it_tup {a : Addr} {vs : List V} (r : RDs K mg n w H items vs) (h : ∀ n' w' H', Stp n w H n' w' H' → SqT K H' a vs) : ItOk K mg n w H items (Itt K a) where
  stop := fun n' w' H' g => ⟨vs, h _ _ _ g, by rw [r.length]; exact Nat.le_refl _⟩
  go := fun k d w' H' st' e g sim => by
    obtain ⟨v, e1, r1⟩ := r.get e
    refine ⟨⟨vs, v, h _ _ _ g, e1⟩, fun x H'' y => ?_⟩
    obtain ⟨rfl, y⟩ := y
    have e2 := y vs (h _ _ _ g)
    rw [e1] at e2
    cases e2
    exact ⟨w', .refl, sim, r1.mono g⟩
theorem it_str {z : Str} : ItOk K mg n w H (z.cps.toList.map fun c => Dv.p (.str ⟨#[c]⟩)) (Its z) where
  stop := fun n' w' H' g => by
    show z.cps.size ≤ _
    rw [List.length_map, Array.length_toList]
    exact Nat.le_refl _
  go := fun k d w' H' st' e g sim => by
    rw [List.getElem?_map] at e
    cases e1 : z.cps.toList[k]? with
    | none => rw [e1] at e; cases e
    | some c =>
      rw [e1] at e
      cases e
      rw [Array.getElem?_toList] at e1
      refine ⟨(Array.getElem?_eq_some_iff.mp e1).1, fun x H'' y => ?_⟩
      obtain ⟨rfl, c', e2, rfl⟩ := y
      rw [e1] at e2
      cases e2
      exact ⟨w', .refl, sim, .p (.str _)⟩
def rngL (lo : Int) (n : Nat) : List Dv := (List.range n).map fun (k : Nat) => .p (.int (lo + k))
theorem it_rng {lo : Int} {m : Nat} : ItOk K mg n w H (rngL lo m) (Itr lo m) where
  stop := fun n' w' H' g => by
    show m ≤ _
    rw [rngL, List.length_map, List.length_range]
    exact Nat.le_refl _
  go := fun k d w' H' st' e g sim => by
    rw [rngL, List.getElem?_map] at e
    cases e1 : (List.range m)[k]? with
    | none => rw [e1] at e; cases e
    | some c =>
      rw [e1] at e
      cases e
      obtain ⟨h1, h2⟩ := List.getElem?_eq_some_iff.mp e1
      rw [List.getElem_range] at h2
      subst h2
      rw [List.length_range] at h1
      refine ⟨h1, fun x H'' y => ?_⟩
      obtain ⟨rfl, rfl⟩ := y
      exact ⟨w', .refl, sim, .p (.int _)⟩
def rngLC (lo c : Int) (n : Nat) : List Dv := (List.range n).map fun (k : Nat) => .p (.int (lo + k * c))
theorem it_rngC {lo c : Int} {m : Nat} : ItOk K mg n w H (rngLC lo c m) (Itc lo c m) where
  stop := fun n' w' H' g => by
    show m ≤ _
    rw [rngLC, List.length_map, List.length_range]
    exact Nat.le_refl _
  go := fun k d w' H' st' e g sim => by
    rw [rngLC, List.getElem?_map] at e
    cases e1 : (List.range m)[k]? with
    | none => rw [e1] at e; cases e
    | some c =>
      rw [e1] at e
      cases e
      obtain ⟨h1, h2⟩ := List.getElem?_eq_some_iff.mp e1
      rw [List.getElem_range] at h2
      subst h2
      rw [List.length_range] at h1
      refine ⟨h1, fun x H'' y => ?_⟩
      obtain ⟨rfl, rfl⟩ := y
      exact ⟨w', .refl, sim, .p (.int _)⟩
/-- pairs that are made on the way -/
def pairL (xs ys : List Dv) : List Dv := (xs.zip ys).map fun p => .tupD [p.1, p.2]
theorem pair_turn {w' : Wd} {H' : Hp} {st' : So} {T : Addr} {x y : Dv} {vx vy : V} (sim : Sim K mg w' st' H') (hT : H' T = none) (rx : RD K mg st'.length w' H' x vx) (ry : RD K mg st'.length w' H' y vy) :
    ∃ w'', Stp st'.length w' H' st'.length w'' (upd H' T (.tup [vx, vy])) ∧ Sim K mg w'' st' (upd H' T (.tup [vx, vy])) ∧ RD K mg st'.length w'' (upd H' T (.tup [vx, vy])) (.tupD [x, y]) (.ref T) := by
  obtain ⟨s2, sim2⟩ := sim.newP (o := .tup [vx, vy]) hT
  exact ⟨_, s2, sim2, .tupD (.inl ⟨.inl rfl, upd_same⟩) (.cons (rx.mono s2) (.cons (ry.mono s2) .nil))⟩
theorem zip_get {xs ys : List Dv} {k : Nat} {d : Dv} (e : (pairL xs ys)[k]? = some d) : ∃ x y, xs[k]? = some x ∧ ys[k]? = some y ∧ d = .tupD [x, y] := by
  unfold pairL at e
  rw [List.getElem?_map] at e
  cases e1 : (xs.zip ys)[k]? with
  | none => rw [e1] at e; cases e
  | some p =>
    rw [e1] at e
    cases e
    rw [List.getElem?_zip_eq_some] at e1
    exact ⟨p.1, p.2, e1.1, e1.2, rfl⟩
theorem it_enum {a : Addr} {vs : List V} (r : RDs K mg n w H items vs) (h : ∀ n' w' H', Stp n w H n' w' H' → SqL K H' a vs) : ItOk K mg n w H (pairL (rngL 0 items.length) items) (Ite K a) where
  stop := fun n' w' H' g => ⟨vs, h _ _ _ g, by
    rw [pairL, List.length_map, List.length_zip, rngL, List.length_map, List.length_range, r.length]
    omega⟩
  go := fun k d w' H' st' e g sim => by
    obtain ⟨x, y, ex, ey, rfl⟩ := zip_get e
    obtain ⟨v, e1, r1⟩ := r.get ey
    refine ⟨⟨vs, v, h _ _ _ g, e1⟩, fun z H'' y' => ?_⟩
    obtain ⟨T, u, rfl, hT, rfl, hu⟩ := y'
    have e2 := hu vs (h _ _ _ g)
    rw [e1] at e2
    cases e2
    rw [rngL, List.getElem?_map] at ex
    cases e3 : (List.range items.length)[k]? with
    | none => rw [e3] at ex; cases ex
    | some c =>
      rw [e3] at ex
      cases ex
      obtain ⟨h1, h2⟩ := List.getElem?_eq_some_iff.mp e3
      rw [List.getElem_range] at h2
      subst h2
      refine pair_turn sim hT (.p ?_) (r1.mono g)
      rw [Int.zero_add]
      exact .int _
theorem it_zip {a b : Addr} {xs ys : List Dv} {vs us : List V} (r : RDs K mg n w H xs vs) (r' : RDs K mg n w H ys us) (h : ∀ n' w' H', Stp n w H n' w' H' → SqL K H' a vs) (h' : ∀ n' w' H', Stp n w H n' w' H' → SqL K H' b us) :
    ItOk K mg n w H (pairL xs ys) (Itz K a b) where
  stop := fun n' w' H' g => ⟨vs, us, h _ _ _ g, h' _ _ _ g, by
    rw [pairL, List.length_map, List.length_zip, ← r.length, ← r'.length]
    omega⟩
  go := fun k d w' H' st' e g sim => by
    obtain ⟨x, y, ex, ey, rfl⟩ := zip_get e
    obtain ⟨v, e1, r1⟩ := r.get ex
    obtain ⟨u, e2, r2⟩ := r'.get ey
    refine ⟨⟨vs, us, v, u, h _ _ _ g, h' _ _ _ g, e1, e2⟩, fun z H'' y' => ?_⟩
    obtain ⟨T, p, q, rfl, hT, rfl, hp, hq⟩ := y'
    have e3 := hp vs (h _ _ _ g)
    have e4 := hq us (h' _ _ _ g)
    rw [e1] at e3
    rw [e2] at e4
    cases e3
    cases e4
    exact pair_turn sim hT (r1.mono g) (r2.mono g)
theorem it_zipT {a b : Addr} {xs ys : List Dv} {vs us : List V} (r : RDs K mg n w H xs vs) (r' : RDs K mg n w H ys us) (h : ∀ n' w' H', Stp n w H n' w' H' → SqT K H' a vs) (h' : ∀ n' w' H', Stp n w H n' w' H' → SqT K H' b us) :
    ItOk K mg n w H (pairL xs ys) (ItzT K a b) where
  stop := fun n' w' H' g => ⟨vs, us, h _ _ _ g, h' _ _ _ g, by
    rw [pairL, List.length_map, List.length_zip, ← r.length, ← r'.length]
    omega⟩
  go := fun k d w' H' st' e g sim => by
    obtain ⟨x, y, ex, ey, rfl⟩ := zip_get e
    obtain ⟨v, e1, r1⟩ := r.get ex
    obtain ⟨u, e2, r2⟩ := r'.get ey
    refine ⟨⟨vs, us, v, u, h _ _ _ g, h' _ _ _ g, e1, e2⟩, fun z H'' y' => ?_⟩
    obtain ⟨T, p, q, rfl, hT, rfl, hp, hq⟩ := y'
    have e3 := hp vs (h _ _ _ g)
    have e4 := hq us (h' _ _ _ g)
    rw [e1] at e3
    rw [e2] at e4
    cases e3
    cases e4
    exact pair_turn sim hT (r1.mono g) (r2.mono g)
theorem pfi_seq {e : Expr} {fa : FE} (h : PF X W e fa) : PFI X W tg e (fIter fa) := PI_imp (pi_seq h) fun σ H R q => by
  obtain ⟨ρ, st, w, sim, er, gd⟩ := q
  refine ⟨ρ, st, w, sim, er, Good.imp (fun v H1 q => ?_) (Good.bind gd)⟩
  obtain ⟨st1, w1, d, sim1, s1, r1, gd1⟩ := q
  have key : ∀ xs, itemsOf d st1 = some xs → ∀ J, ItOk X.K X.mg st1.length w1 H1 xs J → R J H1 := fun xs e J it => by
    rw [e] at gd1
    exact gd1 w1 H1 J .refl sim1 it
  cases e : itemsOf d st1 with
  | none => rw [e] at gd1; exact gd1.elim
  | some xs =>
    have e' := e
    unfold itemsOf at e'
    split at e'
    · cases e'
      cases r1 with
      | p q =>
        cases q
        exact .inr (.inr ⟨_, rfl, key _ e _ it_str⟩)
    · cases e'
    · rename_i hn1 hn2
      obtain ⟨a, vs, rfl, rv, hs | hs⟩ := stays_rd sim1 r1 (fun i hi => hn2 i hi) e'
      · exact .inl ⟨a, rfl, ⟨vs, hs _ _ _ .refl⟩, key _ e _ (it_list rv hs)⟩
      · exact .inr (.inl ⟨a, rfl, ⟨vs, hs _ _ _ .refl⟩, key _ e _ (it_tup rv hs)⟩)
/-- range(n), range(a, b), range(a, b, -1) -/
def okR (i : Int) : Bool := decide (-(2 ^ 40) ≤ i) && decide (i < 2 ^ 40)
theorem okR_ok {i : Int} (h : okR i = true) : -(2 ^ 62) ≤ i ∧ i < 2 ^ 62 := by
  unfold okR at h
  rw [Bool.and_eq_true] at h
  have h1 := of_decide_eq_true h.1
  have h2 := of_decide_eq_true h.2
  omega
def rng1 (xs : List Dv) : Option (List Dv) := match xs with
  | [.p (.int j)] => if okR j then some (rngL 0 j.toNat) else none
  | _ => none
def rng2 (xs : List Dv) : Option (List Dv) := match xs with
  | [.p (.int i), .p (.int j)] => if okR i && okR j then some (rngL i (j - i).toNat) else none
  | _ => none
def rng3 (xs : List Dv) : Option (List Dv) := match xs with
  | [.p (.int i), .p (.int j), .p (.int c)] => if okR i && okR j && decide (c = -1) then some (rngLC i (-1) (i - j).toNat) else none
  | _ => none
def fRng (g : List Dv → Option (List Dv)) (fr : FA) : FA := fun ρ st => (fr ρ st).bind fun xs st1 => optR st1 (g xs)
theorem rds1 {x : Dv} {vs : List V} (r : RDs K mg n w H [x] vs) : ∃ v, vs = [v] ∧ RD K mg n w H x v := by
  cases r with | cons h t => cases t; exact ⟨_, rfl, h⟩
theorem rds2 {x y : Dv} {vs : List V} (r : RDs K mg n w H [x, y] vs) : ∃ v u, vs = [v, u] ∧ RD K mg n w H x v ∧ RD K mg n w H y u := by
  cases r with | cons h t => cases t with | cons h2 t => cases t; exact ⟨_, _, rfl, h, h2⟩
theorem rd_int {i : Int} {v : V} (r : RD K mg n w H (.p (.int i)) v) : v = .int i := by
  cases r with | p q => cases q; rfl
theorem rd_str {i : Str} {v : V} (r : RD K mg n w H (.p (.str i)) v) : v = .str i := by
  cases r with | p q => cases q; rfl
theorem rd_bl {i : Bool} {v : V} (r : RD K mg n w H (.p (.bool i)) v) : v = .bl i := by
  cases r with | p q => cases q; rfl
theorem rd_non {v : V} (r : RD K mg n w H (.p .none) v) : v = .non := by
  cases r with | p q => cases q; rfl
variable {a b c : Expr} {fr : FA} {p pos : Pos}
theorem pfi_rng1 (hm : X.mg "range" = none) (h : PFA X W [a] fr) (hg : Gl X "range" := by rfl) (hs : starEach [a] X.env = [(false, eval a X.env)] := by rfl) : PFI X W tg (.Call (.Name "range" p) [a] [] pos) (fRng rng1 fr) := PI_imp (pi_range1 hg hm h hs) fun σ H R q => by
  obtain ⟨ρ, st, w, sim, er, gd⟩ := q
  refine ⟨ρ, st, w, sim, er, Good.imp (fun v H1 q => ?_) (Good.bind gd)⟩
  obtain ⟨st1, w1, d, sim1, s1, r1, gd1⟩ := q
  unfold rng1 at gd1
  split at gd1
  · rename_i j
    split at gd1
    · rename_i hj
      obtain ⟨v, rfl, rv⟩ := rds1 r1
      obtain rfl := rd_int rv
      obtain ⟨h1, h2⟩ := okR_ok hj
      exact ⟨j, rfl, h1, h2, gd1 w1 H1 _ .refl sim1 it_rng⟩
    · exact gd1.elim
  · exact gd1.elim
theorem pfi_rng2 (hm : X.mg "range" = none) (h : PFA X W [a, b] fr) (hg : Gl X "range" := by rfl) (hs : starEach [a, b] X.env = [(false, eval a X.env), (false, eval b X.env)] := by rfl) (hs2 : starEach [b] X.env = [(false, eval b X.env)] := by rfl) :
    PFI X W tg (.Call (.Name "range" p) [a, b] [] pos) (fRng rng2 fr) := PI_imp (pi_range2 hg hm h hs hs2) fun σ H R q => by
  obtain ⟨ρ, st, w, sim, er, gd⟩ := q
  refine ⟨ρ, st, w, sim, er, Good.imp (fun v H1 q => ?_) (Good.bind gd)⟩
  obtain ⟨st1, w1, d, sim1, s1, r1, gd1⟩ := q
  unfold rng2 at gd1
  split at gd1
  · rename_i i j
    split at gd1
    · rename_i hj
      rw [Bool.and_eq_true] at hj
      obtain ⟨v, u, rfl, rv, ru⟩ := rds2 r1
      obtain rfl := rd_int rv
      obtain rfl := rd_int ru
      obtain ⟨h1, h2⟩ := okR_ok hj.1
      obtain ⟨h3, h4⟩ := okR_ok hj.2
      exact ⟨i, j, rfl, ⟨h1, h2, h3, h4⟩, gd1 w1 H1 _ .refl sim1 it_rng⟩
    · exact gd1.elim
  · exact gd1.elim
theorem pfi_rng3 (hm : X.mg "range" = none) (h : PFA X W [a, b, c] fr) (hg : Gl X "range" := by rfl) (hs : starEach [a, b, c] X.env = (false, eval a X.env) :: starEach [b, c] X.env := by rfl) (hpl : (backTo pos (starEach [b, c] X.env)).any (·.1) = false := by rfl) :
    PFI X W tg (.Call (.Name "range" p) [a, b, c] [] pos) (fRng rng3 fr) := PI_imp (pi_range3 hg hm h hs hpl) fun σ H R q => by
  obtain ⟨ρ, st, w, sim, er, gd⟩ := q
  refine ⟨ρ, st, w, sim, er, Good.imp (fun v H1 q => ?_) (Good.bind gd)⟩
  obtain ⟨st1, w1, d, sim1, s1, r1, gd1⟩ := q
  unfold rng3 at gd1
  split at gd1
  · rename_i i j c
    split at gd1
    · rename_i hj
      rw [Bool.and_eq_true, Bool.and_eq_true] at hj
      cases r1 with | cons ra t => cases t with | cons rb t => cases t with | cons rc t => 
      cases t
      obtain rfl := rd_int ra
      obtain rfl := rd_int rb
      obtain rfl := rd_int rc
      obtain rfl : c = -1 := of_decide_eq_true hj.2
      obtain ⟨h1, h2⟩ := okR_ok hj.1.1
      obtain ⟨h3, h4⟩ := okR_ok hj.1.2
      exact ⟨i, j, -1, _, rfl, RgC.neg h1 h2 h3 h4, gd1 w1 H1 _ .refl sim1 it_rngC⟩
    · exact gd1.elim
  · exact gd1.elim
/-- enumerate(a list that stands) -/
def isRef : Dv → Bool
  | .ref _ => true
  | _ => false
theorem notRef {d : Dv} (h : ¬ isRef d = true) : ∀ i, d ≠ .ref i := fun i e => by
  subst e
  exact h rfl
def enumOf (xs : List Dv) (st : So) : Option (List Dv) := match xs with
  | [d] => if isRef d then none else match tupOf d with
    | some _ => none
    | none => (seqOf d st).map fun ys => pairL (rngL 0 ys.length) ys
  | _ => none
def zipOf (xs : List Dv) (st : So) : Option (List Dv) := match xs with
  | [d, e] => if isRef d || isRef e then none else match tupOf d, tupOf e with
    | some ys, some zs => some (pairL ys zs)
    | none, none => match seqOf d st, seqOf e st with
      | some ys, some zs => some (pairL ys zs)
      | _, _ => none
    | _, _ => none
  | _ => none
def fSt (g : List Dv → So → Option (List Dv)) (fr : FA) : FA := fun ρ st => (fr ρ st).bind fun xs st1 => optR st1 (g xs st1)
theorem lst_stays {st : So} {d : Dv} {v : V} {xs : List Dv} (r : RD K mg st.length w H d v) (hn : ∀ i, d ≠ .ref i) (ht : tupOf d = none) (h : seqOf d st = some xs) :
    ∃ a vs, v = .ref a ∧ RDs K mg st.length w H xs vs ∧ ∀ n' w' H', Stp st.length w H n' w' H' → SqL K H' a vs := by
  unfold seqOf at h
  split at h
  · cases h
    cases r with
    | frz e => exact ⟨_, _, rfl, frz_rds, fun _ _ _ g => (e.mono g.gro).sq⟩
  · rw [ht] at h
    unfold lstOf at h
    dsimp only at h
    split at h
    · cases h
      cases r with
      | p q => cases q with
        | lst hs hr => exact ⟨_, _, rfl, RDs.ofP hr, fun _ _ _ g => (hs.mono g.gro).sq⟩
    · cases h
      cases r with
      | lstD hs hr => exact ⟨_, _, rfl, hr, fun _ _ _ g => (hs.mono g.gro).sq⟩
    · exact absurd rfl (hn _)
    · cases h
variable {elts : List Expr} {kk : _} {tpos : Pos}
theorem pfi_enum (hm : X.mg "enumerate" = none) (h : PFA X W [a] fr) (hg : Gl X "enumerate" := by rfl) (hs : starEach [a] X.env = [(false, eval a X.env)] := by rfl) : PFI X W (.Tuple elts kk tpos) (.Call (.Name "enumerate" p) [a] [] pos) (fSt enumOf fr) := PI_imp (pi_enum hg hm h hs) fun σ H R q => by
  obtain ⟨ρ, st, w, sim, er, gd⟩ := q
  refine ⟨ρ, st, w, sim, er, Good.imp (fun v H1 q => ?_) (Good.bind gd)⟩
  obtain ⟨st1, w1, d, sim1, s1, r1, gd1⟩ := q
  unfold enumOf at gd1
  split at gd1
  · rename_i d
    split at gd1
    · exact gd1.elim
    rename_i hn
    split at gd1
    · exact gd1.elim
    · rename_i ht
      cases e : seqOf d st1 with
      | none => rw [e] at gd1; exact gd1.elim
      | some ys =>
        rw [e] at gd1
        obtain ⟨v, rfl, rv⟩ := rds1 r1
        obtain ⟨a', vs, rfl, rr, hs⟩ := lst_stays rv (notRef hn) ht e
        exact ⟨a', vs, rfl, hs _ _ _ .refl, gd1 w1 H1 _ .refl sim1 (it_enum rr hs)⟩
  · exact gd1.elim
theorem pfi_zip (hm : X.mg "zip" = none) (h : PFA X W [a, b] fr) (hg : Gl X "zip" := by rfl) (hs : starEach [a, b] X.env = (false, eval a X.env) :: starEach [b] X.env := by rfl) (hpl : (backTo pos (starEach [b] X.env)).any (·.1) = false := by rfl) :
    PFI X W (.Tuple elts kk tpos) (.Call (.Name "zip" p) [a, b] [] pos) (fSt zipOf fr) := PI_imp (pi_zipA hg hm h hs hpl) fun σ H R q => by
  obtain ⟨ρ, st, w, sim, er, gd⟩ := q
  refine ⟨ρ, st, w, sim, er, Good.imp (fun v H1 q => ?_) (Good.bind gd)⟩
  obtain ⟨st1, w1, d, sim1, s1, r1, gd1⟩ := q
  unfold zipOf at gd1
  split at gd1
  · rename_i d e
    obtain ⟨v, u, rfl, rv, ru⟩ := rds2 r1
    split at gd1
    · exact gd1.elim
    rename_i hn
    rw [Bool.or_eq_true, not_or] at hn
    split at gd1
    · rename_i ys zs e1 e2
      obtain ⟨a', vs, rfl, rr, hs⟩ := tup_rd rv e1
      obtain ⟨b', us, rfl, rr', hs'⟩ := tup_rd ru e2
      exact ⟨a', b', vs, us, rfl, .inr ⟨hs.sq, hs'.sq, gd1 w1 H1 _ .refl sim1 (it_zipT rr rr' (fun _ _ _ g => (hs.mono g.gro).sq) fun _ _ _ g => (hs'.mono g.gro).sq)⟩⟩
    · rename_i t1 t2
      cases e1 : seqOf d st1 with
      | none => rw [e1] at gd1; exact gd1.elim
      | some ys =>
        cases e2 : seqOf e st1 with
        | none => rw [e1, e2] at gd1; exact gd1.elim
        | some zs =>
          rw [e1, e2] at gd1
          obtain ⟨a', vs, rfl, rr, hs⟩ := lst_stays rv (notRef hn.1) t1 e1
          obtain ⟨b', us, rfl, rr', hs'⟩ := lst_stays ru (notRef hn.2) t2 e2
          exact ⟨a', b', vs, us, rfl, .inl ⟨hs _ _ _ .refl, hs' _ _ _ .refl, gd1 w1 H1 _ .refl sim1 (it_zip rr rr' hs hs')⟩⟩
    · exact gd1.elim
  · exact gd1.elim

/-! ### subscripts -/
def gIx : G2 := fun x y st => match x, y with
  | .p (.str z), .p (.int i) => if z.length ≤ 100000 then (atI z.cps.toList i).map fun c => .p (.str ⟨#[c]⟩) else none
  | x, .p (.int i) => match seqOf x st with
    | some xs => atI xs i
    | none => none
  | _, _ => none
theorem rds_at {xs : List Dv} {vs : List V} {i : Int} {d : Dv} (r : RDs K mg n w H xs vs) (h : atI xs i = some d) : ∃ v, atI vs i = some v ∧ RD K mg n w H d v := by
  unfold atI at h ⊢
  rw [← r.length]
  cases e : ixN xs.length i with
  | none => rw [e] at h; cases h
  | some j =>
    rw [e] at h
    exact r.get h
theorem im_ix : Im2 X (rIx X.K) gIx := fun st w H x y vx vy Q d sim rx ry h l => by
  unfold gIx at h
  split at h
  · rename_i z i
    split at h
    · rename_i hz
      cases e : atI z.cps.toList i with
      | none => rw [e] at h; cases h
      | some c =>
        rw [e] at h
        cases h
        obtain rfl := rd_str rx
        obtain rfl := rd_int ry
        exact .inr (.inr ⟨z, i, c, rfl, rfl, le_line hz, e, l w H _ .refl sim (.p (.str _))⟩)
    · cases h
  · rename_i i hn
    split at h
    · rename_i xs e
      obtain ⟨a, vs, rfl, r1, hs⟩ := seq_rd sim rx e
      obtain rfl := rd_int ry
      obtain ⟨v, e1, r2⟩ := rds_at r1 h
      rcases hs with hs | hs
      · exact .inl ⟨a, vs, i, v, rfl, rfl, hs, e1, l w H _ .refl sim r2⟩
      · exact .inr (.inl ⟨a, vs, i, v, rfl, rfl, hs, e1, l w H _ .refl sim r2⟩)
    · cases h
  · cases h

/-! ### len, truth, list, tuple -/
def gLen : GA := fun xs st => match xs with
  | [.p (.str z)] => if z.length ≤ 100000 then some (.p (.int z.length)) else none
  | [d] => (seqOf d st).map fun ys => .p (.int ys.length)
  | _ => none
def rLenA (K : PySem.W.Frag) : List V → Hp → VK → Prop := fun xs H Q => (∃ p ys, xs = [.ref p] ∧ (SqL K H p ys ∨ SqT K H p ys) ∧ Q (.int (ys.length : Nat)) H) ∨ ∃ z : Str, xs = [.str z] ∧ z.length ≤ sizeLine ∧ Q (.int (z.length : Nat)) H
theorem call_lenA : CallR X (.builtin "len") (rLenA X.K) := CallR.or call_len_seq call_len_str
theorem im_len : ImA X (rLenA X.K) gLen := fun st w H xs vs Q d sim r h l => by
  unfold gLen at h
  split at h
  · rename_i z
    split at h
    · rename_i hz
      cases h
      obtain ⟨v, rfl, rv⟩ := rds1 r
      obtain rfl := rd_str rv
      exact .inr ⟨z, rfl, le_line hz, l w H _ .refl sim (.p (.int _))⟩
    · cases h
  · rename_i d' hn
    cases e : seqOf d' st with
    | none => rw [e] at h; cases h
    | some ys =>
      rw [e] at h
      cases h
      obtain ⟨v, rfl, rv⟩ := rds1 r
      obtain ⟨a, us, rfl, r1, hs⟩ := seq_rd sim rv e
      refine .inl ⟨a, us, rfl, hs, l w H _ .refl sim ?_⟩
      rw [← r1.length]
      exact .p (.int _)
  · cases h
/-- list(x): a new list -/
def fListOf (fa : FE) : FA := fun ρ st => (fa ρ st).bind fun d st1 => match seqOf d st1 with
  | some ys => if small ys then .ok ys st1 else .stuck
  | none => .stuck
theorem pfl_list {e : Expr} {fa : FE} (hm : X.mg "list" = none) (h : PF X W e fa) (hg : Gl X "list" := by rfl) (he : starEach [e] X.env = (false, eval e X.env) :: starEach [] X.env := by rfl) (hpl : (backTo pos (starEach [] X.env)).any (·.1) = false := by rfl) :
    PFL X W (.Call (.Name "list" p) [e] [] pos) (fListOf fa) := PE_imp (pe_callTy call_list_of hg hm (by decide +kernel) (pa_cons h pa_nil he) (by decide) (by decide) he hpl) fun σ H Q q => by
  obtain ⟨ρ, st, w, sim, er, gd⟩ := q
  refine ⟨ρ, st, w, sim, er, Good.imp (fun v H1 q => ?_) (Good.bind gd)⟩
  obtain ⟨st1, w1, d, sim1, s1, r1, gd1⟩ := q
  cases e : seqOf d st1 with
  | none => rw [e] at gd1; exact gd1.elim
  | some ys =>
    rw [e] at gd1
    by_cases hy : small ys = true
    · simp only [hy, if_true] at gd1
      obtain ⟨a, us, rfl, r2, hs⟩ := seq_rd sim1 r1 e
      refine ⟨a, us, rfl, hs, fun p hp => gd1 w1 H1 us .refl sim1 r2 p hp ?_⟩
      rw [← r2.length]
      exact small_ok hy
    · simp only [hy] at gd1
      exact gd1.elim
/-- tuple(x): a list, a tuple, a text -/
def gTuple : GA := fun xs st => match xs with
  | [.p (.str z)] => if z.length ≤ 100000 then some (mkT (z.cps.toList.map fun c => .p (.str ⟨#[c]⟩))) else none
  | [d] => match tupOf d with
    | some _ => some d
    | none => match lstOf d st with
      | some ys => if small ys then some (mkT ys) else none
      | none => none
  | _ => none
theorem rds_signs (w : Wd) (H : Hp) : ∀ cs : List Nat, RDs K mg n w H (cs.map fun c => Dv.p (.str ⟨#[c]⟩)) (cs.map fun c => V.str ⟨#[c]⟩)
  | [] => .nil
  | c :: cs => .cons (.p (.str _)) (rds_signs w H cs)
theorem im_tuple : ImA X (rTupX X.K) gTuple := fun st w H xs vs Q d sim r h l => by
  unfold gTuple at h
  split at h
  · rename_i z
    split at h
    · rename_i hz
      cases h
      obtain ⟨v, rfl, rv⟩ := rds1 r
      obtain rfl := rd_str rv
      refine .inr ⟨z, rfl, le_line hz, fun p o hp ho => ?_⟩
      obtain ⟨s2, sim2⟩ := sim.newP (o := .frz o (.tup (z.cps.toList.map fun c => V.str ⟨#[c]⟩))) hp
      exact l _ _ _ s2 sim2 (rd_mkT (.inl ⟨.inl rfl, o, ho, upd_same⟩) (rds_signs _ _ _))
    · cases h
  · rename_i d' _
    obtain ⟨v, rfl, rv⟩ := rds1 r
    split at h
    · rename_i ys e
      cases h
      obtain ⟨a, us, rfl, r1, hs⟩ := tup_rd rv e
      exact .inl ⟨a, us, rfl, .inr ⟨hs.sq, l w H _ .refl sim rv⟩⟩
    · split at h
      · rename_i ys e
        split at h
        · cases h
          obtain ⟨a, us, rfl, r1, hs⟩ := lst_rd sim rv e
          refine .inl ⟨a, us, rfl, .inl ⟨.of hs, fun p o hp ho => ?_⟩⟩
          obtain ⟨s2, sim2⟩ := sim.newP (o := .frz o (.tup us)) hp
          exact l _ _ _ s2 sim2 (rd_mkT (.inl ⟨.inl rfl, o, ho, upd_same⟩) (r1.mono s2))
        · cases h
      · cases h
  · cases h
/-- bools of a list -/
def bools : List Dv → Option (List Bool)
  | [] => some []
  | .p (.bool b) :: r => (bools r).map (b :: ·)
  | _ :: _ => none
theorem bools_rd : ∀ {xs : List Dv} {vs : List V} {bs : List Bool}, RDs K mg n w H xs vs → bools xs = some bs → vs = bs.map V.bl
  | [], _, _, r, h => by cases h; cases r; rfl
  | x :: xs, _, bs, r, h => by
    cases r with
    | cons r1 r2 =>
      unfold bools at h
      split at h
      · rename_i e; cases e
      · rename_i b r' e
        cases e
        cases e2 : bools xs with
        | none => rw [e2] at h; cases h
        | some cs =>
          rw [e2] at h
          cases h
          rw [rd_bl r1, bools_rd r2 e2]
          rfl
      · cases h
def gAll : GA := fun xs st => match xs with
  | [d] => match lstOf d st with
    | some ys => (bools ys).map fun bs => .p (.bool (bs.all id))
    | none => none
  | _ => none
def gAny : GA := fun xs st => match xs with
  | [d] => match lstOf d st with
    | some ys => (bools ys).map fun bs => .p (.bool (bs.any id))
    | none => none
  | _ => none
theorem im_all : ImA X (rAll X.K) gAll := fun st w H xs vs Q d sim r h l => by
  unfold gAll at h
  split at h
  · rename_i d'
    obtain ⟨v, rfl, rv⟩ := rds1 r
    split at h
    · rename_i ys e
      cases e2 : bools ys with
      | none => rw [e2] at h; cases h
      | some bs =>
        rw [e2] at h
        cases h
        obtain ⟨a, us, rfl, r1, hs⟩ := lst_rd sim rv e
        obtain rfl := bools_rd r1 e2
        exact ⟨a, bs, rfl, .of hs, l w H _ .refl sim (.p (.bl _))⟩
    · cases h
  · cases h
theorem im_any : ImA X (rAny X.K) gAny := fun st w H xs vs Q d sim r h l => by
  unfold gAny at h
  split at h
  · rename_i d'
    obtain ⟨v, rfl, rv⟩ := rds1 r
    split at h
    · rename_i ys e
      cases e2 : bools ys with
      | none => rw [e2] at h; cases h
      | some bs =>
        rw [e2] at h
        cases h
        obtain ⟨a, us, rfl, r1, hs⟩ := lst_rd sim rv e
        obtain rfl := bools_rd r1 e2
        exact ⟨a, bs, rfl, .of hs, l w H _ .refl sim (.p (.bl _))⟩
    · cases h
  · cases h
def intsD : List Dv → Option (List Int)
  | [] => some []
  | .p (.int b) :: r => (intsD r).map (b :: ·)
  | _ :: _ => none
theorem intsD_rd : ∀ {xs : List Dv} {vs : List V} {bs : List Int}, RDs K mg n w H xs vs → intsD xs = some bs → vs = bs.map V.int
  | [], _, _, r, h => by cases h; cases r; rfl
  | x :: xs, _, bs, r, h => by
    cases r with
    | cons r1 r2 =>
      unfold intsD at h
      split at h
      · rename_i e; cases e
      · rename_i b r' e
        cases e
        cases e2 : intsD xs with
        | none => rw [e2] at h; cases h
        | some cs =>
          rw [e2] at h
          cases h
          rw [rd_int r1, intsD_rd r2 e2]
          rfl
      · cases h
/-- the greatest of a list of intsD -/
def maxL : List Int → Int
  | [] => 0
  | x :: xs => xs.foldl (fun m y => if m < y then y else m) x
theorem maxL_go : ∀ (xs : List Int) (x m : Int), (m = x ∨ m ∈ xs) → (x ≤ m ∧ ∀ y ∈ xs, y ≤ m) → xs.foldl (fun m y => if m < y then y else m) x = m
  | [], x, m, h, hm => by
    rcases h with h | h
    · exact h.symm
    · cases h
  | y :: ys, x, m, h, hm => by
    rw [List.foldl_cons]
    have hy := hm.2 y List.mem_cons_self
    by_cases hxy : x < y
    · rw [if_pos hxy]
      refine maxL_go ys y m ?_ ⟨hy, fun z hz => hm.2 z (List.mem_cons_of_mem _ hz)⟩
      rcases h with h | h
      · exfalso; omega
      · exact List.mem_cons.mp h
    · rw [if_neg hxy]
      refine maxL_go ys x m ?_ ⟨hm.1, fun z hz => hm.2 z (List.mem_cons_of_mem _ hz)⟩
      rcases h with h | h
      · exact .inl h
      · rcases List.mem_cons.mp h with e | e
        · left; omega
        · exact .inr e
theorem maxL_eq {xs : List Int} {m : Int} (h : m ∈ xs) (hm : ∀ y ∈ xs, y ≤ m) : maxL xs = m := by
  cases xs with
  | nil => cases h
  | cons x xs => exact maxL_go xs x m (List.mem_cons.mp h) ⟨hm x List.mem_cons_self, fun y hy => hm y (List.mem_cons_of_mem _ hy)⟩
/-- max(xs); max(i, j); min(i, j) -/
def gMax : GA := fun xs st => match xs with
  | [.p (.int i), .p (.int j)] => some (.p (.int (if j > i then j else i)))
  | [d] => match lstOf d st with
    | some ys => match intsD ys with
      | some (x :: r) => some (.p (.int (maxL (x :: r))))
      | _ => none
    | none => none
  | _ => none
def rMaxA (K : PySem.W.Frag) : List V → Hp → VK → Prop := fun xs H Q => (∃ i j, xs = [.int i, .int j] ∧ Q (.int (if j > i then j else i)) H) ∨ rMax K xs H Q
theorem call_maxA (hc : X.calm = true) : CallR X (.builtin "max") (rMaxA X.K) := CallR.or (call_max2 hc) (cr_max hc)
theorem im_max : ImA X (rMaxA X.K) gMax := fun st w H xs vs Q d sim r h l => by
  unfold gMax at h
  split at h
  · rename_i i j
    cases h
    obtain ⟨v, u, rfl, rv, ru⟩ := rds2 r
    obtain rfl := rd_int rv
    obtain rfl := rd_int ru
    exact .inl ⟨i, j, rfl, l w H _ .refl sim (.p (.int _))⟩
  · rename_i d' hn
    obtain ⟨v, rfl, rv⟩ := rds1 r
    split at h
    · rename_i ys e
      split at h
      · rename_i x t e2
        cases h
        obtain ⟨a, us, rfl, r1, hs⟩ := lst_rd sim rv e
        obtain rfl := intsD_rd r1 e2
        refine .inr ⟨a, x :: t, rfl, .of hs, Nat.zero_lt_succ _, fun m hm hle => ?_⟩
        rw [← maxL_eq hm hle]
        exact l w H _ .refl sim (.p (.int _))
      · cases h
    · cases h
  · cases h
def gMin : GA := fun xs _ => match xs with
  | [.p (.int i), .p (.int j)] => some (.p (.int (if j < i then j else i)))
  | _ => none
theorem im_min : ImA X (fun xs H Q => ∃ i j, xs = [.int i, .int j] ∧ Q (.int (if j < i then j else i)) H) gMin := fun st w H xs vs Q d sim r h l => by
  unfold gMin at h
  split at h
  · rename_i i j
    cases h
    obtain ⟨v, u, rfl, rv, ru⟩ := rds2 r
    obtain rfl := rd_int rv
    obtain rfl := rd_int ru
    exact ⟨i, j, rfl, l w H _ .refl sim (.p (.int _))⟩
  · cases h
/-- int(n), int(flag) -/
def gInt : GA := fun xs _ => match xs with
  | [.p (.int i)] => some (.p (.int i))
  | [.p (.bool b)] => some (.p (.int (if b then 1 else 0)))
  | _ => none
theorem im_int : ImA X (fun xs H Q => (∃ i, xs = [.int i] ∧ Q (.int i) H) ∨ ∃ k, xs = [.bl k] ∧ Q (.int (if k then 1 else 0)) H) gInt := fun st w H xs vs Q d sim r h l => by
  unfold gInt at h
  split at h
  · cases h
    obtain ⟨v, rfl, rv⟩ := rds1 r
    obtain rfl := rd_int rv
    exact .inl ⟨_, rfl, l w H _ .refl sim (.p (.int _))⟩
  · cases h
    obtain ⟨v, rfl, rv⟩ := rds1 r
    obtain rfl := rd_bl rv
    exact .inr ⟨_, rfl, l w H _ .refl sim (.p (.int _))⟩
  · cases h

/-! ### isinstance of a built-in type -/
def tyOf (d : Dv) (st : So) : Option String := match d with
  | .p .none => some "NoneType"
  | .p (.bool _) => some "bool"
  | .p (.int _) => some "int"
  | .p (.str _) => some "str"
  | .p (.list _) => some "list"
  | .p (.tuple _) => some "tuple"
  | .p (.dict _) => some "dict"
  | .tupD _ => some "tuple"
  | .lstD _ => some "list"
  | .frz _ => some "list"
  | .ref i => match st[i]? with
    | some (.lst _) => some "list"
    | some (.dK _) => some "dict"
    | some (.dT _) => some "dict"
    | _ => none
  | .exc _ _ => none
  | .xa _ _ _ => none
def fIsT (T : String) (fa : FE) : FE := fun ρ st => (fa ρ st).bind fun d st1 => match tyOf d st1 with
  | some n => match kitB n T with
    | some b => .ok (.p (.bool b)) st1
    | none => .stuck
  | none => .stuck
theorem ktup_ty {a : Addr} {vs : List V} (h : SU K w.I H a vs) : TyX K H (.ref a) (.type "tuple") := by
  rcases h with h | ⟨_, o, _, h⟩ | ⟨o, its, n, e, c, _⟩
  · exact .base (.tup h.2)
  · exact .fTuple h
  · exact .kTuple e c
theorem ty_rd {st : So} {d : Dv} {v : V} {T : String} (s : Sim K mg w st H) (r : RD K mg st.length w H d v) (h : tyOf d st = some T) : TyX K H v (.type T) := by
  cases r with
  | p q =>
    cases q with
    | non => cases h; exact .base .non
    | bl b => cases h; exact .base (.bl b)
    | int i => cases h; exact .base (.int i)
    | str x => cases h; exact .base (.str x)
    | lst hs hr => cases h; exact .base (.lst hs.2)
    | tup hs hr => cases h; exact ktup_ty (.inr hs)
    | dct ia e hr => cases h; exact .base (.dK e)
  | tupD hs hr => cases h; exact ktup_ty hs
  | lstD hs hr => cases h; exact .base (.lst hs.2)
  | frz e =>
    cases h
    rcases e with ⟨_, o, e⟩ | ⟨o, its, n, e, c, _⟩
    · exact .base (.frz e)
    · exact .kList e c
  | exc m i e => cases h
  | xa m i e j f g => cases h
  | ref hi =>
    rename_i i
    unfold tyOf at h
    dsimp only at h
    split at h
    · rename_i xs e
      cases h
      obtain ⟨vs, e1, _⟩ := s.cell i _ e
      exact .base (.lst e1)
    · rename_i xs e
      cases h
      obtain ⟨vs, e1, _⟩ := s.cell i _ e
      exact .base (.dK e1)
    · rename_i xs e
      cases h
      obtain ⟨vs, e1, _⟩ := s.cell i _ e
      exact .base (.dT e1)
    · cases h
theorem pf_isT {T : String} {x : Str} {e : Expr} {fa : FE} {pt : Pos} (hm : X.mg "isinstance" = none) (hx : X.mg x = none) (hv : bootBuiltins x = some (.type T)) (h : PF X W e fa) (hg : Gl X "isinstance" := by rfl) (hgx : Gl X x := by rfl) (hnx : x ≠ "__name__" := by decide) (hdx : (x == ("__debug__" : Str)) = false := by decide)
    (he : starEach [e, .Name x pt] X.env = (false, eval e X.env) :: starEach [.Name x pt] X.env := by rfl) (he2 : starEach [.Name x pt] X.env = (false, eval (.Name x pt) X.env) :: starEach [] X.env := by rfl) (hpl : (backTo pos (starEach [.Name x pt] X.env)).any (·.1) = false := by rfl) :
    PF X W (.Call (.Name "isinstance" p) [e, .Name x pt] [] pos) (fIsT T fa) :=
  PE_imp (pe_callB call_isi hg hm (by decide +kernel) (pa_cons h (pa_cons (pe_bltn (v := .ty T) hgx hx hv rfl hnx hdx) pa_nil he2) he) (by decide) (by decide) he hpl) fun σ H Q q => by
    obtain ⟨ρ, st, w, sim, er, gd⟩ := q
    refine ⟨ρ, st, w, sim, er, Good.imp (fun v H1 q => ?_) (Good.bind gd)⟩
    obtain ⟨st1, w1, d, sim1, s1, r1, gd1⟩ := q
    split at gd1
    · rename_i nm e1
      split at gd1
      · rename_i b e2
        exact ⟨v, .ty T, .type nm, .type T, b, rfl, .ty T, ty_rd sim1 r1 e1, kit_ty e2, gd1 w1 H1 _ .refl sim1 (.p (.bl b))⟩
      · exact gd1.elim
    · exact gd1.elim
end
end FB
set_option Elab.async false
set_option linter.all false
set_option maxRecDepth 100000
set_option maxHeartbeats 4000000
/-! FB5: in, is, chains, slices, products. -/
namespace FB
open PySem PySem.Spec PyProof.Rows L2 RZ

/-! ### in, not in -/
def flV : Dv → Option V
  | .p .none => some .non
  | .p (.bool b) => some (.bl b)
  | .p (.int i) => some (.int i)
  | .p (.str x) => some (.str x)
  | _ => none
def flVs : List Dv → Option (List V)
  | [] => some []
  | d :: r => match flV d, flVs r with
    | some v, some vs => some (v :: vs)
    | _, _ => none
def memD (x y : Dv) (st : So) : Option Bool := match x, y with
  | .p (.str a), .p (.str z) => match a.cps with
    | ⟨[c]⟩ => some (decide (c ∈ z.cps.toList))
    | _ => none
  | x, y => match seqOf y st with
    | none => none
    | some ys => match flV x, flVs ys with
      | some v, some vs => some (inV v vs)
      | _, _ => match datOf x st, datOf y st with
        | some a, some (.list ds) => if SeqAt.shaped a && SeqAt.shaped (.list ds) then some (ds.any fun z => PyData.eqv z a) else none
        | _, _ => none
def gIn : G2 := fun x y st => (memD x y st).map fun b => .p (.bool b)
def gNotIn : G2 := fun x y st => (memD x y st).map fun b => .p (.bool (!b))
def rInA (K : PySem.W.Frag) : R2 := fun x y H Q => rInS x y H Q ∨ rIn K false x y H Q ∨ rInD K x y H Q
def rNotInA (K : PySem.W.Frag) : R2 := fun x y H Q => rNotInS x y H Q ∨ rIn K true x y H Q ∨ rNotInD K x y H Q
section
variable {X : Cx} {K : PySem.W.Frag} {mg : Str → Option Value} {n : Nat} {w : Wd} {H : Hp}
theorem op_inA (hu : X.A.units + 65 < cLine) : OpR X (compareOp .In) (rInA X.K) := op_inS.or (op_in_seq.or (op_inD hu))
theorem op_notInA (hu : X.A.units + 65 < cLine) : OpR X (compareOp .NotIn) (rNotInA X.K) := op_notInS.or (op_notIn_seq.or (op_notInD hu))
theorem flV_rd {d : Dv} {v u : V} (r : RD K mg n w H d v) (h : flV d = some u) : v = u ∧ flatV u = true := by
  unfold flV at h
  split at h
  · cases h; exact ⟨rd_non r, rfl⟩
  · cases h; exact ⟨rd_bl r, rfl⟩
  · cases h; exact ⟨rd_int r, rfl⟩
  · cases h; exact ⟨rd_str r, rfl⟩
  · cases h
theorem flVs_rd : ∀ {ds : List Dv} {vs us : List V}, RDs K mg n w H ds vs → flVs ds = some us → vs = us ∧ us.all flatV = true
  | _, _, _, .nil, h => by cases h; exact ⟨rfl, rfl⟩
  | d :: ds, _, us, .cons r rs, h => by
    unfold flVs at h
    cases e1 : flV d with
    | none => rw [e1] at h; cases h
    | some a =>
      cases e2 : flVs ds with
      | none => rw [e1, e2] at h; cases h
      | some as =>
        rw [e1, e2] at h
        cases h
        obtain ⟨rfl, f1⟩ := flV_rd r e1
        obtain ⟨rfl, f2⟩ := flVs_rd rs e2
        exact ⟨rfl, by rw [List.all_cons, f1, f2]; rfl⟩
theorem mem_core {st : So} {x y : Dv} {vx vy : V} {b : Bool} (sim : Sim X.K X.mg w st H) (rx : RD X.K X.mg st.length w H x vx) (ry : RD X.K X.mg st.length w H y vy) (h : memD x y st = some b) :
    (∃ (c : Nat) (z : Str), vx = .str ⟨#[c]⟩ ∧ vy = .str z ∧ decide (c ∈ z.cps.toList) = b) ∨ (∃ p xs, vy = .ref p ∧ (SqL X.K H p xs ∨ SqT X.K H p xs) ∧ flatV vx = true ∧ xs.all flatV = true ∧ inV vx xs = b) ∨
    ∃ d ds, Dp X.K H vx d ∧ Dp X.K H vy (.list ds) ∧ SeqAt.shaped d = true ∧ SeqAt.shaped (.list ds) = true ∧ (ds.any fun z => PyData.eqv z d) = b := by
  unfold memD at h
  split at h
  · rename_i a z
    split at h
    · rename_i c e
      cases h
      obtain rfl := rd_str rx
      obtain rfl := rd_str ry
      refine .inl ⟨c, z, ?_, rfl, rfl⟩
      cases a
      simp only at e
      subst e
      rfl
    · cases h
  · split at h
    · cases h
    · rename_i ys e
      split at h
      · rename_i v vs e1 e2
        cases h
        obtain ⟨a, us, rfl, r1, hs⟩ := seq_rd sim ry e
        obtain ⟨rfl, f1⟩ := flV_rd rx e1
        obtain ⟨rfl, f2⟩ := flVs_rd r1 e2
        exact .inr (.inl ⟨a, _, rfl, hs, f1, f2, rfl⟩)
      · split at h
        · rename_i a ds ea eb
          split at h
          · rename_i hs
            cases h
            rw [Bool.and_eq_true] at hs
            exact .inr (.inr ⟨a, ds, dat_dp sim rx ea (SeqAt.canLay_of_shaped hs.1), dat_dp sim ry eb (SeqAt.canLay_of_shaped hs.2), hs.1, hs.2, rfl⟩)
          · cases h
        · cases h
theorem im_in : Im2 X (rInA X.K) gIn := fun st w H x y vx vy Q d sim rx ry h l => by
  unfold gIn at h
  cases e : memD x y st with
  | none => rw [e] at h; cases h
  | some b =>
    rw [e] at h
    cases h
    have q : Q (.bl b) H := l w H _ .refl sim (.p (.bl b))
    rcases mem_core sim rx ry e with ⟨c, z, h1, h2, h3⟩ | ⟨p, xs, h1, h2, h3, h4, h5⟩ | ⟨d, ds, h1, h2, h3, h4, h5⟩
    · exact .inl ⟨c, z, h1, h2, by rw [h3]; exact q⟩
    · exact .inr (.inl ⟨p, xs, h1, h2, h3, h4, by rw [if_neg Bool.false_ne_true, h5]; exact q⟩)
    · exact .inr (.inr ⟨d, ds, h1, h2, h3, h4, by rw [h5]; exact q⟩)
theorem im_notIn : Im2 X (rNotInA X.K) gNotIn := fun st w H x y vx vy Q d sim rx ry h l => by
  unfold gNotIn at h
  cases e : memD x y st with
  | none => rw [e] at h; cases h
  | some b =>
    rw [e] at h
    cases h
    have q : Q (.bl (!b)) H := l w H _ .refl sim (.p (.bl (!b)))
    rcases mem_core sim rx ry e with ⟨c, z, h1, h2, h3⟩ | ⟨p, xs, h1, h2, h3, h4, h5⟩ | ⟨d, ds, h1, h2, h3, h4, h5⟩
    · exact .inl ⟨c, z, h1, h2, by rw [h3]; exact q⟩
    · exact .inr (.inl ⟨p, xs, h1, h2, h3, h4, by rw [if_pos rfl, h5]; exact q⟩)
    · exact .inr (.inr ⟨d, ds, h1, h2, h3, h4, by rw [h5]; exact q⟩)

/-! ### is, is not -/
def isD (x y : Dv) : Option Bool := match x, y with
  | .p (.bool a), .p (.bool b) => some (decide (a = b))
  | .p .none, .p .none => some true
  | _, .p .none => some false
  | _, _ => none
def gIs : G2 := fun x y _ => (isD x y).map fun b => .p (.bool b)
def gIsNot : G2 := fun x y _ => (isD x y).map fun b => .p (.bool (!b))
def rIsA : R2 := fun x y H Q => rIsB x y H Q ∨ rIsN x y H Q
def rIsNotA : R2 := fun x y H Q => rNotB x y H Q ∨ rNotN x y H Q
theorem op_isA : OpR X (compareOp .Is) rIsA := op_isBl.or op_isN1
theorem op_isNotA : OpR X (compareOp .IsNot) rIsNotA := op_notBl.or op_notN1
theorem is_core {x y : Dv} {vx vy : V} {b : Bool} (rx : RD K mg n w H x vx) (ry : RD K mg n w H y vy) (h : isD x y = some b) : (∃ a c : Bool, vx = .bl a ∧ vy = .bl c ∧ decide (a = c) = b) ∨ (vy = .non ∧ decide (vx = .non) = b) := by
  unfold isD at h
  split at h
  · cases h
    exact .inl ⟨_, _, rd_bl rx, rd_bl ry, rfl⟩
  · cases h
    exact .inr ⟨rd_non ry, by rw [rd_non rx]; rfl⟩
  · rename_i hn
    cases h
    refine .inr ⟨rd_non ry, decide_eq_false fun e => ?_⟩
    subst e
    cases rx with
    | p q => cases q; exact hn rfl
  · cases h
theorem im_is : Im2 X rIsA gIs := fun st w H x y vx vy Q d sim rx ry h l => by
  unfold gIs at h
  cases e : isD x y with
  | none => rw [e] at h; cases h
  | some b =>
    rw [e] at h
    cases h
    have q : Q (.bl b) H := l w H _ .refl sim (.p (.bl b))
    rcases is_core rx ry e with ⟨a, c, h1, h2, h3⟩ | ⟨h1, h2⟩
    · exact .inl ⟨a, c, h1, h2, by rw [h3]; exact q⟩
    · exact .inr ⟨h1, by rw [h2]; exact q⟩
theorem im_isNot : Im2 X rIsNotA gIsNot := fun st w H x y vx vy Q d sim rx ry h l => by
  unfold gIsNot at h
  cases e : isD x y with
  | none => rw [e] at h; cases h
  | some b =>
    rw [e] at h
    cases h
    have q : Q (.bl (!b)) H := l w H _ .refl sim (.p (.bl (!b)))
    rcases is_core rx ry e with ⟨a, c, h1, h2, h3⟩ | ⟨h1, h2⟩
    · exact .inl ⟨a, c, h1, h2, by rw [h3]; exact q⟩
    · exact .inr ⟨h1, by rw [h2]; exact q⟩

/-! ### products -/
def repS (a : Str) (k : Int) : Str := ⟨(List.replicate k.toNat a.cps).foldl (· ++ ·) #[]⟩
def gMulA : G2 := fun x y st => match x, y with
  | .p (.int i), .p (.int j) => if decide (i.natAbs < 2 ^ 64) || decide (j.natAbs < 2 ^ 64) then some (.p (.int (i * j)))
      else if decide (i.natAbs < 2 ^ 4000) && decide (j.natAbs < 2 ^ 4000) then some (.p (.int (i * j))) else none
  | .p (.str a), .p (.int k) => if decide (2 ≤ k) && decide (k ≤ 1000) && decide (a.length ≤ 1000) && decide (1 ≤ a.length) && decide ((repS a k).length ≤ 1000000) then some (.p (.str (repS a k))) else none
  | x, .p (.int k) => match lstOf x st with
    | some xs => if decide (0 ≤ k) && decide (k ≤ 1000) && decide (xs.length ≤ 1000) then some (mkL (List.replicate k.toNat xs).flatten) else none
    | none => none
  | _, _ => none
def rMulS : R2 := fun x y H Q => ∃ (a : Str) (k : Int), x = .str a ∧ y = .int k ∧ 2 ≤ k ∧ k ≤ 1000 ∧ a.length ≤ 1000 ∧ 1 ≤ a.length ∧ (repS a k).length ≤ 1000000 ∧ Q (.str (repS a k)) H
def rMulA : R2 := fun x y H Q => rI CMul (fun i j => .int (i * j)) x y H Q ∨ rI CMulW (fun i j => .int (i * j)) x y H Q ∨ rMulS x y H Q ∨ rRep x y H Q
theorem op_mulS : OpR X (binaryOp .Mult) rMulS := by
  intro pins s σ H x y v u Q I rx ry h
  obtain ⟨a, k, rfl, rfl, h1, h2, h3, h4, h5, q⟩ := h
  obtain ⟨t, rfl⟩ := rx
  obtain ⟨t', rfl⟩ := ry
  have n1 : ¬ k < 1 := by omega
  have e0 : (k == 1 || a.length == 0) = false := by
    rw [Bool.or_eq_false_iff]
    exact ⟨beq_eq_false_iff_ne.mpr (by omega), beq_eq_false_iff_ne.mpr (by omega)⟩
  have hm : a.length * k.toNat ≤ 1000 * 1000 := Nat.mul_le_mul h3 (by omega)
  refine PySem.P.mul_str (by rw [decide_eq_false (by omega), decide_eq_false (by omega)]; rfl) (fun _ _ z => ?_) (fun _ _ => ?_) ?_
  · have q1 : ((2 : Int) ^ 63 - 1) / 1000 ≤ (2 ^ 63 - 1) / k := by
      rw [Int.le_ediv_iff_mul_le (by omega)]
      have : ((2 : Int) ^ 63 - 1) / 1000 * k ≤ ((2 : Int) ^ 63 - 1) / 1000 * 1000 := Int.mul_le_mul_of_nonneg_left h2 (by decide)
      omega
    omega
  · exact decide_eq_false (by rw [sizeLine_eq]; omega)
  · rw [if_neg n1, e0, if_neg Bool.false_ne_true]
    exact ⟨by show (repS a k).length ≤ sizeLine; rw [sizeLine_eq]; omega, .str (repS a k), H, I.tok _, ⟨_, rfl⟩, q⟩
theorem op_mulA : OpR X (binaryOp .Mult) rMulA := OpR.or (r := rI CMul fun i j => .int (i * j)) op_mul (OpR.or (r := rI CMulW fun i j => .int (i * j)) op_mulW (op_mulS.or op_rep))
theorem rds_rep {xs : List Dv} {vs : List V} (r : RDs K mg n w H xs vs) : ∀ k : Nat, RDs K mg n w H (List.replicate k xs).flatten (List.replicate k vs).flatten
  | 0 => .nil
  | k + 1 => by
    rw [List.replicate_succ, List.replicate_succ, List.flatten_cons, List.flatten_cons]
    exact r.append (rds_rep r k)
theorem im_mul : Im2 X rMulA gMulA := fun st w H x y vx vy Q d sim rx ry h l => by
  unfold gMulA at h
  split at h
  · rename_i i j
    obtain rfl := rd_int rx
    obtain rfl := rd_int ry
    split at h
    · rename_i e
      cases h
      rw [Bool.or_eq_true] at e
      refine .inl ⟨i, j, rfl, rfl, ?_, l w H _ .refl sim (.p (.int _))⟩
      rcases e with e | e
      · have := of_decide_eq_true e
        exact .inl (by omega)
      · have := of_decide_eq_true e
        exact .inr (by omega)
    · split at h
      · rename_i e
        cases h
        rw [Bool.and_eq_true] at e
        exact .inr (.inl ⟨i, j, rfl, rfl, wide_mul (of_decide_eq_true e.1) (of_decide_eq_true e.2) (by decide) (by decide) (by decide), l w H _ .refl sim (.p (.int _))⟩)
      · cases h
  · rename_i a k
    split at h
    · rename_i e
      cases h
      simp only [Bool.and_eq_true, decide_eq_true_eq] at e
      obtain ⟨⟨⟨⟨h1, h2⟩, h3⟩, h4⟩, h5⟩ := e
      obtain rfl := rd_str rx
      obtain rfl := rd_int ry
      exact .inr (.inr (.inl ⟨a, k, rfl, rfl, h1, h2, h3, h4, h5, l w H _ .refl sim (.p (.str _))⟩))
    · cases h
  · rename_i k _ _
    split at h
    · rename_i xs e
      split at h
      · rename_i h0
        cases h
        simp only [Bool.and_eq_true, decide_eq_true_eq] at h0
        obtain ⟨⟨h1, h2⟩, h3⟩ := h0
        obtain rfl := rd_int ry
        obtain ⟨a, vs, rfl, r1, t1⟩ := lst_rd sim rx e
        have hm : xs.length * k.toNat ≤ 1000 * 1000 := Nat.mul_le_mul h3 (by omega)
        refine .inr (.inr (.inr ⟨a, k, vs, rfl, rfl, t1, by omega, by omega, by rw [← r1.length, sizeLine_eq]; omega, fun p hp => ?_⟩))
        obtain ⟨s2, sim2⟩ := sim.newP (o := .lst (List.replicate k.toNat vs).flatten) hp
        exact l _ _ _ s2 sim2 (rd_mkL ⟨.inl rfl, upd_same⟩ ((rds_rep r1 _).mono s2))
      · cases h
    · cases h
  · cases h

/-! ### -i -/
def gNeg : G1 := fun x _ => match x with
  | .p (.int i) => some (.p (.int (-i)))
  | _ => none
theorem im_neg : Im1 X (rU fun i => .int (-i)) gNeg := fun st w H x vx Q d sim rx h l => by
  unfold gNeg at h
  split at h
  · cases h
    obtain rfl := rd_int rx
    exact ⟨_, rfl, l w H _ .refl sim (.p (.int _))⟩
  · cases h

/-! ### a op b op' c -/
variable {W : WX} {a b c e : Expr} {fa fb fc : FE} {pos p2 : Pos}
def fChain (g g' : G2) (fa fb fc : FE) : FE := fun ρ st => (fa ρ st).bind fun x st1 => (fb ρ st1).bind fun y st2 => match g x y st2 with
  | some (.p (.bool true)) => (fc ρ st2).bind fun z st3 => toR st3 (g' y z st3)
  | some (.p (.bool false)) => .ok (.p (.bool false)) st2
  | _ => .stuck
theorem pf_chain {op op' : CmpOp} {r r' : R2} {g g' : G2} (ho : OpR X (compareOp op) r) (ho' : OpR X (compareOp op') r') (hi : Im2 X r g) (hi' : Im2 X r' g') (ha : PF X W a fa) (hb : PF X W b fb) (hc : PF X W c fc)
    (hm : lastMarks [op, op'] [b, c] = false := by with_unfolding_all rfl) : PF X W (.Compare a [op, op'] [b, c] pos) (fChain g g' fa fb fc) := PE_imp (pe_chain ho ho' ha hb hc hm) fun σ H Q h => by
  obtain ⟨ρ, st, w, sim, er, gd⟩ := h
  refine ⟨ρ, st, w, sim, er, Good.imp (fun x H1 q => ?_) (Good.bind gd)⟩
  obtain ⟨st1, w1, d1, sim1, s1, r1, gd1⟩ := q
  refine ⟨ρ, st1, w1, sim1, er.mono s1, Good.imp (fun y H2 q => ?_) (Good.bind gd1)⟩
  obtain ⟨st2, w2, d2, sim2, s2, r2, gd2⟩ := q
  split at gd2
  · rename_i e
    refine hi st2 w2 H2 d1 d2 x y _ _ sim2 (r1.mono s2) r2 e fun w' H' v s' sim' rv => ?_
    obtain rfl := rd_bl rv
    refine ⟨true, rfl, ?_⟩
    rw [if_pos rfl]
    refine ⟨ρ, st2, w', sim', ((er.mono s1).mono s2).mono s', Good.imp (fun z H3 q => ?_) (Good.bind (gd2.later s'))⟩
    obtain ⟨st3, w3, d3, sim3, s3, r3, gd3⟩ := q
    obtain ⟨d, e', l⟩ := lies_of gd3
    exact hi' st3 w3 H3 d2 d3 y z Q d sim3 (r2.mono (s'.trans s3)) r3 e' l
  · rename_i e
    refine hi st2 w2 H2 d1 d2 x y _ _ sim2 (r1.mono s2) r2 e fun w' H' v s' sim' rv => ?_
    obtain rfl := rd_bl rv
    refine ⟨false, rfl, ?_⟩
    rw [if_neg Bool.false_ne_true]
    exact gd2 w' H' _ s' sim' (.p (.bl false))
  · exact gd2.elim

/-! ### slices -/
abbrev FO := Sl → So → Rs (Option Int)
def RelO2 : Nat → Wd → Hp → Option Int → Option Int → Prop := fun _ _ _ a b => a = b
def TFO (K : PySem.W.Frag) (mg : Str → Option Value) (W : WX) (fa : FO) : TO := fun σ H Q => ∃ ρ st w, Sim K mg w st H ∧ EnvR K mg st.length w H ρ σ ∧ Good RelO2 K mg W σ st.length w H Q (fa ρ st)
def PFO (X : Cx) (W : WX) (o : Option Expr) (fa : FO) : Prop := PO X o (TFO X.K X.mg W fa)
theorem PO_imp {o : Option Expr} {t t' : TO} (h : PO X o t) (hi : ∀ σ H Q, t' σ H Q → t σ H Q) : PO X o t' := ⟨fun pins s σ H Q I q => h.run pins s σ H Q I (hi σ H Q q)⟩
def fNoP : FO := fun _ st => .ok none st
def asI (d : Dv) (st : So) : Rs (Option Int) := match d with
  | .p (.int i) => .ok (some i) st
  | _ => .stuck
def fPt (fa : FE) : FO := fun ρ st => (fa ρ st).bind asI
theorem pfo_none : PFO X W none fNoP := PO_imp po_none fun σ H Q ⟨ρ, st, w, sim, er, g⟩ => g w H none .refl sim rfl
theorem pfo_some (h : PF X W e fa) : PFO X W (some e) (fPt fa) := PO_imp (po_some h) fun σ H Q q => by
  obtain ⟨ρ, st, w, sim, er, gd⟩ := q
  refine ⟨ρ, st, w, sim, er, Good.imp (fun x H1 q => ?_) (Good.bind gd)⟩
  obtain ⟨st1, w1, d1, sim1, s1, r1, gd1⟩ := q
  unfold asI at gd1
  split at gd1
  · rename_i i
    obtain rfl := rd_int r1
    exact ⟨i, rfl, gd1 w1 H1 _ .refl sim1 rfl⟩
  · exact gd1.elim
theorem seqL_rd {st : So} {d : Dv} {v : V} {xs : List Dv} (s : Sim K mg w st H) (r : RD K mg st.length w H d v) (ht : tupOf d = none) (h : seqOf d st = some xs) : ∃ a vs, v = .ref a ∧ RDs K mg st.length w H xs vs ∧ SqL K H a vs := by
  unfold seqOf at h
  split at h
  · cases h
    cases r with
    | frz e => exact ⟨_, _, rfl, frz_rds, e.sq⟩
  · rw [ht] at h
    obtain ⟨a, vs, h1, h2, h3⟩ := lst_rd s r h
    exact ⟨a, vs, h1, h2, .of h3⟩
def cutD (xs : List Dv) (lo hi : Option Int) : List Dv := (xs.drop (HT.sIx xs.length 0 lo)).take (HT.sIx xs.length xs.length hi - HT.sIx xs.length 0 lo)
theorem rds_cut {xs : List Dv} {vs : List V} {lo hi : Option Int} (r : RDs K mg n w H xs vs) : RDs K mg n w H (cutD xs lo hi) (cutV vs lo hi) := by
  unfold cutD cutV
  rw [r.length]
  exact (r.drop _).take _
def whole (n : Nat) (lo hi : Option Int) : Bool := decide (HT.sIx n 0 lo = 0) && decide (HT.sIx n n hi = n)
def gSl (x : Dv) (lo hi : Option Int) (st : So) : Option Dv := match x with
  | .p (.str z) => if z.length ≤ 100000 then some (.p (.str (cutS z lo hi))) else none
  | x => match tupOf x with
    | some xs => some (if whole xs.length lo hi then x else mkT (cutD xs lo hi))
    | none => (seqOf x st).map fun xs => mkL (cutD xs lo hi)
def rSlAny (K : PySem.W.Frag) : V → Option Int → Option Int → Hp → VK → Prop := fun x lo hi H Q => rSlS x lo hi H Q ∨ rSlX K x lo hi H Q ∨ rSlL K x lo hi H Q
theorem sl_any : SlR X (rSlAny X.K) := SlR.or sl_str (SlR.or sl_tupX sl_list)
theorem im_sl {st : So} {d : Dv} {x : V} {lo hi : Option Int} {Q : VK} {r : Dv} (sim : Sim X.K X.mg w st H) (rx : RD X.K X.mg st.length w H d x) (h : gSl d lo hi st = some r) (l : Lies X.K X.mg st w H Q r) : rSlAny X.K x lo hi H Q := by
  unfold gSl at h
  split at h
  · rename_i z
    split at h
    · rename_i hz
      cases h
      obtain rfl := rd_str rx
      exact .inl ⟨z, rfl, le_line hz, l w H _ .refl sim (.p (.str _))⟩
    · cases h
  · rename_i hn
    split at h
    · rename_i xs e
      cases h
      obtain ⟨a, vs, rfl, r1, hs⟩ := tup_rd rx e
      refine .inr (.inl ⟨a, vs, rfl, hs.sq, fun hw => ?_, fun hw p o hp ho => ?_⟩)
      · rw [← r1.length] at hw
        have e1 : whole xs.length lo hi = true := by unfold whole; rw [decide_eq_true hw.1, decide_eq_true hw.2]; rfl
        rw [e1, if_pos rfl] at l
        exact l w H _ .refl sim rx
      · rw [← r1.length] at hw
        have e1 : ¬ whole xs.length lo hi = true := fun z => by
          unfold whole at z
          rw [Bool.and_eq_true] at z
          exact hw ⟨of_decide_eq_true z.1, of_decide_eq_true z.2⟩
        rw [if_neg e1] at l
        obtain ⟨s2, sim2⟩ := sim.newP (o := .frz o (.tup (cutV vs lo hi))) hp
        exact l _ _ _ s2 sim2 (rd_mkT (.inl ⟨.inl rfl, o, ho, upd_same⟩) ((rds_cut r1).mono s2))
    · rename_i ht
      cases e : seqOf d st with
      | none => rw [e] at h; cases h
      | some xs =>
        rw [e] at h
        cases h
        obtain ⟨a, vs, rfl, r1, hs⟩ := seqL_rd sim rx ht e
        refine .inr (.inr ⟨a, vs, rfl, hs, fun p hp => ?_⟩)
        obtain ⟨s2, sim2⟩ := sim.newP (o := .lst (cutV vs lo hi)) hp
        exact l _ _ _ s2 sim2 (rd_mkL ⟨.inl rfl, upd_same⟩ ((rds_cut r1).mono s2))
def fSl (fa : FE) (fl fh : FO) : FE := fun ρ st => (fa ρ st).bind fun x st1 => (fl ρ st1).bind fun lo st2 => (fh ρ st2).bind fun hi st3 => toR st3 (gSl x lo hi st3)
theorem pf_sl {lo hi : Option Expr} {fl fh : FO} (he : PF X W e fa) (hl : PFO X W lo fl) (hh : PFO X W hi fh) : PF X W (.Subscript e (.Slice lo hi none p2) pos) (fSl fa fl fh) := PE_imp (pe_slice sl_any he hl hh) fun σ H Q h => by
  obtain ⟨ρ, st, w, sim, er, gd⟩ := h
  refine ⟨ρ, st, w, sim, er, Good.imp (fun x H1 q => ?_) (Good.bind gd)⟩
  obtain ⟨st1, w1, d1, sim1, s1, r1, gd1⟩ := q
  refine ⟨ρ, st1, w1, sim1, er.mono s1, Good.imp (fun y H2 q => ?_) (Good.bind gd1)⟩
  obtain ⟨st2, w2, d2, sim2, s2, r2, gd2⟩ := q
  obtain rfl : d2 = y := r2
  refine ⟨ρ, st2, w2, sim2, (er.mono s1).mono s2, Good.imp (fun z H3 q => ?_) (Good.bind gd2)⟩
  obtain ⟨st3, w3, d3, sim3, s3, r3, gd3⟩ := q
  obtain rfl : d3 = z := r3
  obtain ⟨d, e', l⟩ := lies_of gd3
  exact im_sl sim3 ((r1.mono s2).mono s3) e' l
/-- x[::-1] of a list, of a tuple -/
def gRev : G1 := fun x st => match tupOf x with
  | some xs => some (mkT xs.reverse)
  | none => (seqOf x st).map fun xs => mkL xs.reverse
theorem rds_rev : ∀ {xs : List Dv} {vs : List V}, RDs K mg n w H xs vs → RDs K mg n w H xs.reverse vs.reverse
  | _, _, .nil => .nil
  | _, _, .cons h hs => by
    rw [List.reverse_cons, List.reverse_cons]
    exact (rds_rev hs).append (.cons h .nil)
theorem pf_rev {k : Nat} {p1 p3 : Pos} (he : PF X W e fa) : PF X W (.Subscript e (.Slice none none (some (.UnaryOp .USub (.Constant (.int 1) k p1) p2)) p3) pos) (fUn gRev fa) := PE_imp (pe_rev he) fun σ H Q h => by
  obtain ⟨ρ, st, w, sim, er, gd⟩ := h
  refine ⟨ρ, st, w, sim, er, Good.imp (fun x H1 q => ?_) (Good.bind gd)⟩
  obtain ⟨st1, w1, d1, sim1, s1, r1, gd1⟩ := q
  obtain ⟨d, e', l⟩ := lies_of gd1
  unfold gRev at e'
  split at e'
  · rename_i xs e
    cases e'
    obtain ⟨a, vs, rfl, r2, hs⟩ := tup_rd r1 e
    refine ⟨a, vs, rfl, .inr ⟨hs.sq, fun p o hp ho => ?_⟩⟩
    obtain ⟨s2, sim2⟩ := sim1.newP (o := .frz o (.tup vs.reverse)) hp
    exact l _ _ _ s2 sim2 (rd_mkT (.inl ⟨.inl rfl, o, ho, upd_same⟩) ((rds_rev r2).mono s2))
  · rename_i ht
    cases e : seqOf d1 st1 with
    | none => rw [e] at e'; cases e'
    | some xs =>
      rw [e] at e'
      cases e'
      obtain ⟨a, vs, rfl, r2, hs⟩ := seqL_rd sim1 r1 ht e
      refine ⟨a, vs, rfl, .inl ⟨hs, fun p hp => ?_⟩⟩
      obtain ⟨s2, sim2⟩ := sim1.newP (o := .lst vs.reverse) hp
      exact l _ _ _ s2 sim2 (rd_mkL ⟨.inl rfl, upd_same⟩ ((rds_rev r2).mono s2))

/-! ### t.index(x), t a tuple of texts -/
def firstAt (z : Str) : List Dv → Nat → Option Nat
  | [], _ => none
  | .p (.str y) :: r, k => if y = z then some k else firstAt z r (k + 1)
  | _ :: _, _ => none
def txts : List Dv → Option (List Str)
  | [] => some []
  | .p (.str y) :: r => (txts r).map (y :: ·)
  | _ :: _ => none
def gIndexT (x : Dv) (xs : List Dv) : Option Dv := match x, xs with
  | .p (.tuple ds), [.p (.str z)] => match txts (ds.map Dv.p) with
    | some ys => if ys.contains z then some (.p (.int (ys.idxOf z : Nat))) else none
    | none => none
  | _, _ => none
def fIndexT (fa : FE) (fr : FA) : FE := fun ρ st => (fa ρ st).bind fun x st1 => match x with
  | .p (.tuple ds) => (fr ρ st1).bind fun xs st2 => toR st2 (gIndexT (.p (.tuple ds)) xs)
  | _ => .stuck
theorem txts_rd : ∀ {ds : List Dv} {ys : List Str} {vs : List V}, RDs K mg n w H ds vs → txts ds = some ys → vs = ys.map V.str
  | _, _, _, .nil, h => by cases h; rfl
  | d :: ds, ys, _, .cons r rs, h => by
    unfold txts at h
    split at h
    · rename_i e; cases e
    · rename_i y r' e
      cases e
      cases e2 : txts ds with
      | none => rw [e2] at h; cases h
      | some zs =>
        rw [e2] at h
        cases h
        rw [rd_str r, txts_rd rs e2]; rfl
    · cases h
theorem idx_before {ys : List Str} {z : Str} {m : Nat} (h : m < ys.idxOf z) : ys[m]? ≠ some z := fun e => by
  have h1 := List.not_of_lt_findIdx (p := (· == z)) (xs := ys) (i := m) h
  have h2 : m < ys.length := (List.getElem?_eq_some_iff.mp e).1
  rw [List.getElem?_eq_getElem h2] at e
  cases e
  simp at h1
variable {apos cpos : Pos} {es : List Expr} {fr : FA}
theorem pf_indexT (ho : PF X W a fa) (ha : PFA X W (e :: es) fr) (hbase : attributeBase a "index" X.env (eval a X.env) = eval a X.env := by rfl)
    (hfew : ((backTo cpos (starEach (e :: es) X.env)).all (fun x => !x.1) && (backToKw cpos (keywordEach [] X.env)).all (fun x => x.1.isSome)
      && decide ((e :: es).length + ([] : List Keyword).length + (if ([] : List Keyword).isEmpty then 0 else 1) < 30)) = true := by rfl)
    (hline : (apos.endLine == cpos.line) = true := by rfl) (hs : starEach (e :: es) X.env = (false, eval e X.env) :: starEach es X.env := by rfl) (hplain : (backTo cpos (starEach es X.env)).any (·.1) = false := by rfl) :
    PF X W (.Call (.Attribute a "index" apos) (e :: es) [] cpos) (fIndexT fa fr) := PE_imp (pe_tm PySem.F.plainAttrs_tuple PySem.F.slot_tuple_index PySem.F.type_tuple_index mt_tup_index ho ha hbase hfew hline hs hplain) fun σ H Q h => by
  obtain ⟨ρ, st, w, sim, er, gd⟩ := h
  refine ⟨ρ, st, w, sim, er, Good.imp (fun x H1 q => ?_) (Good.bind gd)⟩
  obtain ⟨st1, w1, d1, sim1, s1, r1, gd1⟩ := q
  split at gd1
  · rename_i ds
    cases r1 with
    | p q0 =>
    cases q0 with
    | tup hs0 hr0 =>
    rename_i p us
    refine ⟨⟨p, us, rfl, hs0.tm⟩, ρ, st1, w1, sim1, er.mono s1, Good.imp (fun vs H2 q => ?_) (Good.bind gd1)⟩
    obtain ⟨st2, w2, d2, sim2, s2, r2, gd2⟩ := q
    obtain ⟨d, e', l⟩ := lies_of gd2
    unfold gIndexT at e'
    split at e'
    · rename_i ds' z e0
      cases e0
      obtain ⟨v, rfl, rv⟩ := rds1 r2
      obtain rfl := rd_str rv
      split at e'
      · rename_i ys e1
        split at e'
        · rename_i hc
          cases e'
          have hr2 : RDs X.K X.mg st2.length w2 H2 (ds.map Dv.p) us := (RDs.ofP hr0).mono s2
          obtain rfl := txts_rd hr2 e1
          have hz : z ∈ ys := by simpa using hc
          refine ⟨p, ys, z, ys.idxOf z, rfl, rfl, (hs0.mono s2.gro).sq, ?_, fun m hm => idx_before hm, l w2 H2 _ .refl sim2 (.p (.int _))⟩
          rw [List.getElem?_eq_getElem (List.idxOf_lt_length_of_mem hz)]
          simp
        · cases e'
      · cases e'
    · cases e'
  · exact gd1.elim
end
end FB
set_option Elab.async false
set_option linter.all false
set_option maxRecDepth 100000
set_option maxHeartbeats 4000000
/-! FB6: methods of lists, dicts, stores, augmented assignment. -/
namespace FB
open PySem PySem.Spec PyProof.Rows L2 RZ

/-! ### methods that may write -/
abbrev GM := Dv → List Dv → So → Option (Dv × So)
def LiesM (K : PySem.W.Frag) (mg : Str → Option Value) (st : So) (w : Wd) (H : Hp) (Q : VK) (d : Dv) (st2 : So) : Prop :=
  ∀ w' H' v, Stp st.length w H st2.length w' H' → Sim K mg w' st2 H' → RD K mg st2.length w' H' d v → Q v H'
def ImM (X : Cx) (r : V → List V → Hp → VK → Prop) (g : GM) : Prop := ∀ (st : So) (w : Wd) (H : Hp) (x : Dv) (xs : List Dv) (vx : V) (vs : List V) (Q : VK) (d : Dv) (st2 : So), Sim X.K X.mg w st H → RD X.K X.mg st.length w H x vx → RDs X.K X.mg st.length w H xs vs →
  g x xs st = some (d, st2) → LiesM X.K X.mg st w H Q d st2 → r vx vs H Q
def isLst (d : Dv) (st : So) : Bool := match tupOf d with
  | some _ => false
  | none => (seqOf d st).isSome
def toM : Option (Dv × So) → Rs Dv
  | some (d, st) => .ok d st
  | none => .stuck
def fMth (g : GM) (fo : FE) (fr : FA) : FE := fun ρ st => (fo ρ st).bind fun x st1 => if isLst x st1 then (fr ρ st1).bind fun xs st2 => toM (g x xs st2) else .stuck
def fMth0 (g : GM) (fo : FE) : FE := fun ρ st => (fo ρ st).bind fun x st1 => if isLst x st1 then toM (g x [] st1) else .stuck
section
variable {X : Cx} {K : PySem.W.Frag} {mg : Str → Option Value} {n : Nat} {w : Wd} {H : Hp} {W : WX} {a e o : Expr} {es : List Expr} {fa fo : FE} {fr : FA} {apos cpos pos : Pos} {name : Str} {id : String} {r : V → List V → Hp → VK → Prop} {g : GM}
theorem isLst_ty {st : So} {d : Dv} {v : V} (s : Sim K mg w st H) (rd : RD K mg st.length w H d v) (h : isLst d st = true) : tyV K "list" v H := by
  unfold isLst at h
  split at h
  · cases h
  · rename_i ht
    cases e : seqOf d st with
    | none => rw [e] at h; cases h
    | some xs =>
      obtain ⟨a, vs, rfl, _, hs⟩ := seqL_rd s rd ht e
      exact .inl ⟨rfl, vs, hs⟩
theorem liesM_of {σ : L2.St} {st : So} {Q : VK} {o : Option (Dv × So)} (g : Good (RD K mg) K mg W σ st.length w H Q (toM o)) : ∃ d st2, o = some (d, st2) ∧ LiesM K mg st w H Q d st2 := by
  cases o with
  | none => exact g.elim
  | some p => exact ⟨p.1, p.2, rfl, g⟩
theorem pf_mth (slot : Slot "list" name id) (hty : typeOf (.builtin id) = pure (.type "method_descriptor")) (hm : MtR X id r) (hi : ImM X r g) (ho : PF X W o fo) (ha : PFA X W (e :: es) fr)
    (hbase : attributeBase o name X.env (eval o X.env) = eval o X.env := by rfl)
    (hfew : ((backTo cpos (starEach (e :: es) X.env)).all (fun x => !x.1) && (backToKw cpos (keywordEach [] X.env)).all (fun x => x.1.isSome)
      && decide ((e :: es).length + ([] : List Keyword).length + (if ([] : List Keyword).isEmpty then 0 else 1) < 30)) = true := by rfl)
    (hline : (apos.endLine == cpos.line) = true := by rfl) (hs : starEach (e :: es) X.env = (false, eval e X.env) :: starEach es X.env := by rfl) (hplain : (backTo cpos (starEach es X.env)).any (·.1) = false := by rfl) :
    PF X W (.Call (.Attribute o name apos) (e :: es) [] cpos) (fMth g fo fr) := PE_imp (pe_bm PySem.F.plainAttrs_list slot hty hm ho ha hbase hfew hline hs hplain) fun σ H Q h => by
  obtain ⟨ρ, st, w, sim, er, gd⟩ := h
  refine ⟨ρ, st, w, sim, er, Good.imp (fun x H1 q => ?_) (Good.bind gd)⟩
  obtain ⟨st1, w1, d1, sim1, s1, r1, gd1⟩ := q
  by_cases hl : isLst d1 st1 = true
  · rw [if_pos hl] at gd1
    refine ⟨isLst_ty sim1 r1 hl, ρ, st1, w1, sim1, er.mono s1, Good.imp (fun vs H2 q => ?_) (Good.bind gd1)⟩
    obtain ⟨st2, w2, d2, sim2, s2, r2, gd2⟩ := q
    obtain ⟨d, st3, e', l⟩ := liesM_of gd2
    exact hi st2 w2 H2 d1 d2 x vs Q d st3 sim2 (r1.mono s2) r2 e' l
  · rw [if_neg hl] at gd1
    exact gd1.elim
theorem pf_mth0 (slot : Slot "list" name id) (hty : typeOf (.builtin id) = pure (.type "method_descriptor")) (hm : MtR X id r) (hi : ImM X r g) (ho : PF X W o fo)
    (hbase : attributeBase o name X.env (eval o X.env) = eval o X.env := by rfl) (hline : (apos.endLine == cpos.line) = true := by rfl) :
    PF X W (.Call (.Attribute o name apos) [] [] cpos) (fMth0 g fo) := PE_imp (pe_bm0 PySem.F.plainAttrs_list slot hty hm ho hbase hline) fun σ H Q h => by
  obtain ⟨ρ, st, w, sim, er, gd⟩ := h
  refine ⟨ρ, st, w, sim, er, Good.imp (fun x H1 q => ?_) (Good.bind gd)⟩
  obtain ⟨st1, w1, d1, sim1, s1, r1, gd1⟩ := q
  by_cases hl : isLst d1 st1 = true
  · rw [if_pos hl] at gd1
    obtain ⟨d, st3, e', l⟩ := liesM_of gd1
    exact ⟨isLst_ty sim1 r1 hl, hi st1 w1 H1 d1 [] x [] Q d st3 sim1 r1 .nil e' l⟩
  · rw [if_neg hl] at gd1
    exact gd1.elim
/-- the list cell at d -/
def cellL (d : Dv) (st : So) : Option (Nat × List Dv) := match d with
  | .ref i => match st[i]? with
    | some (.lst xs) => some (i, xs)
    | _ => none
  | _ => none
theorem cellL_rd {st : So} {d : Dv} {v : V} {i : Nat} {xs : List Dv} (s : Sim K mg w st H) (rd : RD K mg st.length w H d v) (h : cellL d st = some (i, xs)) :
    ∃ vs, v = .ref (w.m i) ∧ H (w.m i) = some (.lst vs) ∧ RDs K mg st.length w H xs vs ∧ live st i ∧ st[i]? = some (.lst xs) := by
  unfold cellL at h
  split at h
  · rename_i j
    split at h
    · rename_i ys e
      cases h
      cases rd
      obtain ⟨vs, e1, r1, _⟩ := s.cell _ _ e
      exact ⟨vs, rfl, e1, r1, ⟨_, e, by simp⟩, e⟩
    · cases h
  · cases h
/-- a list cell rewritten -/
theorem cell_wr {st : So} {i : Nat} {ys : List Dv} {vs : List V} (s : Sim K mg w st H) (hl : live st i) (r : RDs K mg st.length w H ys vs) :
    Stp st.length w H (st.set i (.lst ys)).length w (upd H (w.m i) (.lst vs)) ∧ Sim K mg w (st.set i (.lst ys)) (upd H (w.m i) (.lst vs)) := by
  rw [List.length_set]
  exact s.wr (o := .lst vs) (c := .lst ys) hl fun {w' H'} g e nI => ⟨vs, e, r.mono g, nI⟩
def gAppend : GM := fun x xs st => match cellL x st, xs with
  | some (i, ys), [d] => if ys.length < 100000 then some (.p .none, st.set i (.lst (ys ++ [d]))) else none
  | _, _ => none
theorem im_append : ImM X rAppend gAppend := fun st w H x xs vx vs Q d st2 sim rx rs h l => by
  unfold gAppend at h
  split at h
  · rename_i i ys d' e
    split at h
    · rename_i hl
      cases h
      obtain ⟨us, rfl, e1, r1, lv, _⟩ := cellL_rd sim rx e
      obtain ⟨v, rfl, rv⟩ := rds1 rs
      obtain ⟨s2, sim2⟩ := cell_wr sim lv (r1.append (.cons rv .nil))
      refine ⟨w.m i, us, v, rfl, rfl, e1, ?_, l _ _ _ s2 sim2 (.p .non)⟩
      rw [← r1.length, sizeLine_eq]; omega
    · cases h
  · cases h
def gPop : GM := fun x xs st => match cellL x st, xs with
  | some (i, ys), [] => match ys[ys.length - 1]? with
    | some d => some (d, st.set i (.lst ys.dropLast))
    | none => none
  | _, _ => none
theorem rds_dropLast {xs : List Dv} {vs : List V} (r : RDs K mg n w H xs vs) : RDs K mg n w H xs.dropLast vs.dropLast := by
  rw [List.dropLast_eq_take, List.dropLast_eq_take, r.length]
  exact r.take _
theorem im_pop : ImM X rPop gPop := fun st w H x xs vx vs Q d st2 sim rx rs h l => by
  unfold gPop at h
  split at h
  · rename_i i ys e
    split at h
    · rename_i d' ed
      cases h
      obtain ⟨us, rfl, e1, r1, lv, _⟩ := cellL_rd sim rx e
      cases rs
      obtain ⟨v, ev, rv⟩ := r1.get ed
      obtain ⟨s2, sim2⟩ := cell_wr sim lv (rds_dropLast r1)
      refine ⟨w.m i, us, v, rfl, rfl, e1, by rw [← r1.length]; exact ev, l _ _ _ s2 sim2 (rv.mono s2)⟩
    · cases h
  · cases h
def gPopAt : GM := fun x xs st => match cellL x st, xs with
  | some (i, ys), [.p (.int k)] => match ixN ys.length k with
    | some j => match ys[j]? with
      | some d => if ys.length ≤ 100000 then some (d, st.set i (.lst (ys.eraseIdx j))) else none
      | none => none
    | none => none
  | _, _ => none
theorem line62 : sizeLine < 2 ^ 62 := by rw [sizeLine_eq]; decide
theorem im_popAt : ImM X rPopAt gPopAt := fun st w H x xs vx vs Q d st2 sim rx rs h l => by
  unfold gPopAt at h
  split at h
  · rename_i i ys k e
    split at h
    · rename_i j ej
      split at h
      · rename_i d' ed
        split at h
        · rename_i hz
          cases h
          obtain ⟨us, rfl, e1, r1, lv, _⟩ := cellL_rd sim rx e
          obtain ⟨vk, rfl, rk⟩ := rds1 rs
          obtain rfl := rd_int rk
          obtain ⟨v, ev, rv⟩ := r1.get ed
          obtain ⟨h1, h2, h3, h4⟩ := ixN_seq ej
          obtain ⟨s2, sim2⟩ := cell_wr sim lv (r1.eraseIdx j)
          have hl := r1.length
          exact ⟨w.m i, us, k, j, v, rfl, rfl, e1, by omega, by omega, by rw [← hl]; exact h1, ev, l _ _ _ s2 sim2 (rv.mono s2)⟩
        · cases h
      · cases h
    · cases h
  · cases h
def rInsert : V → List V → Hp → VK → Prop := fun x vs H Q => ∃ (l : Addr) (xs : List V) (i : Int) (y : V), x = .ref l ∧ vs = [.int i, y] ∧ H l = some (.lst xs) ∧ xs.length < sizeLine ∧ 0 ≤ i ∧ i < 2 ^ 63 ∧
    Q .non (upd H l (.lst (xs.take i.toNat ++ [y] ++ xs.drop i.toNat)))
theorem mt_insertA : MtR X "list.insert" rInsert := mt_insert
def gInsert : GM := fun x xs st => match cellL x st, xs with
  | some (i, ys), [.p (.int k), d] => if ys.length < 100000 ∧ 0 ≤ k ∧ k ≤ 100000 then some (.p .none, st.set i (.lst (ys.take k.toNat ++ [d] ++ ys.drop k.toNat))) else none
  | _, _ => none
theorem im_insert : ImM X rInsert gInsert := fun st w H x xs vx vs Q d st2 sim rx rs h l => by
  unfold gInsert at h
  split at h
  · rename_i i ys k d' e
    split at h
    · rename_i hl
      cases h
      obtain ⟨us, rfl, e1, r1, lv, _⟩ := cellL_rd sim rx e
      obtain ⟨vk, v, rfl, rk, rv⟩ := rds2 rs
      obtain rfl := rd_int rk
      obtain ⟨s2, sim2⟩ := cell_wr sim lv (((r1.take k.toNat).append (.cons rv .nil)).append (r1.drop k.toNat))
      refine ⟨w.m i, us, k, v, rfl, rfl, e1, ?_, hl.2.1, by omega, l _ _ _ s2 sim2 (.p .non)⟩
      rw [← r1.length, sizeLine_eq]; omega
    · cases h
  · cases h

/-! ### xs[k] = v, xs a list cell -/
def tgSet (fo fi : FE) : Dv → Sl → So → Rs Unit := fun d ρ st => (fo ρ st).bind fun x st1 => (fi ρ st1).bind fun y st2 => match cellL x st2, y with
  | some (i, ys), .p (.int k) => match ixN ys.length k with
    | some j => .ok () (st2.set i (.lst (ys.set j d)))
    | none => .stuck
  | _, _ => .stuck
def sSet (fa fo fi : FE) : FS := fun ρ st => (fa ρ st).st ρ fun d st1 => (tgSet fo fi d ρ st1).st ρ fun _ st2 => .nx ρ st2
variable {sa : Stmt} {i : Expr} {fi : FE} {p2 : Pos}
theorem pfs_setIx (he : PF X W e fa) (ho : PF X W o fo) (hi : PF X W i fi) (hs : swapsWithSole [.Subscript o i p2] e pos.line X.env = pure false := by rfl) (hw : swappedStores [.Subscript o i p2] e X.env = pure none := by rfl)
    (h1 : (assignEach [.Subscript o i p2] X.env).map (·.2) = [assign (.Subscript o i p2) X.env] := by rfl)
    (ha : ∀ v, assign (.Subscript o i p2) X.env v = (do
      let ov ← holding [v] (eval o X.env)
      let iv ← holding [v, ov] (eval i X.env)
      standAt p2
      holding [v, ov, iv] (setItem ov iv v)
      release [v, ov, iv] []) := by intro _; rfl) : PFS X W (.Assign [.Subscript o i p2] e pos) (sSet fa fo fi) := PS_imp (ps_asg he (pg_sub ho hi set_list ha) hs hw h1) fun D σ H q => by
  obtain ⟨ρ, st, w, sim, er, gd⟩ := q
  refine ⟨ρ, st, w, sim, er, Good.imp (fun v H1 q => ?_) (good_st er gd)⟩
  obtain ⟨st1, w1, d, sim1, s1, r1, er1, gd1⟩ := q
  unfold tgSet at gd1
  refine ⟨ρ, st1, w1, sim1, er1, ?_⟩
  have gd2 := gd1
  clear gd1 gd
  cases e1 : fo ρ st1 with
  | stuck => rw [e1] at gd2; exact gd2.elim
  | exc c fs st' => rw [e1] at gd2; exact fun w2 H2 cv dd s2 sim2 ex => gd2 w2 H2 σ cv dd s2 sim2 (er1.mono s2) ex
  | ok x st2 =>
    rw [e1] at gd2
    intro w2 H2 vx s2 sim2 rx
    refine ⟨ρ, st2, w2, sim2, er1.mono s2, ?_⟩
    have gd3 : GoodS X.K X.mg W st1.length w1 H1 D (((fi ρ st2).bind fun y st2 => match cellL x st2, y with
      | some (i, ys), .p (.int k) => match ixN ys.length k with
        | some j => Rs.ok () (st2.set i (.lst (ys.set j d)))
        | none => .stuck
      | _, _ => .stuck).st ρ fun _ st2 => .nx ρ st2) := gd2
    cases e2 : fi ρ st2 with
    | stuck => rw [e2] at gd3; exact gd3.elim
    | exc c fs st' => rw [e2] at gd3; exact fun w3 H3 cv dd s3 sim3 ex => gd3 w3 H3 σ cv dd (s2.trans s3) sim3 ((er1.mono s2).mono s3) ex
    | ok y st3 =>
      rw [e2] at gd3
      intro w3 H3 vy s3 sim3 ry
      have gd4 : GoodS X.K X.mg W st1.length w1 H1 D (Rs.st (match cellL x st3, y with
      | some (i, ys), .p (.int k) => match ixN ys.length k with
        | some j => Rs.ok () (st3.set i (.lst (ys.set j d)))
        | none => .stuck
      | _, _ => .stuck) ρ fun _ st2 => .nx ρ st2) := gd3
      split at gd4
      · rename_i j ys k ec
        split at gd4
        · rename_i j' ej
          obtain ⟨us, rfl, e5, r5, lv, _⟩ := cellL_rd sim3 (rx.mono s3) ec
          obtain rfl := rd_int ry
          obtain ⟨s4, sim4⟩ := cell_wr sim3 lv (r5.set (((r1.mono s2).mono s3)) j')
          refine ⟨_, us, k, j', rfl, rfl, e5, by rw [← r5.length]; exact ej, ?_⟩
          exact gd4 _ _ σ ((s2.trans s3).trans s4) sim4 (((er1.mono s2).mono s3).mono s4)
        · exact gd4.elim
      · exact gd4.elim

/-! ### name op= e -/
def sAug (i : Nat) (g : G2) (fe : FE) : FS := fun ρ st => match ρ[i]? with
  | some (some d) => (fe ρ st).st ρ fun y st1 => match g d y st1 with
    | some z => .nx (ρ.set i (some z)) st1
    | none => .stuck
  | _ => .stuck
theorem pfs_aug {j : Nat} {x : Str} {op : Operator} {rr : R2} {g2 : G2} (hN : X.N.Nodup) (hop : OpR X (inplaceOp op) rr) (him : Im2 X rr g2) (he : PF X W e fa) (hj : X.N[j]? = some x := by rfl) (hx : Loc X.env.scope x := by first | exact .inl rfl | exact .inr rfl)
    (hf : X.fn x = true ∨ X.env.scope.names.lookup x = some .local := by first | exact .inl rfl | exact .inr rfl) : PFS X W (.AugAssign (.Name x p2) op e pos) (sAug j g2 fa) := PS_imp (ps_aug hN hj hx he (ti := rr) hop hf) fun D σ H q => by
  obtain ⟨ρ, st, w, sim, er, gd⟩ := q
  unfold sAug at gd
  split at gd
  · rename_i d hd
    obtain ⟨v, ev, rv⟩ := er.2 j d hd
    refine ⟨v, ev, ρ, st, w, sim, er, Good.imp (fun y H1 q => ?_) (good_st er gd)⟩
    obtain ⟨st1, w1, d1, sim1, s1, r1, er1, gd1⟩ := q
    split at gd1
    · rename_i z hz
      exact him st1 w1 H1 d d1 v y _ z sim1 (rv.mono s1) r1 hz fun w' H' v' s' sim' r' => gd1 w' H' _ s' sim' ((er1.mono s').set r' j)
    · exact gd1.elim
  · exact gd.elim
theorem op_iaddI : OpR X (inplaceOp .Add) (rI0 fun i j => .int (i + j)) := iop_add
abbrev gAddI : G2 := gI0 fun i j => .int (i + j)
theorem im_addI : Im2 X (rI0 fun i j => .int (i + j)) gAddI := im_I0 fun _ _ _ _ => .int _
/-- found *= i, small factors -/
abbrev gMulI : G2 := gI (fun _ j => decide (j.natAbs < 2 ^ 64)) fun i j => .int (i * j)
theorem im_mulI : Im2 X (rI CMul fun i j => .int (i * j)) gMulI := im_I (fun i j h => by
  have := of_decide_eq_true h
  exact .inr (by omega)) fun _ _ _ _ => .int _
/-- xs += ys on a list cell: the tracked list grows -/
def sExt (i : Nat) (fe : FE) : FS := fun ρ st => match ρ[i]? with
  | some (some d) => (fe ρ st).st ρ fun y st1 => match cellL d st1, lstOf y st1 with
    | some (j, xs), some ys => if xs.length + ys.length ≤ 100000 then .nx ρ (st1.set j (.lst (xs ++ ys))) else .stuck
    | _, _ => .stuck
  | _ => .stuck
theorem pfs_ext {j : Nat} {x : Str} (hN : X.N.Nodup) (he : PF X W e fa) (hj : X.N[j]? = some x := by rfl) (hx : Loc X.env.scope x := by first | exact .inl rfl | exact .inr rfl)
    (hf : X.fn x = true ∨ X.env.scope.names.lookup x = some .local := by first | exact .inl rfl | exact .inr rfl) : PFS X W (.AugAssign (.Name x p2) .Add e pos) (sExt j fa) := PS_imp (ps_aug hN hj hx he (ti := rExt2) iop_ext hf) fun D σ H q => by
  obtain ⟨ρ, st, w, sim, er, gd⟩ := q
  unfold sExt at gd
  split at gd
  · rename_i d hd
    obtain ⟨v, ev, rv⟩ := er.2 j d hd
    refine ⟨v, ev, ρ, st, w, sim, er, Good.imp (fun y H1 q => ?_) (good_st er gd)⟩
    obtain ⟨st1, w1, d1, sim1, s1, r1, er1, gd1⟩ := q
    split at gd1
    · rename_i k xs ys ec el
      split at gd1
      · rename_i hl
        obtain ⟨us, rfl, e1, r2, lv, _⟩ := cellL_rd sim1 (rv.mono s1) ec
        obtain ⟨b, vs, rfl, r3, e3⟩ := lst_rd sim1 r1 el
        obtain ⟨s4, sim4⟩ := cell_wr sim1 lv (r2.append r3)
        refine ⟨w1.m k, b, us, vs, rfl, rfl, e1, e3, by rw [← r2.length, ← r3.length]; exact le_line hl, ?_⟩
        have hσ : σ.set j (some (V.ref (w1.m k))) = σ := by
          obtain ⟨h1, h2⟩ := List.getElem?_eq_some_iff.mp ev
          rw [← h2]
          exact List.set_getElem_self h1
        show D.nx (σ.set j (some (V.ref (w1.m k)))) _
        rw [hσ]
        exact gd1 _ _ σ s4 sim4 (er1.mono s4)
      · exact gd1.elim
    · exact gd1.elim
  · exact gd.elim

/-! ### dicts with ints and texts as keys: cells -/
def keyD : Dv → Option Key
  | .p (.int i) => some (.inl i)
  | .p (.str x) => some (.inr x)
  | _ => none
def dictOf (d : Dv) (st : So) : Option (Nat × List (Key × Dv)) := match d with
  | .ref i => match st[i]? with
    | some (.dK kvs) => some (i, kvs)
    | _ => none
  | _ => none
def atK (kvs : List (Key × Dv)) (k : Key) : Option Dv := (kvs.find? fun kv => decide (kv.1 = k)).map (·.2)
def putD (kvs : List (Key × Dv)) (k : Key) (v : Dv) : List (Key × Dv) :=
  if (kvs.any fun kv => decide (kv.1 = k)) = true then kvs.map (fun kv => if kv.1 = k then (kv.1, v) else kv) else kvs ++ [(k, v)]
abbrev PKV (K : PySem.W.Frag) (mg : Str → Option Value) (n : Nat) (w : Wd) (H : Hp) : List (Key × Dv) → List (Key × V) → Prop := Paired fun p q => p.1 = q.1 ∧ RD K mg n w H p.2 q.2
theorem keyD_rd {d : Dv} {v : V} {k : Key} (r : RD K mg n w H d v) (h : keyD d = some k) : v = kV k := by
  unfold keyD at h
  split at h
  · cases h; exact rd_int r
  · cases h; exact rd_str r
  · cases h
theorem dict_rd {st : So} {d : Dv} {v : V} {i : Nat} {kvs : List (Key × Dv)} (s : Sim K mg w st H) (rd : RD K mg st.length w H d v) (h : dictOf d st = some (i, kvs)) :
    ∃ kws, v = .ref (w.m i) ∧ H (w.m i) = some (.dK kws) ∧ PKV K mg st.length w H kvs kws ∧ live st i ∧ st[i]? = some (.dK kvs) := by
  unfold dictOf at h
  split at h
  · rename_i j
    split at h
    · rename_i ys e
      cases h
      cases rd
      obtain ⟨vs, e1, r1, _⟩ := s.cell _ _ e
      exact ⟨vs, rfl, e1, r1, ⟨_, e, by simp⟩, e⟩
    · cases h
  · cases h
theorem pkv_at {k : Key} : ∀ {kvs : List (Key × Dv)} {kws : List (Key × V)}, PKV K mg n w H kvs kws → (atK kvs k = none ∧ valV kws k = none) ∨ ∃ d v, atK kvs k = some d ∧ valV kws k = some v ∧ RD K mg n w H d v
  | _, _, .nil => .inl ⟨rfl, rfl⟩
  | p :: kvs, q :: kws, .cons h t => by
    obtain ⟨h1, h2⟩ := h
    by_cases hk : p.1 = k
    · have hq : q.1 = k := h1 ▸ hk
      refine .inr ⟨p.2, q.2, ?_, valV_pos hq, h2⟩
      unfold atK
      rw [List.find?_cons, decide_eq_true hk]; rfl
    · have hq : ¬ q.1 = k := fun z => hk (h1.trans z)
      have e1 : atK (p :: kvs) k = atK kvs k := by
        unfold atK
        rw [List.find?_cons, decide_eq_false hk]
      rw [e1, valV_neg hq]
      exact pkv_at t
theorem pkv_any {k : Key} : ∀ {kvs : List (Key × Dv)} {kws : List (Key × V)}, PKV K mg n w H kvs kws → (kvs.any fun kv => decide (kv.1 = k)) = (kws.any fun kv => decide (kv.1 = k))
  | _, _, .nil => rfl
  | _, _, .cons h t => by rw [List.any_cons, List.any_cons, pkv_any t, h.1]
theorem pkv_map {k : Key} {d : Dv} {v : V} (r : RD K mg n w H d v) : ∀ {kvs : List (Key × Dv)} {kws : List (Key × V)}, PKV K mg n w H kvs kws →
    PKV K mg n w H (kvs.map fun kv => if kv.1 = k then (kv.1, d) else kv) (kws.map fun kv => if kv.1 = k then (kv.1, v) else kv)
  | _, _, .nil => .nil
  | p :: kvs, q :: kws, .cons h t => by
    rw [List.map_cons, List.map_cons]
    refine .cons ?_ (pkv_map r t)
    by_cases hk : p.1 = k
    · rw [if_pos hk, if_pos (h.1 ▸ hk)]
      exact ⟨h.1, r⟩
    · rw [if_neg hk, if_neg (fun z => hk (h.1.trans z))]
      exact h
theorem pkv_app : ∀ {kvs kvs' : List (Key × Dv)} {kws kws' : List (Key × V)}, PKV K mg n w H kvs kws → PKV K mg n w H kvs' kws' → PKV K mg n w H (kvs ++ kvs') (kws ++ kws')
  | _, _, _, _, .nil, h => h
  | _, _, _, _, .cons h t, h' => .cons h (pkv_app t h')
theorem pkv_put {k : Key} {d : Dv} {v : V} {kvs : List (Key × Dv)} {kws : List (Key × V)} (h : PKV K mg n w H kvs kws) (r : RD K mg n w H d v) : PKV K mg n w H (putD kvs k d) (putK kws k v) := by
  unfold putD putK
  rw [pkv_any h]
  split
  · exact pkv_map r h
  · exact pkv_app h (.cons ⟨rfl, r⟩ .nil)
theorem pkv_len : ∀ {kvs : List (Key × Dv)} {kws : List (Key × V)}, PKV K mg n w H kvs kws → kvs.length = kws.length
  | _, _, .nil => rfl
  | _, _, .cons _ t => by rw [List.length_cons, List.length_cons, pkv_len t]
theorem pkv_mono {n' : Nat} {w' : Wd} {H' : Hp} {kvs : List (Key × Dv)} {kws : List (Key × V)} (g : Stp n w H n' w' H') (h : PKV K mg n w H kvs kws) : PKV K mg n' w' H' kvs kws := Paired.imp (fun _ _ z => ⟨z.1, z.2.mono g⟩) h
theorem dcell_wr {st : So} {i : Nat} {kvs : List (Key × Dv)} {kws : List (Key × V)} (s : Sim K mg w st H) (hl : live st i) (r : PKV K mg st.length w H kvs kws) :
    Stp st.length w H (st.set i (.dK kvs)).length w (upd H (w.m i) (.dK kws)) ∧ Sim K mg w (st.set i (.dK kvs)) (upd H (w.m i) (.dK kws)) := by
  rw [List.length_set]
  exact s.wr (o := .dK kws) (c := .dK kvs) hl fun {w' H'} g e nI => ⟨kws, e, pkv_mono g r, nI⟩
/-- d[k] -/
def rDix : R2 := fun x y H Q => ∃ a v, x = .ref a ∧ DGet H a y (some v) ∧ Q v H
theorem ix_dict (hu : X.A.units + 1 < cLine) : IxR X rDix := by
  intro value slice pins s σ H x y v u Q I rx ry h hs
  obtain ⟨a, z, rfl, g, q⟩ := h
  cases rx
  exact tail_any (dict_typeIs I g) PySem.F.slot_dict_getitem.lookup (d_getItem hu I g ry fun w' s3 I3 rw' => ⟨z, H, I3, rw', q⟩) hs
def gIxA : G2 := fun x y st => match dictOf x st with
  | some (_, kvs) => match keyD y with
    | some k => atK kvs k
    | none => none
  | none => gIx x y st
def rIxA (K : PySem.W.Frag) : R2 := fun x y H Q => rIx K x y H Q ∨ rDix x y H Q
theorem ix_any (hu : X.A.units + 1 < cLine) : IxR X (rIxA X.K) := IxR.or ix_seq (ix_dict hu)
theorem im_ixA : Im2 X (rIxA X.K) gIxA := fun st w H x y vx vy Q d sim rx ry h l => by
  unfold gIxA at h
  split at h
  · rename_i i kvs e
    split at h
    · rename_i k ek
      obtain ⟨kws, rfl, e1, r1, lv, _⟩ := dict_rd sim rx e
      obtain rfl := keyD_rd ry ek
      rcases pkv_at (k := k) r1 with ⟨h1, _⟩ | ⟨d', v, h1, h2, h3⟩
      · rw [h] at h1; cases h1
      · rw [h] at h1
        cases h1
        exact .inr ⟨_, v, rfl, by rw [← h2]; exact DGet.k e1, l w H _ .refl sim h3⟩
    · cases h
  · exact .inl (im_ix st w H x y vx vy Q d sim rx ry h l)
/-- d.get(k, x) -/
def fGet2 (fo fk fd : FE) : FE := fun ρ st => (fo ρ st).bind fun x st1 => match dictOf x st1 with
  | some _ => (fk ρ st1).bind fun y st2 => (fd ρ st2).bind fun z st3 => match dictOf x st3, keyD y with
    | some (_, kvs), some k => .ok ((atK kvs k).getD z) st3
    | _, _ => .stuck
  | none => .stuck
variable {k f : Expr} {fk fd : FE}
theorem pf_get2 (hu : X.A.units + 1 < cLine) (ho : PF X W o fo) (hk : PF X W k fk) (hf : PF X W f fd) (m : M2 X o "get" apos k f cpos := by exact ⟨by rfl, by rfl, by rfl, by rfl⟩) : PF X W (.Call (.Attribute o "get" apos) [k, f] [] cpos) (fGet2 fo fk fd) := PE_imp (pe_dget2 hu ho hk hf m) fun σ H Q h => by
  obtain ⟨ρ, st, w, sim, er, gd⟩ := h
  refine ⟨ρ, st, w, sim, er, Good.imp (fun x H1 q => ?_) (Good.bind gd)⟩
  obtain ⟨st1, w1, d1, sim1, s1, r1, gd1⟩ := q
  split at gd1
  · rename_i pr ex
    obtain ⟨kws, rfl, e1, _, _, _⟩ := dict_rd (i := pr.1) (kvs := pr.2) sim1 r1 ex
    refine ⟨_, rfl, .inl ⟨kws, .inl e1⟩, ρ, st1, w1, sim1, er.mono s1, Good.imp (fun y H2 q => ?_) (Good.bind gd1)⟩
    obtain ⟨st2, w2, d2, sim2, s2, r2, gd2⟩ := q
    refine ⟨ρ, st2, w2, sim2, (er.mono s1).mono s2, Good.imp (fun z H3 q => ?_) (Good.bind gd2)⟩
    obtain ⟨st3, w3, d3, sim3, s3, r3, gd3⟩ := q
    split at gd3
    · rename_i i kvs kk e3 ek
      obtain ⟨kws', e4, e5, r5, _, _⟩ := dict_rd sim3 ((r1.mono s2).mono s3) e3
      obtain rfl := keyD_rd (r2.mono s3) ek
      have ea : w1.m pr.1 = w3.m i := V.ref.inj e4
      rw [ea]
      refine ⟨_, DGet.k e5, ?_⟩
      rcases pkv_at (k := kk) r5 with ⟨h1, h2⟩ | ⟨d', v, h1, h2, h3⟩
      · rw [h1] at gd3
        rw [h2]
        exact gd3 w3 H3 _ .refl sim3 r3
      · rw [h1] at gd3
        rw [h2]
        exact gd3 w3 H3 _ .refl sim3 h3
    · exact gd3.elim
  · exact gd1.elim
end
end FB
set_option Elab.async false
set_option linter.all false
set_option maxRecDepth 100000
set_option maxHeartbeats 4000000
/-! FB7: comprehensions that make dicts. -/
namespace FB
open PySem PySem.Spec PyProof.Rows L2 RZ

def dcL (n : Nat) (tg : Tg) (tt : FT) (fk fv : FE) (ρ : Sl) : List Dv → So → Rs Dv
  | [], st => .ok (.ref n) st
  | d :: ds, st => match tgF tg d ρ with
    | none => .stuck
    | some ρ' => (tt ρ' st).bindN fun b st1 => if b then (fk ρ' st1).bindN fun y st2 => (fv ρ' st2).bindN fun z st3 => match keyD y, dictOf (.ref n) st3 with
        | some k, some (_, kvs) => if kvs.length ≤ 100000 then dcL n tg tt fk fv ρ ds (st3.set n (.dK (putD kvs k z))) else .stuck
        | _, _ => .stuck
      else dcL n tg tt fk fv ρ ds st1
/-- {k: v for tg in iter if ..}: a new cell -/
def fDc (fi : FA) (tg : Tg) (tt : FT) (fk fv : FE) : FE := fun ρ st => (fi ρ st).bind fun items st1 => dcL st1.length tg tt fk fv (rhoW ρ (tgS tg)) items (st1 ++ [.dK []])
section
variable {X : Cx} {K : PySem.W.Frag} {mg : Str → Option Value} {W : WX} {pos : Pos}
theorem dcmp_ok {Wc : WX} {σ : L2.St} {n0 : Nat} {st1 : So} {w1 : Wd} {H1 : Hp} {J : It} {items : List Dv} {tg : Tg} {tt : FT} {fk fv : FE} {ρ : Sl} {D : Addr} {Q : VK}
    (it : ItOk K mg st1.length w1 H1 items J) (er : EnvR K mg st1.length w1 H1 ρ (wipe σ (tgS tg))) (sim1 : Sim K mg w1 st1 H1) (hn0 : n0 < st1.length) (hD : w1.m n0 = D)
    (gd : Good (RD K mg) K mg Wc σ st1.length w1 H1 Q (dcL n0 tg tt fk fv ρ items st1)) :
    ∃ Wn : Nat → Nat → Hp → Prop, (∃ m, Wn 0 m H1) ∧ ∀ i m H, Wn i m H →
      (J.stop i H ∧ Q (.ref D) H) ∨ (J.go i H ∧ ∃ Nx : Hp → Prop, (∀ H', Nx H' → ∃ m', m' < m ∧ Wn (i + 1) m' H') ∧ ∀ x H', J.yld i H x H' → tgG K tg x (wipe σ (tgS tg)) H' fun σ2 H2 => wipe σ2 (tgS tg) = wipe σ (tgS tg) ∧ TFT K mg W0 tt σ2 H2 fun b H3 =>
        if b = true then TF K mg W0 fk σ2 H3 fun y H4 => TF K mg W0 fv σ2 H4 fun z H5 => ∃ kvs k, y = kV k ∧ H5 D = some (.dK kvs) ∧ kvs.length < sizeLine ∧ Nx (upd H5 D (.dK (putK kvs k z))) else Nx H3) := by
  refine ⟨fun i m H => m = items.length - i ∧ i ≤ items.length ∧ ∃ st w, Sim K mg w st H ∧ Stp st1.length w1 H1 st.length w H ∧
    Good (RD K mg) K mg Wc σ st.length w H Q (dcL n0 tg tt fk fv ρ (items.drop i) st),
    ⟨items.length, rfl, Nat.zero_le _, st1, w1, sim1, .refl, gd⟩, ?_⟩
  rintro i m H ⟨rfl, hi, st, w, sim, s0, gd0⟩
  by_cases hlt : i < items.length
  · have e0 : items[i]? = some items[i] := List.getElem?_eq_getElem hlt
    obtain ⟨go, yl⟩ := it.go i _ w _ st e0 s0 sim
    refine .inr ⟨go, fun H' => ∃ st' w', Sim K mg w' st' H' ∧ Stp st1.length w1 H1 st'.length w' H' ∧ Good (RD K mg) K mg Wc σ st'.length w' H' Q (dcL n0 tg tt fk fv ρ (items.drop (i + 1)) st'), ?_, ?_⟩
    · rintro H' ⟨st', w', q⟩
      exact ⟨items.length - (i + 1), by omega, rfl, hlt, st', w', q⟩
    · intro x H3 hy
      obtain ⟨w3, s3, sim3, r3⟩ := yl x H3 hy
      rw [List.drop_eq_getElem_cons hlt] at gd0
      unfold dcL at gd0
      split at gd0
      · exact gd0.elim
      · rename_i ρ' hρ
        refine tg_ok (vs := tgS tg) tg _ x ρ ρ' _ (wipe σ (tgS tg)) _ r3 (er.mono (s0.trans s3)) hρ (fun _ h => h) rfl fun σ4 er4 hw4 => ⟨hw4.trans (wipe_idem fun _ h => h), ρ', st, w3, sim3, er4, ?_⟩
        cases et : tt ρ' st with
        | stuck => rw [et] at gd0; exact gd0.elim
        | exc c fs st' => rw [et] at gd0; exact gd0.elim
        | ok b st4 =>
          rw [et] at gd0
          intro w4 H4 b' s4 sim4 eb
          obtain rfl : b = b' := eb
          cases b with
          | false =>
            have gd0 : Good (RD K mg) K mg Wc σ st.length w H Q (dcL n0 tg tt fk fv ρ (items.drop (i + 1)) st4) := gd0
            rw [if_neg Bool.false_ne_true]
            exact ⟨st4, w4, sim4, (s0.trans s3).trans s4, gd0.later (s3.trans s4)⟩
          | true =>
            have gd0 : Good (RD K mg) K mg Wc σ st.length w H Q ((fk ρ' st4).bindN fun y st2 => (fv ρ' st2).bindN fun z st3 => match keyD y, dictOf (.ref n0) st3 with
              | some k, some (_, kvs) => if kvs.length ≤ 100000 then dcL n0 tg tt fk fv ρ (items.drop (i + 1)) (st3.set n0 (.dK (putD kvs k z))) else .stuck
              | _, _ => .stuck) := gd0
            rw [if_pos rfl]
            refine ⟨ρ', st4, w4, sim4, er4.mono s4, ?_⟩
            cases ef : fk ρ' st4 with
            | stuck => rw [ef] at gd0; exact gd0.elim
            | exc c fs st' => rw [ef] at gd0; exact gd0.elim
            | ok y st5 =>
              rw [ef] at gd0
              intro w5 H5 vy s5 sim5 r5
              refine ⟨ρ', st5, w5, sim5, (er4.mono s4).mono s5, ?_⟩
              have gd0 : Good (RD K mg) K mg Wc σ st.length w H Q ((fv ρ' st5).bindN fun z st3 => match keyD y, dictOf (.ref n0) st3 with
                | some k, some (_, kvs) => if kvs.length ≤ 100000 then dcL n0 tg tt fk fv ρ (items.drop (i + 1)) (st3.set n0 (.dK (putD kvs k z))) else .stuck
                | _, _ => .stuck) := gd0
              cases eg : fv ρ' st5 with
              | stuck => rw [eg] at gd0; exact gd0.elim
              | exc c fs st' => rw [eg] at gd0; exact gd0.elim
              | ok z st6 =>
                rw [eg] at gd0
                intro w6 H6 vz s6 sim6 r6
                have gd0 : Good (RD K mg) K mg Wc σ st.length w H Q (match keyD y, dictOf (.ref n0) st6 with
                  | some k, some (_, kvs) => if kvs.length ≤ 100000 then dcL n0 tg tt fk fv ρ (items.drop (i + 1)) (st6.set n0 (.dK (putD kvs k z))) else .stuck
                  | _, _ => .stuck) := gd0
                have sAll : Stp st1.length w1 H1 st6.length w6 H6 := (((s0.trans s3).trans s4).trans s5).trans s6
                have rD : RD K mg st6.length w6 H6 (.ref n0) (.ref D) := by
                  rw [← hD, ← sAll.ext n0 hn0]
                  exact .ref (Nat.lt_of_lt_of_le hn0 sAll.le)
                split at gd0
                · rename_i k j kvs ek ed
                  split at gd0
                  · rename_i hl
                    obtain ⟨kws, e1, e2, r2, lv, e3⟩ := dict_rd sim6 rD ed
                    obtain rfl := keyD_rd (r5.mono s6) ek
                    have ej : j = n0 := by
                      unfold dictOf at ed
                      dsimp only at ed
                      split at ed
                      · cases ed; rfl
                      · cases ed
                    subst ej
                    have eD : D = w6.m j := V.ref.inj e1
                    obtain ⟨s7, sim7⟩ := dcell_wr sim6 lv (pkv_put (k := k) r2 r6)
                    rw [eD]
                    refine ⟨kws, k, rfl, e2, ?_, _, w6, sim7, sAll.trans s7, gd0.later ((((s3.trans s4).trans s5).trans s6).trans s7)⟩
                    rw [← pkv_len r2, sizeLine_eq]; omega
                  · exact gd0.elim
                · exact gd0.elim
  · have e : i = items.length := by omega
    subst e
    rw [List.drop_length] at gd0
    refine .inl ⟨it.stop _ _ _ s0, ?_⟩
    refine gd0 w H _ .refl sim ?_
    rw [← hD, ← s0.ext n0 hn0]
    exact .ref (Nat.lt_of_lt_of_le hn0 s0.le)
theorem tf_dc {fi : FA} {tg : Tg} {tt : FT} {fk fv : FE} {σ : L2.St} {H : Hp} {Q : VK} (h : TF K mg W (fDc fi tg tt fk fv) σ H Q) : tDc (TFI K mg W fi) (tgG K tg) (TFT K mg W0 tt) (TF K mg W0 fk) (TF K mg W0 fv) (tgS tg) σ H Q := by
  obtain ⟨ρ, st, w, sim, er, gd⟩ := h
  refine ⟨ρ, st, w, sim, er, Good.imp (fun J H1 q => ?_) (Good.bind gd)⟩
  obtain ⟨st1, w1, items, sim1, s1, it, gd1⟩ := q
  intro D hD
  obtain ⟨s2, sim2⟩ := sim1.newC (o := .dK []) (c := .dK []) hD fun {n' w' H'} g e nI => ⟨[], e, .nil, nI⟩
  have hlen : (st1 ++ [Cl.dK []]).length = st1.length + 1 := by rw [List.length_append, List.length_singleton]
  rw [← hlen] at s2
  refine dcmp_ok (n0 := st1.length) (it.later s2) ((envW (er.mono s1) _).mono s2) sim2 (by rw [hlen]; exact Nat.lt_succ_self _) ?_ (gd1.later s2)
  show (if st1.length = st1.length then D else _) = D
  rw [if_pos rfl]
theorem pf_dc {kx vx te iter : Expr} {ifs : List Expr} {scope : Scope} {own : List (Str × Nat)} {fi : FA} {tg : Tg} {tt : FT} {fk fv : FE} (hc : X.calm = true) (hN : X.N.Nodup) (hi : PFI X W te iter fi) (ok : BlkOk X.N X.env.scope scope own) (ho : own.map (·.2) = tgS tg)
    (hg : ∀ (s : Shared) (H : Hp) (C : Addr) (cl : List (Str × Addr)) (fp : List Addr), PG (X.blk s H scope (compEnvC scope cl C X.env) fp) te (tgG X.K tg)) (ht : ∀ (s : Shared) (H : Hp) (C : Addr) (cl : List (Str × Addr)) (fp : List Addr), PTs (X.blk s H scope (compEnvC scope cl C X.env) fp) ifs (TFT X.K X.mg W0 tt))
    (hk : ∀ (s : Shared) (H : Hp) (C : Addr) (cl : List (Str × Addr)) (fp : List Addr), PF (X.blk s H scope (compEnvC scope cl C X.env) fp) W0 kx fk)
    (he : ∀ (s : Shared) (H : Hp) (C : Addr) (cl : List (Str × Addr)) (fp : List Addr), PF (X.blk s H scope (compEnvC scope cl C X.env) fp) W0 vx fv) (hs : ∀ x, foldedSetIterable iter X.env x = pure x := by intro _; rfl) :
    PF X W (.DictComp kx vx [⟨te, iter, ifs, 0⟩] scope pos) (fDc fi tg tt fk fv) := PE_imp (pe_dc (tk := TF X.K X.mg W0 fk) (tv := TF X.K X.mg W0 fv) hc hN hi ok hg ht hk he hs) fun σ H Q h => by
  rw [ho]
  exact tf_dc h

theorem sw_trueD {kx vx : Expr} {gs : List Comprehension} {scope : Scope} {pos py : Pos} {y : Str} {l : Nat} {env : Env} (hk : env.scope.kind = .function) (hy : env.scope.names.lookup y = some .local) (hl : (py.line == pos.line) = true)
    (ha : (scope.names.any fun (n, k) => n == y && (k == .local || k == .cell)) = false) : swapsWith (.DictComp kx vx gs scope pos) (some (.Name y py)) l env = pure true := by
  have ky : env.kindOf y = some .local := hy
  have hb : env.blockKind = .function := by unfold Env.blockKind; rw [hk]; rfl
  unfold swapsWith
  simp only [hb, ky, ha, Expr.pos, hl]
  rfl
theorem ps_setDc {i : Nat} {y : Str} {py : Pos} {kx vx tg iter : Expr} {ifs : List Expr} {scope : Scope} {own : List (Str × Nat)} {pos spos : Pos} {wi : TI} {g : TG} {tt : TT} {tk tv : TE} (hc : X.calm = true) (hN : X.N.Nodup) (hy : X.N[i]? = some y) (hyl : X.env.scope.names.lookup y = some .local)
    (hsw : swapsWith (.DictComp kx vx [⟨tg, iter, ifs, 0⟩] scope pos) (some (.Name y py)) spos.line X.env = pure true) (hi : PI X tg iter wi) (ok : BlkOk X.N X.env.scope scope own)
    (hg : ∀ (s : Shared) (H : Hp) (C : Addr) (cl : List (Str × Addr)) (fp : List Addr), PG (X.blk s H scope (compEnvC scope cl C X.env) fp) tg g) (ht : ∀ (s : Shared) (H : Hp) (C : Addr) (cl : List (Str × Addr)) (fp : List Addr), PTs (X.blk s H scope (compEnvC scope cl C X.env) fp) ifs tt)
    (hk : ∀ (s : Shared) (H : Hp) (C : Addr) (cl : List (Str × Addr)) (fp : List Addr), PE (X.blk s H scope (compEnvC scope cl C X.env) fp) kx tk)
    (he : ∀ (s : Shared) (H : Hp) (C : Addr) (cl : List (Str × Addr)) (fp : List Addr), PE (X.blk s H scope (compEnvC scope cl C X.env) fp) vx tv) (hs : ∀ x, foldedSetIterable iter X.env x = pure x := by intro _; rfl) :
    PS X (.Assign [.Name y py] (.DictComp kx vx [⟨tg, iter, ifs, 0⟩] scope pos) spos) (tAsg (tDc wi g tt tk tv (own.map (·.2))) (gName i)) := by
  refine ⟨fun pins s σ H D I h => ?_⟩
  rw [exec_Assign_Name_used _ _ _ _ hsw]
  refine wpAny_bind (wpAny_standAt (wpAny_bind ?_))
  show wpAny _ X.A (do let _ ← comprehension (.DictComp kx vx [⟨tg, iter, ifs, 0⟩] scope pos) scope X.env (firstIterPos [⟨tg, iter, ifs, 0⟩] pos) newDict false (eval iter X.env) (some (assign (.Name y py) X.env))) _ _ s
  have h : tDc wi g tt tk tv (own.map (·.2)) σ H (fun x H1 => gName i x σ H1 D.nx) := h
  refine wpAny_bind (thn (dc_core (Qf := fun _ s' => SP X pins D .next s') hc hN I hi ok hg ht hk he hs h fun L C s' m H' I' q hn f => ?_) fun _ s' hq => wpAny_pure (wpAny_pure hq))
  show wpAny _ _ (assign (.Name y py) X.env (.ref L)) _ _ _
  refine wpAny_assign_Name (store_ok2 (v := V.ref L) I' hN hy (.inl hyl) rfl (fun s2 I2 ⟨a, sb, ha⟩ => ?_) (.inr hyl))
  obtain ⟨f0, f1, f2, f3, f4, f5⟩ := f
  have haC : C ≠ a := by
    rcases ha with z | z
    · rw [z]; exact f1
    · exact fun e => f4 y a z e.symm
  refine ⟨m, hn.sameBut sb haC, fun h3 sb3 => ?_⟩
  exact ⟨_, H', I2.turned (t' := s2.toks) (fun b o hb e => (sb3.2 b hb).trans e) f0 f1 f3 f4 f5, q⟩
theorem pfs_setDc {i : Nat} {y : Str} {py spos : Pos} {kx vx te iter : Expr} {ifs : List Expr} {scope : Scope} {own : List (Str × Nat)} {fi : FA} {tg : Tg} {tt : FT} {fk fv : FE} (hc : X.calm = true) (hN : X.N.Nodup) (hi : PFI X W te iter fi) (ok : BlkOk X.N X.env.scope scope own) (ho : own.map (·.2) = tgS tg)
    (hg : ∀ (s : Shared) (H : Hp) (C : Addr) (cl : List (Str × Addr)) (fp : List Addr), PG (X.blk s H scope (compEnvC scope cl C X.env) fp) te (tgG X.K tg)) (ht : ∀ (s : Shared) (H : Hp) (C : Addr) (cl : List (Str × Addr)) (fp : List Addr), PTs (X.blk s H scope (compEnvC scope cl C X.env) fp) ifs (TFT X.K X.mg W0 tt))
    (hk : ∀ (s : Shared) (H : Hp) (C : Addr) (cl : List (Str × Addr)) (fp : List Addr), PF (X.blk s H scope (compEnvC scope cl C X.env) fp) W0 kx fk)
    (he : ∀ (s : Shared) (H : Hp) (C : Addr) (cl : List (Str × Addr)) (fp : List Addr), PF (X.blk s H scope (compEnvC scope cl C X.env) fp) W0 vx fv)
    (hsw : swapsWith (.DictComp kx vx [⟨te, iter, ifs, 0⟩] scope pos) (some (.Name y py)) spos.line X.env = pure true)
    (hy : X.N[i]? = some y := by rfl) (hyl : X.env.scope.names.lookup y = some .local := by rfl) (hs : ∀ x, foldedSetIterable iter X.env x = pure x := by intro _; rfl) :
    PFS X W (.Assign [.Name y py] (.DictComp kx vx [⟨te, iter, ifs, 0⟩] scope pos) spos) (sAsg (fDc fi tg tt fk fv) (.nm i)) := PS_imp (ps_setDc (tk := TF X.K X.mg W0 fk) (tv := TF X.K X.mg W0 fv) hc hN hy hyl hsw hi ok hg ht hk he hs) fun D σ H h => by
  have h2 := tfs_asg h
  rw [ho]
  exact tf_dc h2
end
end FB
set_option Elab.async false
set_option linter.all false
set_option maxRecDepth 100000
set_option maxHeartbeats 4000000
/-! FBE: enumerate(a tuple). -/
namespace FB
open PySem PySem.Spec PyProof.Rows L2 RZ
set_option maxHeartbeats 4000000 in
theorem meets_enum_newT (t : Addr) (items : Array Value) :
    Meets (Builtin.«enumerate.__new__» ⟨[.type "enumerate", .ref t], []⟩) (fun _ R s => s.heap.IsTuple t items ∧
      R (.ok (.ret (.ref (s.heap.push { cls := .type "tuple_iterator", data := .fields #[.ref t, .int 0 0] }).objs.size))) { s with heap := (s.heap.push { cls := .type "tuple_iterator", data := .fields #[.ref t, .int 0 0] }).push { cls := .type "enumerate", data := .fields #[.none, .bool false, .ref s.heap.objs.size, rawInt 0, .none, .none] } }) :=
  .of_wp fun prog w A R s h => by
    obtain ⟨hp, g, d, tk, os⟩ := s; obtain ⟨h1, h⟩ := h
    have hsub := sub_enumerate
    have q1 : ∀ {A' : Around} {E : Value → Shared → Prop} {Q : Value → Shared → Prop}, Q (.ref hp.objs.size) ⟨hp.push { cls := .type "tuple_iterator", data := .fields #[.ref t, .int 0 0] }, g, d, tk, os⟩ → wpAny (model prog w) A' (pyIter (.ref t)) Q E ⟨hp, g, d, tk, os⟩ :=
      fun q => wpAny_pyIter_tuple h1 q
    wp_walk using q1
    refine wpAny_stack_any fun st => wpAny_pure ?_
    split
    · rename_i c _ _ _ _ _
      cases (c == Value.type "enumerate")
      · wp_walk using q1
        exact ⟨_, rfl, h⟩
      · wp_walk using q1
        exact ⟨_, rfl, h⟩
    · wp_walk using q1
      exact ⟨_, rfl, h⟩
section
variable {prog : Program} {w : World} {A : Around} {E : Value → Shared → Prop} {s : Shared}
theorem call_enumT {t : Addr} {items : Array Value} {Q : Value → Shared → Prop} (hT : s.heap.IsTuple t items)
    (h : ∀ h', IsEnum h' (s.heap.objs.size + 1) s.heap.objs.size 0 .none → h'.IsTupleIter s.heap.objs.size t 0 → h'.objs.size = s.heap.objs.size + 2 →
      (∀ b o, s.heap.get? b = some o → h'.get? b = some o) → Q (.ref (s.heap.objs.size + 1)) { s with heap := h' }) :
    wpAny (model prog w) A (call (.type "enumerate") [.ref t]) Q E s := by
  refine callType_new F.called_enumerate (by decide) (F.typeCall_enumerate_1 _) (F.newCall_enumerate_1 _) (fun obj => F.args_object_init_2 obj _) F.entry_enumerate_new
    (meets_enum_newT t items) ⟨hT, ?_⟩
  have hz : (s.heap.push { cls := .type "tuple_iterator", data := .fields #[.ref t, .int 0 0] }).objs.size = s.heap.objs.size + 1 := Heap.size_push ..
  show _ ∧ _
  rw [hz]
  have he : IsEnum ((s.heap.push { cls := .type "tuple_iterator", data := .fields #[.ref t, .int 0 0] }).push
      { cls := .type "enumerate", data := .fields #[.none, .bool false, .ref s.heap.objs.size, rawInt 0, .none, .none] }) (s.heap.objs.size + 1) s.heap.objs.size 0 .none := by
    have := Heap.get?_push_size (s.heap.push { cls := .type "tuple_iterator", data := .fields #[.ref t, .int 0 0] }) (o := { cls := .type "enumerate", data := .fields #[.none, .bool false, .ref s.heap.objs.size, rawInt 0, .none, .none] }) rfl
    rw [hz] at this; exact this
  exact ⟨⟨_, he, rfl⟩, h _ he ⟨_, Heap.get?_push_of_some _ (Heap.get?_push_size _ rfl), rfl, rfl⟩ (by rw [Heap.size_push, hz]) fun b o x => Heap.get?_push_of_some _ (Heap.get?_push_of_some _ x)⟩
end
/-- the tuple at a, each item in a new pair -/
def IteT (K : PySem.W.Frag) (a : Addr) : It :=
  ⟨fun i H => ∃ (xs : List V) (x : V), SqT K H a xs ∧ xs[i]? = some x, fun i H v H' => ∃ T x, v = .ref T ∧ H T = none ∧ H' = upd H T (.tup [.int (i : Nat), x]) ∧ ∀ xs, SqT K H a xs → xs[i]? = some x, fun i H => ∃ xs : List V, SqT K H a xs ∧ xs.length = i⟩
theorem tup_ne_it {h : Heap} {a it : Addr} {i : Nat} {items : Array Value} (p : h.IsTuple a items) (q : h.IsTupleIter it a i) : a ≠ it := fun e => by
  subst e
  obtain ⟨o, h1, h2, _⟩ := p
  obtain ⟨o', h3, h4, _⟩ := q
  rw [h1] at h3
  cases h3
  rw [h2] at h4
  injection h4 with h5
  exact absurd h5 (by decide)
theorem turn_enumT {P : Program} {w : World} {K : PySem.W.Frag} {elts : List Expr} {kk : Nat} {tpos : Pos} (a e it : Addr) :
    Turn P w K (.Tuple elts kk tpos) (IteT K a) [e, it] e (fun i h => (∃ old, IsEnum h e it ((i : Nat) : Int) old) ∧ h.IsTupleIter it a i ∧ e ≠ it) where
  mem := by simp
  obj := fun i h st b hb => by
    obtain ⟨⟨old, he⟩, ⟨o, ho, hc, hd⟩, _⟩ := st
    have e' : b = e ∨ b = it := by simpa using hb
    rcases e' with z | z
    · rw [z]; exact ⟨_, he, fun v q => nomatch q⟩
    · rw [z]; exact ⟨o, ho, fun v q => by rw [hd] at q; cases q⟩
  keep := fun i h h' st k => let ⟨⟨old, he⟩, hi, hne⟩ := st; ⟨⟨old, k e (by simp) _ he⟩, hi.at fun o q => k it (by simp) o q, hne⟩
  item := by
    intro X hP hw hK hc i pins s σ H E I hf st hg
    subst hP hw hK
    obtain ⟨⟨old, he⟩, hit, hne⟩ := st
    obtain ⟨xs, x, hq, hx⟩ := hg
    obtain ⟨its, rv, p, hz⟩ := I.tuple hq
    obtain ⟨u, hu, ru⟩ := rv.get hx
    have hel : e < s.heap.objs.size := Heap.lt_size he
    have hil : it < s.heap.objs.size := by obtain ⟨_, q, _⟩ := hit; exact Heap.lt_size q
    have hp : s.heap.IsTuple a its.toArray := p
    have hai : a ≠ it := tup_ne_it hp hit
    have hae : a ≠ e := fun z => by
      subst z
      obtain ⟨o, h1, h2, _⟩ := hp
      have h3 : s.heap.get? a = some _ := he
      rw [h1] at h3
      cases h3
      injection h2 with h5
      exact absurd h5 (by decide)
    have hlt : i < its.toArray.size := by
      have := (List.getElem?_eq_some_iff.mp hu).1
      simpa using this
    have D := Draws.tuple (prog := X.prog) (w := X.w) (A := X.A.in1) (show X.A.in1.handled = none from I.ok.hd hc) it a hai its.toArray
    refine wpAny_pyNext_enum_itemD D he ⟨hit, hp⟩ hlt hne (by simp [hne, Ne.symm hae]) fun y h' tk hy ho hst hT hsz hk => ?_
    obtain rfl : u = y := by
      have e1 : its[i]? = some y := by simpa using hy
      rw [hu] at e1
      exact Option.some.inj e1
    refine ⟨_, rfl, wpAny_letOwnedTupleGo_enum (s := { s with heap := h', toks := tk + 1 }) ho fun h'' he' sb => ?_⟩
    have hT2 : h''.get? s.heap.objs.size = some { cls := .type "tuple", data := .seq #[.int i tk, u] } := (sb.2 _ (Nat.ne_of_gt hel)).trans hT
    have new : ObjOk X.prog X.w (upd H s.heap.objs.size (.tup [.int (i : Nat), x])) h'' s.heap.objs.size (.tup [.int (i : Nat), x]) :=
      ⟨by show 2 ≤ sizeLine; decide, [.int i tk, u], .cons ⟨_, rfl⟩ (.cons ru .nil), ⟨_, hT2, rfl, _, rfl⟩⟩
    have I1 : Inv X pins σ (upd H s.heap.objs.size (.tup [.int (i : Nat), x])) { s with heap := h'', toks := tk + 1 } :=
      I.turnedNew (ch := [e, it]) (fun b ob hb q => (sb.2 b (fun z => hb (by simp [z]))).trans (hk b ob (fun z => hb (by simp [z])) (fun z => hb (by simp [z])) q)) hf (Nat.le_refl _) new
    refine ⟨.ref s.heap.objs.size, _, I1, rfl, ⟨_, x, rfl, I.hok.fresh (Nat.le_refl _), rfl, fun ys hy' => by rw [I.tuple_inj hy' hq]; exact hx⟩, ⟨⟨u, ?_⟩, hst.1.at fun o q => (sb.2 it (Ne.symm hne)).trans q, hne⟩, fun b hb => ?_⟩
    · have e1 : ((i + 1 : Nat) : Int) = (i : Int) + 1 := by omega
      rw [e1]; exact he'
    · have hb' : b < s.heap.objs.size := by
        have e' : b = e ∨ b = it := by simpa using hb
        rcases e' with z | z
        · rw [z]; exact hel
        · rw [z]; exact hil
      rw [upd_ne (Nat.ne_of_lt hb')]
      exact (hf b hb).1
  done := by
    intro X hP hw hK hc i pins s σ H E I hf st hg
    subst hP hw hK
    obtain ⟨⟨old, he⟩, hit, hne⟩ := st
    obtain ⟨xs, hq, hx⟩ := hg
    obtain ⟨its, rv, p, hz⟩ := I.tuple hq
    have hp : s.heap.IsTuple a its.toArray := p
    have hai : a ≠ it := tup_ne_it hp hit
    obtain ⟨f0, f1, f2, f3, f4, f5⟩ := hf it (by simp)
    have hl := rv.length
    have D := Draws.tuple (prog := X.prog) (w := X.w) (A := X.A.in1) (show X.A.in1.handled = none from I.ok.hd hc) it a hai its.toArray
    have hn : its.toArray.size = i := by rw [List.size_toArray, ← hl]; exact hx
    refine wpAny_pyNext_enum_endD D he ?_ fun h' eb => ⟨rfl, I.turned (t' := s.toks) (fun b o hb q => eb b o hb q) f0 f1 f3 f4 f5⟩
    rw [hn]
    exact ⟨hit, hp⟩
  self := fun A i s Q E st h => let ⟨⟨_, he⟩, _⟩ := st; wpAny_pyIter_enum he h
def iEnumA (K : PySem.W.Frag) (ta : TA) : TI := fun σ H R => ta σ H fun vs H1 => ∃ a xs, vs = [.ref a] ∧ ((SqL K H1 a xs ∧ R (Ite K a) H1) ∨ (SqT K H1 a xs ∧ R (IteT K a) H1))
theorem pi_enumA {X : Cx} {e : Expr} {ta : TA} {p pos tpos : Pos} {elts : List Expr} {kk : Nat} (hg : Gl X "enumerate") (hm : X.mg "enumerate" = none) (ha : PA X [e] ta) (hs : starEach [e] X.env = [(false, eval e X.env)] := by rfl) :
    PI X (.Tuple elts kk tpos) (.Call (.Name "enumerate" p) [e] [] pos) (iEnumA X.K ta) := by
  refine ⟨fun pins s σ H R I h => ?_⟩
  refine Call_ (ld_blt I hg hm boot_enumerate (PyProof.Rows.callWith_type1 (thn (ha.run pos pins s σ H _ I h) fun us s1 ⟨vs, H1, I1, r1, q1⟩ => ?_) hs rfl))
  obtain ⟨a, xs, ex, q⟩ := q1
  subst ex
  have fpok : ∀ b ∈ [s1.heap.objs.size + 1, s1.heap.objs.size], s1.heap.objs.size ≤ b := fun b hb => by
    have e' : b = s1.heap.objs.size + 1 ∨ b = s1.heap.objs.size := by simpa using hb
    rcases e' with z | z
    · rw [z]; exact Nat.le_add_right _ _
    · rw [z]; exact Nat.le_refl _
  cases r1 with
  | cons r rr =>
    cases rr
    cases r
    rcases q with ⟨hq, q⟩ | ⟨hq, q⟩
    · obtain ⟨its, rv, p', hz⟩ := I1.list hq
      refine call_enumerate_list p'.isList fun h' he hit hsz hk => wpAny_pyIter_enum he ?_
      have I2 : Inv X pins σ H1 { s1 with heap := h' } := I1.kept (t' := s1.toks) hk
      exact ⟨s1.heap.objs.size + 1, [s1.heap.objs.size + 1, s1.heap.objs.size], _, _, H1, rfl, I2, turn_enum a (s1.heap.objs.size + 1) s1.heap.objs.size, ⟨⟨.none, he⟩, hit, Nat.succ_ne_self _⟩, fun b hb => I1.fpOk (fpok b hb) (I1.hok.fresh (fpok b hb)), q⟩
    · obtain ⟨its, rv, p', hz⟩ := I1.tuple hq
      refine call_enumT (show s1.heap.IsTuple a its.toArray from p') fun h' he hit hsz hk => wpAny_pyIter_enum he ?_
      have I2 : Inv X pins σ H1 { s1 with heap := h' } := I1.kept (t' := s1.toks) hk
      exact ⟨s1.heap.objs.size + 1, [s1.heap.objs.size + 1, s1.heap.objs.size], _, _, H1, rfl, I2, turn_enumT a (s1.heap.objs.size + 1) s1.heap.objs.size, ⟨⟨.none, he⟩, hit, Nat.succ_ne_self _⟩, fun b hb => I1.fpOk (fpok b hb) (I1.hok.fresh (fpok b hb)), q⟩
section
variable {X : Cx} {W : WX} {K : PySem.W.Frag} {mg : Str → Option Value} {n : Nat} {w : Wd} {H : Hp} {items : List Dv}
theorem it_enumT {a : Addr} {vs : List V} (r : RDs K mg n w H items vs) (h : ∀ n' w' H', Stp n w H n' w' H' → SqT K H' a vs) : ItOk K mg n w H (pairL (rngL 0 items.length) items) (IteT K a) where
  stop := fun n' w' H' g => ⟨vs, h _ _ _ g, by
    rw [pairL, List.length_map, List.length_zip, rngL, List.length_map, List.length_range, r.length]
    omega⟩
  go := fun k d w' H' st' e g sim => by
    obtain ⟨x, y, ex, ey, rfl⟩ := zip_get e
    obtain ⟨v, e1, r1⟩ := r.get ey
    refine ⟨⟨vs, v, h _ _ _ g, e1⟩, fun z H'' y' => ?_⟩
    obtain ⟨T, u, rfl, hT, rfl, hu⟩ := y'
    have e2 := hu vs (h _ _ _ g)
    rw [e1] at e2
    cases e2
    rw [rngL, List.getElem?_map] at ex
    cases e3 : (List.range items.length)[k]? with
    | none => rw [e3] at ex; cases ex
    | some c =>
      rw [e3] at ex
      cases ex
      obtain ⟨h1, h2⟩ := List.getElem?_eq_some_iff.mp e3
      rw [List.getElem_range] at h2
      subst h2
      refine pair_turn sim hT (.p ?_) (r1.mono g)
      rw [Int.zero_add]
      exact .int _
/-- enumerate of what stands: a list, a tuple -/
def enumAny (xs : List Dv) (st : So) : Option (List Dv) := match xs with
  | [d] => if isRef d then none else (seqOf d st).map fun ys => pairL (rngL 0 ys.length) ys
  | _ => none
variable {e : Expr} {fr : FA} {p pos : Pos} {elts : List Expr} {kk : Nat} {tpos : Pos}
theorem pfi_enumA (hm : X.mg "enumerate" = none) (h : PFA X W [e] fr) (hg : Gl X "enumerate" := by rfl) (hs : starEach [e] X.env = [(false, eval e X.env)] := by rfl) : PFI X W (.Tuple elts kk tpos) (.Call (.Name "enumerate" p) [e] [] pos) (fSt enumAny fr) := PI_imp (pi_enumA hg hm h hs) fun σ H R q => by
  obtain ⟨ρ, st, w, sim, er, gd⟩ := q
  refine ⟨ρ, st, w, sim, er, Good.imp (fun v H1 q => ?_) (Good.bind gd)⟩
  obtain ⟨st1, w1, d, sim1, s1, r1, gd1⟩ := q
  unfold enumAny at gd1
  split at gd1
  · rename_i d
    split at gd1
    · exact gd1.elim
    rename_i hn
    cases e : seqOf d st1 with
    | none => rw [e] at gd1; exact gd1.elim
    | some ys =>
      rw [e] at gd1
      obtain ⟨v, rfl, rv⟩ := rds1 r1
      obtain ⟨a', vs, rfl, rr, hs | hs⟩ := stays_rd sim1 rv (notRef hn) e
      · exact ⟨a', vs, rfl, .inl ⟨hs _ _ _ .refl, gd1 w1 H1 _ .refl sim1 (it_enum rr hs)⟩⟩
      · exact ⟨a', vs, rfl, .inr ⟨hs _ _ _ .refl, gd1 w1 H1 _ .refl sim1 (it_enumT rr hs)⟩⟩
  · exact gd1.elim
end
end FB
set_option Elab.async false
set_option linter.all false
set_option maxRecDepth 100000
set_option maxHeartbeats 4000000
/-! FBS: a set of any number of texts; len(set(..)). -/
namespace FB
open PySem PySem.Spec PyProof.Rows L2 RZ SS
def stepN (σ : List Str) (v : Str) : List Str := if σ.contains v then σ else σ ++ [v]
/-- the texts met up to i, each once -/
def fmN (xs : List Str) (i : Nat) : List Str := (xs.take i).foldl stepN []
theorem fmN_succ (xs : List Str) (i : Nat) (h : i < xs.length) : fmN xs (i + 1) = stepN (fmN xs i) (xs.getD i Str.empty) := by
  unfold fmN
  rw [List.take_succ, List.getElem?_eq_getElem h, List.foldl_append, List.getD_eq_getElem?_getD, List.getElem?_eq_getElem h]
  rfl
theorem fmN_mem (xs : List Str) (k : Str) : ∀ i, i ≤ xs.length → (k ∈ fmN xs i ↔ k ∈ xs.take i)
  | 0, _ => by simp [fmN]
  | i + 1, h => by
    rw [fmN_succ xs i h, List.take_succ, List.getElem?_eq_getElem h, List.mem_append, ← fmN_mem xs k i (by omega), List.getD_eq_getElem?_getD, List.getElem?_eq_getElem h]
    unfold stepN
    by_cases hc : (fmN xs i).contains (xs[i]'h) = true
    · simp only [Option.getD_some, hc, if_true, Option.toList_some, List.mem_singleton]
      refine ⟨.inl, fun z => z.elim id fun e => ?_⟩
      rw [e]; simpa using hc
    · simp only [Option.getD_some, hc, Option.toList_some, List.mem_singleton]
      rw [if_neg (by simp), List.mem_append, List.mem_singleton]
theorem fmN_len (xs : List Str) : ∀ i, i ≤ xs.length → (fmN xs i).length ≤ i
  | 0, _ => by simp [fmN]
  | i + 1, h => by
    rw [fmN_succ xs i h]
    unfold stepN
    have ih := fmN_len xs i (by omega)
    split
    · omega
    · rw [List.length_append, List.length_singleton]; omega
theorem any_take (xs : List Str) (k : Str) (i : Nat) : (xs.take i).any (· == k) = decide (k ∈ xs.take i) := by
  rw [Bool.eq_iff_iff]
  simp only [List.any_eq_true, beq_iff_eq, exists_eq_right, decide_eq_true_eq]
section
variable {prog : Program} {w : World} {A : Around} {R : Result → Shared → Prop} {I : Addr} {fp wr : List Addr} {G : Array GenState → Array GenState → Prop} {n : Nat} {P : Nat → Value → Prop} {St : Nat → Shared → Prop}
theorem loopStrN (W : WalksS prog w A.in1 I fp wr G n P St) (S : Addr) (hSf : S ∉ fp) (xs : List Str) (hsz : xs.length = n) (hn1 : n < 4000)
    (hval : ∀ i v, P i v → ∃ t, v = .str (xs.getD i Str.empty) t) :
    ∀ (k i : Nat) (s : Shared), n - i = k → i ≤ n → St i s →
      s.heap.SetOf (PySem.strKind prog w) S (fun k' => (xs.take i).any (· == k')) (fmN xs i).length →
      (∀ s', Moved (S :: wr) G s s' → s'.heap.SetOf (PySem.strKind prog w) S (fun k' => (xs.take n).any (· == k')) (fmN xs n).length → R (.ok (.ret .none)) s') →
      codeAny (model prog w) A (.builtin "set.update.loop" ⟨[.ref S, .ref I], []⟩) R s := by
  have hSw : S ∉ wr := fun h => hSf (W.sub _ h)
  have hsub : ∀ b ∈ wr, b ∈ S :: wr := fun b hb => List.mem_cons_of_mem _ hb
  intro k
  induction k with
  | zero =>
    intro i s hk hi hst hS hR
    have hin : i = n := by omega
    subst hin
    refine codeAny_builtin PyProof.Rows.F.entry_set_update_loop ?_
    rw [Around.under_plainId PyProof.Rows.F.plain_set_update_loop _]
    show wpAny _ A.in1 (pyNext (.ref I) >>= _) _ _ s
    refine wpAny_bind (W.done s _ _ hst fun s' hm => ?_)
    show wpAny _ A.in1 (ret Value.none) _ _ s'
    exact wpAny_pure (hR s' (hm.mono hsub) (by
      obtain ⟨o, es, ep, t, ho, rest⟩ := hS
      exact ⟨o, es, ep, t, hm.heap S _ hSw ho, rest⟩))
  | succ k ih =>
    intro i s hk hi hst hS hR
    have hlt : i < n := by omega
    have hfl := fmN_len xs i (by omega)
    refine codeAny_builtin PyProof.Rows.F.entry_set_update_loop ?_
    rw [Around.under_plainId PyProof.Rows.F.plain_set_update_loop _]
    show wpAny _ A.in1 (pyNext (.ref I) >>= _) _ _ s
    refine wpAny_bind (W.item i s _ _ hlt hst fun v s' hP hst' hm => ?_)
    obtain ⟨t, rfl⟩ := hval i v hP
    have hS' : s'.heap.SetOf (PySem.strKind prog w) S (fun k' => (xs.take i).any (· == k')) (fmN xs i).length := by
      obtain ⟨o, es, ep, tb, ho, rest⟩ := hS
      exact ⟨o, es, ep, tb, hm.heap S _ hSw ho, rest⟩
    show wpAny _ A.in1 (holding [Value.str (xs.getD i Str.empty) t] (setAdd S (.str (xs.getD i Str.empty) t)) >>= _) _ _ s'
    refine wpAny_bind (wpAny_holding ?_)
    unfold setAdd
    refine wpAny_holding ?_
    refine wpAny_bind ((PySem.strKind prog w).pyHash (k := xs.getD i Str.empty) (strKind_is _ _ _ _) ?_)
    refine wpAny_setAddHashed_of (knd := PySem.strKind prog w) (s := { s' with toks := s'.toks + 1 }) (strKind_is _ _ _ _) rfl hS' (by unfold scanBound; omega) fun h' hsb hS2 => ?_
    have hSi : h'.SetOf (PySem.strKind prog w) S (fun k' => (xs.take (i + 1)).any (· == k')) (fmN xs (i + 1)).length := by
      have hix : i < xs.length := by omega
      have ht : xs.take (i + 1) = xs.take i ++ [xs.getD i Str.empty] := by
        rw [List.take_succ, List.getElem?_eq_getElem hix, List.getD_eq_getElem?_getD, List.getElem?_eq_getElem hix]; rfl
      refine SetOf_congr hS2 (fun k' => ?_) ?_
      · rw [ht, List.any_append, List.any_cons, List.any_nil, Bool.or_false]
        congr 1
        rw [Bool.eq_iff_iff, decide_eq_true_eq, beq_iff_eq]
        exact eq_comm
      · rw [fmN_succ xs i hix]
        unfold stepN
        have hm := fmN_mem xs (xs.getD i Str.empty) i (by omega)
        have e1 : (xs.take i).any (· == xs.getD i Str.empty) = (fmN xs i).contains (xs.getD i Str.empty) := by
          rw [any_take, Bool.eq_iff_iff, decide_eq_true_eq, List.contains_iff_mem]
          exact hm.symm
        simp only [e1]
        split
        · rfl
        · rw [List.length_append, List.length_singleton]
    refine wpAny_pure ⟨plainId_quiet PyProof.Rows.F.plain_set_update_loop _, ih (i + 1) _ (by omega) hlt (W.frame _ s' _ _ hst' (Nat.le_succ _) fun b hb o e => ?_) hSi fun s'' hm'' hS'' => ?_⟩
    · rw [hsb.2 b (fun h : b = S => hSf (by rw [← h]; exact hb))]; exact e
    · refine hR s'' (Moved.trans W.gtrans ((hm.mono hsub).then_heap (Nat.le_succ _) fun b o hb e => ?_) hm'') hS''
      rw [hsb.2 b (fun h : b = S => hb (by rw [h]; exact List.mem_cons_self))]; exact e
end
section
variable {prog : Program} {w : World} {A : Around} {E : Value → Shared → Prop} {s : Shared}
set_option maxHeartbeats 3200000 in
theorem call_set_tupleN {l : Addr} {items : Array Value} {xs : List Str} {Q : Value → Shared → Prop}
    (hh : A.handled = none) (hl : s.heap.IsTuple l items) (hi : PyProof.Rows.StrsAre items.toList xs) (hn1 : xs.length < 4000)
    (h : ∀ (h' : Heap) (tk : Nat), h'.SetOf (PySem.strKind prog w) s.heap.objs.size (fun k' => (xs.take items.size).any (· == k')) (fmN xs items.size).length →
      (∀ b o, b < s.heap.objs.size → s.heap.get? b = some o → h'.get? b = some o) → Q (.ref s.heap.objs.size) { s with heap := h', toks := tk }) :
    wpAny (model prog w) A (call (.type "set") [.ref l]) Q E s := by
  obtain ⟨c, tl, hmro⟩ := PySem.F.called_set.mro
  have hmade := PySem.F.called_set.made
  have hsub := PySem.F.called_set.sub
  refine wpAny_call (codeAny_of_tree ?_)
  show wpAny _ _ (callAny (.type "set") _) _ _ _
  refine wpAny_pure ⟨Code.quiet_builtin _ (by decide +kernel), codeAny_builtin PySem.F.entry_type_call ?_⟩
  rw [Around.under_plain (weight_type_call_type "set" [.ref l] []) rfl]
  have h1 := PySem.F.called_set.notType
  have h2 := PySem.F.called_set.canCreate
  have hct := PySem.F.typeCall_set_1 (.ref l)
  repeat (any_goals (first | assumption | wp_step))

  refine codeAny_mono (code_set_new_1 (.ref l) (E := E) (Q₁ := fun obj s₁ => ∃ led : Bool, obj = .ref s.heap.objs.size ∧ s₁ = { s with heap := s.heap.push { cls := .type "set", dict := none, data := .set #[] 0 (.fresh 0 0 led) } }) fun led => ⟨led, rfl, rfl⟩) fun r s₁ hr => ?_
  cases r with
  | error e => exact hr
  | ok fl =>
    cases fl with
    | ret obj =>
      obtain ⟨led, rfl, rfl⟩ := hr
      have hS : (s.heap.push { cls := .type "set", dict := none, data := .set #[] 0 (.fresh 0 0 led) }).get? s.heap.objs.size = some { cls := .type "set", dict := none, data := .set #[] 0 (.fresh 0 0 led) } := Heap.get?_push_size _ rfl
      have hT : Shared.TypeIs { s with heap := s.heap.push { cls := .type "set", dict := none, data := .set #[] 0 (.fresh 0 0 led) } } (.ref s.heap.objs.size) "set" := ⟨_, hS, rfl⟩
      have hli := PySem.F.called_set.init.lookup
      have hbi := PySem.F.called_set.init.bind (.ref s.heap.objs.size)
      repeat (any_goals (first | assumption | wp_step))

      refine codeAny_mono (codeAny_call_builtin (R := wants (fun r s₂ => r = .none ∧ ∃ h' tk, s₂ = { s with heap := h', toks := tk } ∧
          h'.SetOf (PySem.strKind prog w) s.heap.objs.size (fun k' => (xs.take items.size).any (· == k')) (fmN xs items.size).length ∧
          (∀ b o, b < s.heap.objs.size → s.heap.get? b = some o → h'.get? b = some o)) E) PySem.F.called_set.init.plain PySem.F.entry_set_init (check_set_init_1 hT ?_)) fun r₂ s₂ hr₂ => ?_
      · obtain ⟨ol, hol, hcl, nl, hdl⟩ := hl
        obtain ⟨ocls, odict, odata, oslots⟩ := ol
        simp only at hcl hdl
        subst hcl; subst hdl
        have hol' : (s.heap.push { cls := .type "set", dict := none, data := .set #[] 0 (.fresh 0 0 led) }).get? l = some { cls := .type "tuple", dict := odict, data := .seq items nl, slots := oslots } := Heap.get?_push_of_some _ hol
        have hsls := PySem.F.sub_tuple_set
        have hslf := PySem.F.sub_tuple_frozenset
        have hne : (Value.type "tuple" == Value.type "dict") = false := by decide
        have hl1 : (s.heap.push { cls := .type "set", dict := none, data := .set #[] 0 (.fresh 0 0 led) }).IsTuple l items := ⟨_, hol', rfl, nl, rfl⟩
        unfold Builtin.«set.__init__» noKeywords Builtin.Frozenset.updateFrom
        generalize hPI : pyIter = PI
        wp_walk
        subst hPI

        refine wpAny_pyIter_tuple hl1 ?_
        refine wpAny_bind (wpAny_runValue ?_)
        have hlS : l < s.heap.objs.size := Heap.lt_size hol
        have hh3 : A.in1.in1.in1.handled = none := by simp [hh]
        have hneI : l ≠ (s.heap.push { cls := .type "set", dict := none, data := .set #[] 0 (.fresh 0 0 led) }).objs.size := by
          rw [Heap.size_push]; exact Nat.ne_of_lt (Nat.lt_succ_of_lt hlS)
        have hSf : s.heap.objs.size ∉ [(s.heap.push { cls := .type "set", dict := none, data := .set #[] 0 (.fresh 0 0 led) }).objs.size, l] := by
          rw [Heap.size_push]; simp only [List.mem_cons, List.mem_singleton, List.not_mem_nil, or_false, not_or]
          exact ⟨Nat.ne_of_lt (Nat.lt_succ_self _), Nat.ne_of_gt hlS⟩
        have hsz : xs.length = items.size := by rw [← StrsAre.len_eq hi, Array.length_toList]
        have hval : ∀ (i : Nat) (v : Value), items[i]? = some v → ∃ t, v = .str (xs.getD i Str.empty) t := fun i v hv => strs_at hi i v (by rw [Array.getElem?_toList]; exact hv)
        refine loopStrN ((Walks.tuple hh3 _ l hneI items).toS) s.heap.objs.size
          hSf xs hsz (by rw [← hsz]; exact hn1) hval (items.size - 0) 0 _ (by omega) (Nat.zero_le _)
          ⟨⟨_, Heap.get?_push_size _ rfl, rfl, rfl⟩, (hl1.push _)⟩ ?hS0 ?hR
        case hS0 =>
          have hget : ((s.heap.push { cls := .type "set", dict := none, data := .set #[] 0 (.fresh 0 0 led) }).push { cls := .type "tuple_iterator", data := .fields #[.ref l, .int 0 0] }).get? s.heap.objs.size
              = some { cls := .type "set", dict := none, data := .set #[] 0 (.fresh 0 0 led) } := Heap.get?_push_of_some _ hS
          exact PyProof.Rows.SetOf_congr ((PyProof.Rows.setObjOf_fresh (knd := PySem.strKind prog w) led).setOf hget (by unfold scanBound; omega)) (fun _ => rfl) rfl
        case hR =>
          intro s' hm hS'
          obtain ⟨h', g', d', tk', os'⟩ := s'
          have eg : g' = s.gens := hm.gens
          have ed : d' = s.drawn := hm.drawn
          have eo : os' = s.os := hm.os
          subst eg; subst ed; subst eo
          show wpAny _ _ _ _ _ _
          refine wpAny_pure ?_
          show wpAny _ _ (ret Value.none) _ _ _
          refine wpAny_pure ⟨rfl, h', tk', rfl, hS', fun b o hb e => ?_⟩
          have hb1 : b ≠ s.heap.objs.size := Nat.ne_of_lt hb
          have hb2 : b ≠ (s.heap.push { cls := .type "set", dict := none, data := .set #[] 0 (.fresh 0 0 led) }).objs.size := by
            rw [Heap.size_push]; exact Nat.ne_of_lt (Nat.lt_succ_of_lt hb)
          exact hm.heap b o (by simp only [List.mem_cons, List.mem_singleton, List.not_mem_nil, or_false, not_or]; exact ⟨hb1, hb2⟩) (Heap.get?_push_of_some _ (Heap.get?_push_of_some _ e))

      · cases r₂ with
        | error e => exact hr₂
        | ok fl₂ =>
          cases fl₂ with
          | ret r =>
            obtain ⟨rfl, h', tk, rfl, hS', hk'⟩ := hr₂
            repeat (any_goals (first | assumption | wp_step))
            exact h _ _ hS' hk'
          | _ => exact hr₂.elim
    | _ => exact hr.elim

end

def lenSet (xs : List Str) : Nat := (fmN xs xs.length).length
/-- len(set(t)), t a tuple of texts -/
def tLenSetN (K : PySem.W.Frag) (ta : TE) : TE := fun σ H Q => ta σ H fun x H1 => ∃ l, ∃ xs : List Str, x = .ref l ∧ SqT K H1 l (xs.map V.str) ∧ xs.length < 4000 ∧ Q (.int (lenSet xs : Nat)) H1
theorem pe_lenSetN {X : Cx} {a : Expr} {ta : TE} {p p2 q pos : Pos} (hc : X.calm = true) (hg : Gl X "len") (hm : X.mg "len" = none) (hg2 : Gl X "set") (hm2 : X.mg "set" = none) (ha : PE X a ta)
    (na : starEach [a] X.env = (false, eval a X.env) :: starEach [] X.env := by rfl) : PE X (.Call (.Name "len" p) [.Call (.Name "set" p2) [a] [] q] [] pos) (tLenSetN X.K ta) := by
  refine ⟨fun pins s σ H Q I h => ?_⟩
  refine Call_ (ld_blt I hg hm boot_len ?_)
  refine PyProof.Rows.callWith_builtin1 (PyProof.Rows.args_cons ?_ rfl) rfl rfl
  refine Call_ (ld_blt I hg2 hm2 boot_set ?_)
  refine PyProof.Rows.callWith_type1 (PyProof.Rows.args_cons (thn (ha.run pins s σ H _ I h) fun v s1 ⟨x, H1, I1, r1, q1⟩ => PyProof.Rows.args_nil ?_) na) na rfl
  obtain ⟨l, xs, rfl, hq, h1, q1⟩ := q1
  cases r1
  obtain ⟨its, r, pl, hz⟩ := I1.tuple hq
  refine call_set_tupleN (I1.ok.hd hc) pl (by simpa using strsAre_of r) h1 fun h' tk hS hk => PyProof.Rows.args_nil ?_
  have hl : its.toArray.size = xs.length := by rw [List.size_toArray, ← r.length, List.length_map]
  rw [hl] at hS
  obtain ⟨o, es, ep, t, ho, hex, hd, _, _, _, hf, hn⟩ := hS
  have I2 : Inv X pins σ H1 { s1 with heap := h', toks := tk } := I1.kept fun b o e => hk b o (Heap.lt_size e) e
  have hle := fmN_len xs xs.length (Nat.le_refl _)
  exact call_len_set ho hex hd hf (by rw [hn] <;> omega) ⟨.int (lenSet xs : Nat), H1, I2.tok _, ⟨_, by rw [hn]; rfl⟩, q1⟩
def fLenSet (fa : FE) : FE := fun ρ st => (fa ρ st).bind fun d st1 => match tupOf d with
  | some ds => match txts ds with
    | some xs => if xs.length < 4000 then .ok (.p (.int (lenSet xs : Nat))) st1 else .stuck
    | none => .stuck
  | none => .stuck
theorem pf_lenSet {X : Cx} {W : WX} {a : Expr} {fa : FE} {p p2 q pos : Pos} (hc : X.calm = true) (hm : X.mg "len" = none) (hm2 : X.mg "set" = none) (ha : PF X W a fa) (hg : Gl X "len" := by rfl) (hg2 : Gl X "set" := by rfl)
    (na : starEach [a] X.env = (false, eval a X.env) :: starEach [] X.env := by rfl) : PF X W (.Call (.Name "len" p) [.Call (.Name "set" p2) [a] [] q] [] pos) (fLenSet fa) := PE_imp (pe_lenSetN hc hg hm hg2 hm2 ha na) fun σ H Q h => by
  obtain ⟨ρ, st, w, sim, er, gd⟩ := h
  refine ⟨ρ, st, w, sim, er, Good.imp (fun x H1 q => ?_) (Good.bind gd)⟩
  obtain ⟨st1, w1, d1, sim1, s1, r1, gd1⟩ := q
  split at gd1
  · rename_i ds e1
    split at gd1
    · rename_i xs e2
      split at gd1
      · rename_i hl
        obtain ⟨a, vs, rfl, r2, hs⟩ := tup_rd r1 e1
        obtain rfl := txts_rd r2 e2
        exact ⟨a, xs, rfl, hs.sq, hl, gd1 w1 H1 _ .refl sim1 (.p (.int _))⟩
      · exact gd1.elim
    · exact gd1.elim
  · exact gd1.elim
/-- as many as there are, when no text stands twice; never else -/
theorem fmN_nodup (xs : List Str) (h : xs.Nodup) : ∀ i, i ≤ xs.length → fmN xs i = xs.take i
  | 0, _ => by simp [fmN]
  | i + 1, hi => by
    have hix : i < xs.length := hi
    rw [fmN_succ xs i hix, fmN_nodup xs h i (by omega), List.take_succ, List.getElem?_eq_getElem hix, List.getD_eq_getElem?_getD, List.getElem?_eq_getElem hix]
    unfold stepN
    rw [if_neg]
    · rfl
    · simp only [Option.getD_some, List.contains_iff_mem]
      intro hm
      obtain ⟨j, hj, e⟩ := List.getElem_of_mem hm
      rw [List.length_take] at hj
      rw [List.getElem_take] at e
      have hji : j < i := by omega
      exact List.pairwise_iff_getElem.mp h j i (by omega) hix hji e
theorem lenSet_nodup {xs : List Str} (h : xs.Nodup) : lenSet xs = xs.length := by
  unfold lenSet
  rw [fmN_nodup xs h _ (Nat.le_refl _), List.take_length]
end FB
set_option Elab.async false
set_option linter.all false
set_option maxRecDepth 100000
set_option maxHeartbeats 4000000
/-! FB8: loops and comprehensions over what is data or a list cell. -/
namespace FB
open PySem PySem.Spec PyProof.Rows L2 RZ

inductive Nxt where
  | item (d : Dv)
  | fin
  | bad
/-- the k-th item of the list cell i, as it stands -/
def cellAt (i k : Nat) (st : So) : Nxt := match st[i]? with
  | some (.lst ys) => match ys[k]? with
    | some d => .item d
    | none => .fin
  | _ => .bad
structure SOk (K : PySem.W.Frag) (mg : Str → Option Value) (n : Nat) (w : Wd) (H : Hp) (i : Nat) (J : It) : Prop where
  go : ∀ k w' H' (st' : So), Stp n w H st'.length w' H' → Sim K mg w' st' H' → ∀ d, cellAt i k st' = .item d → J.go k H' ∧ ∀ x H'', J.yld k H' x H'' → ∃ w'', Stp st'.length w' H' st'.length w'' H'' ∧ Sim K mg w'' st' H'' ∧ RD K mg st'.length w'' H'' d x
  fin : ∀ k w' H' (st' : So), Stp n w H st'.length w' H' → Sim K mg w' st' H' → cellAt i k st' = .fin → J.stop k H'
section
variable {X : Cx} {W : WX} {K : PySem.W.Frag} {mg : Str → Option Value} {n : Nat} {w : Wd} {H : Hp} {pos : Pos}
theorem sok_cell {i : Nat} (hi : i < n) : SOk K mg n w H i (Itl K (w.m i)) where
  go := fun k w' H' st' g sim d h => by
    unfold cellAt at h
    split at h
    · rename_i ys e
      split at h
      · rename_i d' e2
        cases h
        obtain ⟨vs, e1, r1, _⟩ := sim.cell i _ e
        obtain ⟨v, e3, r3⟩ := r1.get e2
        rw [g.ext i hi] at e1
        refine ⟨⟨vs, v, .of e1, e3⟩, fun x H'' y => ?_⟩
        obtain ⟨rfl, y⟩ := y
        have e4 := y vs (.of e1)
        rw [e3] at e4
        cases e4
        exact ⟨w', .refl, sim, r3⟩
      · cases h
    · cases h
  fin := fun k w' H' st' g sim h => by
    unfold cellAt at h
    split at h
    · rename_i ys e
      split at h
      · cases h
      · rename_i e2
        obtain ⟨vs, e1, r1, _⟩ := sim.cell i _ e
        rw [g.ext i hi] at e1
        refine ⟨vs, .of e1, ?_⟩
        rw [← r1.length]
        exact List.getElem?_eq_none_iff.mp e2
    · cases h
/-! ### for -/
def sForC (tg : Tg) (body : FS) (i : Nat) : Nat → Nat → FS
  | 0, _, _, _ => .stuck
  | f + 1, k, ρ, st => match cellAt i k st with
    | .bad => .stuck
    | .fin => .nx ρ st
    | .item d => toE (tgF tg d ρ) fun ρ' => match body ρ' st with
      | .nx ρ2 st2 => sForC tg body i f (k + 1) ρ2 st2
      | .cnt ρ2 st2 => sForC tg body i f (k + 1) ρ2 st2
      | .brk ρ2 st2 => .nx ρ2 st2
      | r => r
/-- for tg in e: e a list cell, a list, a tuple, a text -/
def sForV (fa : FE) (tg : Tg) (body : FS) : FS := fun ρ st => (fa ρ st).st ρ fun d st1 => match d with
  | .ref i => sForC tg body i 100001 0 ρ st1
  | d => match itemsOf d st1 with
    | some items => sForL tg body items ρ st1
    | none => .stuck
abbrev LoopW (K : PySem.W.Frag) (mg : Str → Option Value) (W : WX) (tg : Tg) (body : FS) (D : Ends) (σ : L2.St) (J : It) (H1 : Hp) : Prop :=
    ∃ Wn : Nat → Nat → L2.St → Hp → Prop, (∃ m, Wn 0 m σ H1) ∧ ∀ i m σ H, Wn i m σ H → (J.stop i H ∧ D.nx σ H) ∨ (J.go i H ∧ ∃ N : L2.St → Hp → Prop, (∀ σ' H', N σ' H' → ∃ m', m' < m ∧ Wn (i + 1) m' σ' H') ∧ ∀ x H', J.yld i H x H' → tgG K tg x σ H' fun σ2 H2 => TFS K mg W body { D with nx := N, ct := N, bk := D.nx } σ2 H2)
theorem for_core {J : It} {tg : Tg} {body : FS} {D : Ends} {σ : L2.St} {st1 : So} {w1 : Wd} {H1 : Hp} {i : Nat} {ρ : Sl} (it : SOk K mg st1.length w1 H1 i J) (sim1 : Sim K mg w1 st1 H1) (er1 : EnvR K mg st1.length w1 H1 ρ σ) (gd1 : GoodS K mg W st1.length w1 H1 D (sForC tg body i 100001 0 ρ st1)) :
    ∃ Wn : Nat → Nat → L2.St → Hp → Prop, (∃ m, Wn 0 m σ H1) ∧ ∀ i m σ H, Wn i m σ H → (J.stop i H ∧ D.nx σ H) ∨ (J.go i H ∧ ∃ N : L2.St → Hp → Prop, (∀ σ' H', N σ' H' → ∃ m', m' < m ∧ Wn (i + 1) m' σ' H') ∧ ∀ x H', J.yld i H x H' → tgG K tg x σ H' fun σ2 H2 => TFS K mg W body { D with nx := N, ct := N, bk := D.nx } σ2 H2) := by
  refine ⟨fun k m σ2 H2 => ∃ ρ2 st2 w2, Sim K mg w2 st2 H2 ∧ EnvR K mg st2.length w2 H2 ρ2 σ2 ∧ Stp st1.length w1 H1 st2.length w2 H2 ∧ GoodS K mg W st2.length w2 H2 D (sForC tg body i m k ρ2 st2),
    ⟨100001, ρ, st1, w1, sim1, er1, .refl, gd1⟩, ?_⟩
  rintro k m σ2 H2 ⟨ρ2, st2, w2, sim2, er2, s2, gd2⟩
  cases m with
  | zero => exact gd2.elim
  | succ f =>
    unfold sForC at gd2
    split at gd2
    · exact gd2.elim
    · rename_i e
      exact .inl ⟨it.fin k w2 H2 st2 s2 sim2 e, gd2 w2 H2 σ2 .refl sim2 er2⟩
    · rename_i d e
      obtain ⟨go, yl⟩ := it.go k w2 H2 st2 s2 sim2 d e
      refine .inr ⟨go, fun σ' H' => ∃ ρ3 st3 w3, Sim K mg w3 st3 H' ∧ EnvR K mg st3.length w3 H' ρ3 σ' ∧ Stp st1.length w1 H1 st3.length w3 H' ∧ GoodS K mg W st3.length w3 H' D (sForC tg body i f (k + 1) ρ3 st3), ?_, ?_⟩
      · rintro σ' H' ⟨ρ3, st3, w3, sim3, er3, s3, gd3⟩
        exact ⟨f, Nat.lt_succ_self f, ρ3, st3, w3, sim3, er3, s3, gd3⟩
      · intro x H3 hy
        obtain ⟨w3, s3, sim3, r3⟩ := yl x H3 hy
        have gd3 := gd2.later s3
        unfold toE at gd3
        split at gd3
        · rename_i ρ' hρ
          dsimp only at gd3
          refine tg_ok (vs := tgS tg) tg _ x ρ2 ρ' σ2 σ2 _ r3 (er2.mono s3) hρ (fun _ h => h) rfl fun σ4 er4 _ => ⟨ρ', st2, w3, sim3, er4, ?_⟩
          cases eb : body ρ' st2 with
          | nx ρ5 st5 =>
            rw [eb] at gd3
            exact fun w5 H5 σ5 s5 sim5 er5 => ⟨ρ5, st5, w5, sim5, er5, (s2.trans s3).trans s5, gd3.later s5⟩
          | cnt ρ5 st5 =>
            rw [eb] at gd3
            exact fun w5 H5 σ5 s5 sim5 er5 => ⟨ρ5, st5, w5, sim5, er5, (s2.trans s3).trans s5, gd3.later s5⟩
          | brk ρ5 st5 => rw [eb] at gd3; exact gd3
          | ret d st5 => rw [eb] at gd3; exact gd3
          | exc c fs ρ5 st5 => rw [eb] at gd3; exact gd3
          | stuck => rw [eb] at gd3; exact gd3.elim
        · exact gd3.elim
/-- the items that a plain iterable gives -/
theorem iter_ok {st1 : So} {w1 : Wd} {H1 : Hp} {d : Dv} {v : V} {R : It → Hp → Prop} (sim1 : Sim K mg w1 st1 H1) (r1 : RD K mg st1.length w1 H1 d v)
    (h : (∃ i, d = .ref i ∧ ∃ ys, st1[i]? = some (.lst ys) ∧ ∀ J, SOk K mg st1.length w1 H1 i J → R J H1) ∨ ∃ xs, itemsOf d st1 = some xs ∧ ∀ J, ItOk K mg st1.length w1 H1 xs J → R J H1) :
    (∃ a, v = .ref a ∧ (∃ xs, SqL K H1 a xs) ∧ R (Itl K a) H1) ∨ (∃ a, v = .ref a ∧ (∃ xs, SqT K H1 a xs) ∧ R (Itt K a) H1) ∨ ∃ z, v = .str z ∧ R (Its z) H1 := by
  rcases h with ⟨i, rfl, ys, e, hR⟩ | ⟨xs, e, hR⟩
  · cases r1 with
    | ref hi =>
      obtain ⟨vs, e1, _, _⟩ := sim1.cell i _ e
      exact .inl ⟨_, rfl, ⟨vs, .of e1⟩, hR _ (sok_cell hi)⟩
  · have e' := e
    unfold itemsOf at e'
    split at e'
    · cases e'
      cases r1 with
      | p q =>
        cases q
        exact .inr (.inr ⟨_, rfl, hR _ it_str⟩)
    · cases e'
    · rename_i hn1 hn2
      obtain ⟨a, vs, rfl, rv, hs | hs⟩ := stays_rd sim1 r1 (fun i hi => hn2 i hi) e'
      · exact .inl ⟨a, rfl, ⟨vs, hs _ _ _ .refl⟩, hR _ (it_list rv hs)⟩
      · exact .inr (.inl ⟨a, rfl, ⟨vs, hs _ _ _ .refl⟩, hR _ (it_tup rv hs)⟩)
theorem pfs_forV {te iter : Expr} {bs : List Stmt} {fa : FE} {tg : Tg} {body : FS} (hp : PassesOwn (model X.prog X.w) X.A X.env X.xe) (hc : X.calm = true) (hi : PF X W iter fa) (hg : PG X te (tgG X.K tg)) (hb : PFSs X W bs body)
    (hs : ∀ x, foldedSetIterable iter X.env x = pure x := by intro _; rfl) : PFS X W (.For te iter bs [] pos) (sForV fa tg body) := PS_imp (ps_for hp hc (pi_seq hi) hg hb hs) fun D σ H q => by
  obtain ⟨ρ, st, w, sim, er, gd⟩ := q
  refine ⟨ρ, st, w, sim, er, Good.imp (fun v H1 q => ?_) (good_st er gd)⟩
  obtain ⟨st1, w1, d, sim1, s1, r1, er1, gd1⟩ := q
  have key : ∀ xs, itemsOf d st1 = some xs → GoodS X.K X.mg W st1.length w1 H1 D (sForL tg body xs ρ st1) → ∀ J, ItOk X.K X.mg st1.length w1 H1 xs J → ∃ Wn : Nat → Nat → L2.St → Hp → Prop, (∃ m, Wn 0 m σ H1) ∧ ∀ i m σ H, Wn i m σ H →
      (J.stop i H ∧ D.nx σ H) ∨ (J.go i H ∧ ∃ N : L2.St → Hp → Prop, (∀ σ' H', N σ' H' → ∃ m', m' < m ∧ Wn (i + 1) m' σ' H') ∧ ∀ x H', J.yld i H x H' → tgG X.K tg x σ H' fun σ2 H2 => TFS X.K X.mg W body { D with nx := N, ct := N, bk := D.nx } σ2 H2) := fun xs e g J it => by
    exact tfs_forL it sim1 er1 g
  split at gd1
  · rename_i i
    have hys : ∃ ys, st1[i]? = some (.lst ys) := by
      unfold sForC at gd1
      unfold cellAt at gd1
      split at gd1
      · exact gd1.elim
      · rename_i e
        split at e
        · exact ⟨_, by assumption⟩
        · cases e
      · rename_i e
        split at e
        · exact ⟨_, by assumption⟩
        · cases e
    obtain ⟨ys, e⟩ := hys
    exact iter_ok (R := fun J H1 => LoopW X.K X.mg W tg body D σ J H1) sim1 r1 (.inl ⟨i, rfl, ys, e, fun J it => for_core it sim1 er1 gd1⟩)
  · split at gd1
    · rename_i items e
      exact iter_ok (R := fun J H1 => LoopW X.K X.mg W tg body D σ J H1) sim1 r1 (.inr ⟨items, e, key items e gd1⟩)
    · exact gd1.elim

/-! ### [.. for tg in e if ..] -/
def cmpC (tg : Tg) (tt : FT) (fe : FE) (ρ : Sl) (i : Nat) : Nat → Nat → List Dv → So → Rs (List Dv)
  | 0, _, _, _ => .stuck
  | f + 1, k, acc, st => match cellAt i k st with
    | .bad => .stuck
    | .fin => .ok acc st
    | .item d => match tgF tg d ρ with
      | none => .stuck
      | some ρ' => (tt ρ' st).bindN fun b st1 => if b then (fe ρ' st1).bindN fun y st2 => cmpC tg tt fe ρ i f (k + 1) (acc ++ [y]) st2 else cmpC tg tt fe ρ i f (k + 1) acc st1
def fLcV (fa : FE) (tg : Tg) (tt : FT) (fe : FE) : FA := fun ρ st => (fa ρ st).bind fun d st1 => match d with
  | .ref i => cmpC tg tt fe (rhoW ρ (tgS tg)) i 100001 0 [] st1
  | d => match itemsOf d st1 with
    | some items => if items.length ≤ 100000 then cmpL tg tt fe (rhoW ρ (tgS tg)) items [] st1 else .stuck
    | none => .stuck
abbrev LcW (K : PySem.W.Frag) (mg : Str → Option Value) (tg : Tg) (tt : FT) (fe : FE) (σ : L2.St) (Q : VK) (J : It) (H1 : Hp) : Prop :=
    ∀ D, H1 D = none → ∃ Wn : Nat → Nat → Hp → Prop, (∃ m, Wn 0 m (upd H1 D (.lst []))) ∧ ∀ i m H, Wn i m H →
      (J.stop i H ∧ Q (.ref D) H) ∨ (J.go i H ∧ ∃ Nx : Hp → Prop, (∀ H', Nx H' → ∃ m', m' < m ∧ Wn (i + 1) m' H') ∧ ∀ x H', J.yld i H x H' → tgG K tg x (wipe σ (tgS tg)) H' fun σ2 H2 => wipe σ2 (tgS tg) = wipe σ (tgS tg) ∧ TFT K mg W0 tt σ2 H2 fun b H3 =>
        if b = true then TF K mg W0 fe σ2 H3 fun y H4 => ∃ acc, H4 D = some (.lst acc) ∧ acc.length < sizeLine ∧ Nx (upd H4 D (.lst (acc ++ [y]))) else Nx H3)
theorem cmpC_ok {Wc : WX} {σ : L2.St} {st1 : So} {w1 : Wd} {H1 : Hp} {J : It} {src : Nat} {tg : Tg} {tt : FT} {fe : FE} {ρ : Sl} {Q : VK}
    (it : SOk K mg st1.length w1 H1 src J) (er : EnvR K mg st1.length w1 H1 ρ (wipe σ (tgS tg))) (sim1 : Sim K mg w1 st1 H1)
    (gd : Good (RDs K mg) K mg Wc σ st1.length w1 H1 (fun vs H' => ∀ p, H' p = none → vs.length ≤ sizeLine → Q (.ref p) (upd H' p (.lst vs))) (cmpC tg tt fe ρ src 100001 0 [] st1)) : LcW K mg tg tt fe σ Q J H1 := by
  intro D hD
  have big : ∀ {k : Nat}, k ≤ 200000 → k < sizeLine := fun h => Nat.lt_of_le_of_lt h (by decide)
  refine ⟨fun i m H => ∃ st w Hb acc vs, Sim K mg w st Hb ∧ Hb D = none ∧ H = upd Hb D (.lst vs) ∧ RDs K mg st.length w Hb acc vs ∧ Stp st1.length w1 H1 st.length w Hb ∧ acc.length + m ≤ 100001 ∧
    Good (RDs K mg) K mg Wc σ st.length w Hb (fun vs H' => ∀ p, H' p = none → vs.length ≤ sizeLine → Q (.ref p) (upd H' p (.lst vs))) (cmpC tg tt fe ρ src m i acc st),
    ⟨100001, st1, w1, H1, [], [], sim1, hD, rfl, .nil, .refl, Nat.le_refl _, gd⟩, ?_⟩
  rintro i m H ⟨st, w, Hb, acc, vs, sim, hDb, rfl, racc, s0, hacc, gd0⟩
  obtain ⟨s2, sim2⟩ := sim.put (o := .lst vs) hDb
  cases m with
  | zero => exact gd0.elim
  | succ f =>
  unfold cmpC at gd0
  split at gd0
  · exact gd0.elim
  · rename_i e
    refine .inl ⟨it.fin i _ _ st (s0.trans s2) sim2 e, ?_⟩
    exact gd0 w Hb vs .refl sim racc D hDb (by rw [← racc.length]; exact Nat.le_of_lt (big (by omega)))
  · rename_i d0 e
    obtain ⟨go, yl⟩ := it.go i (w.aside D) _ st (s0.trans s2) sim2 d0 e
    refine .inr ⟨go, fun H' => ∃ st' w' Hb' acc' vs', Sim K mg w' st' Hb' ∧ Hb' D = none ∧ H' = upd Hb' D (.lst vs') ∧ RDs K mg st'.length w' Hb' acc' vs' ∧ Stp st1.length w1 H1 st'.length w' Hb' ∧ acc'.length + f ≤ 100001 ∧
      Good (RDs K mg) K mg Wc σ st'.length w' Hb' (fun vs H' => ∀ p, H' p = none → vs.length ≤ sizeLine → Q (.ref p) (upd H' p (.lst vs))) (cmpC tg tt fe ρ src f (i + 1) acc' st'), ?_, ?_⟩
    · rintro H' ⟨st', w', Hb', acc', vs', q⟩
      exact ⟨f, Nat.lt_succ_self f, st', w', Hb', acc', vs', q⟩
    · intro x H3 hy
      obtain ⟨w3, s3, sim3, r3⟩ := yl x H3 hy
      split at gd0
      · exact gd0.elim
      · rename_i ρ' hρ
        have s23 := s2.trans s3
        have fD : ∀ {n' w' H'}, Stp st.length w3 H3 n' w' H' → w'.F D ∧ H' D = some (.lst vs) := fun {n' w' H'} g =>
          ⟨g.frm.inc D (s3.frm.inc D (.inl rfl)), g.frm.imm D _ (s3.frm.inc D (.inl rfl)) (s3.frm.imm D _ (.inl rfl) upd_same)⟩
        have hFF : ∀ {n' w' H'}, Stp st.length w3 H3 n' w' H' → ∀ a, w.F a → w'.F a ∧ a ≠ D := fun {n' w' H'} g a ha => by
          obtain ⟨⟨z, hz⟩, _⟩ := sim.fr a ha
          exact ⟨g.frm.inc a (s23.frm.inc a ha), ne_of_none hz hDb⟩
        have land : ∀ {st' w' H'}, Stp st.length w3 H3 (List.length st') w' H' → Sim K mg w' st' H' → Sim K mg (w'.back w.F) st' (era H' D) ∧ Stp st.length w Hb st'.length (w'.back w.F) (era H' D) ∧
            Stp st'.length { w' with F := fun _ => False } H' st'.length (w'.back w.F) (era H' D) := fun {st' w' H'} g sm => by
          obtain ⟨a1, a2, a3⟩ := sm.drop (F := w.F) (fD g).1 (hFF g)
          exact ⟨a1, a2 (s23.trans g) fun _ h => h, a3⟩
        refine tg_ok (vs := tgS tg) tg _ x ρ ρ' _ (wipe σ (tgS tg)) _ r3 (er.mono ((s0.trans s2).trans s3)) hρ (fun _ h => h) rfl fun σ4 er4 hw4 => ⟨hw4.trans (wipe_idem fun _ h => h), ρ', st, w3, sim3, er4, ?_⟩
        cases et : tt ρ' st with
        | stuck => rw [et] at gd0; exact gd0.elim
        | exc c fs st' => rw [et] at gd0; exact gd0.elim
        | ok b st4 =>
          rw [et] at gd0
          intro w4 H4 b' s4 sim4 eb
          obtain rfl : b = b' := eb
          have gd0 : Good (RDs K mg) K mg Wc σ st.length w Hb (fun vs H' => ∀ p, H' p = none → vs.length ≤ sizeLine → Q (.ref p) (upd H' p (.lst vs))) (if b = true then (fe ρ' st4).bindN fun y st2 => cmpC tg tt fe ρ src f (i + 1) (acc ++ [y]) st2 else cmpC tg tt fe ρ src f (i + 1) acc st4) := gd0
          cases b with
          | false =>
            rw [if_neg Bool.false_ne_true] at gd0 ⊢
            obtain ⟨a1, a2, a3⟩ := land s4 sim4
            refine ⟨st4, w4.back w.F, era H4 D, acc, vs, a1, era_same, ?_, racc.mono a2, s0.trans a2, by omega, gd0.later a2⟩
            rw [upd_era]
            funext c
            by_cases hc : c = D
            · subst hc; rw [upd_same]; exact (fD s4).2
            · rw [upd_ne hc]
          | true =>
            rw [if_pos rfl] at gd0 ⊢
            refine ⟨ρ', st4, w4, sim4, er4.mono s4, ?_⟩
            cases ef : fe ρ' st4 with
            | stuck => rw [ef] at gd0; exact gd0.elim
            | exc c fs st' => rw [ef] at gd0; exact gd0.elim
            | ok y st5 =>
              rw [ef] at gd0
              intro w5 H5 v s5 sim5 r5
              have s45 := s4.trans s5
              obtain ⟨a1, a2, a3⟩ := land s45 sim5
              have lv : vs.length < sizeLine := by rw [← racc.length]; exact big (by omega)
              refine ⟨vs, (fD s45).2, lv, st5, w5.back w.F, era H5 D, acc ++ [y], vs ++ [v], a1, era_same, by rw [upd_era], (racc.mono a2).append (.cons (r5.back a3) .nil), s0.trans a2, ?_, ?_⟩
              · rw [List.length_append, List.length_singleton]; omega
              · exact Good.later a2 gd0
theorem tfl_lcV {fa : FE} {te : TE} {tg : Tg} {tt : FT} {fe : FE} {σ : L2.St} {H : Hp} {Q : VK} (ht : ∀ σ H Q, TF K mg W fa σ H Q → te σ H Q) (h : TFL K mg W (fLcV fa tg tt fe) σ H Q) : tLc (iSeq K te) (tgG K tg) (TFT K mg W0 tt) (TF K mg W0 fe) (tgS tg) σ H Q := by
  obtain ⟨ρ, st, w, sim, er, gd⟩ := h
  refine ht σ H _ ⟨ρ, st, w, sim, er, Good.imp (fun v H1 q => ?_) (Good.bind gd)⟩
  obtain ⟨st1, w1, d, sim1, s1, r1, gd1⟩ := q
  split at gd1
  · rename_i i
    have hys : ∃ ys, st1[i]? = some (.lst ys) := by
      unfold cmpC at gd1
      unfold cellAt at gd1
      split at gd1
      · exact gd1.elim
      · rename_i e
        split at e
        · exact ⟨_, by assumption⟩
        · cases e
      · rename_i e
        split at e
        · exact ⟨_, by assumption⟩
        · cases e
    obtain ⟨ys, e⟩ := hys
    exact iter_ok (R := fun J H1 => LcW K mg tg tt fe σ Q J H1) sim1 r1 (.inl ⟨i, rfl, ys, e, fun J it => cmpC_ok it (envW (er.mono s1) _) sim1 gd1⟩)
  · split at gd1
    · rename_i items e
      split at gd1
      · rename_i hn
        exact iter_ok (R := fun J H1 => LcW K mg tg tt fe σ Q J H1) sim1 r1 (.inr ⟨items, e, fun J it D hD => cmp_ok it hn (envW (er.mono s1) _) sim1 hD gd1⟩)
      · exact gd1.elim
    · exact gd1.elim
theorem pfl_lcV {elt te iter : Expr} {ifs : List Expr} {scope : Scope} {own : List (Str × Nat)} {fa : FE} {tg : Tg} {tt : FT} {fe : FE} (hc : X.calm = true) (hN : X.N.Nodup) (hi : PF X W iter fa) (ok : BlkOk X.N X.env.scope scope own) (ho : own.map (·.2) = tgS tg)
    (hg : ∀ (s : Shared) (H : Hp) (C : Addr) (cl : List (Str × Addr)) (fp : List Addr), PG (X.blk s H scope (compEnvC scope cl C X.env) fp) te (tgG X.K tg)) (ht : ∀ (s : Shared) (H : Hp) (C : Addr) (cl : List (Str × Addr)) (fp : List Addr), PTs (X.blk s H scope (compEnvC scope cl C X.env) fp) ifs (TFT X.K X.mg W0 tt))
    (he : ∀ (s : Shared) (H : Hp) (C : Addr) (cl : List (Str × Addr)) (fp : List Addr), PF (X.blk s H scope (compEnvC scope cl C X.env) fp) W0 elt fe) (hs : ∀ x, foldedSetIterable iter X.env x = pure x := by intro _; rfl) :
    PFL X W (.ListComp elt [⟨te, iter, ifs, 0⟩] scope pos) (fLcV fa tg tt fe) := PE_imp (pe_lc (te := TF X.K X.mg W0 fe) hc hN (pi_seq hi) ok hg ht he hs) fun σ H Q h => by
  rw [ho]
  exact tfl_lcV (fun _ _ _ q => q) h
theorem pfs_setLcV {i : Nat} {y : Str} {py spos : Pos} {elt te iter : Expr} {ifs : List Expr} {scope : Scope} {own : List (Str × Nat)} {fa : FE} {tg : Tg} {tt : FT} {fe : FE} {fr : FE} (hc : X.calm = true) (hN : X.N.Nodup) (hi : PF X W iter fa) (ok : BlkOk X.N X.env.scope scope own) (ho : own.map (·.2) = tgS tg)
    (hg : ∀ (s : Shared) (H : Hp) (C : Addr) (cl : List (Str × Addr)) (fp : List Addr), PG (X.blk s H scope (compEnvC scope cl C X.env) fp) te (tgG X.K tg)) (ht : ∀ (s : Shared) (H : Hp) (C : Addr) (cl : List (Str × Addr)) (fp : List Addr), PTs (X.blk s H scope (compEnvC scope cl C X.env) fp) ifs (TFT X.K X.mg W0 tt))
    (he : ∀ (s : Shared) (H : Hp) (C : Addr) (cl : List (Str × Addr)) (fp : List Addr), PF (X.blk s H scope (compEnvC scope cl C X.env) fp) W0 elt fe)
    (hsw : swapsWith (.ListComp elt [⟨te, iter, ifs, 0⟩] scope pos) (some (.Name y py)) spos.line X.env = pure true) (hfr : ∀ σ H Q, TF X.K X.mg W fr σ H Q → TFL X.K X.mg W (fLcV fa tg tt fe) σ H Q)
    (hy : X.N[i]? = some y := by rfl) (hyl : X.env.scope.names.lookup y = some .local := by rfl) (hs : ∀ x, foldedSetIterable iter X.env x = pure x := by intro _; rfl) :
    PFS X W (.Assign [.Name y py] (.ListComp elt [⟨te, iter, ifs, 0⟩] scope pos) spos) (sAsg fr (.nm i)) := PS_imp (ps_setLc (te := TF X.K X.mg W0 fe) hc hN hy hyl hsw (pi_seq hi) ok hg ht he hs) fun D σ H h => by
  have h2 := tfs_asg h
  rw [ho]
  exact tfl_lcV (fun _ _ _ q => q) (hfr σ H _ h2)
end
end FB
set_option Elab.async false
set_option linter.all false
set_option maxRecDepth 100000
set_option maxHeartbeats 4000000
/-! FB9: a, b = x, y; constants of the module; defs as the head tells them. -/
namespace FB
open PySem PySem.Spec PyProof.Rows L2 RZ
def sPar (i j : Nat) (fr : FA) : FS := fun ρ st => (fr ρ st).st ρ fun vs st1 => match vs with
  | [a, b] => .nx ((ρ.set i (some a)).set j (some b)) st1
  | _ => .stuck
def sPar3 (i j k : Nat) (fr : FA) : FS := fun ρ st => (fr ρ st).st ρ fun vs st1 => match vs with
  | [a, b, c] => .nx (((ρ.set i (some a)).set j (some b)).set k (some c)) st1
  | _ => .stuck
section
variable {X : Cx} {W : WX} {a b c : Expr} {fr : FA} {pos : Pos} {i j k : Nat} {x y z : Str} {px py pz pt pt2 : Pos} {kt k2 : _}
theorem pfs_par (hc : X.calm = true) (hN : X.N.Nodup) (ha : PFA X W [a, b] fr) (hij : i ≠ j) (hi : X.N[i]? = some x := by rfl) (hj : X.N[j]? = some y := by rfl)
    (hx : X.env.scope.names.lookup x = some .local := by rfl) (hy : X.env.scope.names.lookup y = some .local := by rfl)
    (hw : swappedStores [.Tuple [.Name x px, .Name y py] kt pt] (.Tuple [a, b] k2 pt2) X.env = pure (some [x, y]) := by rfl)
    (hs : swapsWithSole [.Tuple [.Name x px, .Name y py] kt pt] (.Tuple [a, b] k2 pt2) pos.line X.env = pure false := by rfl) :
    PFS X W (.Assign [.Tuple [.Name x px, .Name y py] kt pt] (.Tuple [a, b] k2 pt2) pos) (sPar i j fr) := PS_imp (ps_par hc hN hi hj hij hx hy ha hw hs) fun D σ H q => by
  obtain ⟨ρ, st, w, sim, er, gd⟩ := q
  refine ⟨ρ, st, w, sim, er, Good.imp (fun v H1 q => ?_) (good_st er gd)⟩
  obtain ⟨st1, w1, d, sim1, s1, r1, er1, gd1⟩ := q
  split at gd1
  · rename_i d1 d2
    obtain ⟨v1, v2, rfl, q1, q2⟩ := rds2 r1
    exact ⟨v1, v2, rfl, gd1 w1 H1 _ .refl sim1 ((er1.set q1 i).set q2 j)⟩
  · exact gd1.elim
theorem pfs_par3 (hc : X.calm = true) (hN : X.N.Nodup) (ha : PFA X W [a, b, c] fr) (hij : i ≠ j) (hik : i ≠ k) (hjk : j ≠ k) (hi : X.N[i]? = some x := by rfl) (hj : X.N[j]? = some y := by rfl) (hk : X.N[k]? = some z := by rfl)
    (hx : X.env.scope.names.lookup x = some .local := by rfl) (hy : X.env.scope.names.lookup y = some .local := by rfl) (hz : X.env.scope.names.lookup z = some .local := by rfl)
    (hw : swappedStores [.Tuple [.Name x px, .Name y py, .Name z pz] kt pt] (.Tuple [a, b, c] k2 pt2) X.env = pure (some [x, y, z]) := by rfl)
    (hs : swapsWithSole [.Tuple [.Name x px, .Name y py, .Name z pz] kt pt] (.Tuple [a, b, c] k2 pt2) pos.line X.env = pure false := by rfl) :
    PFS X W (.Assign [.Tuple [.Name x px, .Name y py, .Name z pz] kt pt] (.Tuple [a, b, c] k2 pt2) pos) (sPar3 i j k fr) := PS_imp (ps_par3 hc hN hi hj hk hij hik hjk hx hy hz ha hw hs) fun D σ H q => by
  obtain ⟨ρ, st, w, sim, er, gd⟩ := q
  refine ⟨ρ, st, w, sim, er, Good.imp (fun v H1 q => ?_) (good_st er gd)⟩
  obtain ⟨st1, w1, d, sim1, s1, r1, er1, gd1⟩ := q
  split at gd1
  · rename_i d1 d2 d3
    cases r1 with | cons q1 t => cases t with | cons q2 t => cases t with | cons q3 t =>
    cases t
    exact ⟨_, _, _, rfl, gd1 w1 H1 _ .refl sim1 (((er1.set q1 i).set q2 j).set q3 k)⟩
  · exact gd1.elim
/-- constants of the module -/
theorem pf_gint {x : Str} {n : Int} (h : ∃ t, X.mg x = some (.int n t)) (hg : Gl X x := by rfl) (hd : (x == ("__debug__" : Str)) = false := by decide) : PF X W (.Name x pos) (fC (.int n)) := by
  obtain ⟨t, h⟩ := h
  exact pf_glob (v := .int n) hg h ⟨t, rfl⟩ (fun _ _ => .int n) hd
theorem pf_gstr {x s : Str} (h : ∃ t, X.mg x = some (.str s t)) (hg : Gl X x := by rfl) (hd : (x == ("__debug__" : Str)) = false := by decide) : PF X W (.Name x pos) (fC (.str s)) := by
  obtain ⟨t, h⟩ := h
  exact pf_glob (v := .str s) hg h ⟨t, rfl⟩ (fun _ _ => .str s) hd
/-- a function's call in a comprehension: no error -/
theorem takesW0 : Takes X W0 := fun _ _ ⟨_, _, _, _, _, _, _, _, _, _, _, _, _, _, _, _, w⟩ => w.elim
end
section
variable {P : Program} {w : World} {K : PySem.W.Frag} {mg : Str → Option Value} {base : Heap} {x qual : Str} {params : Arguments} {body : List Stmt} {scope : Scope} {f : Addr} {fd : FuncData} {N ps : List Str} {k : Nat} {m : FS}
theorem fn_okD (F : FunD K x qual params body scope [] [] f fd) (S : FnScope N ps scope)
    (hbody : ∀ (cdv : Value) (A : Around) (outer : List Env) (s : Shared) (H : Hp) (E : XK), Room k (A.deeper (envOfC qual scope s.heap.objs.size f cdv)) →
      PFSs (cxOf (L2.CX P w) P w K mg base N qual scope f cdv A outer s H E) (fun cv dd _ H' => E cv dd H') body m) : FnOk P w K mg base (L2.CX P w) (k + 1) f fd ps (spD K mg ps.length (runD N.length m)) :=
  F.ok S (fun vs H Q E h => h.1) fun cdv A outer s H vs Q E hr h => ⟨_, hbody cdv A outer s H E hr, body_ok h⟩
end

theorem Room.hu64 {k : Nat} {A : Around} (r : Room k A) : A.units + 64 < cLine := by have := r.un; omega
theorem Room.hu65 {k : Nat} {A : Around} (r : Room k A) : A.units + 65 < cLine := by have := r.un; omega
theorem Room.hu1 {k : Nat} {A : Around} (r : Room k A) : A.units + 1 < cLine := by have := r.un; omega
section
variable {X : Cx} {W : WX} {a b : Expr} {fa fb : FE} {pos : Pos}
/-- << of a number of at most 1000000 bits -/
abbrev gShlW : G2 := gI (fun i j => decide (0 ≤ j) && decide (j ≤ 1000000) && decide (i.natAbs < 2 ^ 4000)) fun i j => .int (i * 2 ^ j.toNat)
theorem op_shlA : OpR X (binaryOp .LShift) (rI CShl fun i j => .int (i * 2 ^ j.toNat)) := op_shlW
theorem im_shlW : Im2 X (rI CShl fun i j => .int (i * 2 ^ j.toNat)) gShlW := im_I (fun i j h => by
  simp only [Bool.and_eq_true, decide_eq_true_eq] at h
  obtain ⟨⟨h1, h2⟩, h3⟩ := h
  have q := shl_ok (i := i) (j := j.toNat) (n := 4000) h3 (by omega)
  rw [Int.toNat_of_nonneg h1] at q
  exact q) fun _ _ _ _ => .int _
/-- xs + ys, a new list -/
def fCat (fa fb : FE) : FA := fun ρ st => (fa ρ st).bind fun x st1 => (fb ρ st1).bind fun y st2 => match lstOf x st2, lstOf y st2 with
  | some xs, some ys => if xs.length + ys.length ≤ 100000 then .ok (xs ++ ys) st2 else .stuck
  | _, _ => .stuck
theorem pfl_cat (ha : PF X W a fa) (hb : PF X W b fb) : PFL X W (.BinOp a .Add b pos) (fCat fa fb) := PE_imp (pe_op op_cat ha hb) fun σ H Q h => by
  obtain ⟨ρ, st, w, sim, er, gd⟩ := h
  refine ⟨ρ, st, w, sim, er, Good.imp (fun x H1 q => ?_) (Good.bind gd)⟩
  obtain ⟨st1, w1, d1, sim1, s1, r1, gd1⟩ := q
  refine ⟨ρ, st1, w1, sim1, er.mono s1, Good.imp (fun y H2 q => ?_) (Good.bind gd1)⟩
  obtain ⟨st2, w2, d2, sim2, s2, r2, gd2⟩ := q
  split at gd2
  · rename_i xs ys ex ey
    split at gd2
    · rename_i hl
      obtain ⟨a, vs, rfl, q1, t1⟩ := lst_rd sim2 (r1.mono s2) ex
      obtain ⟨b, us, rfl, q2, t2⟩ := lst_rd sim2 r2 ey
      have hz : vs.length + us.length ≤ sizeLine := by rw [← q1.length, ← q2.length]; exact le_line hl
      exact ⟨a, b, vs, us, rfl, rfl, t1, t2, hz, fun p hp => gd2 w2 H2 _ .refl sim2 (q1.append q2) p hp (by rw [List.length_append]; exact hz)⟩
    · exact gd2.elim
  · exact gd2.elim
end
section
variable {P : Program} {w : World} {K : PySem.W.Frag} {mg : Str → Option Value} {base : Heap} {N : List Str} {qual : Str} {scope : Scope} {f : Addr} {cd : Value} {A : Around} {outer : List Env} {s : Shared} {H : Hp} {E : XK}
theorem tk_of : Takes (cxOf (L2.CX P w) P w K mg base N qual scope f cd A outer s H E) (fun cv dd _ H' => E cv dd H') := takes_of rfl rfl rfl rfl
theorem po_of : PassesOwn (model P w) (cxOf (L2.CX P w) P w K mg base N qual scope f cd A outer s H E).A (cxOf (L2.CX P w) P w K mg base N qual scope f cd A outer s H E).env (cxOf (L2.CX P w) P w K mg base N qual scope f cd A outer s H E).xe := passes_of rfl
end
end FB
set_option Elab.async false
set_option linter.all false
set_option maxRecDepth 100000
set_option maxHeartbeats 4000000
/-! PL0: reckoning with the mirror functions. -/
namespace FB
open PySem PySem.Spec PyProof.Rows L2 RZ
section
variable {α β : Type} {ρ : Sl} {st : So} {i j : Nat} {fa fb fc : FE} {fr : FA} {t u : FT} {g : G2} {g1 : G1} {ga gb : FS} {a : α} {f : α → So → Rs β} {h : α → So → Ss}
@[simp] theorem bind_ok : (Rs.ok a st).bind f = f a st := (rfl)
@[simp] theorem bindN_ok : (Rs.ok a st).bindN f = f a st := (rfl)
@[simp] theorem st_ok : (Rs.ok a st).st ρ h = h a st := (rfl)
@[simp] theorem toR_some {d : Dv} : toR st (some d) = .ok d st := (rfl)
@[simp] theorem ev_c {d : PyData} : fC d ρ st = .ok (.p d) st := (rfl)
@[simp] theorem ev_op : fOp g fa fb ρ st = (fa ρ st).bind fun x st1 => (fb ρ st1).bind fun y st2 => toR st2 (g x y st2) := (rfl)
@[simp] theorem ev_un : fUn g1 fa ρ st = (fa ρ st).bind fun x st1 => toR st1 (g1 x st1) := (rfl)
@[simp] theorem ev_tb : fTB fa ρ st = (fa ρ st).bind asB := (rfl)
@[simp] theorem ev_asB {b : Bool} : asB (.p (.bool b)) st = .ok b st := (rfl)
@[simp] theorem ev_tnot : fTNot t ρ st = (t ρ st).bind fun b st1 => .ok (!b) st1 := (rfl)
@[simp] theorem ev_tand : fTAnd t u ρ st = (t ρ st).bind fun b st1 => if b then u ρ st1 else .ok false st1 := (rfl)
@[simp] theorem ev_tor : fTOr t u ρ st = (t ρ st).bind fun b st1 => if b then .ok true st1 else u ρ st1 := (rfl)
@[simp] theorem ev_and : fAnd fa fb ρ st = (fTB fa ρ st).bind fun b st1 => if b then fb ρ st1 else .ok (.p (.bool false)) st1 := (rfl)
@[simp] theorem ev_or : fOr fa fb ρ st = (fTB fa ρ st).bind fun b st1 => if b then .ok (.p (.bool true)) st1 else fb ρ st1 := (rfl)
@[simp] theorem ev_not : fNot fa ρ st = (fTB fa ρ st).bind fun b st1 => .ok (.p (.bool (!b))) st1 := (rfl)
@[simp] theorem ev_if : fIf t fa fb ρ st = (t ρ st).bind fun b st1 => if b then fa ρ st1 else fb ρ st1 := (rfl)
@[simp] theorem ev_nil : fNil ρ st = .ok [] st := (rfl)
@[simp] theorem ev_cons : fCons fa fr ρ st = (fa ρ st).bind fun x st1 => (fr ρ st1).bind fun xs st2 => .ok (x :: xs) st2 := (rfl)
@[simp] theorem ev_tup : fTup fr ρ st = (fr ρ st).bind fun xs st1 => if small xs then .ok (mkT xs) st1 else .stuck := (rfl)
@[simp] theorem ev_pure : fPure fr ρ st = (fr ρ st).bind fun xs st1 => if small xs then .ok (mkL xs) st1 else .stuck := (rfl)
@[simp] theorem ev_cell : fCell fr ρ st = (fr ρ st).bind fun xs st1 => if small xs then .ok (.ref st1.length) (st1 ++ [.lst xs]) else .stuck := (rfl)
@[simp] theorem ev_cb {g : GA} : fCB g fr ρ st = (fr ρ st).bind fun xs st1 => toR st1 (g xs st1) := (rfl)
@[simp] theorem ev_next : sNext ρ st = .nx ρ st := (rfl)
@[simp] theorem ev_pass : sPass ρ st = .nx ρ st := (rfl)
@[simp] theorem ev_drop : sDrop fa ρ st = (fa ρ st).st ρ fun _ st1 => .nx ρ st1 := (rfl)
@[simp] theorem ev_ret : sRet fa ρ st = (fa ρ st).st ρ fun d st1 => .ret d st1 := (rfl)
@[simp] theorem ev_sif : sIf t ga gb ρ st = (t ρ st).st ρ fun b st1 => if b then ga ρ st1 else gb ρ st1 := (rfl)
@[simp] theorem ev_asg {tg : Tg} : sAsg fa tg ρ st = (fa ρ st).st ρ fun d st1 => toE (tgF tg d ρ) fun ρ' => .nx ρ' st1 := (rfl)
@[simp] theorem ev_call {F : FD} : fCall F fr ρ st = (fr ρ st).bind F := (rfl)
@[simp] theorem ev_seq : sSeq ga gb ρ st = match ga ρ st with
  | .nx ρ' st' => gb ρ' st'
  | r => r := (rfl)
@[simp] theorem ev_var : fVar i ρ st = match ρ[i]? with
  | some (some d) => .ok d st
  | _ => .stuck := (rfl)
@[simp] theorem toE_some {r : Sl} {k : Sl → Ss} : toE (some r) k = k r := (rfl)
@[simp] theorem tg_nm {d : Dv} : tgF (.nm i) d ρ = some (ρ.set i (some d)) := by unfold tgF; rfl
@[simp] theorem tgs_nil : tgFs [] [] ρ = some ρ := by unfold tgFs; rfl
@[simp] theorem tgs_cons {t : Tg} {ts : List Tg} {d : Dv} {ds : List Dv} : tgFs (t :: ts) (d :: ds) ρ = match tgF t d ρ with
  | some ρ' => tgFs ts ds ρ'
  | none => none := by
  conv => lhs; unfold tgFs
  all_goals rfl
@[simp] theorem tg_tpP {ts : List Tg} {xs : List PyData} : tgF (.tp ts) (.p (.tuple xs)) ρ = if (xs.map Dv.p).length = ts.length then tgFs ts (xs.map Dv.p) ρ else none := by unfold tgF; rfl
@[simp] theorem tg_tpD {ts : List Tg} {xs : List Dv} : tgF (.tp ts) (.tupD xs) ρ = if xs.length = ts.length then tgFs ts xs ρ else none := by unfold tgF; rfl
@[simp] theorem ev_for {fi : FA} {tg : Tg} : sFor fi tg ga ρ st = (fi ρ st).st ρ fun items st1 => sForL tg ga items ρ st1 := (rfl)
@[simp] theorem ev_list : fListOf fa ρ st = (fa ρ st).bind fun d st1 => match seqOf d st1 with
  | some ys => if small ys then .ok ys st1 else .stuck
  | none => .stuck := (rfl)
@[simp] theorem ev_rng {g : List Dv → Option (List Dv)} : fRng g fr ρ st = (fr ρ st).bind fun xs st1 => optR st1 (g xs) := (rfl)
@[simp] theorem ev_fst {g : List Dv → So → Option (List Dv)} : fSt g fr ρ st = (fr ρ st).bind fun xs st1 => optR st1 (g xs st1) := (rfl)
@[simp] theorem optR_some : optR st (some a) = .ok a st := (rfl)
@[simp] theorem ev_nop : fNoP ρ st = .ok none st := (rfl)
@[simp] theorem ev_pt : fPt fa ρ st = (fa ρ st).bind asI := (rfl)
@[simp] theorem ev_asI {k : Int} : asI (.p (.int k)) st = .ok (some k) st := (rfl)
@[simp] theorem ev_sl {fl fh : FO} : fSl fa fl fh ρ st = (fa ρ st).bind fun x st1 => (fl ρ st1).bind fun lo st2 => (fh ρ st2).bind fun hi st3 => toR st3 (gSl x lo hi st3) := (rfl)
@[simp] theorem ev_mth {g : GM} {fo : FE} : fMth g fo fr ρ st = (fo ρ st).bind fun x st1 => if isLst x st1 then (fr ρ st1).bind fun xs st2 => toM (g x xs st2) else .stuck := (rfl)
@[simp] theorem ev_mth0 {g : GM} {fo : FE} : fMth0 g fo ρ st = (fo ρ st).bind fun x st1 => if isLst x st1 then toM (g x [] st1) else .stuck := (rfl)
@[simp] theorem toM_some {d : Dv} : toM (some (d, st)) = .ok d st := (rfl)
@[simp] theorem ev_par : sPar i j fr ρ st = (fr ρ st).st ρ fun vs st1 => match vs with
  | [a, b] => .nx ((ρ.set i (some a)).set j (some b)) st1
  | _ => .stuck := (rfl)
@[simp] theorem ev_par3 {k : Nat} : sPar3 i j k fr ρ st = (fr ρ st).st ρ fun vs st1 => match vs with
  | [a, b, c] => .nx (((ρ.set i (some a)).set j (some b)).set k (some c)) st1
  | _ => .stuck := (rfl)
@[simp] theorem ev_isT {T : String} : fIsT T fa ρ st = (fa ρ st).bind fun d st1 => match tyOf d st1 with
  | some n => match kitB n T with
    | some b => .ok (.p (.bool b)) st1
    | none => .stuck
  | none => .stuck := (rfl)
@[simp] theorem ev_chain {g' : G2} : fChain g g' fa fb fc ρ st = (fa ρ st).bind fun x st1 => (fb ρ st1).bind fun y st2 => match g x y st2 with
  | some (.p (.bool true)) => (fc ρ st2).bind fun z st3 => toR st3 (g' y z st3)
  | some (.p (.bool false)) => .ok (.p (.bool false)) st2
  | _ => .stuck := (rfl)
@[simp] theorem ev_lenSet : fLenSet fa ρ st = (fa ρ st).bind fun d st1 => match tupOf d with
  | some ds => match txts ds with
    | some xs => if xs.length < 4000 then .ok (.p (.int (lenSet xs : Nat))) st1 else .stuck
    | none => .stuck
  | none => .stuck := (rfl)
@[simp] theorem ev_cat : fCat fa fb ρ st = (fa ρ st).bind fun x st1 => (fb ρ st1).bind fun y st2 => match lstOf x st2, lstOf y st2 with
  | some xs, some ys => if xs.length + ys.length ≤ 100000 then .ok (xs ++ ys) st2 else .stuck
  | _, _ => .stuck := (rfl)
@[simp] theorem ev_indexT : fIndexT fa fr ρ st = (fa ρ st).bind fun x st1 => match x with
  | .p (.tuple ds) => (fr ρ st1).bind fun xs st2 => toR st2 (gIndexT (.p (.tuple ds)) xs)
  | _ => .stuck := (rfl)
@[simp] theorem ev_get2 {fo fk fd : FE} : fGet2 fo fk fd ρ st = (fo ρ st).bind fun x st1 => match dictOf x st1 with
  | some _ => (fk ρ st1).bind fun y st2 => (fd ρ st2).bind fun z st3 => match dictOf x st3, keyD y with
    | some (_, kvs), some k => .ok ((atK kvs k).getD z) st3
    | _, _ => .stuck
  | none => .stuck := (rfl)
@[simp] theorem ev_aug {fe : FE} : sAug i g fe ρ st = match ρ[i]? with
  | some (some d) => (fe ρ st).st ρ fun y st1 => match g d y st1 with
    | some z => .nx (ρ.set i (some z)) st1
    | none => .stuck
  | _ => .stuck := (rfl)
@[simp] theorem ev_ext {fe : FE} : sExt i fe ρ st = match ρ[i]? with
  | some (some d) => (fe ρ st).st ρ fun y st1 => match cellL d st1, lstOf y st1 with
    | some (j, xs), some ys => if xs.length + ys.length ≤ 100000 then .nx ρ (st1.set j (.lst (xs ++ ys))) else .stuck
    | _, _ => .stuck
  | _ => .stuck := (rfl)
@[simp] theorem forL_nil {tg : Tg} : sForL tg ga [] ρ st = .nx ρ st := (rfl)
@[simp] theorem forL_cons {tg : Tg} {d : Dv} {ds : List Dv} : sForL tg ga (d :: ds) ρ st = toE (tgF tg d ρ) fun ρ' => match ga ρ' st with
    | .nx ρ2 st2 => sForL tg ga ds ρ2 st2
    | .cnt ρ2 st2 => sForL tg ga ds ρ2 st2
    | .brk ρ2 st2 => .nx ρ2 st2
    | r => r := (rfl)
end
/-! ### the store -/
/-- a cell that names no other cell -/
def flatC (c : Cl) : Prop := ∀ n, lowC n c = true
def Flat (st : So) : Prop := ∀ c ∈ st, flatC c
theorem go_map {n : Nat} : ∀ xs : List PyData, lowD.go n (xs.map Dv.p) = true
  | [] => rfl
  | x :: xs => by
    show (lowD n (.p x) && lowD.go n (xs.map Dv.p)) = true
    rw [go_map xs]; rfl
theorem flat_lst (xs : List PyData) : flatC (.lst (xs.map Dv.p)) := fun n => go_map xs
theorem flat_dead : flatC .dead := fun _ => rfl
theorem Flat.nil : Flat [] := fun c h => by cases h
theorem Flat.app {a b : So} (h : Flat a) (h' : Flat b) : Flat (a ++ b) := fun c hc => (List.mem_append.mp hc).elim (h c) (h' c)
theorem Flat.one {c : Cl} (h : flatC c) : Flat [c] := fun d hd => by rw [List.mem_singleton.mp hd]; exact h
theorem Flat.set {st : So} {i : Nat} {c : Cl} (h : Flat st) (hc : flatC c) : Flat (st.set i c) := fun d hd => (List.mem_or_eq_of_mem_set hd).elim (h d) (fun e => e ▸ hc)
theorem Flat.all {st : So} (h : Flat st) (n : Nat) : st.all (lowC n) = true := List.all_eq_true.mpr fun c hc => h c hc n
theorem trim_same {n : Nat} {d : Dv} {st : So} (h : st.length = n) : trim n d st = st := by
  unfold trim
  split
  · rw [← h, List.take_length]
  · rfl
theorem trim_app {d : Dv} {st ex : So} (h : Flat st) (hd : lowD st.length d = true) : trim st.length d (st ++ ex) = st := by
  unfold trim
  rw [List.take_left, hd, h.all]
  rfl
theorem trim_app' {n : Nat} {d : Dv} {st ex : So} (hn : st.length = n) (h : Flat st) (hd : lowD n d = true) : trim n d (st ++ ex) = st := by
  subst hn; exact trim_app h hd
@[simp] theorem low_p {n : Nat} {x : PyData} : lowD n (.p x) = true := (rfl)
theorem runD_ret {N : Nat} {body : FS} {args : List Dv} {st st' : So} {d : Dv} (h : body (args.map some ++ List.replicate (N - args.length) none) st = .ret d st') : runD N body args st = .ok d (trim st.length d st') := by
  unfold runD; rw [h]
theorem runD_nx {N : Nat} {body : FS} {args : List Dv} {st st' : So} {ρ' : Sl} (h : body (args.map some ++ List.replicate (N - args.length) none) st = .nx ρ' st') : runD N body args st = .ok (.p .none) (trim st.length (.p .none) st') := by
  unfold runD; rw [h]
/-- a def that leaves the store as it was -/
theorem runD_pure {N : Nat} {body : FS} {args : List Dv} {st ex : So} {x : PyData} (hF : Flat st) (h : body (args.map some ++ List.replicate (N - args.length) none) st = .ret (.p x) (st ++ ex)) : runD N body args st = .ok (.p x) st := by
  rw [runD_ret h, trim_app hF rfl]
theorem runD_pure0 {N : Nat} {body : FS} {args : List Dv} {st : So} {x : PyData} (h : body (args.map some ++ List.replicate (N - args.length) none) st = .ret (.p x) st) : runD N body args st = .ok (.p x) st := by
  rw [runD_ret h, trim_same rfl]
theorem runD_none0 {N : Nat} {body : FS} {args : List Dv} {st : So} {ρ' : Sl} (h : body (args.map some ++ List.replicate (N - args.length) none) st = .nx ρ' st) : runD N body args st = .ok (.p .none) st := by
  rw [runD_nx h, trim_same rfl]
/-! ### comprehensions whose parts leave the store -/
theorem cmpL_pure {α : Type} {tg : Tg} {tt : FT} {fe : FE} {ρ : Sl} {st : So} {f : α → Dv} {r : α → Sl} {p : α → Bool} {g : α → Dv} : ∀ (xs : List α) (acc : List Dv),
    (∀ x ∈ xs, tgF tg (f x) ρ = some (r x)) → (∀ x ∈ xs, tt (r x) st = .ok (p x) st) → (∀ x ∈ xs, p x = true → fe (r x) st = .ok (g x) st) → cmpL tg tt fe ρ (xs.map f) acc st = .ok (acc ++ (xs.filter p).map g) st
  | [], acc, _, _, _ => by simp [cmpL]
  | x :: xs, acc, h1, h2, h3 => by
    have ih := fun acc => cmpL_pure (r := r) (p := p) (g := g) xs acc (fun y hy => h1 y (List.mem_cons_of_mem _ hy)) (fun y hy => h2 y (List.mem_cons_of_mem _ hy)) (fun y hy => h3 y (List.mem_cons_of_mem _ hy))
    rw [List.map_cons]
    unfold cmpL
    simp only [h1 x List.mem_cons_self, h2 x List.mem_cons_self, bindN_ok]
    cases e : p x with
    | true => simp [h3 x List.mem_cons_self e, ih, e]
    | false => simp [ih, e]
theorem cmpL_all {α : Type} {tg : Tg} {fe : FE} {ρ : Sl} {st : So} {f : α → Dv} {r : α → Sl} {g : α → Dv} (xs : List α) (h1 : ∀ x ∈ xs, tgF tg (f x) ρ = some (r x)) (h3 : ∀ x ∈ xs, fe (r x) st = .ok (g x) st) : cmpL tg tYesF fe ρ (xs.map f) [] st = .ok (xs.map g) st := by
  rw [cmpL_pure (p := fun _ => true) (g := g) xs [] h1 (fun _ _ => rfl) fun x hx _ => h3 x hx, List.nil_append, List.filter_eq_self.mpr fun _ _ => rfl]
theorem cmpC_pure {α : Type} {tg : Tg} {tt : FT} {fe : FE} {ρ : Sl} {st : So} {i : Nat} {f : α → Dv} {r : α → Sl} {p : α → Bool} {g : α → Dv} {all : List α} (hs : st[i]? = some (.lst (all.map f)))
    (h1 : ∀ x ∈ all, tgF tg (f x) ρ = some (r x)) (h2 : ∀ x ∈ all, tt (r x) st = .ok (p x) st) (h3 : ∀ x ∈ all, p x = true → fe (r x) st = .ok (g x) st) : ∀ (fu k : Nat) (acc : List Dv), all.length - k < fu → cmpC tg tt fe ρ i fu k acc st = .ok (acc ++ ((all.drop k).filter p).map g) st
  | 0, k, acc, h => by omega
  | fu + 1, k, acc, h => by
    unfold cmpC cellAt
    rw [hs]
    dsimp only
    rw [List.getElem?_map]
    by_cases hk : k < all.length
    · have hm : all[k] ∈ all := List.getElem_mem hk
      rw [List.getElem?_eq_getElem hk, List.drop_eq_getElem_cons hk]
      simp only [Option.map_some, h1 _ hm, h2 _ hm, bindN_ok]
      have ih := fun acc => cmpC_pure hs h1 h2 h3 fu (k + 1) acc (by omega)
      cases e : p all[k] with
      | true => simp [h3 _ hm e, ih, e, -List.getElem_cons_drop]
      | false => simp [ih, e, -List.getElem_cons_drop]
    · rw [List.getElem?_eq_none (by omega), List.drop_eq_nil_of_le (by omega)]
      simp
/-! ### words, rows -/
abbrev sD (x : Str) : Dv := .p (.str x)
def tw (ws : List Str) : Dv := .p (.tuple (ws.map PyData.str))
def lw (ws : List Str) : Dv := .p (.list (ws.map PyData.str))
theorem map_sD (ws : List Str) : (ws.map PyData.str).map Dv.p = ws.map sD := by rw [List.map_map]; rfl
@[simp] theorem tup_tw (ws : List Str) : tupOf (tw ws) = some (ws.map sD) := by
  show some ((ws.map PyData.str).map Dv.p) = _
  rw [map_sD]
@[simp] theorem seq_tw (ws : List Str) (st : So) : seqOf (tw ws) st = some (ws.map sD) := by
  unfold seqOf
  show (match tupOf (tw ws) with | some xs => some xs | none => lstOf (tw ws) st) = _
  rw [tup_tw]
@[simp] theorem items_tw (ws : List Str) (st : So) : itemsOf (tw ws) st = some (ws.map sD) := seq_tw ws st
@[simp] theorem tup_lw (ws : List Str) : tupOf (lw ws) = none := (rfl)
@[simp] theorem lst_lw (ws : List Str) (st : So) : lstOf (lw ws) st = some (ws.map sD) := by
  show some ((ws.map PyData.str).map Dv.p) = _
  rw [map_sD]
@[simp] theorem seq_lw (ws : List Str) (st : So) : seqOf (lw ws) st = some (ws.map sD) := by
  unfold seqOf
  show (match tupOf (lw ws) with | some xs => some xs | none => lstOf (lw ws) st) = _
  rw [tup_lw]
  exact lst_lw ws st
@[simp] theorem items_lw (ws : List Str) (st : So) : itemsOf (lw ws) st = some (ws.map sD) := seq_lw ws st
@[simp] theorem mkT_s (ws : List Str) : mkT (ws.map sD) = tw ws := by
  unfold mkT
  rw [← map_sD, pures_map]
  rfl
@[simp] theorem mkL_s (ws : List Str) : mkL (ws.map sD) = lw ws := by
  unfold mkL
  rw [← map_sD, pures_map]
  rfl
theorem mkT_p (xs : List PyData) : mkT (xs.map Dv.p) = .p (.tuple xs) := by unfold mkT; rw [pures_map]
theorem mkL_p (xs : List PyData) : mkL (xs.map Dv.p) = .p (.list xs) := by unfold mkL; rw [pures_map]
@[simp] theorem txts_s : ∀ ws : List Str, txts (ws.map sD) = some ws
  | [] => rfl
  | w :: ws => by
    show (txts (ws.map sD)).map (w :: ·) = _
    rw [txts_s ws]; rfl
theorem flVs_s : ∀ ws : List Str, flVs (ws.map sD) = some (ws.map V.str)
  | [] => rfl
  | w :: ws => by
    show (match flV (sD w), flVs (ws.map sD) with | some v, some vs => some (v :: vs) | _, _ => none) = _
    rw [flVs_s ws]; rfl
theorem inV_s (x : Str) (ws : List Str) : inV (.str x) (ws.map V.str) = decide (x ∈ ws) := by
  unfold inV
  rw [List.any_map, Bool.eq_iff_iff, List.any_eq_true, decide_eq_true_eq]
  constructor
  · rintro ⟨y, hy, e⟩
    have : (y == x) = true := e
    rw [beq_iff_eq] at this
    exact this ▸ hy
  · exact fun h => ⟨x, h, beq_self_eq_true x⟩
theorem mem_seq {x : Str} {d : Dv} {ws : List Str} {st : So} (hd : seqOf d st = some (ws.map sD)) (hn : ∀ z, d ≠ .p (.str z)) : memD (sD x) d st = some (decide (x ∈ ws)) := by
  unfold memD
  split
  · rename_i a z e
    exact absurd rfl (hn z)
  · rw [hd]
    dsimp only
    rw [flVs_s]
    show some (inV (.str x) (ws.map V.str)) = _
    rw [inV_s]
@[simp] theorem gIn_tw (x : Str) (ws : List Str) (st : So) : gIn (sD x) (tw ws) st = some (.p (.bool (decide (x ∈ ws)))) := by
  unfold gIn; rw [mem_seq (seq_tw ws st) (fun z e => by cases e)]; rfl
@[simp] theorem gNotIn_tw (x : Str) (ws : List Str) (st : So) : gNotIn (sD x) (tw ws) st = some (.p (.bool (!decide (x ∈ ws)))) := by
  unfold gNotIn; rw [mem_seq (seq_tw ws st) (fun z e => by cases e)]; rfl
@[simp] theorem gIn_lw (x : Str) (ws : List Str) (st : So) : gIn (sD x) (lw ws) st = some (.p (.bool (decide (x ∈ ws)))) := by
  unfold gIn; rw [mem_seq (seq_lw ws st) (fun z e => by cases e)]; rfl
@[simp] theorem gNotIn_lw (x : Str) (ws : List Str) (st : So) : gNotIn (sD x) (lw ws) st = some (.p (.bool (!decide (x ∈ ws)))) := by
  unfold gNotIn; rw [mem_seq (seq_lw ws st) (fun z e => by cases e)]; rfl
@[simp] theorem gLen_tw (ws : List Str) (st : So) : gLen [tw ws] st = some (.p (.int ws.length)) := by
  show (seqOf (tw ws) st).map (fun ys => Dv.p (.int ys.length)) = _
  rw [seq_tw]; simp
@[simp] theorem gLen_lw (ws : List Str) (st : So) : gLen [lw ws] st = some (.p (.int ws.length)) := by
  show (seqOf (lw ws) st).map (fun ys => Dv.p (.int ys.length)) = _
  rw [seq_lw]; simp
@[simp] theorem ty_tw (ws : List Str) (st : So) : tyOf (tw ws) st = some "tuple" := (rfl)
@[simp] theorem gEq_s (a b : Str) (st : So) : gEq (sD a) (sD b) st = some (.p (.bool (decide (a = b)))) := (rfl)
@[simp] theorem gNe_s (a b : Str) (st : So) : gNe (sD a) (sD b) st = some (.p (.bool (!decide (a = b)))) := (rfl)
@[simp] theorem gEq_i (a b : Int) (st : So) : gEq (.p (.int a)) (.p (.int b)) st = some (.p (.bool (decide (a = b)))) := (rfl)
@[simp] theorem gNe_i (a b : Int) (st : So) : gNe (.p (.int a)) (.p (.int b)) st = some (.p (.bool (!decide (a = b)))) := (rfl)
theorem eqvAll_s : ∀ a b : List Str, PyData.eqvAll (a.map PyData.str) (b.map PyData.str) = decide (a = b)
  | [], [] => rfl
  | [], _ :: _ => rfl
  | _ :: _, [] => rfl
  | x :: a, y :: b => by
    show (PyData.eqv (.str x) (.str y) && PyData.eqvAll (a.map PyData.str) (b.map PyData.str)) = _
    rw [eqvAll_s a b]
    show ((x == y) && decide (a = b)) = _
    rw [Bool.eq_iff_iff]
    simp
def SOkL (a : List Str) : Prop := ∀ w ∈ a, PyData.strOk w = true
theorem canAll_s : ∀ a : List Str, SOkL a → PyData.canLayAll0 (a.map PyData.str) = true
  | [], _ => rfl
  | x :: a, h => by
    show (PyData.canLay0 (.str x) && PyData.canLayAll0 (a.map PyData.str)) = true
    rw [canAll_s a fun w hw => h w (List.mem_cons_of_mem _ hw), Bool.and_true]
    simpa [PyData.canLay0] using h x List.mem_cons_self
theorem depthAll_s : ∀ a : List Str, PyData.depthAll (a.map PyData.str) ≤ 1
  | [] => by simp [PyData.depthAll]
  | x :: a => by
    have := depthAll_s a
    simp [PyData.depthAll, PyData.depth] at this ⊢
    try omega
theorem shaped_tw (a : List Str) (h : SOkL a) : SeqAt.shaped (.tuple (a.map PyData.str)) = true := by
  unfold SeqAt.shaped
  have h1 : PyData.canLay0 (.tuple (a.map PyData.str)) = true := by simpa [PyData.canLay0] using canAll_s a h
  have h2 := depthAll_s a
  have h3 : PyData.depth (.tuple (a.map PyData.str)) ≤ 64 := by simp [PyData.depth]; omega
  rw [h1, decide_eq_true h3]; rfl
theorem eqD_tw (a b : List Str) (st : So) (ha : SOkL a) (hb : SOkL b) : eqD (tw a) (tw b) st = some (decide (a = b)) := by
  show (if SeqAt.shaped (.tuple (a.map PyData.str)) && SeqAt.shaped (.tuple (b.map PyData.str)) then some (PyData.eqv (.tuple (a.map PyData.str)) (.tuple (b.map PyData.str))) else none) = _
  rw [shaped_tw a ha, shaped_tw b hb]
  show some (PyData.eqvAll (a.map PyData.str) (b.map PyData.str)) = _
  rw [eqvAll_s]
theorem gEq_tw (a b : List Str) (st : So) (ha : SOkL a) (hb : SOkL b) : gEq (tw a) (tw b) st = some (.p (.bool (decide (a = b)))) := by unfold gEq; rw [eqD_tw a b st ha hb]; rfl
theorem gNe_tw (a b : List Str) (st : So) (ha : SOkL a) (hb : SOkL b) : gNe (tw a) (tw b) st = some (.p (.bool (!decide (a = b)))) := by unfold gNe; rw [eqD_tw a b st ha hb]; rfl
@[simp] theorem gTuple_lw (ws : List Str) (st : So) (h : ws.length ≤ 100000) : gTuple [lw ws] st = some (tw ws) := by
  show (match tupOf (lw ws) with | some _ => some (lw ws) | none => match lstOf (lw ws) st with | some ys => if small ys then some (mkT ys) else none | none => none) = _
  rw [tup_lw, lst_lw]
  have : small (ws.map sD) = true := by unfold small; rw [List.length_map]; exact decide_eq_true h
  simp only [this, if_true, mkT_s]
@[simp] theorem small_map {α : Type} {f : α → Dv} (xs : List α) : small (xs.map f) = decide (xs.length ≤ 100000) := by unfold small; rw [List.length_map]
theorem bools_b : ∀ bs : List Bool, bools (bs.map fun b => Dv.p (.bool b)) = some bs
  | [] => rfl
  | b :: bs => by
    show (bools (bs.map fun b => Dv.p (.bool b))).map (b :: ·) = _
    rw [bools_b bs]; rfl
theorem intsD_i : ∀ bs : List Int, intsD (bs.map fun b => Dv.p (.int b)) = some bs
  | [] => rfl
  | b :: bs => by
    show (intsD (bs.map fun b => Dv.p (.int b))).map (b :: ·) = _
    rw [intsD_i bs]; rfl
/-- all(a list of bools), as mkL gives it -/
theorem mkL_lst (ds : List Dv) (xs : List PyData) (h : ds = xs.map Dv.p) (st : So) : lstOf (mkL ds) st = some ds := by
  subst h
  rw [mkL_p]; rfl
theorem mkL_b (bs : List Bool) : mkL (bs.map fun b => Dv.p (.bool b)) = .p (.list (bs.map PyData.bool)) := by
  rw [← mkL_p, List.map_map]; rfl
theorem mkL_i (bs : List Int) : mkL (bs.map fun b => Dv.p (.int b)) = .p (.list (bs.map PyData.int)) := by
  rw [← mkL_p, List.map_map]; rfl
theorem gAll_b (bs : List Bool) (st : So) : gAll [mkL (bs.map fun b => Dv.p (.bool b))] st = some (.p (.bool (bs.all id))) := by
  rw [mkL_b]
  show ((bools ((bs.map PyData.bool).map Dv.p)).map fun (bs : List Bool) => Dv.p (.bool (bs.all id))) = _
  rw [List.map_map]
  show ((bools (bs.map fun b => Dv.p (.bool b))).map fun (bs : List Bool) => Dv.p (.bool (bs.all id))) = _
  rw [bools_b]; rfl
theorem gMax_i (b : Int) (bs : List Int) (st : So) : gMax [mkL ((b :: bs).map fun b => Dv.p (.int b))] st = some (.p (.int (maxL (b :: bs)))) := by
  rw [mkL_i]
  show (match intsD (((b :: bs).map PyData.int).map Dv.p) with | some (x :: r) => some (Dv.p (.int (maxL (x :: r)))) | _ => none) = _
  rw [List.map_map]
  have e := intsD_i (b :: bs)
  have e2 : List.map (Dv.p ∘ PyData.int) (b :: bs) = (b :: bs).map fun b => Dv.p (.int b) := (rfl)
  rw [e2, e]
/-! ### plain iterables -/
theorem ev_lcV {fa : FE} {tg : Tg} {tt : FT} {fe : FE} {ρ : Sl} {st st1 : So} {d : Dv} {items : List Dv} (hd : fa ρ st = .ok d st1) (hi : itemsOf d st1 = some items) (hl : items.length ≤ 100000) :
    fLcV fa tg tt fe ρ st = cmpL tg tt fe (rhoW ρ (tgS tg)) items [] st1 := by
  unfold fLcV
  rw [hd]
  cases d with
  | ref i => exact absurd hi (by simp [itemsOf])
  | _ => simp only [bind_ok, hi, if_pos hl]
theorem ev_lcVC {fa : FE} {tg : Tg} {tt : FT} {fe : FE} {ρ : Sl} {st st1 : So} {i : Nat} (hd : fa ρ st = .ok (.ref i) st1) :
    fLcV fa tg tt fe ρ st = cmpC tg tt fe (rhoW ρ (tgS tg)) i 100001 0 [] st1 := by
  unfold fLcV
  rw [hd]
  rfl
theorem ev_forV {fa : FE} {tg : Tg} {body : FS} {ρ : Sl} {st st1 : So} {d : Dv} {items : List Dv} (hd : fa ρ st = .ok d st1) (hi : itemsOf d st1 = some items) : sForV fa tg body ρ st = sForL tg body items ρ st1 := by
  unfold sForV
  rw [hd]
  cases d with
  | ref i => exact absurd hi (by simp [itemsOf])
  | _ => simp only [st_ok, hi]
theorem ev_forVC {fa : FE} {tg : Tg} {body : FS} {ρ : Sl} {st st1 : So} {i : Nat} (hd : fa ρ st = .ok (.ref i) st1) : sForV fa tg body ρ st = sForC tg body i 100001 0 ρ st1 := by
  unfold sForV
  rw [hd]
  rfl
theorem rhoW_one {ρ : Sl} {i : Nat} : rhoW ρ (tgS (.nm i)) = ρ.set i none := by simp [tgS, rhoW]
theorem rhoW_two {ρ : Sl} {i j : Nat} : rhoW ρ (tgS (.tp [.nm i, .nm j])) = (ρ.set j none).set i none := by simp [tgS, tgSs, rhoW]
theorem items_str (x : Str) (st : So) : itemsOf (sD x) st = some (x.cps.toList.map fun c => .p (.str ⟨#[c]⟩)) := (rfl)
theorem ty_s (x : Str) (st : So) : tyOf (sD x) st = some "str" := (rfl)
theorem kit_ss : kitB "str" "str" = some true := by decide +kernel
theorem kit_tt : kitB "tuple" "tuple" = some true := by decide +kernel
theorem kit_ll : kitB "list" "list" = some true := by decide +kernel
theorem kit_ib : kitB "int" "bool" = some false := by decide +kernel
theorem lcV_pure {α : Type} {fa : FE} {tg : Tg} {tt : FT} {fe : FE} {ρ : Sl} (ρ0 : Sl) {st : So} {d : Dv} {xs : List α} {f : α → Dv} (r : α → Sl) (p : α → Bool) (g : α → Dv) (hd : fa ρ st = .ok d st) (hi : itemsOf d st = some (xs.map f)) (hl : xs.length ≤ 100000) (hρ : rhoW ρ (tgS tg) = ρ0)
    (h1 : ∀ x ∈ xs, tgF tg (f x) ρ0 = some (r x)) (h2 : ∀ x ∈ xs, tt (r x) st = .ok (p x) st) (h3 : ∀ x ∈ xs, p x = true → fe (r x) st = .ok (g x) st) : fLcV fa tg tt fe ρ st = .ok ((xs.filter p).map g) st := by
  rw [ev_lcV hd hi (by rw [List.length_map]; exact hl), hρ, cmpL_pure xs [] h1 h2 h3, List.nil_append]
theorem lcV_all {α : Type} {fa : FE} {tg : Tg} {fe : FE} {ρ : Sl} (ρ0 : Sl) {st : So} {d : Dv} {xs : List α} {f : α → Dv} (r : α → Sl) (g : α → Dv) (hd : fa ρ st = .ok d st) (hi : itemsOf d st = some (xs.map f)) (hl : xs.length ≤ 100000) (hρ : rhoW ρ (tgS tg) = ρ0)
    (h1 : ∀ x ∈ xs, tgF tg (f x) ρ0 = some (r x)) (h3 : ∀ x ∈ xs, fe (r x) st = .ok (g x) st) : fLcV fa tg tYesF fe ρ st = .ok (xs.map g) st := by
  rw [ev_lcV hd hi (by rw [List.length_map]; exact hl), hρ, cmpL_all xs h1 h3]
theorem lc_all {α : Type} {fi : FA} {tg : Tg} {fe : FE} {ρ : Sl} (ρ0 : Sl) {st : So} {xs : List α} {f : α → Dv} (r : α → Sl) (g : α → Dv) (hi : fi ρ st = .ok (xs.map f) st) (hl : xs.length ≤ 100000) (hρ : rhoW ρ (tgS tg) = ρ0)
    (h1 : ∀ x ∈ xs, tgF tg (f x) ρ0 = some (r x)) (h3 : ∀ x ∈ xs, fe (r x) st = .ok (g x) st) : fLc fi tg tYesF fe ρ st = .ok (xs.map g) st := by
  unfold fLc
  rw [hi, bind_ok, List.length_map, if_pos hl, hρ, cmpL_all xs h1 h3]
theorem lc_pure {α : Type} {fi : FA} {tg : Tg} {tt : FT} {fe : FE} {ρ : Sl} (ρ0 : Sl) {st : So} {xs : List α} {f : α → Dv} (r : α → Sl) (p : α → Bool) (g : α → Dv) (hi : fi ρ st = .ok (xs.map f) st) (hl : xs.length ≤ 100000) (hρ : rhoW ρ (tgS tg) = ρ0)
    (h1 : ∀ x ∈ xs, tgF tg (f x) ρ0 = some (r x)) (h2 : ∀ x ∈ xs, tt (r x) st = .ok (p x) st) (h3 : ∀ x ∈ xs, p x = true → fe (r x) st = .ok (g x) st) : fLc fi tg tt fe ρ st = .ok ((xs.filter p).map g) st := by
  unfold fLc
  rw [hi, bind_ok, List.length_map, if_pos hl, hρ, cmpL_pure xs [] h1 h2 h3, List.nil_append]
theorem pure_ok {α : Type} {fr : FA} {ρ : Sl} {st st1 : So} {xs : List α} {g : α → PyData} (h : fr ρ st = .ok (xs.map fun x => Dv.p (g x)) st1) (hl : xs.length ≤ 100000) : fPure fr ρ st = .ok (.p (.list (xs.map g))) st1 := by
  rw [ev_pure, h, bind_ok, small_map, decide_eq_true hl, if_pos rfl, ← mkL_p, List.map_map]; rfl
theorem mkL_map {α : Type} (f : α → PyData) (xs : List α) : mkL (xs.map fun x => Dv.p (f x)) = .p (.list (xs.map f)) := by
  rw [← mkL_p, List.map_map]; rfl
theorem items_l (xs : List PyData) (st : So) : itemsOf (.p (.list xs)) st = some (xs.map Dv.p) := (rfl)
theorem items_lmap {α : Type} (f : α → PyData) (xs : List α) (st : So) : itemsOf (.p (.list (xs.map f))) st = some (xs.map fun x => Dv.p (f x)) := by
  rw [items_l, List.map_map]; rfl
theorem rng_pure {a : Int} {st : So} (h : okR a = true) : optR st (rng1 [.p (.int a)]) = .ok (rngL 0 a.toNat) st := by
  show optR st (if okR a then some (rngL 0 a.toNat) else none) = _
  rw [if_pos h]; rfl
theorem rng2_pure {a b : Int} {st : So} (h : okR a = true) (h2 : okR b = true) : optR st (rng2 [.p (.int a), .p (.int b)]) = .ok (rngL a (b - a).toNat) st := by
  show optR st (if okR a && okR b then some (rngL a (b - a).toNat) else none) = _
  rw [h, h2]; rfl
theorem okR_small {a : Int} (h1 : -1000000 ≤ a) (h2 : a ≤ 1000000) : okR a = true := by
  unfold okR
  rw [decide_eq_true (by omega), decide_eq_true (by omega)]; rfl
theorem rngL_zero (n : Nat) : rngL 0 n = (List.range n).map fun k => Dv.p (.int (k : Nat)) := by
  unfold rngL
  apply List.map_congr_left
  intro k _
  rw [Int.zero_add]
theorem rngL_succ (lo : Int) (n : Nat) : rngL lo (n + 1) = .p (.int lo) :: rngL (lo + 1) n := by
  unfold rngL
  rw [List.range_succ_eq_map, List.map_cons, List.map_map]
  congr 1
  · simp
  · apply List.map_congr_left
    intro k _
    simp only [Function.comp]
    congr 2
    push_cast
    omega
theorem small2 (a b : Dv) : small [a, b] = true := decide_eq_true (show 2 ≤ 100000 by decide)
theorem small3 (a b c : Dv) : small [a, b, c] = true := decide_eq_true (show 3 ≤ 100000 by decide)
theorem small1 (a : Dv) : small [a] = true := decide_eq_true (show 1 ≤ 100000 by decide)
theorem small0 : small [] = true := decide_eq_true (show 0 ≤ 100000 by decide)
theorem mkT2 (a b : PyData) : mkT [.p a, .p b] = .p (.tuple [a, b]) := (rfl)
theorem mkT3 (a b c : PyData) : mkT [.p a, .p b, .p c] = .p (.tuple [a, b, c]) := (rfl)
theorem tup2_ok {fa fb : FE} {ρ : Sl} {st st1 st2 : So} {x y : PyData} (h1 : fa ρ st = .ok (.p x) st1) (h2 : fb ρ st1 = .ok (.p y) st2) : fTup (fCons fa (fCons fb fNil)) ρ st = .ok (.p (.tuple [x, y])) st2 := by
  simp only [ev_tup, ev_cons, ev_nil, h1, bind_ok, h2, small2, if_true, mkT2]
end FB
set_option Elab.async false
set_option linter.all false
set_option maxRecDepth 100000
set_option maxHeartbeats 4000000
/-! FBX: exceptions as values: try .. except X as e, isinstance of them; calls without arguments; {} as data. -/
namespace FB
open PySem PySem.Spec PyProof.Rows L2 RZ
theorem excT_ok {P : Program} {w : World} {H : Hp} {h : Heap} {a C : Addr} {oe : Obj} {vs : Array Value} (e : h.get? a = some oe) (hc : oe.cls = .ref C) (hd : oe.dict = none) (hv : oe.data = .fields vs) : ObjOk P w H h a (excT a C) :=
  ⟨⟨oe, e, hc, hd, vs, hv⟩, ⟨oe, e⟩, fun _ _ ⟨o, e1, r⟩ k => ⟨o, k o e1, r⟩⟩
section
variable {X : Cx} {pins : List (Addr × Obj)} {σ : L2.St} {H : Hp} {sI s' : Shared} {B : Heap} {a : Addr} {ob : HO}
/-- the exception's object is tracked from here on -/
theorem landedX (I : Inv X pins σ H sI) (nb : ∀ b o, sI.heap.get? b = some o → b ∉ frs X.stack → B.get? b = some o) (st : B.StaysIn s'.heap) (up : sI.heap.UpToSlots s'.heap) (os : s'.os = sI.os) (ag : AllBare s'.gens)
    (na : H a = none) (nI : sI.heap.get? a = none) (new : ObjOk X.prog X.w (upd H a ob) s'.heap a ob) : Inv X pins σ (upd H a ob) s' := by
  have nf : ∀ b ∈ frs X.stack, ∀ o, sI.heap.get? b = some o → ∃ sl, s'.heap.get? b = some { o with slots := sl } := fun b hb o e => by
    obtain ⟨_, o', e', hd⟩ := I.stack.mem hb
    rw [e] at e'; cases e'
    exact up b o e hd
  have ne : ∀ b o, sI.heap.get? b = some o → b ≠ a := fun b o e z => by rw [z, nI] at e; cases e
  have hk : HOk X.prog X.w (upd H a ob) s'.heap := fun b u e => by
    by_cases hb : b = a
    · subst hb
      rw [upd_same] at e
      cases e
      exact new
    · rw [upd_ne hb] at e
      exact ((I.inGround nb).kept st b u e).stay (fun _ _ _ q => q) (fun c q => by rw [upd_ne (ne_of_none q na)]; exact q) fun c xs q => by rw [upd_ne (ne_of_none q na)]; exact q
  have J := I.call (ch := []) (h' := s'.heap) (g' := s'.gens) (t' := s'.toks) (d' := s'.drawn) (H' := upd H a ob)
    ⟨fun b o e _ hb _ => st b o (nb b o e hb), fun b o e _ hb _ => nf b hb o e, fun b o e n _ => by rw [upd_ne (ne b o e)]; exact n, fun b o e _ => by
      by_cases hb : b ∈ frs X.stack
      · obtain ⟨sl, q⟩ := nf b hb o e
        exact ⟨_, q⟩
      · exact ⟨o, st b o (nb b o e hb)⟩, fun b xs e => by rw [upd_ne (ne_of_none e na)]; exact e, fun b o u e => by rw [upd_ne (ne_of_none e na)]; exact e, fun b ps e => ⟨#[], by rw [upd_ne (ne_of_none e na), e]; simp⟩⟩
    hk ag (fun _ z => nomatch z)
  obtain ⟨a1, a2, a3, a4, a5⟩ := s'
  have e5 : a5 = sI.os := os
  subst e5
  exact J
theorem suiteX {s : Shared} (I : Inv X pins σ H s) (a : Addr) : Inv (X.suite a (X.pn ++ pins)) [] σ H s :=
  ⟨I.ok.suite _ _, I.os, I.bare, I.base, I.loc, I.cell, I.free, I.freeC, fun p hp => I.pin p (by rw [List.append_nil] at hp; exact hp), I.hok, I.len⟩
theorem unsuiteX {s : Shared} {pn' : List (Addr × Obj)} (I : Inv (X.suite a (X.pn ++ pins)) pn' σ H s) (ok : X.Ok) : Inv X pins σ H s :=
  ⟨ok, I.os, I.bare, I.base, I.loc, I.cell, I.free, I.freeC, fun p hp => I.pin p (List.mem_append_left _ hp), I.hok, I.len⟩
end
/-- what the clause wishes of an exception of the body -/
def wAsX (K : PySem.W.Frag) (cv : Value) (i : Nat) (ts : TS) (Wout : WX) (D : Ends) : WX := fun cls d σ H =>
  ∃ b, PySem.W.exmOne K cls cv = some b ∧ (b = true → ∃ C, cls = .ref C ∧ d = none ∧ ∀ a, H a = none → ts { nx := fun σ' H' => D.nx (σ'.set i none) H', rt := D.rt, bk := fun σ' H' => D.bk (σ'.set i none) H', ct := fun σ' H' => D.ct (σ'.set i none) H' } (σ.set i (some (.ref a))) (upd H a (excT a C))) ∧
    (b = false → Wout cls d σ H)
section
variable {X : Cx} {x n : Str} {cv : Value} {i : Nat} {body suite : List Stmt} {b₀ : Stmt} {np pos pos' : Pos} {tb : WX → TS} {ts : TS} {Wout : WX}
theorem ps_try_asX (hs : X.stack = X.env :: X.outer) (hf : X.env.frame = some X.env.locals) (hN : X.N.Nodup) (hi : X.N[i]? = some n) (hln : X.env.kindOf n = some .local) (hc : Names X x cv) (tk : Takes X Wout)
    (hb : ∀ (W : WX) (pn : List (Addr × Obj)) (xe : Value → Shared → Prop), Takes (X.tr pn xe) W → PassesOwn (model X.prog X.w) X.A X.env xe → PSs (X.tr pn xe) body (tb W))
    (hsu : ∀ (a : Addr) (pn : List (Addr × Obj)), PSs (X.suite a pn) (b₀ :: suite) ts) :
    PS X (.Try body [.ExceptHandler (some (.Name x np)) (some n) (b₀ :: suite) pos'] [] [] pos) (fun D σ H => tb (wAsX X.K cv i ts Wout D) D σ H) := by
  refine ⟨fun pins s σ H D I h => ?_⟩
  have ok := I.ok
  have hfr : X.A.frames = some (X.env :: X.outer) := by rw [ok.frames, hs]
  have hloc : Loc X.env.scope n := .inl hln
  refine wpAny_Try_except ?_
  refine wpAny_mono ((hb (wAsX X.K cv i ts Wout D) (X.pn ++ pins) (fun e s₁ => wpAny (model X.prog X.w) X.A (noteFrame e X.env) (fun _ s₂ => wpAny (model X.prog X.w) X.A (setFlight e none) (fun _ s₃ =>
    wpAny (model X.prog X.w) X.A (handleBy e X.env [.ExceptHandler (some (.Name x np)) (some n) (b₀ :: suite) pos']) (SP X pins D) X.xe s₃) X.xe s₂) X.xe s₁) (fun u s' xx => ?_) PassesOwn.looking).run [] s σ H D (I.toTry _) h) (fun f s1 hsp => ?_) (fun e s1 he => he)
  · obtain ⟨a, B, sI, pins', σ', H', cls, d, rfl, J', nb, up, sky, na, os, ag, b, hb1, hyes, hno⟩ := xx
    have J : Inv X pins σ' H' sI := J'.ofTry ok
    have sky' : Sky B (X.env :: X.outer) a (Zc cls d) X.env.locals s'.heap := by rw [← hs]; exact sky
    show wpAny (model X.prog X.w) X.A (noteFrame (.ref a) X.env) _ _ _
    refine Sky.land Zc.steady hfr hf sky' fun h3 fl3 up3 => ?_
    have J3 : Inv X pins σ' H' { s' with heap := h3 } := J.landed nb fl3.1 (up.trans up3) os ag
    obtain ⟨oe3, vs3, he3, hz3, hd3⟩ := fl3.there
    have notFr : ∀ {h : Heap} {o : Obj} {vs : Array Value}, h.FunFrames B (X.env :: X.outer) → h.get? a = some o → o.data = .fields vs → a ∉ frs (X.env :: X.outer) := fun {h o vs} ff e dd hm => by
      obtain ⟨_, o', e', hnf⟩ := ff.mem hm
      rw [e] at e'; cases e'
      exact hnf _ dd
    have nfr := notFr fl3.2.2.1 he3 hd3
    have nI : sI.heap.get? a = none := by
      cases q : sI.heap.get? a with
      | none => rfl
      | some o =>
        have z := nb a o q (by rw [hs]; exact nfr)
        rw [fl3.2.1] at z
        cases z
    have S3 := suiteX J3 a
    refine wpAny_handleBy_cons (codeAny_handlers_test ?_) (by intro q; cases q)
    have LT : PySem.W.Looks (model X.prog X.w) h3 (typeOf (.ref a)) cls := fun A Q E s k q => wpAny_typeOf_ref (k _ _ he3) (by rw [hz3.1]; exact q)
    have LM := PySem.W.exm_one (M := model X.prog X.w) (J3.kIn) LT hb1
    have test : ∀ {Q : Value → Shared → Prop} {E : Value → Shared → Prop}, Q cv { s' with heap := h3 } → wpAny (model X.prog X.w) (X.A.mark (some (.ref a))) (eval (.Name x np) X.env) Q E { s' with heap := h3 } := fun {Q E} q => by
      obtain ⟨hg, hdbg, hm | ⟨hm, hv, hnn⟩⟩ := hc
      · exact ld_glob (X := X.suite a (X.pn ++ pins)) S3 hg hm q hdbg
      · exact ld_blt (X := X.suite a (X.pn ++ pins)) S3 hg hm hv q hnn hdbg
    refine test (LM.here ?_)
    cases b with
    | true =>
      refine codeAny_handlers_suite_as ?_
      refine HandSPX.lands_againZ fl3 fun h4 fl4 up4 => ?_
      obtain ⟨C, rfl, rfl, hsuite⟩ := hyes rfl
      obtain ⟨oe4, vs4, he4, hz4, hd4⟩ := fl4.there
      have J4 : Inv X pins σ' (upd H' a (excT a C)) { s' with heap := h4 } := landedX (s' := { s' with heap := h4 }) J nb fl4.1 ((up.trans up3).trans up4) os ag na nI (excT_ok he4 hz4.1 hz4.2 hd4)
      have S4 := suiteX J4 a
      refine store_ok (X := X.suite a (X.pn ++ pins)) (v := .ref a) S4 hN hi hloc rfl (fun s5 S5 => ?_) (.inr hln)
      refine wpAny_mono ((hsu a (X.pn ++ pins)).run [] s5 _ (upd H' a (excT a C)) _ S5 (hsuite a na)) (fun f s6 hsp => ?_) (fun _ _ z => False.elim z)
      have end_ : ∀ {σ6 : L2.St} {H6 : Hp} {Q : Shared → Prop}, Inv (X.suite a (X.pn ++ pins)) [] σ6 H6 s6 → (∀ s7, Inv X pins (σ6.set i none) H6 s7 → Q s7) →
          wpAny (model X.prog X.w) X.A (do bindName X.env n .none; unbindBehindTheSuite X.env n pos') (fun _ s7 => Q s7) X.xe s6 := fun {σ6 H6 Q} S6 hq => gone_ok (unsuiteX S6 ok) hN hi hln hq
      cases f with
      | next =>
        obtain ⟨σ6, H6, S6, q6⟩ := hsp
        exact end_ S6 fun s7 J7 => ⟨_, _, J7, q6⟩
      | brk =>
        obtain ⟨σ6, H6, S6, q6⟩ := hsp
        exact end_ S6 fun s7 J7 => ⟨_, _, J7, q6⟩
      | cont =>
        obtain ⟨σ6, H6, S6, q6⟩ := hsp
        exact end_ S6 fun s7 J7 => ⟨_, _, J7, q6⟩
      | ret u =>
        obtain ⟨v6, σ6, H6, S6, r6, q6⟩ := hsp
        exact end_ S6 fun s7 J7 => ⟨_, _, _, J7, r6, q6⟩
    | false =>
      show wpAny _ X.A (handleBy (.ref a) X.env []) _ _ _
      refine wpAny_handleBy_nil ?_
      obtain ⟨k1, k2, k3, oe, vs, T, oT, ts', he, hz, hd, h1, hr⟩ := id fl3
      unfold PySem.passOn
      refine wpAny_bind (wpAny_field he hd h1 ?_)
      rw [if_neg (show ¬ ((Value.ref T == Value.none) = true) from by simp)]
      have fin : wpAny (model X.prog X.w) X.A (setFlight (.ref a) X.env.frame) (fun _ s4 => wpAny (model X.prog X.w) X.A (throw (.ref a) : Sem Flow) (SP X pins D) X.xe s4) X.xe { s' with heap := h3 } := by
        rw [hf]
        refine HandSPX.setFlight_upZ fl3 fun h4 hh4 up4 => wpAny_throw (tk _ _ ?_)
        exact ⟨a, B, sI, pins, σ', H', cls, d, rfl, J, nb, (up.trans up3).trans up4, .inr (.inr (by rw [hs]; exact hh4)), na, os, ag, hno rfl⟩
      first
        | exact wpAny_bind (wpAny_pure (wpAny_bind fin))
        | exact wpAny_bind fin
  · cases f with
    | next =>
      obtain ⟨σ', H', J', q⟩ := hsp
      exact wpAny_execs_nil ⟨σ', H', J'.ofTry ok, q⟩
    | brk =>
      obtain ⟨σ', H', J', q⟩ := hsp
      exact ⟨σ', H', J'.ofTry ok, q⟩
    | cont =>
      obtain ⟨σ', H', J', q⟩ := hsp
      exact ⟨σ', H', J'.ofTry ok, q⟩
    | ret u =>
      obtain ⟨v, σ', H', J', r, q⟩ := hsp
      exact ⟨v, σ', H', J'.ofTry ok, r, q⟩
end
/-! ### try .. except X as e, in the mirror -/
def unsetE (i : Nat) : Ss → Ss
  | .nx ρ st => .nx (ρ.set i none) st
  | .ret d st => .ret d st
  | .brk ρ st => .brk (ρ.set i none) st
  | .cnt ρ st => .cnt (ρ.set i none) st
  | .exc _ _ _ _ => .stuck
  | .stuck => .stuck
def sTryAs (i : Nat) (tst : Str → Option Bool) (body suite : FS) : FS := fun ρ st => match body ρ st with
  | .exc c fs ρ' st' => match fs, tst c with
    | [], some true => unsetE i (suite (ρ'.set i (some (.exc c []))) st')
    | fs, some false => .exc c fs ρ' st'
    | _, _ => .stuck
  | r => r
section
variable {X : Cx} {W : WX} {x n : Str} {cv : Value} {i : Nat} {body suite : List Stmt} {b₀ : Stmt} {np pos pos' : Pos} {gb gs : FS} {tst : Str → Option Bool}
theorem pfs_tryAs (hs : X.stack = X.env :: X.outer) (hf : X.env.frame = some X.env.locals) (hN : X.N.Nodup) (hi : X.N[i]? = some n) (hln : X.env.kindOf n = some .local) (hc : Names X x cv) (tk : Takes X W)
    (ht : ∀ (c : Str) (C : Addr) (b : Bool), X.mg c = some (.ref C) → tst c = some b → PySem.W.exmOne X.K (.ref C) cv = some b)
    (hb : ∀ (W : WX) (pn : List (Addr × Obj)) (xe : Value → Shared → Prop), Takes (X.tr pn xe) W → PassesOwn (model X.prog X.w) X.A X.env xe → PFSs (X.tr pn xe) W body gb)
    (hsu : ∀ (a : Addr) (pn : List (Addr × Obj)), PFSs (X.suite a pn) W0 (b₀ :: suite) gs) :
    PFS X W (.Try body [.ExceptHandler (some (.Name x np)) (some n) (b₀ :: suite) pos'] [] [] pos) (sTryAs i tst gb gs) :=
  PS_imp (ps_try_asX (tb := fun W => TFS X.K X.mg W gb) (ts := TFS X.K X.mg W0 gs) hs hf hN hi hln hc tk hb hsu) fun D σ H q => by
    obtain ⟨ρ, st, w, sim, er, gd⟩ := q
    refine ⟨ρ, st, w, sim, er, ?_⟩
    unfold sTryAs at gd
    cases e : gb ρ st with
    | nx ρ' st' => rw [e] at gd; exact gd
    | ret d st' => rw [e] at gd; exact gd
    | brk ρ' st' => rw [e] at gd; exact gd
    | cnt ρ' st' => rw [e] at gd; exact gd
    | stuck => rw [e] at gd; exact gd
    | exc c fs ρ' st' =>
      rw [e] at gd
      intro w' H' σ' cv2 dd s1 sim1 er1 ex
      obtain ⟨C, hm, rfl, hx⟩ := id ex
      cases et : tst c with
      | none =>
        exfalso
        cases fs with
        | nil => simp only [et] at gd; exact gd
        | cons p ps => simp only [et] at gd; exact gd
      | some b =>
        cases b with
        | false =>
          have gd1 : GoodS X.K X.mg W st.length w H D (.exc c fs ρ' st') := by
            cases fs with
            | nil => simp only [et] at gd; exact gd
            | cons p ps => simp only [et] at gd; exact gd
          exact ⟨false, ht c C false hm et, (fun z => nomatch z), fun _ => gd1 w' H' σ' _ dd s1 sim1 er1 ex⟩
        | true =>
          cases fs with
          | cons p ps =>
            exfalso
            simp only [et] at gd
            exact gd
          | nil =>
            have gd1 : GoodS X.K X.mg W st.length w H D (unsetE i (gs (ρ'.set i (some (.exc c []))) st')) := by
              simp only [et] at gd
              exact gd
            refine ⟨true, ht c C true hm et, fun _ => ⟨C, rfl, ?_, fun a ha => ?_⟩, fun z => nomatch z⟩
            · rcases hx with ⟨_, h⟩ | ⟨_, _, h, _⟩
              · exact h
              · exact absurd rfl h
            · obtain ⟨s2, sim2⟩ := sim1.newP (o := excT a C) ha
              have r : RD X.K X.mg st'.length (w'.imm a) (upd H' a (excT a C)) (.exc c []) (.ref a) := .exc hm (.inl rfl) upd_same
              refine ⟨_, st', w'.imm a, sim2, (er1.mono s2).set r i, ?_⟩
              have gd2 := gd1.later (s1.trans s2)
              cases e2 : gs (ρ'.set i (some (.exc c []))) st' with
              | nx ρ2 st2 =>
                rw [e2] at gd2
                exact fun w3 H3 σ3 s3 sim3 er3 => gd2 w3 H3 _ s3 sim3 (er3.setN i)
              | ret d st2 =>
                rw [e2] at gd2
                exact gd2
              | brk ρ2 st2 =>
                rw [e2] at gd2
                exact fun w3 H3 σ3 s3 sim3 er3 => gd2 w3 H3 _ s3 sim3 (er3.setN i)
              | cnt ρ2 st2 =>
                rw [e2] at gd2
                exact fun w3 H3 σ3 s3 sim3 er3 => gd2 w3 H3 _ s3 sim3 (er3.setN i)
              | exc c2 fs2 ρ2 st2 =>
                rw [e2] at gd2
                exact gd2.elim
              | stuck =>
                rw [e2] at gd2
                exact gd2.elim
end
/-! ### isinstance of an exception -/
def fIsX (tst : Str → Option Bool) (fa : FE) : FE := fun ρ st => (fa ρ st).bind fun d st1 => match d with
  | .exc c [] => match tst c with
    | some b => .ok (.p (.bool b)) st1
    | none => .stuck
  | _ => .stuck
def rIsX (K : PySem.W.Frag) : List V → Hp → VK → Prop := fun xs H Q => ∃ (a D : Addr) (c : V) (cv : Value) (b : Bool), xs = [.ref a, c] ∧ H a = some (excT a D) ∧ ExcC K D ∧ (∀ u, RelV c u → u = cv) ∧ PySem.W.kitOne K (.ref D) cv = some b ∧ Q (.bl b) H
section
variable {X : Cx} {W : WX}
theorem call_isX : CallR X (.builtin "isinstance") (rIsX X.K) := by
  intro pins s σ H xs us Q I r h
  obtain ⟨a, D, c, cv, b, rfl, ha, C, hcv, e, q⟩ := h
  cases r with
  | cons rx rr =>
    cases rr with
    | cons rt rr =>
      cases rr
      cases rx
      have ec := hcv _ rt
      subst ec
      obtain ⟨⟨oe, hget, h1, h2, vs, hv⟩, _⟩ := (show ObjOk X.prog X.w H s.heap a (excT a D) from I.hok a _ ha)
      have J : PySem.W.InstAt s.heap a oe D none := by
        obtain ⟨oc, od, oda, osl⟩ := oe
        dsimp only at h1 h2 hv
        subst h1 h2 hv
        exact ⟨hget, rfl, rfl, trivial⟩
      exact PySem.W.kia_one (PySem.W.handS_kitx_exc C.hg C.hk C.hs C.hd C.ha C.hn C.ht C.hm) I.kIn J e (fun z => nomatch z) fun tk => ⟨.bl b, H, I.kept (t' := tk) fun _ _ z => z, rfl, q⟩
variable {x : Str} {e : Expr} {fa : FE} {pt p pos : Pos} {tst : Str → Option Bool}
/-- a class of the program -/
theorem pf_isX {Cx' : Addr} (hm : X.mg "isinstance" = none) (hx : X.mg x = some (.ref Cx')) (ht : ∀ (c : Str) (C : Addr) (b : Bool), X.mg c = some (.ref C) → tst c = some b → ExcC X.K C ∧ PySem.W.kitOne X.K (.ref C) (.ref Cx') = some b) (h : PF X W e fa)
    (hg : Gl X "isinstance" := by rfl) (hgx : Gl X x := by rfl) (hdx : (x == ("__debug__" : Str)) = false := by decide)
    (he : starEach [e, .Name x pt] X.env = (false, eval e X.env) :: starEach [.Name x pt] X.env := by rfl) (he2 : starEach [.Name x pt] X.env = (false, eval (.Name x pt) X.env) :: starEach [] X.env := by rfl) (hpl : (backTo pos (starEach [.Name x pt] X.env)).any (·.1) = false := by rfl) :
    PF X W (.Call (.Name "isinstance" p) [e, .Name x pt] [] pos) (fIsX tst fa) :=
  PE_imp (pe_callB call_isX hg hm (by decide +kernel) (pa_cons h (pa_cons (pe_glob (v := .ref Cx') hgx hx rfl hdx) pa_nil he2) he) (by decide) (by decide) he hpl) fun σ H Q q => by
    obtain ⟨ρ, st, w, sim, er, gd⟩ := q
    refine ⟨ρ, st, w, sim, er, Good.imp (fun v H1 q => ?_) (Good.bind gd)⟩
    obtain ⟨st1, w1, d, sim1, s1, r1, gd1⟩ := q
    split at gd1
    · rename_i c
      split at gd1
      · rename_i b e2
        cases r1 with
        | exc m i ea =>
          obtain ⟨k1, k2⟩ := ht _ _ b m e2
          exact ⟨_, _, .ref Cx', .ref Cx', b, rfl, ea, k1, fun u r => r, k2, gd1 w1 H1 _ .refl sim1 (.p (.bl b))⟩
      · exact gd1.elim
    · exact gd1.elim
/-- a built-in class -/
theorem pf_isXB {T : String} (hm : X.mg "isinstance" = none) (hx : X.mg x = none) (hv : bootBuiltins x = some (.type T)) (ht : ∀ (c : Str) (C : Addr) (b : Bool), X.mg c = some (.ref C) → tst c = some b → ExcC X.K C ∧ PySem.W.kitOne X.K (.ref C) (.type T) = some b) (h : PF X W e fa)
    (hg : Gl X "isinstance" := by rfl) (hgx : Gl X x := by rfl) (hnx : x ≠ "__name__" := by decide) (hdx : (x == ("__debug__" : Str)) = false := by decide)
    (he : starEach [e, .Name x pt] X.env = (false, eval e X.env) :: starEach [.Name x pt] X.env := by rfl) (he2 : starEach [.Name x pt] X.env = (false, eval (.Name x pt) X.env) :: starEach [] X.env := by rfl) (hpl : (backTo pos (starEach [.Name x pt] X.env)).any (·.1) = false := by rfl) :
    PF X W (.Call (.Name "isinstance" p) [e, .Name x pt] [] pos) (fIsX tst fa) :=
  PE_imp (pe_callB call_isX hg hm (by decide +kernel) (pa_cons h (pa_cons (pe_bltn (v := .ty T) hgx hx hv rfl hnx hdx) pa_nil he2) he) (by decide) (by decide) he hpl) fun σ H Q q => by
    obtain ⟨ρ, st, w, sim, er, gd⟩ := q
    refine ⟨ρ, st, w, sim, er, Good.imp (fun v H1 q => ?_) (Good.bind gd)⟩
    obtain ⟨st1, w1, d, sim1, s1, r1, gd1⟩ := q
    split at gd1
    · rename_i c
      split at gd1
      · rename_i b e2
        cases r1 with
        | exc m i ea =>
          obtain ⟨k1, k2⟩ := ht _ _ b m e2
          exact ⟨_, _, .ty T, .type T, b, rfl, ea, k1, fun u r => r, k2, gd1 w1 H1 _ .refl sim1 (.p (.bl b))⟩
      · exact gd1.elim
    · exact gd1.elim
/-! ### calls without arguments, {} -/
theorem pe_callS0 {CX : CXT} {k : Nat} {f : Addr} {fd : FuncData} {ps : List Str} {sp : Sp} {E : L2.St → XK} (F : FnOk X.prog X.w X.K X.mg X.base CX k f fd ps sp) (hr : Room k X.A) (hg : Gl X x) (hm : X.mg x = some (.ref f)) (hk : PySem.W.keepIn X.K (.ref f) = true) (hb : Binds X.K fd ps []) (hx : ∀ σ, PassesAt CX X σ (E σ))
    (hdb : (x == ("__debug__" : Str)) = false := by decide) : PE X (.Call (.Name x p) [] [] pos) (tCallS sp E tNil) := by
  refine ⟨fun pins s σ H Q I h => ?_⟩
  refine wpAny_Call_Name_kw (ld_glob I hg hm ?_ hdb)
  exact PySem.W.callWith_K0 I.kIn hk (run_fnS (us := []) F hr hb (hx σ) I .nil h)
theorem pf_call0 {k : Nat} {f : Addr} {fd : FuncData} {ps : List Str} {F : FD} (G : FnOk X.prog X.w X.K X.mg X.base (L2.CX X.prog X.w) k f fd ps (spD X.K X.mg 0 F)) (hr : Room k X.A) (hg : Gl X x) (hm : X.mg x = some (.ref f))
    (hk : PySem.W.keepIn X.K (.ref f) = true) (hb : Binds X.K fd ps []) (tk : Takes X W) (hdb : (x == ("__debug__" : Str)) = false := by decide) :
    PF X W (.Call (.Name x p) [] [] pos) (fCall F fNil) := PE_imp (pe_callS0 G hr hg hm hk hb (fun σ => passAt tk σ) hdb) fun σ H Q h => by
  obtain ⟨ρ, st, w, sim, er, gd⟩ := h
  refine ⟨rfl, [], st, w, sim, .nil, ?_⟩
  have gd : Good (RD X.K X.mg) X.K X.mg W σ st.length w H Q (F [] st) := gd
  cases eF : F [] st with
  | ok d st2 => rw [eF] at gd; exact gd
  | exc c fs st2 => rw [eF] at gd; exact gd
  | stuck => rw [eF] at gd; exact gd
def fE0 : FE := fun _ st => .ok (.p (.dict [])) st
theorem pf_e0 : PF X W (.Dict [] [] pos) fE0 := PE_imp pe_dnewK fun σ H Q h => by
  obtain ⟨ρ, st, w, sim, er, gd⟩ := h
  intro q hq
  obtain ⟨s2, sim2⟩ := sim.newP (o := .dK []) hq
  exact gd _ _ _ s2 sim2 (.p (.dct (.inl rfl) upd_same .nil))
end
/-! ### a head with facts of one's own -/
abbrev obsX (fa : List He.Fa) (fn : List He.DefD) (ex : List (PySem.W.Frag → Bool)) (K : PySem.W.Frag) : He.AlD := (((fa.all fun f => f.ok K) && fn.all fun d => d.ok K) && ex.all fun p => p K, fn.map fun d => He.fnW K d.at_)
def SaysX (fa : List He.Fa) (fn : List He.DefD) (ex : List (PySem.W.Frag → Bool)) (K : PySem.W.Frag) : Prop := obsX fa fn ex K = He.valD fn
def obsXG (n : Nat) (fa : List He.Fa) (fn : List He.DefD) (ex : List (PySem.W.Frag → Bool)) (g : Addr → Option Obj) : He.AlD := obsX fa fn ex (He.frG g (He.asD g n))
def hookX (n : Nat) (fa : List He.Fa) (fn : List He.DefD) (ex : List (PySem.W.Frag → Bool)) : PySem.W.Hook where
  α := He.AlD
  obs := fun s => obsXG n fa fn ex s.heap.get?
  val := fun _ => He.valD fn
  says := fun _ h => ∃ K : PySem.W.Frag, K.In h ∧ SaysX fa fn ex K
  of := fun _ _ e => ⟨_, He.frG_in, e⟩
  keeps := fun _ _ _ ⟨K, hK, c⟩ k => ⟨K, PySem.W.Frag.In.keeps hK k, c⟩
theorem obsXG_eq {n : Nat} {fa : List He.Fa} {fn : List He.DefD} {ex : List (PySem.W.Frag → Bool)} {g : Addr → Option Obj} {s : Shared} (h : ∀ a, g a = s.heap.get? a) : obsXG n fa fn ex g = (hookX n fa fn ex).obs s := by
  have e : g = s.heap.get? := funext h
  rw [e] <;> rfl
theorem SaysX.d {fa : List He.Fa} {fn : List He.DefD} {ex : List (PySem.W.Frag → Bool)} {K : PySem.W.Frag} (c : SaysX fa fn ex K) : He.SaysD fa fn K := by
  have h1 := (Bool.and_eq_true_iff.mp (show (((fa.all fun f => f.ok K) && fn.all fun d => d.ok K) && ex.all fun p => p K) = true from congrArg (fun z : He.AlD => z.1) c)).1
  have h2 : fn.map (fun d => He.fnW K d.at_) = fn.map He.DefD.val := congrArg (fun z : He.AlD => z.2) c
  show ((fa.all fun f => f.ok K) && fn.all fun d => d.ok K, fn.map fun d => He.fnW K d.at_) = (true, fn.map He.DefD.val)
  rw [h1, h2]
theorem SaysX.ex {fa : List He.Fa} {fn : List He.DefD} {ex : List (PySem.W.Frag → Bool)} {K : PySem.W.Frag} (c : SaysX fa fn ex K) (i : Nat) {p : PySem.W.Frag → Bool} (h : ex[i]? = some p := by rfl) : p K = true := by
  have h1 := (Bool.and_eq_true_iff.mp (show (((fa.all fun f => f.ok K) && fn.all fun d => d.ok K) && ex.all fun p => p K) = true from congrArg (fun z : He.AlD => z.1) c)).2
  exact List.all_eq_true.mp h1 p (List.mem_of_getElem? h)
/-- what ExcC asks, as a look -/
def excCB (x : Str) (K : PySem.W.Frag) : Bool := decide (PySem.W.findIn K (.ref (He.ga K x)) "__getattribute__" = some (some (.builtin "BaseException.__getattribute__"))) && (decide (PySem.W.findIn K (.ref (He.ga K x)) "__getattr__" = some none) &&
  (decide (PySem.W.subIn K (.ref (He.ga K x)) (.type "BaseException") = some true) && (PySem.W.hasDictIn K (He.ga K x) && (decide (PySem.W.findIn K (.ref (He.ga K x)) "__class__" = some (some (.builtin "object.__class__"))) &&
  (decide (PySem.W.specialIn K (.builtin "object.__class__") "__get__" = some (some (.builtin "getset_descriptor.__get__"))) && (decide (PySem.W.takesIn K (.builtin "object.__class__") = some true) && decide (PySem.W.mroIn K (He.ga K x) (.type "object") = some true)))))))
theorem excCB_ok {x : Str} {K : PySem.W.Frag} (h : excCB x K = true) : ExcC K (He.ga K x) := by
  unfold excCB at h
  simp only [Bool.and_eq_true, decide_eq_true_eq] at h
  obtain ⟨h1, h2, h3, h4, h5, h6, h7, h8⟩ := h
  exact ⟨h1, h2, h3, h4, h5, h6, h7, h8⟩
def tsL : List (Str × Bool) → Str → Option Bool
  | [], _ => none
  | p :: r, c => if c = p.1 then some p.2 else tsL r c
theorem tsL_nil {P : Str → Bool → Prop} : ∀ c b, tsL [] c = some b → P c b := fun _ _ h => nomatch h
theorem tsL_cons {P : Str → Bool → Prop} {x : Str} {b0 : Bool} {r : List (Str × Bool)} (h1 : P x b0) (h2 : ∀ c b, tsL r c = some b → P c b) : ∀ c b, tsL ((x, b0) :: r) c = some b → P c b := fun c b h => by
  unfold tsL at h
  by_cases e : c = x
  · rw [if_pos e] at h
    cases h
    exact e ▸ h1
  · rw [if_neg e] at h
    exact h2 c b h
theorem at_ga {mg : Str → Option Value} {x : Str} {C D : Addr} (h1 : mg x = some (.ref C)) (h2 : mg x = some (.ref D)) : C = D := by
  rw [h1] at h2
  exact Value.ref.inj (Option.some.inj h2)
def kitXB (c x : Str) (b : Bool) (K : PySem.W.Frag) : Bool := decide (PySem.W.kitOne K (.ref (He.ga K c)) (.ref (He.ga K x)) = some b)
def kitTB (c : Str) (T : String) (b : Bool) (K : PySem.W.Frag) : Bool := decide (PySem.W.kitOne K (.ref (He.ga K c)) (.type T) = some b)
end FB
set_option Elab.async false
set_option linter.all false
set_option maxRecDepth 100000
set_option maxHeartbeats 4000000
/-! FBF: exceptions made as values; an attribute of them; isinstance with them. -/
namespace FB
open PySem PySem.Spec PyProof.Rows L2 RZ
/-! ### C(e), C() as values -/
section
variable {X : Cx} {W : WX} {C : Addr} {bmB : List Value} {B newId initId : String} {x : Str} {e : Expr} {ta : TE} {p pos : Pos} {fa : FE}
theorem pe_excV1 (F : ExcBaseFacts B newId initId bmB) (q : PySem.W.excIn X.K C bmB newId = true) (gC : X.mg x = some (.ref C)) (kC : PySem.W.keepIn X.K (.ref C) = true) (hg : Gl X x)
    (he : PE X e ta) (hs : starEach [e] X.env = (false, eval e X.env) :: starEach [] X.env := by rfl) (hdb : (x == ("__debug__" : Str)) = false := by decide) :
    PE X (.Call (.Name x p) [e] [] pos) (fun σ H Q => ta σ H fun _ H1 => ∀ a, H1 a = none → Q (.ref a) (upd H1 a (excT a C))) := by
  refine ⟨fun pins s σ H Q I h => ?_⟩
  refine wpAny_Call_Name_kw (ld_glob I hg gC ?_ hdb)
  refine PySem.W.callWith_K (h₀ := X.base) I.ok.mod.kin kC ?_ hs (by rfl)
  rw [hs]
  show wpAny _ _ (spliced ((false, eval e X.env) :: backTo pos (starEach [] X.env))) _ _ s
  refine Calls.spliced_cons (thn (he.run pins s σ H _ I h) fun u s1 ⟨v, H1, I1, r1, q1⟩ => ?_)
  refine Calls.spliced_nil ⟨I1.kIn, ?_⟩
  show wpAny _ _ (call (.ref C) [u]) _ _ _
  obtain ⟨bm, N, nm, qn, bs, hdct, sn, sub, ab, col, dd, k0, k1, k2, k3, k5, mN, hC, hN, hni, T⟩ := exc_obj I1.kIn q
  refine wpAny_call_exc_subT F T hC hN hni (fun h' a hm => ?_) (by show 1 ≤ sizeLine; rw [sizeLine_eq]; omega)
  have hn : H1 a = none := I1.hok.gone hm.new
  obtain ⟨t, ht, _, _⟩ := hm.there
  exact ⟨.ref a, upd H1 a (excT a C), I1.laidN hm.keeps hm.new hn (excT_ok ht rfl rfl rfl), rfl, q1 a hn⟩
theorem pe_excV0 (F : ExcBaseFacts B newId initId bmB) (q : PySem.W.excIn X.K C bmB newId = true) (gC : X.mg x = some (.ref C)) (kC : PySem.W.keepIn X.K (.ref C) = true) (hg : Gl X x)
    (hdb : (x == ("__debug__" : Str)) = false := by decide) :
    PE X (.Call (.Name x p) [] [] pos) (fun _ H Q => ∀ a, H a = none → Q (.ref a) (upd H a (excT a C))) := by
  refine ⟨fun pins s σ H Q I h => ?_⟩
  refine wpAny_Call_Name_kw (ld_glob I hg gC ?_ hdb)
  refine PySem.W.callWith_K0 I.kIn kC ?_
  show wpAny _ _ (call (.ref C) []) _ _ _
  obtain ⟨bm, N, nm, qn, bs, hdct, sn, sub, ab, col, dd, k0, k1, k2, k3, k5, mN, hC, hN, hni, T⟩ := exc_obj I.kIn q
  refine wpAny_call_exc_subT F T hC hN hni (fun h' a hm => ?_) (by show 0 ≤ sizeLine; exact Nat.zero_le _)
  have hn : H a = none := I.hok.gone hm.new
  obtain ⟨t, ht, _, _⟩ := hm.there
  exact ⟨.ref a, upd H a (excT a C), I.laidN hm.keeps hm.new hn (excT_ok ht rfl rfl rfl), rfl, h a hn⟩
def fNew1 (c : Str) (fa : FE) : FE := fun ρ st => (fa ρ st).bind fun _ st1 => .ok (.exc c []) st1
def fNew0 (c : Str) : FE := fun _ st => .ok (.exc c []) st
theorem pf_new1 (q : PySem.W.excIn X.K C He.veBase "ValueError.__new__" = true) (gC : X.mg x = some (.ref C)) (kC : PySem.W.keepIn X.K (.ref C) = true) (he : PF X W e fa) (hg : Gl X x := by rfl)
    (hs : starEach [e] X.env = (false, eval e X.env) :: starEach [] X.env := by rfl) (hdb : (x == ("__debug__" : Str)) = false := by decide) :
    PF X W (.Call (.Name x p) [e] [] pos) (fNew1 x fa) := PE_imp (pe_excV1 PySem.F.excBase_ValueError q gC kC hg he hs hdb) fun σ H Q h => by
  obtain ⟨ρ, st, w, sim, er, gd⟩ := h
  refine ⟨ρ, st, w, sim, er, Good.imp (fun v H1 q => ?_) (Good.bind gd)⟩
  obtain ⟨st1, w1, d1, sim1, s1, r1, gd1⟩ := q
  intro a ha
  obtain ⟨s2, sim2⟩ := sim1.newP (o := excT a C) ha
  exact gd1 _ _ _ s2 sim2 (.exc gC (.inl rfl) upd_same)
theorem pf_new0 (q : PySem.W.excIn X.K C He.veBase "ValueError.__new__" = true) (gC : X.mg x = some (.ref C)) (kC : PySem.W.keepIn X.K (.ref C) = true) (hg : Gl X x := by rfl) (hdb : (x == ("__debug__" : Str)) = false := by decide) :
    PF X W (.Call (.Name x p) [] [] pos) (fNew0 x) := PE_imp (pe_excV0 PySem.F.excBase_ValueError q gC kC hg hdb) fun σ H Q h => by
  obtain ⟨ρ, st, w, sim, er, gd⟩ := h
  intro a ha
  obtain ⟨s2, sim2⟩ := sim.newP (o := excT a C) ha
  exact gd _ _ _ s2 sim2 (.exc gC (.inl rfl) upd_same)
end
/-! ### e.x -/
section
variable {X : Cx} {W : WX} {e : Expr} {te : TE} {pos : Pos} {n : Str} {fa : FE}
theorem pe_xatt (hb : attributeBase e n X.env (eval e X.env) = eval e X.env) (he : PE X e te) :
    PE X (.Attribute e n pos) (fun σ H Q => te σ H fun x H1 => ∃ (a C dd : Addr) (fs : List (Str × V)) (v : V), x = .ref a ∧ XfC X.K C ∧ PySem.W.findIn X.K (.ref C) n = some none ∧ H1 a = some (exo a C (some dd)) ∧ H1 dd = some (exd dd fs) ∧ fs.lookup n = some v ∧ Q v H1) := by
  refine ⟨fun pins s σ H Q I h => ?_⟩
  refine attr_of hb (thn (he.run pins s σ H _ I h) fun u s1 hh => ?_)
  obtain ⟨x, H1, I1, rx, a, C, dd, fs, v, ex, T, hno, ea, ed, l, q⟩ := hh
  subst ex
  obtain rfl : u = Value.ref a := rx
  obtain ⟨t0, ha⟩ := exo_at I1.hok ea
  obtain ⟨mA, hns, hr⟩ := exd_at I1.hok ed
  obtain ⟨od, ho, hl⟩ := lookIn_ns hns
  obtain ⟨u, hu, ru⟩ := RelO.some_of (v := v) (o := mA n) (by rw [← l]; exact hr n)
  have J : PySem.W.InstAt s1.heap a _ C (some od) := ⟨ha, rfl, rfl, ho⟩
  exact HandSPX.exc_get I1.kIn J T.ga T.gg T.exC (PySem.W.findObj_own T.hdC hno rfl (by rw [hl, hu])) (handed_of ru) ⟨v, H1, I1.tok _, ru, q⟩
/-- the attribute x of an exception of the class c -/
def fAtt (c x : Str) (fa : FE) : FE := fun ρ st => (fa ρ st).bind fun d st1 => match d with
  | .xa c' x' d' => if c' = c ∧ x' = x then .ok d' st1 else .stuck
  | _ => .stuck
theorem pf_att {c : Str} {C : Addr} (gC : X.mg c = some (.ref C)) (T : XfC X.K C) (hno : PySem.W.findIn X.K (.ref C) n = some none) (he : PF X W e fa) (hb : attributeBase e n X.env (eval e X.env) = eval e X.env := by rfl) :
    PF X W (.Attribute e n pos) (fAtt c n fa) := PE_imp (pe_xatt hb he) fun σ H Q h => by
  obtain ⟨ρ, st, w, sim, er, gd⟩ := h
  refine ⟨ρ, st, w, sim, er, Good.imp (fun v H1 q => ?_) (Good.bind gd)⟩
  obtain ⟨st1, w1, d, sim1, s1, r1, gd1⟩ := q
  split at gd1
  · rename_i c' x' d'
    split at gd1
    · rename_i hc
      obtain ⟨rfl, rfl⟩ := hc
      cases r1 with
      | @xa a C' dx _ _ _ v m i ea j ed rv =>
        obtain rfl : C' = C := by
          rw [gC] at m
          cases m
          rfl
        exact ⟨a, C', dx, [(x', v)], v, rfl, T, hno, ea, ed, by simp [List.lookup], gd1 w1 H1 _ .refl sim1 rv⟩
    · exact gd1.elim
  · exact gd1.elim
end
end FB
set_option Elab.async false
set_option linter.all false
set_option maxRecDepth 100000
set_option maxHeartbeats 4000000
/-! FXB: isinstance of exceptions, with an attribute or without; with a tuple of classes. -/
namespace PySem.W
open PySem PySem.Spec PySem.Calls PyProof.Rows
section
variable {prog : Program} {w : World} {A : Around} {E : Value → Shared → Prop} {s : Shared} {K : Frag} {x D : Addr} {ox : Obj} {od : Option Obj}
theorem fxb_data {C : Addr} {name : Str} {a g : Value} (hc : (clsIn K C).isSome = true) (ha : findIn K (.ref C) name = some (some a)) (hg : specialIn K a "__get__" = some (some g)) (ht : takesIn K a = some true) : findObj K C od name = some (.bind g a) := by
  obtain ⟨cd, hc⟩ := Option.isSome_iff_exists.mp hc
  unfold findObj
  rw [hc, Option.bind_some, ha, Option.bind_some]
  simp [hg, ht]
/-- e.__class__ of an exception, whatever its dict -/
theorem fxb_cls {Q : Option Value → Shared → Prop} (hga : findIn K (.ref D) "__getattribute__" = some (some (.builtin "BaseException.__getattribute__"))) (hgt : findIn K (.ref D) "__getattr__" = some none) (hsub : subIn K (.ref D) (.type "BaseException") = some true)
    (hdct : hasDictIn K D = true) (ha : findIn K (.ref D) "__class__" = some (some (.builtin "object.__class__")))
    (hn : specialIn K (.builtin "object.__class__") "__get__" = some (some (.builtin "getset_descriptor.__get__"))) (htk : takesIn K (.builtin "object.__class__") = some true) (hm : mroIn K D (.type "object") = some true)
    (X : K.In s.heap) (I : InstAt s.heap x ox D od) (h : Q (some (.ref D)) { s with toks := s.toks + 1 }) : wpAny (model prog w) A (getAttr? (.ref x) "__class__") Q E s := by
  have hf : findObj K D od "__class__" = some (.bind (.builtin "getset_descriptor.__get__") (.builtin "object.__class__")) := fxb_data (by obtain ⟨cd, hc, _⟩ := any_some hdct; rw [hc]; rfl) ha hn htk
  obtain ⟨hp, g, d, t, os⟩ := s
  have L0 := I.type (M := model prog w)
  have L1 := looks_findIn (M := model prog w) X hga
  have L2 := looks_findIn (M := model prog w) X hgt
  have L3 := looks_find (M := model prog w) X I hf
  have sub : Looks (model prog w) hp (isInstance (.ref x) (.type "BaseException")) true := L0.andThen (looks_subIn X hsub)
  have hx0 : (false && onTheHeap (Value.builtin "BaseException.__getattribute__")) = false := rfl
  have hx2 : (Value.builtin "BaseException.__getattribute__" == Value.builtin "object.__getattribute__") = false := by decide +kernel
  have hx1 : (onTheHeap (Value.ref D) && Value.builtin "BaseException.__getattribute__" == Value.builtin "object.__getattribute__") = false := by rw [hx2]; rfl
  unfold getAttr? getAttrBy? getAttrBy
  refine wpAny_bind (wpAny_mkText (wpAny_bind (wpAny_attempt (wpAny_holding (wpAny_bind (L0.at (wpAny_bind (L1.at ?_))))))))
  show wpAny _ _ (if (onTheHeap (Value.ref D) && Value.builtin "BaseException.__getattribute__" == Value.builtin "object.__getattribute__") = true then _ else _) _ _ _
  rw [hx1, if_neg Bool.false_ne_true]
  unfold getAttrByItsOwn hookBefore
  refine wpAny_bind ?_
  rw [if_pos (show onTheHeap (Value.ref D) = true from rfl)]
  refine L2.at ?_
  refine wpAny_bind (wpAny_attempt (wpAny_holding ?_))
  unfold callGetattribute
  rw [hx0, if_neg Bool.false_ne_true]
  unfold boundAndCalled
  rw [PySem.F.excAttr_ValueError.ga.bind (.ref x)]
  refine wpAny_bind (wpAny_pure ?_)
  show wpAny _ _ (call (.builtin "BaseException.__getattribute__") [.ref x, .str "__class__" t]) _ _ _
  refine wpAny_call (codeAny_call_builtin PySem.F.excAttr_ValueError.ga.plain PySem.F.entry_bexc_ga ?_)
  refine @check_slot (model prog w) _ _ ⟨hp, g, d, t + 1, os⟩ "BaseException.__getattribute__" "BaseException" "__getattribute__" (.ref x) [.str "__class__" t] [] _ (by decide +kernel) (by decide +kernel) sub (PySem.F.args_bexc_ga (.ref x) (.str "__class__" t)) ?_
  unfold Builtin.«object.__getattribute__»
  refine wpAny_bind (wpAny_of_eq (a := ((Value.ref x : Value), [Value.str "__class__" t])) (by first | rfl | (simp only [slotArgs]; rfl)) ?_)
  refine wpAny_bind (wpAny_pure (wpAny_bind (L0.at (wpAny_bind (L3.at ?_)))))
  show wpAny _ _ (holding [Value.builtin "object.__class__"] (call (.builtin "getset_descriptor.__get__") [.builtin "object.__class__", .ref x, .ref D]) >>= ret) _ _ _
  refine wpAny_bind (wpAny_holding (wpAny_call (class_get (s := ⟨hp, g, d, t + 1, os⟩) (ox := ox) (od := od) X I hm ?_)))
  refine wpAny_pure ?_
  show wpAny _ _ (handedOut (.ref D)) _ _ _
  rw [handedOut_of (v := .ref D) rfl]
  first
    | exact wpAny_pure (wpAny_pure h)
    | exact wpAny_pure h
    | exact wpAny_pure (wpAny_bind (wpAny_pure (wpAny_pure h)))
theorem fxb_kitx (hga : findIn K (.ref D) "__getattribute__" = some (some (.builtin "BaseException.__getattribute__"))) (hgt : findIn K (.ref D) "__getattr__" = some none) (hsub : subIn K (.ref D) (.type "BaseException") = some true) (hdct : hasDictIn K D = true) (ha : findIn K (.ref D) "__class__" = some (some (.builtin "object.__class__")))
    (hn : specialIn K (.builtin "object.__class__") "__get__" = some (some (.builtin "getset_descriptor.__get__"))) (htk : takesIn K (.builtin "object.__class__") = some true) (hm : mroIn K D (.type "object") = some true) :
    KitX K (.ref x) (.ref D) (fun h => InstAt h x ox D od) where
  ty := fun _ _ _ I => I.type
  it := fun _ _ X _ => by
    obtain ⟨cdD, hcD, _⟩ := any_some hdct
    unfold clsIn at hcD
    split at hcD
    · rename_i c' d' cd' sl' ho
      intro A' Q' E' s' k q
      unfold isType loadHead
      exact wpAny_bind (wpAny_loadPart (k _ _ (X _ _ ho)) (wpAny_pure q))
    · cases hcD
  ne := fun h tp dd its n sl X htp => by
    obtain ⟨cdD, hcD, _⟩ := any_some hdct
    refine Bool.eq_false_iff.mpr fun q => ?_
    have e : D = tp := Value.ref.inj (beq_iff_eq.mp q)
    subst e
    unfold clsIn at hcD
    split at hcD
    · rename_i c' d' cd' sl' ho
      have z := (X _ _ ho).symm.trans htp
      cases z
    · cases hcD
  ca := fun X I k => fxb_cls hga hgt hsub hdct ha hn htk hm X I k
end
end PySem.W
namespace FB
open PySem PySem.Spec PyProof.Rows L2 RZ
/-- an exception of the class at D -/
def ExAt (H : Hp) (a D : Addr) : Prop := H a = some (excT a D) ∨ ∃ (dx : Addr) (fs : List (Str × V)), H a = some (exo a D (some dx)) ∧ H dx = some (exd dx fs)
def tstA (tst : Str → Option Bool) : Dv → Option Bool
  | .exc c [] => tst c
  | .xa c _ _ => tst c
  | _ => none
def fIsA (tst : Str → Option Bool) (fa : FE) : FE := fun ρ st => (fa ρ st).bind fun d st1 => match tstA tst d with
  | some b => .ok (.p (.bool b)) st1
  | none => .stuck
section
variable {X : Cx} {W : WX} {pins : List (Addr × Obj)} {σ : L2.St} {H : Hp} {s : Shared}
theorem exAt_inst (I : Inv X pins σ H s) {a D : Addr} (h : ExAt H a D) : ∃ oe od, PySem.W.InstAt s.heap a oe D od := by
  rcases h with ha | ⟨dx, fs, ha, hd⟩
  · obtain ⟨⟨oe, hget, h1, h2, vs, hv⟩, _⟩ := (show ObjOk X.prog X.w H s.heap a (excT a D) from I.hok a _ ha)
    refine ⟨oe, none, ?_⟩
    obtain ⟨oc, od, oda, osl⟩ := oe
    dsimp only at h1 h2 hv
    subst h1 h2 hv
    exact ⟨hget, rfl, rfl, trivial⟩
  · obtain ⟨t0, ha⟩ := exo_at I.hok ha
    obtain ⟨mA, hns, hr⟩ := exd_at I.hok hd
    obtain ⟨od, ho, hl⟩ := lookIn_ns hns
    exact ⟨_, some od, ha, rfl, rfl, ho⟩
def rIsXA (K : PySem.W.Frag) : List V → Hp → VK → Prop := fun xs H Q => ∃ (a D : Addr) (c : V) (b : Bool), xs = [.ref a, c] ∧ ExAt H a D ∧ ExcC K D ∧
  ((∃ cv, (∀ u, RelV c u → u = cv) ∧ PySem.W.kitOne K (.ref D) cv = some b) ∨ ∃ (t : Addr) (Ts : List String), c = .ref t ∧ SqT K H t (Ts.map V.ty) ∧ PySem.W.kitAny K (.ref D) (Ts.map Value.type) = some b) ∧ Q (.bl b) H
theorem vals_tys : ∀ {Ts : List String} {us : List Value}, Vals (Ts.map V.ty) us → us = Ts.map Value.type
  | [], _, .nil => rfl
  | T :: Ts, _, .cons r t => by
    cases r
    rw [vals_tys t]; rfl
theorem call_isXA : CallR X (.builtin "isinstance") (rIsXA X.K) := by
  intro pins s σ H xs us Q I r h
  obtain ⟨a, D, c, b, rfl, ha, C, hc, q⟩ := h
  cases r with
  | cons rx rr =>
    cases rr with
    | cons rt rr =>
      cases rr
      cases rx
      obtain ⟨oe, od, J⟩ := exAt_inst I ha
      rcases hc with ⟨cv, hcv, e⟩ | ⟨t, Ts, rfl, ht, e⟩
      · have ec := hcv _ rt
        subst ec
        exact PySem.W.kia_one (PySem.W.fxb_kitx C.hg C.hk C.hs C.hd C.ha C.hn C.ht C.hm) I.kIn J e (fun z => nomatch z) fun tk => ⟨.bl b, H, I.kept (t' := tk) fun _ _ z => z, rfl, q⟩
      · cases rt
        obtain ⟨its, rv, ⟨o, ho, hcl, n, hd⟩, _⟩ := I.tuple ht
        have ei := vals_tys rv
        obtain ⟨oc, odd, oda, osl⟩ := o
        dsimp only at hcl hd
        subst hcl hd
        have ho' : s.heap.get? t = some ⟨.type "tuple", odd, .seq its.toArray n, osl⟩ := ho
        rw [ei] at ho'
        exact PySem.W.kia_tup (PySem.W.fxb_kitx C.hg C.hk C.hs C.hd C.ha C.hn C.ht C.hm) I.kIn J ho' e (fun z => nomatch z) fun tk => ⟨.bl b, H, I.kept (t' := tk) fun _ _ z => z, rfl, q⟩
theorem tstA_rd {K : PySem.W.Frag} {mg : Str → Option Value} {n : Nat} {w : Wd} {H : Hp} {d : Dv} {v : V} {tst : Str → Option Bool} {b : Bool} (h : tstA tst d = some b) (r : RD K mg n w H d v) : ∃ (a D : Addr) (c : Str), v = .ref a ∧ mg c = some (.ref D) ∧ ExAt H a D ∧ tst c = some b := by
  unfold tstA at h
  split at h
  · cases r with
    | exc m i e => exact ⟨_, _, _, rfl, m, .inl e, h⟩
  · cases r with
    | xa m i e j f g => exact ⟨_, _, _, rfl, m, .inr ⟨_, _, e, f⟩, h⟩
  · cases h
variable {x : Str} {e : Expr} {fa : FE} {pt p pos : Pos} {tst : Str → Option Bool}
/-- a class of the program -/
theorem pf_isA {Cx' : Addr} (hm : X.mg "isinstance" = none) (hx : X.mg x = some (.ref Cx')) (ht : ∀ (c : Str) (C : Addr) (b : Bool), X.mg c = some (.ref C) → tst c = some b → ExcC X.K C ∧ PySem.W.kitOne X.K (.ref C) (.ref Cx') = some b) (h : PF X W e fa)
    (hg : Gl X "isinstance" := by rfl) (hgx : Gl X x := by rfl) (hdx : (x == ("__debug__" : Str)) = false := by decide)
    (he : starEach [e, .Name x pt] X.env = (false, eval e X.env) :: starEach [.Name x pt] X.env := by rfl) (he2 : starEach [.Name x pt] X.env = (false, eval (.Name x pt) X.env) :: starEach [] X.env := by rfl) (hpl : (backTo pos (starEach [.Name x pt] X.env)).any (·.1) = false := by rfl) :
    PF X W (.Call (.Name "isinstance" p) [e, .Name x pt] [] pos) (fIsA tst fa) :=
  PE_imp (pe_callB call_isXA hg hm (by decide +kernel) (pa_cons h (pa_cons (pe_glob (v := .ref Cx') hgx hx rfl hdx) pa_nil he2) he) (by decide) (by decide) he hpl) fun σ H Q q => by
    obtain ⟨ρ, st, w, sim, er, gd⟩ := q
    refine ⟨ρ, st, w, sim, er, Good.imp (fun v H1 q => ?_) (Good.bind gd)⟩
    obtain ⟨st1, w1, d, sim1, s1, r1, gd1⟩ := q
    split at gd1
    · rename_i b e2
      obtain ⟨a, D, c, rfl, m, ea, et⟩ := tstA_rd e2 r1
      obtain ⟨k1, k2⟩ := ht _ _ b m et
      exact ⟨a, D, .ref Cx', b, rfl, ea, k1, .inl ⟨.ref Cx', fun u r => r, k2⟩, gd1 w1 H1 _ .refl sim1 (.p (.bl b))⟩
    · exact gd1.elim
/-- a built-in class -/
theorem pf_isAB {T : String} (hm : X.mg "isinstance" = none) (hx : X.mg x = none) (hv : bootBuiltins x = some (.type T)) (ht : ∀ (c : Str) (C : Addr) (b : Bool), X.mg c = some (.ref C) → tst c = some b → ExcC X.K C ∧ PySem.W.kitOne X.K (.ref C) (.type T) = some b) (h : PF X W e fa)
    (hg : Gl X "isinstance" := by rfl) (hgx : Gl X x := by rfl) (hnx : x ≠ "__name__" := by decide) (hdx : (x == ("__debug__" : Str)) = false := by decide)
    (he : starEach [e, .Name x pt] X.env = (false, eval e X.env) :: starEach [.Name x pt] X.env := by rfl) (he2 : starEach [.Name x pt] X.env = (false, eval (.Name x pt) X.env) :: starEach [] X.env := by rfl) (hpl : (backTo pos (starEach [.Name x pt] X.env)).any (·.1) = false := by rfl) :
    PF X W (.Call (.Name "isinstance" p) [e, .Name x pt] [] pos) (fIsA tst fa) :=
  PE_imp (pe_callB call_isXA hg hm (by decide +kernel) (pa_cons h (pa_cons (pe_bltn (v := .ty T) hgx hx hv rfl hnx hdx) pa_nil he2) he) (by decide) (by decide) he hpl) fun σ H Q q => by
    obtain ⟨ρ, st, w, sim, er, gd⟩ := q
    refine ⟨ρ, st, w, sim, er, Good.imp (fun v H1 q => ?_) (Good.bind gd)⟩
    obtain ⟨st1, w1, d, sim1, s1, r1, gd1⟩ := q
    split at gd1
    · rename_i b e2
      obtain ⟨a, D, c, rfl, m, ea, et⟩ := tstA_rd e2 r1
      obtain ⟨k1, k2⟩ := ht _ _ b m et
      exact ⟨a, D, .ty T, b, rfl, ea, k1, .inl ⟨.type T, fun u r => r, k2⟩, gd1 w1 H1 _ .refl sim1 (.p (.bl b))⟩
    · exact gd1.elim
/-- a tuple of built-in classes -/
theorem pf_isAT {es : List Expr} {k : Nat} {tpos : Pos} {t : TA} {Ts : List String} (hm : X.mg "isinstance" = none) (hpa : PA X es t) (ht0 : ∀ σ H Q, Q (Ts.map V.ty) H → t σ H Q) (hl : Ts.length ≤ 1000)
    (ht : ∀ (c : Str) (C : Addr) (b : Bool), X.mg c = some (.ref C) → tst c = some b → ExcC X.K C ∧ PySem.W.kitAny X.K (.ref C) (Ts.map Value.type) = some b) (h : PF X W e fa)
    (hg : Gl X "isinstance" := by rfl)
    (he : starEach [e, .Tuple es k tpos] X.env = (false, eval e X.env) :: starEach [.Tuple es k tpos] X.env := by rfl) (he2 : starEach [.Tuple es k tpos] X.env = (false, eval (.Tuple es k tpos) X.env) :: starEach [] X.env := by rfl) (hpl : (backTo pos (starEach [.Tuple es k tpos] X.env)).any (·.1) = false := by rfl) :
    PF X W (.Call (.Name "isinstance" p) [e, .Tuple es k tpos] [] pos) (fIsA tst fa) :=
  PE_imp (pe_callB call_isXA hg hm (by decide +kernel) (pa_cons h (pa_cons (pe_tupX hpa) pa_nil he2) he) (by decide) (by decide) he hpl) fun σ H Q q => by
    obtain ⟨ρ, st, w, sim, er, gd⟩ := q
    refine ⟨ρ, st, w, sim, er, Good.imp (fun v H1 q => ?_) (Good.bind gd)⟩
    obtain ⟨st1, w1, d, sim1, s1, r1, gd1⟩ := q
    split at gd1
    · rename_i b e2
      refine ht0 _ _ _ ⟨?_, fun p o hp ho => ?_⟩
      · rw [List.length_map, sizeLine_eq]; omega
      · obtain ⟨s2, sim2⟩ := sim1.newP (o := .frz o (.tup (Ts.map V.ty))) hp
        obtain ⟨a, D, c, rfl, m, ea, et⟩ := tstA_rd e2 (r1.mono s2)
        obtain ⟨k1, k2⟩ := ht _ _ b m et
        exact ⟨a, D, .ref p, b, rfl, ea, k1, .inr ⟨p, Ts, rfl, .inl (.inr ⟨o, upd_same⟩), k2⟩, gd1 _ _ _ s2 sim2 (.p (.bl b))⟩
    · exact gd1.elim
end
end FB
set_option Elab.async false
set_option linter.all false
set_option maxRecDepth 100000
set_option maxHeartbeats 4000000
/-! FXC: an exception class with an __init__ of its own that keeps one attribute. -/
namespace PySem
namespace HandSPX
section
variable {M : Model} {A : Around} {E : Value → Shared → Prop} {h : Heap} {g : Array GenState} {d : Drawn} {t : Nat} {os : OsState}
variable {nm q : Str} {C N : Addr} {bs bm bmB : List Value} {hdct : Bool} {sn : List Str} {sub : List Value} {ab : Bool} {col : Option Bool} {dd : Option Addr} {k0 k1 k2 k3 k5 : Option Value} {B newId initId : String}
theorem fxc_checkK (F : ExcBaseFacts B newId initId bmB) (hT : ∀ X : String, bm.contains (.type X) = bmB.contains (.type X)) {rest : List Value} {kw : List (Str × Value)} {Q : Unit → Shared → Prop}
    (hC : h.get? C = some (excClassObj nm q C N bs bm hdct sn sub ab col dd k0 k1 k2 k3 k5 newId)) (hq : Q () ⟨h, g, d, t, os⟩) : wpAny M A (checkBuiltinCall newId ⟨.ref C :: rest, kw⟩) Q E ⟨h, g, d, t, os⟩ := by
  have hcont : (Value.ref C :: bm).contains (.type B) = true := by rw [List.contains_cons, hT, F.hasB, Bool.or_true]
  have hstar := F.noStar
  simp only [checkBuiltinCall, F.newKind, F.newSplit, F.newRow]
  repeat (first | refine wpAny_loadPart_at hC ?_ | (refine wpAny_isSubtype_exc hC ?_; rw [hcont]) | refine wpAny_staticBase_exc hC ?_ | refine wpAny_madeBy_exc hC ?_ | simp only [bne_self_eq_false, Bool.false_eq_true, if_false] | wp_step)
  exact hq
end
section
variable {prog : Program} {w : World} {A : Around} {E : Value → Shared → Prop} {R : Result → Shared → Prop} {h : Heap} {g : Array GenState} {d : Drawn} {t : Nat} {os : OsState}
variable {nm q : Str} {C N : Addr} {bs bm bmB : List Value} {hdct : Bool} {sn : List Str} {sub : List Value} {ab : Bool} {col : Option Bool} {dd : Option Addr} {k0 k1 k2 k3 k5 : Option Value} {B newId initId : String}
theorem fxc_newK (F : ExcBaseFacts B newId initId bmB) (hT : ∀ X : String, bm.contains (.type X) = bmB.contains (.type X)) {rest : List Value} {kw : List (Str × Value)}
    (hC : h.get? C = some (excClassObj nm q C N bs bm hdct sn sub ab col dd k0 k1 k2 k3 k5 newId))
    (hq : R (.ok (.ret (.ref (h.objs.size + 1)))) ⟨(h.push { cls := .type "tuple", data := .seq rest.toArray }).push
      { cls := .ref C, data := .fields #[.ref h.objs.size, .none, .none, .none, .bool false, .none] }, g, d, t, os⟩) (hrest : rest.length ≤ sizeLine) :
    codeAny (model prog w) A (.builtin newId ⟨.ref C :: rest, kw⟩) R ⟨h, g, d, t, os⟩ := by
  have hends := F.ends
  have hcB : (Value.ref C :: bm).contains (.type B) = true := by rw [List.contains_cons, hT, F.hasB, Bool.or_true]
  have hcA : (Value.ref C :: bm).contains (.type "AttributeError") = false := by rw [List.contains_cons, hT, F.noAttr]; rfl
  have hcN : (Value.ref C :: bm).contains (.type "NameError") = false := by rw [List.contains_cons, hT, F.noName]; rfl
  refine codeAny_builtinAt F.entry ?_
  unfold Builtin.«BaseException.__new__»
  refine wpAt_bind ?_
  show wpAt _ _ _ (stack >>= _) _ _ _
  refine wpAt_bind (wpAt_stack fun p below => wpAt_of_wpAny ?_)
  wp_walk
  refine wpAt_of_wpAny ?_
  rw [F.owner]
  repeat (first | with_reducible refine wpAny_madeHere_exc F.canon hC ?_ | with_reducible refine wpAny_loadPart_at hC ?_ | (with_reducible refine wpAny_isSubtype_exc hC ?_; first | rw [hcB] | rw [hcA] | rw [hcN]) | wp_step)
  show R _ _
  rw [Heap.size_push]
  exact hq
theorem fxc_typeCallK (F : ExcBaseFacts B newId initId bmB) (hT : ∀ X : String, bm.contains (.type X) = bmB.contains (.type X)) {rest : List Value} {kw : List (Str × Value)} {fI : Addr} {Q : Fin → Shared → Prop}
    (hC : h.get? C = some (excClassObj nm q C N bs bm hdct sn sub ab col dd k0 k1 k2 k3 k5 newId))
    (hi : W.Looks (model prog w) h (typeLookup (.ref C) "__init__") (some (.ref fI))) (hb : ∀ self, W.Looks (model prog w) h (bindSpecial (.ref fI) self) (.ref fI, [self])) (hrest : rest.length ≤ sizeLine)
    (hq : codeAny (model prog w) A (.call (.ref fI) ⟨.ref (h.objs.size + 1) :: rest, kw⟩)
      (fun r s' => match r with | .ok (.ret v) => v = .none ∧ Q (.done (.ret (.ref (h.objs.size + 1)))) s' | .ok _ => False | .error e => E e s')
      ⟨(h.push (W.kdv_tup rest)).push (excO C h.objs.size), g, d, t, os⟩) :
    wpAny (model prog w) A (Builtin.«type.__call__» ⟨.ref C :: rest, kw⟩) Q E ⟨h, g, d, t, os⟩ := by
  repeat (first | with_reducible refine wpAny_loadPart_at hC ?_ | with_reducible refine wpAny_madeBy_exc hC ?_ | wp_step)
  refine codeAny_call_builtin_code (Code.quiet_builtin _ F.quiet) (fxc_checkK F hT hC ?_)
  refine fxc_newK F hT hC ?_ hrest
  show wpAny _ _ _ _ _ _
  have k : ∀ b o, h.get? b = some o → ((h.push (W.kdv_tup rest)).push (excO C h.objs.size)).get? b = some o := fun b o e => Heap.get?_push_of_some _ (Heap.get?_push_of_some _ e)
  have hC₁ := k _ _ hC
  have hget : ((h.push (W.kdv_tup rest)).push (excO C h.objs.size)).get? (h.objs.size + 1) = some (excO C h.objs.size) := by heap_get
  have hcC : (Value.ref C :: bm).contains (.ref C) = true := by simp
  have i1 := hi.keeps k
  have b1 := (hb (.ref (h.objs.size + 1))).keeps k
  unfold isInstance
  repeat (first | with_reducible refine wpAny_loadPart_at hget ?_ | (with_reducible refine wpAny_isSubtype_exc hC₁ ?_; rw [hcC]) | wp_step)
  show wpAny _ _ (typeLookup (.ref C) _) _ _ _
  refine i1.at ?_
  refine wpAny_holding (wpAny_bind (b1.at ?_))
  refine wpAny_bind (wpAny_call (codeAny_mono hq fun r s' z => ?_))
  rcases r with e | (v | _ | _ | _) <;> first | exact z | exact z.elim | skip
  obtain ⟨rfl, z⟩ := z
  first
    | exact wpAny_pure (wpAny_pure z)
    | (wp_walk; exact z)
theorem fxc_callK (F : ExcBaseFacts B newId initId bmB) (hT : ∀ X : String, bm.contains (.type X) = bmB.contains (.type X)) {rest : List Value} {kw : List (Str × Value)} {fI : Addr}
    (hC : h.get? C = some (excClassObj nm q C N bs bm hdct sn sub ab col dd k0 k1 k2 k3 k5 newId))
    (hi : W.Looks (model prog w) h (typeLookup (.ref C) "__init__") (some (.ref fI))) (hb : ∀ self, W.Looks (model prog w) h (bindSpecial (.ref fI) self) (.ref fI, [self])) (hrest : rest.length ≤ sizeLine)
    (hq : codeAny (model prog w) (A.under (.builtin "type.__call__" ⟨.ref C :: rest, kw⟩)) (.call (.ref fI) ⟨.ref (h.objs.size + 1) :: rest, kw⟩) (W.InitBack (h.objs.size + 1) R)
      ⟨(h.push (W.kdv_tup rest)).push (excO C h.objs.size), g, d, t, os⟩) :
    codeAny (model prog w) A (.call (.ref C) ⟨rest, kw⟩) R ⟨h, g, d, t, os⟩ := by
  have f1 := tc_lookup
  have f2 := tc_bind (.ref C)
  have hTy : (⟨h, g, d, t, os⟩ : Shared).TypeIs (.ref C) "type" := ⟨_, hC, rfl⟩
  refine codeAny_of_tree ?_
  show wpAny _ _ (callAny (.ref C) _) _ _ _
  repeat (any_goals (first | assumption | with_reducible refine wpAny_loadPart_at hC ?_ | wp_step))
  refine ⟨rfl, ?_⟩
  refine codeAny_call_builtin_at (Code.quiet_builtin _ (by decide +kernel)) entry_typeCall (wpAny_check_type_call_sub hC (fxc_typeCallK F hT hC hi hb hrest ?_))
  refine codeAny_mono hq fun r s' z => ?_
  rcases r with e | (v | _ | _ | _) <;> exact z
end
end HandSPX
end PySem
set_option Elab.async false
set_option linter.all false
set_option maxRecDepth 100000
set_option maxHeartbeats 4000000
/-! FXD: such a class in the walk: C(e), C(x = e), C(). -/
namespace FB
open PySem PySem.Spec PyProof.Rows L2 RZ
def oexB (K : PySem.W.Frag) (C : Addr) : Bool := (match K.lookup C with
  | some ⟨.type "type", _, .cls cd, sl⟩ => (match cd.mro, sl.toList with
    | .ref C' :: bm, [_, _, _, _, some (.builtin n), _] => C' == C && n == "ValueError.__new__" && !cd.hasDel && cd.hasDict && PySem.HandSPX.refsVE bm
    | _, _ => false)
  | _ => false) && (decide (PySem.W.findIn K (.ref C) "__setattr__" = some (some (.builtin "object.__setattr__"))) && (decide (PySem.W.subIn K (.ref C) (.type "BaseException") = some true) && (decide (PySem.W.typeIn K (.ref C) = some (.type "type")) && PySem.W.keepIn K (.ref C))))
theorem oexB_ok {K : PySem.W.Frag} {C : Addr} (h : oexB K C = true) : OexC K C := by
  unfold oexB at h
  rw [Bool.and_eq_true, Bool.and_eq_true, Bool.and_eq_true, Bool.and_eq_true, decide_eq_true_eq, decide_eq_true_eq, decide_eq_true_eq] at h
  obtain ⟨q, h1, h2, h3, h4⟩ := h
  refine ⟨?_, h1, h2, h3, h4⟩
  split at q
  · rename_i dd cd sl ho
    split at q
    · rename_i C' bm k0 k1 k2 k3 n k5 hm hs
      simp only [Bool.and_eq_true, beq_iff_eq, Bool.not_eq_true'] at q
      obtain ⟨⟨⟨⟨rfl, rfl⟩, hdel⟩, hdic⟩, ht⟩ := q
      obtain ⟨nm, bs, mro, ns, qn, hd, sn, sub, ab, col, del⟩ := cd
      dsimp only at hm hdel hdic
      subst hm hdel hdic
      have hsl : sl = #[k0, k1, k2, k3, some (.builtin "ValueError.__new__"), k5] := by
        obtain ⟨l⟩ := sl
        simp only at hs
        rw [hs]
      subst hsl
      exact ⟨nm, qn, ns, bs, bm, sn, sub, ab, col, dd, k0, k1, k2, k3, k5, ho, ht⟩
    · cases q
  · cases q
/-- what __init__ does -/
def spX (x : Str) (C : Addr) : Sp := fun vs H Q _ => vs.length = 2 ∧ ∃ (a : Addr) (v : V), vs = [.ref a, v] ∧ H a = some (exo a C none) ∧ ∀ dx, H dx = none → dx ≠ a → Q .non (upd (upd H dx (exd dx [(x, v)])) a (exo a C (some dx)))
section
variable {X : Cx} {pins : List (Addr × Obj)} {σ : L2.St} {H : Hp} {s : Shared}
theorem run_oexK {CX : CXT} {C fI : Addr} {k : Nat} {fd : FuncData} {ps : List Str} {sp : Sp} {us : List Value} {kw : List (Str × Value)} {uw : Value} {vw : V} {Q : VK} (T : OexC X.K C) (iC : PySem.W.findIn X.K (.ref C) "__init__" = some (some (.ref fI))) (tI : PySem.W.typeIn X.K (.ref fI) = some (.type "function"))
    (F1 : FnOk X.prog X.w X.K X.mg X.base CX k fI fd ps sp) (hr : Room (k + 1) X.A) (hx : Passes CX X (fun _ _ _ => False)) (I : Inv X pins σ H s) (hus : us.length ≤ sizeLine) (rw' : RelV vw uw)
    (hb : ∀ (s : Shared) (a : Addr), X.K.In s.heap → BindsTo s fd ⟨.ref a :: us, kw⟩ (ps.zip [.ref a, uw]))
    (h : ∀ a, H a = none → sp [.ref a, vw] (upd H a (exo a C none)) (fun v H2 => v = .non ∧ Q (.ref a) H2) (fun _ _ _ => False)) :
    wpAny (model X.prog X.w) X.A (call (.ref C) us kw) (EP X pins σ Q) X.xe s := by
  obtain ⟨nm, q, N, bs, bm, sn, sub, ab, col, dd, k0, k1, k2, k3, k5, hC, hbm⟩ := T.cls
  obtain ⟨hp, g, dr, tk, os⟩ := s
  have hsz : hp.objs.size ≤ hp.objs.size + 1 := Nat.le_succ _
  have hn : H (hp.objs.size + 1) = none := I.hok.fresh hsz
  have hq := h (hp.objs.size + 1) hn
  have kk : ∀ b o, hp.get? b = some o → ((hp.push (PySem.W.kdv_tup us)).push (PySem.HandSPX.excO C hp.objs.size)).get? b = some o := fun b o e => Heap.get?_push_of_some _ (Heap.get?_push_of_some _ e)
  have hget : ((hp.push (PySem.W.kdv_tup us)).push (PySem.HandSPX.excO C hp.objs.size)).get? (hp.objs.size + 1) = some (PySem.HandSPX.excO C hp.objs.size) := by heap_get
  have I2 : Inv X pins σ (upd H (hp.objs.size + 1) (exo (hp.objs.size + 1) C none)) ⟨(hp.push (PySem.W.kdv_tup us)).push (PySem.HandSPX.excO C hp.objs.size), g, dr, tk, os⟩ :=
    I.laid (t' := tk) (a := hp.objs.size + 1) (o := exo (hp.objs.size + 1) C none) (h' := (hp.push (PySem.W.kdv_tup us)).push (PySem.HandSPX.excO C hp.objs.size)) kk hsz (exo_ok hget)
  refine wpAny_call (PySem.HandSPX.fxc_callK F.excBase_ValueError (fun Y => PySem.HandSPX.refsVE_contains Y bm hbm) (I.kIn _ _ hC) (PySem.W.looks_findIn I.kIn iC) (fun self => PySem.W.bind_fn I.kIn self tI) hus
    (codeAny_mono (F1.run _ X.stack _ _ ⟨Value.ref (hp.objs.size + 1) :: us, kw⟩ [Value.ref (hp.objs.size + 1), uw] [V.ref (hp.objs.size + 1), vw] _ (fun _ _ _ => False) (hr.make C us kw) (I2.env0.make C us kw) (hb _ _ I2.kIn) (.cons rfl (.cons rw' .nil)) hq) fun r s' hq' => ?_))
  cases r with
  | error er => exact hx pins σ _ _ er s' I2 hq'
  | ok fl =>
    cases fl with
    | ret u =>
      obtain ⟨v, H3, I3, rv, ev, q3⟩ := I2.after hq'
      subst ev
      exact ⟨rv, ⟨V.ref (hp.objs.size + 1), H3, I3, rfl, q3⟩⟩
    | next => exact False.elim hq'
    | brk => exact False.elim hq'
    | cont => exact False.elim hq'
end
/-! ### the mirror -/
def fNewA (c x : Str) (fa : FE) : FE := fun ρ st => (fa ρ st).bind fun d st1 => .ok (.xa c x d) st1
def fNewA0 (c x : Str) : FE := fun _ st => .ok (.xa c x (.p .none)) st
section
variable {X : Cx} {W : WX} {c x : Str} {C fI : Addr} {fd : FuncData} {ps : List Str} {k : Nat} {e : Expr} {fa : FE} {p pos kpos : Pos}
theorem upd_twice {H : Hp} {a dx : Addr} {o1 o2 o3 : HO} (h : dx ≠ a) : upd (upd (upd H a o1) dx o2) a o3 = upd (upd H dx o2) a o3 := by
  funext b
  by_cases hb : b = a
  · subst hb; rw [upd_same, upd_same]
  · rw [upd_ne hb, upd_ne hb]
    by_cases hd : b = dx
    · subst hd; rw [upd_same, upd_same]
    · rw [upd_ne hd, upd_ne hd, upd_ne hb]
theorem made_x {st : So} {w : Wd} {H : Hp} {d : Dv} {v : V} {Q : VK} (sim : Sim X.K X.mg w st H) (r : RD X.K X.mg st.length w H d v) (gC : X.mg c = some (.ref C))
    (l : Lies X.K X.mg st w H Q (.xa c x d)) : ∀ a, H a = none → spX x C [.ref a, v] (upd H a (exo a C none)) (fun u H2 => u = .non ∧ Q (.ref a) H2) (fun _ _ _ => False) := by
  intro a ha
  refine ⟨rfl, a, v, rfl, upd_same, fun dx hd hne => ⟨rfl, ?_⟩⟩
  rw [upd_ne hne] at hd
  rw [upd_twice hne]
  obtain ⟨s2, sim2⟩ := sim.newP (o := exd dx [(x, v)]) hd
  have ha2 : (upd H dx (exd dx [(x, v)])) a = none := by rw [upd_ne (Ne.symm hne)]; exact ha
  obtain ⟨s3, sim3⟩ := sim2.newP (o := exo a C (some dx)) ha2
  exact l _ _ _ (s2.trans s3) sim3 (.xa gC (.inl rfl) upd_same (.inr (.inl rfl)) (by rw [upd_ne hne]; exact upd_same) (r.mono (s2.trans s3)))
end
end FB
set_option Elab.async false
set_option linter.all false
set_option maxRecDepth 100000
set_option maxHeartbeats 4000000
/-! FXE: C(e), C(), C(x = e) as values; the walk of its __init__. -/
namespace FB
open PySem PySem.Spec PyProof.Rows L2 RZ
section
variable {X : Cx} {W : WX} {c x n : Str} {C fI : Addr} {fd : FuncData} {ps : List Str} {k : Nat} {e : Expr} {te : TE} {fa : FE} {p pos kpos : Pos} {sp : Sp} {ds : List Value}
theorem passes_none : Passes (L2.CX X.prog X.w) X (fun _ _ _ => False) := fun _ _ _ _ _ _ _ ⟨_, _, _, _, _, _, _, _, _, _, _, _, z⟩ => z.elim
/-- the class and its __init__ -/
structure OwnX (P : Program) (w : World) (K : PySem.W.Frag) (mg : Str → Option Value) (base : Heap) (c : Str) (C fI : Addr) (k : Nat) (fd : FuncData) (ps : List Str) (sp : Sp) : Prop where
  T : OexC K C
  gC : mg c = some (.ref C)
  iC : PySem.W.findIn K (.ref C) "__init__" = some (some (.ref fI))
  tI : PySem.W.typeIn K (.ref fI) = some (.type "function")
  F : FnOk P w K mg base (L2.CX P w) k fI fd ps sp
theorem pe_oex1 (O : OwnX X.prog X.w X.K X.mg X.base c C fI k fd ps sp) (hr : Room (k + 1) X.A) (hg : Gl X c) (hb : Binds X.K fd ps []) (hl : ps.length = 2) (he : PE X e te)
    (hs : starEach [e] X.env = (false, eval e X.env) :: starEach [] X.env := by rfl) (hdb : (c == ("__debug__" : Str)) = false := by decide) :
    PE X (.Call (.Name c p) [e] [] pos) (fun σ H Q => te σ H fun y H1 => ∀ a, H1 a = none → sp [.ref a, y] (upd H1 a (exo a C none)) (fun v H2 => v = .non ∧ Q (.ref a) H2) (fun _ _ _ => False)) := by
  refine ⟨fun pins s σ H Q I h => ?_⟩
  refine wpAny_Call_Name_kw (ld_glob I hg O.gC ?_ hdb)
  refine PySem.W.callWith_K (h₀ := X.base) I.ok.mod.kin O.T.kC ?_ hs (by rfl)
  rw [hs]
  show wpAny _ _ (spliced ((false, eval e X.env) :: backTo pos (starEach [] X.env))) _ _ s
  refine Calls.spliced_cons (thn (he.run pins s σ H _ I h) fun u s1 ⟨v, H1, I1, r1, q1⟩ => ?_)
  refine Calls.spliced_nil ⟨I1.kIn, ?_⟩
  show wpAny _ _ (call (.ref C) [u]) _ _ _
  exact run_oexK (us := [u]) (kw := []) O.T O.iC O.tI O.F hr passes_none I1 (by show 1 ≤ sizeLine; rw [sizeLine_eq]; omega) r1 (fun s a X => hb s [.ref a, u] X (by rw [hl]; rfl)) q1
theorem pe_oex0 (O : OwnX X.prog X.w X.K X.mg X.base c C fI k fd ps sp) (hr : Room (k + 1) X.A) (hg : Gl X c) (hb : Binds X.K fd ps ds) (hd : Vals [V.non] ds) (hl : ps.length = 2) (hdb : (c == ("__debug__" : Str)) = false := by decide) :
    PE X (.Call (.Name c p) [] [] pos) (fun _ H Q => ∀ a, H a = none → sp [.ref a, .non] (upd H a (exo a C none)) (fun v H2 => v = .non ∧ Q (.ref a) H2) (fun _ _ _ => False)) := by
  refine ⟨fun pins s σ H Q I h => ?_⟩
  refine wpAny_Call_Name_kw (ld_glob I hg O.gC ?_ hdb)
  refine PySem.W.callWith_K0 I.kIn O.T.kC ?_
  show wpAny _ _ (call (.ref C) []) _ _ _
  cases hd with
  | @cons _ u _ us r t =>
    cases t
    exact run_oexK (us := []) (kw := []) O.T O.iC O.tI O.F hr passes_none I (Nat.zero_le _) r (fun s a X => hb s [.ref a] X (by rw [hl]; rfl)) h
theorem pe_oexK {kws : List Keyword} {tk : TA} (O : OwnX X.prog X.w X.K X.mg X.base c C fI k fd ps sp) (hr : Room (k + 1) X.A) (hg : Gl X c) (hb : ∀ (s : Shared) (us ws : List Value), X.K.In s.heap → us.length = 1 → ws.length = 1 → BindsTo s fd ⟨us, [n].zip ws⟩ (ps.zip (us ++ ws))) (hkw : PK X kws tk)
    (hall : (backToKw pos (keywordEach kws X.env)).all (·.1.isSome) = true) (hks : (backToKw pos (keywordEach kws X.env)).filterMap (·.1) = [n]) (hdb : (c == ("__debug__" : Str)) = false)
    (hpl : ((backTo pos (starEach [] X.env)).any (·.1) || (backToKw pos (keywordEach kws X.env)).any (·.1.isNone)) = false) :
    PE X (.Call (.Name c p) [] kws pos) (fun σ H Q => tk σ H fun zs H1 => ∃ y, zs = [y] ∧ ∀ a, H1 a = none → sp [.ref a, y] (upd H1 a (exo a C none)) (fun v H2 => v = .non ∧ Q (.ref a) H2) (fun _ _ _ => False)) := by
  refine ⟨fun pins s σ H Q I h => ?_⟩
  refine wpAny_Call_Name_kw (ld_glob I hg O.gC ?_ hdb)
  refine PySem.W.callWith_KW0 (h₀ := X.base) I.ok.mod.kin O.T.kC hall ?_ hpl
  refine thn (hkw.run pos pins s σ H _ I h) fun ws s2 ⟨zs, H2, I2, rz, y, ez, q2⟩ => ⟨I2.kIn, ?_⟩
  rw [hks]
  subst ez
  cases rz with
  | @cons _ u _ us r t =>
    cases t
    exact run_oexK (us := []) (kw := [(n, u)]) O.T O.iC O.tI O.F hr passes_none I2 (Nat.zero_le _) r (fun s a X => hb s [.ref a] [u] X rfl rfl) q2
/-! ### in the mirror -/
theorem pf_newA (O : OwnX X.prog X.w X.K X.mg X.base c C fI k fd ps (spX x C)) (hr : Room (k + 1) X.A) (hb : Binds X.K fd ps []) (hl : ps.length = 2) (he : PF X W e fa) (hg : Gl X c := by rfl)
    (hs : starEach [e] X.env = (false, eval e X.env) :: starEach [] X.env := by rfl) (hdb : (c == ("__debug__" : Str)) = false := by decide) :
    PF X W (.Call (.Name c p) [e] [] pos) (fNewA c x fa) := PE_imp (pe_oex1 O hr hg hb hl he hs hdb) fun σ H Q h => by
  obtain ⟨ρ, st, w, sim, er, gd⟩ := h
  refine ⟨ρ, st, w, sim, er, Good.imp (fun v H1 q => ?_) (Good.bind gd)⟩
  obtain ⟨st1, w1, d, sim1, s1, r1, gd1⟩ := q
  exact made_x sim1 r1 O.gC gd1
theorem pf_newA0 (O : OwnX X.prog X.w X.K X.mg X.base c C fI k fd ps (spX x C)) (hr : Room (k + 1) X.A) (hb : ∃ ds, Vals [V.non] ds ∧ Binds X.K fd ps ds) (hl : ps.length = 2) (hg : Gl X c := by rfl) (hdb : (c == ("__debug__" : Str)) = false := by decide) :
    PF X W (.Call (.Name c p) [] [] pos) (fNewA0 c x) := by
  obtain ⟨ds, hd, hb⟩ := hb
  exact PE_imp (pe_oex0 O hr hg hb hd hl hdb) fun σ H Q h => by
    obtain ⟨ρ, st, w, sim, er, gd⟩ := h
    exact made_x sim (.p .non) O.gC gd
theorem pf_newAK (O : OwnX X.prog X.w X.K X.mg X.base c C fI k fd ps (spX x C)) (hr : Room (k + 1) X.A) (hb : ∀ (s : Shared) (us ws : List Value), X.K.In s.heap → us.length = 1 → ws.length = 1 → BindsTo s fd ⟨us, [n].zip ws⟩ (ps.zip (us ++ ws))) (he : PF X W e fa) (hg : Gl X c := by rfl)
    (hall : (backToKw pos (keywordEach [⟨some n, e, kpos⟩] X.env)).all (·.1.isSome) = true := by rfl) (hks : (backToKw pos (keywordEach [⟨some n, e, kpos⟩] X.env)).filterMap (·.1) = [n] := by rfl) (hdb : (c == ("__debug__" : Str)) = false := by decide)
    (hpl : ((backTo pos (starEach [] X.env)).any (·.1) || (backToKw pos (keywordEach [⟨some n, e, kpos⟩] X.env)).any (·.1.isNone)) = false := by rfl) :
    PF X W (.Call (.Name c p) [] [⟨some n, e, kpos⟩] pos) (fNewA c x fa) := PE_imp (pe_oexK O hr hg hb (pk_cons he pk_nil) hall hks hdb hpl) fun σ H Q h => by
  obtain ⟨ρ, st, w, sim, er, gd⟩ := h
  refine ⟨ρ, st, w, sim, er, Good.imp (fun v H1 q => ?_) (Good.bind gd)⟩
  obtain ⟨st1, w1, d, sim1, s1, r1, gd1⟩ := q
  exact ⟨v, rfl, made_x sim1 r1 O.gC gd1⟩
end
/-! ### B.__init__(self, ..), B an own class over ValueError -/
section
variable {X : Cx} {b : Str} {CB : Addr} {e : Expr} {es : List Expr} {ta : TA} {p1 p2 pos : Pos}
theorem pe_binit {pl : Sem Bool} (hg : Gl X b) (hm : X.mg b = some (.ref CB)) (hdb : (b == ("__debug__" : Str)) = false) (rd : PySem.W.readsIn X.K CB (.type "type") = true) (ga : PySem.W.specialIn X.K (.ref CB) "__getattribute__" = some (some (.builtin "type.__getattribute__")))
    (fc : PySem.W.findCls X.K (.ref CB) (.type "type") "__init__" = some (.val (.builtin "ValueError.__init__"))) (ha : PA X (e :: es) ta)
    (hc : eval (.Call (.Attribute (.Name b p1) "__init__" p2) (e :: es) [] pos) X.env = (do
      let ov ← eval (.Name b p1) X.env
      standAt p2.atName
      let (f, first) ← holding [ov] (getMethod ov "__init__" pl)
      callWith pos f first (backTo pos (starEach (e :: es) X.env)) (backToKw pos (keywordEach [] X.env))) := by rfl)
    (he : starEach (e :: es) X.env = (false, eval e X.env) :: starEach es X.env := by rfl) (hpl : (backTo pos (starEach es X.env)).any (·.1) = false := by rfl) :
    PE X (.Call (.Attribute (.Name b p1) "__init__" p2) (e :: es) [] pos) (tVeI X.K ta) := by
  refine ⟨fun pins s σ H Q I h => ?_⟩
  refine PySem.W.methodCall_KW (ld_glob I hg hm ?_ hdb) hc
  refine PySem.W.method_cls I.kIn ga (PySem.W.cls_value I.kIn rd fc (by decide +kernel) ?_)
  show wpAny _ _ (callWith pos (Value.builtin "ValueError.__init__") [] (backTo pos (starEach (e :: es) X.env)) []) _ _ _
  refine PyProof.Rows.callWith_method1 (thn (ha.run pos pins _ σ H _ (I.tok _) h) fun us s1 ⟨vs, H1, I1, r1, a, C, ws, ev, hl, T, ea, q⟩ => ?_) he hpl
  subst ev
  cases r1 with
  | @cons _ u0 _ ur ra rw' =>
    obtain rfl : u0 = Value.ref a := ra
    have hlen : ur.length ≤ sizeLine := by
      rw [← Paired.length rw', sizeLine_eq]
      omega
    exact oinit_ok T I1 ea hlen fun s' J => ⟨.non, H1, J, rfl, q⟩
end
/-! ### a def with one default -/
section
variable {K : PySem.W.Frag} {x qual : Str} {params : Arguments} {body : List Stmt} {scope : Scope} {kws : List (Str × V)} {f : Addr} {fd : FuncData} {ps : List Str} {v : V}
theorem fxe_binds1 (F : FunD K x qual params body scope [v] kws f fd)
    (h : ∀ (T : Addr) (kV doc pm : Value) (an : Option Addr) (cdv ct : Value) (us its : List Value), us.length = ps.length → its.length = 1 →
      ∃ k, bindArgs (PySem.W.fnOf x qual params body scope (.ref T) kV doc pm an cdv ct) ⟨us, []⟩ = seqItems? (.ref T) >>= k ∧ k (some its.toArray) = pure (ps.zip us)) : Binds K fd ps [] := by
  obtain ⟨ds, r, b⟩ := F.binds1 (ps := ps) ps.length 1 (List.cons_ne_nil _ _) rfl fun T kV doc pm an cdv ct us its l1 l2 => by
    obtain ⟨k, e1, e2⟩ := h T kV doc pm an cdv ct us its l1 l2
    refine ⟨k, e1, ?_⟩
    rw [e2, List.drop_eq_nil_of_le (by rw [show its.length = 1 from l2]; exact Nat.le_refl _), List.append_nil]
  cases r
  exact b
end
/-! ### what the head looks at -/
def lockB (c b x : Str) (K : PySem.W.Frag) : Bool := oexB K (He.ga K c) && (decide (PySem.W.findIn K (.ref (He.ga K c)) "__init__" = some (some (.ref (He.fAd K (c, some "__init__"))))) && (decide (PySem.W.typeIn K (.ref (He.fAd K (c, some "__init__"))) = some (.type "function")) && (decide (PySem.W.findIn K (.ref (He.ga K c)) x = some none) && (xfB K (He.ga K c) &&
  (PySem.W.readsIn K (He.ga K b) (.type "type") && (decide (PySem.W.specialIn K (.ref (He.ga K b)) "__getattribute__" = some (some (.builtin "type.__getattribute__"))) && (match PySem.W.findCls K (.ref (He.ga K b)) (.type "type") "__init__" with
    | some (.val (.builtin n)) => n == "ValueError.__init__"
    | _ => false)))))))
theorem lockB_ok {c b x : Str} {K : PySem.W.Frag} (h : lockB c b x K = true) : OexC K (He.ga K c) ∧ PySem.W.findIn K (.ref (He.ga K c)) "__init__" = some (some (.ref (He.fAd K (c, some "__init__")))) ∧ PySem.W.typeIn K (.ref (He.fAd K (c, some "__init__"))) = some (.type "function") ∧ PySem.W.findIn K (.ref (He.ga K c)) x = some none ∧ XfC K (He.ga K c) ∧
    PySem.W.readsIn K (He.ga K b) (.type "type") = true ∧ PySem.W.specialIn K (.ref (He.ga K b)) "__getattribute__" = some (some (.builtin "type.__getattribute__")) ∧ PySem.W.findCls K (.ref (He.ga K b)) (.type "type") "__init__" = some (.val (.builtin "ValueError.__init__")) := by
  unfold lockB at h
  simp only [Bool.and_eq_true, decide_eq_true_eq] at h
  obtain ⟨h1, h2, h3, h4, h5, h6, h7, h8⟩ := h
  refine ⟨oexB_ok h1, h2, h3, h4, xfB_ok h5, h6, h7, ?_⟩
  split at h8
  · rename_i n e
    rw [e]
    rw [beq_iff_eq.mp h8]
  · cases h8
def kitAB (c : Str) (Ts : List String) (b : Bool) (K : PySem.W.Frag) : Bool := decide (PySem.W.kitAny K (.ref (He.ga K c)) (Ts.map Value.type) = some b)
def kitVB (x : Str) (b : Bool) (K : PySem.W.Frag) : Bool := decide (PySem.W.kitOne K (.type "ValueError") (.ref (He.ga K x)) = some b)
end FB
set_option Elab.async false
set_option linter.all false
set_option maxRecDepth 100000
set_option maxHeartbeats 4000000
/-! FBH: the law's end. -/
namespace FB
open PySem PySem.Spec PyProof.Rows L2 RZ
theorem walk_ofW {l : PySem.W.OpenLaw} {n k : Nat} {q : Program} {loose : List Str} {XP : (Str → Option Value) → Heap → Prop} {YP : World → Heap → Prop} {d : DefRec} {x : Str}
    (hn : l.most = some n) (hn2 : n ≤ sizeLine) (hdf : d.params.defaults = []) (hr : Room k callerA)
    (F : ∀ (w : World) (mg : Str → Option Value) (fa : Addr) (h : Heap), YP w h → h.Ns mainGlobals mg → mg d.name = some (.ref fa) →
      ∃ (K : PySem.W.Frag) (fd : FuncData) (sp : Sp), K.In h ∧ (∀ (s : Shared) (u : Value), BindsTo s fd ⟨[u], []⟩ [(x, u)]) ∧
        (∀ (H : Hp) (a : Addr) (ns : List Int), ns.length ≤ n → Only H → SqL K H a (ns.map V.int) → sp [.ref a] H (fun v _ => v = .bl true) fun _ _ _ => False) ∧
        ∀ base : Heap, K.In base → base.Ns mainGlobals mg → FnOk l.prog w K mg base (L2.CX l.prog w) k fa fd [x] sp) :
    PySem.W.WalkO q loose XP YP l.row.toRowW d [] (fun f vs => PySem.call f vs) := by
  refine Att.attach_call hn hdf fun w s₀ s₁ mg mb fa o pm cd doc a vs ns G Y ho hd hcd hmg hobj hints hlen hg => ?_
  obtain ⟨K, fd, sp, KX, hb, hsp, hF⟩ := F w mg fa _ Y G.T.g hmg
  exact law_call KX G.T.g G.T.b G.T.builtins G.T.nolimit hg hobj hints (Nat.le_trans hlen hn2) hr hF hb (fun H hO hS => hsp H a ns hlen hO hS) fun H e s' c => by
    obtain ⟨_, _, _, _, _, _, _, _, _, _, _, _, q⟩ := c
    exact q.elim
theorem end_sp {K : PySem.W.Frag} {mg : Str → Option Value} {F : FD} {H : Hp} {a : Addr} {ns : List Int} {st' : So} (hO : Only H) (hS : SqL K H a (ns.map V.int)) (h : F [.frz ns] [] = .ok (.p (.bool true)) st') :
    spD K mg 1 F [.ref a] H (fun v _ => v = .bl true) fun _ _ _ => False := by
  refine ⟨rfl, [.frz ns], [], ⟨fun _ => 0, fun b => ∃ o xs, H b = some (.frz o (.lst xs)), fun _ => False⟩, ⟨fun i c e => by simp at e, fun i j hi => ?_, fun b ⟨o, xs, e⟩ => ⟨_, e⟩, fun b hb => hb.elim⟩, .cons (.frz ?_) .nil, ?_⟩
  · obtain ⟨c, e, _⟩ := hi
    simp at e
  · rcases hS with (hS | ⟨o, hS⟩) | hS
    · rcases hO a with e | ⟨o, xs, e⟩
      · rw [hS] at e; cases e
      · rw [hS] at e; cases e
    · exact .inl ⟨⟨o, _, hS⟩, o, hS⟩
    · exact .inr hS
  · rw [h]
    exact fun w' H' v s sim r => rd_bl r
end FB
set_option Elab.async false
set_option linter.all false
set_option maxRecDepth 100000
set_option maxHeartbeats 4000000
/-! FXG: {k: v} with any key and value: as data, as a cell. -/
namespace FB
open PySem PySem.Spec PyProof.Rows L2 RZ
def fDd1 (fk fv : FE) : FE := fun ρ st => (fk ρ st).bindN fun x st1 => (fv ρ st1).bindN fun y st2 => match keyD x, y with
  | some kk, .p d => .ok (.p (.dict [(keyP kk, d)])) st2
  | _, _ => .stuck
def fDc1 (fk fv : FE) : FE := fun ρ st => (fk ρ st).bindN fun x st1 => (fv ρ st1).bindN fun y st2 => match keyD x with
  | some kk => .ok (.ref st2.length) (st2 ++ [.dK [(kk, y)]])
  | none => .stuck
section
variable {X : Cx} {W : WX} {k v : Expr} {fk fv : FE} {pos : Pos}
/-- both are evaluated beside the new dict, then it stands -/
theorem dd_core {g : Dv → Dv → So → Rs Dv} {σ : L2.St} {H : Hp} {Q : VK} {ρ : Sl} {st : So} {w : Wd} {p : Addr} (sim : Sim X.K X.mg w st H) (er : EnvR X.K X.mg st.length w H ρ σ) (hp : H p = none)
    (gd : Good (RD X.K X.mg) X.K X.mg W σ st.length w H Q ((fk ρ st).bindN fun x st1 => (fv ρ st1).bindN fun y st2 => g x y st2))
    (fin : ∀ {x y : Dv} {vx vy : V} {st2 : So} {w2 : Wd} {H2 : Hp}, Stp st.length w H st2.length w2 (era H2 p) → Sim X.K X.mg w2 st2 (era H2 p) → RD X.K X.mg st2.length w2 (era H2 p) x vx → RD X.K X.mg st2.length w2 (era H2 p) y vy →
      Good (RD X.K X.mg) X.K X.mg W σ st2.length w2 (era H2 p) Q (g x y st2) → ∃ kk : Key, vx = kV kk ∧ Q (.ref p) (upd H2 p (.dK [(kk, vy)]))) :
    tPairs [(TF X.K X.mg W0 fk, TF X.K X.mg W0 fv)] σ (upd H p (.dK [])) fun ps H2 => H2 p = some (.dK []) ∧ ∃ kvs : List (Key × V), ps = kvs.map (fun kv => (kV kv.1, kv.2)) ∧ kvs.length ≤ 15 ∧ Q (.ref p) (upd H2 p (.dK (mergeK [] kvs))) := by
  obtain ⟨s2, sim2⟩ := sim.put (o := .dK []) hp
  have fD : ∀ {n' w' H'}, Stp st.length (w.aside p) (upd H p (.dK [])) n' w' H' → w'.F p ∧ H' p = some (.dK []) := fun {n' w' H'} g => ⟨g.frm.inc p (.inl rfl), g.frm.imm p _ (.inl rfl) upd_same⟩
  have hFF : ∀ {n' w' H'}, Stp st.length (w.aside p) (upd H p (.dK [])) n' w' H' → ∀ a, w.F a → w'.F a ∧ a ≠ p := fun {n' w' H'} g a ha => by
    obtain ⟨⟨z, hz⟩, _⟩ := sim.fr a ha
    exact ⟨g.frm.inc a (.inr ha), ne_of_none hz hp⟩
  show TF X.K X.mg W0 fk σ (upd H p (.dK [])) fun x H1 => TF X.K X.mg W0 fv σ H1 fun y H2 => H2 p = some (.dK []) ∧ ∃ kvs : List (Key × V), [(x, y)] = kvs.map (fun kv => (kV kv.1, kv.2)) ∧ kvs.length ≤ 15 ∧ Q (.ref p) (upd H2 p (.dK (mergeK [] kvs)))
  refine ⟨ρ, st, w.aside p, sim2, er.mono s2, ?_⟩
  cases ek : fk ρ st with
  | stuck => rw [ek] at gd; exact gd.elim
  | exc c fs st' => rw [ek] at gd; exact gd.elim
  | ok x st1 =>
    rw [ek] at gd
    intro w1 H1 vx s3 sim3 r3
    refine ⟨ρ, st1, w1, sim3, (er.mono s2).mono s3, ?_⟩
    have gd : Good (RD X.K X.mg) X.K X.mg W σ st.length w H Q ((fv ρ st1).bindN fun y st2 => g x y st2) := gd
    cases ev : fv ρ st1 with
    | stuck => rw [ev] at gd; exact gd.elim
    | exc c fs st' => rw [ev] at gd; exact gd.elim
    | ok y st2 =>
      rw [ev] at gd
      intro w2 H2 vy s4 sim4 r4
      have gd : Good (RD X.K X.mg) X.K X.mg W σ st.length w H Q (g x y st2) := gd
      have s34 := s3.trans s4
      obtain ⟨a1, a2, a3⟩ := sim4.drop (F := w.F) (fD s34).1 (hFF s34)
      have b2 := a2 (s2.trans s34) fun _ h => h
      obtain ⟨kk, ek2, q⟩ := fin b2 a1 ((r3.mono s4).noF.mono a3) (r4.noF.mono a3) (gd.later b2)
      exact ⟨(fD s34).2, [(kk, vy)], by rw [ek2]; rfl, show 1 ≤ 15 by decide, q⟩
theorem pf_dd1 (hk : PF X W0 k fk) (hv : PF X W0 v fv) : PF X W (.Dict [some k] [v] pos) (fDd1 fk fv) := PE_imp (pe_disp (pps_cons hk hv pps_nil) rfl rfl (by simp) (show 1 ≤ 15 by decide)) fun σ H Q h => by
  obtain ⟨ρ, st, w, sim, er, gd⟩ := h
  intro p hp
  refine dd_core (g := fun x y st2 => match keyD x, y with
    | some kk, .p d => .ok (.p (.dict [(keyP kk, d)])) st2
    | _, _ => .stuck) sim er hp gd fun {x y vx vy st2 w2 H2} s a r1 r2 g => ?_
  split at g
  · rename_i kk d ek
    refine ⟨kk, keyD_rd r1 ek, ?_⟩
    obtain ⟨s3, sim3⟩ := a.newP (o := .dK [(kk, vy)]) era_same
    rw [← upd_era]
    cases r2 with
    | p q => exact g _ _ _ s3 sim3 (.p (.dct (.inl rfl) upd_same (.cons (q.mono s3.gro) .nil)))
  · exact g.elim
theorem pf_dc1 (hk : PF X W0 k fk) (hv : PF X W0 v fv) : PF X W (.Dict [some k] [v] pos) (fDc1 fk fv) := PE_imp (pe_disp (pps_cons hk hv pps_nil) rfl rfl (by simp) (show 1 ≤ 15 by decide)) fun σ H Q h => by
  obtain ⟨ρ, st, w, sim, er, gd⟩ := h
  intro p hp
  refine dd_core (g := fun x y st2 => match keyD x with
    | some kk => .ok (.ref st2.length) (st2 ++ [.dK [(kk, y)]])
    | none => .stuck) sim er hp gd fun {x y vx vy st2 w2 H2} s a r1 r2 g => ?_
  split at g
  · rename_i kk ek
    refine ⟨kk, keyD_rd r1 ek, ?_⟩
    obtain ⟨s3, sim3⟩ := a.newC (o := .dK [(kk, vy)]) (c := .dK [(kk, y)]) era_same fun {n' w' H'} g e nI => ⟨[(kk, vy)], e, .cons ⟨rfl, r2.mono g⟩ .nil, nI⟩
    have hm : V.ref p = V.ref ((w2.cel st2.length p).m st2.length) := by
      show V.ref p = V.ref (if st2.length = st2.length then p else _)
      rw [if_pos rfl]
    rw [← upd_era, hm]
    refine g _ _ _ ?_ sim3 (.ref ?_)
    · rw [List.length_append, List.length_singleton]; exact s3
    · rw [List.length_append, List.length_singleton]; exact Nat.lt_succ_self _
  · exact g.elim
end
/-! ### a dict of two ints compared with itself -/
def gNeD : G2 := fun x y st => match x, y with
  | .ref i, .ref j => if i = j then match st[i]? with
    | some (.dK [(k1, .p (.int _)), (k2, .p (.int _))]) => if k1 = k2 then none else some (.p (.bool false))
    | _ => none else none
  | _, _ => none
theorem im_neD {X : Cx} : Im2 X rNeDA gNeD := fun st w H x y vx vy Q d sim rx ry h l => by
  unfold gNeD at h
  split at h
  · rename_i i j
    split at h
    · rename_i hij
      subst hij
      split at h
      · rename_i k1 a k2 b e
        split at h
        · cases h
        · rename_i hk
          cases h
          cases rx with
          | ref hi =>
            cases ry with
            | ref hi2 =>
              obtain ⟨kws, e1, pr, ni⟩ := sim.cell i _ e
              cases pr with
              | cons r1 t1 =>
                cases t1 with
                | cons r2 t2 =>
                  cases t2
                  obtain ⟨n1, q1⟩ := r1
                  obtain ⟨n2, q2⟩ := r2
                  rename_i p1 p2
                  obtain ⟨c1, v1⟩ := p1
                  obtain ⟨c2, v2⟩ := p2
                  dsimp only at n1 n2 q1 q2
                  subst n1 n2
                  obtain rfl := rd_int q1
                  obtain rfl := rd_int q2
                  refine ⟨_, _, _, _, rfl, rfl, e1, e1, rfl, fun p hp => ?_, l w H _ .refl sim (.p (.bl false))⟩
                  rcases List.mem_cons.mp hp with rfl | hp
                  · refine ⟨?_, rfl⟩
                    simp [valV]
                  · rw [List.mem_singleton.mp hp]
                    refine ⟨?_, rfl⟩
                    simp [valV, hk]
      · cases h
    · cases h
  · cases h
end FB
set_option Elab.async false
set_option linter.all false
set_option maxRecDepth 100000
set_option maxHeartbeats 4000000
/-! FXH: isinstance(ValueError(e), C). -/
namespace FB
open PySem PySem.Spec PyProof.Rows L2 RZ
def veT (a : Addr) : HO := .ext fun h => PySem.W.KitAt a "ValueError" h
theorem veT_ok {P : Program} {w : World} {H : Hp} {h : Heap} {a : Addr} (e : PySem.W.KitAt a "ValueError" h) : ObjOk P w H h a (veT a) :=
  ⟨e, let ⟨o, q, _⟩ := e; ⟨o, q⟩, fun _ _ ⟨o, e1, r⟩ k => ⟨o, k o e1, r⟩⟩
section
variable {X : Cx} {W : WX} {e : Expr} {te : TE} {fa : FE} {p p1 p2 p3 pos : Pos} {x : Str}
theorem pe_ve1 (hg : Gl X "ValueError") (hm : X.mg "ValueError" = none) (he : PE X e te) (hs : starEach [e] X.env = (false, eval e X.env) :: starEach [] X.env := by rfl) :
    PE X (.Call (.Name "ValueError" p1) [e] [] pos) (fun σ H Q => te σ H fun _ H1 => ∀ a, H1 a = none → Q (.ref a) (upd H1 a (veT a))) := by
  refine ⟨fun pins s σ H Q I h => ?_⟩
  refine wpAny_Call_Name_kw (ld_blt I hg hm boot_ValueError ?_ (by decide) (by decide))
  refine PyProof.Rows.callWith_type1 ?_ hs (by rfl)
  rw [hs]
  show wpAny _ _ (spliced ((false, eval e X.env) :: backTo pos (starEach [] X.env))) _ _ s
  refine Calls.spliced_cons (thn (he.run pins s σ H _ I h) fun u s1 ⟨v, H1, I1, r1, q1⟩ => ?_)
  refine Calls.spliced_nil ?_
  show wpAny _ _ (call (.type "ValueError") [u]) _ _ _
  obtain ⟨hp1, g1, d1, tk1, os1⟩ := s1
  refine wpAny_call_exc exb_ValueError.call (fun h' a hm => ?_) (by show 1 ≤ sizeLine; rw [sizeLine_eq]; omega)
  have hn : H1 a = none := I1.hok.gone hm.new
  obtain ⟨t, ht, _, _⟩ := hm.there
  exact ⟨.ref a, upd H1 a (veT a), I1.laidN (t' := tk1) hm.keeps hm.new hn (veT_ok ⟨_, ht, rfl⟩), rfl, q1 a hn⟩
def rIsVE (K : PySem.W.Frag) : List V → Hp → VK → Prop := fun xs H Q => ∃ (a : Addr) (c : V) (cv : Value) (b : Bool), xs = [.ref a, c] ∧ H a = some (veT a) ∧ (∀ u, RelV c u → u = cv) ∧ PySem.W.kitOne K (.type "ValueError") cv = some b ∧ Q (.bl b) H
theorem kitx_ve {K : PySem.W.Frag} {a : Addr} : PySem.W.KitX K (.ref a) (.type "ValueError") (PySem.W.KitAt a "ValueError") := PySem.W.kitx_of PySem.W.kitAt_ty (fun {_ _ _ _ _ s} p k => by
  obtain ⟨h, g, d, t, os⟩ := s
  obtain ⟨o, h1, h2⟩ := p
  exact class_attr_exc PySem.F.excAttr_ValueError PySem.F.lkClass_ValueError PySem.F.soClass_ValueError (by decide +kernel) h1 h2 k)
theorem call_isVE : CallR X (.builtin "isinstance") (rIsVE X.K) := by
  intro pins s σ H xs us Q I r h
  obtain ⟨a, c, cv, b, rfl, ha, hcv, e, q⟩ := h
  cases r with
  | cons rx rr =>
    cases rr with
    | cons rt rr =>
      cases rr
      cases rx
      have ec := hcv _ rt
      subst ec
      have hk : PySem.W.KitAt a "ValueError" s.heap := (show ObjOk X.prog X.w H s.heap a (veT a) from I.hok a _ ha).1
      exact PySem.W.kia_one kitx_ve I.kIn hk e (fun z => nomatch z) fun tk => ⟨.bl b, H, I.kept (t' := tk) fun _ _ z => z, rfl, q⟩
def fIsVE (b : Bool) (fa : FE) : FE := fun ρ st => (fa ρ st).bind fun _ st1 => .ok (.p (.bool b)) st1
theorem pf_isVE {Cx' : Addr} {b : Bool} (hm : X.mg "isinstance" = none) (hv : X.mg "ValueError" = none) (hx : X.mg x = some (.ref Cx')) (hk : PySem.W.kitOne X.K (.type "ValueError") (.ref Cx') = some b) (h : PF X W e fa)
    (hg : Gl X "isinstance" := by rfl) (hgv : Gl X "ValueError" := by rfl) (hgx : Gl X x := by rfl) (hdx : (x == ("__debug__" : Str)) = false := by decide)
    (hs : starEach [e] X.env = (false, eval e X.env) :: starEach [] X.env := by rfl)
    (he : starEach [.Call (.Name "ValueError" p1) [e] [] p2, .Name x p3] X.env = (false, eval (.Call (.Name "ValueError" p1) [e] [] p2) X.env) :: starEach [.Name x p3] X.env := by rfl) (he2 : starEach [.Name x p3] X.env = (false, eval (.Name x p3) X.env) :: starEach [] X.env := by rfl) (hpl : (backTo pos (starEach [.Name x p3] X.env)).any (·.1) = false := by rfl) :
    PF X W (.Call (.Name "isinstance" p) [.Call (.Name "ValueError" p1) [e] [] p2, .Name x p3] [] pos) (fIsVE b fa) :=
  PE_imp (pe_callB call_isVE hg hm (by decide +kernel) (pa_cons (pe_ve1 hgv hv h hs) (pa_cons (pe_glob (v := .ref Cx') hgx hx rfl hdx) pa_nil he2) he) (by decide) (by decide) he hpl) fun σ H Q q => by
    obtain ⟨ρ, st, w, sim, er, gd⟩ := q
    refine ⟨ρ, st, w, sim, er, Good.imp (fun v H1 q => ?_) (Good.bind gd)⟩
    obtain ⟨st1, w1, d, sim1, s1, r1, gd1⟩ := q
    intro a ha
    obtain ⟨s2, sim2⟩ := sim1.newP (o := veT a) ha
    exact ⟨a, .ref Cx', .ref Cx', b, rfl, upd_same, fun u r => r, hk, gd1 _ _ _ s2 sim2 (.p (.bl b))⟩
end
end FB
set_option Elab.async false
set_option linter.all false
set_option maxRecDepth 100000
set_option maxHeartbeats 4000000
/-! FXI: d[k] = v of a dict that changes, keys ints and texts. -/
namespace FB
open PySem PySem.Spec PyProof.Rows L2 RZ
def sSetK (fv fo fk : FE) : FS := fun ρ st => (fv ρ st).st ρ fun d st1 => ((fo ρ st1).bind fun x st2 => (fk ρ st2).bind fun y st3 => match dictOf x st3, keyD y with
  | some (i, kvs), some k => if kvs.length ≤ 100000 then .ok () (st3.set i (.dK (putD kvs k d))) else .stuck
  | _, _ => .stuck).st ρ fun _ st2 => .nx ρ st2
section
variable {X : Cx} {W : WX} {e o : Expr} {fv fo : FE} {pos : Pos}
theorem pfs_setK {i : Expr} {fi : FE} {pos' : Pos} (hu : X.A.units + 1 < cLine) (hv : PF X W e fv) (ho : PF X W o fo) (hi : PF X W i fi) (hs : swapsWith e (some (.Subscript o i pos')) pos.line X.env = pure false := by rfl) :
    PFS X W (.Assign [.Subscript o i pos'] e pos) (sSetK fv fo fi) := PS_imp (ps_dput hu ho hi hv hs) fun D σ H q => by
  obtain ⟨ρ, st, w, sim, er, gd⟩ := q
  refine ⟨ρ, st, w, sim, er, Good.imp (fun v H1 q => ?_) (good_st er gd)⟩
  obtain ⟨st1, w1, d, sim1, s1, r1, er1, gd1⟩ := q
  refine ⟨ρ, st1, w1, sim1, er1, ?_⟩
  have gd2 := gd1
  clear gd1 gd
  cases e1 : fo ρ st1 with
  | stuck => rw [e1] at gd2; exact gd2.elim
  | exc c fs st' => rw [e1] at gd2; exact fun w2 H2 cv dd s2 sim2 ex => gd2 w2 H2 σ cv dd s2 sim2 (er1.mono s2) ex
  | ok x st2 =>
    rw [e1] at gd2
    intro w2 H2 vx s2 sim2 rx
    refine ⟨ρ, st2, w2, sim2, er1.mono s2, ?_⟩
    have gd3 : GoodS X.K X.mg W st1.length w1 H1 D (((fi ρ st2).bind fun y st3 => match dictOf x st3, keyD y with
      | some (i, kvs), some k => if kvs.length ≤ 100000 then Rs.ok () (st3.set i (.dK (putD kvs k d))) else .stuck
      | _, _ => .stuck).st ρ fun _ st2 => .nx ρ st2) := gd2
    cases e2 : fi ρ st2 with
    | stuck => rw [e2] at gd3; exact gd3.elim
    | exc c fs st' => rw [e2] at gd3; exact fun w3 H3 cv dd s3 sim3 ex => gd3 w3 H3 σ cv dd (s2.trans s3) sim3 ((er1.mono s2).mono s3) ex
    | ok y st3 =>
      rw [e2] at gd3
      intro w3 H3 vy s3 sim3 ry
      have gd4 : GoodS X.K X.mg W st1.length w1 H1 D (Rs.st (match dictOf x st3, keyD y with
      | some (i, kvs), some k => if kvs.length ≤ 100000 then Rs.ok () (st3.set i (.dK (putD kvs k d))) else .stuck
      | _, _ => .stuck) ρ fun _ st2 => .nx ρ st2) := gd3
      split at gd4
      · rename_i j kvs k ec ek
        split at gd4
        · rename_i hl
          obtain ⟨kws, e5, e6, r5, lv, _⟩ := dict_rd sim3 (rx.mono s3) ec
          have ev := keyD_rd ry ek
          subst ev
          obtain ⟨s4, sim4⟩ := dcell_wr sim3 lv (pkv_put (k := k) r5 ((r1.mono s2).mono s3))
          refine ⟨_, _, e5, DPut.k e6 ?_, ?_⟩
          · rw [← pkv_len r5, sizeLine_eq]; omega
          · exact gd4 _ _ σ ((s2.trans s3).trans s4) sim4 (((er1.mono s2).mono s3).mono s4)
        · exact gd4.elim
      · exact gd4.elim
end
end FB
set_option Elab.async false
set_option linter.all false
set_option maxRecDepth 100000
set_option maxHeartbeats 4000000
/-! FBG: tuples among the module's constants; list(a dict); sorted. -/
namespace FB
open PySem PySem.Spec PyProof.Rows L2 RZ
/-! ### a module's tuple of texts -/
section
variable {X : Cx} {W : WX} {K : PySem.W.Frag} {I : Addr → Prop} {H : Hp}
theorem rps_str : ∀ ws : List Str, RPs K I H (ws.map PyData.str) (ws.map V.str)
  | [] => .nil
  | x :: r => .cons (.str x) (rps_str r)
theorem pf_gtup {x : Str} {ws : List Str} {pos : Pos} (h : ∃ a, X.mg x = some (.ref a) ∧ KTup X.K a (ws.map V.str)) (hg : Gl X x := by rfl) (hd : (x == ("__debug__" : Str)) = false := by decide) : PF X W (.Name x pos) (fC (.tuple (ws.map PyData.str))) := by
  obtain ⟨a, hm, hk⟩ := h
  exact pf_glob (v := .ref a) hg hm rfl (fun _ _ => .tup (.inr hk) (rps_str ws)) hd
def ktupB (x : Str) (ws : List Str) (K : PySem.W.Frag) : Bool := match K.lookup (He.ga K x) with
  | some ⟨.type c, none, .seq its _, _⟩ => decide (c = "tuple") && (decide (its.size ≤ sizeLine) && He.relAll (ws.map V.str) its.toList)
  | _ => false
theorem ktupB_ok {x : Str} {ws : List Str} (h : ktupB x ws K = true) : KTup K (He.ga K x) (ws.map V.str) := by
  unfold ktupB at h
  cases q : K.lookup (He.ga K x) with
  | none =>
    rw [q] at h
    cases h
  | some o =>
    obtain ⟨oc, od, dt, osl⟩ := o
    rw [q] at h
    cases oc with
    | type c =>
      cases od with
      | none =>
        cases dt with
        | seq its n =>
          have h' : (decide (c = "tuple") && (decide (its.size ≤ sizeLine) && He.relAll (ws.map V.str) its.toList)) = true := h
          rw [Bool.and_eq_true, Bool.and_eq_true] at h'
          exact ⟨_, its, n, q, congrArg Value.type (of_decide_eq_true h'.1), rfl, of_decide_eq_true h'.2.1, He.relAll_ok h'.2.2, rfl⟩
        | _ => cases h
      | some a => cases dt <;> cases h
    | _ => cases od <;> cases dt <;> cases h
/-! ### list(d) -/
variable {e : Expr} {fa : FE} {p pos : Pos}
def fListK (fa : FE) : FA := fun ρ st => (fa ρ st).bind fun d st1 => match dictOf d st1 with
  | some (_, kvs) => if kvs.length ≤ 100000 then .ok (kvs.map fun kv => .p (keyP kv.1)) st1 else .stuck
  | none => .stuck
theorem rp_key {I : Addr → Prop} : ∀ k : Key, RP K I H (keyP k) (kV k)
  | .inl i => .int i
  | .inr x => .str x
theorem rds_keysK {mg : Str → Option Value} {n : Nat} {w : Wd} : ∀ {kvs : List (Key × Dv)} {kws : List (Key × V)}, PKV K mg n w H kvs kws → RDs K mg n w H (kvs.map fun kv => .p (keyP kv.1)) (kws.map fun kv => kV kv.1)
  | _, _, .nil => .nil
  | _, _, .cons h t => by
    rw [List.map_cons, List.map_cons, h.1]
    exact .cons (.p (rp_key _)) (rds_keysK t)
theorem pfl_listK (hc : X.calm = true) (hm : X.mg "list" = none) (h : PF X W e fa) (hg : Gl X "list" := by rfl) (he : starEach [e] X.env = (false, eval e X.env) :: starEach [] X.env := by rfl) (hpl : (backTo pos (starEach [] X.env)).any (·.1) = false := by rfl) :
    PFL X W (.Call (.Name "list" p) [e] [] pos) (fListK fa) := PE_imp (pe_callTy (call_listD hc) hg hm (by decide +kernel) (pa_cons h pa_nil he) (by decide) (by decide) he hpl) fun σ H Q q => by
  obtain ⟨ρ, st, w, sim, er, gd⟩ := q
  refine ⟨ρ, st, w, sim, er, Good.imp (fun v H1 q => ?_) (Good.bind gd)⟩
  obtain ⟨st1, w1, d, sim1, s1, r1, gd1⟩ := q
  split at gd1
  · rename_i i kvs e
    split at gd1
    · rename_i hl
      obtain ⟨kws, rfl, e1, r2, lv, _⟩ := dict_rd sim1 r1 e
      refine ⟨_, kws, rfl, .inl e1, fun q hq => ?_⟩
      have rk := rds_keysK r2
      refine gd1 w1 H1 _ .refl sim1 rk q hq ?_
      rw [← rk.length, List.length_map, sizeLine_eq]; omega
    · exact gd1.elim
  · exact gd1.elim
end
/-! ### sorted(texts) -/
def strLe (a b : Str) : Bool := !ltCps b.cps.toList a.cps.toList
def insS (x : Str) : List Str → List Str
  | [] => [x]
  | y :: r => if strLe x y then x :: y :: r else y :: insS x r
def srtS : List Str → List Str
  | [] => []
  | x :: r => insS x (srtS r)
theorem ltCps_lt (a b : List Nat) : ltCps a b = decide (a < b) := by
  first
    | rfl
    | (unfold ltCps; rfl)
    | (induction a generalizing b with
      | nil => cases b <;> simp [ltCps]
      | cons x a ih => cases b with
        | nil => simp [ltCps]
        | cons y b =>
          have e : ltCps (x :: a) (y :: b) = (decide (x < y) || x == y && ltCps a b) := by first | rfl | simp [ltCps]
          rw [e, ih, Bool.eq_iff_iff, decide_eq_true_eq, List.cons_lt_cons_iff]
          simp)
theorem strLe_iff {a b : Str} : strLe a b = true ↔ ¬ b.cps.toList < a.cps.toList := by
  unfold strLe
  rw [ltCps_lt]
  simp
theorem strLe_total (a b : Str) : strLe a b = true ∨ strLe b a = true := by
  rw [strLe_iff, strLe_iff]
  by_cases h : b.cps.toList < a.cps.toList
  · exact .inr (List.lt_asymm h)
  · exact .inl h
theorem strLe_trans {a b c : Str} (h1 : strLe a b = true) (h2 : strLe b c = true) : strLe a c = true := by
  rw [strLe_iff] at h1 h2 ⊢
  exact List.le_trans (α := Nat) (l₁ := a.cps.toList) (l₂ := b.cps.toList) (l₃ := c.cps.toList) h1 h2
theorem strLe_anti {a b : Str} (h1 : strLe a b = true) (h2 : strLe b a = true) : a = b := by
  rw [strLe_iff] at h1 h2
  have e : a.cps.toList = b.cps.toList := List.le_antisymm (α := Nat) h1 h2
  cases a with
  | mk x =>
    cases b with
    | mk y =>
      have : x = y := Array.toList_inj.mp e
      rw [this]
theorem insS_perm (x : Str) : ∀ l, (insS x l).Perm (x :: l)
  | [] => .refl _
  | y :: r => by
    unfold insS
    split
    · exact .refl _
    · exact ((insS_perm x r).cons y).trans (.swap x y r)
theorem srtS_perm : ∀ l, (srtS l).Perm l
  | [] => .refl _
  | x :: r => (insS_perm x (srtS r)).trans ((srtS_perm r).cons x)
abbrev SrS (l : List Str) : Prop := l.Pairwise fun a b => strLe a b = true
theorem insS_srt {x : Str} : ∀ {l : List Str}, SrS l → SrS (insS x l)
  | [], _ => List.pairwise_singleton _ _
  | y :: r, h => by
    obtain ⟨h1, h2⟩ := List.pairwise_cons.mp h
    unfold insS
    split
    · rename_i hx
      refine List.pairwise_cons.mpr ⟨fun z hz => ?_, h⟩
      rcases List.mem_cons.mp hz with e | hz
      · exact e ▸ hx
      · exact strLe_trans hx (h1 z hz)
    · rename_i hx
      refine List.pairwise_cons.mpr ⟨fun z hz => ?_, insS_srt h2⟩
      rcases List.mem_cons.mp ((insS_perm x r).mem_iff.mp hz) with e | hz
      · rw [e]
        exact (strLe_total x y).resolve_left hx
      · exact h1 z hz
theorem srtS_srt : ∀ l, SrS (srtS l)
  | [] => List.Pairwise.nil
  | x :: r => insS_srt (srtS_srt r)
theorem rising_srt : ∀ (p : Str) (l : List Str), risingS p l = true → (∀ x ∈ l, strLe p x = true) ∧ SrS l
  | p, [], _ => ⟨fun _ h => (by cases h), List.Pairwise.nil⟩
  | p, x :: r, h => by
    have h' : (!ltCps x.cps.toList p.cps.toList && risingS x r) = true := h
    rw [Bool.and_eq_true] at h'
    obtain ⟨h1, h2⟩ := rising_srt x r h'.2
    have hp : strLe p x = true := h'.1
    exact ⟨fun z hz => (List.mem_cons.mp hz).elim (fun e => e ▸ hp) fun hz => strLe_trans hp (h1 z hz), List.pairwise_cons.mpr ⟨h1, h2⟩⟩
theorem sortedS_srt {l : List Str} (h : sortedS l = true) : SrS l := by
  cases l with
  | nil => exact List.Pairwise.nil
  | cons x r =>
    obtain ⟨h1, h2⟩ := rising_srt x r h
    exact List.pairwise_cons.mpr ⟨h1, h2⟩
theorem srtS_uniq {ys xs : List Str} (p : ys.Perm xs) (h : sortedS ys = true) : ys = srtS xs :=
  (p.trans (srtS_perm xs).symm).eq_of_pairwise (le := fun a b => strLe a b = true) (fun _ _ _ _ h1 h2 => strLe_anti h1 h2) (sortedS_srt h) (srtS_srt xs)
section
variable {X : Cx} {W : WX} {e : Expr} {fa : FE} {p pos : Pos}
def fSortS (fa : FE) : FA := fun ρ st => (fa ρ st).bind fun d st1 => match lstOf d st1 with
  | some ds => match txts ds with
    | some xs => if xs.length < 64 then .ok ((srtS xs).map fun x => .p (.str x)) st1 else .stuck
    | none => .stuck
  | none => .stuck
theorem rds_strs {K : PySem.W.Frag} {mg : Str → Option Value} {n : Nat} {w : Wd} {H : Hp} : ∀ xs : List Str, RDs K mg n w H (xs.map fun x => Dv.p (.str x)) (xs.map V.str)
  | [] => .nil
  | x :: r => .cons (.p (.str x)) (rds_strs r)
theorem pfl_sortS (hm : X.mg "sorted" = none) (h : PF X W e fa) (hg : Gl X "sorted" := by rfl) (he : starEach [e] X.env = (false, eval e X.env) :: starEach [] X.env := by rfl) (hpl : (backTo pos (starEach [] X.env)).any (·.1) = false := by rfl) :
    PFL X W (.Call (.Name "sorted" p) [e] [] pos) (fSortS fa) := PE_imp (pe_callB cr_sortedS hg hm (by decide +kernel) (pa_cons h pa_nil he) (by decide) (by decide) he hpl) fun σ H Q q => by
  obtain ⟨ρ, st, w, sim, er, gd⟩ := q
  refine ⟨ρ, st, w, sim, er, Good.imp (fun v H1 q => ?_) (Good.bind gd)⟩
  obtain ⟨st1, w1, d, sim1, s1, r1, gd1⟩ := q
  split at gd1
  · rename_i ds e1
    split at gd1
    · rename_i xs e2
      split at gd1
      · rename_i hl
        obtain ⟨a, us, rfl, r2, hs⟩ := lst_rd sim1 r1 e1
        obtain rfl := txts_rd r2 e2
        refine ⟨a, xs, rfl, .of hs, hl, fun ys q py hy hq => ?_⟩
        obtain rfl := srtS_uniq py hy
        refine gd1 w1 H1 _ .refl sim1 (rds_strs _) q hq ?_
        rw [List.length_map, (srtS_perm xs).length_eq, sizeLine_eq]; omega
      · exact gd1.elim
    · exact gd1.elim
  · exact gd1.elim
end
/-! ### sorted(triples of an int and two texts, the ints different) -/
section
variable {prog : Program} {w : World} {A : Around} {E : Value → Shared → Prop} {s : Shared}
open SrtO
def IsTrip (h : Heap) (v : Value) (x : Int) (y z : Str) : Prop := ∃ a o t u u' n, v = .ref a ∧ h.get? a = some o ∧ o.cls = .type "tuple" ∧ o.data = .seq #[.int x t, .str y u, .str z u'] n
theorem IsTrip.keeps {h h' : Heap} {v : Value} {x : Int} {y z : Str} (p : IsTrip h v x y z) (k : ∀ b o, h.get? b = some o → o.cls = .type "tuple" → h'.get? b = some o) : IsTrip h' v x y z := by
  obtain ⟨a, o, t, u, u', n, e, ho, hc, hd⟩ := p
  exact ⟨a, o, t, u, u', n, e, k _ _ ho hc, hc, hd⟩
theorem swo_int (k : Value → Int) : Swo fun v u => decide (k v < k u) := by
  refine ⟨fun x y h => ?_, fun x y z h1 h2 => ?_⟩
  · have a := of_decide_eq_true h
    exact decide_eq_false (by omega)
  · have a := of_decide_eq_false h1
    have b := of_decide_eq_false h2
    exact decide_eq_false (by omega)
theorem trip_cmp {vs : List Value} {k : Value → Int} (hp : ∀ v ∈ vs, ∃ y z, IsTrip s.heap v (k v) y z) (hi : ∀ v ∈ vs, ∀ u ∈ vs, k v = k u → v = u) : Cmp prog w A s (tuples' true) (fun p => p.1 ∈ vs) (lt2 fun v u => decide (k v < k u)) := by
  intro p q hm hm'
  have hinj := hi _ hm _ hm'
  obtain ⟨y, z, h1⟩ := hp _ hm
  obtain ⟨y', z', h2⟩ := hp _ hm'
  show wpAny (model prog w) A (keyLt' (tuples' true) p.1 q.1) (fun r s' => s' = s ∧ r = decide (k p.1 < k q.1)) (fun _ _ => False) s
  by_cases ek : k p.1 = k q.1
  · have epq := hinj ek
    rw [← epq] at h2 ⊢
    clear h2
    generalize k p.1 = x at h1 ⊢
    obtain ⟨a, o, t, u, u', n, e, ho, hc, hd⟩ := h1
    rw [e]
    refine PySem.W.kat_lt ho hd ho hd ?_
    show PySem.W.KatLex prog w A true (decide (3 < 3)) _ [(.int x t, .int x t), (.str y u, .str y u), (.str z u', .str z u')] 0 s
    refine PySem.W.kat_cons (SeqAt.EqAt.int_int x t x t prog w _ _ ?_)
    refine PySem.W.kat_go (fun _ => ?_) (fun e1 => absurd e1 (by simp))
    refine PySem.W.kat_yes (PySem.W.kat_cons (SeqAt.EqAt.str_str y u y u prog w _ _ ?_))
    refine PySem.W.kat_go (fun _ => ?_) (fun e1 => absurd e1 (by simp))
    refine PySem.W.kat_yes (PySem.W.kat_cons (SeqAt.EqAt.str_str z u' z u' prog w _ _ ?_))
    refine PySem.W.kat_go (fun _ => ?_) (fun e1 => absurd e1 (by simp))
    exact PySem.W.kat_yes (PySem.W.kat_nil ⟨rfl, (decide_eq_false (Int.lt_irrefl x)).symm⟩)
  · generalize k p.1 = x at h1 ek ⊢
    generalize k q.1 = x' at h2 ek ⊢
    obtain ⟨a, o, t, u, v, n, e, ho, hc, hd⟩ := h1
    obtain ⟨a', o', t', u', v', n', e', ho', hc', hd'⟩ := h2
    rw [e, e']
    refine PySem.W.kat_lt ho hd ho' hd' ?_
    show PySem.W.KatLex prog w A true (decide (3 < 3)) _ [(.int x t, .int x' t'), (.str y u, .str y' u'), (.str z v, .str z' v')] 0 s
    refine PySem.W.kat_cons (SeqAt.EqAt.int_int x t x' t' prog w _ _ ?_)
    refine PySem.W.kat_go (fun e1 => absurd (by simpa using e1) ek) (fun _ => ?_)
    exact PySem.W.kat_no (oneLt_int ⟨rfl, rfl⟩)
theorem firsts_trip {h : Heap} : ∀ {vs : List Value}, (∀ v ∈ vs, ∃ x y z, IsTrip h v x y z) → ∃ fs : List Value, PySem.W.KatTups h vs fs ∧ fs.length = vs.length ∧ ∀ f ∈ fs, ∃ x t, f = Value.int x t
  | [], _ => ⟨[], PySem.W.KatTups.nil, rfl, fun _ hm => by simp at hm⟩
  | v :: vs, hp => by
    obtain ⟨fs, h1, h2, h3⟩ := firsts_trip (vs := vs) fun v' hm => hp v' (List.mem_cons_of_mem _ hm)
    obtain ⟨x, y, z, a, o, t, u, u', n, e, ho, hc, hd⟩ := hp v (List.mem_cons_self ..)
    subst e
    refine ⟨.int x t :: fs, PySem.W.KatTups.cons ho hc hd rfl h1, by rw [List.length_cons, List.length_cons, h2], fun f hm => ?_⟩
    rcases List.mem_cons.mp hm with rfl | hm
    · exact ⟨x, t, rfl⟩
    · exact h3 f hm
theorem trips_sortableO {a : Addr} {vs : List Value} {k : Value → Int} (h0 : 0 < vs.length) (hp : ∀ v ∈ vs, ∃ y z, IsTrip s.heap v (k v) y z) (hi : ∀ v ∈ vs, ∀ u ∈ vs, k v = k u → v = u) (ha : ∀ o, s.heap.get? a = some o → o.cls ≠ .type "tuple") : SortableO prog w A s a vs fun v u => decide (k v < k u) := by
  intro h' keep
  have hp' : ∀ v ∈ vs, ∃ y z, IsTrip h' v (k v) y z := fun v hm => by
    obtain ⟨y, z, p⟩ := hp v hm
    exact ⟨y, z, p.keeps fun b o e c => keep b o (fun z => by subst z; exact ha o e c) e⟩
  obtain ⟨fs, h1, h2, h3⟩ := firsts_trip fun v hm => ⟨_, hp' v hm⟩
  refine ⟨tuples' true, fun Q E hq => ?_, trip_cmp hp' hi⟩
  refine PySem.W.kat_kind (T := .type "int") h1 (by omega) (fun f hm => ?_) (by rfl) ?_
  · obtain ⟨x, t, rfl⟩ := h3 f hm
    exact PySem.W.Looks.now
  · have e : (Value.type "int" != Value.type "tuple") = true := by first | decide +kernel | rfl | decide
    rw [e]
    exact hq
theorem sorted_tripsO {l : Addr} {vs : List Value} {k : Value → Int} {Q : Value → Shared → Prop} (hl : s.heap.IsList l vs.toArray) (hz : vs.length ≤ sizeLine) (hp : ∀ v ∈ vs, ∃ y z, IsTrip s.heap v (k v) y z) (hi : ∀ v ∈ vs, ∀ u ∈ vs, k v = k u → v = u)
    (h : ∀ (h' : Heap) (d : Addr) (out : List Value), Srtd (fun v u => decide (k v < k u)) out → Stb (fun v u => decide (k v < k u)) out vs → (∀ b o, s.heap.get? b = some o → h'.get? b = some o) → s.heap.objs.size ≤ d → (∃ n, h'.get? d = some (seqObj "list" out.toArray n)) → Q (.ref d) { s with heap := h' }) :
    wpAny (model prog w) A (call (.builtin "sorted") [.ref l]) Q E s := by
  refine sorted_ord (swo_int k) hl hz (fun h2 h₁ a ha kk => ?_) fun out hs hb => ?_
  · refine trips_sortableO (s := { s with heap := h₁ }) (by omega) (fun v hm => ?_) hi fun o e => ?_
    · obtain ⟨y, z, p⟩ := hp v hm
      exact ⟨y, z, p.keeps fun b o e _ => (kk b o e).2⟩
    · have e' : some o = some (seqObj "list" vs.toArray 0) := e.symm.trans ha
      cases e'
      intro c
      exact absurd (Value.type.inj c) (by decide)
  · exact h _ _ out hs hb (fun b o e => sortedAll_old e) (Nat.le_succ _) (sortedAll_at s.heap vs out.toArray)
end
abbrev ltI (k : V → Int) (x y : V) : Bool := decide (k x < k y)
theorem ltI_swo (k : V → Int) : SrtO.Swo (ltI k) := by
  refine ⟨fun x y h => ?_, fun x y z h1 h2 => ?_⟩
  · have a := of_decide_eq_true h
    exact decide_eq_false (by omega)
  · have a := of_decide_eq_false h1
    have b := of_decide_eq_false h2
    exact decide_eq_false (by omega)
def rSortedH (K : PySem.W.Frag) : List V → Hp → VK → Prop := fun vs H Q => ∃ (a : Addr) (xs : List V) (k : V → Int), vs = [V.ref a] ∧ SqL K H a xs ∧ (∀ x ∈ xs, ∃ t y z, x = V.ref t ∧ SqT K H t [.int (k x), .str y, .str z]) ∧ (∀ x ∈ xs, ∀ y ∈ xs, k x = k y → x = y) ∧
  ∀ ys p, SrtO.Srtd (ltI k) ys → SrtO.Stb (ltI k) ys xs → H p = none → Q (.ref p) (upd H p (.lst ys))
theorem cr_sortedH {X : Cx} : CallR X (.builtin "sorted") (rSortedH X.K) := by
  intro pins s σ H vs us Q I r h
  obtain ⟨a, xs, k, rfl, hs, hx, hi, q⟩ := h
  obtain ⟨its, rv, hl, hz⟩ := I.list hs
  obtain ⟨u, rfl, ru⟩ := vals1 r
  obtain rfl : u = Value.ref a := ru
  obtain ⟨e1, e2⟩ := refs_back rv fun x m => by
    obtain ⟨t, _, _, e, _⟩ := hx x m
    exact ⟨t, e⟩
  have mem : ∀ v ∈ its, backV v ∈ xs := fun v hv => by rw [e1]; exact List.mem_map.mpr ⟨v, hv, rfl⟩
  refine sorted_tripsO (k := fun u => k (backV u)) hl.isList (by rw [← rv.length]; exact hz) (fun v hv => ?_) (fun v hv u hu e => ?_) fun h' d out h1 h2 kp hd hn => ?_
  · obtain ⟨t, rfl⟩ := e2 v hv
    have hm := mem _ hv
    obtain ⟨t', y, z, e, ht⟩ := hx _ hm
    cases (show V.ref t = V.ref t' from e)
    obtain ⟨its2, r2, ⟨o, ho, hc, n, hd⟩, _⟩ := I.tuple ht
    cases r2 with
    | cons q1 r2 =>
    cases r2 with
    | cons q2 r2 =>
    cases r2 with
    | cons q3 r2 =>
    cases r2
    obtain ⟨t1, rfl⟩ := q1
    obtain ⟨t2, rfl⟩ := q2
    obtain ⟨t3, rfl⟩ := q3
    exact ⟨y, z, t, o, t1, t2, t3, n, rfl, ho, hc, hd⟩
  · obtain ⟨t, rfl⟩ := e2 v hv
    obtain ⟨t', rfl⟩ := e2 u hu
    have := hi _ (mem _ hv) _ (mem _ hu) e
    cases (show V.ref t = V.ref t' from this)
    rfl
  · have h3 : ∀ u ∈ out, ∃ a, u = Value.ref a := fun u hu => e2 u (h2.perm.mem_iff.mp hu)
    obtain ⟨n, hn⟩ := hn
    have hb : SrtO.Stb (ltI k) (out.map backV) xs := by
      rw [e1]
      exact SrtO.Stb.map (ltI_swo k) backV h2
    refine ⟨.ref d, upd H d (.lst (out.map backV)), I.laid (t' := s.toks) kp hd ⟨?_, out, n, vals_back h3, hn⟩, rfl, q _ d (SrtO.srtd_map h1) hb (I.hok.fresh hd)⟩
    rw [hb.len]
    exact hz

/-! a list sorted by numbers that stand beside it -/
section
variable {α β : Type}
def insP (p : α × Int) : List (α × Int) → List (α × Int)
  | [] => [p]
  | q :: r => if p.2 ≤ q.2 then p :: q :: r else q :: insP p r
def srtP : List (α × Int) → List (α × Int)
  | [] => []
  | p :: r => insP p (srtP r)
theorem insP_perm (p : α × Int) : ∀ l, (insP p l).Perm (p :: l)
  | [] => .refl _
  | q :: r => by
    unfold insP
    split
    · exact .refl _
    · exact ((insP_perm p r).cons q).trans (.swap p q r)
theorem srtP_perm : ∀ l : List (α × Int), (srtP l).Perm l
  | [] => .refl _
  | p :: r => (insP_perm p (srtP r)).trans ((srtP_perm r).cons p)
abbrev SrP (l : List (α × Int)) : Prop := l.Pairwise fun a b => a.2 ≤ b.2
theorem insP_srt {p : α × Int} : ∀ {l : List (α × Int)}, SrP l → SrP (insP p l)
  | [], _ => List.pairwise_singleton _ _
  | q :: r, h => by
    obtain ⟨h1, h2⟩ := List.pairwise_cons.mp h
    unfold insP
    split
    · rename_i hx
      refine List.pairwise_cons.mpr ⟨fun z hz => ?_, h⟩
      rcases List.mem_cons.mp hz with e | hz
      · exact e ▸ hx
      · exact Int.le_trans hx (h1 z hz)
    · rename_i hx
      refine List.pairwise_cons.mpr ⟨fun z hz => ?_, insP_srt h2⟩
      rcases List.mem_cons.mp ((insP_perm p r).mem_iff.mp hz) with e | hz
      · rw [e]
        omega
      · exact h1 z hz
theorem srtP_srt : ∀ l : List (α × Int), SrP (srtP l)
  | [] => List.Pairwise.nil
  | p :: r => insP_srt (srtP_srt r)
end
def hdInt (h : Heap) : V → Int
  | .ref t => match h.get? t with
    | some ⟨_, _, .seq its _, _⟩ => match its.toList with
      | .int i _ :: _ => i
      | _ => 0
    | _ => 0
  | _ => 0
def rSortedZ (K : PySem.W.Frag) : List V → Hp → VK → Prop := fun vs H Q => ∃ (a : Addr) (xs : List V) (ks : List Int), vs = [V.ref a] ∧ SqL K H a xs ∧ Paired (fun x i => ∃ t y z, x = V.ref t ∧ SqT K H t [.int i, .str y, .str z]) xs ks ∧ ks.Nodup ∧
  ∀ p, H p = none → Q (.ref p) (upd H p (.lst ((srtP (xs.zip ks)).map (·.1))))
theorem zip_fst {α β : Type} {F : α → β → Prop} : ∀ {xs : List α} {ks : List β}, Paired F xs ks → (xs.zip ks).map (·.1) = xs
  | _, _, .nil => rfl
  | _, _, .cons _ t => by rw [List.zip_cons_cons, List.map_cons, zip_fst t]
theorem cr_sortedZ {X : Cx} : CallR X (.builtin "sorted") (rSortedZ X.K) := by
  intro pins s σ H vs us Q I r h
  obtain ⟨a, xs, ks, rfl, hs, hp, hn, q⟩ := h
  have key : ∀ {xs : List V} {ks : List Int}, Paired (fun x i => ∃ t y z, x = V.ref t ∧ SqT X.K H t [.int i, .str y, .str z]) xs ks → xs.map (hdInt s.heap) = ks ∧ (∀ x ∈ xs, ∃ t y z, x = V.ref t ∧ SqT X.K H t [.int (hdInt s.heap x), .str y, .str z]) ∧ ∀ p ∈ xs.zip ks, p.2 = hdInt s.heap p.1 := by
    intro xs ks hp
    induction hp with
    | nil => exact ⟨rfl, fun _ h => (by cases h), fun _ h => (by cases h)⟩
    | @cons x i xs ks h t ih =>
      obtain ⟨t0, y, z, rfl, ht⟩ := h
      have e : hdInt s.heap (V.ref t0) = i := by
        obtain ⟨its2, r2, ⟨o, ho, hc, n, hd⟩, _⟩ := I.tuple ht
        cases r2 with
        | cons q1 r2 =>
        obtain ⟨t1, rfl⟩ := q1
        obtain ⟨oc, od, oda, osl⟩ := o
        dsimp only at hd
        subst hd
        unfold hdInt
        dsimp only
        rw [ho]
      refine ⟨by rw [List.map_cons, e, ih.1], fun x' hx' => ?_, fun p hp => ?_⟩
      · rcases List.mem_cons.mp hx' with e' | hx'
        · subst e'
          exact ⟨t0, y, z, rfl, by rw [e]; exact ht⟩
        · exact ih.2.1 x' hx'
      · rw [List.zip_cons_cons] at hp
        rcases List.mem_cons.mp hp with e' | hp
        · subst e'
          exact e.symm
        · exact ih.2.2 p hp
  obtain ⟨k1, k2, k3⟩ := key hp
  have inj : ∀ x ∈ xs, ∀ y ∈ xs, hdInt s.heap x = hdInt s.heap y → x = y := by
    have go : ∀ (xs : List V), (xs.map (hdInt s.heap)).Nodup → ∀ x ∈ xs, ∀ y ∈ xs, hdInt s.heap x = hdInt s.heap y → x = y := by
      intro xs
      induction xs with
      | nil => intro _ x hx; cases hx
      | cons z xs ih =>
        intro hn x hx y hy e
        rw [List.map_cons] at hn
        obtain ⟨n1, n2⟩ := List.nodup_cons.mp hn
        rcases List.mem_cons.mp hx with ex | hx <;> rcases List.mem_cons.mp hy with ey | hy
        · rw [ex, ey]
        · exact absurd (List.mem_map.mpr ⟨y, hy, by rw [← e, ex]⟩) n1
        · exact absurd (List.mem_map.mpr ⟨x, hx, by rw [e, ey]⟩) n1
        · exact ih n2 x hx y hy e
    exact go xs (by rw [k1]; exact hn)
  refine cr_sortedH pins s σ H [V.ref a] us Q I r ⟨a, xs, hdInt s.heap, rfl, hs, k2, inj, fun ys p h1 h2 hpn => ?_⟩
  have pz : ((srtP (xs.zip ks)).map (·.1)).Perm xs := by
    have := (srtP_perm (xs.zip ks)).map (·.1)
    rwa [zip_fst hp] at this
  have e : ys = (srtP (xs.zip ks)).map (·.1) := by
    refine (h2.perm.trans pz.symm).eq_of_pairwise (le := fun a b => hdInt s.heap a ≤ hdInt s.heap b) (fun x y hx hy h3 h4 => inj x (h2.perm.mem_iff.mp hx) y (pz.mem_iff.mp hy) (by omega)) ?_ ?_
    · exact List.Pairwise.imp (fun {x y} h => by have := of_decide_eq_false h; omega) h1
    · refine List.pairwise_map.mpr ?_
      refine List.Pairwise.imp_of_mem ?_ (srtP_srt (xs.zip ks))
      intro x y hx hy h
      rw [← k3 x ((srtP_perm _).mem_iff.mp hx), ← k3 y ((srtP_perm _).mem_iff.mp hy)]
      exact h
  rw [e]
  exact q p hpn
def tripK : Dv → Option Int
  | .p (.tuple [.int i, .str _, .str _]) => some i
  | _ => none
def tripKs : List Dv → Option (List Int)
  | [] => some []
  | d :: r => match tripK d, tripKs r with
    | some i, some l => some (i :: l)
    | _, _ => none
section
variable {X : Cx} {W : WX} {e : Expr} {fa : FE} {p pos : Pos}
def fSortT (fa : FE) : FA := fun ρ st => (fa ρ st).bind fun d st1 => match lstOf d st1 with
  | some ds => match tripKs ds with
    | some ks => if ds.length ≤ 100000 ∧ ks.Nodup then .ok ((srtP (ds.zip ks)).map (·.1)) st1 else .stuck
    | none => .stuck
  | none => .stuck
theorem trip_rd {K : PySem.W.Frag} {mg : Str → Option Value} {n : Nat} {w : Wd} {H : Hp} : ∀ {ds : List Dv} {vs : List V} {ks : List Int}, RDs K mg n w H ds vs → tripKs ds = some ks → Paired (fun x i => ∃ t y z, x = V.ref t ∧ SqT K H t [.int i, .str y, .str z]) vs ks
  | _, _, _, .nil, h => by cases h; exact .nil
  | d :: ds, _, ks, .cons r rs, h => by
    unfold tripKs at h
    split at h
    · rename_i i l h1 h2
      cases h
      refine .cons ?_ (trip_rd rs h2)
      unfold tripK at h1
      split at h1
      · cases h1
        cases r with
        | p q => cases q with
          | tup hs hr =>
            cases hr with
            | cons q1 hr =>
            cases hr with
            | cons q2 hr =>
            cases hr with
            | cons q3 hr =>
            cases hr
            cases q1
            cases q2
            cases q3
            exact ⟨_, _, _, rfl, hs.sq⟩
      · cases h1
    · cases h
theorem ins_rd {K : PySem.W.Frag} {mg : Str → Option Value} {n : Nat} {w : Wd} {H : Hp} {d : Dv} {v : V} {i : Int} (r : RD K mg n w H d v) : ∀ {l : List (Dv × Int)} {m : List (V × Int)}, Paired (fun a b => a.2 = b.2 ∧ RD K mg n w H a.1 b.1) l m → Paired (fun a b => a.2 = b.2 ∧ RD K mg n w H a.1 b.1) (insP (d, i) l) (insP (v, i) m)
  | _, _, .nil => .cons ⟨rfl, r⟩ .nil
  | _, _, .cons (a := a) (b := b) h t => by
    unfold insP
    have e : (i ≤ a.2) = (i ≤ b.2) := by rw [h.1]
    by_cases hi : i ≤ b.2
    · rw [if_pos (show (d, i).2 ≤ a.2 by rw [h.1]; exact hi), if_pos (show (v, i).2 ≤ b.2 from hi)]
      exact .cons ⟨rfl, r⟩ (.cons h t)
    · rw [if_neg (show ¬ (d, i).2 ≤ a.2 by rw [h.1]; exact hi), if_neg (show ¬ (v, i).2 ≤ b.2 from hi)]
      exact .cons h (ins_rd r t)
theorem srt_rd {K : PySem.W.Frag} {mg : Str → Option Value} {n : Nat} {w : Wd} {H : Hp} : ∀ {ds : List Dv} {vs : List V} (ks : List Int), RDs K mg n w H ds vs → Paired (fun a b => a.2 = b.2 ∧ RD K mg n w H a.1 b.1) (srtP (ds.zip ks)) (srtP (vs.zip ks))
  | _, _, ks, .nil => .nil
  | _, _, [], .cons _ _ => .nil
  | _, _, k :: ks, .cons r rs => ins_rd r (srt_rd ks rs)
theorem fst_rd {K : PySem.W.Frag} {mg : Str → Option Value} {n : Nat} {w : Wd} {H : Hp} : ∀ {l : List (Dv × Int)} {m : List (V × Int)}, Paired (fun a b => a.2 = b.2 ∧ RD K mg n w H a.1 b.1) l m → RDs K mg n w H (l.map (·.1)) (m.map (·.1))
  | _, _, .nil => .nil
  | _, _, .cons h t => .cons h.2 (fst_rd t)
theorem pfl_sortT (hm : X.mg "sorted" = none) (h : PF X W e fa) (hg : Gl X "sorted" := by rfl) (he : starEach [e] X.env = (false, eval e X.env) :: starEach [] X.env := by rfl) (hpl : (backTo pos (starEach [] X.env)).any (·.1) = false := by rfl) :
    PFL X W (.Call (.Name "sorted" p) [e] [] pos) (fSortT fa) := PE_imp (pe_callB cr_sortedZ hg hm (by decide +kernel) (pa_cons h pa_nil he) (by decide) (by decide) he hpl) fun σ H Q q => by
  obtain ⟨ρ, st, w, sim, er, gd⟩ := q
  refine ⟨ρ, st, w, sim, er, Good.imp (fun v H1 q => ?_) (Good.bind gd)⟩
  obtain ⟨st1, w1, d, sim1, s1, r1, gd1⟩ := q
  split at gd1
  · rename_i ds e1
    split at gd1
    · rename_i ks e2
      split at gd1
      · rename_i hl
        obtain ⟨a, us, rfl, r2, hs⟩ := lst_rd sim1 r1 e1
        have hp := trip_rd r2 e2
        refine ⟨a, us, ks, rfl, .of hs, hp, hl.2, fun q hq => ?_⟩
        refine gd1 w1 H1 _ .refl sim1 (fst_rd (srt_rd ks r2)) q hq ?_
        have e3 : ((srtP (us.zip ks)).map (·.1)).length = us.length := by
          have := ((srtP_perm (us.zip ks)).map (·.1)).length_eq
          rwa [zip_fst hp] at this
        rw [e3, ← r2.length, sizeLine_eq]
        have := hl.1
        omega
      · exact gd1.elim
    · exact gd1.elim
  · exact gd1.elim
end
end FB
set_option Elab.async false
set_option linter.all false
set_option maxRecDepth 100000
set_option maxHeartbeats 4000000
/-! FBL: a, b = a list. -/
namespace FB
open PySem PySem.Spec PyProof.Rows L2 RZ
variable {X : Cx} {W : WX} {e : Expr} {fa : FE} {pos pos' : Pos}
/-- a, b, .. = a list of data of that length -/
def sAsgL (fa : FE) (ts : List Tg) : FS := fun ρ st => (fa ρ st).st ρ fun d st1 => match d with
  | .p (.list xs) => if xs.length = ts.length then toE (tgFs ts (xs.map Dv.p) ρ) fun ρ' => .nx ρ' st1 else .stuck
  | _ => .stuck
theorem tfs_asgL {ts : List Tg} {D : Ends} {σ : L2.St} {H : Hp} (q : TFS X.K X.mg W (sAsgL fa ts) D σ H) : tAsg (TF X.K X.mg W fa) (gLst X.K ts.length (tgGs X.K ts)) D σ H := by
  obtain ⟨ρ, st, w, sim, er, gd⟩ := q
  refine ⟨ρ, st, w, sim, er, Good.imp (fun v H1 q => ?_) (good_st er gd)⟩
  obtain ⟨st1, w1, d, sim1, s1, r1, er1, gd1⟩ := q
  split at gd1
  · rename_i xs
    split at gd1
    · rename_i hl
      unfold toE at gd1
      split at gd1
      · rename_i ρ' he
        cases r1 with
        | p q =>
          cases q with
          | lst hs hr =>
            have rs := RDs.ofP hr (mg := X.mg) (n := st1.length)
            refine ⟨_, _, rfl, hs.sq, by rw [← rs.length, List.length_map, hl], ?_⟩
            exact tgs_ok (vs := tgSs ts) ts (xs.map Dv.p) _ ρ ρ' σ σ _ rs er1 he (fun _ h => h) rfl fun σ' er' _ => gd1 w1 H1 σ' .refl sim1 er'
      · exact gd1.elim
    · exact gd1.elim
  · exact gd1.elim
theorem pfs_asgL {ts : List Tg} {es : List Expr} {k : Nat} (hc : X.calm = true) (he : PF X W e fa) (hg : PGs X es (tgGs X.K ts)) (hn : (assignEach es X.env).length = ts.length := by rfl) (hst : (assignEach es X.env).findIdx? (·.1) = none := by rfl)
    (hs : swapsWithSole [.Tuple es k pos'] e pos.line X.env = pure false := by rfl) (hw : swappedStores [.Tuple es k pos'] e X.env = pure none := by rfl)
    (h1 : (assignEach [.Tuple es k pos'] X.env).map (·.2) = [assign (.Tuple es k pos') X.env] := by rfl) : PFS X W (.Assign [.Tuple es k pos'] e pos) (sAsgL fa ts) := PS_imp (ps_asg he (pg_lst hc hg hn hst) hs hw h1) fun D σ H q => tfs_asgL q
end FB
set_option Elab.async false
set_option linter.all false
set_option maxRecDepth 100000
set_option maxHeartbeats 4000000
/-! FBK: a dict of texts, written out: data; its items. -/
namespace FB
open PySem PySem.Spec PyProof.Rows L2 RZ
def kvD (kvs : List (Str × Str)) : PyData := .dict (kvs.map fun p => (.str p.1, .str p.2))
def fKV (kvs : List (Str × Str)) : FE := fun _ st => .ok (.p (kvD kvs)) st
def kvV (kvs : List (Str × Str)) : List (Key × V) := kvs.map fun p => (.inr p.1, .str p.2)
theorem tPairs_c {σ : L2.St} {Q : List (V × V) → Hp → Prop} {H : Hp} : ∀ {kvs : List (Str × Str)}, Q (kvs.map fun p => (V.str p.1, V.str p.2)) H → tPairs (kvs.map fun p => (tC (.str p.1), tC (.str p.2))) σ H Q
  | [], h => h
  | p :: kvs, h => by
    show tPairs (kvs.map fun p => (tC (.str p.1), tC (.str p.2))) σ H fun ps H3 => Q ((V.str p.1, V.str p.2) :: ps) H3
    exact tPairs_c (Q := fun ps H3 => Q ((V.str p.1, V.str p.2) :: ps) H3) h
theorem merge_new : ∀ (kvs : List (Str × Str)) (acc : List (Key × V)), (kvs.map (·.1)).Nodup → (∀ p ∈ kvs, ∀ q ∈ acc, q.1 ≠ Sum.inr p.1) → mergeK acc (kvV kvs) = acc ++ kvV kvs
  | [], acc, _, _ => by rw [show kvV [] = [] from rfl, List.append_nil]; rfl
  | p :: kvs, acc, hn, h => by
    rw [List.map_cons] at hn
    obtain ⟨n1, n2⟩ := List.nodup_cons.mp hn
    show mergeK (putK acc (.inr p.1) (.str p.2)) (kvV kvs) = acc ++ (Sum.inr p.1, V.str p.2) :: kvV kvs
    have e : putK acc (.inr p.1) (.str p.2) = acc ++ [(Sum.inr p.1, V.str p.2)] := by
      unfold putK
      rw [if_neg]
      intro z
      obtain ⟨q, hq, z⟩ := List.any_eq_true.mp z
      exact h p List.mem_cons_self q hq (of_decide_eq_true z)
    rw [e, merge_new kvs _ n2 fun q hq x hx => ?_, List.append_assoc]
    · rfl
    · rcases List.mem_append.mp hx with hx | hx
      · exact h q (List.mem_cons_of_mem _ hq) x hx
      · rw [List.mem_singleton.mp hx]
        intro z
        have : p.1 = q.1 := Sum.inr.inj z
        exact n1 (List.mem_map.mpr ⟨q, hq, this.symm⟩)
theorem rpk_kv {K : PySem.W.Frag} {I : Addr → Prop} {H : Hp} : ∀ kvs : List (Str × Str), RPk K I H (kvs.map fun p => (.str p.1, .str p.2)) (kvV kvs)
  | [] => .nil
  | p :: kvs => .cons (k := .inr p.1) (.str p.2) (rpk_kv kvs)
variable {X : Cx} {W : WX} {pos : Pos} {keys : List (Option Expr)} {values : List Expr}
theorem pf_dispC {kvs : List (Str × Str)} (h : PPs X pos keys values (kvs.map fun p => (tC (.str p.1), tC (.str p.2)))) (hn : (kvs.map (·.1)).Nodup) (h16 : kvs.length ≤ 15) (hall : keys.all (·.isSome) = true := by rfl) (hl : keys.length = values.length := by rfl) (h0 : keys ≠ [] := by exact List.cons_ne_nil _ _)
    (h15 : keys.length ≤ 15 := by decide) : PF X W (.Dict keys values pos) (fKV kvs) := PE_imp (pe_disp h hall hl h0 h15) fun σ H Q hh => by
  obtain ⟨ρ, st, w, sim, er, gd⟩ := hh
  intro p hp
  refine tPairs_c ⟨upd_same, kvV kvs, by unfold kvV; rw [List.map_map]; rfl, by unfold kvV; rw [List.length_map]; exact h16, ?_⟩
  have e : mergeK [] (kvV kvs) = kvV kvs := (merge_new kvs [] hn fun _ _ q hq => by cases hq).trans (List.nil_append _)
  rw [upd_upd, e]
  obtain ⟨s2, sim2⟩ := sim.newP (o := .dK (kvV kvs)) hp
  exact gd _ _ _ s2 sim2 (.p (.dct (.inl rfl) upd_same (rpk_kv kvs)))
/-! ### its items -/
def atP : List (PyData × PyData) → Str → Option PyData
  | (.str a, d) :: r, k => if a = k then some d else atP r k
  | _, _ => none
def gIxC : G2 := fun x y _ => match x, y with
  | .p (.dict ds), .p (.str k) => (atP ds k).map Dv.p
  | _, _ => none
theorem rpk_at {K : PySem.W.Frag} {I : Addr → Prop} {H : Hp} {k : Str} {d : PyData} : ∀ {ds : List (PyData × PyData)} {kws : List (Key × V)}, RPk K I H ds kws → atP ds k = some d → ∃ v, valV kws (.inr k) = some v ∧ RP K I H d v
  | _, _, .nil, h => by cases h
  | _, _, .cons (k := .inl i) r t, h => by cases h
  | _, _, .cons (k := .inr a) (d := d0) (v := v0) (ds := ds) (kvs := kws) r t, h => by
    have h : (if a = k then some d0 else atP ds k) = some d := h
    by_cases e : a = k
    · rw [if_pos e] at h
      cases h
      exact ⟨v0, valV_pos (by show (Sum.inr a : Key) = Sum.inr k; rw [e]), r⟩
    · rw [if_neg e] at h
      obtain ⟨v, h1, h2⟩ := rpk_at t h
      exact ⟨v, by rw [valV_neg (fun z => e (Sum.inr.inj z))]; exact h1, h2⟩
theorem im_ixC : Im2 X (rIxA X.K) gIxC := fun st w H x y vx vy Q d sim rx ry h l => by
  unfold gIxC at h
  split at h
  · rename_i ds k
    obtain ⟨z, hz, rfl⟩ := Option.map_eq_some_iff.mp h
    cases rx with
    | p rx =>
      cases rx with
      | dct hi hh hr =>
        obtain ⟨v, e1, e2⟩ := rpk_at hr hz
        have ey := rd_str ry
        subst ey
        exact .inr ⟨_, v, rfl, by rw [← e1]; exact DGet.k (k := .inr k) hh, l w H _ .refl sim (.p e2)⟩
  · cases h
/-! ### texts compared -/
def gLtS : G2 := fun x y _ => match x, y with
  | .p (.str a), .p (.str b) => some (.p (.bool (decide (a.cps.toList < b.cps.toList))))
  | _, _ => none
theorem im_ltS : Im2 X (fun x y H Q => ∃ i j : Str, x = .str i ∧ y = .str j ∧ Q (.bl (decide (i.cps.toList < j.cps.toList))) H) gLtS := fun st w H x y vx vy Q d sim rx ry h l => by
  unfold gLtS at h
  split at h
  · cases h
    obtain rfl := rd_str rx
    obtain rfl := rd_str ry
    exact ⟨_, _, rfl, rfl, l w H _ .refl sim (.p (.bl _))⟩
  · cases h
end FB
set_option Elab.async false
set_option linter.all false
set_option maxRecDepth 100000
set_option maxHeartbeats 4000000
/-! FBR: methods of texts; try without a name; small dicts. -/
namespace FB
open PySem PySem.Spec PyProof.Rows L2 RZ
section
variable {X : Cx} {W : WX} {a b o e : Expr} {fa fb fo fe : FE} {pos apos : Pos}
/-! ### methods -/
def fTM (g : G2) (fo fe : FE) : FE := fun ρ st => (fo ρ st).bind fun x st1 => match x with
  | .p (.str a) => (fe ρ st1).bind fun y st2 => toR st2 (g (.p (.str a)) y st2)
  | _ => .stuck
def fTM0 (g : G1) (fo : FE) : FE := fun ρ st => (fo ρ st).bind fun x st1 => match x with
  | .p (.str a) => toR st1 (g (.p (.str a)) st1)
  | _ => .stuck
theorem tf_tm {r : V → List V → Hp → VK → Prop} {g : G2} (hi : Im2 X (fun x y => r x [y]) g) (σ : L2.St) (H : Hp) (Q : VK) (h : TF X.K X.mg W (fTM g fo fe) σ H Q) : tM1 r (TF X.K X.mg W fo) (TF X.K X.mg W fe) σ H Q := by
  obtain ⟨ρ, st, w, sim, er, gd⟩ := h
  refine ⟨ρ, st, w, sim, er, Good.imp (fun x H1 q => ?_) (Good.bind gd)⟩
  obtain ⟨st1, w1, d1, sim1, s1, r1, gd1⟩ := q
  split at gd1
  · rename_i z
    obtain rfl := rd_str r1
    refine ⟨⟨z, rfl⟩, ρ, st1, w1, sim1, er.mono s1, Good.imp (fun y H2 q => ?_) (Good.bind gd1)⟩
    obtain ⟨st2, w2, d2, sim2, s2, r2, gd2⟩ := q
    obtain ⟨d, e, l⟩ := lies_of gd2
    exact hi st2 w2 H2 _ d2 _ y Q d sim2 (r1.mono s2) r2 e l
  · exact gd1.elim
theorem tf_tm0 {r : V → List V → Hp → VK → Prop} {g : G1} (hi : Im1 X (fun x => r x []) g) (σ : L2.St) (H : Hp) (Q : VK) (h : TF X.K X.mg W (fTM0 g fo) σ H Q) : tM0 r (TF X.K X.mg W fo) σ H Q := by
  obtain ⟨ρ, st, w, sim, er, gd⟩ := h
  refine ⟨ρ, st, w, sim, er, Good.imp (fun x H1 q => ?_) (Good.bind gd)⟩
  obtain ⟨st1, w1, d1, sim1, s1, r1, gd1⟩ := q
  split at gd1
  · rename_i z
    obtain rfl := rd_str r1
    obtain ⟨d, e, l⟩ := lies_of gd1
    exact ⟨⟨z, rfl⟩, hi st1 w1 H1 _ _ Q d sim1 r1 e l⟩
  · exact gd1.elim
/-- a.join(texts) -/
def gJoin : G2 := fun x y st => match x, lstOf y st with
  | .p (.str a), some ds => match txts ds with
    | some ys => if (ys.map (·.length)).sum + ys.length * a.length ≤ 16777216 then some (.p (.str (Txt.join a ys))) else none
    | none => none
  | _, _ => none
theorem pf_join (ho : PF X W o fo) (he : PF X W e fe) (hs : starEach [e] X.env = [(false, eval e X.env)] := by rfl) (hbase : attributeBase o "join" X.env (eval o X.env) = eval o X.env := by rfl) (hline : (apos.endLine == pos.line) = true := by rfl) :
    PF X W (.Call (.Attribute o "join" apos) [e] [] pos) (fTM gJoin fo fe) := PE_imp (pe_join ho he hs hbase hline) (tf_tm fun st w H x y vx vy Q d sim rx ry h l => by
  unfold gJoin at h
  split at h
  · rename_i z ds e1
    split at h
    · rename_i ys e2
      split at h
      · rename_i hz
        cases h
        obtain rfl := rd_str rx
        obtain ⟨p, us, rfl, r2, hs⟩ := lst_rd sim ry e1
        obtain rfl := txts_rd r2 e2
        exact ⟨z, p, ys, rfl, rfl, .inl (.of hs), hz, l w H _ .refl sim (.p (.str _))⟩
      · cases h
    · cases h
  · cases h)
/-- a.split(b): the parts -/
def fSplit (fo fe : FE) : FA := fun ρ st => (fo ρ st).bind fun x st1 => match x with
  | .p (.str a) => (fe ρ st1).bind fun y st2 => match y with
    | .p (.str b) => if (decide (b.length ≠ 0) && (decide (a.length ≤ 100000) && decide ((Txt.split a b).length ≤ 200000))) = true then .ok ((Txt.split a b).map fun z => Dv.p (.str z)) st2 else .stuck
    | _ => .stuck
  | _ => .stuck
theorem pfl_split (ho : PF X W o fo) (he : PF X W e fe) (hs : starEach [e] X.env = [(false, eval e X.env)] := by rfl) (hbase : attributeBase o "split" X.env (eval o X.env) = eval o X.env := by rfl) (hline : (apos.endLine == pos.line) = true := by rfl) :
    PFL X W (.Call (.Attribute o "split" apos) [e] [] pos) (fSplit fo fe) := PE_imp (pe_split ho he hs hbase hline) fun σ H Q h => by
  obtain ⟨ρ, st, w, sim, er, gd⟩ := h
  refine ⟨ρ, st, w, sim, er, Good.imp (fun x H1 q => ?_) (Good.bind gd)⟩
  obtain ⟨st1, w1, d1, sim1, s1, r1, gd1⟩ := q
  split at gd1
  · rename_i z
    obtain rfl := rd_str r1
    refine ⟨⟨z, rfl⟩, ρ, st1, w1, sim1, er.mono s1, Good.imp (fun y H2 q => ?_) (Good.bind gd1)⟩
    obtain ⟨st2, w2, d2, sim2, s2, r2, gd2⟩ := q
    split at gd2
    · rename_i c
      obtain rfl := rd_str r2
      split at gd2
      · rename_i hc
        rw [Bool.and_eq_true, Bool.and_eq_true, decide_eq_true_eq, decide_eq_true_eq, decide_eq_true_eq] at hc
        obtain ⟨h1, h2, h3⟩ := hc
        refine ⟨z, c, rfl, rfl, beq_eq_false_iff_ne.mpr h1, ?_, fun p hp => ?_⟩
        · rw [sizeLine_eq]; omega
        · refine gd2 w2 H2 _ .refl sim2 (rds_strs _) p hp ?_
          rw [List.length_map, sizeLine_eq]; omega
      · exact gd2.elim
    · exact gd2.elim
  · exact gd1.elim
/-- a.upper() -/
def gUpper : G1 := fun x _ => match x with
  | .p (.str a) => if a.length ≤ 100000 then some (.p (.str (Txt.upper a))) else none
  | _ => none
theorem pf_upper (ho : PF X W o fo) (hbase : attributeBase o "upper" X.env (eval o X.env) = eval o X.env := by rfl) (hline : (apos.endLine == pos.line) = true := by rfl) :
    PF X W (.Call (.Attribute o "upper" apos) [] [] pos) (fTM0 gUpper fo) := PE_imp (pe_upper ho hbase hline) (tf_tm0 fun st w H x vx Q d sim rx h l => by
  unfold gUpper at h
  split at h
  · rename_i z
    split at h
    · cases h
      obtain rfl := rd_str rx
      exact ⟨z, rfl, rfl, by omega, l w H _ .refl sim (.p (.str _))⟩
    · cases h
  · cases h)
/-! ### x[::-1] of a text -/
def tRevS (te : TE) : TE := fun σ H Q => te σ H fun x H1 => ∃ z : Str, x = .str z ∧ z.length ≤ sizeLine ∧ Q (.str (Txt.sliceBy z none none (-1, 0))) H1
theorem pe_revS {te : TE} {k : Nat} {p1 p2 p3 : Pos} (he : PE X e te) : PE X (.Subscript e (.Slice none none (some (.UnaryOp .USub (.Constant (.int 1) k p1) p2)) p3) pos) (tRevS te) := by
  refine ⟨fun pins s σ H Q I h => Subscript_ (thn (he.run pins s σ H _ I h) fun v s1 ⟨x, H1, I1, r1, z, ez, hz, q⟩ => ?_)⟩
  subst ez
  obtain ⟨t, rfl⟩ := r1
  have hst : PO X (some (.UnaryOp .USub (.Constant (.int 1) k p1) p2)) (tPart (tUn (rU fun i => .int (-i)) (tC (.int 1)))) := po_some (pe_un un_neg pe_int)
  refine wpAny_Slice (thn (po_none.run pins s1 σ H1 (fun o H2 => o = none ∧ H2 = H1) I1 ⟨rfl, rfl⟩) fun vl s2 ⟨l, H2, I2, pl, el, e2⟩ => thn (po_none.run pins s2 σ H2 (fun o H3 => o = none ∧ H3 = H2) I2 ⟨rfl, rfl⟩) fun vu s3 ⟨u, H3, I3, pu, eu, e3⟩ =>
    thn (hst.run pins s3 σ H3 (fun o H4 => o = some (-1) ∧ H4 = H3) I3 ⟨1, rfl, -1, rfl, rfl, rfl⟩) fun vs s4 ⟨o, H4, I4, ps, eo, e4⟩ => ?_)
  subst el e2 eu e3 eo e4
  have I5 : Inv X pins σ H4 { s4 with heap := s4.heap.push { cls := .type "slice", data := .fields #[vl, vu, vs] } } := I4.kept (t' := s4.toks) fun b ob q => Heap.get?_push_of_some _ q
  cases pl
  cases pu
  cases ps with
  | int _ tk =>
  refine tail_any (ops := [.str z t, .ref s4.heap.objs.size]) (typeIs_str _ z t) PySem.F.slot_str_getitem.lookup ?_ (by with_unfolding_all rfl)
  refine wpAny_getItem_str_slice (l := none) (u := none) (st := some (-1, tk)) ⟨_, Heap.get?_push_size _ rfl, rfl, rfl⟩ rfl ?_
  have hn : ¬ ((-1 : Int) == 1 && (slicePicked z none none (some (-1, tk))).length == z.length) = true := by simp
  have hs : Txt.sliceBy z none none (-1, 0) = ⟨((slicePicked z none none (some (-1, tk))).filterMap (z.cps[·]?)).toArray⟩ := by
    unfold Txt.sliceBy
    rw [if_neg (by simp)]; rfl
  show Made.post (if ((-1 : Int) == 1 && (slicePicked z none none (some (-1, tk))).length == z.length) = true then Made.val (.str z t) else Made.str ⟨((slicePicked z none none (some (-1, tk))).filterMap (z.cps[·]?)).toArray⟩) (EP X pins σ Q) _
  rw [if_neg hn, ← hs]
  exact ⟨Nat.le_trans (Txt.sliceBy_le z none none (-1, 0) (by decide)) hz, .str _, H4, I5.tok _, ⟨_, rfl⟩, q⟩
def gRevS : G1 := fun x _ => match x with
  | .p (.str a) => if a.length ≤ 100000 then some (.p (.str (Txt.sliceBy a none none (-1, 0)))) else none
  | _ => none
theorem pf_revS {k : Nat} {p1 p2 p3 : Pos} (he : PF X W e fe) : PF X W (.Subscript e (.Slice none none (some (.UnaryOp .USub (.Constant (.int 1) k p1) p2)) p3) pos) (fUn gRevS fe) := PE_imp (pe_revS he) fun σ H Q h => by
  obtain ⟨ρ, st, w, sim, er, gd⟩ := h
  refine ⟨ρ, st, w, sim, er, Good.imp (fun x H1 q => ?_) (Good.bind gd)⟩
  obtain ⟨st1, w1, d1, sim1, s1, r1, gd1⟩ := q
  obtain ⟨d, e', l⟩ := lies_of gd1
  unfold gRevS at e'
  split at e'
  · rename_i z
    split at e'
    · rename_i hz
      cases e'
      obtain rfl := rd_str r1
      exact ⟨z, rfl, by rw [sizeLine_eq]; omega, l w1 H1 _ .refl sim1 (.p (.str _))⟩
    · cases e'
  · cases e'
/-! ### a text times a small number -/
def gMulS : G2 := fun x y st => match x, y with
  | .p (.str a), .p (.int k) => if k = 0 then some (.p (.str Str.empty)) else if k = 1 then some (.p (.str a)) else gMulA x y st
  | _, _ => none
def rMulL : R2 := fun x y H Q => ∃ (a : Str) (k : Int), x = .str a ∧ y = .int k ∧ ((k = 0 ∧ Q (.str Str.empty) H) ∨ (k = 1 ∧ Q (.str a) H))
theorem op_mulL : OpR X (binaryOp .Mult) rMulL := by
  intro pins s σ H x y v u Q I rx ry h
  obtain ⟨a, k, rfl, rfl, h⟩ := h
  obtain ⟨t, rfl⟩ := rx
  obtain ⟨t', rfl⟩ := ry
  rcases h with ⟨rfl, q⟩ | ⟨rfl, q⟩
  · exact PySem.P.mul_str_none (by decide) (by decide) ⟨.str _, H, I.tok _, ⟨_, rfl⟩, q⟩
  · refine PySem.P.mul_str (by decide) (fun _ z => (by simp at z)) (fun _ z => (by simp at z)) ?_
    rw [if_neg (by decide), if_pos (by simp)]
    exact ⟨.str a, H, I, ⟨t, rfl⟩, q⟩
def rMulT : R2 := fun x y H Q => rMulL x y H Q ∨ rMulA x y H Q
theorem op_mulT : OpR X (binaryOp .Mult) rMulT := op_mulL.or op_mulA
theorem im_mulS : Im2 X rMulT gMulS := fun st w H x y vx vy Q d sim rx ry h l => by
  unfold gMulS at h
  split at h
  · rename_i z k
    split at h
    · rename_i hk
      cases h
      subst hk
      obtain rfl := rd_str rx
      obtain rfl := rd_int ry
      exact .inl ⟨z, 0, rfl, rfl, .inl ⟨rfl, l w H _ .refl sim (.p (.str _))⟩⟩
    · split at h
      · rename_i hk
        cases h
        subst hk
        obtain rfl := rd_str rx
        obtain rfl := rd_int ry
        exact .inl ⟨z, 1, rfl, rfl, .inr ⟨rfl, l w H _ .refl sim (.p (.str _))⟩⟩
      · exact .inr (im_mul st w H _ _ vx vy Q d sim rx ry h l)
  · cases h
end
/-! ### a dict of one text, written out -/
section
variable {X : Cx} {W : WX} {pos : Pos} {keys : List (Option Expr)} {values : List Expr}
theorem tPairs_1 {σ : L2.St} {Q : List (V × V) → Hp → Prop} {H : Hp} {k : Str} {v : V} (h : Q [(V.str k, v)] H) : tPairs [(tC (.str k), tC v)] σ H Q := h
def fKC (k : Str) (d : PyData) : FE := fun _ st => .ok (.p (.dict [(.str k, d)])) st
theorem pf_dispK {k : Str} {d : PyData} {v : V} (h : PPs X pos keys values [(tC (.str k), tC v)]) (r : ∀ I H, RP X.K I H d v) (hall : keys.all (·.isSome) = true := by rfl) (hl : keys.length = values.length := by rfl) (h0 : keys ≠ [] := by exact List.cons_ne_nil _ _)
    (h15 : keys.length ≤ 15 := by decide) : PF X W (.Dict keys values pos) (fKC k d) := PE_imp (pe_disp h hall hl h0 h15) fun σ H Q hh => by
  obtain ⟨ρ, st, w, sim, er, gd⟩ := hh
  intro p hp
  refine tPairs_1 ⟨upd_same, [(.inr k, v)], rfl, by show 1 ≤ 15; decide, ?_⟩
  rw [upd_upd]
  obtain ⟨s2, sim2⟩ := sim.newP (o := .dK (mergeK [] [(.inr k, v)])) hp
  exact gd _ _ _ s2 sim2 (.p (.dct (.inl rfl) upd_same (.cons (k := .inr k) (r _ _) .nil)))
end
/-! ### try: .. except X: without a name -/
def noE : Ss → Ss
  | .exc _ _ _ _ => .stuck
  | r => r
def sTryO (tst : Str → Option Bool) (body suite : FS) : FS := fun ρ st => match body ρ st with
  | .exc c fs ρ' st' => match fs, tst c with
    | [], some true => noE (suite ρ' st')
    | fs, some false => .exc c fs ρ' st'
    | _, _ => .stuck
  | r => r
section
variable {X : Cx} {W : WX} {x : Str} {cv : Value} {body suite : List Stmt} {b₀ : Stmt} {np pos pos' : Pos} {gb gs : FS} {tst : Str → Option Bool}
theorem pfs_tryO (hs : X.stack = X.env :: X.outer) (hf : X.env.frame = some X.env.locals) (hc : Names X x cv) (tk : Takes X W)
    (ht : ∀ (c : Str) (C : Addr) (b : Bool), X.mg c = some (.ref C) → tst c = some b → PySem.W.exmOne X.K (.ref C) cv = some b)
    (hb : ∀ (W : WX) (pn : List (Addr × Obj)) (xe : Value → Shared → Prop), Takes (X.tr pn xe) W → PassesOwn (model X.prog X.w) X.A X.env xe → PFSs (X.tr pn xe) W body gb)
    (hsu : ∀ (a : Addr) (pn : List (Addr × Obj)), PFSs (X.suite a pn) W0 (b₀ :: suite) gs) :
    PFS X W (.Try body [.ExceptHandler (some (.Name x np)) none (b₀ :: suite) pos'] [] [] pos) (sTryO tst gb gs) :=
  PS_imp (ps_try_only (tb := fun W => TFS X.K X.mg W gb) (ts := fun _ _ _ => TFS X.K X.mg W0 gs) hs hf hc tk hb fun a oe cls d pn _ _ => hsu a _) fun D σ H q => by
    obtain ⟨ρ, st, w, sim, er, gd⟩ := q
    refine ⟨ρ, st, w, sim, er, ?_⟩
    unfold sTryO at gd
    cases e : gb ρ st with
    | nx ρ' st' => rw [e] at gd; exact gd
    | ret d st' => rw [e] at gd; exact gd
    | brk ρ' st' => rw [e] at gd; exact gd
    | cnt ρ' st' => rw [e] at gd; exact gd
    | stuck => rw [e] at gd; exact gd
    | exc c fs ρ' st' =>
      rw [e] at gd
      intro w' H' σ' cv2 dd s1 sim1 er1 ex
      obtain ⟨C, hm, rfl, hx⟩ := id ex
      cases et : tst c with
      | none =>
        exfalso
        cases fs with
        | nil => simp only [et] at gd; exact gd
        | cons p ps => simp only [et] at gd; exact gd
      | some b =>
        cases b with
        | false =>
          have gd1 : GoodS X.K X.mg W st.length w H D (.exc c fs ρ' st') := by
            cases fs with
            | nil => simp only [et] at gd; exact gd
            | cons p ps => simp only [et] at gd; exact gd
          exact ⟨false, ht c C false hm et, (fun z => nomatch z), fun _ => gd1 w' H' σ' _ dd s1 sim1 er1 ex⟩
        | true =>
          cases fs with
          | cons p ps =>
            exfalso
            simp only [et] at gd
            exact gd
          | nil =>
            have gd0 : GoodS X.K X.mg W st.length w H D (noE (gs ρ' st')) := by
              simp only [et] at gd; exact gd
            have gd1 : GoodS X.K X.mg W0 st.length w H D (gs ρ' st') := by
              unfold noE at gd0
              cases eg : gs ρ' st' with
              | exc c2 fs2 ρ2 st2 => rw [eg] at gd0; exact gd0.elim
              | nx ρ2 st2 => rw [eg] at gd0; exact gd0
              | ret d st2 => rw [eg] at gd0; exact gd0
              | brk ρ2 st2 => rw [eg] at gd0; exact gd0
              | cnt ρ2 st2 => rw [eg] at gd0; exact gd0
              | stuck => rw [eg] at gd0; exact gd0
            exact ⟨true, ht c C true hm et, fun _ a ha => ⟨ρ', st', w', sim1, er1, gd1.later s1⟩, (fun z => nomatch z)⟩
end
end FB
set_option Elab.async false
set_option linter.all false
set_option maxRecDepth 100000
set_option maxHeartbeats 4000000
/-! FBP: a text's first piece replaced: the two written texts are two objects, which wants a token that is out. -/
namespace FB
open PySem PySem.Spec PyProof.Rows L2 RZ CwR
/-- the first y of x replaced by z -/
def rep1 (x y z : Str) : Str :=
  if ((Builtin.Str.occurrences x y 0 x.length 1).isEmpty || (y.length == 0 && z.length == 0)) = true then x
  else Builtin.Str.glued z (Builtin.Str.partsBetween x (Builtin.Str.occurrences x y 0 x.length 1) y.length)
theorem args_rep1 (a b c d : Value) : argsOk "str.replace" ⟨[a, b, c, d], []⟩ := by unfold argsOk; kernel_rfl
theorem gives_rep1 {x y z : Str} {t u v k : Tok} (h0 : (u == 0 || v == 0) = false) (h1 : (u == v) = false) (h2 : (y == z) = false) (hl : Builtin.Str.tooLong (x.length + (Builtin.Str.occurrences x y 0 x.length 1).length * z.length) = false) :
    Gives (Builtin.«str.replace» ⟨[.str x t, .str y u, .str z v, .int 1 k], []⟩) (if ((Builtin.Str.occurrences x y 0 x.length 1).isEmpty || (y.length == 0 && z.length == 0)) = true then Made.val (.str x t) else Made.str (Builtin.Str.glued z (Builtin.Str.partsBetween x (Builtin.Str.occurrences x y 0 x.length 1) y.length))) := by
  generalize hc : Builtin.Str.occurrences x y 0 x.length 1 = cuts at hl
  have e : Builtin.«str.replace» ⟨[.str x t, .str y u, .str z v, .int 1 k], []⟩ = (if (cuts.isEmpty || (y.length == 0 && z.length == 0)) = true then (do rule "str.replace.nothing"; ret (.str x t)) else (do
      let same ← isSame (.str y u) (.str z v)
      if same = true then (do rule "str.replace.old-is-new"; ret (.str x t)) else
      if Builtin.Str.tooLong (x.length + cuts.length * z.length) = true then unsupported "str.replace:memory" else
      retStr (Builtin.Str.glued z (Builtin.Str.partsBetween x cuts y.length))) : Sem PySem.Fin) := by
    subst hc; rfl
  rw [e]
  cases hq : (cuts.isEmpty || (y.length == 0 && z.length == 0)) with
  | true => exact .rule (.of_eq rfl)
  | false =>
    rw [if_neg Bool.false_ne_true, if_neg Bool.false_ne_true, isSame_str_other y z u v h0 h1 h2, hl]
    exact .of_eq rfl
section
variable {prog : Program} {w : World} {A : Around} {E : Value → Shared → Prop} {s : Shared} {x y z : Str} {t u v k : Tok} {Q : Value → Shared → Prop}
theorem call_rep1 (hu : u ≠ 0) (hv : v ≠ 0) (huv : u ≠ v) (h2 : (y == z) = false) (hx : x.length ≤ 100000) (hz : z.length ≤ 1000) (hr : (rep1 x y z).length ≤ sizeLine) (hq : ∀ t' m, Q (.str (rep1 x y z) t') { s with toks := m }) :
    wpAny (model prog w) A (call (.builtin "str.replace") [.str x t, .str y u, .str z v, .int 1 k]) Q E s := by
  have hl : Builtin.Str.tooLong (x.length + (Builtin.Str.occurrences x y 0 x.length 1).length * z.length) = false := by
    have a := StrLaws.occ_length_le x y 0 x.length 1
    have b : (Builtin.Str.occurrences x y 0 x.length 1).length * z.length ≤ 1 * z.length := Nat.mul_le_mul_right _ a
    unfold Builtin.Str.tooLong
    rw [sizeLine_eq]
    exact decide_eq_false (by omega)
  refine call_gives F.slot_str_replace (typeIs_str _ _ _) F.entry_str_replace (args_rep1 _ _ _ _) (gives_rep1 (by simp [hu, hv]) (by simp [huv]) h2 hl) ?_
  unfold rep1 at hq hr
  cases hc : ((Builtin.Str.occurrences x y 0 x.length 1).isEmpty || (y.length == 0 && z.length == 0)) with
  | true =>
    rw [hc] at hq
    rw [if_pos rfl] at hq ⊢
    exact hq t s.toks
  | false =>
    rw [hc] at hq hr
    rw [if_neg Bool.false_ne_true] at hq hr ⊢
    exact ⟨hr, hq _ _⟩
end
section
variable {X : Cx} {W : WX} {o e a b : Expr} {es : List Expr} {rest : List Stmt} {fo fa fb fe : FE} {fr : FA} {te ta tb : TE} {y z : Str} {j k m : Nat} {c0 c1 c2 apos pos p p' : Pos}
def tRep1 (to : TE) (y z : Str) : TE := fun σ H Q => to σ H fun v H1 => ∃ x : Str, v = .str x ∧ x.length ≤ 100000 ∧ (rep1 x y z).length ≤ sizeLine ∧ Q (.str (rep1 x y z)) H1
theorem pet_rep1 {to : TE} (ho : PE X o to) (h2 : (y == z) = false := by decide) (hz : z.length ≤ 1000 := by decide)
    (hst : starEach [.Constant (.str y) j c0, .Constant (.str z) k c1, .Constant (.int 1) m c2] X.env = [(false, eval (.Constant (.str y) j c0) X.env), (false, eval (.Constant (.str z) k c1) X.env), (false, eval (.Constant (.int 1) m c2) X.env)] := by rfl)
    (hbase : attributeBase o "replace" X.env (eval o X.env) = eval o X.env := by rfl) (hline : (apos.endLine == pos.line) = true := by rfl) :
    PET X (.Call (.Attribute o "replace" apos) [.Constant (.str y) j c0, .Constant (.str z) k c1, .Constant (.int 1) m c2] [] pos) (tRep1 to y z) := fun pins s σ H Q h0 I h => by
  refine wpAny_Call_method_lateS hbase (by rw [hst]; rfl) hline (wpAny_mono (PySem.wpAny_toks (ho.run pins s σ H _ I h)) (fun v s1 q => ?_) fun _ _ z => z.2)
  rw [hst]
  obtain ⟨hk, v', H1, I1, r1, x, e1, hx, hr, q⟩ := q
  subst e1
  obtain ⟨tx, rfl⟩ := r1
  refine ⟨"str", _, F.plainAttrs_str, F.slot_str_replace, F.type_str_replace, typeIs_str _ _ _, (fun _ e => nomatch e), Calls.callWith_builtin rfl (Calls.evalArgs_plain (Calls.spliced_cons (Calls.Constant_str (k := j) (pos := c0) (Calls.spliced_cons (Calls.Constant_str (k := k) (pos := c1) (Calls.spliced_cons (wpAny_Constant_int (k := m) (pos := c2) (Calls.spliced_nil ?_))))))))⟩
  exact call_rep1 (show s1.toks ≠ 0 by omega) (show s1.toks + 1 ≠ 0 by omega) (show s1.toks ≠ s1.toks + 1 by omega) h2 hx hz hr fun t' m => ⟨.str (rep1 x y z), H1, I1.tok m, ⟨t', rfl⟩, q⟩
def gRep1 (y z : Str) : G1 := fun x _ => match x with
  | .p (.str a) => if (decide (a.length ≤ 100000) && decide ((rep1 a y z).length ≤ 100000)) = true then some (.p (.str (rep1 a y z))) else none
  | _ => none
/-! judgements that want a token -/
theorem PET_imp {t t' : TE} (h : PET X e t) (hi : ∀ σ H Q, t' σ H Q → t σ H Q) : PET X e t' := fun pins s σ H Q h0 I q => h pins s σ H Q h0 I (hi σ H Q q)
theorem PAT_imp {t t' : TA} (h : PAT X es t) (hi : ∀ σ H Q, t' σ H Q → t σ H Q) : PAT X es t' := fun po pins s σ H Q h0 I q => h po pins s σ H Q h0 I (hi σ H Q q)
def QF (X : Cx) (W : WX) (e : Expr) (f : FE) : Prop := PET X e (TF X.K X.mg W f)
def QFA (X : Cx) (W : WX) (es : List Expr) (f : FA) : Prop := PAT X es (TFA X.K X.mg W f)
theorem qf_of (h : PF X W e fe) : QF X W e fe := PET.of h
theorem qf_rep1 (ho : PF X W o fo) (h2 : (y == z) = false := by decide) (hz : z.length ≤ 1000 := by decide)
    (hst : starEach [.Constant (.str y) j c0, .Constant (.str z) k c1, .Constant (.int 1) m c2] X.env = [(false, eval (.Constant (.str y) j c0) X.env), (false, eval (.Constant (.str z) k c1) X.env), (false, eval (.Constant (.int 1) m c2) X.env)] := by rfl)
    (hbase : attributeBase o "replace" X.env (eval o X.env) = eval o X.env := by rfl) (hline : (apos.endLine == pos.line) = true := by rfl) :
    QF X W (.Call (.Attribute o "replace" apos) [.Constant (.str y) j c0, .Constant (.str z) k c1, .Constant (.int 1) m c2] [] pos) (fUn (gRep1 y z) fo) := PET_imp (pet_rep1 ho h2 hz hst hbase hline) fun σ H Q h => by
  obtain ⟨ρ, st, w, sim, er, gd⟩ := h
  refine ⟨ρ, st, w, sim, er, Good.imp (fun x H1 q => ?_) (Good.bind gd)⟩
  obtain ⟨st1, w1, d1, sim1, s1, r1, gd1⟩ := q
  obtain ⟨d, e', l⟩ := lies_of gd1
  unfold gRep1 at e'
  split at e'
  · rename_i x
    split at e'
    · rename_i hc
      rw [Bool.and_eq_true, decide_eq_true_eq, decide_eq_true_eq] at hc
      cases e'
      obtain rfl := rd_str r1
      exact ⟨x, rfl, hc.1, by rw [sizeLine_eq]; omega, l w1 H1 _ .refl sim1 (.p (.str _))⟩
    · cases e'
  · cases e'
theorem qfa_nil : QFA X W [] fNil := PAT_imp pat_nil fun σ H Q ⟨ρ, st, w, sim, er, g⟩ => g w H [] .refl sim .nil
theorem qfa_cons (ha : QF X W a fa) (hr : QFA X W es fr) (hs : starEach (a :: es) X.env = (false, eval a X.env) :: starEach es X.env := by rfl) : QFA X W (a :: es) (fCons fa fr) := PAT_imp (pat_cons ha hr hs) fun σ H Q h => by
  obtain ⟨ρ, st, w, sim, er, gd⟩ := h
  refine ⟨ρ, st, w, sim, er, Good.imp (fun x H1 q => ?_) (Good.bind gd)⟩
  obtain ⟨st1, w1, d1, sim1, s1, r1, gd1⟩ := q
  refine ⟨ρ, st1, w1, sim1, er.mono s1, Good.imp (fun y H2 q => ?_) (Good.bind gd1)⟩
  obtain ⟨st2, w2, d2, sim2, s2, r2, gd2⟩ := q
  exact gd2 w2 H2 _ .refl sim2 (.cons (r1.mono s2) r2)
theorem qf_disp (h : QFA X W es fr) : QF X W (.List es pos) (fPure (fun ρ st => (fr ρ st).bind fun xs st1 => if small xs then .ok xs st1 else .stuck)) := PET_imp (pet_lst h) fun σ H Q hh => by
  obtain ⟨ρ, st, w, sim, er, gd⟩ := tf_pure σ H Q hh
  refine ⟨ρ, st, w, sim, er, Good.imp (fun vs H1 q => ?_) (Good.bind gd)⟩
  obtain ⟨st1, w1, ds, sim1, s1, r1, gd1⟩ := q
  by_cases hs : small ds = true
  · rw [if_pos hs] at gd1
    have hl : vs.length ≤ sizeLine := by rw [← r1.length]; exact small_ok hs
    exact ⟨hl, fun p hp => gd1 w1 H1 vs .refl sim1 r1 p hp hl⟩
  · rw [if_neg hs] at gd1
    exact gd1.elim
theorem qf_op {op : Operator} {r : R2} {g : G2} (ho : OpR X (binaryOp op) r) (hi : Im2 X r g) (ha : QF X W a fa) (hb : QF X W b fb) : QF X W (.BinOp a op b pos) (fOp g fa fb) := PET_imp (pet_op ho ha hb) (tf_op hi)
theorem pet_ix {r : R2} (hr : IxR X r) (ha : PET X a ta) (hb : PE X b tb) (hs : PlainIx b) : PET X (.Subscript a b pos) (tOp r ta tb) := fun pins s σ H Q h0 I h =>
  Subscript_ (thn (ha pins s σ H _ h0 I h) fun v s1 ⟨x, H1, I1, r1, q1⟩ => thn (hb.run pins s1 σ H1 _ I1 q1) fun u s2 ⟨y, H2, I2, r2, q2⟩ => hr a b pins s2 σ H2 x y v u Q I2 r1 r2 q2 (hs _ _))
theorem qf_ix {r : R2} {g : G2} (ho : IxR X r) (hi : Im2 X r g) (ha : QF X W a fa) (hb : PF X W b fb) (hs : PlainIx b := by intro _ _; rfl) : QF X W (.Subscript a b pos) (fOp g fa fb) := PET_imp (pet_ix ho ha hb hs) (tf_op hi)
/-! what gives a token out -/
def PEU (X : Cx) (e : Expr) (t : TE) : Prop := ∀ (pins : List (Addr × Obj)) (s : Shared) (σ : L2.St) (H : Hp) (Q : VK), L2.Inv X pins σ H s → t σ H Q → wpAny (model X.prog X.w) X.A (eval e X.env) (fun v s' => 1 ≤ s'.toks ∧ EP X pins σ Q v s') X.xe s
theorem peu_lst {t : TA} {c : Str} (ha : PA X es t) (hs : starEach (.Constant (.str c) j c0 :: es) X.env = (false, eval (.Constant (.str c) j c0) X.env) :: starEach es X.env := by rfl) : PEU X (.List (.Constant (.str c) j c0 :: es) pos) (tLst (tCons (tC (.str c)) t)) := fun pins s σ H Q I h => by
  refine wpAny_List_spliced ?_
  rw [hs]
  show wpAny _ _ (spliced ((false, eval (.Constant (.str c) j c0) X.env) :: backTo pos (starEach es X.env))) _ _ s
  refine Calls.spliced_cons (Calls.Constant_str (k := j) (pos := c0) ?_)
  refine wpAny_mono (PySem.wpAny_toks (ha.run pos pins { s with toks := s.toks + 1 } σ H _ (I.tok _) h)) (fun us s1 q => ?_) fun _ _ z => z.2
  obtain ⟨hk, xs, H1, I1, r, q⟩ := q
  have hk : s.toks + 1 ≤ s1.toks := hk
  have r' : Vals (.str c :: xs) (.str c s.toks :: us) := .cons ⟨s.toks, rfl⟩ r
  obtain ⟨hz, q⟩ := q
  refine ⟨by rw [← r'.length]; exact hz, by show 1 ≤ s1.toks; omega, .ref s1.heap.objs.size, upd H1 s1.heap.objs.size (.lst (.str c :: xs)), I1.laid (t' := s1.toks) (fun b u e => Heap.get?_push_of_some _ e) (Nat.le_refl _) ?_, rfl, q _ (I1.hok.fresh (Nat.le_refl _))⟩
  exact ⟨hz, _, 0, r', Heap.get?_push_size _ rfl⟩
theorem peu_ix {r : R2} (hr : IxR X r) (ha : PEU X a ta) (hb : PE X b tb) (hs : PlainIx b) : PEU X (.Subscript a b pos) (tOp r ta tb) := fun pins s σ H Q I h =>
  Subscript_ (wpAny_mono (ha pins s σ H _ I h) (fun v s1 ⟨hk, x, H1, I1, r1, q1⟩ => wpAny_mono (PySem.wpAny_toks (hb.run pins s1 σ H1 _ I1 q1)) (fun u s2 ⟨hk2, y, H2, I2, r2, q2⟩ =>
    wpAny_mono (PySem.wpAny_toks (hr a b pins s2 σ H2 x y v u Q I2 r1 r2 q2 (hs _ _))) (fun z s3 ⟨hk3, q3⟩ => ⟨by omega, q3⟩) fun _ _ z => z.2) fun _ _ z => z.2) fun _ _ z => z)
def UF (X : Cx) (W : WX) (e : Expr) (f : FE) : Prop := PEU X e (TF X.K X.mg W f)
theorem uf_disp {c : Str} (h : PFA X W es fr) (hs : starEach (.Constant (.str c) j c0 :: es) X.env = (false, eval (.Constant (.str c) j c0) X.env) :: starEach es X.env := by rfl) : UF X W (.List (.Constant (.str c) j c0 :: es) pos) (fPure (fun ρ st => (fCons (fC (.str c)) fr ρ st).bind fun xs st1 => if small xs then .ok xs st1 else .stuck)) := fun pins s σ H Q I hh =>
  peu_lst h hs pins s σ H Q I (by
    obtain ⟨ρ, st, w, sim, er, gd⟩ := tf_pure σ H Q hh
    have gd1 := Good.bind (Rel := RDs X.K X.mg) gd
    have gd2 := Good.bind (Rel := RD X.K X.mg) gd1
    obtain ⟨st1, w1, d1, sim1, s1, r1, gd3⟩ := gd2 w H (.str c) .refl sim (.p (.str c))
    refine ⟨ρ, st1, w1, sim1, er.mono s1, Good.imp (fun vs H2 q => ?_) (Good.bind gd3)⟩
    obtain ⟨st2, w2, ds, sim2, s2, r2, gd4⟩ := q
    obtain ⟨st3, w3, ds3, sim3, s3, r3, gd5⟩ := gd4 w2 H2 (.str c :: vs) .refl sim2 (.cons (r1.mono s2) r2)
    by_cases hs : small ds3 = true
    · rw [if_pos hs] at gd5
      have hl : (V.str c :: vs).length ≤ sizeLine := by rw [← r3.length]; exact small_ok hs
      exact ⟨hl, fun p hp => gd5 w3 H2 _ .refl sim3 r3 p hp hl⟩
    · rw [if_neg hs] at gd5
      exact gd5.elim)
theorem uf_ix {r : R2} {g : G2} (ho : IxR X r) (hi : Im2 X r g) (ha : UF X W a fa) (hb : PF X W b fb) (hs : PlainIx b := by intro _ _; rfl) : UF X W (.Subscript a b pos) (fOp g fa fb) := fun pins s σ H Q I hh => peu_ix ho ha hb hs pins s σ H Q I (tf_op hi σ H Q hh)
/-! statements -/
def QFSs (X : Cx) (W : WX) (st : List Stmt) (f : FS) : Prop := PSsT X st (TFS X.K X.mg W f)
theorem qfss_cons {sa : Stmt} {ga gb : FS} (h1 : PFS X W sa ga) (h2 : QFSs X W rest gb) : QFSs X W (sa :: rest) (sSeq ga gb) := fun pins s σ H D h0 I q => psst_cons (PST.of h1) h2 pins s σ H D h0 I (tfs_seq q)
theorem qfss_ret (he : QF X W e fe) : QFSs X W [.Return (some e) pos] (sRet fe) := fun pins s σ H D h0 I q => psst_one (pst_ret he) pins s σ H D h0 I (by
  obtain ⟨ρ, st, w, sim, er, gd⟩ := q
  refine ⟨ρ, st, w, sim, er, Good.imp (fun v H1 q => ?_) (good_st er gd)⟩
  obtain ⟨st1, w1, d, sim1, s1, r1, er1, gd1⟩ := q
  exact gd1 w1 H1 v .refl sim1 r1)
theorem pss_up {i : Nat} {x : Str} {pos' : Pos} {u : TS} (hN : X.N.Nodup) (hi : X.N[i]? = some x) (hx : Loc X.env.scope x) (he : PEU X e te) (h2 : PSsT X rest u) (hs : swapsWith e (some (.Name x pos')) pos.line X.env = pure false)
    (hf : X.fn x = true ∨ X.env.scope.names.lookup x = some .local) : PSs X (.Assign [.Name x pos'] e pos :: rest) (tSeq (tAsg te (gName i)) u) := by
  refine ⟨fun pins s σ H D I h => wpAny_execs_cons (wpAny_Assign_Name (wpAny_mono (he pins s σ H _ I h) (fun v s1 q => ?_) fun _ _ z => z) hs)⟩
  obtain ⟨hk, y, H1, I1, r1, q1⟩ := q
  refine wpAny_mono (PySem.wpAny_toks (store_ok (v := y) (u := v) (Q := fun _ s2 => Inv X pins (σ.set i (some y)) H1 s2) I1 hN hi hx r1 (fun _ I2 => I2) hf)) (fun _ s2 q => ?_) fun _ _ z => z.2
  exact h2 pins s2 _ H1 D (Nat.le_trans hk q.1) q.2 q1
theorem pfss_up {i : Nat} {x : Str} {pos' : Pos} {gb : FS} (hN : X.N.Nodup) (he : UF X W e fe) (h2 : QFSs X W rest gb) (hi : X.N[i]? = some x := by rfl) (hx : Loc X.env.scope x := by first | exact .inl rfl | exact .inr rfl) (hs : swapsWith e (some (.Name x pos')) pos.line X.env = pure false := by rfl)
    (hf : X.fn x = true ∨ X.env.scope.names.lookup x = some .local := by first | exact .inl rfl | exact .inr rfl) : PFSs X W (.Assign [.Name x pos'] e pos :: rest) (sSeq (sAsg fe (.nm i)) gb) :=
  PSs_imp (pss_up hN hi hx he h2 hs hf) fun D σ H q => tfs_asg (tfs_seq q)
end
/-! a chained comparison as a test -/
section
variable {X : Cx} {W : WX} {a b c : Expr} {fa fb fc : FE} {ta tb tc : TE} {pos : Pos}
theorem tf_chain {r r' : R2} {g g' : G2} (hi : Im2 X r g) (hi' : Im2 X r' g') (σ : L2.St) (H : Hp) (Q : V → Hp → Prop) (h : TF X.K X.mg W (fChain g g' fa fb fc) σ H Q) : tChain r r' (TF X.K X.mg W fa) (TF X.K X.mg W fb) (TF X.K X.mg W fc) σ H Q := by
  obtain ⟨ρ, st, w, sim, er, gd⟩ := h
  refine ⟨ρ, st, w, sim, er, Good.imp (fun x H1 q => ?_) (Good.bind gd)⟩
  obtain ⟨st1, w1, d1, sim1, s1, r1, gd1⟩ := q
  refine ⟨ρ, st1, w1, sim1, er.mono s1, Good.imp (fun y H2 q => ?_) (Good.bind gd1)⟩
  obtain ⟨st2, w2, d2, sim2, s2, r2, gd2⟩ := q
  split at gd2
  · rename_i e
    refine hi st2 w2 H2 d1 d2 x y _ _ sim2 (r1.mono s2) r2 e fun w' H' v s' sim' rv => ?_
    obtain rfl := rd_bl rv
    refine ⟨true, rfl, ?_⟩
    rw [if_pos rfl]
    refine ⟨ρ, st2, w', sim', ((er.mono s1).mono s2).mono s', Good.imp (fun z H3 q => ?_) (Good.bind (gd2.later s'))⟩
    obtain ⟨st3, w3, d3, sim3, s3, r3, gd3⟩ := q
    obtain ⟨d, e', l⟩ := lies_of gd3
    exact hi' st3 w3 H3 d2 d3 y z Q d sim3 (r2.mono (s'.trans s3)) r3 e' l
  · rename_i e
    refine hi st2 w2 H2 d1 d2 x y _ _ sim2 (r1.mono s2) r2 e fun w' H' v s' sim' rv => ?_
    obtain rfl := rd_bl rv
    refine ⟨false, rfl, ?_⟩
    rw [if_neg Bool.false_ne_true]
    exact gd2 w' H' _ s' sim' (.p (.bl false))
  · exact gd2.elim
theorem pft_chain {op op' : CmpOp} {r r' : R2} {g g' : G2} (ho : OpR X (compareOp op) r) (ho' : OpR X (compareOp op') r') (hi : Im2 X r g) (hi' : Im2 X r' g') (ha : PF X W a fa) (hb : PF X W b fb) (hc : PF X W c fc)
    (hm : lastMarks [op, op'] [b, c] = false := by with_unfolding_all rfl) : PFT X W (.Compare a [op, op'] [b, c] pos) (fTB (fChain g g' fa fb fc)) :=
  PT_imp (pt_chain ho ho' ha hb hc hm) fun σ H Q h => tf_chain hi hi' σ H _ (tft_of σ H Q h)
end
end FB
set_option Elab.async false
set_option linter.all false
set_option maxRecDepth 100000
set_option maxHeartbeats 4000000
/-! FBV: defs that are called where no value is being shown: there str(value) gives the value's text. -/
namespace FB
open PySem PySem.Spec PyProof.Rows L2 RZ
/-- the promise of a def, where no guard stands -/
structure FnG (P : Program) (w : World) (K : PySem.W.Frag) (mg : Str → Option Value) (base : Heap) (k : Nat) (f : Addr) (fd : FuncData) (ps : List Str) (sp : Sp) : Prop where
  many : ∀ vs H Q E, sp vs H Q E → vs.length = ps.length
  goes : ∀ (A : Around) (out : List Env) (s : Shared) (H : Hp) (us : List Value) (vs : List V) (Q : VK) (E : XK), Room k A → A.guards = some [] → Env0 P w K mg base A out s H → BindsTo s fd ⟨us, []⟩ (ps.zip us) → Vals vs us → sp vs H Q E →
    codeAny (model P w) A (.call (.ref f) ⟨us, []⟩) (CR (L2.CX P w) out P w H s Q E) s
section
variable {P : Program} {w : World} {K : PySem.W.Frag} {mg : Str → Option Value} {base : Heap} {x qual : Str} {params : Arguments} {body : List Stmt} {scope : Scope} {f : Addr} {fd : FuncData} {N ps : List Str} {k : Nat} {m : FS}
theorem fnG_of (F : FunD K x qual params body scope [] [] f fd) (S : FnScope N ps scope)
    (hbody : ∀ (cdv : Value) (A : Around) (out : List Env) (s : Shared) (H : Hp) (E : XK), Room k (A.deeper (envOfC qual scope s.heap.objs.size f cdv)) → (A.deeper (envOfC qual scope s.heap.objs.size f cdv)).guards = some [] →
      PFSs (cxOf (L2.CX P w) P w K mg base N qual scope f cdv A out s H E) (fun cv dd _ H' => E cv dd H') body m) : FnG P w K mg base (k + 1) f fd ps (spD K mg ps.length (runD N.length m)) := by
  obtain ⟨oc, od, dV, kV, doc, pm, an, cdv, ct, osl, efd, lk, hcd, _, _⟩ := F.ex
  subst efd
  refine ⟨fun vs H Q E q => q.1, fun A out s H us vs Q E room quiet env bind rel prom => ?_⟩
  have inn : K.In s.heap := env.mod.kin.keeps fun b o q => (env.bs b o q).1
  have free : s.heap.NoLimit := env.mod.nolimit.keeps fun b o q => (env.bs b o q).1
  have kinds : ∀ y ∈ ps.zip us, scope.names.lookup y.1 = some .local ∨ (scope.names.lookup y.1 = some .cell ∧ ((cellsFrom (s.heap.objs.size + 1) scope.names []).lookup y.1).isSome = true) := fun y hy =>
    (S.par y.1 (List.of_mem_zip (show (y.1, y.2) ∈ ps.zip us from hy)).1).elim .inl fun q => .inr ⟨q, PySem.W.cellsFrom_some _ _ _ (.inl q)⟩
  refine codeAny_call_function room.depth (inn _ _ lk) rfl S.co S.gen rfl (PySem.W.codeRec_of inn hcd) (bind _ _ _ _ (wpAny_newFunctionEnv_cells S.kind kinds fun env' he s1 z => ?_))
  subst he
  refine ⟨free.keeps z.toInCall.keep, codeAny_func ?_⟩
  have run := (hbody cdv A out s H E (room.deeper _) quiet).run [] s1 (L2.start N vs) H _ (inv_start (CX := L2.CX P w) S room.hd env prom.1 rel z) (body_ok prom)
  refine wpAny_mono run (fun fl s' q => ?_) fun _ _ q => q
  match fl, q with
  | .ret u, ⟨v, σ', H', J, rv, hq⟩ => exact ⟨v, H', J.os, J.bare, J.base, J.hok, rv, hq⟩
  | .next, ⟨σ', H', J, hq⟩ => exact ⟨.non, H', J.os, J.bare, J.base, J.hok, rfl, hq⟩
  | .brk, ⟨_, _, _, hq⟩ => exact hq.elim
  | .cont, ⟨_, _, _, hq⟩ => exact hq.elim
end
section
variable {X : Cx} {W : WX} {k : Nat} {f : Addr} {fd : FuncData} {ps : List Str} {sp : Sp} {E : L2.St → XK} {x : Str} {p pos : Pos} {e : Expr} {es : List Expr} {t : TA}
theorem goG {pins : List (Addr × Obj)} {σ : L2.St} {H : Hp} {s : Shared} {Q : VK} {us : List Value} {vs : List V} (F : FnG X.prog X.w X.K X.mg X.base k f fd ps sp) (room : Room k X.A) (quiet : X.A.guards = some []) (hb : Binds X.K fd ps []) (hx : PassesAt (L2.CX X.prog X.w) X σ (E σ))
    (I : Inv X pins σ H s) (r : Vals vs us) (h : sp vs H Q (E σ)) : wpAny (model X.prog X.w) X.A (call (.ref f) us) (EP X pins σ Q) X.xe s := by
  have many := F.many _ _ _ _ h
  rw [r.length] at many
  have bind := hb s us I.kIn (by rw [List.append_nil]; exact many)
  rw [List.append_nil] at bind
  have go := F.goes X.A X.stack s H us vs Q (E σ) room quiet I.env0 bind r h
  refine wpAny_call (codeAny_mono go fun res s' q => ?_)
  match res, q with
  | .error v, q => exact hx pins H s v s' I q
  | .ok (.ret u), q => exact I.after q
theorem pe_callG (F : FnG X.prog X.w X.K X.mg X.base k f fd ps sp) (room : Room k X.A) (quiet : X.A.guards = some []) (hg : Gl X x) (hm : X.mg x = some (.ref f)) (hk : PySem.W.keepIn X.K (.ref f) = true) (hb : Binds X.K fd ps []) (hx : ∀ σ, PassesAt (L2.CX X.prog X.w) X σ (E σ))
    (ha : PA X (e :: es) t) (hdb : (x == ("__debug__" : Str)) = false := by decide) (he : starEach (e :: es) X.env = (false, eval e X.env) :: starEach es X.env := by rfl) (hpl : (backTo pos (starEach es X.env)).any (·.1) = false := by rfl) :
    PE X (.Call (.Name x p) (e :: es) [] pos) (tCallS sp E t) :=
  ⟨fun pins s σ H Q I h => wpAny_Call_Name_kw (ld_glob I hg hm (PySem.W.callWith_K (h₀ := X.base) I.ok.mod.kin hk (thn (ha.run pos pins s σ H _ I h) fun us s1 ⟨vs, H1, I1, r, q⟩ => ⟨I1.kIn, goG F room quiet hb (hx σ) I1 r q⟩) he hpl) hdb)⟩
theorem pe_callG0 (F : FnG X.prog X.w X.K X.mg X.base k f fd ps sp) (room : Room k X.A) (quiet : X.A.guards = some []) (hg : Gl X x) (hm : X.mg x = some (.ref f)) (hk : PySem.W.keepIn X.K (.ref f) = true) (hb : Binds X.K fd ps []) (hx : ∀ σ, PassesAt (L2.CX X.prog X.w) X σ (E σ))
    (hdb : (x == ("__debug__" : Str)) = false := by decide) : PE X (.Call (.Name x p) [] [] pos) (tCallS sp E tNil) :=
  ⟨fun pins s σ H Q I h => wpAny_Call_Name_kw (ld_glob I hg hm (PySem.W.callWith_K0 I.kIn hk (goG (us := []) F room quiet hb (hx σ) I .nil h)) hdb)⟩
theorem pf_callG {a : Nat} {F : FD} {fr : FA} (G : FnG X.prog X.w X.K X.mg X.base k f fd ps (spD X.K X.mg a F)) (room : Room k X.A) (quiet : X.A.guards = some []) (hg : Gl X x) (hm : X.mg x = some (.ref f))
    (hk : PySem.W.keepIn X.K (.ref f) = true) (hb : Binds X.K fd ps []) (tk : Takes X W) (ha : PFA X W (e :: es) fr) (hlen : ((e :: es).length == a) = true := by rfl) (hdb : (x == ("__debug__" : Str)) = false := by decide) (he : starEach (e :: es) X.env = (false, eval e X.env) :: starEach es X.env := by rfl) (hpl : (backTo pos (starEach es X.env)).any (·.1) = false := by rfl)
    (hfl : ∀ ρ st, ∀ xs st', fr ρ st = .ok xs st' → xs.length = (e :: es).length) :
    PF X W (.Call (.Name x p) (e :: es) [] pos) (fCall F fr) := PE_imp (pe_callG G room quiet hg hm hk hb (fun σ => passAt tk σ) ha hdb he hpl) fun σ H Q h => by
  obtain ⟨ρ, st, w, sim, er, gd⟩ := h
  have key := Good.bind (Rel := RDs X.K X.mg) gd
  refine ⟨ρ, st, w, sim, er, ?_⟩
  cases ef : fr ρ st with
  | stuck => rw [ef] at key; exact key
  | exc c fs st' => rw [ef] at key; exact key
  | ok xs st' =>
    rw [ef] at key
    intro w1 H1 vs s sim' rv
    obtain ⟨st1, w2, ds, sim1, s1, r1, gd1⟩ := key w1 H1 vs s sim' rv
    refine ⟨?_, ds, st1, w2, sim1, r1, ?_⟩
    · rw [← rv.length, hfl ρ st xs st' ef]
      exact beq_iff_eq.mp hlen
    · cases eF : F ds st1 with
      | ok d st2 => rw [eF] at gd1; exact gd1
      | exc c fs st2 => rw [eF] at gd1; exact gd1
      | stuck => rw [eF] at gd1; exact gd1
theorem pf_callG0 {F : FD} (G : FnG X.prog X.w X.K X.mg X.base k f fd ps (spD X.K X.mg 0 F)) (room : Room k X.A) (quiet : X.A.guards = some []) (hg : Gl X x) (hm : X.mg x = some (.ref f))
    (hk : PySem.W.keepIn X.K (.ref f) = true) (hb : Binds X.K fd ps []) (tk : Takes X W) (hdb : (x == ("__debug__" : Str)) = false := by decide) :
    PF X W (.Call (.Name x p) [] [] pos) (fCall F fNil) := PE_imp (pe_callG0 G room quiet hg hm hk hb (fun σ => passAt tk σ) hdb) fun σ H Q h => by
  obtain ⟨ρ, st, w, sim, er, gd⟩ := h
  refine ⟨rfl, [], st, w, sim, .nil, ?_⟩
  have gd : Good (RD X.K X.mg) X.K X.mg W σ st.length w H Q (F [] st) := gd
  cases eF : F [] st with
  | ok d st2 => rw [eF] at gd; exact gd
  | exc c fs st2 => rw [eF] at gd; exact gd
  | stuck => rw [eF] at gd; exact gd
end
/-! ### the law's call -/
section
variable {P : Program} {w : World} {K : PySem.W.Frag} {mg mb : Str → Option Value} {k : Nat} {fa a : Addr} {fd : FuncData} {x : Str} {sp : Sp} {t₁ : Shared} {vs : List Value} {ns : List Int}
abbrev scrO (vs : List Value) : Obj := { cls := .type "list", data := .seq vs.toArray }
/-- the script alone is tracked, if the module does not hold it -/
def scrH (K : PySem.W.Frag) (a : Addr) (vs : List Value) (ns : List Int) : Hp := fun b => if b = a ∧ K.lookup a = none then some (.frz (scrO vs) (.lst (ns.map V.int))) else none
theorem scrH_some {b : Addr} {u : HO} (h : scrH K a vs ns b = some u) : b = a ∧ K.lookup a = none ∧ u = .frz (scrO vs) (.lst (ns.map V.int)) := by
  unfold scrH at h
  split at h
  · rename_i q
    exact ⟨q.1, q.2, (Option.some.inj h).symm⟩
  · cases h
theorem scrH_only : Only (scrH K a vs ns) := fun b => by
  cases h : scrH K a vs ns b with
  | none => exact .inl rfl
  | some u => obtain ⟨_, _, rfl⟩ := scrH_some h; exact .inr ⟨_, _, rfl⟩
theorem scrH_none {b : Addr} (h : ∀ u, scrH K a vs ns b ≠ some u) : scrH K a vs ns b = none := by
  cases q : scrH K a vs ns b with
  | none => rfl
  | some u => exact absurd q (h u)
theorem scr_ns {b : Addr} {m : Str → Option Value} (ha : t₁.heap.get? a = some (scrO vs)) (n : t₁.heap.Ns b m) : (hidT t₁.heap (scrH K a vs ns)).Ns b m := by
  obtain ⟨o, es, ep, e, d, r⟩ := n
  refine ⟨o, es, ep, hidT_get e (scrH_none fun u q => ?_), d, r⟩
  rw [(scrH_some q).1, ha] at e
  cases e
  have z : Data.seq vs.toArray _ = Data.dict es ep := d
  cases z
theorem law_callG (KX : K.In t₁.heap) (hns : t₁.heap.Ns mainGlobals mg) (hb : t₁.heap.Ns builtinsNs mb) (hbb : ∀ x : Str, x ≠ "__name__" → mb x = bootBuiltins x) (hlim : t₁.heap.NoLimit) (hg : t₁.gens = #[])
    (ha : t₁.heap.get? a = some (scrO vs)) (hi : IntsAre vs ns) (hl : ns.length ≤ sizeLine) (room : Room k callerA) (F : ∀ base : Heap, K.In base → base.Ns mainGlobals mg → FnG P w K mg base k fa fd [x] sp) (hbind : ∀ (s : Shared) (u : Value), BindsTo s fd ⟨[u], []⟩ [(x, u)])
    (hsp : ∀ H : Hp, Only H → SqL K H a (ns.map V.int) → sp [.ref a] H (fun v _ => v = .bl true) fun _ _ _ => False) :
    codeAny (model P w) callerA (.call (.ref fa) ⟨[.ref a], []⟩) (fun r s' => r = .ok (.ret (.bool true)) ∧ OldK t₁.heap s'.heap ∧ s'.os = t₁.os ∧ AllBare s'.gens) t₁ := by
  have rel := vals_ints hi
  have kin : K.In (hidT t₁.heap (scrH K a vs ns)) := fun b o e => hidT_get (KX b o e) (scrH_none fun u q => by
    obtain ⟨q1, q2, _⟩ := scrH_some q
    rw [q1, q2] at e
    cases e)
  have gns := scr_ns (K := K) (ns := ns) ha hns
  have mod : Mod K mg (hidT t₁.heap (scrH K a vs ns)) := ⟨kin, gns, ⟨mb, scr_ns ha hb, hbb⟩, hlim.elim fun mc q => ⟨mc, scr_ns ha q.1, q.2⟩⟩
  have hok : HOk P w (scrH K a vs ns) t₁.heap := fun b u e => by
    obtain ⟨rfl, _, rfl⟩ := scrH_some e
    exact ⟨ha, by rw [List.length_map]; exact hl, vs, _, rel, ha⟩
  have seq : SqL K (scrH K a vs ns) a (ns.map V.int) := by
    cases q : K.lookup a with
    | none => exact .inl (.inr ⟨scrO vs, if_pos ⟨rfl, q⟩⟩)
    | some o =>
      have e := KX a o q
      rw [ha] at e
      cases e
      exact .inr ⟨_, vs.toArray, _, q, rfl, rfl, rfl, by rw [List.size_toArray, hi.length]; exact hl, by simpa using rel⟩
  have env : Env0 P w K mg (hidT t₁.heap (scrH K a vs ns)) callerA [] t₁ (scrH K a vs ns) :=
    ⟨rfl, mod, fun b o e => of_hidT e, Nat.le_of_eq (hidT_size _ _), trivial, fun b q => absurd (show b ∈ ([] : List Addr) from q) (by simp), hok, .of_eq hg⟩
  have go := (F _ kin gns).goes callerA [] t₁ (scrH K a vs ns) [.ref a] [.ref a] _ _ room rfl env (hbind t₁ (.ref a)) (.cons rfl .nil) (hsp _ scrH_only seq)
  refine codeAny_mono go fun res s' q => ?_
  match res, q with
  | .error e, ⟨_, _, _, _, _, _, _, _, _, _, _, _, q⟩ => exact q.elim
  | .ok (.ret u), ⟨v, H', os, bare, un, ok', rv, q⟩ =>
    have q : v = .bl true := q
    subst q
    obtain rfl : u = Value.bool true := rv
    refine ⟨rfl, OldK.of_keep fun b o e => ?_, os, bare⟩
    cases hb' : scrH K a vs ns b with
    | none => exact un.keep b o e hb' (fun z => absurd (show b ∈ ([] : List Addr) from z) (by simp)) (by simp)
    | some y =>
      obtain ⟨_, _, rfl⟩ := scrH_some hb'
      have e1 := (hok b _ hb').1
      rw [e] at e1
      cases e1
      exact (ok' b _ (un.frzs b _ _ hb')).1
end
theorem walk_ofG {l : PySem.W.OpenLaw} {n k : Nat} {q : Program} {loose : List Str} {XP : (Str → Option Value) → Heap → Prop} {YP : World → Heap → Prop} {d : DefRec} {x : Str}
    (hn : l.most = some n) (hn2 : n ≤ sizeLine) (hdf : d.params.defaults = []) (room : Room k callerA)
    (F : ∀ (w : World) (mg : Str → Option Value) (fa : Addr) (h : Heap), YP w h → h.Ns mainGlobals mg → mg d.name = some (.ref fa) →
      ∃ (K : PySem.W.Frag) (fd : FuncData) (sp : Sp), K.In h ∧ (∀ (s : Shared) (u : Value), BindsTo s fd ⟨[u], []⟩ [(x, u)]) ∧
        (∀ (H : Hp) (a : Addr) (ns : List Int), ns.length ≤ n → Only H → SqL K H a (ns.map V.int) → sp [.ref a] H (fun v _ => v = .bl true) fun _ _ _ => False) ∧
        ∀ base : Heap, K.In base → base.Ns mainGlobals mg → FnG l.prog w K mg base k fa fd [x] sp) :
    PySem.W.WalkO q loose XP YP l.row.toRowW d [] (fun f vs => PySem.call f vs) := by
  refine Att.attach_call hn hdf fun w s₀ t₁ mg mb fa o pm cd doc a vs ns G Y ho hd hcd hmg hobj hints hlen hg => ?_
  obtain ⟨K, fd, sp, KX, hb, hsp, hF⟩ := F w mg fa _ Y G.T.g hmg
  exact law_callG KX G.T.g G.T.b G.T.builtins G.T.nolimit hg hobj hints (Nat.le_trans hlen hn2) room hF hb fun H hO hS => hsp H a ns hlen hO hS
end FB
set_option Elab.async false
set_option linter.all false
set_option maxRecDepth 100000
set_option maxHeartbeats 4000000
/-! FBY: str(value), for data whose dicts are empty. -/
namespace FB
open PySem PySem.Spec PyProof.Rows L2 RZ
mutual
/-- what can be shown: any data (keys of dicts: ints and texts) -/
def bareD : PyData → Bool
  | .dict kvs => bareK kvs
  | .list xs => bareAll xs
  | .tuple xs => bareAll xs
  | .none => true
  | .bool _ => true
  | .int _ => true
  | .str _ => true
def bareAll : List PyData → Bool
  | [] => true
  | x :: xs => bareD x && bareAll xs
def bareK : List (PyData × PyData) → Bool
  | [] => true
  | (_, v) :: r => bareD v && bareK r
end
section
variable {X : Cx} {pins : List (Addr × Obj)} {σ : L2.St} {H : Hp} {s : Shared} {J : Addr → Prop}
theorem sys_off (I : Inv X pins σ H s) (hS : (X.K.lookup sysModules).isSome = true) {b : Addr} {u : HO} (h : H b = some u) : sysModules ≠ b := fun e => by
  obtain ⟨o, ho⟩ := Option.isSome_iff_exists.mp hS
  have q := (I.bs sysModules o (I.ok.mod.kin _ _ ho)).2
  rw [e, h] at q
  cases q
mutual
theorem RP.reads (I : Inv X pins σ H s) (hS : (X.K.lookup sysModules).isSome = true) : ∀ {d : PyData} {v : V} {u : Value}, RP X.K J H d v → RelV v u → bareD d = true → ∃ as, Reads s.heap u d as ∧ sysModules ∉ as
  | _, _, _, .non, r, _ => by cases r; exact ⟨_, Reads.none, by simp⟩
  | _, _, _, .bl b, r, _ => by cases r; exact ⟨_, Reads.bool b, by simp⟩
  | _, _, _, .int i, r, _ => by obtain ⟨t, rfl⟩ := r; exact ⟨_, Reads.int i t, by simp⟩
  | _, _, _, .str x, r, _ => by obtain ⟨t, rfl⟩ := r; exact ⟨_, Reads.str x t, by simp⟩
  | _, _, _, .lst h hs, r, e => by
    cases r
    obtain ⟨its, rv, ⟨o, n, ho, hc, _, hd⟩, _⟩ := I.list (SL.sq (K := X.K) h)
    obtain ⟨as, q1, q2⟩ := RPs.reads I hS hs rv (by simpa only [bareD] using e)
    refine ⟨_, Reads.list ho hc hd q1, fun z => ?_⟩
    rcases List.mem_cons.mp z with z | z
    · exact sys_off I hS h.2 z
    · exact q2 z
  | _, _, _, .tup h hs, r, e => by
    cases r
    obtain ⟨its, rv, ⟨o, ho, hc, n, hd⟩, _⟩ := I.tuple (ST.sq h)
    obtain ⟨as, q1, q2⟩ := RPs.reads I hS hs rv (by simpa only [bareD] using e)
    exact ⟨_, Reads.tuple ho hc hd q1, q2⟩
  | _, _, _, .dct (ds := ds) hI hH hk, r, e => by
    cases r
    obtain ⟨_, hsys, vs, rel, dd⟩ := dk_of I.hok hH
    obtain ⟨o, es, ep, ho, hx, hd, _, hp, _⟩ := dd
    obtain ⟨as, bs, q1, q2, n1, n2⟩ := RPk.reads I hS hk rel hp (by simpa only [bareD] using e)
    refine ⟨_, Reads.dict ho hx.1 hd q1 q2, fun z => ?_⟩
    rcases List.mem_append.mp z with z | z
    · rcases List.mem_cons.mp z with z | z
      · exact sys_off I hS hH z
      · exact n1 z
    · exact n2 z
theorem RPs.reads (I : Inv X pins σ H s) (hS : (X.K.lookup sysModules).isSome = true) : ∀ {ds : List PyData} {vs : List V} {us : List Value}, RPs X.K J H ds vs → Vals vs us → bareAll ds = true → ∃ as, ReadsAll s.heap us ds as ∧ sysModules ∉ as
  | _, _, _, .nil, r, _ => by cases r; exact ⟨_, ReadsAll.nil, by simp⟩
  | _, _, _, .cons h hs, r, e => by
    cases r with
    | cons r1 r2 =>
      simp only [bareAll, Bool.and_eq_true] at e
      obtain ⟨as, q1, q2⟩ := RP.reads I hS h r1 e.1
      obtain ⟨bs, p1, p2⟩ := RPs.reads I hS hs r2 e.2
      exact ⟨_, ReadsAll.cons q1 p1, fun z => (List.mem_append.mp z).elim q2 p2⟩
theorem RPk.reads (I : Inv X pins σ H s) (hS : (X.K.lookup sysModules).isSome = true) : ∀ {ds : List (PyData × PyData)} {kvs : List (Key × V)} {vs : List (Key × Value)} {es : List DictEntry}, RPk X.K J H ds kvs → KV kvs vs → Pairs (mixKind X.prog X.w) es vs → bareK ds = true →
    ∃ as bs, ReadsAll s.heap (es.map (·.key)) (ds.map (·.1)) as ∧ ReadsAll s.heap (es.map (·.val)) (ds.map (·.2)) bs ∧ sysModules ∉ as ∧ sysModules ∉ bs
  | _, _, _, _, .nil, r, p, _ => by
    cases r
    cases p
    exact ⟨_, _, ReadsAll.nil, ReadsAll.nil, by simp, by simp⟩
  | _, _, _, [], .cons _ _, r, p, _ => by
    cases r
    cases p
  | _, _, _, en :: _, .cons (k := k) h hs, r, p, e => by
    cases r with
    | cons r1 r2 =>
      cases p with
      | cons pk pv p2 =>
        obtain ⟨rk, rv⟩ := r1
        simp only [bareK, Bool.and_eq_true] at e
        obtain ⟨b1, y1, y2⟩ := RP.reads I hS h rv e.1
        obtain ⟨as, bs, q1, q2, n1, n2⟩ := RPk.reads I hS hs r2 p2 e.2
        have kr : ∃ a1, Reads s.heap en.key (keyP k) a1 ∧ sysModules ∉ a1 := by
          have pk : keyIs k en.key = true := by
            have rk : k = _ := rk
            rw [rk]; exact pk
          rcases keyIs_shape pk with ⟨i, t, rfl, ev⟩ | ⟨x, t, rfl, ev⟩
          · exact ⟨[], ev ▸ Reads.int i t, by simp⟩
          · exact ⟨[], ev ▸ Reads.str x t, by simp⟩
        obtain ⟨a1, z1, z2⟩ := kr
        exact ⟨_, _, ReadsAll.cons z1 q1, ReadsAll.cons (by show Reads s.heap en.val _ b1; rw [pv]; exact y1) q2, fun z => (List.mem_append.mp z).elim z2 n1, fun z => (List.mem_append.mp z).elim y2 n2⟩
end
end
/-- what str gives -/
def strD : PyData → Str
  | .str x => x
  | d => d.shown
def strOk (d : PyData) : Bool := bareD d && (d.showable && (decide (d.depth ≤ 50) && decide (d.shown.length ≤ 1000000)))
def rStrD (K : PySem.W.Frag) : List V → Hp → VK → Prop := fun xs H Q => ∃ (v : V) (d : PyData) (J : Addr → Prop), xs = [v] ∧ RP K J H d v ∧ strOk d = true ∧ Q (.str (strD d)) H
section
variable {X : Cx}
theorem call_strD (hS : (X.K.lookup sysModules).isSome = true) (quiet : X.A.guards = some []) (hu : X.A.units + 65 < cLine) : CallR X (.type "str") (rStrD X.K) := by
  intro pins s σ H xs us Q I r h
  obtain ⟨v, d, J, rfl, rp, ok, q⟩ := h
  obtain ⟨u, rfl, ru⟩ := vals1 r
  unfold strOk at ok
  rw [Bool.and_eq_true, Bool.and_eq_true, Bool.and_eq_true, decide_eq_true_eq, decide_eq_true_eq] at ok
  obtain ⟨o1, o2, o3, o4⟩ := ok
  have big : ∀ {a : Addr} {ds : PyData}, bareD ds = true → ds.showable = true → ds.depth ≤ 50 → ds.shown.length ≤ 1000000 → RP X.K J H ds (.ref a) → Q (.str ds.shown) H → wpAny (model X.prog X.w) X.A (call (.type "str") [.ref a]) (EP X pins σ Q) X.xe s := fun {a ds} o1 o2 o3 o4 rp q => by
    obtain ⟨as, rd, off⟩ := RP.reads I hS rp (u := .ref a) rfl o1
    refine str_of_reads rd o2 (fun _ => off) quiet (by omega) (fun _ _ e => e) (fun h' t tk keep => ⟨.str ds.shown, H, I.kept keep, ⟨_, rfl⟩, q⟩) (Nat.le_trans o4 (by rw [sizeLine_eq]; decide))
  cases rp with
  | non =>
    cases ru
    exact PySem.P.str_of_none ⟨.str "None", H, I.tok _, ⟨_, rfl⟩, by simpa only [strD, PyData.shown] using q⟩
  | bl b =>
    cases ru
    exact PySem.P.str_of_bool ⟨.str (if b then "True" else "False"), H, I.tok _, ⟨_, rfl⟩, by simpa only [strD, PyData.shown] using q⟩
  | int i =>
    obtain ⟨t, rfl⟩ := ru
    exact PySem.P.str_of_int (by simpa only [PyData.showable, decide_eq_true_eq] using o2) ⟨.str (toString i), H, I.tok _, ⟨_, rfl⟩, by simpa only [strD, PyData.shown] using q⟩
  | str x =>
    obtain ⟨t, rfl⟩ := ru
    exact PySem.P.str_of_str ⟨.str x, H, I, ⟨t, rfl⟩, q⟩
  | lst h hs =>
    cases ru
    exact big o1 o2 o3 o4 (.lst h hs) q
  | tup h hs =>
    cases ru
    exact big o1 o2 o3 o4 (.tup h hs) q
  | dct h1 h2 h3 =>
    cases ru
    exact big o1 o2 o3 o4 (.dct h1 h2 h3) q
def gStr : GA := fun xs st => match xs with
  | [.p d] => if strOk d = true then some (.p (.str (strD d))) else none
  | [.ref i] => match datOf (.ref i) st with
    | some d => if strOk d = true then some (.p (.str (strD d))) else none
    | none => none
  | _ => none
theorem im_strD : ImA X (rStrD X.K) gStr := fun st w H xs vs Q d sim r h l => by
  unfold gStr at h
  split at h
  · rename_i d
    split at h
    · rename_i ok
      cases h
      obtain ⟨v, rfl, rv⟩ := rds1 r
      cases rv with
      | p rp => exact ⟨v, d, w.I, rfl, rp, ok, l w H _ .refl sim (.p (.str _))⟩
    · cases h
  · rename_i i
    split at h
    · rename_i d e
      split at h
      · rename_i ok
        cases h
        obtain ⟨v, rfl, rv⟩ := rds1 r
        cases rv
        unfold datOf at e
        dsimp only at e
        split at e
        · rename_i xs ex
          obtain ⟨ys, ey, rfl⟩ := Option.map_eq_some_iff.mp e
          obtain ⟨vs, e1, r1, _⟩ := sim.cell i _ ex
          have rp := RDs.toP r1 ey
          refine ⟨_, _, fun a => w.I a ∨ a = w.m i, rfl, .lst ⟨.inr rfl, e1⟩ (RPs.mono ⟨fun a h => .inl h, fun a u _ h => h⟩ rp), ok, l w H _ .refl sim (.p (.str _))⟩
        · cases e
      · cases h
    · cases h
  · cases h
end
/-! ### a head that looks at the modules' dict, too -/
def obsYG (n : Nat) (fa : List He.Fa) (fn : List He.DefD) (ex : List (PySem.W.Frag → Bool)) (g : Addr → Option Obj) : He.AlD := obsX fa fn ex (He.frG g (sysModules :: He.asD g n))
def hookY (n : Nat) (fa : List He.Fa) (fn : List He.DefD) (ex : List (PySem.W.Frag → Bool)) : PySem.W.Hook where
  α := He.AlD
  obs := fun s => obsYG n fa fn ex s.heap.get?
  val := fun _ => He.valD fn
  says := fun _ h => ∃ K : PySem.W.Frag, K.In h ∧ SaysX fa fn ex K
  of := fun _ _ e => ⟨_, He.frG_in, e⟩
  keeps := fun _ _ _ ⟨K, hK, c⟩ k => ⟨K, PySem.W.Frag.In.keeps hK k, c⟩
theorem obsYG_eq {n : Nat} {fa : List He.Fa} {fn : List He.DefD} {ex : List (PySem.W.Frag → Bool)} {g : Addr → Option Obj} {s : Shared} (h : ∀ a, g a = s.heap.get? a) : obsYG n fa fn ex g = (hookY n fa fn ex).obs s := by
  have e : g = s.heap.get? := funext h
  rw [e] <;> rfl
def sysB (K : PySem.W.Frag) : Bool := (K.lookup sysModules).isSome
end FB
set_option Elab.async false
set_option linter.all false
set_option maxRecDepth 100000
set_option maxHeartbeats 4000000
/-! FXJ: a head that looks at the table of statics, too. -/
namespace FB
open PySem PySem.Spec PyProof.Rows L2 RZ
def obsZG (n : Nat) (fa : List He.Fa) (fn : List He.DefD) (ex : List (PySem.W.Frag → Bool)) (g : Addr → Option Obj) : He.AlD := obsX fa fn ex (He.frG g (sysModules :: cStatics :: He.asD g n))
def hookZ (n : Nat) (fa : List He.Fa) (fn : List He.DefD) (ex : List (PySem.W.Frag → Bool)) : PySem.W.Hook where
  α := He.AlD
  obs := fun s => obsZG n fa fn ex s.heap.get?
  val := fun _ => He.valD fn
  says := fun _ h => ∃ K : PySem.W.Frag, K.In h ∧ SaysX fa fn ex K
  of := fun _ _ e => ⟨_, He.frG_in, e⟩
  keeps := fun _ _ _ ⟨K, hK, c⟩ k => ⟨K, PySem.W.Frag.In.keeps hK k, c⟩
theorem obsZG_eq {n : Nat} {fa : List He.Fa} {fn : List He.DefD} {ex : List (PySem.W.Frag → Bool)} {g : Addr → Option Obj} {s : Shared} (h : ∀ a, g a = s.heap.get? a) : obsZG n fa fn ex g = (hookZ n fa fn ex).obs s := by
  have e : g = s.heap.get? := funext h
  rw [e] <;> rfl
end FB
set_option Elab.async false
set_option linter.all false
set_option maxRecDepth 100000
set_option maxHeartbeats 4000000
/-! FXK: a text, also the empty one, times a small number. -/
namespace FB
open PySem PySem.Spec PyProof.Rows L2 RZ
def gMulE : G2 := fun x y st => match x, y with
  | .p (.str a), .p (.int k) => if a.length = 0 ∧ 1 ≤ k ∧ k ≤ 1000 then some (.p (.str a)) else gMulS x y st
  | x, y => gMulS x y st
def rMulZ : R2 := fun x y H Q => ∃ (a : Str) (k : Int), x = .str a ∧ y = .int k ∧ a.length = 0 ∧ 1 ≤ k ∧ k ≤ 1000 ∧ Q (.str a) H
section
variable {X : Cx}
theorem op_mulZ : OpR X (binaryOp .Mult) rMulZ := by
  intro pins s σ H x y v u Q I rx ry h
  obtain ⟨a, k, rfl, rfl, h0, h1, h2, q⟩ := h
  obtain ⟨t, rfl⟩ := rx
  obtain ⟨t', rfl⟩ := ry
  have e0 : (k == 1 || a.length == 0) = true := by rw [h0]; simp
  refine PySem.P.mul_str (by rw [decide_eq_false (by omega), decide_eq_false (by omega)]; rfl) (fun _ z => ?_) (fun _ z => ?_) ?_
  · rw [e0] at z; cases z
  · rw [e0] at z; cases z
  · rw [if_neg (by omega), e0, if_pos rfl]
    exact ⟨.str a, H, I, ⟨t, rfl⟩, q⟩
def rMulE : R2 := fun x y H Q => rMulZ x y H Q ∨ rMulT x y H Q
theorem op_mulE : OpR X (binaryOp .Mult) rMulE := op_mulZ.or op_mulT
theorem im_mulE : Im2 X rMulE gMulE := fun st w H x y vx vy Q d sim rx ry h l => by
  unfold gMulE at h
  split at h
  · rename_i a k
    split at h
    · rename_i hc
      cases h
      obtain rfl := rd_str rx
      obtain rfl := rd_int ry
      exact .inl ⟨a, k, rfl, rfl, hc.1, hc.2.1, hc.2.2, l w H _ .refl sim (.p (.str a))⟩
    · exact .inr (im_mulS st w H _ _ vx vy Q d sim rx ry h l)
  · exact .inr (im_mulS st w H _ _ vx vy Q d sim rx ry h l)
end
end FB
set_option Elab.async false
set_option linter.all false
set_option maxRecDepth 100000
set_option maxHeartbeats 4000000
/-! FBZ: how often a value stands in a tuple. -/
namespace FB
open PySem PySem.Spec PyProof.Rows L2 RZ
def cntOk (ds : List PyData) (d : PyData) : Bool := PyData.plainAll ds && (d.plain && (bareAll ds && (bareD d && decide (PyData.depthAll ds ≤ 50))))
def rCntT (K : PySem.W.Frag) : V → List V → Hp → VK → Prop := fun x xs H Q => ∃ (p : Addr) (us : List V) (ds : List PyData) (y : V) (d : PyData) (J J' : Addr → Prop), x = .ref p ∧ xs = [y] ∧ ST K J H p us ∧ RPs K J H ds us ∧ RP K J' H d y ∧ cntOk ds d = true ∧ Q (.int ((ds.countP fun z => PyData.eqv z d : Nat) : Int)) H
section
variable {X : Cx} {W : WX} {a e : Expr} {es : List Expr} {fa : FE} {fr : FA} {apos cpos : Pos}
theorem mt_cntT (hS : (X.K.lookup sysModules).isSome = true) (hu : X.A.units + 65 < cLine) : MtR X "tuple.count" (rCntT X.K) := by
  intro pins s σ H x xs v vs Q I rx rs h
  obtain ⟨p, us, ds, y, d, J, J', rfl, rfl, st, hr, hy, ok, q⟩ := h
  cases rx
  obtain ⟨u, rfl, ru⟩ := vals1 rs
  unfold cntOk at ok
  rw [Bool.and_eq_true, Bool.and_eq_true, Bool.and_eq_true, Bool.and_eq_true, decide_eq_true_eq] at ok
  obtain ⟨o1, o2, o3, o4, o5⟩ := ok
  obtain ⟨its, rv, tp, _⟩ := I.tuple (ST.sq st)
  obtain ⟨as, r1, _⟩ := RPs.reads I hS hr rv o3
  obtain ⟨bs, r2, _⟩ := RP.reads I hS hy ru o4
  exact PySem.SeqAt.count_tuple_data (vs := its.toArray) tp (by simpa using r1) r2 o1 o2 (by have := Nat.min_le_left (PyData.depthAll ds) d.depth; omega) ⟨.int _, H, I.tok _, ⟨_, rfl⟩, q⟩
def gCountT (x : Dv) (ys : List Dv) : Option Dv := match x, ys with
  | .p (.tuple ds), [.p d] => if cntOk ds d = true then some (.p (.int ((ds.countP fun z => PyData.eqv z d : Nat) : Int))) else none
  | _, _ => none
def fCountT (fa : FE) (fr : FA) : FE := fun ρ st => (fa ρ st).bind fun x st1 => match x with
  | .p (.tuple ds) => (fr ρ st1).bind fun xs st2 => toR st2 (gCountT (.p (.tuple ds)) xs)
  | _ => .stuck
theorem pf_countT (hS : (X.K.lookup sysModules).isSome = true) (hu : X.A.units + 65 < cLine) (ho : PF X W a fa) (ha : PFA X W (e :: es) fr) (hbase : attributeBase a "count" X.env (eval a X.env) = eval a X.env := by rfl)
    (hfew : ((backTo cpos (starEach (e :: es) X.env)).all (fun x => !x.1) && (backToKw cpos (keywordEach [] X.env)).all (fun x => x.1.isSome)
      && decide ((e :: es).length + ([] : List Keyword).length + (if ([] : List Keyword).isEmpty then 0 else 1) < 30)) = true := by rfl)
    (hline : (apos.endLine == cpos.line) = true := by rfl) (hs : starEach (e :: es) X.env = (false, eval e X.env) :: starEach es X.env := by rfl) (hplain : (backTo cpos (starEach es X.env)).any (·.1) = false := by rfl) :
    PF X W (.Call (.Attribute a "count" apos) (e :: es) [] cpos) (fCountT fa fr) := PE_imp (pe_tm PySem.F.plainAttrs_tuple PySem.F.slot_tuple_count PySem.F.type_tuple_count (mt_cntT hS hu) ho ha hbase hfew hline hs hplain) fun σ H Q h => by
  obtain ⟨ρ, st, w, sim, er, gd⟩ := h
  refine ⟨ρ, st, w, sim, er, Good.imp (fun x H1 q => ?_) (Good.bind gd)⟩
  obtain ⟨st1, w1, d1, sim1, s1, r1, gd1⟩ := q
  split at gd1
  · rename_i ds
    cases r1 with
    | p q0 =>
    cases q0 with
    | tup hs0 hr0 =>
    rename_i p us
    refine ⟨⟨p, us, rfl, hs0.tm⟩, ρ, st1, w1, sim1, er.mono s1, Good.imp (fun vs H2 q => ?_) (Good.bind gd1)⟩
    obtain ⟨st2, w2, d2, sim2, s2, r2, gd2⟩ := q
    obtain ⟨d, e', l⟩ := lies_of gd2
    unfold gCountT at e'
    split at e'
    · rename_i ds' z e0
      cases e0
      obtain ⟨v, rfl, rv⟩ := rds1 r2
      split at e'
      · rename_i hc
        cases e'
        cases rv with
        | p rz => exact ⟨p, us, ds, v, z, w2.I, w2.I, rfl, rfl, hs0.mono s2.gro, hr0.mono s2.gro, rz, hc, l w2 H2 _ .refl sim2 (.p (.int _))⟩
      · cases e'
    · cases e'
  · exact gd1.elim
end
end FB
set_option Elab.async false
set_option linter.all false
set_option maxRecDepth 100000
set_option maxHeartbeats 4000000
namespace FB.K04
open PySem PySem.Spec PyProof.Rows L2 RZ FB
abbrev ti_FrontBackError : List (Str × Bool) := [("FrontBackError", true), ("InvalidFences", true), ("InvalidMeaning", true), ("InvalidNames", true), ("InvalidNumber", true), ("InvalidOperation", true), ("InvalidProgram", true), ("InvalidResults", true), ("InvalidRow", true), ("InvalidRows", true), ("InvalidText", true), ("InvalidWord", true), ("Locked", true), ("NoProgram", true), ("NoSource", true), ("NothingToUndo", true), ("TooLarge", true)]
abbrev ti_InvalidFences : List (Str × Bool) := [("FrontBackError", false), ("InvalidFences", true), ("InvalidMeaning", false), ("InvalidNames", false), ("InvalidNumber", false), ("InvalidOperation", false), ("InvalidProgram", false), ("InvalidResults", false), ("InvalidRow", false), ("InvalidRows", false), ("InvalidText", false), ("InvalidWord", false), ("Locked", false), ("NoProgram", false), ("NoSource", false), ("NothingToUndo", false), ("TooLarge", false)]
abbrev ti_InvalidMeaning : List (Str × Bool) := [("FrontBackError", false), ("InvalidFences", false), ("InvalidMeaning", true), ("InvalidNames", false), ("InvalidNumber", false), ("InvalidOperation", false), ("InvalidProgram", false), ("InvalidResults", false), ("InvalidRow", false), ("InvalidRows", false), ("InvalidText", false), ("InvalidWord", false), ("Locked", false), ("NoProgram", false), ("NoSource", false), ("NothingToUndo", false), ("TooLarge", false)]
abbrev ti_InvalidNames : List (Str × Bool) := [("FrontBackError", false), ("InvalidFences", false), ("InvalidMeaning", false), ("InvalidNames", true), ("InvalidNumber", false), ("InvalidOperation", false), ("InvalidProgram", false), ("InvalidResults", false), ("InvalidRow", false), ("InvalidRows", false), ("InvalidText", false), ("InvalidWord", false), ("Locked", false), ("NoProgram", false), ("NoSource", false), ("NothingToUndo", false), ("TooLarge", false)]
abbrev ti_InvalidNumber : List (Str × Bool) := [("FrontBackError", false), ("InvalidFences", false), ("InvalidMeaning", false), ("InvalidNames", false), ("InvalidNumber", true), ("InvalidOperation", false), ("InvalidProgram", false), ("InvalidResults", false), ("InvalidRow", false), ("InvalidRows", false), ("InvalidText", false), ("InvalidWord", false), ("Locked", false), ("NoProgram", false), ("NoSource", false), ("NothingToUndo", false), ("TooLarge", false)]
abbrev ti_InvalidOperation : List (Str × Bool) := [("FrontBackError", false), ("InvalidFences", false), ("InvalidMeaning", false), ("InvalidNames", false), ("InvalidNumber", false), ("InvalidOperation", true), ("InvalidProgram", false), ("InvalidResults", false), ("InvalidRow", false), ("InvalidRows", false), ("InvalidText", false), ("InvalidWord", false), ("Locked", false), ("NoProgram", false), ("NoSource", false), ("NothingToUndo", false), ("TooLarge", false)]
abbrev ti_InvalidProgram : List (Str × Bool) := [("FrontBackError", false), ("InvalidFences", false), ("InvalidMeaning", false), ("InvalidNames", false), ("InvalidNumber", false), ("InvalidOperation", false), ("InvalidProgram", true), ("InvalidResults", false), ("InvalidRow", false), ("InvalidRows", false), ("InvalidText", false), ("InvalidWord", false), ("Locked", false), ("NoProgram", false), ("NoSource", false), ("NothingToUndo", false), ("TooLarge", false)]
abbrev ti_InvalidResults : List (Str × Bool) := [("FrontBackError", false), ("InvalidFences", false), ("InvalidMeaning", false), ("InvalidNames", false), ("InvalidNumber", false), ("InvalidOperation", false), ("InvalidProgram", false), ("InvalidResults", true), ("InvalidRow", false), ("InvalidRows", false), ("InvalidText", false), ("InvalidWord", false), ("Locked", false), ("NoProgram", false), ("NoSource", false), ("NothingToUndo", false), ("TooLarge", false)]
abbrev ti_InvalidRow : List (Str × Bool) := [("FrontBackError", false), ("InvalidFences", false), ("InvalidMeaning", false), ("InvalidNames", false), ("InvalidNumber", false), ("InvalidOperation", false), ("InvalidProgram", false), ("InvalidResults", false), ("InvalidRow", true), ("InvalidRows", false), ("InvalidText", false), ("InvalidWord", false), ("Locked", false), ("NoProgram", false), ("NoSource", false), ("NothingToUndo", false), ("TooLarge", false)]
abbrev ti_InvalidRows : List (Str × Bool) := [("FrontBackError", false), ("InvalidFences", false), ("InvalidMeaning", false), ("InvalidNames", false), ("InvalidNumber", false), ("InvalidOperation", false), ("InvalidProgram", false), ("InvalidResults", false), ("InvalidRow", false), ("InvalidRows", true), ("InvalidText", false), ("InvalidWord", false), ("Locked", false), ("NoProgram", false), ("NoSource", false), ("NothingToUndo", false), ("TooLarge", false)]
abbrev ti_InvalidText : List (Str × Bool) := [("FrontBackError", false), ("InvalidFences", false), ("InvalidMeaning", false), ("InvalidNames", false), ("InvalidNumber", false), ("InvalidOperation", false), ("InvalidProgram", false), ("InvalidResults", false), ("InvalidRow", false), ("InvalidRows", false), ("InvalidText", true), ("InvalidWord", false), ("Locked", false), ("NoProgram", false), ("NoSource", false), ("NothingToUndo", false), ("TooLarge", false)]
abbrev ti_InvalidWord : List (Str × Bool) := [("FrontBackError", false), ("InvalidFences", false), ("InvalidMeaning", false), ("InvalidNames", false), ("InvalidNumber", false), ("InvalidOperation", false), ("InvalidProgram", false), ("InvalidResults", false), ("InvalidRow", false), ("InvalidRows", false), ("InvalidText", false), ("InvalidWord", true), ("Locked", false), ("NoProgram", false), ("NoSource", false), ("NothingToUndo", false), ("TooLarge", false)]
abbrev ti_Locked : List (Str × Bool) := [("FrontBackError", false), ("InvalidFences", false), ("InvalidMeaning", false), ("InvalidNames", false), ("InvalidNumber", false), ("InvalidOperation", false), ("InvalidProgram", false), ("InvalidResults", false), ("InvalidRow", false), ("InvalidRows", false), ("InvalidText", false), ("InvalidWord", false), ("Locked", true), ("NoProgram", false), ("NoSource", false), ("NothingToUndo", false), ("TooLarge", false)]
abbrev ti_NoProgram : List (Str × Bool) := [("FrontBackError", false), ("InvalidFences", false), ("InvalidMeaning", false), ("InvalidNames", false), ("InvalidNumber", false), ("InvalidOperation", false), ("InvalidProgram", false), ("InvalidResults", false), ("InvalidRow", false), ("InvalidRows", false), ("InvalidText", false), ("InvalidWord", false), ("Locked", false), ("NoProgram", true), ("NoSource", false), ("NothingToUndo", false), ("TooLarge", false)]
abbrev ti_NoSource : List (Str × Bool) := [("FrontBackError", false), ("InvalidFences", false), ("InvalidMeaning", false), ("InvalidNames", false), ("InvalidNumber", false), ("InvalidOperation", false), ("InvalidProgram", false), ("InvalidResults", false), ("InvalidRow", false), ("InvalidRows", false), ("InvalidText", false), ("InvalidWord", false), ("Locked", false), ("NoProgram", false), ("NoSource", true), ("NothingToUndo", false), ("TooLarge", false)]
abbrev ti_NothingToUndo : List (Str × Bool) := [("FrontBackError", false), ("InvalidFences", false), ("InvalidMeaning", false), ("InvalidNames", false), ("InvalidNumber", false), ("InvalidOperation", false), ("InvalidProgram", false), ("InvalidResults", false), ("InvalidRow", false), ("InvalidRows", false), ("InvalidText", false), ("InvalidWord", false), ("Locked", false), ("NoProgram", false), ("NoSource", false), ("NothingToUndo", true), ("TooLarge", false)]
abbrev ti_TooLarge : List (Str × Bool) := [("FrontBackError", false), ("InvalidFences", false), ("InvalidMeaning", false), ("InvalidNames", false), ("InvalidNumber", false), ("InvalidOperation", false), ("InvalidProgram", false), ("InvalidResults", false), ("InvalidRow", false), ("InvalidRows", false), ("InvalidText", false), ("InvalidWord", false), ("Locked", false), ("NoProgram", false), ("NoSource", false), ("NothingToUndo", false), ("TooLarge", true)]
abbrev ti_ValueError : List (Str × Bool) := [("FrontBackError", true), ("InvalidFences", true), ("InvalidMeaning", true), ("InvalidNames", true), ("InvalidNumber", true), ("InvalidOperation", true), ("InvalidProgram", true), ("InvalidResults", true), ("InvalidRow", true), ("InvalidRows", true), ("InvalidText", true), ("InvalidWord", true), ("Locked", true), ("NoProgram", true), ("NoSource", true), ("NothingToUndo", true), ("TooLarge", true)]
abbrev tt_0 : List (Str × Bool) := [("FrontBackError", false), ("InvalidFences", false), ("InvalidMeaning", false), ("InvalidNames", false), ("InvalidNumber", false), ("InvalidOperation", false), ("InvalidProgram", false), ("InvalidResults", false), ("InvalidRow", false), ("InvalidRows", false), ("InvalidText", false), ("InvalidWord", false), ("Locked", false), ("NoProgram", false), ("NoSource", false), ("NothingToUndo", false), ("TooLarge", false)]
abbrev N__law_mixed : List Str := ["cell", "k", "number"]
abbrev m__law_mixed : FS := sSeq (sAsg (fOp gMod (fCB gInt (fCons (fOp gAdd (fOp gAdd (fOp gMulA (fOp gMod (fCB gInt (fCons (fVar 0) (fNil))) (fC (.int 2147483647))) (fC (.int 48271))) (fOp gMulA (fVar 1) (fC (.int 69621)))) (fC (.int 1048583))) (fNil))) (fC (.int 2147483629))) (.nm 2)) (sSeq (sAsg (fOp gMod (fCB gInt (fCons (fOp gMulA (fVar 2) (fVar 2)) (fNil))) (fC (.int 2147483587))) (.nm 2)) (sRet (fOp gMod (fCB gInt (fCons (fOp gMulA (fVar 2) (fOp gAdd (fVar 2) (fC (.int 2)))) (fNil))) (fC (.int 2147483579)))))
def d__law_mixed : FD := runD 3 m__law_mixed

abbrev N__law_take : List Str := ["digits", "size", "digit"]
abbrev m__law_take : FS := sSeq (sAsg (fOp gMod (fCB gInt (fCons (fOp gIxA (fVar 0) (fC (.int 0))) (fNil))) (fVar 1)) (.nm 2)) (sSeq (sSet (fOp gDiv (fOp gIxA (fVar 0) (fC (.int 0))) (fVar 1)) (fVar 0) (fC (.int 0))) (sRet (fVar 2)))
def d__law_take : FD := runD 3 m__law_take

abbrev N__law_kinds : List Str := ["error", "found"]
abbrev m__law_kinds : FS := sSeq (sAsg (fPure ((fun ρ st => ((fCons (fIsA (tsL ti_InvalidRow) (fVar 0)) (fCons (fIsA (tsL ti_InvalidRows) (fVar 0)) (fNil))) ρ st).bind fun xs st1 => if small xs then .ok xs st1 else .stuck))) (.nm 1)) (sSeq (sAsg (fOp gAdd (fVar 1) (fPure ((fun ρ st => ((fCons (fIsA (tsL ti_InvalidProgram) (fVar 0)) (fCons (fIsA (tsL ti_InvalidOperation) (fVar 0)) (fNil))) ρ st).bind fun xs st1 => if small xs then .ok xs st1 else .stuck)))) (.nm 1)) (sSeq (sAsg (fOp gAdd (fVar 1) (fPure ((fun ρ st => ((fCons (fIsA (tsL ti_InvalidWord) (fVar 0)) (fCons (fIsA (tsL ti_InvalidNames) (fVar 0)) (fNil))) ρ st).bind fun xs st1 => if small xs then .ok xs st1 else .stuck)))) (.nm 1)) (sSeq (sAsg (fOp gAdd (fVar 1) (fPure ((fun ρ st => ((fCons (fIsA (tsL ti_InvalidMeaning) (fVar 0)) (fCons (fIsA (tsL ti_InvalidNumber) (fVar 0)) (fNil))) ρ st).bind fun xs st1 => if small xs then .ok xs st1 else .stuck)))) (.nm 1)) (sSeq (sAsg (fOp gAdd (fVar 1) (fPure ((fun ρ st => ((fCons (fIsA (tsL ti_InvalidFences) (fVar 0)) (fCons (fIsA (tsL ti_InvalidResults) (fVar 0)) (fNil))) ρ st).bind fun xs st1 => if small xs then .ok xs st1 else .stuck)))) (.nm 1)) (sSeq (sAsg (fOp gAdd (fVar 1) (fPure ((fun ρ st => ((fCons (fIsA (tsL ti_InvalidText) (fVar 0)) (fCons (fIsA (tsL ti_TooLarge) (fVar 0)) (fNil))) ρ st).bind fun xs st1 => if small xs then .ok xs st1 else .stuck)))) (.nm 1)) (sSeq (sAsg (fOp gAdd (fVar 1) (fPure ((fun ρ st => ((fCons (fIsA (tsL ti_NoProgram) (fVar 0)) (fCons (fIsA (tsL ti_NoSource) (fVar 0)) (fNil))) ρ st).bind fun xs st1 => if small xs then .ok xs st1 else .stuck)))) (.nm 1)) (sSeq (sAsg (fOp gAdd (fVar 1) (fPure ((fun ρ st => ((fCons (fIsA (tsL ti_NothingToUndo) (fVar 0)) (fCons (fIsA (tsL ti_Locked) (fVar 0)) (fNil))) ρ st).bind fun xs st1 => if small xs then .ok xs st1 else .stuck)))) (.nm 1)) (sRet (fVar 1)))))))))
def d__law_kinds : FD := runD 2 m__law_kinds

abbrev N__law_plain : List Str := ["found"]
abbrev m__law_plain : FS := sSeq (sAsg (fPure ((fun ρ st => ((fCons (fNew0 "InvalidRow") (fCons (fNew0 "InvalidRows") (fCons (fNew0 "InvalidProgram") (fCons (fNew0 "InvalidOperation") (fNil))))) ρ st).bind fun xs st1 => if small xs then .ok xs st1 else .stuck))) (.nm 0)) (sSeq (sAsg (fOp gAdd (fVar 0) (fPure ((fun ρ st => ((fCons (fNew0 "InvalidWord") (fCons (fNew0 "InvalidNames") (fCons (fNew0 "InvalidMeaning") (fCons (fNew0 "InvalidNumber") (fNil))))) ρ st).bind fun xs st1 => if small xs then .ok xs st1 else .stuck)))) (.nm 0)) (sSeq (sAsg (fOp gAdd (fVar 0) (fPure ((fun ρ st => ((fCons (fNew0 "InvalidFences") (fCons (fNew0 "InvalidResults") (fCons (fNew0 "InvalidText") (fCons (fNew0 "TooLarge") (fCons (fNew0 "NoProgram") (fNil)))))) ρ st).bind fun xs st1 => if small xs then .ok xs st1 else .stuck)))) (.nm 0)) (sSeq (sAsg (fOp gAdd (fVar 0) (fPure ((fun ρ st => ((fCons (fNew0 "NoSource") (fCons (fNew0 "NothingToUndo") (fNil))) ρ st).bind fun xs st1 => if small xs then .ok xs st1 else .stuck)))) (.nm 0)) (sRet (fVar 0)))))
def d__law_plain : FD := runD 1 m__law_plain

abbrev N__law_told : List Str := ["one", "found"]
abbrev m__law_told : FS := sSeq (sAsg (fPure ((fun ρ st => ((fCons (fNew1 "InvalidRow" (fVar 0)) (fCons (fNew1 "InvalidRows" (fVar 0)) (fCons (fNew1 "InvalidProgram" (fVar 0)) (fCons (fNew1 "InvalidOperation" (fVar 0)) (fNil))))) ρ st).bind fun xs st1 => if small xs then .ok xs st1 else .stuck))) (.nm 1)) (sSeq (sAsg (fOp gAdd (fVar 1) (fPure ((fun ρ st => ((fCons (fNew1 "InvalidWord" (fVar 0)) (fCons (fNew1 "InvalidNames" (fVar 0)) (fCons (fNew1 "InvalidMeaning" (fVar 0)) (fCons (fNew1 "InvalidNumber" (fVar 0)) (fNil))))) ρ st).bind fun xs st1 => if small xs then .ok xs st1 else .stuck)))) (.nm 1)) (sSeq (sAsg (fOp gAdd (fVar 1) (fPure ((fun ρ st => ((fCons (fNew1 "InvalidFences" (fVar 0)) (fCons (fNew1 "InvalidResults" (fVar 0)) (fCons (fNew1 "InvalidText" (fVar 0)) (fCons (fNew1 "TooLarge" (fVar 0)) (fNil))))) ρ st).bind fun xs st1 => if small xs then .ok xs st1 else .stuck)))) (.nm 1)) (sSeq (sAsg (fOp gAdd (fVar 1) (fPure ((fun ρ st => ((fCons (fNew1 "NoProgram" (fVar 0)) (fCons (fNew1 "NoSource" (fVar 0)) (fCons (fNew1 "NothingToUndo" (fVar 0)) (fNil)))) ρ st).bind fun xs st1 => if small xs then .ok xs st1 else .stuck)))) (.nm 1)) (sRet (fVar 1)))))
def d__law_told : FD := runD 2 m__law_told

abbrev N__law_cell : List Str := ["script", "k", "cell", "found", "j"]
abbrev m__law_cell : FS := sSeq (sAsg (fC (.int 0)) (.nm 2)) (sSeq (sIf (fTB (fOp gLt (fVar 1) (fCB gLen (fCons (fVar 0) (fNil))))) (sAsg (fOp gIxA (fVar 0) (fVar 1)) (.nm 2)) (sNext)) (sSeq (sIf (fTB (fOp gGe (fVar 2) (fOp gPow (fC (.int 10)) (fC (.int 18))))) (sRet (fOp gMod (fCB gInt (fCons (fOp gSub (fVar 2) (fOp gPow (fC (.int 10)) (fC (.int 18)))) (fNil))) (fOp gMulA (fOp gMulA (fOp gMulA (fOp gPow (fC (.int 10)) (fC (.int 60))) (fOp gPow (fC (.int 10)) (fC (.int 60)))) (fOp gPow (fC (.int 10)) (fC (.int 60)))) (fOp gPow (fC (.int 10)) (fC (.int 60)))))) (sNext)) (sSeq (sAsg (fC (.int 0)) (.nm 3)) (sSeq (sFor (fRng rng1 (fCons (fC (.int 24)) (fNil))) (.nm 4) (sAsg (fOp gAdd (fOp gMulA (fVar 3) (fC (.int 2147483579))) (fCall d__law_mixed (fCons (fVar 2) (fCons (fOp gAdd (fOp gAdd (fOp gMulA (fC (.int 7)) (fVar 1)) (fOp gMulA (fC (.int 100)) (fVar 4))) (fOp gMulA (fVar 4) (fVar 4))) (fNil))))) (.nm 3))) (sRet (fVar 3))))))
def d__law_cell : FD := runD 5 m__law_cell

abbrev N__law_all_good : List Str := ["errors", "at", "error", "spot"]
abbrev m__law_all_good : FS := sSeq (sFor (fRng rng1 (fCons (fCB gLen (fCons (fVar 0) (fNil))) (fNil))) (.nm 1) (sSeq (sAsg (fOp gIxA (fVar 0) (fVar 1)) (.nm 2)) (sSeq (sIf (fTOr (fTNot (fTB (fIsA (tsL ti_FrontBackError) (fVar 2)))) (fTNot (fTB (fIsA (tsL ti_ValueError) (fVar 2))))) (sRet (fC (.bool false))) (sNext)) (sSeq (sIf (fTB (fIsA (tsL tt_0) (fVar 2))) (sRet (fC (.bool false))) (sNext)) (sIf (fTB (fOp gNe (fCall d__law_kinds (fCons (fVar 2) (fNil))) (fPure (fLc (fRng rng1 (fCons (fC (.int 16)) (fNil))) (.nm 3) (tYesF) (fOp gEq (fVar 1) (fVar 3)))))) (sRet (fC (.bool false))) (sNext)))))) (sRet (fC (.bool true)))
def d__law_all_good : FD := runD 4 m__law_all_good

abbrev N__law_locked_good : List Str := ["thing", "errors", "error", "spot"]
abbrev m__law_locked_good : FS := sSeq (sAsg (fPure ((fun ρ st => ((fCons (fNewA "Locked" "word" (fVar 0)) (fCons (fNewA "Locked" "word" (fVar 0)) (fNil))) ρ st).bind fun xs st1 => if small xs then .ok xs st1 else .stuck))) (.nm 1)) (sSeq (sIf (fTB (fOp gNe (fCB gStr (fCons (fPure (fLcV (fVar 1) (.nm 2) (tYesF) (fAtt "Locked" "word" (fVar 2)))) (fNil))) (fCB gStr (fCons (fPure ((fun ρ st => ((fCons (fVar 0) (fCons (fVar 0) (fNil))) ρ st).bind fun xs st1 => if small xs then .ok xs st1 else .stuck))) (fNil))))) (sRet (fC (.bool false))) (sNext)) (sSeq (sForV (fVar 1) (.nm 2) (sSeq (sIf (fTOr (fTNot (fTB (fIsA (tsL ti_FrontBackError) (fVar 2)))) (fTB (fOp gNe (fCall d__law_kinds (fCons (fVar 2) (fNil))) (fPure (fLc (fRng rng1 (fCons (fC (.int 16)) (fNil))) (.nm 3) (tYesF) (fOp gEq (fVar 3) (fC (.int 15)))))))) (sRet (fC (.bool false))) (sNext)) (sIf (fTB (fIsA (tsL tt_0) (fVar 2))) (sRet (fC (.bool false))) (sNext)))) (sRet (fC (.bool true)))))
def d__law_locked_good : FD := runD 4 m__law_locked_good

abbrev N_law : List Str := ["script", "error", "turn", "digits", "text", "number", "some", "row", "table", "k", "thing"]
abbrev m_law : FS := sSeq (sIf (fTOr (fTNot (fTB (fCall d__law_all_good (fCons (fCall d__law_plain fNil) (fNil))))) (fTNot (fTB (fCall d__law_all_good (fCons (fCall d__law_told (fCons (fC (.str "a message")) (fNil))) (fNil)))))) (sRet (fC (.bool false))) (sNext)) (sSeq (sIf (fTB (fOp gIsNot (fAtt "Locked" "word" (fNewA0 "Locked" "word")) (fC .none))) (sRet (fC (.bool false))) (sNext)) (sSeq (sForV (fPure ((fun ρ st => ((fCons (fNew0 "FrontBackError") (fCons (fNew1 "FrontBackError" (fC (.str "a message"))) (fNil))) ρ st).bind fun xs st1 => if small xs then .ok xs st1 else .stuck))) (.nm 1) (sIf (fTOr (fTNot (fTB (fIsA (tsL ti_ValueError) (fVar 1)))) (fTB (fOp gIn (fC (.bool true)) (fCall d__law_kinds (fCons (fVar 1) (fNil)))))) (sRet (fC (.bool false))) (sNext))) (sSeq (sFor (fRng rng1 (fCons (fCB gMax (fCons (fCB gMin (fCons (fCB gLen (fCons (fVar 0) (fNil))) (fCons (fC (.int 3)) (fNil)))) (fCons (fC (.int 1)) (fNil)))) (fNil))) (.nm 2) (sSeq (sAsg (fCell ((fun ρ st => ((fCons (fCall d__law_cell (fCons (fVar 0) (fCons (fVar 2) (fNil)))) (fNil)) ρ st).bind fun xs st1 => if small xs then .ok xs st1 else .stuck))) (.nm 3)) (sSeq (sAsg (fTM gJoin (fC (.str "")) (fPure (fLc (fRng rng1 (fCons (fCall d__law_take (fCons (fVar 3) (fCons (fC (.int 12)) (fNil)))) (fNil))) (.nm 9) (tYesF) (fOp gIxA (fC (.str "ab :;-")) (fCall d__law_take (fCons (fVar 3) (fCons (fC (.int 6)) (fNil)))))))) (.nm 4)) (sSeq (sAsg (fCall d__law_take (fCons (fVar 3) (fCons (fC (.int 99)) (fNil)))) (.nm 5)) (sSeq (sAsg (fPure ((fun ρ st => ((fCons (fVar 4) (fCons (fVar 5) (fCons (fC .none) (fCons (fPure ((fun ρ st => ((fCons (fVar 4) (fNil)) ρ st).bind fun xs st1 => if small xs then .ok xs st1 else .stuck))) (fCons (fTup (fCons (fVar 4) (fCons (fVar 5) (fNil)))) (fCons (fC (.str "")) (fCons (fC (.bool true)) (fCons (fC (.bool false)) (fCons (fPure ((fun ρ st => ((fNil) ρ st).bind fun xs st1 => if small xs then .ok xs st1 else .stuck))) (fCons (fTup (fNil)) (fCons (fE0) (fCons (fDd1 (fVar 4) (fTup (fCons (fVar 5) (fNil)))) (fNil))))))))))))) ρ st).bind fun xs st1 => if small xs then .ok xs st1 else .stuck))) (.nm 6)) (sSeq (sAsg (fOp gAdd (fVar 6) (fPure ((fun ρ st => ((fCons (fOp gMulE (fVar 4) (fC (.int 60))) (fCons (fOp gAdd (fOp gAdd (fC (.str " ")) (fVar 4)) (fC (.str " "))) (fCons (fPure ((fun ρ st => ((fCons (fPure ((fun ρ st => ((fCons (fVar 4) (fCons (fC .none) (fNil))) ρ st).bind fun xs st1 => if small xs then .ok xs st1 else .stuck))) (fNil)) ρ st).bind fun xs st1 => if small xs then .ok xs st1 else .stuck))) (fCons (fOp gMulE (fC (.str "p")) (fC (.int 999))) (fNil))))) ρ st).bind fun xs st1 => if small xs then .ok xs st1 else .stuck)))) (.nm 6)) (sSeq (sIf (fTNot (fTB (fCB gAll (fCons (fPure (fLcV (fVar 6) (.nm 10) (tYesF) (fCall d__law_locked_good (fCons (fVar 10) (fNil))))) (fNil))))) (sRet (fC (.bool false))) (sNext)) (sSeq (sAsg (fCell ((fun ρ st => ((fCons (fVar 4) (fNil)) ρ st).bind fun xs st1 => if small xs then .ok xs st1 else .stuck))) (.nm 7)) (sSeq (sAsg (fNewA "Locked" "word" (fVar 7)) (.nm 1)) (sSeq (sDrop (fMth gAppend (fVar 7) (fCons (fVar 5) (fNil)))) (sSeq (sIf (fTOr (fTB (fOp gNe (fAtt "Locked" "word" (fVar 1)) (fPure ((fun ρ st => ((fCons (fVar 4) (fCons (fVar 5) (fNil))) ρ st).bind fun xs st1 => if small xs then .ok xs st1 else .stuck))))) (fTNot (fTB (fCall d__law_all_good (fCons (fCall d__law_told (fCons (fVar 4) (fNil))) (fNil)))))) (sRet (fC (.bool false))) (sNext)) (sSeq (sAsg (fDc1 (fVar 4) (fVar 5)) (.nm 8)) (sSeq (sAsg (fNewA "Locked" "word" (fVar 8)) (.nm 1)) (sSeq (sSetK (fC (.int 1)) (fVar 8) (fC (.str "more"))) (sIf (fTB (fOp gNeD (fAtt "Locked" "word" (fVar 1)) (fVar 8))) (sRet (fC (.bool false))) (sNext)))))))))))))))) (sRet (fNot (fIsVE false (fC (.str "x"))))))))
def d_law : FD := runD 11 m_law

def top (i : Nat) : Stmt := PySem.Challenge.pw_frontback_k04_errors_created.main.body.getD i (.Pass ⟨0, 0, 0, 0⟩)
def clsHead : Stmt → Stmt
  | .ClassDef (body := b) .. => b.headD (.Pass ⟨0, 0, 0, 0⟩)
  | s => s
abbrev s__law_mixed : Stmt := top 19
abbrev s__law_cell : Stmt := top 20
abbrev s__law_take : Stmt := top 21
abbrev s__law_kinds : Stmt := top 22
abbrev s__law_plain : Stmt := top 23
abbrev s__law_told : Stmt := top 24
abbrev s__law_all_good : Stmt := top 25
abbrev s__law_locked_good : Stmt := top 26
abbrev s_law : Stmt := top 27
abbrev s_Locked : Stmt := clsHead (top 17)
structure Fs (K : PySem.W.Frag) (mg : Str → Option Value) where
  a__law_mixed : Addr
  h__law_mixed : FuncData
  F__law_mixed : FunD K "_law_mixed" "_law_mixed" (defArgs s__law_mixed) (defBody s__law_mixed) (defScope s__law_mixed) [] [] a__law_mixed h__law_mixed
  g__law_mixed : mg "_law_mixed" = some (.ref a__law_mixed)
  a__law_cell : Addr
  h__law_cell : FuncData
  F__law_cell : FunD K "_law_cell" "_law_cell" (defArgs s__law_cell) (defBody s__law_cell) (defScope s__law_cell) [] [] a__law_cell h__law_cell
  g__law_cell : mg "_law_cell" = some (.ref a__law_cell)
  a__law_take : Addr
  h__law_take : FuncData
  F__law_take : FunD K "_law_take" "_law_take" (defArgs s__law_take) (defBody s__law_take) (defScope s__law_take) [] [] a__law_take h__law_take
  g__law_take : mg "_law_take" = some (.ref a__law_take)
  a__law_kinds : Addr
  h__law_kinds : FuncData
  F__law_kinds : FunD K "_law_kinds" "_law_kinds" (defArgs s__law_kinds) (defBody s__law_kinds) (defScope s__law_kinds) [] [] a__law_kinds h__law_kinds
  g__law_kinds : mg "_law_kinds" = some (.ref a__law_kinds)
  a__law_plain : Addr
  h__law_plain : FuncData
  F__law_plain : FunD K "_law_plain" "_law_plain" (defArgs s__law_plain) (defBody s__law_plain) (defScope s__law_plain) [] [] a__law_plain h__law_plain
  g__law_plain : mg "_law_plain" = some (.ref a__law_plain)
  a__law_told : Addr
  h__law_told : FuncData
  F__law_told : FunD K "_law_told" "_law_told" (defArgs s__law_told) (defBody s__law_told) (defScope s__law_told) [] [] a__law_told h__law_told
  g__law_told : mg "_law_told" = some (.ref a__law_told)
  a__law_all_good : Addr
  h__law_all_good : FuncData
  F__law_all_good : FunD K "_law_all_good" "_law_all_good" (defArgs s__law_all_good) (defBody s__law_all_good) (defScope s__law_all_good) [] [] a__law_all_good h__law_all_good
  g__law_all_good : mg "_law_all_good" = some (.ref a__law_all_good)
  a__law_locked_good : Addr
  h__law_locked_good : FuncData
  F__law_locked_good : FunD K "_law_locked_good" "_law_locked_good" (defArgs s__law_locked_good) (defBody s__law_locked_good) (defScope s__law_locked_good) [] [] a__law_locked_good h__law_locked_good
  g__law_locked_good : mg "_law_locked_good" = some (.ref a__law_locked_good)
  a_law : Addr
  h_law : FuncData
  F_law : FunD K "law" "law" (defArgs s_law) (defBody s_law) (defScope s_law) [] [] a_law h_law
  g_law : mg "law" = some (.ref a_law)
  b_ArithmeticError : mg "ArithmeticError" = none
  b_AttributeError : mg "AttributeError" = none
  b_LookupError : mg "LookupError" = none
  b_RuntimeError : mg "RuntimeError" = none
  b_TypeError : mg "TypeError" = none
  b_ValueError : mg "ValueError" = none
  b_all : mg "all" = none
  b_int : mg "int" = none
  b_isinstance : mg "isinstance" = none
  b_len : mg "len" = none
  b_max : mg "max" = none
  b_min : mg "min" = none
  b_range : mg "range" = none
  b_str : mg "str" = none
  C_FrontBackError : Addr
  x_FrontBackError : PySem.W.excIn K C_FrontBackError He.veBase "ValueError.__new__" = true ∧ mg "FrontBackError" = some (.ref C_FrontBackError) ∧ PySem.W.keepIn K (.ref C_FrontBackError) = true ∧ PySem.W.subIn K (.ref C_FrontBackError) (.type "BaseException") = some true ∧ PySem.W.typeIn K (.ref C_FrontBackError) = some (.type "type")
  C_InvalidFences : Addr
  x_InvalidFences : PySem.W.excIn K C_InvalidFences He.veBase "ValueError.__new__" = true ∧ mg "InvalidFences" = some (.ref C_InvalidFences) ∧ PySem.W.keepIn K (.ref C_InvalidFences) = true ∧ PySem.W.subIn K (.ref C_InvalidFences) (.type "BaseException") = some true ∧ PySem.W.typeIn K (.ref C_InvalidFences) = some (.type "type")
  C_InvalidMeaning : Addr
  x_InvalidMeaning : PySem.W.excIn K C_InvalidMeaning He.veBase "ValueError.__new__" = true ∧ mg "InvalidMeaning" = some (.ref C_InvalidMeaning) ∧ PySem.W.keepIn K (.ref C_InvalidMeaning) = true ∧ PySem.W.subIn K (.ref C_InvalidMeaning) (.type "BaseException") = some true ∧ PySem.W.typeIn K (.ref C_InvalidMeaning) = some (.type "type")
  C_InvalidNames : Addr
  x_InvalidNames : PySem.W.excIn K C_InvalidNames He.veBase "ValueError.__new__" = true ∧ mg "InvalidNames" = some (.ref C_InvalidNames) ∧ PySem.W.keepIn K (.ref C_InvalidNames) = true ∧ PySem.W.subIn K (.ref C_InvalidNames) (.type "BaseException") = some true ∧ PySem.W.typeIn K (.ref C_InvalidNames) = some (.type "type")
  C_InvalidNumber : Addr
  x_InvalidNumber : PySem.W.excIn K C_InvalidNumber He.veBase "ValueError.__new__" = true ∧ mg "InvalidNumber" = some (.ref C_InvalidNumber) ∧ PySem.W.keepIn K (.ref C_InvalidNumber) = true ∧ PySem.W.subIn K (.ref C_InvalidNumber) (.type "BaseException") = some true ∧ PySem.W.typeIn K (.ref C_InvalidNumber) = some (.type "type")
  C_InvalidOperation : Addr
  x_InvalidOperation : PySem.W.excIn K C_InvalidOperation He.veBase "ValueError.__new__" = true ∧ mg "InvalidOperation" = some (.ref C_InvalidOperation) ∧ PySem.W.keepIn K (.ref C_InvalidOperation) = true ∧ PySem.W.subIn K (.ref C_InvalidOperation) (.type "BaseException") = some true ∧ PySem.W.typeIn K (.ref C_InvalidOperation) = some (.type "type")
  C_InvalidProgram : Addr
  x_InvalidProgram : PySem.W.excIn K C_InvalidProgram He.veBase "ValueError.__new__" = true ∧ mg "InvalidProgram" = some (.ref C_InvalidProgram) ∧ PySem.W.keepIn K (.ref C_InvalidProgram) = true ∧ PySem.W.subIn K (.ref C_InvalidProgram) (.type "BaseException") = some true ∧ PySem.W.typeIn K (.ref C_InvalidProgram) = some (.type "type")
  C_InvalidResults : Addr
  x_InvalidResults : PySem.W.excIn K C_InvalidResults He.veBase "ValueError.__new__" = true ∧ mg "InvalidResults" = some (.ref C_InvalidResults) ∧ PySem.W.keepIn K (.ref C_InvalidResults) = true ∧ PySem.W.subIn K (.ref C_InvalidResults) (.type "BaseException") = some true ∧ PySem.W.typeIn K (.ref C_InvalidResults) = some (.type "type")
  C_InvalidRow : Addr
  x_InvalidRow : PySem.W.excIn K C_InvalidRow He.veBase "ValueError.__new__" = true ∧ mg "InvalidRow" = some (.ref C_InvalidRow) ∧ PySem.W.keepIn K (.ref C_InvalidRow) = true ∧ PySem.W.subIn K (.ref C_InvalidRow) (.type "BaseException") = some true ∧ PySem.W.typeIn K (.ref C_InvalidRow) = some (.type "type")
  C_InvalidRows : Addr
  x_InvalidRows : PySem.W.excIn K C_InvalidRows He.veBase "ValueError.__new__" = true ∧ mg "InvalidRows" = some (.ref C_InvalidRows) ∧ PySem.W.keepIn K (.ref C_InvalidRows) = true ∧ PySem.W.subIn K (.ref C_InvalidRows) (.type "BaseException") = some true ∧ PySem.W.typeIn K (.ref C_InvalidRows) = some (.type "type")
  C_InvalidText : Addr
  x_InvalidText : PySem.W.excIn K C_InvalidText He.veBase "ValueError.__new__" = true ∧ mg "InvalidText" = some (.ref C_InvalidText) ∧ PySem.W.keepIn K (.ref C_InvalidText) = true ∧ PySem.W.subIn K (.ref C_InvalidText) (.type "BaseException") = some true ∧ PySem.W.typeIn K (.ref C_InvalidText) = some (.type "type")
  C_InvalidWord : Addr
  x_InvalidWord : PySem.W.excIn K C_InvalidWord He.veBase "ValueError.__new__" = true ∧ mg "InvalidWord" = some (.ref C_InvalidWord) ∧ PySem.W.keepIn K (.ref C_InvalidWord) = true ∧ PySem.W.subIn K (.ref C_InvalidWord) (.type "BaseException") = some true ∧ PySem.W.typeIn K (.ref C_InvalidWord) = some (.type "type")
  C_NoProgram : Addr
  x_NoProgram : PySem.W.excIn K C_NoProgram He.veBase "ValueError.__new__" = true ∧ mg "NoProgram" = some (.ref C_NoProgram) ∧ PySem.W.keepIn K (.ref C_NoProgram) = true ∧ PySem.W.subIn K (.ref C_NoProgram) (.type "BaseException") = some true ∧ PySem.W.typeIn K (.ref C_NoProgram) = some (.type "type")
  C_NoSource : Addr
  x_NoSource : PySem.W.excIn K C_NoSource He.veBase "ValueError.__new__" = true ∧ mg "NoSource" = some (.ref C_NoSource) ∧ PySem.W.keepIn K (.ref C_NoSource) = true ∧ PySem.W.subIn K (.ref C_NoSource) (.type "BaseException") = some true ∧ PySem.W.typeIn K (.ref C_NoSource) = some (.type "type")
  C_NothingToUndo : Addr
  x_NothingToUndo : PySem.W.excIn K C_NothingToUndo He.veBase "ValueError.__new__" = true ∧ mg "NothingToUndo" = some (.ref C_NothingToUndo) ∧ PySem.W.keepIn K (.ref C_NothingToUndo) = true ∧ PySem.W.subIn K (.ref C_NothingToUndo) (.type "BaseException") = some true ∧ PySem.W.typeIn K (.ref C_NothingToUndo) = some (.type "type")
  C_TooLarge : Addr
  x_TooLarge : PySem.W.excIn K C_TooLarge He.veBase "ValueError.__new__" = true ∧ mg "TooLarge" = some (.ref C_TooLarge) ∧ PySem.W.keepIn K (.ref C_TooLarge) = true ∧ PySem.W.subIn K (.ref C_TooLarge) (.type "BaseException") = some true ∧ PySem.W.typeIn K (.ref C_TooLarge) = some (.type "type")
  sys : sysB K = true
  K_FrontBackError : Addr
  gx_FrontBackError : mg "FrontBackError" = some (.ref K_FrontBackError)
  K_InvalidFences : Addr
  gx_InvalidFences : mg "InvalidFences" = some (.ref K_InvalidFences)
  K_InvalidMeaning : Addr
  gx_InvalidMeaning : mg "InvalidMeaning" = some (.ref K_InvalidMeaning)
  K_InvalidNames : Addr
  gx_InvalidNames : mg "InvalidNames" = some (.ref K_InvalidNames)
  K_InvalidNumber : Addr
  gx_InvalidNumber : mg "InvalidNumber" = some (.ref K_InvalidNumber)
  K_InvalidOperation : Addr
  gx_InvalidOperation : mg "InvalidOperation" = some (.ref K_InvalidOperation)
  K_InvalidProgram : Addr
  gx_InvalidProgram : mg "InvalidProgram" = some (.ref K_InvalidProgram)
  K_InvalidResults : Addr
  gx_InvalidResults : mg "InvalidResults" = some (.ref K_InvalidResults)
  K_InvalidRow : Addr
  gx_InvalidRow : mg "InvalidRow" = some (.ref K_InvalidRow)
  K_InvalidRows : Addr
  gx_InvalidRows : mg "InvalidRows" = some (.ref K_InvalidRows)
  K_InvalidText : Addr
  gx_InvalidText : mg "InvalidText" = some (.ref K_InvalidText)
  K_InvalidWord : Addr
  gx_InvalidWord : mg "InvalidWord" = some (.ref K_InvalidWord)
  K_Locked : Addr
  gx_Locked : mg "Locked" = some (.ref K_Locked)
  K_NoProgram : Addr
  gx_NoProgram : mg "NoProgram" = some (.ref K_NoProgram)
  K_NoSource : Addr
  gx_NoSource : mg "NoSource" = some (.ref K_NoSource)
  K_NothingToUndo : Addr
  gx_NothingToUndo : mg "NothingToUndo" = some (.ref K_NothingToUndo)
  K_TooLarge : Addr
  gx_TooLarge : mg "TooLarge" = some (.ref K_TooLarge)
  ti_FrontBackError : ∀ c b, tsL ti_FrontBackError c = some b → ∀ C, mg c = some (.ref C) → ExcC K C ∧ PySem.W.kitOne K (.ref C) (.ref K_FrontBackError) = some b
  ti_InvalidFences : ∀ c b, tsL ti_InvalidFences c = some b → ∀ C, mg c = some (.ref C) → ExcC K C ∧ PySem.W.kitOne K (.ref C) (.ref K_InvalidFences) = some b
  ti_InvalidMeaning : ∀ c b, tsL ti_InvalidMeaning c = some b → ∀ C, mg c = some (.ref C) → ExcC K C ∧ PySem.W.kitOne K (.ref C) (.ref K_InvalidMeaning) = some b
  ti_InvalidNames : ∀ c b, tsL ti_InvalidNames c = some b → ∀ C, mg c = some (.ref C) → ExcC K C ∧ PySem.W.kitOne K (.ref C) (.ref K_InvalidNames) = some b
  ti_InvalidNumber : ∀ c b, tsL ti_InvalidNumber c = some b → ∀ C, mg c = some (.ref C) → ExcC K C ∧ PySem.W.kitOne K (.ref C) (.ref K_InvalidNumber) = some b
  ti_InvalidOperation : ∀ c b, tsL ti_InvalidOperation c = some b → ∀ C, mg c = some (.ref C) → ExcC K C ∧ PySem.W.kitOne K (.ref C) (.ref K_InvalidOperation) = some b
  ti_InvalidProgram : ∀ c b, tsL ti_InvalidProgram c = some b → ∀ C, mg c = some (.ref C) → ExcC K C ∧ PySem.W.kitOne K (.ref C) (.ref K_InvalidProgram) = some b
  ti_InvalidResults : ∀ c b, tsL ti_InvalidResults c = some b → ∀ C, mg c = some (.ref C) → ExcC K C ∧ PySem.W.kitOne K (.ref C) (.ref K_InvalidResults) = some b
  ti_InvalidRow : ∀ c b, tsL ti_InvalidRow c = some b → ∀ C, mg c = some (.ref C) → ExcC K C ∧ PySem.W.kitOne K (.ref C) (.ref K_InvalidRow) = some b
  ti_InvalidRows : ∀ c b, tsL ti_InvalidRows c = some b → ∀ C, mg c = some (.ref C) → ExcC K C ∧ PySem.W.kitOne K (.ref C) (.ref K_InvalidRows) = some b
  ti_InvalidText : ∀ c b, tsL ti_InvalidText c = some b → ∀ C, mg c = some (.ref C) → ExcC K C ∧ PySem.W.kitOne K (.ref C) (.ref K_InvalidText) = some b
  ti_InvalidWord : ∀ c b, tsL ti_InvalidWord c = some b → ∀ C, mg c = some (.ref C) → ExcC K C ∧ PySem.W.kitOne K (.ref C) (.ref K_InvalidWord) = some b
  ti_Locked : ∀ c b, tsL ti_Locked c = some b → ∀ C, mg c = some (.ref C) → ExcC K C ∧ PySem.W.kitOne K (.ref C) (.ref K_Locked) = some b
  ti_NoProgram : ∀ c b, tsL ti_NoProgram c = some b → ∀ C, mg c = some (.ref C) → ExcC K C ∧ PySem.W.kitOne K (.ref C) (.ref K_NoProgram) = some b
  ti_NoSource : ∀ c b, tsL ti_NoSource c = some b → ∀ C, mg c = some (.ref C) → ExcC K C ∧ PySem.W.kitOne K (.ref C) (.ref K_NoSource) = some b
  ti_NothingToUndo : ∀ c b, tsL ti_NothingToUndo c = some b → ∀ C, mg c = some (.ref C) → ExcC K C ∧ PySem.W.kitOne K (.ref C) (.ref K_NothingToUndo) = some b
  ti_TooLarge : ∀ c b, tsL ti_TooLarge c = some b → ∀ C, mg c = some (.ref C) → ExcC K C ∧ PySem.W.kitOne K (.ref C) (.ref K_TooLarge) = some b
  ti_ValueError : ∀ c b, tsL ti_ValueError c = some b → ∀ C, mg c = some (.ref C) → ExcC K C ∧ PySem.W.kitOne K (.ref C) (.type "ValueError") = some b
  tt_0 : ∀ c b, tsL tt_0 c = some b → ∀ C, mg c = some (.ref C) → ExcC K C ∧ PySem.W.kitAny K (.ref C) ((["TypeError", "LookupError", "ArithmeticError", "RuntimeError", "AttributeError"] : List String).map Value.type) = some b
  v_FrontBackError : PySem.W.kitOne K (.type "ValueError") (.ref K_FrontBackError) = some false
  C_Locked : Addr
  T_Locked : OexC K C_Locked
  g_Locked : mg "Locked" = some (.ref C_Locked)
  i_Locked : Addr
  h_Locked : FuncData
  F_Locked : FunD K "__init__" "Locked.__init__" (defArgs s_Locked) (defBody s_Locked) (defScope s_Locked) [.non] [] i_Locked h_Locked
  n_Locked : PySem.W.findIn K (.ref C_Locked) "__init__" = some (some (.ref i_Locked)) ∧ PySem.W.typeIn K (.ref i_Locked) = some (.type "function") ∧ PySem.W.findIn K (.ref C_Locked) "word" = some none ∧ XfC K C_Locked ∧ mg "FrontBackError" = some (.ref C_FrontBackError) ∧ PySem.W.readsIn K C_FrontBackError (.type "type") = true ∧ PySem.W.specialIn K (.ref C_FrontBackError) "__getattribute__" = some (some (.builtin "type.__getattribute__")) ∧ PySem.W.findCls K (.ref C_FrontBackError) (.type "type") "__init__" = some (.val (.builtin "ValueError.__init__"))
section
variable {P : Program} {w : World} {K : PySem.W.Frag} {mg : Str → Option Value} {base : Heap}
theorem sc_Locked : FnScope ["self", "word"] ["self", "word"] (defScope s_Locked) := ⟨rfl, rfl, rfl, by decide +kernel, rfl, by decide +kernel, by decide +kernel⟩
theorem ok_Locked (S : Fs K mg) : FnOk P w K mg base (L2.CX P w) 1 S.i_Locked S.h_Locked ["self", "word"] (spX "word" S.C_Locked) :=
  S.F_Locked.ok (k := 0) sc_Locked (fun vs H Q E h => h.1) fun cdv A outer s H vs Q E hr h => by
    obtain ⟨_, a, v, rfl, ea, q⟩ := h
    have sc := sc_Locked
    refine ⟨_, pss_cons (ps_expr (pe_binit rfl S.n_Locked.2.2.2.2.1 (by decide) S.n_Locked.2.2.2.2.2.1 S.n_Locked.2.2.2.2.2.2.1 S.n_Locked.2.2.2.2.2.2.2 (pa_cons (pe_var (i := 0) rfl (.inl rfl)) (pa_cons pe_str pa_nil)))) (pss_cons (ps_ost (pe_var (i := 0) rfl (.inl rfl)) (pe_var (i := 1) rfl (.inl rfl))) pss_nil), ?_⟩
    refine ⟨.ref a, rfl, a, S.C_Locked, _, rfl, by simp, S.T_Locked, ea, ?_⟩
    exact ⟨v, rfl, .ref a, rfl, a, S.C_Locked, rfl, S.T_Locked, S.n_Locked.2.2.1, .inl ⟨ea, fun dx h1 h2 => q dx h1 h2⟩⟩
theorem own_Locked (S : Fs K mg) : OwnX P w K mg base "Locked" S.C_Locked S.i_Locked 1 S.h_Locked ["self", "word"] (spX "word" S.C_Locked) := ⟨S.T_Locked, S.g_Locked, S.n_Locked.1, S.n_Locked.2.1, ok_Locked S⟩
theorem bd1_Locked (S : Fs K mg) : Binds K S.h_Locked ["self", "word"] [] := fxe_binds1 S.F_Locked fun _ _ _ _ _ _ _ us its hl hi => match us, hl, its, hi with | [_, _], _, [_], _ => ⟨_, rfl, rfl⟩
theorem bd0_Locked (S : Fs K mg) : ∃ ds, Vals [V.non] ds ∧ Binds K S.h_Locked ["self", "word"] ds := S.F_Locked.binds1 1 0 (List.cons_ne_nil _ _) rfl fun _ _ _ _ _ _ _ us its hl hi => match us, hl, its, hi with | [_], _, [_], _ => ⟨_, rfl, rfl⟩
theorem bdK_Locked (S : Fs K mg) : ∀ (s : Shared) (us ws : List Value), K.In s.heap → us.length = 1 → ws.length = 1 → BindsTo s S.h_Locked ⟨us, (["word"] : List Str).zip ws⟩ ((["self", "word"] : List Str).zip (us ++ ws)) := by
  obtain ⟨its, kb⟩ := S.F_Locked.kbindsD (ps := ["self", "word"]) 1 ["word"] (fun us _ ws => us ++ ws) (List.cons_ne_nil _ _) (fun r1 _ r3 => r1.append r3) fun _ _ _ _ _ _ _ us its ws h1 h2 h3 => match us, h1, its, h2, ws, h3 with | [_], _, [_], _, [_], _ => ⟨_, rfl, rfl⟩
  exact fun s us ws X l1 l2 => kb.to s us ws X l1 l2

theorem sc__law_mixed : FnScope N__law_mixed ["cell", "k"] (defScope s__law_mixed) := ⟨rfl, rfl, rfl, by decide +kernel, rfl, by decide +kernel, by decide +kernel⟩
theorem bd__law_mixed (S : Fs K mg) : Binds K S.h__law_mixed ["cell", "k"] [] := S.F__law_mixed.bindsN fun _ _ _ _ _ _ us hl => match us, hl with | [_, _], _ => rfl
theorem ok__law_mixed (S : Fs K mg) : FnOk P w K mg base (L2.CX P w) 1 S.a__law_mixed S.h__law_mixed ["cell", "k"] (spD K mg 2 d__law_mixed) :=
  fn_okD (k := 0) (N := N__law_mixed) (m := m__law_mixed) S.F__law_mixed sc__law_mixed fun cdv A outer s H E hr => by
    have sc := sc__law_mixed
    have tk := tk_of (P := P) (w := w) (K := K) (mg := mg) (base := base) (N := N__law_mixed) (qual := "_law_mixed") (scope := defScope s__law_mixed) (f := S.a__law_mixed) (cd := cdv) (A := A) (outer := outer) (s := s) (H := H) (E := E)
    have po := po_of (P := P) (w := w) (K := K) (mg := mg) (base := base) (N := N__law_mixed) (qual := "_law_mixed") (scope := defScope s__law_mixed) (f := S.a__law_mixed) (cd := cdv) (A := A) (outer := outer) (s := s) (H := H) (E := E)
    have hu := Room.hu64 hr
    have hu65 := Room.hu65 hr
    have hu1 := Room.hu1 hr
    exact (pfss_cons (pfs_set sc.nd (pf_op op_mod im_mod (pf_callTy call_int1 im_int (by rfl) S.b_int (by decide +kernel) (pfa_cons (pf_op op_addA im_add (pf_op op_addA im_add (pf_op op_mulA im_mul (pf_op op_mod im_mod (pf_callTy call_int1 im_int (by rfl) S.b_int (by decide +kernel) (pfa_cons (pf_var 0) (pfa_nil))) (pf_int)) (pf_int)) (pf_op op_mulA im_mul (pf_var 1) (pf_int))) (pf_int)) (pfa_nil))) (pf_int))) (pfss_cons (pfs_set sc.nd (pf_op op_mod im_mod (pf_callTy call_int1 im_int (by rfl) S.b_int (by decide +kernel) (pfa_cons (pf_op op_mulA im_mul (pf_var 2) (pf_var 2)) (pfa_nil))) (pf_int))) (pfss_one (pfs_ret (pf_op op_mod im_mod (pf_callTy call_int1 im_int (by rfl) S.b_int (by decide +kernel) (pfa_cons (pf_op op_mulA im_mul (pf_var 2) (pf_op op_addA im_add (pf_var 2) (pf_int))) (pfa_nil))) (pf_int))))))

theorem sc__law_take : FnScope N__law_take ["digits", "size"] (defScope s__law_take) := ⟨rfl, rfl, rfl, by decide +kernel, rfl, by decide +kernel, by decide +kernel⟩
theorem bd__law_take (S : Fs K mg) : Binds K S.h__law_take ["digits", "size"] [] := S.F__law_take.bindsN fun _ _ _ _ _ _ us hl => match us, hl with | [_, _], _ => rfl
theorem ok__law_take (S : Fs K mg) : FnOk P w K mg base (L2.CX P w) 1 S.a__law_take S.h__law_take ["digits", "size"] (spD K mg 2 d__law_take) :=
  fn_okD (k := 0) (N := N__law_take) (m := m__law_take) S.F__law_take sc__law_take fun cdv A outer s H E hr => by
    have sc := sc__law_take
    have tk := tk_of (P := P) (w := w) (K := K) (mg := mg) (base := base) (N := N__law_take) (qual := "_law_take") (scope := defScope s__law_take) (f := S.a__law_take) (cd := cdv) (A := A) (outer := outer) (s := s) (H := H) (E := E)
    have po := po_of (P := P) (w := w) (K := K) (mg := mg) (base := base) (N := N__law_take) (qual := "_law_take") (scope := defScope s__law_take) (f := S.a__law_take) (cd := cdv) (A := A) (outer := outer) (s := s) (H := H) (E := E)
    have hu := Room.hu64 hr
    have hu65 := Room.hu65 hr
    have hu1 := Room.hu1 hr
    exact (pfss_cons (pfs_set sc.nd (pf_op op_mod im_mod (pf_callTy call_int1 im_int (by rfl) S.b_int (by decide +kernel) (pfa_cons (pf_ix (ix_any hu1) im_ixA (pf_var 0) (pf_int)) (pfa_nil))) (pf_var 1))) (pfss_cons (pfs_setIx (pf_op op_fdivW im_div (pf_ix (ix_any hu1) im_ixA (pf_var 0) (pf_int)) (pf_var 1)) (pf_var 0) (pf_int)) (pfss_one (pfs_ret (pf_var 2)))))

theorem sc__law_kinds : FnScope N__law_kinds ["error"] (defScope s__law_kinds) := ⟨rfl, rfl, rfl, by decide +kernel, rfl, by decide +kernel, by decide +kernel⟩
theorem bd__law_kinds (S : Fs K mg) : Binds K S.h__law_kinds ["error"] [] := S.F__law_kinds.bindsN fun _ _ _ _ _ _ us hl => match us, hl with | [_], _ => rfl
theorem ok__law_kinds (S : Fs K mg) : FnOk P w K mg base (L2.CX P w) 1 S.a__law_kinds S.h__law_kinds ["error"] (spD K mg 1 d__law_kinds) :=
  fn_okD (k := 0) (N := N__law_kinds) (m := m__law_kinds) S.F__law_kinds sc__law_kinds fun cdv A outer s H E hr => by
    have sc := sc__law_kinds
    have tk := tk_of (P := P) (w := w) (K := K) (mg := mg) (base := base) (N := N__law_kinds) (qual := "_law_kinds") (scope := defScope s__law_kinds) (f := S.a__law_kinds) (cd := cdv) (A := A) (outer := outer) (s := s) (H := H) (E := E)
    have po := po_of (P := P) (w := w) (K := K) (mg := mg) (base := base) (N := N__law_kinds) (qual := "_law_kinds") (scope := defScope s__law_kinds) (f := S.a__law_kinds) (cd := cdv) (A := A) (outer := outer) (s := s) (H := H) (E := E)
    have hu := Room.hu64 hr
    have hu65 := Room.hu65 hr
    have hu1 := Room.hu1 hr
    exact (pfss_cons (pfs_set sc.nd (pf_pure (pfl_lst (pfa_cons (pf_isA S.b_isinstance S.gx_InvalidRow (fun c C b h1 h2 => S.ti_InvalidRow c b h2 C h1) (pf_var 0)) (pfa_cons (pf_isA S.b_isinstance S.gx_InvalidRows (fun c C b h1 h2 => S.ti_InvalidRows c b h2 C h1) (pf_var 0)) (pfa_nil)))))) (pfss_cons (pfs_set sc.nd (pf_op op_addA im_add (pf_var 1) (pf_pure (pfl_lst (pfa_cons (pf_isA S.b_isinstance S.gx_InvalidProgram (fun c C b h1 h2 => S.ti_InvalidProgram c b h2 C h1) (pf_var 0)) (pfa_cons (pf_isA S.b_isinstance S.gx_InvalidOperation (fun c C b h1 h2 => S.ti_InvalidOperation c b h2 C h1) (pf_var 0)) (pfa_nil))))))) (pfss_cons (pfs_set sc.nd (pf_op op_addA im_add (pf_var 1) (pf_pure (pfl_lst (pfa_cons (pf_isA S.b_isinstance S.gx_InvalidWord (fun c C b h1 h2 => S.ti_InvalidWord c b h2 C h1) (pf_var 0)) (pfa_cons (pf_isA S.b_isinstance S.gx_InvalidNames (fun c C b h1 h2 => S.ti_InvalidNames c b h2 C h1) (pf_var 0)) (pfa_nil))))))) (pfss_cons (pfs_set sc.nd (pf_op op_addA im_add (pf_var 1) (pf_pure (pfl_lst (pfa_cons (pf_isA S.b_isinstance S.gx_InvalidMeaning (fun c C b h1 h2 => S.ti_InvalidMeaning c b h2 C h1) (pf_var 0)) (pfa_cons (pf_isA S.b_isinstance S.gx_InvalidNumber (fun c C b h1 h2 => S.ti_InvalidNumber c b h2 C h1) (pf_var 0)) (pfa_nil))))))) (pfss_cons (pfs_set sc.nd (pf_op op_addA im_add (pf_var 1) (pf_pure (pfl_lst (pfa_cons (pf_isA S.b_isinstance S.gx_InvalidFences (fun c C b h1 h2 => S.ti_InvalidFences c b h2 C h1) (pf_var 0)) (pfa_cons (pf_isA S.b_isinstance S.gx_InvalidResults (fun c C b h1 h2 => S.ti_InvalidResults c b h2 C h1) (pf_var 0)) (pfa_nil))))))) (pfss_cons (pfs_set sc.nd (pf_op op_addA im_add (pf_var 1) (pf_pure (pfl_lst (pfa_cons (pf_isA S.b_isinstance S.gx_InvalidText (fun c C b h1 h2 => S.ti_InvalidText c b h2 C h1) (pf_var 0)) (pfa_cons (pf_isA S.b_isinstance S.gx_TooLarge (fun c C b h1 h2 => S.ti_TooLarge c b h2 C h1) (pf_var 0)) (pfa_nil))))))) (pfss_cons (pfs_set sc.nd (pf_op op_addA im_add (pf_var 1) (pf_pure (pfl_lst (pfa_cons (pf_isA S.b_isinstance S.gx_NoProgram (fun c C b h1 h2 => S.ti_NoProgram c b h2 C h1) (pf_var 0)) (pfa_cons (pf_isA S.b_isinstance S.gx_NoSource (fun c C b h1 h2 => S.ti_NoSource c b h2 C h1) (pf_var 0)) (pfa_nil))))))) (pfss_cons (pfs_set sc.nd (pf_op op_addA im_add (pf_var 1) (pf_pure (pfl_lst (pfa_cons (pf_isA S.b_isinstance S.gx_NothingToUndo (fun c C b h1 h2 => S.ti_NothingToUndo c b h2 C h1) (pf_var 0)) (pfa_cons (pf_isA S.b_isinstance S.gx_Locked (fun c C b h1 h2 => S.ti_Locked c b h2 C h1) (pf_var 0)) (pfa_nil))))))) (pfss_one (pfs_ret (pf_var 1)))))))))))

theorem sc__law_plain : FnScope N__law_plain [] (defScope s__law_plain) := ⟨rfl, rfl, rfl, by decide +kernel, rfl, by decide +kernel, by decide +kernel⟩
theorem bd__law_plain (S : Fs K mg) : Binds K S.h__law_plain [] [] := S.F__law_plain.bindsN fun _ _ _ _ _ _ us hl => match us, hl with | [], _ => rfl
theorem ok__law_plain (S : Fs K mg) : FnOk P w K mg base (L2.CX P w) 1 S.a__law_plain S.h__law_plain [] (spD K mg 0 d__law_plain) :=
  fn_okD (k := 0) (N := N__law_plain) (m := m__law_plain) S.F__law_plain sc__law_plain fun cdv A outer s H E hr => by
    have sc := sc__law_plain
    have tk := tk_of (P := P) (w := w) (K := K) (mg := mg) (base := base) (N := N__law_plain) (qual := "_law_plain") (scope := defScope s__law_plain) (f := S.a__law_plain) (cd := cdv) (A := A) (outer := outer) (s := s) (H := H) (E := E)
    have po := po_of (P := P) (w := w) (K := K) (mg := mg) (base := base) (N := N__law_plain) (qual := "_law_plain") (scope := defScope s__law_plain) (f := S.a__law_plain) (cd := cdv) (A := A) (outer := outer) (s := s) (H := H) (E := E)
    have hu := Room.hu64 hr
    have hu65 := Room.hu65 hr
    have hu1 := Room.hu1 hr
    exact (pfss_cons (pfs_set sc.nd (pf_pure (pfl_lst (pfa_cons (pf_new0 S.x_InvalidRow.1 S.x_InvalidRow.2.1 S.x_InvalidRow.2.2.1) (pfa_cons (pf_new0 S.x_InvalidRows.1 S.x_InvalidRows.2.1 S.x_InvalidRows.2.2.1) (pfa_cons (pf_new0 S.x_InvalidProgram.1 S.x_InvalidProgram.2.1 S.x_InvalidProgram.2.2.1) (pfa_cons (pf_new0 S.x_InvalidOperation.1 S.x_InvalidOperation.2.1 S.x_InvalidOperation.2.2.1) (pfa_nil)))))))) (pfss_cons (pfs_set sc.nd (pf_op op_addA im_add (pf_var 0) (pf_pure (pfl_lst (pfa_cons (pf_new0 S.x_InvalidWord.1 S.x_InvalidWord.2.1 S.x_InvalidWord.2.2.1) (pfa_cons (pf_new0 S.x_InvalidNames.1 S.x_InvalidNames.2.1 S.x_InvalidNames.2.2.1) (pfa_cons (pf_new0 S.x_InvalidMeaning.1 S.x_InvalidMeaning.2.1 S.x_InvalidMeaning.2.2.1) (pfa_cons (pf_new0 S.x_InvalidNumber.1 S.x_InvalidNumber.2.1 S.x_InvalidNumber.2.2.1) (pfa_nil))))))))) (pfss_cons (pfs_set sc.nd (pf_op op_addA im_add (pf_var 0) (pf_pure (pfl_lst (pfa_cons (pf_new0 S.x_InvalidFences.1 S.x_InvalidFences.2.1 S.x_InvalidFences.2.2.1) (pfa_cons (pf_new0 S.x_InvalidResults.1 S.x_InvalidResults.2.1 S.x_InvalidResults.2.2.1) (pfa_cons (pf_new0 S.x_InvalidText.1 S.x_InvalidText.2.1 S.x_InvalidText.2.2.1) (pfa_cons (pf_new0 S.x_TooLarge.1 S.x_TooLarge.2.1 S.x_TooLarge.2.2.1) (pfa_cons (pf_new0 S.x_NoProgram.1 S.x_NoProgram.2.1 S.x_NoProgram.2.2.1) (pfa_nil)))))))))) (pfss_cons (pfs_set sc.nd (pf_op op_addA im_add (pf_var 0) (pf_pure (pfl_lst (pfa_cons (pf_new0 S.x_NoSource.1 S.x_NoSource.2.1 S.x_NoSource.2.2.1) (pfa_cons (pf_new0 S.x_NothingToUndo.1 S.x_NothingToUndo.2.1 S.x_NothingToUndo.2.2.1) (pfa_nil))))))) (pfss_one (pfs_ret (pf_var 0)))))))

theorem sc__law_told : FnScope N__law_told ["one"] (defScope s__law_told) := ⟨rfl, rfl, rfl, by decide +kernel, rfl, by decide +kernel, by decide +kernel⟩
theorem bd__law_told (S : Fs K mg) : Binds K S.h__law_told ["one"] [] := S.F__law_told.bindsN fun _ _ _ _ _ _ us hl => match us, hl with | [_], _ => rfl
theorem ok__law_told (S : Fs K mg) : FnOk P w K mg base (L2.CX P w) 1 S.a__law_told S.h__law_told ["one"] (spD K mg 1 d__law_told) :=
  fn_okD (k := 0) (N := N__law_told) (m := m__law_told) S.F__law_told sc__law_told fun cdv A outer s H E hr => by
    have sc := sc__law_told
    have tk := tk_of (P := P) (w := w) (K := K) (mg := mg) (base := base) (N := N__law_told) (qual := "_law_told") (scope := defScope s__law_told) (f := S.a__law_told) (cd := cdv) (A := A) (outer := outer) (s := s) (H := H) (E := E)
    have po := po_of (P := P) (w := w) (K := K) (mg := mg) (base := base) (N := N__law_told) (qual := "_law_told") (scope := defScope s__law_told) (f := S.a__law_told) (cd := cdv) (A := A) (outer := outer) (s := s) (H := H) (E := E)
    have hu := Room.hu64 hr
    have hu65 := Room.hu65 hr
    have hu1 := Room.hu1 hr
    exact (pfss_cons (pfs_set sc.nd (pf_pure (pfl_lst (pfa_cons (pf_new1 S.x_InvalidRow.1 S.x_InvalidRow.2.1 S.x_InvalidRow.2.2.1 (pf_var 0)) (pfa_cons (pf_new1 S.x_InvalidRows.1 S.x_InvalidRows.2.1 S.x_InvalidRows.2.2.1 (pf_var 0)) (pfa_cons (pf_new1 S.x_InvalidProgram.1 S.x_InvalidProgram.2.1 S.x_InvalidProgram.2.2.1 (pf_var 0)) (pfa_cons (pf_new1 S.x_InvalidOperation.1 S.x_InvalidOperation.2.1 S.x_InvalidOperation.2.2.1 (pf_var 0)) (pfa_nil)))))))) (pfss_cons (pfs_set sc.nd (pf_op op_addA im_add (pf_var 1) (pf_pure (pfl_lst (pfa_cons (pf_new1 S.x_InvalidWord.1 S.x_InvalidWord.2.1 S.x_InvalidWord.2.2.1 (pf_var 0)) (pfa_cons (pf_new1 S.x_InvalidNames.1 S.x_InvalidNames.2.1 S.x_InvalidNames.2.2.1 (pf_var 0)) (pfa_cons (pf_new1 S.x_InvalidMeaning.1 S.x_InvalidMeaning.2.1 S.x_InvalidMeaning.2.2.1 (pf_var 0)) (pfa_cons (pf_new1 S.x_InvalidNumber.1 S.x_InvalidNumber.2.1 S.x_InvalidNumber.2.2.1 (pf_var 0)) (pfa_nil))))))))) (pfss_cons (pfs_set sc.nd (pf_op op_addA im_add (pf_var 1) (pf_pure (pfl_lst (pfa_cons (pf_new1 S.x_InvalidFences.1 S.x_InvalidFences.2.1 S.x_InvalidFences.2.2.1 (pf_var 0)) (pfa_cons (pf_new1 S.x_InvalidResults.1 S.x_InvalidResults.2.1 S.x_InvalidResults.2.2.1 (pf_var 0)) (pfa_cons (pf_new1 S.x_InvalidText.1 S.x_InvalidText.2.1 S.x_InvalidText.2.2.1 (pf_var 0)) (pfa_cons (pf_new1 S.x_TooLarge.1 S.x_TooLarge.2.1 S.x_TooLarge.2.2.1 (pf_var 0)) (pfa_nil))))))))) (pfss_cons (pfs_set sc.nd (pf_op op_addA im_add (pf_var 1) (pf_pure (pfl_lst (pfa_cons (pf_new1 S.x_NoProgram.1 S.x_NoProgram.2.1 S.x_NoProgram.2.2.1 (pf_var 0)) (pfa_cons (pf_new1 S.x_NoSource.1 S.x_NoSource.2.1 S.x_NoSource.2.2.1 (pf_var 0)) (pfa_cons (pf_new1 S.x_NothingToUndo.1 S.x_NothingToUndo.2.1 S.x_NothingToUndo.2.2.1 (pf_var 0)) (pfa_nil)))))))) (pfss_one (pfs_ret (pf_var 1)))))))

theorem sc__law_cell : FnScope N__law_cell ["script", "k"] (defScope s__law_cell) := ⟨rfl, rfl, rfl, by decide +kernel, rfl, by decide +kernel, by decide +kernel⟩
theorem bd__law_cell (S : Fs K mg) : Binds K S.h__law_cell ["script", "k"] [] := S.F__law_cell.bindsN fun _ _ _ _ _ _ us hl => match us, hl with | [_, _], _ => rfl
theorem ok__law_cell (S : Fs K mg) : FnOk P w K mg base (L2.CX P w) 2 S.a__law_cell S.h__law_cell ["script", "k"] (spD K mg 2 d__law_cell) :=
  fn_okD (k := 1) (N := N__law_cell) (m := m__law_cell) S.F__law_cell sc__law_cell fun cdv A outer s H E hr => by
    have sc := sc__law_cell
    have tk := tk_of (P := P) (w := w) (K := K) (mg := mg) (base := base) (N := N__law_cell) (qual := "_law_cell") (scope := defScope s__law_cell) (f := S.a__law_cell) (cd := cdv) (A := A) (outer := outer) (s := s) (H := H) (E := E)
    have po := po_of (P := P) (w := w) (K := K) (mg := mg) (base := base) (N := N__law_cell) (qual := "_law_cell") (scope := defScope s__law_cell) (f := S.a__law_cell) (cd := cdv) (A := A) (outer := outer) (s := s) (H := H) (E := E)
    have hu := Room.hu64 hr
    have hu65 := Room.hu65 hr
    have hu1 := Room.hu1 hr
    exact (pfss_cons (pfs_set sc.nd (pf_int)) (pfss_cons (pfs_if (pft_cmp op_lt im_lt (pf_var 1) (pf_callB call_lenA im_len (by rfl) S.b_len (by decide +kernel) (pfa_cons (pf_var 0) (pfa_nil)))) (pfss_one (pfs_set sc.nd (pf_ix (ix_any hu1) im_ixA (pf_var 0) (pf_var 1)))) (pfss_nil)) (pfss_cons (pfs_if (pft_cmp op_ge im_ge (pf_var 2) (pf_op op_pow im_pow (pf_int) (pf_int))) (pfss_one (pfs_ret (pf_op op_mod im_mod (pf_callTy call_int1 im_int (by rfl) S.b_int (by decide +kernel) (pfa_cons (pf_op op_sub im_sub (pf_var 2) (pf_op op_pow im_pow (pf_int) (pf_int))) (pfa_nil))) (pf_op op_mulA im_mul (pf_op op_mulA im_mul (pf_op op_mulA im_mul (pf_op op_pow im_pow (pf_int) (pf_int)) (pf_op op_pow im_pow (pf_int) (pf_int))) (pf_op op_pow im_pow (pf_int) (pf_int))) (pf_op op_pow im_pow (pf_int) (pf_int)))))) (pfss_nil)) (pfss_cons (pfs_set sc.nd (pf_int)) (pfss_cons (pfs_for po rfl (pfi_rng1 S.b_range (pfa_cons (pf_int) (pfa_nil))) (pg_name sc.nd (by rfl) (by first | exact .inl rfl | exact .inr rfl)) (pfss_one (pfs_set sc.nd (pf_op op_addA im_add (pf_op op_mulA im_mul (pf_var 3) (pf_int)) (pf_call (ok__law_mixed S) (hr.mono (by decide)) (by rfl) S.g__law_mixed S.F__law_mixed.kp (bd__law_mixed S) tk (pfa_cons (pf_var 2) (pfa_cons (pf_op op_addA im_add (pf_op op_addA im_add (pf_op op_mulA im_mul (pf_int) (pf_var 1)) (pf_op op_mulA im_mul (pf_int) (pf_var 4))) (pf_op op_mulA im_mul (pf_var 4) (pf_var 4))) (pfa_nil))) (hfl := (fcons_len (fcons_len fnil_len)))))))) (pfss_one (pfs_ret (pf_var 3))))))))

theorem sc__law_all_good : FnScope N__law_all_good ["errors"] (defScope s__law_all_good) := ⟨rfl, rfl, rfl, by decide +kernel, rfl, by decide +kernel, by decide +kernel⟩
theorem bd__law_all_good (S : Fs K mg) : Binds K S.h__law_all_good ["errors"] [] := S.F__law_all_good.bindsN fun _ _ _ _ _ _ us hl => match us, hl with | [_], _ => rfl
theorem ok__law_all_good (S : Fs K mg) : FnOk P w K mg base (L2.CX P w) 2 S.a__law_all_good S.h__law_all_good ["errors"] (spD K mg 1 d__law_all_good) :=
  fn_okD (k := 1) (N := N__law_all_good) (m := m__law_all_good) S.F__law_all_good sc__law_all_good fun cdv A outer s H E hr => by
    have sc := sc__law_all_good
    have tk := tk_of (P := P) (w := w) (K := K) (mg := mg) (base := base) (N := N__law_all_good) (qual := "_law_all_good") (scope := defScope s__law_all_good) (f := S.a__law_all_good) (cd := cdv) (A := A) (outer := outer) (s := s) (H := H) (E := E)
    have po := po_of (P := P) (w := w) (K := K) (mg := mg) (base := base) (N := N__law_all_good) (qual := "_law_all_good") (scope := defScope s__law_all_good) (f := S.a__law_all_good) (cd := cdv) (A := A) (outer := outer) (s := s) (H := H) (E := E)
    have hu := Room.hu64 hr
    have hu65 := Room.hu65 hr
    have hu1 := Room.hu1 hr
    exact (pfss_cons (pfs_for po rfl (pfi_rng1 S.b_range (pfa_cons (pf_callB call_lenA im_len (by rfl) S.b_len (by decide +kernel) (pfa_cons (pf_var 0) (pfa_nil))) (pfa_nil))) (pg_name sc.nd (by rfl) (by first | exact .inl rfl | exact .inr rfl)) (pfss_cons (pfs_set sc.nd (pf_ix (ix_any hu1) im_ixA (pf_var 0) (pf_var 1))) (pfss_cons (pfs_if (PFW.pt (pfw_or (pft_not (pft_val (pf_isA S.b_isinstance S.gx_FrontBackError (fun c C b h1 h2 => S.ti_FrontBackError c b h2 C h1) (pf_var 2)))) (pfw_or1 (pft_not (pft_val (pf_isAB S.b_isinstance S.b_ValueError (by decide +kernel) (fun c C b h1 h2 => S.ti_ValueError c b h2 C h1) (pf_var 2))))))) (pfss_one (pfs_ret (pf_bl))) (pfss_nil)) (pfss_cons (pfs_if (pft_val (pf_isAT (Ts := ["TypeError", "LookupError", "ArithmeticError", "RuntimeError", "AttributeError"]) S.b_isinstance (pa_cons (pe_bltn (v := .ty "TypeError") rfl S.b_TypeError (by decide +kernel) rfl) (pa_cons (pe_bltn (v := .ty "LookupError") rfl S.b_LookupError (by decide +kernel) rfl) (pa_cons (pe_bltn (v := .ty "ArithmeticError") rfl S.b_ArithmeticError (by decide +kernel) rfl) (pa_cons (pe_bltn (v := .ty "RuntimeError") rfl S.b_RuntimeError (by decide +kernel) rfl) (pa_cons (pe_bltn (v := .ty "AttributeError") rfl S.b_AttributeError (by decide +kernel) rfl) pa_nil))))) (fun _ _ _ q => q) (by decide) (fun c C b h1 h2 => S.tt_0 c b h2 C h1) (pf_var 2))) (pfss_one (pfs_ret (pf_bl))) (pfss_nil)) (pfss_one (pfs_if (pft_cmp (op_neA hu) im_ne (pf_call (ok__law_kinds S) (hr.mono (by decide)) (by rfl) S.g__law_kinds S.F__law_kinds.kp (bd__law_kinds S) tk (pfa_cons (pf_var 2) (pfa_nil)) (hfl := (fcons_len fnil_len))) (pf_pure (pfl_lc rfl sc.nd (pfi_rng1 S.b_range (pfa_cons (pf_int) (pfa_nil))) (own := [("spot", 3)]) (show BlkOk N__law_all_good (defScope s__law_all_good) _ _ from ⟨rfl, by decide +kernel, by decide +kernel, by decide +kernel, by decide +kernel⟩) rfl (fun _ _ _ _ _ => pg_name sc.nd (by rfl) (by first | exact .inl rfl | exact .inr rfl)) (fun _ _ _ _ _ => pts_yes) (fun _ _ _ _ _ => pf_cmp (op_eqA hu) im_eq (pf_var 1) (pf_var 3))))) (pfss_one (pfs_ret (pf_bl))) (pfss_nil))))))) (pfss_one (pfs_ret (pf_bl))))

theorem sc__law_locked_good : FnScope N__law_locked_good ["thing"] (defScope s__law_locked_good) := ⟨rfl, rfl, rfl, by decide +kernel, rfl, by decide +kernel, by decide +kernel⟩
theorem bd__law_locked_good (S : Fs K mg) : Binds K S.h__law_locked_good ["thing"] [] := S.F__law_locked_good.bindsN fun _ _ _ _ _ _ us hl => match us, hl with | [_], _ => rfl
theorem ok__law_locked_good (S : Fs K mg) : FnG P w K mg base 4 S.a__law_locked_good S.h__law_locked_good ["thing"] (spD K mg 1 d__law_locked_good) :=
  fnG_of (k := 3) (N := N__law_locked_good) (m := m__law_locked_good) S.F__law_locked_good sc__law_locked_good fun cdv A outer s H E hr quiet => by
    have sc := sc__law_locked_good
    have tk := tk_of (P := P) (w := w) (K := K) (mg := mg) (base := base) (N := N__law_locked_good) (qual := "_law_locked_good") (scope := defScope s__law_locked_good) (f := S.a__law_locked_good) (cd := cdv) (A := A) (outer := outer) (s := s) (H := H) (E := E)
    have po := po_of (P := P) (w := w) (K := K) (mg := mg) (base := base) (N := N__law_locked_good) (qual := "_law_locked_good") (scope := defScope s__law_locked_good) (f := S.a__law_locked_good) (cd := cdv) (A := A) (outer := outer) (s := s) (H := H) (E := E)
    have hu := Room.hu64 hr
    have hu65 := Room.hu65 hr
    have hu1 := Room.hu1 hr
    exact (pfss_cons (pfs_set sc.nd (pf_pure (pfl_lst (pfa_cons (pf_newA (own_Locked S) (hr.mono (by decide)) (bd1_Locked S) rfl (pf_var 0)) (pfa_cons (pf_newAK (own_Locked S) (hr.mono (by decide)) (bdK_Locked S) (pf_var 0)) (pfa_nil)))))) (pfss_cons (pfs_if (pft_cmp (op_neA hu) im_ne (pf_callTy (call_strD S.sys quiet hu65) im_strD (by rfl) S.b_str (by decide +kernel) (pfa_cons (pf_pure (pfl_lcV rfl sc.nd (pf_var 1) (own := [("error", 2)]) (show BlkOk N__law_locked_good (defScope s__law_locked_good) _ _ from ⟨rfl, by decide +kernel, by decide +kernel, by decide +kernel, by decide +kernel⟩) rfl (fun _ _ _ _ _ => pg_name sc.nd (by rfl) (by first | exact .inl rfl | exact .inr rfl)) (fun _ _ _ _ _ => pts_yes) (fun _ _ _ _ _ => pf_att S.g_Locked S.n_Locked.2.2.2.1 S.n_Locked.2.2.1 (pf_var 2)))) (pfa_nil))) (pf_callTy (call_strD S.sys quiet hu65) im_strD (by rfl) S.b_str (by decide +kernel) (pfa_cons (pf_pure (pfl_lst (pfa_cons (pf_var 0) (pfa_cons (pf_var 0) (pfa_nil))))) (pfa_nil)))) (pfss_one (pfs_ret (pf_bl))) (pfss_nil)) (pfss_cons (pfs_forV po rfl (pf_var 1) (pg_name sc.nd (by rfl) (by first | exact .inl rfl | exact .inr rfl)) (pfss_cons (pfs_if (PFW.pt (pfw_or (pft_not (pft_val (pf_isA S.b_isinstance S.gx_FrontBackError (fun c C b h1 h2 => S.ti_FrontBackError c b h2 C h1) (pf_var 2)))) (pfw_or1 (pft_cmp (op_neA hu) im_ne (pf_call (ok__law_kinds S) (hr.mono (by decide)) (by rfl) S.g__law_kinds S.F__law_kinds.kp (bd__law_kinds S) tk (pfa_cons (pf_var 2) (pfa_nil)) (hfl := (fcons_len fnil_len))) (pf_pure (pfl_lc rfl sc.nd (pfi_rng1 S.b_range (pfa_cons (pf_int) (pfa_nil))) (own := [("spot", 3)]) (show BlkOk N__law_locked_good (defScope s__law_locked_good) _ _ from ⟨rfl, by decide +kernel, by decide +kernel, by decide +kernel, by decide +kernel⟩) rfl (fun _ _ _ _ _ => pg_name sc.nd (by rfl) (by first | exact .inl rfl | exact .inr rfl)) (fun _ _ _ _ _ => pts_yes) (fun _ _ _ _ _ => pf_cmp (op_eqA hu) im_eq (pf_var 3) (pf_int)))))))) (pfss_one (pfs_ret (pf_bl))) (pfss_nil)) (pfss_one (pfs_if (pft_val (pf_isAT (Ts := ["TypeError", "LookupError", "ArithmeticError", "RuntimeError", "AttributeError"]) S.b_isinstance (pa_cons (pe_bltn (v := .ty "TypeError") rfl S.b_TypeError (by decide +kernel) rfl) (pa_cons (pe_bltn (v := .ty "LookupError") rfl S.b_LookupError (by decide +kernel) rfl) (pa_cons (pe_bltn (v := .ty "ArithmeticError") rfl S.b_ArithmeticError (by decide +kernel) rfl) (pa_cons (pe_bltn (v := .ty "RuntimeError") rfl S.b_RuntimeError (by decide +kernel) rfl) (pa_cons (pe_bltn (v := .ty "AttributeError") rfl S.b_AttributeError (by decide +kernel) rfl) pa_nil))))) (fun _ _ _ q => q) (by decide) (fun c C b h1 h2 => S.tt_0 c b h2 C h1) (pf_var 2))) (pfss_one (pfs_ret (pf_bl))) (pfss_nil))))) (pfss_one (pfs_ret (pf_bl))))))

theorem sc_law : FnScope N_law ["script"] (defScope s_law) := ⟨rfl, rfl, rfl, by decide +kernel, rfl, by decide +kernel, by decide +kernel⟩
theorem bd_law (S : Fs K mg) : Binds K S.h_law ["script"] [] := S.F_law.bindsN fun _ _ _ _ _ _ us hl => match us, hl with | [_], _ => rfl
theorem ok_law (S : Fs K mg) : FnG P w K mg base 5 S.a_law S.h_law ["script"] (spD K mg 1 d_law) :=
  fnG_of (k := 4) (N := N_law) (m := m_law) S.F_law sc_law fun cdv A outer s H E hr quiet => by
    have sc := sc_law
    have tk := tk_of (P := P) (w := w) (K := K) (mg := mg) (base := base) (N := N_law) (qual := "law") (scope := defScope s_law) (f := S.a_law) (cd := cdv) (A := A) (outer := outer) (s := s) (H := H) (E := E)
    have po := po_of (P := P) (w := w) (K := K) (mg := mg) (base := base) (N := N_law) (qual := "law") (scope := defScope s_law) (f := S.a_law) (cd := cdv) (A := A) (outer := outer) (s := s) (H := H) (E := E)
    have hu := Room.hu64 hr
    have hu65 := Room.hu65 hr
    have hu1 := Room.hu1 hr
    exact (pfss_cons (pfs_if (PFW.pt (pfw_or (pft_not (pft_val (pf_call (ok__law_all_good S) (hr.mono (by decide)) (by rfl) S.g__law_all_good S.F__law_all_good.kp (bd__law_all_good S) tk (pfa_cons (pf_call0 (ok__law_plain S) (hr.mono (by decide)) (by rfl) S.g__law_plain S.F__law_plain.kp (bd__law_plain S) tk) (pfa_nil)) (hfl := (fcons_len fnil_len))))) (pfw_or1 (pft_not (pft_val (pf_call (ok__law_all_good S) (hr.mono (by decide)) (by rfl) S.g__law_all_good S.F__law_all_good.kp (bd__law_all_good S) tk (pfa_cons (pf_call (ok__law_told S) (hr.mono (by decide)) (by rfl) S.g__law_told S.F__law_told.kp (bd__law_told S) tk (pfa_cons (pf_str) (pfa_nil)) (hfl := (fcons_len fnil_len))) (pfa_nil)) (hfl := (fcons_len fnil_len)))))))) (pfss_one (pfs_ret (pf_bl))) (pfss_nil)) (pfss_cons (pfs_if (pft_cmp op_isNotA im_isNot (pf_att S.g_Locked S.n_Locked.2.2.2.1 S.n_Locked.2.2.1 (pf_newA0 (own_Locked S) (hr.mono (by decide)) (bd0_Locked S) rfl)) (pf_non)) (pfss_one (pfs_ret (pf_bl))) (pfss_nil)) (pfss_cons (pfs_forV po rfl (pf_pure (pfl_lst (pfa_cons (pf_new0 S.x_FrontBackError.1 S.x_FrontBackError.2.1 S.x_FrontBackError.2.2.1) (pfa_cons (pf_new1 S.x_FrontBackError.1 S.x_FrontBackError.2.1 S.x_FrontBackError.2.2.1 (pf_str)) (pfa_nil))))) (pg_name sc.nd (by rfl) (by first | exact .inl rfl | exact .inr rfl)) (pfss_one (pfs_if (PFW.pt (pfw_or (pft_not (pft_val (pf_isAB S.b_isinstance S.b_ValueError (by decide +kernel) (fun c C b h1 h2 => S.ti_ValueError c b h2 C h1) (pf_var 1)))) (pfw_or1 (pft_cmp (op_inA hu65) im_in (pf_bl) (pf_call (ok__law_kinds S) (hr.mono (by decide)) (by rfl) S.g__law_kinds S.F__law_kinds.kp (bd__law_kinds S) tk (pfa_cons (pf_var 1) (pfa_nil)) (hfl := (fcons_len fnil_len))))))) (pfss_one (pfs_ret (pf_bl))) (pfss_nil)))) (pfss_cons (pfs_for po rfl (pfi_rng1 S.b_range (pfa_cons (pf_callB (call_maxA rfl) im_max (by rfl) S.b_max (by decide +kernel) (pfa_cons (pf_callB (call_min2 rfl) im_min (by rfl) S.b_min (by decide +kernel) (pfa_cons (pf_callB call_lenA im_len (by rfl) S.b_len (by decide +kernel) (pfa_cons (pf_var 0) (pfa_nil))) (pfa_cons (pf_int) (pfa_nil)))) (pfa_cons (pf_int) (pfa_nil)))) (pfa_nil))) (pg_name sc.nd (by rfl) (by first | exact .inl rfl | exact .inr rfl)) (pfss_cons (pfs_set sc.nd (pf_cell (pfl_lst (pfa_cons (pf_call (ok__law_cell S) (hr.mono (by decide)) (by rfl) S.g__law_cell S.F__law_cell.kp (bd__law_cell S) tk (pfa_cons (pf_var 0) (pfa_cons (pf_var 2) (pfa_nil))) (hfl := (fcons_len (fcons_len fnil_len)))) (pfa_nil))))) (pfss_cons (pfs_set sc.nd (pf_join (pf_str) (pf_pure (pfl_lc rfl sc.nd (pfi_rng1 S.b_range (pfa_cons (pf_call (ok__law_take S) (hr.mono (by decide)) (by rfl) S.g__law_take S.F__law_take.kp (bd__law_take S) tk (pfa_cons (pf_var 3) (pfa_cons (pf_int) (pfa_nil))) (hfl := (fcons_len (fcons_len fnil_len)))) (pfa_nil))) (own := [("k", 9)]) (show BlkOk N_law (defScope s_law) _ _ from ⟨rfl, by decide +kernel, by decide +kernel, by decide +kernel, by decide +kernel⟩) rfl (fun _ _ _ _ _ => pg_name sc.nd (by rfl) (by first | exact .inl rfl | exact .inr rfl)) (fun _ _ _ _ _ => pts_yes) (fun _ _ _ _ _ => pf_ix (ix_any hu1) im_ixA (pf_str) (pf_call (ok__law_take S) (hr.mono (by decide)) (by rfl) S.g__law_take S.F__law_take.kp (bd__law_take S) takesW0 (pfa_cons (pf_var 3) (pfa_cons (pf_int) (pfa_nil))) (hfl := (fcons_len (fcons_len fnil_len))))))))) (pfss_cons (pfs_set sc.nd (pf_call (ok__law_take S) (hr.mono (by decide)) (by rfl) S.g__law_take S.F__law_take.kp (bd__law_take S) tk (pfa_cons (pf_var 3) (pfa_cons (pf_int) (pfa_nil))) (hfl := (fcons_len (fcons_len fnil_len))))) (pfss_cons (pfs_set sc.nd (pf_pure (pfl_lst (pfa_cons (pf_var 4) (pfa_cons (pf_var 5) (pfa_cons (pf_non) (pfa_cons (pf_pure (pfl_lst (pfa_cons (pf_var 4) (pfa_nil)))) (pfa_cons (pf_tup (pfa_cons (pf_var 4) (pfa_cons (pf_var 5) (pfa_nil)))) (pfa_cons (pf_str) (pfa_cons (pf_bl) (pfa_cons (pf_bl) (pfa_cons (pf_pure (pfl_lst (pfa_nil))) (pfa_cons (pf_tup (pfa_nil)) (pfa_cons (pf_e0) (pfa_cons (pf_dd1 (pf_var 4) (pf_tup (pfa_cons (pf_var 5) (pfa_nil)))) (pfa_nil)))))))))))))))) (pfss_cons (pfs_set sc.nd (pf_op op_addA im_add (pf_var 6) (pf_pure (pfl_lst (pfa_cons (pf_op op_mulE im_mulE (pf_var 4) (pf_int)) (pfa_cons (pf_op op_addA im_add (pf_op op_addA im_add (pf_str) (pf_var 4)) (pf_str)) (pfa_cons (pf_pure (pfl_lst (pfa_cons (pf_pure (pfl_lst (pfa_cons (pf_var 4) (pfa_cons (pf_non) (pfa_nil))))) (pfa_nil)))) (pfa_cons (pf_op op_mulE im_mulE (pf_str) (pf_int)) (pfa_nil))))))))) (pfss_cons (pfs_if (pft_not (pft_val (pf_callB (cr_all rfl) im_all (by rfl) S.b_all (by decide +kernel) (pfa_cons (pf_pure (pfl_lcV rfl sc.nd (pf_var 6) (own := [("thing", 10)]) (show BlkOk N_law (defScope s_law) _ _ from ⟨rfl, by decide +kernel, by decide +kernel, by decide +kernel, by decide +kernel⟩) rfl (fun _ _ _ _ _ => pg_name sc.nd (by rfl) (by first | exact .inl rfl | exact .inr rfl)) (fun _ _ _ _ _ => pts_yes) (fun _ _ _ _ _ => pf_callG (ok__law_locked_good S) (hr.mono (by decide)) quiet (by rfl) S.g__law_locked_good S.F__law_locked_good.kp (bd__law_locked_good S) takesW0 (pfa_cons (pf_var 10) (pfa_nil)) (hfl := (fcons_len fnil_len))))) (pfa_nil))))) (pfss_one (pfs_ret (pf_bl))) (pfss_nil)) (pfss_cons (pfs_set sc.nd (pf_cell (pfl_lst (pfa_cons (pf_var 4) (pfa_nil))))) (pfss_cons (pfs_set sc.nd (pf_newA (own_Locked S) (hr.mono (by decide)) (bd1_Locked S) rfl (pf_var 7))) (pfss_cons (pfs_expr (pf_mth PySem.F.slot_list_append PySem.F.type_list_append mt_append im_append (pf_var 7) (pfa_cons (pf_var 5) (pfa_nil)))) (pfss_cons (pfs_if (PFW.pt (pfw_or (pft_cmp (op_neA hu) im_ne (pf_att S.g_Locked S.n_Locked.2.2.2.1 S.n_Locked.2.2.1 (pf_var 1)) (pf_pure (pfl_lst (pfa_cons (pf_var 4) (pfa_cons (pf_var 5) (pfa_nil)))))) (pfw_or1 (pft_not (pft_val (pf_call (ok__law_all_good S) (hr.mono (by decide)) (by rfl) S.g__law_all_good S.F__law_all_good.kp (bd__law_all_good S) tk (pfa_cons (pf_call (ok__law_told S) (hr.mono (by decide)) (by rfl) S.g__law_told S.F__law_told.kp (bd__law_told S) tk (pfa_cons (pf_var 4) (pfa_nil)) (hfl := (fcons_len fnil_len))) (pfa_nil)) (hfl := (fcons_len fnil_len)))))))) (pfss_one (pfs_ret (pf_bl))) (pfss_nil)) (pfss_cons (pfs_set sc.nd (pf_dc1 (pf_var 4) (pf_var 5))) (pfss_cons (pfs_set sc.nd (pf_newAK (own_Locked S) (hr.mono (by decide)) (bdK_Locked S) (pf_var 8))) (pfss_cons (pfs_setK hu1 (pf_int) (pf_var 8) (pf_str)) (pfss_one (pfs_if (pft_cmp (op_ne_dictA (Nat.lt_of_le_of_lt (Nat.le_add_right _ _) hu1)) im_neD (pf_att S.g_Locked S.n_Locked.2.2.2.1 S.n_Locked.2.2.1 (pf_var 1)) (pf_var 8)) (pfss_one (pfs_ret (pf_bl))) (pfss_nil))))))))))))))))) (pfss_one (pfs_ret (pf_not (pf_isVE S.b_isinstance S.b_ValueError S.gx_FrontBackError S.v_FrontBackError (pf_str)))))))))

end
end FB.K04
set_option Elab.async false
set_option linter.all false
set_option maxRecDepth 100000
set_option maxHeartbeats 4000000
namespace FB.K04
open PySem PySem.Spec PyProof.Rows L2 RZ FB
abbrev LET : Str := "abcdefghijklmnopqrstuvwxyz"
def isWord (x : Str) : Bool := decide (1 ≤ x.length) && decide (x.length ≤ 8) && x.cps.toList.all fun c => decide (c ∈ LET.cps.toList)
end FB.K04
set_option Elab.async false
set_option linter.all false
set_option maxRecDepth 100000
set_option maxHeartbeats 4000000
namespace FB.K04
open PySem PySem.Spec PyProof.Rows L2 RZ FB
abbrev iD (n : Nat) : Dv := .p (.int (n : Nat))
theorem div_big {i : Int} {j : Int} {st : So} (h1 : 0 < j) (h2 : j < 2 ^ 8000) : gDiv (.p (.int i)) (.p (.int j)) st = some (.p (.int (i / j))) := by
  show (if decide (0 < j) && decide (j < 2 ^ 8000) then some (Dv.p (.int (i / j))) else none) = _
  rw [decide_eq_true h1, decide_eq_true h2]; rfl
abbrev zD (i : Int) : Dv := .p (.int i)
theorem mulA_r {i j : Int} {st : So} (h : j.natAbs < 2 ^ 64) : gMulA (zD i) (zD j) st = some (zD (i * j)) := by
  show (if decide (i.natAbs < 2 ^ 64) || decide (j.natAbs < 2 ^ 64) then some (Dv.p (.int (i * j))) else if decide (i.natAbs < 2 ^ 4000) && decide (j.natAbs < 2 ^ 4000) then some (Dv.p (.int (i * j))) else none) = _
  rw [decide_eq_true h, Bool.or_true, if_pos rfl]
theorem mulA_w {i j : Int} {st : So} (h1 : i.natAbs < 2 ^ 4000) (h2 : j.natAbs < 2 ^ 4000) : gMulA (zD i) (zD j) st = some (zD (i * j)) := by
  show (if decide (i.natAbs < 2 ^ 64) || decide (j.natAbs < 2 ^ 64) then some (Dv.p (.int (i * j))) else if decide (i.natAbs < 2 ^ 4000) && decide (j.natAbs < 2 ^ 4000) then some (Dv.p (.int (i * j))) else none) = _
  rw [decide_eq_true h1, decide_eq_true h2]
  split <;> rfl
theorem mod_z {i j : Int} {st : So} (h : 0 < j) : gMod (zD i) (zD j) st = some (zD (i % j)) := by
  show (if decide (0 < j) then some (Dv.p (.int (i % j))) else none) = _
  rw [decide_eq_true h, if_pos rfl]
theorem add_z {i j : Int} {st : So} : gAdd (zD i) (zD j) st = some (zD (i + j)) := rfl
theorem sub_z {i j : Int} {st : So} : gSub (zD i) (zD j) st = some (zD (i - j)) := rfl
theorem int_z {i : Int} {st : So} : gInt [zD i] st = some (zD i) := rfl
theorem lt_z {i j : Int} {st : So} : gLt (zD i) (zD j) st = some (.p (.bool (decide (i < j)))) := rfl
theorem ge_z {i j : Int} {st : So} : gGe (zD i) (zD j) st = some (.p (.bool (decide (j ≤ i)))) := rfl
theorem gt_z {i j : Int} {st : So} : gGt (zD i) (zD j) st = some (.p (.bool (decide (j < i)))) := rfl
theorem pow_z {i : Int} {j : Nat} {st : So} (h : i.natAbs < 2 ^ 64) (hj : j ≤ 1000) : gPow (zD i) (zD (j : Int)) st = some (zD (i ^ j)) := by
  show (if decide (0 ≤ (j : Int)) && decide ((j : Int) ≤ 1000000) && decide (i.natAbs < 2 ^ 64) then some (Dv.p (.int (i ^ (j : Int).toNat))) else none) = _
  rw [decide_eq_true (by omega), decide_eq_true (by omega), decide_eq_true h, Int.toNat_natCast]; rfl
theorem mod_small {i j : Int} (h : 0 < j) (hj : j < 2 ^ 32) : (i % j).natAbs < 2 ^ 64 := by
  have h1 := Int.emod_nonneg i (show j ≠ 0 by omega)
  have h2 := Int.emod_lt_of_pos i h
  omega
theorem mixed_ok (c k : Int) (st : So) : ∃ v, d__law_mixed [zD c, zD k] st = .ok (zD v) st := by
  have key : ∃ v, m__law_mixed [some (zD c), some (zD k), none] st = .ret (zD v) st := by
    unfold m__law_mixed
    have e1 : fOp gMod (fCB gInt (fCons (fOp gAdd (fOp gAdd (fOp gMulA (fOp gMod (fCB gInt (fCons (fVar 0) (fNil))) (fC (.int 2147483647))) (fC (.int 48271))) (fOp gMulA (fVar 1) (fC (.int 69621)))) (fC (.int 1048583))) (fNil))) (fC (.int 2147483629)) [some (zD c), some (zD k), none] st = .ok (zD ((c % 2147483647 * 48271 + k * 69621 + 1048583) % 2147483629)) st := by
      have a1 := mod_z (i := c) (j := 2147483647) (st := st) (by decide)
      have a2 := mulA_r (i := c % 2147483647) (j := 48271) (st := st) (by decide)
      have a3 := mulA_r (i := k) (j := 69621) (st := st) (by decide)
      have a4 := mod_z (i := c % 2147483647 * 48271 + k * 69621 + 1048583) (j := 2147483629) (st := st) (by decide)
      simp only [ev_op, ev_cb, ev_cons, ev_var, List.getElem?_cons_succ, List.getElem?_cons_zero, bind_ok, ev_nil, int_z, toR_some, ev_c, a1, a2, a3, add_z, a4]
    generalize hx : (c % 2147483647 * 48271 + k * 69621 + 1048583) % 2147483629 = x at e1
    have e2 : fOp gMod (fCB gInt (fCons (fOp gMulA (fVar 2) (fVar 2)) (fNil))) (fC (.int 2147483587)) [some (zD c), some (zD k), some (zD x)] st = .ok (zD (x * x % 2147483587)) st := by
      have a1 := mulA_r (i := x) (j := x) (st := st) (by rw [← hx]; exact mod_small (by decide) (by decide))
      have a2 := mod_z (i := x * x) (j := 2147483587) (st := st) (by decide)
      simp only [ev_op, ev_cb, ev_cons, ev_var, List.getElem?_cons_succ, List.getElem?_cons_zero, bind_ok, ev_nil, int_z, toR_some, ev_c, a1, a2]
    generalize hy : x * x % 2147483587 = y at e2
    have e3 : fOp gMod (fCB gInt (fCons (fOp gMulA (fVar 2) (fOp gAdd (fVar 2) (fC (.int 2)))) (fNil))) (fC (.int 2147483579)) [some (zD c), some (zD k), some (zD y)] st = .ok (zD (y * (y + 2) % 2147483579)) st := by
      have hb : y.natAbs < 2 ^ 32 := by
        have h1 := Int.emod_nonneg (x * x) (show (2147483587 : Int) ≠ 0 by decide)
        have h2 := Int.emod_lt_of_pos (x * x) (show (0 : Int) < 2147483587 by decide)
        omega
      have a1 := mulA_r (i := y) (j := y + 2) (st := st) (by omega)
      have a2 := mod_z (i := y * (y + 2)) (j := 2147483579) (st := st) (by decide)
      simp only [ev_op, ev_cb, ev_cons, ev_var, List.getElem?_cons_succ, List.getElem?_cons_zero, bind_ok, ev_nil, int_z, toR_some, ev_c, add_z, a1, a2]
    refine ⟨y * (y + 2) % 2147483579, ?_⟩
    rw [ev_seq, ev_asg, e1, st_ok, tg_nm, toE_some]
    simp only [List.set_cons_succ, List.set_cons_zero]
    rw [ev_seq, ev_asg, e2, st_ok, tg_nm, toE_some]
    simp only [List.set_cons_succ, List.set_cons_zero]
    rw [ev_ret, e3, st_ok]
  obtain ⟨v, hv⟩ := key
  exact ⟨v, runD_pure0 hv⟩
/-! ### the drawn numbers -/
def own (n : Int) : Cl := .lst [zD n]
def SS (st : So) (o : Nat) (n : Int) (rest : So) : So := st.set o (own n) ++ rest
theorem SS_at {st : So} {o : Nat} {n : Int} {rest : So} (h : o < st.length) : (SS st o n rest)[o]? = some (own n) := by
  unfold SS
  rw [List.getElem?_append_left (by rw [List.length_set]; exact h), List.getElem?_set_self h]
theorem SS_set {st : So} {o : Nat} {n m : Int} {rest : So} (h : o < st.length) : (SS st o n rest).set o (own m) = SS st o m rest := by
  unfold SS
  rw [List.set_append_left _ _ (by rw [List.length_set]; exact h), List.set_set]
theorem SS_len {st : So} {o : Nat} {n : Int} {rest : So} : (SS st o n rest).length = st.length + rest.length := by
  unfold SS; rw [List.length_append, List.length_set]
theorem take_ok {s : So} {o : Nat} {n k : Int} (h : s[o]? = some (own n)) (hk : 0 < k) (hk2 : k < 2 ^ 32) : d__law_take [.ref o, zD k] s = .ok (zD (n % k)) (s.set o (own (n / k))) := by
  have i0 : ∀ s' : So, s'[o]? = some (own n) → gIxA (.ref o) (.p (.int 0)) s' = some (zD n) := fun s' h' => by
    have d0 : dictOf (.ref o) s' = none := by unfold dictOf; dsimp only; rw [h']; rfl
    unfold gIxA
    rw [d0]
    show (match seqOf (.ref o) s' with | some xs => atI xs 0 | none => none) = _
    have : seqOf (.ref o) s' = some [zD n] := by
      show (match tupOf (.ref o) with | some xs => some xs | none => lstOf (.ref o) s') = _
      show lstOf (.ref o) s' = _
      unfold lstOf
      dsimp only
      rw [h']; rfl
    rw [this]
    rfl
  have e1 := i0 s h
  have a1 := mod_z (i := n) (j := k) (st := s) hk
  have a2 := div_big (i := n) (j := k) (st := s) hk (by
    have q : (2 : Int) ^ 32 ≤ 2 ^ 8000 := by
      have : ((2 ^ 32 : Nat) : Int) ≤ ((2 ^ 8000 : Nat) : Int) := Int.ofNat_le.mpr (Nat.pow_le_pow_right (by decide) (by decide))
      simpa [Int.natCast_pow] using this
    omega)
  have key : m__law_take [some (.ref o), some (zD k), none] s = .ret (zD (n % k)) (s.set o (own (n / k))) := by
    unfold m__law_take
    have s1 : fOp gMod (fCB gInt (fCons (fOp gIxA (fVar 0) (fC (.int 0))) fNil)) (fVar 1) [some (.ref o), some (zD k), none] s = .ok (zD (n % k)) s := by
      simp only [ev_op, ev_cb, ev_cons, ev_var, List.getElem?_cons_succ, List.getElem?_cons_zero, bind_ok, ev_nil, ev_c, e1, toR_some, int_z, a1]
    have s2 : fOp gDiv (fOp gIxA (fVar 0) (fC (.int 0))) (fVar 1) [some (.ref o), some (zD k), some (zD (n % k))] s = .ok (zD (n / k)) s := by
      simp only [ev_op, ev_var, List.getElem?_cons_succ, List.getElem?_cons_zero, bind_ok, ev_c, e1, toR_some, a2]
    have s3 : sSet (fOp gDiv (fOp gIxA (fVar 0) (fC (.int 0))) (fVar 1)) (fVar 0) (fC (.int 0)) [some (.ref o), some (zD k), some (zD (n % k))] s = .nx [some (.ref o), some (zD k), some (zD (n % k))] (s.set o (own (n / k))) := by
      unfold sSet tgSet
      rw [s2, st_ok]
      simp only [ev_var, List.getElem?_cons_zero, bind_ok, ev_c]
      have c : cellL (.ref o) s = some (o, [zD n]) := by
        unfold cellL
        dsimp only
        rw [h]; rfl
      rw [c]
      rfl
    rw [ev_seq, ev_asg, s1, st_ok, tg_nm, toE_some]
    simp only [List.set_cons_succ, List.set_cons_zero]
    rw [ev_seq, s3]
    dsimp only
    rw [ev_ret]
    simp only [ev_var, List.getElem?_cons_succ, List.getElem?_cons_zero, st_ok]
  show runD 3 m__law_take [.ref o, zD k] s = _
  rw [runD_ret (N := 3) (args := [.ref o, zD k]) key, trim_same (by rw [List.length_set])]
theorem take_SS {st : So} {o : Nat} {n k : Int} {rest : So} (h : o < st.length) (hk : 0 < k) (hk2 : k < 2 ^ 32) : d__law_take [.ref o, zD k] (SS st o n rest) = .ok (zD (n % k)) (SS st o (n / k) rest) := by
  rw [take_ok (SS_at h) hk hk2, SS_set h]
end FB.K04
set_option Elab.async false
set_option linter.all false
set_option maxRecDepth 100000
set_option maxHeartbeats 4000000
namespace FB.K04
open PySem PySem.Spec PyProof.Rows L2 RZ FB
def bodyC : FS := sAsg (fOp gAdd (fOp gMulA (fVar 3) (fC (.int 2147483579))) (fCall d__law_mixed (fCons (fVar 2) (fCons (fOp gAdd (fOp gAdd (fOp gMulA (fC (.int 7)) (fVar 1)) (fOp gMulA (fC (.int 100)) (fVar 4))) (fOp gMulA (fVar 4) (fVar 4))) (fNil))))) (.nm 3)
theorem cell_loop (a : Option Dv) (k c : Int) (st : So) : ∀ (xs : List Int) (f : Int) (x4 : Option Dv), (∀ x ∈ xs, x.natAbs < 2 ^ 32) → k.natAbs < 2 ^ 32 → ∃ v y4, sForL (.nm 4) bodyC (xs.map fun x => zD x) [a, some (zD k), some (zD c), some (zD f), x4] st = .nx [a, some (zD k), some (zD c), some (zD v), y4] st
  | [], f, x4, _, _ => ⟨f, x4, rfl⟩
  | x :: xs, f, x4, hx, hk => by
    have hx0 := hx x List.mem_cons_self
    obtain ⟨m, hm⟩ := mixed_ok c (7 * k + 100 * x + x * x) st
    have a1 := mulA_r (i := f) (j := 2147483579) (st := st) (by decide)
    have a2 := mulA_r (i := 7) (j := k) (st := st) (by omega)
    have a3 := mulA_r (i := 100) (j := x) (st := st) (by omega)
    have a4 := mulA_r (i := x) (j := x) (st := st) (by omega)
    have e : bodyC [a, some (zD k), some (zD c), some (zD f), some (zD x)] st = .nx [a, some (zD k), some (zD c), some (zD (f * 2147483579 + m)), some (zD x)] st := by
      unfold bodyC
      have e1 : fCall d__law_mixed (fCons (fVar 2) (fCons (fOp gAdd (fOp gAdd (fOp gMulA (fC (.int 7)) (fVar 1)) (fOp gMulA (fC (.int 100)) (fVar 4))) (fOp gMulA (fVar 4) (fVar 4))) (fNil))) [a, some (zD k), some (zD c), some (zD f), some (zD x)] st = .ok (zD m) st := by
        simp only [ev_call, ev_op, ev_cons, ev_var, List.getElem?_cons_succ, List.getElem?_cons_zero, bind_ok, ev_nil, ev_c, a2, a3, a4, toR_some, add_z, hm]
      rw [ev_asg, ev_op, ev_op]
      simp only [ev_var, List.getElem?_cons_succ, List.getElem?_cons_zero, bind_ok, ev_c, a1, toR_some, e1, add_z, st_ok, tg_nm, toE_some, List.set_cons_succ, List.set_cons_zero]
    obtain ⟨v, y4, ih⟩ := cell_loop a k c st xs (f * 2147483579 + m) (some (zD x)) (fun y hy => hx y (List.mem_cons_of_mem _ hy)) hk
    refine ⟨v, y4, ?_⟩
    rw [List.map_cons, forL_cons, tg_nm, toE_some]
    simp only [List.set_cons_succ, List.set_cons_zero, e]
    exact ih
theorem big60 : ((10 : Int) ^ 60).natAbs < 2 ^ 4000 := by decide +kernel
theorem big120 : ((10 : Int) ^ 60 * 10 ^ 60).natAbs < 2 ^ 4000 := by decide +kernel
theorem big180 : ((10 : Int) ^ 60 * 10 ^ 60 * 10 ^ 60).natAbs < 2 ^ 4000 := by decide +kernel
theorem pos240 : (0 : Int) < (10 : Int) ^ 60 * 10 ^ 60 * 10 ^ 60 * 10 ^ 60 := by decide +kernel
theorem frz_seq (ns : List Int) (st : So) : seqOf (.frz ns) st = some (ns.map fun n => zD n) := rfl
theorem frz_len (ns : List Int) (st : So) : gLen [.frz ns] st = some (zD ns.length) := by
  show (seqOf (.frz ns) st).map (fun ys => Dv.p (.int ys.length)) = _
  rw [frz_seq]; simp
theorem frz_at (ns : List Int) (k : Nat) (st : So) (h : k < ns.length) : gIxA (.frz ns) (zD k) st = some (zD ns[k]) := by
  show (match seqOf (.frz ns) st with | some xs => atI xs k | none => none) = _
  rw [frz_seq]
  show atI (ns.map fun n => zD n) k = _
  unfold atI ixN
  rw [List.length_map, if_pos (by omega), if_pos (by omega)]
  show (ns.map fun n => zD n)[(k : Int).toNat]? = _
  rw [Int.toNat_natCast, List.getElem?_map, List.getElem?_eq_getElem h]; rfl
theorem cell_ok (ns : List Int) (k : Nat) (st : So) (hk : k < 1000) : ∃ v, d__law_cell [.frz ns, zD k] st = .ok (zD v) st := by
  have tail : ∀ c : Int, ∃ v, sSeq (sIf (fTB (fOp gGe (fVar 2) (fOp gPow (fC (.int 10)) (fC (.int 18))))) (sRet (fOp gMod (fCB gInt (fCons (fOp gSub (fVar 2) (fOp gPow (fC (.int 10)) (fC (.int 18)))) (fNil))) (fOp gMulA (fOp gMulA (fOp gMulA (fOp gPow (fC (.int 10)) (fC (.int 60))) (fOp gPow (fC (.int 10)) (fC (.int 60)))) (fOp gPow (fC (.int 10)) (fC (.int 60)))) (fOp gPow (fC (.int 10)) (fC (.int 60)))))) (sNext)) (sSeq (sAsg (fC (.int 0)) (.nm 3)) (sSeq (sFor (fRng rng1 (fCons (fC (.int 24)) (fNil))) (.nm 4) bodyC) (sRet (fVar 3)))) [some (.frz ns), some (zD k), some (zD c), none, none] st = .ret (zD v) st := fun c => by
    have p18 := pow_z (i := 10) (j := 18) (st := st) (by decide) (by decide)
    have p60 := pow_z (i := 10) (j := 60) (st := st) (by decide) (by decide)
    have t1 : fTB (fOp gGe (fVar 2) (fOp gPow (fC (.int 10)) (fC (.int 18)))) [some (.frz ns), some (zD k), some (zD c), none, none] st = .ok (decide ((10 : Int) ^ 18 ≤ c)) st := by
      have p18' : gPow (.p (.int 10)) (.p (.int 18)) st = some (zD (10 ^ 18)) := p18
      simp only [ev_tb, ev_op, ev_var, List.getElem?_cons_succ, List.getElem?_cons_zero, bind_ok, ev_c, p18', toR_some, ge_z, ev_asB]
    by_cases hc : (10 : Int) ^ 18 ≤ c
    · refine ⟨(c - 10 ^ 18) % ((10 : Int) ^ 60 * 10 ^ 60 * 10 ^ 60 * 10 ^ 60), ?_⟩
      have p18' : gPow (.p (.int 10)) (.p (.int 18)) st = some (zD (10 ^ 18)) := p18
      have p60' : gPow (.p (.int 10)) (.p (.int 60)) st = some (zD (10 ^ 60)) := p60
      have m1 := mulA_w (st := st) big60 big60
      have m2 := mulA_w (st := st) big120 big60
      have m3 := mulA_w (st := st) big180 big60
      have m4 := mod_z (i := c - 10 ^ 18) (st := st) pos240
      have t2 : fOp gMod (fCB gInt (fCons (fOp gSub (fVar 2) (fOp gPow (fC (.int 10)) (fC (.int 18)))) (fNil))) (fOp gMulA (fOp gMulA (fOp gMulA (fOp gPow (fC (.int 10)) (fC (.int 60))) (fOp gPow (fC (.int 10)) (fC (.int 60)))) (fOp gPow (fC (.int 10)) (fC (.int 60)))) (fOp gPow (fC (.int 10)) (fC (.int 60)))) [some (.frz ns), some (zD k), some (zD c), none, none] st = .ok (zD ((c - 10 ^ 18) % ((10 : Int) ^ 60 * 10 ^ 60 * 10 ^ 60 * 10 ^ 60))) st := by
        simp only [ev_op, ev_cb, ev_cons, ev_var, List.getElem?_cons_succ, List.getElem?_cons_zero, bind_ok, ev_nil, ev_c, p18', p60', toR_some, sub_z, int_z, m1, m2, m3, m4]
      rw [ev_seq, ev_sif, t1, st_ok, decide_eq_true hc, if_pos rfl, ev_ret, t2, st_ok]
    · have hr : fRng rng1 (fCons (fC (.int 24)) fNil) [some (.frz ns), some (zD k), some (zD c), some (zD 0), none] st = .ok (((List.range 24).map fun (j : Nat) => (j : Int)).map fun x => zD x) st := by
        rw [ev_rng, ev_cons, ev_c, bind_ok, ev_nil, bind_ok, bind_ok, rng_pure (okR_small (by decide) (by decide))]
        show Rs.ok (rngL 0 24) st = _
        rw [rngL_zero, List.map_map]; rfl
      obtain ⟨v, y4, hl⟩ := cell_loop (some (.frz ns)) k c st ((List.range 24).map fun (j : Nat) => (j : Int)) 0 none (fun x hx => by
        obtain ⟨j, hj, rfl⟩ := List.mem_map.mp hx
        have := List.mem_range.mp hj
        omega) (by omega)
      refine ⟨v, ?_⟩
      rw [ev_seq, ev_sif, t1, st_ok, decide_eq_false hc, if_neg Bool.false_ne_true, ev_next]
      dsimp only
      rw [ev_seq, ev_asg, ev_c, st_ok, tg_nm, toE_some]
      simp only [List.set_cons_succ, List.set_cons_zero]
      rw [ev_seq, ev_for, hr, st_ok, hl]
      dsimp only
      rw [ev_ret]
      simp only [ev_var, List.getElem?_cons_succ, List.getElem?_cons_zero, st_ok]
  have t0 : fTB (fOp gLt (fVar 1) (fCB gLen (fCons (fVar 0) fNil))) [some (.frz ns), some (zD k), some (zD 0), none, none] st = .ok (decide ((k : Int) < ns.length)) st := by
    simp only [ev_tb, ev_op, ev_cb, ev_cons, ev_var, List.getElem?_cons_succ, List.getElem?_cons_zero, bind_ok, ev_nil, frz_len, toR_some, lt_z, ev_asB]
  have key : ∃ v, m__law_cell [some (.frz ns), some (zD k), none, none, none] st = .ret (zD v) st := by
    unfold m__law_cell
    by_cases h : k < ns.length
    · obtain ⟨v, hv⟩ := tail ns[k]
      refine ⟨v, ?_⟩
      unfold bodyC at hv
      rw [ev_seq, ev_asg, ev_c, st_ok, tg_nm, toE_some]
      simp only [List.set_cons_succ, List.set_cons_zero]
      rw [ev_seq, ev_sif, t0, st_ok, decide_eq_true (by omega), if_pos rfl, ev_asg, ev_op]
      simp only [ev_var, List.getElem?_cons_succ, List.getElem?_cons_zero, bind_ok, frz_at ns k st h, toR_some, st_ok, tg_nm, toE_some, List.set_cons_succ, List.set_cons_zero]
      exact hv
    · obtain ⟨v, hv⟩ := tail 0
      refine ⟨v, ?_⟩
      unfold bodyC at hv
      rw [ev_seq, ev_asg, ev_c, st_ok, tg_nm, toE_some]
      simp only [List.set_cons_succ, List.set_cons_zero]
      rw [ev_seq, ev_sif, t0, st_ok, decide_eq_false (by omega), if_neg Bool.false_ne_true, ev_next]
      exact hv
  obtain ⟨v, hv⟩ := key
  exact ⟨v, runD_pure0 hv⟩
end FB.K04
set_option Elab.async false
set_option linter.all false
set_option maxRecDepth 100000
set_option maxHeartbeats 4000000
/-! PL1: steps by small lemmas. -/
namespace FB
open PySem PySem.Spec PyProof.Rows L2 RZ
theorem seq_to {ga gb : FS} {ρ ρ' : Sl} {st st' : So} (h : ga ρ st = .nx ρ' st') : sSeq ga gb ρ st = gb ρ' st' := by rw [ev_seq, h]
theorem asg_to {fa : FE} {i : Nat} {ρ ρ' : Sl} {st st' : So} {d : Dv} (h : fa ρ st = .ok d st') (e : ρ.set i (some d) = ρ') : sAsg fa (.nm i) ρ st = .nx ρ' st' := by rw [ev_asg, h, st_ok, tg_nm, toE_some, e]
theorem par_to {fr : FA} {i j : Nat} {ρ ρ' : Sl} {st st' : So} {x y : Dv} (h : fr ρ st = .ok [x, y] st') (e : (ρ.set i (some x)).set j (some y) = ρ') : sPar i j fr ρ st = .nx ρ' st' := by rw [ev_par, h, st_ok]; exact congrArg (fun r => Ss.nx r st') e
theorem if_to {t : FT} {ga gb : FS} {ρ : Sl} {st st' : So} (h : t ρ st = .ok false st') : sIf t ga gb ρ st = gb ρ st' := by rw [ev_sif, h, st_ok, if_neg Bool.false_ne_true]
theorem if_next {t : FT} {ga : FS} {ρ : Sl} {st st' : So} (h : t ρ st = .ok false st') : sIf t ga sNext ρ st = .nx ρ st' := by rw [if_to h]; rfl
theorem or_ff {t u : FT} {ρ : Sl} {st st' st2 : So} (h : t ρ st = .ok false st') (h2 : u ρ st' = .ok false st2) : fTOr t u ρ st = .ok false st2 := by rw [ev_tor, h, bind_ok, if_neg Bool.false_ne_true, h2]
theorem not_t {t : FT} {ρ : Sl} {st st' : So} (h : t ρ st = .ok true st') : fTNot t ρ st = .ok false st' := by rw [ev_tnot, h, bind_ok]; rfl
theorem tb_ok {fa : FE} {ρ : Sl} {st st' : So} {b : Bool} (h : fa ρ st = .ok (.p (.bool b)) st') : fTB fa ρ st = .ok b st' := by rw [ev_tb, h, bind_ok, ev_asB]
theorem op_ok {g : G2} {fa fb : FE} {ρ : Sl} {st st1 st2 : So} {x y z : Dv} (h1 : fa ρ st = .ok x st1) (h2 : fb ρ st1 = .ok y st2) (h3 : g x y st2 = some z) : fOp g fa fb ρ st = .ok z st2 := by rw [ev_op, h1, bind_ok, h2, bind_ok, h3, toR_some]
theorem call_ok {F : FD} {fr : FA} {ρ : Sl} {st st1 st2 : So} {xs : List Dv} {z : Dv} (h1 : fr ρ st = .ok xs st1) (h2 : F xs st1 = .ok z st2) : fCall F fr ρ st = .ok z st2 := by rw [ev_call, h1, bind_ok, h2]
theorem cb_ok {g : GA} {fr : FA} {ρ : Sl} {st st1 : So} {xs : List Dv} {z : Dv} (h1 : fr ρ st = .ok xs st1) (h2 : g xs st1 = some z) : fCB g fr ρ st = .ok z st1 := by rw [ev_cb, h1, bind_ok, h2, toR_some]
theorem var_ok {i : Nat} {ρ : Sl} {st : So} {d : Dv} (h : ρ[i]? = some (some d)) : fVar i ρ st = .ok d st := by rw [ev_var, h]
theorem cons_ok {fa : FE} {fr : FA} {ρ : Sl} {st st1 st2 : So} {x : Dv} {xs : List Dv} (h1 : fa ρ st = .ok x st1) (h2 : fr ρ st1 = .ok xs st2) : fCons fa fr ρ st = .ok (x :: xs) st2 := by rw [ev_cons, h1, bind_ok, h2, bind_ok]
theorem nil_ok {ρ : Sl} {st : So} : fNil ρ st = .ok [] st := (rfl)
theorem c_ok {d : PyData} {ρ : Sl} {st : So} : fC d ρ st = .ok (.p d) st := (rfl)
theorem isT_ok {T n : String} {fa : FE} {ρ : Sl} {st st1 : So} {d : Dv} {b : Bool} (h1 : fa ρ st = .ok d st1) (h2 : tyOf d st1 = some n) (h3 : kitB n T = some b) : fIsT T fa ρ st = .ok (.p (.bool b)) st1 := by
  rw [ev_isT, h1, bind_ok, h2]
  show (match kitB n T with | some b => Rs.ok (Dv.p (.bool b)) st1 | none => .stuck) = _
  rw [h3]
theorem asgT_to {fa : FE} {tg : Tg} {ρ ρ' : Sl} {st st' : So} {d : Dv} (h : fa ρ st = .ok d st') (e : tgF tg d ρ = some ρ') : sAsg fa tg ρ st = .nx ρ' st' := by rw [ev_asg, h, st_ok, e, toE_some]
theorem drop_to {fa : FE} {ρ : Sl} {st st' : So} {d : Dv} (h : fa ρ st = .ok d st') : sDrop fa ρ st = .nx ρ st' := by rw [ev_drop, h, st_ok]
theorem ret_to {fa : FE} {ρ : Sl} {st st' : So} {d : Dv} (h : fa ρ st = .ok d st') : sRet fa ρ st = .ret d st' := by rw [ev_ret, h, st_ok]
theorem mth_ok {g : GM} {fo : FE} {fr : FA} {ρ : Sl} {st st1 st2 st3 : So} {x z : Dv} {xs : List Dv} (h1 : fo ρ st = .ok x st1) (hl : isLst x st1 = true) (h2 : fr ρ st1 = .ok xs st2) (h3 : g x xs st2 = some (z, st3)) : fMth g fo fr ρ st = .ok z st3 := by
  rw [ev_mth, h1, bind_ok, hl, if_pos rfl, h2, bind_ok, h3, toM_some]
theorem and_t {fa fb : FE} {ρ : Sl} {st st1 st2 : So} {z : Dv} (h1 : fa ρ st = .ok (.p (.bool true)) st1) (h2 : fb ρ st1 = .ok z st2) : fAnd fa fb ρ st = .ok z st2 := by rw [ev_and, tb_ok h1, bind_ok, if_pos rfl, h2]
theorem notE_ok {fa : FE} {ρ : Sl} {st st1 : So} {b : Bool} (h1 : fa ρ st = .ok (.p (.bool b)) st1) : fNot fa ρ st = .ok (.p (.bool (!b))) st1 := by rw [ev_not, tb_ok h1, bind_ok]
theorem if_true_to {t : FT} {ga gb : FS} {ρ : Sl} {st st' : So} (h : t ρ st = .ok true st') : sIf t ga gb ρ st = ga ρ st' := by rw [ev_sif, h, st_ok, if_pos rfl]
theorem seq_ret {ga gb : FS} {ρ : Sl} {st st' : So} {d : Dv} (h : ga ρ st = .ret d st') : sSeq ga gb ρ st = .ret d st' := by rw [ev_seq, h]
theorem pure_to {fr : FA} {ρ : Sl} {st st' : So} {xs : List Dv} (h : fr ρ st = .ok xs st') (hl : xs.length ≤ 100000) : fPure fr ρ st = .ok (mkL xs) st' := by
  rw [ev_pure, h, bind_ok, if_pos (show small xs = true from decide_eq_true hl)]
theorem cell_to {fr : FA} {ρ : Sl} {st st' : So} {xs : List Dv} (h : fr ρ st = .ok xs st') (hl : xs.length ≤ 100000) : fCell fr ρ st = .ok (.ref st'.length) (st' ++ [.lst xs]) := by
  rw [ev_cell, h, bind_ok, if_pos (show small xs = true from decide_eq_true hl)]
theorem disp_to {fr : FA} {ρ : Sl} {st st' : So} {xs : List Dv} (h : fr ρ st = .ok xs st') (hl : xs.length ≤ 100000) : (fun ρ st => (fr ρ st).bind fun xs st1 => if small xs then Rs.ok xs st1 else .stuck) ρ st = .ok xs st' := by
  show ((fr ρ st).bind fun xs st1 => if small xs then Rs.ok xs st1 else .stuck) = _
  rw [h, bind_ok, if_pos (show small xs = true from decide_eq_true hl)]
theorem tup_to {fr : FA} {ρ : Sl} {st st' : So} {xs : List Dv} (h : fr ρ st = .ok xs st') (hl : xs.length ≤ 100000) : fTup fr ρ st = .ok (mkT xs) st' := by
  rw [ev_tup, h, bind_ok, if_pos (show small xs = true from decide_eq_true hl)]
end FB
set_option Elab.async false
set_option linter.all false
set_option maxRecDepth 100000
set_option maxHeartbeats 4000000
namespace FB.K04
open PySem PySem.Spec PyProof.Rows L2 RZ FB
def CS (ws : List Str) : Cl := .lst (ws.map sD)
theorem SS_rest {st : So} {o j : Nat} {n : Int} {r : So} : (SS st o n r)[st.length + j]? = r[j]? := by
  unfold SS
  rw [List.getElem?_append_right (by rw [List.length_set]; omega), List.length_set, Nat.add_sub_cancel_left]
theorem SS_rset {st : So} {o j : Nat} {n : Int} {r : So} {c : Cl} : (SS st o n r).set (st.length + j) c = SS st o n (r.set j c) := by
  unfold SS
  rw [List.set_append_right _ _ (by rw [List.length_set]; omega), List.length_set, Nat.add_sub_cancel_left]
theorem isLst_CS {s : So} {c : Nat} {xs : List Dv} (h : s[c]? = some (.lst xs)) : isLst (.ref c) s = true := by
  unfold isLst
  show (seqOf (.ref c) s).isSome = true
  show (lstOf (.ref c) s).isSome = true
  unfold lstOf
  dsimp only
  rw [h]; rfl
theorem seq_ref {s : So} {c : Nat} {xs : List Dv} (h : s[c]? = some (.lst xs)) : seqOf (.ref c) s = some xs := by
  show lstOf (.ref c) s = _
  unfold lstOf
  dsimp only
  rw [h]
theorem cellL_at {s : So} {c : Nat} {xs : List Dv} (h : s[c]? = some (.lst xs)) : cellL (.ref c) s = some (c, xs) := by
  unfold cellL
  dsimp only
  rw [h]
theorem len_ref {s : So} {c : Nat} {ws : List Str} (h : s[c]? = some (CS ws)) : gLen [.ref c] s = some (zD ws.length) := by
  show (seqOf (.ref c) s).map (fun ys => Dv.p (.int ys.length)) = _
  rw [seq_ref h]; simp
theorem map_erase {α β : Type} (f : α → β) : ∀ (l : List α) (i : Nat), (l.map f).eraseIdx i = (l.eraseIdx i).map f
  | [], i => by simp
  | a :: l, 0 => rfl
  | a :: l, i + 1 => by
    have ih := map_erase f l i
    simp [ih]
theorem perm_erase {α : Type} : ∀ (l : List α) (i : Nat) (hi : i < l.length), (l[i] :: l.eraseIdx i).Perm l
  | [], i, hi => by simp at hi
  | a :: l, 0, hi => .refl _
  | a :: l, i + 1, hi => by
    have ih := perm_erase l i (by simpa using hi)
    exact (List.Perm.swap a _ _).trans (ih.cons a)
theorem pop_ok {s : So} {c : Nat} {ws : List Str} {i : Nat} (h : s[c]? = some (CS ws)) (hi : i < ws.length) (hl : ws.length ≤ 1000) : gPopAt (.ref c) [zD i] s = some (sD ws[i], s.set c (CS (ws.eraseIdx i))) := by
  unfold gPopAt
  rw [cellL_at h]
  dsimp only
  have e : ixN (ws.map sD).length (i : Int) = some i := by
    unfold ixN
    rw [List.length_map, if_pos (by omega), if_pos (by omega), Int.toNat_natCast]
  rw [e]
  dsimp only
  rw [List.getElem?_map, List.getElem?_eq_getElem hi]
  dsimp only [Option.map_some]
  rw [if_pos (by rw [List.length_map]; omega)]
  have e2 : (ws.map sD).eraseIdx i = (ws.eraseIdx i).map sD := map_erase sD ws i
  rw [e2]; rfl
theorem app_ok {s : So} {c : Nat} {ws : List Str} {w : Str} (h : s[c]? = some (CS ws)) (hl : ws.length ≤ 1000) : gAppend (.ref c) [sD w] s = some (.p .none, s.set c (CS (ws ++ [w]))) := by
  unfold gAppend
  rw [cellL_at h]
  dsimp only
  rw [if_pos (by rw [List.length_map]; omega)]
  unfold CS
  rw [List.map_append]; rfl
theorem ins_ok {s : So} {c : Nat} {ws : List Str} {w : Str} {i : Nat} (h : s[c]? = some (CS ws)) (hl : ws.length ≤ 1000) (hi : i ≤ 1000) : gInsert (.ref c) [zD i, sD w] s = some (.p .none, s.set c (CS (ws.take i ++ [w] ++ ws.drop i))) := by
  unfold gInsert
  rw [cellL_at h]
  dsimp only
  rw [if_pos ⟨by rw [List.length_map]; omega, by omega, by omega⟩, Int.toNat_natCast]
  unfold CS
  rw [List.map_append, List.map_append, List.map_take, List.map_drop]; rfl
/-- a drawn place -/
theorem draw {n : Int} {k : Nat} (hk : 0 < k) : ∃ i : Nat, n % (k : Int) = (i : Int) ∧ i < k := by
  have h1 := Int.emod_nonneg n (show (k : Int) ≠ 0 by omega)
  have h2 := Int.emod_lt_of_pos n (show (0 : Int) < k by omega)
  exact ⟨(n % k).toNat, by omega, by omega⟩
/-! ### second stirred -/
theorem let_lt : ∀ c ∈ LET.cps.toList, c < 0x110000 := by decide +kernel
theorem word_ok {w : Str} (h : isWord w = true) : PyData.strOk w = true := by
  unfold isWord at h
  simp only [Bool.and_eq_true] at h
  unfold PyData.strOk
  rw [← Array.all_toList]
  refine List.all_eq_true.mpr fun c hc => ?_
  exact decide_eq_true (let_lt c (of_decide_eq_true (List.all_eq_true.mp h.2 c hc)))
theorem eqvAll_nil : ∀ ws : List Str, PyData.eqvAll (ws.map PyData.str) [] = decide (ws = [])
  | [] => rfl
  | _ :: _ => rfl
theorem pures_s (ws : List Str) : pures (ws.map sD) = some (ws.map PyData.str) := by rw [← map_sD, pures_map]
theorem shaped_lw (a : List Str) (h : SOkL a) : SeqAt.shaped (.list (a.map PyData.str)) = true := by
  unfold SeqAt.shaped
  have h1 : PyData.canLay0 (.list (a.map PyData.str)) = true := by simpa [PyData.canLay0] using canAll_s a h
  have h2 := depthAll_s a
  have h3 : PyData.depth (.list (a.map PyData.str)) ≤ 64 := by simp [PyData.depth]; omega
  rw [h1, decide_eq_true h3]; rfl
theorem ne_nil {s : So} {c : Nat} {ws : List Str} (h : s[c]? = some (CS ws)) (hw : SOkL ws) : gNe (.ref c) (lw []) s = some (.p (.bool (!decide (ws = [])))) := by
  have d1 : datOf (.ref c) s = some (.list (ws.map PyData.str)) := by
    unfold datOf
    dsimp only
    rw [h]
    show (pures (ws.map sD)).map PyData.list = _
    rw [pures_s]; rfl
  have : eqD (.ref c) (lw []) s = some (decide (ws = [])) := by
    show (match datOf (.ref c) s, datOf (lw []) s with | some a, some b => if SeqAt.shaped a && SeqAt.shaped b then some (PyData.eqv a b) else none | _, _ => none) = _
    rw [d1]
    show (if SeqAt.shaped (.list (ws.map PyData.str)) && SeqAt.shaped (.list (([] : List Str).map PyData.str)) then some (PyData.eqv (.list (ws.map PyData.str)) (.list [])) else none) = _
    rw [shaped_lw ws hw, shaped_lw [] (fun _ h => by cases h)]
    show some (PyData.eqvAll (ws.map PyData.str) []) = _
    rw [eqvAll_nil]
  unfold gNe
  rw [this]; rfl
abbrev disp (fr : FA) : FA := fun ρ st => (fr ρ st).bind fun xs st1 => if small xs then .ok xs st1 else .stuck
theorem disp_ok {fr : FA} {ρ : Sl} {st st1 : So} {ws : List Str} (h : fr ρ st = .ok (ws.map sD) st1) (hl : ws.length ≤ 100000) : fPure (disp fr) ρ st = .ok (lw ws) st1 := by
  have e : disp fr ρ st = .ok (ws.map fun w => Dv.p (.str w)) st1 := by
    show (fr ρ st).bind _ = _
    rw [h, bind_ok, small_map, decide_eq_true hl, if_pos rfl]
  exact pure_ok e hl
theorem disp_nil {ρ : Sl} {st : So} : fPure (disp fNil) ρ st = .ok (lw []) st := disp_ok (ws := []) rfl (by decide)
end FB.K04
set_option Elab.async false
set_option linter.all false
set_option maxRecDepth 100000
set_option maxHeartbeats 4000000
/-! FIT: data that fit (depth, weight): str shows them. -/
namespace FB.Fit
open PySem PySem.Spec PyProof.Rows L2 RZ FB
structure F (k n : Nat) (d : PyData) : Prop where
  bare : bareD d = true
  short : d.leavesShort 13 = true
  shows : d.showable = true
  depth : d.depth ≤ k
  weight : d.weight ≤ n
def fB (k n : Nat) (d : PyData) : Bool := bareD d && (d.leavesShort 13 && (d.showable && (decide (d.depth ≤ k) && decide (d.weight ≤ n))))
theorem F.of {k n : Nat} {d : PyData} (h : fB k n d = true) : F k n d := by
  unfold fB at h
  simp only [Bool.and_eq_true, decide_eq_true_eq] at h
  exact ⟨h.1, h.2.1, h.2.2.1, h.2.2.2.1, h.2.2.2.2⟩
theorem F.mono {k n k' n' : Nat} {d : PyData} (h : F k n d) (hk : k ≤ k') (hn : n ≤ n') : F k' n' d := ⟨h.bare, h.short, h.shows, Nat.le_trans h.depth hk, Nat.le_trans h.weight hn⟩
abbrev FA' (k n : Nat) (xs : List PyData) : Prop := ∀ x ∈ xs, F k n x
theorem all_parts {k n : Nat} : ∀ {xs : List PyData}, FA' k n xs → bareAll xs = true ∧ PyData.leavesShortAll 13 xs = true ∧ PyData.showableAll xs = true ∧ PyData.depthAll xs ≤ k ∧ PyData.weightAll xs ≤ xs.length * (n + 1)
  | [], _ => ⟨rfl, rfl, rfl, Nat.zero_le _, Nat.zero_le _⟩
  | x :: xs, h => by
    obtain ⟨h1, h2, h3, h4, h5⟩ := all_parts fun y hy => h y (List.mem_cons_of_mem _ hy)
    have hx := h x List.mem_cons_self
    refine ⟨by simp only [bareAll, hx.bare, h1, Bool.and_self], by simp only [PyData.leavesShortAll, hx.short, h2, Bool.and_self], by simp only [PyData.showableAll, hx.shows, h3, Bool.and_self], by simp only [PyData.depthAll]; have := hx.depth; omega, ?_⟩
    have := hx.weight
    simp only [PyData.weightAll, List.length_cons, Nat.succ_mul]
    omega
theorem F.lst {k n m : Nat} {xs : List PyData} (h : FA' k n xs) (hn : xs.length * (n + 1) ≤ m) : F (k + 1) m (.list xs) := by
  obtain ⟨h1, h2, h3, h4, h5⟩ := all_parts h
  exact ⟨by simpa only [bareD] using h1, by simpa only [PyData.leavesShort] using h2, by simpa only [PyData.showable] using h3, by simp only [PyData.depth]; omega, by simp only [PyData.weight]; omega⟩
theorem F.tup {k n m : Nat} {xs : List PyData} (h : FA' k n xs) (hn : xs.length * (n + 1) ≤ m) : F (k + 1) m (.tuple xs) := by
  obtain ⟨h1, h2, h3, h4, h5⟩ := all_parts h
  exact ⟨by simpa only [bareD] using h1, by simpa only [PyData.leavesShort] using h2, by simpa only [PyData.showable] using h3, by simp only [PyData.depth]; omega, by simp only [PyData.weight]; omega⟩
/-- a text's signs -/
def okS (x : Str) : Prop := ∀ c ∈ x.cps.toList, c < 16 ^ 8
theorem F.str {n k : Nat} {x : Str} (h : okS x) (hn : x.length ≤ n) : F k n (.str x) := ⟨rfl, by simp only [PyData.leavesShort]; exact List.all_eq_true.mpr fun c hc => decide_eq_true (h c hc), rfl, Nat.zero_le _, hn⟩
theorem weight_mem : ∀ {xs : List PyData} {x : PyData}, x ∈ xs → x.weight + 1 ≤ PyData.weightAll xs
  | y :: xs, x, h => by
    simp only [PyData.weightAll]
    rcases List.mem_cons.mp h with rfl | h
    · omega
    · have := weight_mem h
      omega
theorem len_weight : ∀ xs : List PyData, xs.length ≤ PyData.weightAll xs
  | [] => Nat.zero_le _
  | x :: xs => by
    have := len_weight xs
    simp only [PyData.weightAll, List.length_cons]
    omega
theorem w_t {xs : List PyData} : (PyData.tuple xs).weight = PyData.weightAll xs := by simp only [PyData.weight]
theorem w_l {xs : List PyData} : (PyData.list xs).weight = PyData.weightAll xs := by simp only [PyData.weight]
theorem w_s {x : Str} : (PyData.str x).weight = x.length := by simp only [PyData.weight]; rfl
theorem strOk_of {d : PyData} (h : F 20 3000 d) : strOk d = true := by
  have l := PyData.shown_le 13 (by decide) d h.short
  have w := h.weight
  have dp := h.depth
  have : (13 + 2) * d.weight ≤ (13 + 2) * 3000 := Nat.mul_le_mul_left _ w
  unfold strOk
  rw [h.bare, h.shows, decide_eq_true (by omega), decide_eq_true (by omega)]; rfl
theorem okS_lit {x : Str} (h : (x.cps.toList.all fun c => decide (c < 16 ^ 8)) = true) : okS x := fun c hc => of_decide_eq_true (List.all_eq_true.mp h c hc)
theorem gStr_ok {d : PyData} (h : F 20 3000 d) (st : So) : gStr [.p d] st = some (.p (.str (strD d))) := by
  show (if strOk d = true then some (Dv.p (.str (strD d))) else none) = _
  rw [if_pos (strOk_of h)]
end FB.Fit
set_option Elab.async false
set_option linter.all false
set_option maxRecDepth 100000
set_option maxHeartbeats 4000000
/-! V04a: rows as data; small steps. -/
namespace FB.K04
open PySem PySem.Spec PyProof.Rows L2 RZ FB
theorem any_map_b {α : Type} (xs : List α) (p : α → Bool) (st : So) : gAny [.p (.list (xs.map fun x => PyData.bool (p x)))] st = some (.p (.bool (xs.any p))) := by
  show ((bools ((xs.map fun x => PyData.bool (p x)).map Dv.p)).map fun bs => Dv.p (.bool (bs.any id))) = _
  rw [List.map_map]
  have := bools_b (xs.map p)
  rw [List.map_map] at this
  rw [show (xs.map (Dv.p ∘ fun x => PyData.bool (p x))) = xs.map ((fun b => Dv.p (PyData.bool b)) ∘ p) from rfl, this]
  show some (Dv.p (.bool ((xs.map p).any id))) = _
  rw [List.any_map]; rfl
theorem andE_b {fa fb : FE} {ρ : Sl} {st : So} {a b : Bool} (h1 : fa ρ st = .ok (.p (.bool a)) st) (h2 : fb ρ st = .ok (.p (.bool b)) st) : fAnd fa fb ρ st = .ok (.p (.bool (a && b))) st := by
  rw [ev_and, tb_ok h1, bind_ok]
  cases a with
  | true => rw [if_pos rfl, h2]; rfl
  | false => rw [if_neg Bool.false_ne_true]; rfl
theorem orE_b {fa fb : FE} {ρ : Sl} {st : So} {a b : Bool} (h1 : fa ρ st = .ok (.p (.bool a)) st) (h2 : fb ρ st = .ok (.p (.bool b)) st) : fOr fa fb ρ st = .ok (.p (.bool (a || b))) st := by
  rw [ev_or, tb_ok h1, bind_ok]
  cases a with
  | true => rw [if_pos rfl]; rfl
  | false => rw [if_neg Bool.false_ne_true, h2]; rfl
theorem all_map_b {α : Type} (xs : List α) (p : α → Bool) (st : So) : gAll [.p (.list (xs.map fun x => PyData.bool (p x)))] st = some (.p (.bool (xs.all p))) := by
  have := gAll_b (xs.map p) st
  rw [mkL_b, List.map_map, List.all_map] at this
  exact this
theorem gLen_tup {xs : List PyData} {st : So} : gLen [.p (.tuple xs)] st = some (zD xs.length) := by
  show some (Dv.p (.int ((xs.map Dv.p).length : Nat))) = _
  rw [List.length_map]
theorem or_t {t u : FT} {ρ : Sl} {st st' : So} (h : t ρ st = .ok true st') : fTOr t u ρ st = .ok true st' := by rw [ev_tor, h, bind_ok, if_pos rfl]
theorem or_f {t u : FT} {ρ : Sl} {st st1 : So} {r : Rs Bool} (h : t ρ st = .ok false st1) (h2 : u ρ st1 = r) : fTOr t u ρ st = r := by rw [ev_tor, h, bind_ok, if_neg Bool.false_ne_true, h2]
theorem not_f {t : FT} {ρ : Sl} {st st' : So} (h : t ρ st = .ok false st') : fTNot t ρ st = .ok true st' := by rw [ev_tnot, h, bind_ok]; rfl
theorem gLen_lst {xs : List PyData} {st : So} : gLen [.p (.list xs)] st = some (zD xs.length) := by
  show some (Dv.p (.int ((xs.map Dv.p).length : Nat))) = _
  rw [List.length_map]
theorem ix_list {xs : List PyData} {i : Nat} (hi : i < xs.length) {st : So} : gIxA (.p (.list xs)) (zD (i : Int)) st = some (.p xs[i]) := by
  show atI (xs.map Dv.p) (i : Int) = _
  unfold atI
  have e : ixN (xs.map Dv.p).length (i : Int) = some i := by
    unfold ixN
    rw [List.length_map, if_pos (by omega), if_pos (by omega), Int.toNat_natCast]
  rw [e]
  show (xs.map Dv.p)[i]? = _
  rw [List.getElem?_map, List.getElem?_eq_getElem hi]; rfl
theorem ix_lw {ws : List Str} {i : Nat} (hi : i < ws.length) {st : So} : gIxA (lw ws) (zD (i : Int)) st = some (sD ws[i]) := by
  have := ix_list (xs := ws.map PyData.str) (i := i) (by rw [List.length_map]; exact hi) (st := st)
  rw [List.getElem_map] at this
  exact this
theorem frz_to {i c : Nat} {ρ : Sl} {S : So} {xs : List PyData} (hi : ρ[i]? = some (some (.ref c))) (h : S[c]? = some (.lst (xs.map Dv.p))) : fFrz (fVar i) ρ S = .ok (.p (.list xs)) (S.set c .dead) := by
  unfold fFrz
  rw [var_ok hi, bind_ok]
  dsimp only
  rw [h]
  dsimp only
  rw [mkL_p]
theorem rngN {fa : FE} {ρ : Sl} {st st1 : So} {z : Int} (h : fa ρ st = .ok (zD z) st1) (h0 : 0 ≤ z) (h1 : z ≤ 1000) : fRng rng1 (fCons fa fNil) ρ st = .ok ((List.range z.toNat).map fun k => iD k) st1 := by
  rw [ev_rng, cons_ok h nil_ok, bind_ok, rng_pure (okR_small (by omega) (by omega)), rngL_zero]
/-! ### _law_words -/
/-! ### rows -/
abbrev rT (ws : List Str) : PyData := .tuple (ws.map PyData.str)
abbrev rws (R : List (List Str)) : Dv := .p (.list (R.map rT))
theorem items_rws (R : List (List Str)) (st : So) : itemsOf (rws R) st = some (R.map tw) := items_lmap rT R st
/-- a loop that leaves at the first item that fails -/
theorem forL_ret {α : Type} {i : Nat} {body : FS} {f : α → Dv} {p : α → Bool} {I : Sl → Prop} {st : So} {D : Dv} : ∀ (xs : List α) (ρ : Sl), I ρ →
    (∀ x ∈ xs, ∀ ρ, I ρ → (p x = true → body (ρ.set i (some (f x))) st = .ret D st) ∧ (p x = false → ∃ ρ', I ρ' ∧ body (ρ.set i (some (f x))) st = .nx ρ' st)) →
    (xs.any p = true → sForL (.nm i) body (xs.map f) ρ st = .ret D st) ∧ (xs.any p = false → ∃ ρ', I ρ' ∧ sForL (.nm i) body (xs.map f) ρ st = .nx ρ' st)
  | [], ρ, h0, _ => ⟨fun e => (by cases e), fun _ => ⟨ρ, h0, rfl⟩⟩
  | x :: xs, ρ, h0, h => by
    obtain ⟨a1, a2⟩ := h x List.mem_cons_self ρ h0
    rw [List.map_cons, forL_cons, tg_nm, toE_some, List.any_cons]
    cases hp : p x with
    | true => exact ⟨fun _ => by rw [a1 hp], fun e => (by cases e)⟩
    | false =>
      obtain ⟨ρ', i1, e1⟩ := a2 hp
      rw [e1, Bool.false_or]
      exact forL_ret xs ρ' i1 fun y hy => h y (List.mem_cons_of_mem _ hy)
theorem forL_next {tg : Tg} {body : FS} {d : Dv} {xs : List Dv} {ρ ρ1 ρ2 : Sl} {S S' : So} (ht : tgF tg d ρ = some ρ1) (h : body ρ1 S = .nx ρ2 S') : sForL tg body (d :: xs) ρ S = sForL tg body xs ρ2 S' := by
  rw [forL_cons, ht, toE_some, h]
end FB.K04
set_option Elab.async false
set_option linter.all false
set_option maxRecDepth 100000
set_option maxHeartbeats 4000000
/-! V04b: from one store to a later one; slices; small steps. -/
namespace FB.K04
open PySem PySem.Spec PyProof.Rows L2 RZ FB
theorem app_g {S : So} {c : Nat} {xs : List Dv} {d : Dv} (h : S[c]? = some (.lst xs)) (hl : xs.length < 100000) : gAppend (.ref c) [d] S = some (.p .none, S.set c (.lst (xs ++ [d]))) := by
  unfold gAppend
  rw [cellL_at h]
  dsimp only
  rw [if_pos hl]
theorem ixN0 {n : Nat} : ixN (n + 1) 0 = some 0 := by
  unfold ixN
  rw [if_pos (by omega), if_pos (by push_cast; omega)]
  rfl
theorem pop0_g {S : So} {c : Nat} {x : Dv} {xs : List Dv} (h : S[c]? = some (.lst (x :: xs))) (hl : xs.length < 100000) : gPopAt (.ref c) [zD 0] S = some (x, S.set c (.lst xs)) := by
  unfold gPopAt
  rw [cellL_at h]
  dsimp only
  rw [List.length_cons, ixN0]
  dsimp only [List.getElem?_cons_zero]
  rw [if_pos (by omega)]
  try rfl

/-- a later store: the digits at o, all older cells as they were -/
structure Nx (o : Nat) (S S' : So) : Prop where
  flat : Flat S'
  own : ∃ n, S'[o]? = some (FB.K04.own n)
  lt : o < S.length
  le : S.length ≤ S'.length
  old : ∀ c, c ≠ o → c < S.length → S'[c]? = S[c]?
theorem Nx.trans {o : Nat} {a b c : So} (h : Nx o a b) (k : Nx o b c) : Nx o a c := ⟨k.flat, k.own, h.lt, Nat.le_trans h.le k.le, fun i h1 h2 => (k.old i h1 (Nat.lt_of_lt_of_le h2 h.le)).trans (h.old i h1 h2)⟩
theorem Nx.start {o : Nat} {S : So} {n : Int} (hF : Flat S) (h : S[o]? = some (FB.K04.own n)) : Nx o S S := ⟨hF, ⟨n, h⟩, (List.getElem?_eq_some_iff.mp h).1, Nat.le_refl _, fun _ _ _ => rfl⟩
theorem Nx.put {o : Nat} {S : So} {n m : Int} (hF : Flat S) (h : S[o]? = some (FB.K04.own n)) : Nx o S (S.set o (FB.K04.own m)) := by
  have hl := (List.getElem?_eq_some_iff.mp h).1
  exact ⟨hF.set (flat_lst [.int m]), ⟨m, List.getElem?_set_self hl⟩, hl, by rw [List.length_set]; exact Nat.le_refl _, fun c h1 _ => List.getElem?_set_ne (fun e => h1 e.symm)⟩
theorem Nx.here {o : Nat} {a b : So} (h : Nx o a b) : Nx o b b := by
  obtain ⟨n, hn⟩ := h.own
  exact Nx.start h.flat hn
theorem Nx.ltb {o : Nat} {a b : So} (h : Nx o a b) : o < b.length := Nat.lt_of_lt_of_le h.lt h.le
theorem Nx.take {o : Nat} {a b : So} (h : Nx o a b) (k : Nat) (h1 : 0 < k) (h2 : k < 2 ^ 32) : ∃ (i : Nat) (S' : So), i < k ∧ d__law_take [.ref o, zD (k : Int)] b = .ok (zD (i : Int)) S' ∧ Nx o b S' ∧ S'.length = b.length := by
  obtain ⟨n, hn⟩ := h.own
  obtain ⟨i, e, hi⟩ := draw (n := n) (k := k) h1
  have t := take_ok (n := n) (k := (k : Int)) hn (by omega) (by omega)
  rw [e] at t
  exact ⟨i, _, hi, t, Nx.put h.flat hn, List.length_set⟩
theorem Nx.cell {o : Nat} {a b : So} (h : Nx o a b) (L : List PyData) : Nx o b (b ++ [.lst (L.map Dv.p)]) := by
  obtain ⟨n, hn⟩ := h.own
  refine ⟨h.flat.app (Flat.one (flat_lst L)), ⟨n, ?_⟩, h.ltb, by rw [List.length_append]; omega, fun c _ hc => List.getElem?_append_left hc⟩
  rw [List.getElem?_append_left h.ltb]; exact hn
theorem Nx.set {o c : Nat} {a b : So} (h : Nx o a b) (hc : a.length ≤ c) (L : List PyData) : Nx o a (b.set c (.lst (L.map Dv.p))) := by
  obtain ⟨n, hn⟩ := h.own
  have hl := h.lt
  refine ⟨h.flat.set (flat_lst L), ⟨n, ?_⟩, h.lt, by rw [List.length_set]; exact h.le, fun i h1 h2 => ?_⟩
  · rw [List.getElem?_set_ne (by omega)]; exact hn
  · rw [List.getElem?_set_ne (by omega)]; exact h.old i h1 h2
theorem Nx.trim {o : Nat} {a b : So} (h : Nx o a b) (d : Dv) : Nx o a (FB.trim a.length d b) := by
  unfold FB.trim
  split
  · have hl := h.le
    have ho := h.lt
    refine ⟨fun c hc => h.flat c (List.mem_of_mem_take hc), ?_, h.lt, by rw [List.length_take]; omega, fun i h1 h2 => ?_⟩
    · obtain ⟨n, hn⟩ := h.own
      exact ⟨n, by rw [List.getElem?_take_of_lt ho]; exact hn⟩
    · rw [List.getElem?_take_of_lt h2]; exact h.old i h1 h2
  · exact h
theorem last_at (S : So) (x : Cl) : (S ++ [x])[S.length]? = some x := by rw [List.getElem?_append_right (Nat.le_refl _), Nat.sub_self]; rfl
theorem set_at {S : So} {c : Nat} {x y : Cl} (h : S[c]? = some x) : (S.set c y)[c]? = some y := List.getElem?_set_self (List.getElem?_eq_some_iff.mp h).1
theorem lst_push (L : List PyData) (x : PyData) : Cl.lst (L.map Dv.p ++ [.p x]) = .lst ((L ++ [x]).map Dv.p) := by rw [List.map_append]; rfl
theorem app_p {S : So} {c : Nat} {L : List PyData} {x : PyData} (h : S[c]? = some (.lst (L.map Dv.p))) (hl : L.length < 1000) : gAppend (.ref c) [.p x] S = some (.p .none, S.set c (.lst ((L ++ [x]).map Dv.p))) := by
  rw [← lst_push]
  exact app_g h (by rw [List.length_map]; omega)
theorem gTup_ref {S : So} {c : Nat} {L : List PyData} (h : S[c]? = some (.lst (L.map Dv.p))) (hl : L.length ≤ 1000) : gTuple [.ref c] S = some (.p (.tuple L)) := by
  have h' : lstOf (.ref c) S = some (L.map Dv.p) := seq_ref h
  show (match tupOf (.ref c) with | some _ => some (Dv.ref c) | none => match lstOf (.ref c) S with
    | some ys => if small ys then some (mkT ys) else none
    | none => none) = _
  rw [show tupOf (.ref c) = none from rfl, h']
  dsimp only
  rw [small_map, decide_eq_true (by omega), if_pos rfl, mkT_p]
theorem put_nx {o : Nat} {A S S' : So} {n' : Int} (hx : Nx o A S) (e : S' = S.set o (own n')) : Nx o S S' := by
  obtain ⟨n, hn⟩ := hx.own
  rw [e]
  exact Nx.put hx.flat hn
abbrev cellE (fe : FE) : FE := fCell (disp (fCons (fCall d__law_cell (fCons (fVar 0) (fCons fe (fNil)))) (fNil)))
theorem cell_nx {ns : List Int} {i : Nat} {fe : FE} {ρ : Sl} {S : So} (hF : Flat S) (hi : i < 1000) (h0 : ρ[0]? = some (some (.frz ns))) (he : fe ρ S = .ok (iD i) S) : ∃ S', cellE fe ρ S = .ok (.ref S.length) S' ∧ Nx S.length S' S' ∧ S'.length = S.length + 1 := by
  obtain ⟨z, hv⟩ := cell_ok ns i S hi
  have c1 : fCons (fCall d__law_cell (fCons (fVar 0) (fCons fe (fNil)))) (fNil) ρ S = .ok [zD z] S := cons_ok (call_ok (cons_ok (var_ok h0) (cons_ok he nil_ok)) hv) nil_ok
  refine ⟨S ++ [own z], cell_to (disp_to c1 (show 1 ≤ 100000 by decide)) (show 1 ≤ 100000 by decide), Nx.start (n := z) (hF.app (Flat.one (flat_lst [.int z]))) (last_at S (own z)), by rw [List.length_append]; rfl⟩
theorem turns_ok (ns : List Int) (hn : ns.length ≤ 63) (ρ : Sl) (st : So) (h0 : ρ[0]? = some (some (.frz ns))) : ∃ m : Nat, m ≤ 3 ∧ fRng rng1 (fCons (fCB gMax (fCons (fCB gMin (fCons (fCB gLen (fCons (fVar 0) (fNil))) (fCons (fC (.int 3)) (fNil)))) (fCons (fC (.int 1)) (fNil)))) (fNil)) ρ st = .ok ((List.range m).map fun k => iD k) st := by
  have e1 : fCB gMin (fCons (fCB gLen (fCons (fVar 0) (fNil))) (fCons (fC (.int 3)) (fNil))) ρ st = .ok (zD (if (3 : Int) < ns.length then 3 else ns.length)) st :=
    cb_ok (cons_ok (cb_ok (cons_ok (var_ok h0) nil_ok) (frz_len ns st)) (cons_ok c_ok nil_ok)) rfl
  generalize hq : (if (3 : Int) < ns.length then (3 : Int) else ns.length) = q at e1
  have hq3 : q ≤ 3 := by subst hq; split <;> omega
  have hq0 : 0 ≤ q := by subst hq; split <;> omega
  have e2 : fCB gMax (fCons (fCB gMin (fCons (fCB gLen (fCons (fVar 0) (fNil))) (fCons (fC (.int 3)) (fNil)))) (fCons (fC (.int 1)) (fNil))) ρ st = .ok (zD (if (1 : Int) > q then 1 else q)) st :=
    cb_ok (cons_ok e1 (cons_ok c_ok nil_ok)) rfl
  generalize hr : (if (1 : Int) > q then (1 : Int) else q) = r at e2
  have hr3 : r ≤ 3 := by subst hr; split <;> omega
  have hr0 : 0 ≤ r := by subst hr; split <;> omega
  refine ⟨r.toNat, by omega, ?_⟩
  rw [ev_rng, cons_ok e2 nil_ok, bind_ok, rng_pure (okR_small (by omega) (by omega)), rngL_zero]
theorem dispD {fr : FA} {ρ : Sl} {st st1 : So} {xs : List Dv} (h : fr ρ st = .ok xs st1) (hl : xs.length ≤ 100000) : fPure (disp fr) ρ st = .ok (mkL xs) st1 := pure_to (disp_to h hl) hl
theorem pt_ok {fa : FE} {ρ : Sl} {st st1 : So} {k : Int} (h : fa ρ st = .ok (zD k) st1) : fPt fa ρ st = .ok (some k) st1 := by rw [ev_pt, h, bind_ok, ev_asI]
theorem sl_ok {fa : FE} {fl fh : FO} {ρ : Sl} {st : So} {x z : Dv} {lo hi : Option Int} (h1 : fa ρ st = .ok x st) (h2 : fl ρ st = .ok lo st) (h3 : fh ρ st = .ok hi st) (hz : gSl x lo hi st = some z) : fSl fa fl fh ρ st = .ok z st := by
  rw [ev_sl, h1, bind_ok, h2, bind_ok, h3, bind_ok, hz, toR_some]
theorem ixN_at {n i : Nat} (h : i < n) : ixN n (i : Int) = some i := by
  unfold ixN
  rw [if_pos (by omega), if_pos (by omega), Int.toNat_natCast]
theorem cut_from {xs : List Dv} {k : Nat} : cutD xs (some (k : Int)) none = xs.drop k := by
  unfold cutD
  rw [HT.sIx_nat, HT.sIx_none]
  by_cases h : k ≤ xs.length
  · rw [Nat.min_eq_left h, List.take_of_length_le (by rw [List.length_drop]; omega)]
  · rw [Nat.min_eq_right (by omega), Nat.sub_self, List.take_zero, List.drop_of_length_le (by omega)]
theorem cut_to {xs : List Dv} {k : Nat} : cutD xs none (some (k : Int)) = xs.take k := by
  unfold cutD
  rw [HT.sIx_nat, HT.sIx_none, List.drop_zero, Nat.sub_zero]
  by_cases h : k ≤ xs.length
  · rw [Nat.min_eq_left h]
  · rw [Nat.min_eq_right (by omega), List.take_of_length_le (Nat.le_refl _), List.take_of_length_le (by omega)]
theorem slT_from {xs : List PyData} {k : Nat} {st : So} : gSl (.p (.tuple xs)) (some (k : Int)) none st = some (.p (.tuple (xs.drop k))) := by
  show some (if whole (xs.map Dv.p).length (some (k : Int)) none then Dv.p (.tuple xs) else mkT (cutD (xs.map Dv.p) (some (k : Int)) none)) = _
  rw [cut_from, ← List.map_drop, mkT_p]
  split
  · rename_i h
    unfold whole at h
    rw [Bool.and_eq_true, decide_eq_true_eq, HT.sIx_nat, List.length_map] at h
    congr 3
    have : k = 0 ∨ xs.length = 0 := by omega
    rcases this with h | h
    · rw [h]; rfl
    · rw [List.length_eq_zero_iff.mp h, List.drop_nil]
  · rfl
theorem slT_to {xs : List PyData} {k : Nat} {st : So} (hk : k ≤ xs.length) : gSl (.p (.tuple xs)) none (some (k : Int)) st = some (.p (.tuple (xs.take k))) := by
  have cut : cutD (xs.map Dv.p) none (some (k : Int)) = (xs.take k).map Dv.p := by
    have e : HT.sIx xs.length xs.length (some (k : Int)) = k := by rw [HT.sIx_nat]; omega
    unfold cutD
    rw [List.length_map, e, show HT.sIx xs.length 0 none = 0 from rfl, List.drop_zero, Nat.sub_zero, List.map_take]
  have e : gSl (.p (.tuple xs)) none (some (k : Int)) st = some (if whole (xs.map Dv.p).length none (some (k : Int)) then Dv.p (.tuple xs) else mkT (cutD (xs.map Dv.p) none (some (k : Int)))) := rfl
  rw [e, cut, mkT_p]
  split
  · rename_i h
    have : k = xs.length := by
      unfold whole at h
      rw [Bool.and_eq_true, decide_eq_true_eq, decide_eq_true_eq, List.length_map, HT.sIx_nat] at h
      omega
    rw [this, List.take_length]
  · rfl
theorem gAdd_tw {a b : List Str} {st : So} (h : a.length + b.length ≤ 100000) : gAdd (tw a) (tw b) st = some (tw (a ++ b)) := by
  show (if ((a.map PyData.str).map Dv.p).length + ((b.map PyData.str).map Dv.p).length ≤ 100000 then some (if ((a.map PyData.str).map Dv.p).isEmpty then tw b else if ((b.map PyData.str).map Dv.p).isEmpty then tw a else mkT ((a.map PyData.str).map Dv.p ++ (b.map PyData.str).map Dv.p)) else none) = _
  rw [map_sD, map_sD]
  rw [List.length_map, List.length_map, if_pos h]
  cases a with
  | nil => rfl
  | cons x xs =>
    cases b with
    | nil => rw [List.append_nil]; rfl
    | cons y ys =>
      show some (mkT ((x :: xs).map sD ++ (y :: ys).map sD)) = _
      rw [← List.map_append, mkT_s]
theorem tup1 {fa : FE} {ρ : Sl} {st : So} {w : Str} (h : fa ρ st = .ok (sD w) st) : fTup (fCons fa fNil) ρ st = .ok (tw [w]) st := by
  rw [ev_tup, ev_cons, h, bind_ok, ev_nil, bind_ok, bind_ok, small1, if_pos rfl]
  rfl

theorem wh_step {t : FT} {body : FS} {k : Nat} {ρ ρ2 : Sl} {st st1 st2 : So} (h1 : t ρ st = .ok true st1) (h2 : body ρ st1 = .nx ρ2 st2) : sWhN t body (k + 1) ρ st = sWhN t body k ρ2 st2 := by
  show (t ρ st).st ρ _ = _
  rw [h1, st_ok, if_pos rfl, h2]
theorem wh_end {t : FT} {body : FS} {k : Nat} {ρ : Sl} {st st1 : So} (h1 : t ρ st = .ok false st1) : sWhN t body (k + 1) ρ st = .nx ρ st1 := by
  show (t ρ st).st ρ _ = _
  rw [h1, st_ok, if_neg Bool.false_ne_true]
end FB.K04
set_option Elab.async false
set_option linter.all false
set_option maxRecDepth 100000
set_option maxHeartbeats 4000000
/-! V04c: what kinds an error is. -/
namespace FB.K04
open PySem PySem.Spec PyProof.Rows L2 RZ FB
abbrev CLS : List Str := ["InvalidRow", "InvalidRows", "InvalidProgram", "InvalidOperation", "InvalidWord", "InvalidNames", "InvalidMeaning", "InvalidNumber", "InvalidFences", "InvalidResults", "InvalidText", "TooLarge", "NoProgram", "NoSource", "NothingToUndo"]
/-- all sixteen answers: true at k alone -/
def kb (k : Nat) : List PyData := (List.range 16).map fun i => PyData.bool (decide (i = k))
abbrev exD (c : Str) : Dv := .exc c []
abbrev excL : Dv := .lstD (CLS.map exD)
theorem kinds_exc (st : So) : ∀ k : Fin 15, d__law_kinds [exD CLS[k]] st = .ok (.p (.list (kb k))) st := by
  intro k
  match k with
  | ⟨0, _⟩ => exact runD_pure0 (by kernel_rfl)
  | ⟨1, _⟩ => exact runD_pure0 (by kernel_rfl)
  | ⟨2, _⟩ => exact runD_pure0 (by kernel_rfl)
  | ⟨3, _⟩ => exact runD_pure0 (by kernel_rfl)
  | ⟨4, _⟩ => exact runD_pure0 (by kernel_rfl)
  | ⟨5, _⟩ => exact runD_pure0 (by kernel_rfl)
  | ⟨6, _⟩ => exact runD_pure0 (by kernel_rfl)
  | ⟨7, _⟩ => exact runD_pure0 (by kernel_rfl)
  | ⟨8, _⟩ => exact runD_pure0 (by kernel_rfl)
  | ⟨9, _⟩ => exact runD_pure0 (by kernel_rfl)
  | ⟨10, _⟩ => exact runD_pure0 (by kernel_rfl)
  | ⟨11, _⟩ => exact runD_pure0 (by kernel_rfl)
  | ⟨12, _⟩ => exact runD_pure0 (by kernel_rfl)
  | ⟨13, _⟩ => exact runD_pure0 (by kernel_rfl)
  | ⟨14, _⟩ => exact runD_pure0 (by kernel_rfl)
theorem kinds_xa (d : Dv) (st : So) : d__law_kinds [.xa "Locked" "word" d] st = .ok (.p (.list (kb 15))) st := runD_pure0 (by kernel_rfl)
theorem kinds_fb (st : So) : d__law_kinds [exD "FrontBackError"] st = .ok (.p (.list (kb 16))) st := runD_pure0 (by kernel_rfl)
theorem plain_ok (st : So) : d__law_plain [] st = .ok excL st := by
  have h : m__law_plain [none] st = .ret excL st := by kernel_rfl
  have r := runD_ret (N := 1) (args := []) h
  rw [trim_same rfl] at r
  exact r
theorem told_ok (d : Dv) (st : So) : d__law_told [d] st = .ok excL st := by
  have h : m__law_told [some d, none] st = .ret excL st := by kernel_rfl
  have r := runD_ret (N := 2) (args := [d]) h
  rw [trim_same rfl] at r
  exact r
/-! ### _law_all_good -/
theorem kb_can : ∀ L : List Bool, PyData.canLayAll0 (L.map PyData.bool) = true ∧ PyData.depthAll (L.map PyData.bool) ≤ 1
  | [] => ⟨rfl, Nat.zero_le _⟩
  | b :: L => by
    obtain ⟨h1, h2⟩ := kb_can L
    constructor
    · show (PyData.canLay0 (.bool b) && PyData.canLayAll0 (L.map PyData.bool)) = true
      rw [h1, Bool.and_true]
      simp [PyData.canLay0]
    · simp only [List.map_cons, PyData.depthAll, PyData.depth] at h2 ⊢
      omega
theorem eqv_bools : ∀ L : List Bool, PyData.eqvAll (L.map PyData.bool) (L.map PyData.bool) = true
  | [] => rfl
  | b :: L => by
    show (PyData.eqv (.bool b) (.bool b) && PyData.eqvAll (L.map PyData.bool) (L.map PyData.bool)) = true
    rw [eqv_bools L, Bool.and_true]
    cases b <;> rfl
theorem kb_ne (k : Nat) (st : So) : gNe (.p (.list (kb k))) (.p (.list (kb k))) st = some (.p (.bool false)) := by
  have e : kb k = ((List.range 16).map fun i => decide (i = k)).map PyData.bool := by unfold kb; rw [List.map_map]; rfl
  have sh : SeqAt.shaped (.list (kb k)) = true := by
    obtain ⟨h1, h2⟩ := kb_can ((List.range 16).map fun i => decide (i = k))
    unfold SeqAt.shaped
    rw [e]
    have h3 : PyData.depth (.list (((List.range 16).map fun i => decide (i = k)).map PyData.bool)) ≤ 64 := by simp only [PyData.depth]; omega
    rw [show PyData.canLay0 (.list (((List.range 16).map fun i => decide (i = k)).map PyData.bool)) = true by simpa only [PyData.canLay0] using h1, decide_eq_true h3]; rfl
  have : eqD (.p (.list (kb k))) (.p (.list (kb k))) st = some true := by
    show (if SeqAt.shaped (.list (kb k)) && SeqAt.shaped (.list (kb k)) then some (PyData.eqv (.list (kb k)) (.list (kb k))) else none) = _
    rw [sh]
    show some (PyData.eqvAll (kb k) (kb k)) = _
    rw [e, eqv_bools]
  unfold gNe
  rw [this]; rfl
abbrev spotE (fe : FE) : FE := fPure (fLc (fRng rng1 (fCons (fC (.int 16)) (fNil))) (.nm 3) (tYesF) fe)
theorem spot_ok {fe : FE} {ρ : Sl} {st : So} {k : Nat} (h3 : 3 < ρ.length) (h : ∀ i : Nat, fe ((ρ.set 3 none).set 3 (some (iD i))) st = .ok (.p (.bool (decide (i = k)))) st) : spotE fe ρ st = .ok (.p (.list (kb k))) st := by
  have rg := rngN (fa := fC (.int 16)) (ρ := ρ) (st := st) (z := 16) c_ok (by decide) (by decide)
  have l := lc_all (fe := fe) (tg := .nm 3) (fi := fRng rng1 (fCons (fC (.int 16)) (fNil))) (ρ := ρ) (ρ.set 3 none) (fun i : Nat => (ρ.set 3 none).set 3 (some (iD i))) (fun i => Dv.p (.bool (decide (i = k)))) rg (by decide) rhoW_one (fun i _ => tg_nm) (fun i _ => h i)
  exact pure_ok (g := fun i : Nat => PyData.bool (decide (i = k))) l (by decide)
abbrev bodyA : FS := sSeq (sAsg (fOp gIxA (fVar 0) (fVar 1)) (.nm 2)) (sSeq (sIf (fTOr (fTNot (fTB (fIsA (tsL ti_FrontBackError) (fVar 2)))) (fTNot (fTB (fIsA (tsL ti_ValueError) (fVar 2))))) (sRet (fC (.bool false))) (sNext)) (sSeq (sIf (fTB (fIsA (tsL tt_0) (fVar 2))) (sRet (fC (.bool false))) (sNext)) (sIf (fTB (fOp gNe (fCall d__law_kinds (fCons (fVar 2) (fNil))) (fPure (fLc (fRng rng1 (fCons (fC (.int 16)) (fNil))) (.nm 3) (tYesF) (fOp gEq (fVar 1) (fVar 3)))))) (sRet (fC (.bool false))) (sNext))))
theorem isA_ok {l : List (Str × Bool)} {fa : FE} {ρ : Sl} {st : So} {d : Dv} {b : Bool} (h : fa ρ st = .ok d st) (e : tstA (tsL l) d = some b) : fIsA (tsL l) fa ρ st = .ok (.p (.bool b)) st := by
  show ((fa ρ st).bind _) = _
  rw [h, bind_ok, e]
theorem tst_all : ∀ k : Fin 15, tsL ti_FrontBackError CLS[k] = some true ∧ tsL ti_ValueError CLS[k] = some true ∧ tsL tt_0 CLS[k] = some false := by decide +kernel
theorem bodyA_ok (k : Fin 15) (x2 : Option Dv) (st : So) : bodyA [some excL, some (iD k), x2, none] st = .nx [some excL, some (iD k), some (exD CLS[k]), none] st := by
  obtain ⟨q1, q2, q3⟩ := tst_all k
  have ix : gIxA excL (iD k) st = some (exD CLS[k]) := by
    show atI (CLS.map exD) ((k : Nat) : Int) = _
    unfold atI
    rw [ixN_at (by rw [List.length_map]; exact k.2)]
    show (CLS.map exD)[(k : Nat)]? = _
    rw [List.getElem?_map, List.getElem?_eq_getElem k.2]; rfl
  have t1 := asg_to (i := 2) (op_ok (g := gIxA) (fa := fVar 0) (fb := fVar 1) (ρ := [some excL, some (iD k), x2, none]) (st := st) (var_ok rfl) (var_ok rfl) ix) (ρ' := [some excL, some (iD k), some (exD CLS[k]), none]) rfl
  have v2 : fVar 2 [some excL, some (iD k), some (exD CLS[k]), none] st = .ok (exD CLS[k]) st := var_ok rfl
  have t2 := if_next (ga := sRet (fC (.bool false))) (or_ff (not_t (tb_ok (isA_ok (l := ti_FrontBackError) v2 q1))) (not_t (tb_ok (isA_ok (l := ti_ValueError) v2 q2))))
  have t3 := if_next (ga := sRet (fC (.bool false))) (tb_ok (isA_ok (l := tt_0) v2 q3))
  have kd := call_ok (F := d__law_kinds) (cons_ok v2 nil_ok) (kinds_exc st k)
  have sp := spot_ok (fe := fOp gEq (fVar 1) (fVar 3)) (ρ := [some excL, some (iD k), some (exD CLS[k]), none]) (st := st) (k := k) (show 3 < 4 by decide) (fun i => by
    refine op_ok (var_ok (d := iD k) rfl) (var_ok (d := iD i) rfl) ?_
    rw [gEq_i]
    congr 3
    rw [Bool.eq_iff_iff, decide_eq_true_eq, decide_eq_true_eq]
    omega)
  have t4 := if_next (ga := sRet (fC (.bool false))) (tb_ok (op_ok (g := gNe) kd sp (kb_ne k st)))
  exact (seq_to t1).trans ((seq_to t2).trans ((seq_to t3).trans t4))
theorem loopA (st : So) : ∀ (ks : List (Fin 15)) (x1 x2 : Option Dv), ∃ y1 y2, sForL (.nm 1) bodyA (ks.map fun k : Fin 15 => iD k.val) [some excL, x1, x2, none] st = .nx [some excL, y1, y2, none] st
  | [], x1, x2 => ⟨x1, x2, rfl⟩
  | k :: ks, x1, x2 => by
    obtain ⟨y1, y2, e⟩ := loopA st ks (some (iD k)) (some (exD CLS[k]))
    exact ⟨y1, y2, (forL_next (ρ1 := [some excL, some (iD k), x2, none]) (tg_nm.trans rfl) (bodyA_ok k x2 st)).trans e⟩
theorem all_good_ok (st : So) : d__law_all_good [excL] st = .ok (.p (.bool true)) st := by
  refine runD_pure0 ?_
  show m__law_all_good [some excL, none, none, none] st = _
  obtain ⟨y1, y2, e⟩ := loopA st [0, 1, 2, 3, 4, 5, 6, 7, 8, 9, 10, 11, 12, 13, 14] none none
  have rg : fRng rng1 (fCons (fCB gLen (fCons (fVar 0) (fNil))) (fNil)) [some excL, none, none, none] st = .ok (([0, 1, 2, 3, 4, 5, 6, 7, 8, 9, 10, 11, 12, 13, 14] : List (Fin 15)).map fun k : Fin 15 => iD k.val) st := by
    have := rngN (fa := fCB gLen (fCons (fVar 0) (fNil))) (ρ := [some excL, none, none, none]) (st := st) (z := 15) (cb_ok (cons_ok (var_ok (d := excL) rfl) nil_ok) rfl) (by decide) (by decide)
    exact this
  have t1 : sFor (fRng rng1 (fCons (fCB gLen (fCons (fVar 0) (fNil))) (fNil))) (.nm 1) bodyA [some excL, none, none, none] st = .nx [some excL, y1, y2, none] st := by
    rw [ev_for, rg, FB.st_ok, e]
  exact (seq_to t1).trans (ret_to c_ok)
end FB.K04
set_option Elab.async false
set_option linter.all false
set_option maxRecDepth 100000
set_option maxHeartbeats 4000000
/-! V04d: _law_locked_good of what can be shown. -/
namespace FB.K04
open PySem PySem.Spec PyProof.Rows L2 RZ FB
abbrev xaD (d : Dv) : Dv := .xa "Locked" "word" d
theorem att_ok {fa : FE} {ρ : Sl} {st : So} {d : Dv} (h : fa ρ st = .ok (xaD d) st) : fAtt "Locked" "word" fa ρ st = .ok d st := by
  show ((fa ρ st).bind _) = _
  rw [h, bind_ok]
  exact if_pos ⟨rfl, rfl⟩
theorem newA_ok {fa : FE} {ρ : Sl} {st st1 : So} {d : Dv} (h : fa ρ st = .ok d st1) : fNewA "Locked" "word" fa ρ st = .ok (xaD d) st1 := by
  show ((fa ρ st).bind _) = _
  rw [h, bind_ok]
theorem tst_xa (d : Dv) : tstA (tsL ti_FrontBackError) (xaD d) = some true ∧ tstA (tsL tt_0) (xaD d) = some false := ⟨by kernel_rfl, by kernel_rfl⟩
abbrev twoX (d : Dv) : Dv := .lstD [xaD d, xaD d]
abbrev bodyL : FS := sSeq (sIf (fTOr (fTNot (fTB (fIsA (tsL ti_FrontBackError) (fVar 2)))) (fTB (fOp gNe (fCall d__law_kinds (fCons (fVar 2) (fNil))) (fPure (fLc (fRng rng1 (fCons (fC (.int 16)) (fNil))) (.nm 3) (tYesF) (fOp gEq (fVar 3) (fC (.int 15)))))))) (sRet (fC (.bool false))) (sNext)) (sIf (fTB (fIsA (tsL tt_0) (fVar 2))) (sRet (fC (.bool false))) (sNext))
theorem bodyL_ok (t e : Option Dv) (d : Dv) (st : So) : bodyL [t, e, some (xaD d), none] st = .nx [t, e, some (xaD d), none] st := by
  obtain ⟨q1, q2⟩ := tst_xa d
  have v2 : fVar 2 [t, e, some (xaD d), none] st = .ok (xaD d) st := var_ok rfl
  have kd := call_ok (F := d__law_kinds) (cons_ok v2 nil_ok) (kinds_xa d st)
  have sp := spot_ok (fe := fOp gEq (fVar 3) (fC (.int 15))) (ρ := [t, e, some (xaD d), none]) (st := st) (k := 15) (show 3 < 4 by decide) (fun i => by
    refine op_ok (var_ok (d := iD i) rfl) c_ok ?_
    rw [gEq_i]
    congr 3
    rw [Bool.eq_iff_iff, decide_eq_true_eq, decide_eq_true_eq]
    omega)
  have t1 := if_next (ga := sRet (fC (.bool false))) (or_ff (not_t (tb_ok (isA_ok (l := ti_FrontBackError) v2 q1))) (tb_ok (op_ok (g := gNe) kd sp (kb_ne 15 st))))
  have t2 := if_next (ga := sRet (fC (.bool false))) (tb_ok (isA_ok (l := tt_0) v2 q2))
  exact (seq_to t1).trans t2
theorem locked_ok {x : PyData} (h : strOk (.list [x, x]) = true) (st : So) : d__law_locked_good [.p x] st = .ok (.p (.bool true)) st := by
  refine runD_pure0 ?_
  show m__law_locked_good [some (.p x), none, none, none] st = _
  have v0 : fVar 0 [some (.p x), none, none, none] st = .ok (.p x) st := var_ok rfl
  have d1 : fPure ((disp (fCons (fNewA "Locked" "word" (fVar 0)) (fCons (fNewA "Locked" "word" (fVar 0)) (fNil))))) [some (.p x), none, none, none] st = .ok (twoX (.p x)) st := pure_to (xs := [xaD (.p x), xaD (.p x)]) (disp_to (cons_ok (newA_ok v0) (cons_ok (newA_ok v0) nil_ok)) (show 2 ≤ 100000 by decide)) (show 2 ≤ 100000 by decide)
  have t1 := asg_to (i := 1) d1 (ρ' := [some (.p x), some (twoX (.p x)), none, none]) rfl
  have l : fLcV (fVar 1) (.nm 2) (tYesF) (fAtt "Locked" "word" (fVar 2)) [some (.p x), some (twoX (.p x)), none, none] st = .ok (([x, x] : List PyData).map Dv.p) st :=
    lcV_all (xs := [x, x]) (f := fun y => xaD (.p y)) [some (.p x), some (twoX (.p x)), none, none] (fun y => [some (.p x), some (twoX (.p x)), some (xaD (.p y)), none]) (fun y => Dv.p y) (var_ok (d := twoX (.p x)) rfl) rfl (show 2 ≤ 100000 by decide) rhoW_one (fun y _ => tg_nm) (fun y _ => att_ok (var_ok rfl))
  have lp : fPure (fLcV (fVar 1) (.nm 2) (tYesF) (fAtt "Locked" "word" (fVar 2))) [some (.p x), some (twoX (.p x)), none, none] st = .ok (.p (.list [x, x])) st := by
    rw [pure_to l (show 2 ≤ 100000 by decide), mkL_p]
  have dp : fPure ((disp (fCons (fVar 0) (fCons (fVar 0) (fNil))))) [some (.p x), some (twoX (.p x)), none, none] st = .ok (.p (.list [x, x])) st := pure_to (xs := [.p x, .p x]) (disp_to (cons_ok (var_ok rfl) (cons_ok (var_ok rfl) nil_ok)) (show 2 ≤ 100000 by decide)) (show 2 ≤ 100000 by decide)
  have gs : gStr [.p (.list [x, x])] st = some (.p (.str (strD (.list [x, x])))) := by
    show (if strOk (.list [x, x]) = true then some (Dv.p (.str (strD (.list [x, x])))) else none) = _
    rw [if_pos h]
  have ne : fOp gNe (fCB gStr (fCons (fPure (fLcV (fVar 1) (.nm 2) (tYesF) (fAtt "Locked" "word" (fVar 2)))) (fNil))) (fCB gStr (fCons (fPure ((disp (fCons (fVar 0) (fCons (fVar 0) (fNil)))))) (fNil))) [some (.p x), some (twoX (.p x)), none, none] st = .ok (.p (.bool false)) st := by
    refine op_ok (cb_ok (cons_ok lp nil_ok) gs) (cb_ok (cons_ok dp nil_ok) gs) ?_
    rw [gNe_s, decide_eq_true rfl]; rfl
  have t2 := if_next (ga := sRet (fC (.bool false))) (tb_ok ne)
  have b := bodyL_ok (some (.p x)) (some (twoX (.p x))) (.p x) st
  have lp2 : sForL (.nm 2) bodyL [xaD (.p x), xaD (.p x)] [some (.p x), some (twoX (.p x)), none, none] st = .nx [some (.p x), some (twoX (.p x)), some (xaD (.p x)), none] st :=
    (forL_next (ρ1 := [some (.p x), some (twoX (.p x)), some (xaD (.p x)), none]) (tg_nm.trans rfl) b).trans ((forL_next (ρ1 := [some (.p x), some (twoX (.p x)), some (xaD (.p x)), none]) (tg_nm.trans rfl) b).trans rfl)
  have t3 : sForV (fVar 1) (.nm 2) bodyL [some (.p x), some (twoX (.p x)), none, none] st = .nx [some (.p x), some (twoX (.p x)), some (xaD (.p x)), none] st := (ev_forV (var_ok (d := twoX (.p x)) rfl) rfl).trans lp2
  exact (seq_to t1).trans ((seq_to t2).trans ((seq_to t3).trans (ret_to c_ok)))
end FB.K04
set_option Elab.async false
set_option linter.all false
set_option maxRecDepth 100000
set_option maxHeartbeats 4000000
/-! TX0: texts: joined and split. -/
namespace FB.Tx
open PySem PySem.StrLaws PySem.Builtin PySem.Builtin.Str
/-- signs joined by c :: t -/
def jl (c : Nat) (t : List Nat) : List (List Nat) → List Nat
  | [] => []
  | [x] => x
  | x :: y :: r => x ++ c :: (t ++ jl c t (y :: r))
theorem split_at_c {c : Nat} : ∀ {A A' R R' : List Nat}, c ∉ A → c ∉ A' → A ++ c :: R = A' ++ c :: R' → A = A' ∧ R = R'
  | [], [], _, _, _, _, e => ⟨rfl, (List.cons.inj e).2⟩
  | [], b :: A', _, _, _, h', e => absurd (by rw [(List.cons.inj e).1]; exact List.mem_cons_self) h'
  | a :: A, [], _, _, h, _, e => absurd (by rw [← (List.cons.inj e).1]; exact List.mem_cons_self) h
  | a :: A, b :: A', R, R', h, h', e => by
    obtain ⟨e1, e2⟩ := List.cons.inj e
    obtain ⟨h1, h2⟩ := split_at_c (fun z => h (List.mem_cons_of_mem _ z)) (fun z => h' (List.mem_cons_of_mem _ z)) e2
    exact ⟨by rw [e1, h1], h2⟩
/-- what is joined is known, if no piece holds the separator's first sign -/
theorem jl_inj {c : Nat} {t : List Nat} : ∀ {A B : List (List Nat)}, A ≠ [] → B ≠ [] → (∀ p ∈ A, c ∉ p) → (∀ p ∈ B, c ∉ p) → jl c t A = jl c t B → A = B
  | [], _, h, _, _, _, _ => absurd rfl h
  | _, [], _, h, _, _, _ => absurd rfl h
  | [x], [y], _, _, _, _, e => by have e : x = y := e; rw [e]
  | [x], y :: z :: r, _, _, h1, _, e => by
    have e : x = y ++ c :: (t ++ jl c t (z :: r)) := e
    exact absurd (by rw [e]; simp) (h1 x List.mem_cons_self)
  | y :: z :: r, [x], _, _, _, h2, e => by
    have e : y ++ c :: (t ++ jl c t (z :: r)) = x := e
    exact absurd (by rw [← e]; simp) (h2 x List.mem_cons_self)
  | x :: x2 :: r, y :: y2 :: r', _, _, h1, h2, e => by
    have e : x ++ c :: (t ++ jl c t (x2 :: r)) = y ++ c :: (t ++ jl c t (y2 :: r')) := e
    obtain ⟨e1, e2⟩ := split_at_c (h1 x List.mem_cons_self) (h2 y List.mem_cons_self) e
    have e3 := List.append_cancel_left e2
    rw [e1, jl_inj (by simp) (by simp) (fun p hp => h1 p (List.mem_cons_of_mem _ hp)) (fun p hp => h2 p (List.mem_cons_of_mem _ hp)) e3]
theorem join_jl {s : Str} {c : Nat} {t : List Nat} (hs : s.cps.toList = c :: t) : ∀ parts : List Str, (Str.join s parts).cps.toList = jl c t (parts.map fun p => p.cps.toList)
  | [] => rfl
  | [x] => rfl
  | x :: y :: r => by
    have ih := join_jl hs (y :: r)
    show (x ++ s ++ Str.join s (y :: r)).cps.toList = _
    rw [Str.cps_append, Str.cps_append, Array.toList_append, Array.toList_append, ih, hs]
    show _ = x.cps.toList ++ c :: (t ++ jl c t ((y :: r).map fun p => p.cps.toList))
    simp
theorem toList_inj {l m : List Str} (h : l.map (fun p => p.cps.toList) = m.map fun p => p.cps.toList) : l = m := by
  induction l generalizing m with
  | nil =>
    cases m with
    | nil => rfl
    | cons y m => cases h
  | cons x l ih =>
    cases m with
    | nil => cases h
    | cons y m =>
      obtain ⟨h1, h2⟩ := List.cons.inj h
      rw [ih h2, Str.ext' (Array.toList_inj.mp h1)]
theorem split_ne (x y : Str) : Txt.split x y ≠ [] := by
  unfold Txt.split
  split
  · simp
  · split
    · simp
    · rw [partsBetween_eq]
      obtain ⟨p, r, e⟩ := partsFrom_ne x y.length 0 (occurrences x y 0 x.length (x.length + 1))
      rw [e]; simp
theorem split_len (x y : Str) : (Txt.split x y).length ≤ x.length + 2 := by
  unfold Txt.split
  split
  · simp
  · split
    · simp
    · rw [length_partsBetween]
      have := occ_length_le x y 0 x.length (x.length + 1)
      omega
abbrev SP : Str := " "
abbrev SC : Str := "; "
theorem sp_cps : SP.cps.toList = 32 :: [] := by decide +kernel
theorem sc_cps : SC.cps.toList = 59 :: [32] := by decide +kernel
theorem sp_one : SP = ⟨#[32]⟩ := by decide +kernel
/-- pieces without a blank, joined by one, are split again -/
theorem split_sp {parts : List Str} (h0 : parts ≠ []) (h : ∀ p ∈ parts, 32 ∉ p.cps.toList) : Txt.split (Str.join SP parts) SP = parts := by
  have e := join_split (Str.join SP parts) SP
  have e2 : jl 32 [] ((Txt.split (Str.join SP parts) SP).map fun p => p.cps.toList) = jl 32 [] (parts.map fun p => p.cps.toList) := by
    rw [← join_jl sp_cps, ← join_jl sp_cps, e]
  refine toList_inj (jl_inj (c := 32) (t := []) (fun z => split_ne _ _ (List.map_eq_nil_iff.mp z)) (fun z => h0 (List.map_eq_nil_iff.mp z)) (fun p hp => ?_) (fun p hp => ?_) e2)
  · obtain ⟨q, hq, rfl⟩ := List.mem_map.mp hp
    rw [sp_one] at hq
    exact split_free _ 32 q hq
  · obtain ⟨q, hq, rfl⟩ := List.mem_map.mp hp
    exact h q hq
/-! ### the separator of two signs -/
def Sepd (l : List Nat) : Prop := ∀ k, l[k]? = some 59 → l[k + 1]? = some 32
theorem sepd_free {l : List Nat} (h : 59 ∉ l) : Sepd l := fun k hk => absurd (List.mem_of_getElem? hk) h
theorem jl_ne (c : Nat) (t : List Nat) : ∀ A : List (List Nat), A ≠ [] → ∃ x r, A = x :: r := fun A h => by
  cases A with
  | nil => exact absurd rfl h
  | cons x r => exact ⟨x, r, rfl⟩
theorem sepd_cat {a l : List Nat} (ha : 59 ∉ a) (hl : Sepd l) : Sepd (a ++ 59 :: 32 :: l) := fun k hk => by
  by_cases h1 : k < a.length
  · rw [List.getElem?_append_left h1] at hk
    exact absurd (List.mem_of_getElem? hk) ha
  · rw [List.getElem?_append_right (by omega)] at hk
    rw [List.getElem?_append_right (by omega)]
    generalize hj : k - a.length = j at hk
    rw [show k + 1 - a.length = j + 1 by omega]
    match j, hk with
    | 0, _ => rfl
    | 1, hk => cases hk
    | j + 2, hk => exact hl j hk
theorem sepd_jl : ∀ {A : List (List Nat)}, (∀ p ∈ A, 59 ∉ p) → Sepd (jl 59 [32] A)
  | [], _ => sepd_free (by simp [jl])
  | [x], h => sepd_free (h x List.mem_cons_self)
  | x :: y :: r, h => by
    show Sepd (x ++ 59 :: ([32] ++ jl 59 [32] (y :: r)))
    exact sepd_cat (h x List.mem_cons_self) (sepd_jl fun p hp => h p (List.mem_cons_of_mem _ hp))
theorem at_sc {x : Str} (hs : Sepd x.cps.toList) {k : Nat} (hk : x.cps.toList[k]? = some 59) : At x SC x.length k := by
  have h2 := hs k hk
  have hl : k + 1 < x.cps.toList.length := (List.getElem?_eq_some_iff.mp h2).1
  have hn : x.cps.toList.length = x.length := by simp [Str.length]
  refine ⟨by show k + 2 ≤ x.length; omega, ?_⟩
  rw [subAt_eq, sc_cps]
  have e : (x.cps.toList.drop k).take 2 = [59, 32] := by
    rw [List.drop_eq_getElem_cons (by omega), List.drop_eq_getElem_cons hl]
    have e1 := (List.getElem?_eq_some_iff.mp hk).2
    have e2 := (List.getElem?_eq_some_iff.mp h2).2
    rw [e1, e2]; rfl
  show ((x.cps.toList.drop k).take 2 == [59, 32]) = true
  rw [e]; rfl
theorem part_free2 {x : Str} (hs : Sepd x.cps.toList) {a b : Nat} (hb : b ≤ x.length) (hn : ∀ k, a ≤ k → k < b → ¬ At x SC x.length k) : 59 ∉ (strSub x a b).cps.toList := fun hm => by
  rw [strSub_toList] at hm
  obtain ⟨j, hj⟩ := List.getElem?_of_mem hm
  have hlt : j < b - a := by
    have h1 : j < ((x.cps.toList.drop a).take (b - a)).length := (List.getElem?_eq_some_iff.mp hj).1
    rw [List.length_take] at h1
    omega
  rw [List.getElem?_take_of_lt hlt, List.getElem?_drop] at hj
  exact hn (a + j) (by omega) (by omega) (at_sc hs hj)
theorem parts_free2 {x : Str} (hs : Sepd x.cps.toList) : ∀ (cuts : List Nat) (a f : Nat), ChainG x SC x.length a cuts f → (∀ k, f ≤ k → ¬ At x SC x.length k) → ∀ p ∈ partsFrom x SC.length a cuts, 59 ∉ p.cps.toList
  | [], a, f, h, hn, p, hp => by
    have e : f = a := h
    subst e
    rw [List.mem_singleton.mp hp]
    exact part_free2 hs (Nat.le_refl _) fun k h1 _ => hn k h1
  | d :: r, a, f, h, hn, p, hp => by
    rcases List.mem_cons.mp hp with rfl | hp
    · exact part_free2 hs (by have := h.2.1.1; omega) h.2.2.1
    · exact parts_free2 hs r _ f h.2.2.2 hn p hp
theorem kind_sc (x : Str) : decide (Builtin.Str.strKind x < Builtin.Str.strKind SC) = false := by
  have e : Builtin.Str.strKind SC = 1 := by decide +kernel
  rw [e]
  have : 1 ≤ Builtin.Str.strKind x := by
    unfold Builtin.Str.strKind
    split
    · exact Nat.le_refl _
    · split <;> decide
  exact decide_eq_false (by omega)
theorem split_free2 {x : Str} (hs : Sepd x.cps.toList) : ∀ p ∈ Txt.split x SC, 59 ∉ p.cps.toList := by
  obtain ⟨f, hG, hn⟩ := occ_tight x SC (by decide +kernel)
  unfold Txt.split
  rw [kind_sc, Bool.or_false]
  split
  · rename_i hc
    intro p hp hm
    rw [List.mem_singleton.mp hp] at hm
    obtain ⟨j, hj⟩ := List.getElem?_of_mem hm
    have := (at_sc hs hj).1
    have hc := of_decide_eq_true hc
    omega
  · split
    · rename_i he
      intro p hp hm
      rw [List.mem_singleton.mp hp] at hm
      obtain ⟨j, hj⟩ := List.getElem?_of_mem hm
      have he : occurrences x SC 0 x.length (x.length + 1) = [] := List.isEmpty_iff.mp he
      rw [he] at hG
      have hf : f = 0 := hG
      exact hn j (by omega) (at_sc hs hj)
    · rw [partsBetween_eq]
      exact parts_free2 hs _ 0 f hG hn
/-- pieces without ';', joined by "; ", are split again -/
theorem split_sc {parts : List Str} (h0 : parts ≠ []) (h : ∀ p ∈ parts, 59 ∉ p.cps.toList) : Txt.split (Str.join SC parts) SC = parts := by
  have e := join_split (Str.join SC parts) SC
  have hA : ∀ p ∈ parts.map (fun p => p.cps.toList), 59 ∉ p := fun p hp => by
    obtain ⟨q, hq, rfl⟩ := List.mem_map.mp hp
    exact h q hq
  have hs : Sepd (Str.join SC parts).cps.toList := by
    rw [join_jl sc_cps]
    exact sepd_jl hA
  have e2 : jl 59 [32] ((Txt.split (Str.join SC parts) SC).map fun p => p.cps.toList) = jl 59 [32] (parts.map fun p => p.cps.toList) := by
    rw [← join_jl sc_cps, ← join_jl sc_cps, e]
  refine toList_inj (jl_inj (c := 59) (t := [32]) (fun z => split_ne _ _ (List.map_eq_nil_iff.mp z)) (fun z => h0 (List.map_eq_nil_iff.mp z)) (fun p hp => ?_) hA e2)
  obtain ⟨q, hq, rfl⟩ := List.mem_map.mp hp
  exact split_free2 hs q hq
theorem txt_join (s : Str) (l : List Str) : Txt.join s l = Str.join s l := glued_eq_join s l
theorem join_len (s : Str) (l : List Str) : (Txt.join s l).length ≤ (l.map (·.length)).sum + l.length * s.length := by
  rw [txt_join]; exact join_length_le s l
/-- the first piece replaced -/
theorem rep1_len (x y z : Str) (hz : z.length ≤ 10) : (rep1 x y z).length ≤ x.length + 10 := by
  unfold rep1
  split
  · omega
  · have h1 := occ_length_le x y 0 x.length 1
    have hy : (glued y (partsBetween x (occurrences x y 0 x.length 1) y.length)).length = x.length := by
      rw [glued_eq_join, partsBetween_eq]
      obtain ⟨f, h⟩ := occ_chain x y 1
      rw [join_partsFrom x y _ 0 f h, sub_whole]
    rw [size_glued, length_partsBetween, Nat.add_sub_cancel] at hy ⊢
    have h2 : (occurrences x y 0 x.length 1).length * z.length ≤ 1 * z.length := Nat.mul_le_mul_right _ h1
    have h3 : (occurrences x y 0 x.length 1).length = 0 ∨ (occurrences x y 0 x.length 1).length = 1 := by omega
    rcases h3 with h3 | h3 <;> rw [h3] at hy h2 ⊢ <;> omega
end FB.Tx
set_option Elab.async false
set_option linter.all false
set_option maxRecDepth 100000
set_option maxHeartbeats 4000000
/-! V04e: the texts drawn, the sixteen things. -/
namespace FB.K04
open PySem PySem.Spec PyProof.Rows L2 RZ FB FB.Fit
abbrev SGN : Str := "ab :;-"
def sgs : List Nat := [97, 98, 32, 58, 59, 45]
def okT (x : Str) : Prop := ∀ c ∈ x.cps.toList, c ∈ sgs
def okTb (x : Str) : Bool := x.cps.toList.all fun c => decide (c ∈ sgs)
theorem okT_lit {x : Str} (h : okTb x = true) : okT x := fun c hc => of_decide_eq_true (List.all_eq_true.mp h c hc)
theorem sgs_small : ∀ c ∈ sgs, c < 16 ^ 8 := by decide +kernel
theorem okT.s {x : Str} (h : okT x) : okS x := fun c hc => sgs_small c (h c hc)
theorem okT_app {a b : Str} (ha : okT a) (hb : okT b) : okT (a ++ b) := fun c hc => by
  rw [Str.cps_append, Array.toList_append] at hc
  exact (List.mem_append.mp hc).elim (ha c) (hb c)
theorem okT_more {x : Str} (h : okT x) : x ≠ "more" := fun e => by
  subst e
  have : (109 : Nat) ∈ (Str.cps "more").toList := by decide +kernel
  exact absurd (h 109 this) (by decide +kernel)
theorem join_ones : ∀ {ws : List Str}, (∀ w ∈ ws, okT w ∧ w.length = 1) → okT (Str.join "" ws) ∧ (Str.join "" ws).length = ws.length
  | [], _ => ⟨okT_lit (by decide +kernel), by decide +kernel⟩
  | [w], h => ⟨(h w List.mem_cons_self).1, (h w List.mem_cons_self).2⟩
  | w :: u :: ws, h => by
    obtain ⟨h1, h2⟩ := join_ones (ws := u :: ws) fun x hx => h x (List.mem_cons_of_mem _ hx)
    obtain ⟨w1, w2⟩ := h w List.mem_cons_self
    have e : Str.join "" (w :: u :: ws) = w ++ "" ++ Str.join "" (u :: ws) := rfl
    have z : Str.length "" = 0 := by decide +kernel
    rw [e]
    refine ⟨okT_app (okT_app w1 (okT_lit (by decide +kernel))) h1, ?_⟩
    rw [Str.length_append, Str.length_append, w2, z, h2, List.length_cons (a := w)]
    omega
theorem gJoin_lw {a : Str} {ws : List Str} {st : So} (h : (ws.map (·.length)).sum + ws.length * a.length ≤ 16777216) : gJoin (sD a) (lw ws) st = some (sD (Txt.join a ws)) := by
  have l : lstOf (lw ws) st = some (ws.map sD) := seq_lw ws st
  have t : ∀ l : List Str, txts (l.map sD) = some l := fun l => by
    induction l with
    | nil => rfl
    | cons x l ih =>
      show (txts (l.map sD)).map _ = _
      rw [ih]; rfl
  unfold gJoin
  rw [l]
  dsimp only
  rw [t]
  dsimp only
  rw [if_pos h]
theorem tm_ok {g : G2} {fo fe : FE} {ρ : Sl} {st st1 st2 : So} {a : Str} {y z : Dv} (h1 : fo ρ st = .ok (sD a) st1) (h2 : fe ρ st1 = .ok y st2) (h3 : g (sD a) y st2 = some z) : fTM g fo fe ρ st = .ok z st2 := by
  unfold fTM
  rw [h1, bind_ok]
  dsimp only
  rw [h2, bind_ok, h3, toR_some]
theorem add_s {a b : Str} {st : So} (h : a.length + b.length ≤ 100000) : gAdd (sD a) (sD b) st = some (sD (a ++ b)) := by
  show (if a.length + b.length ≤ 100000 then some (Dv.p (.str (a ++ b))) else none) = _
  rw [if_pos h]
theorem gAdd_l {xs ys : List PyData} {st : So} (h : xs.length + ys.length ≤ 100000) : gAdd (.p (.list xs)) (.p (.list ys)) st = some (.p (.list (xs ++ ys))) := by
  show (if (xs.map Dv.p).length + (ys.map Dv.p).length ≤ 100000 then some (mkL (xs.map Dv.p ++ ys.map Dv.p)) else none) = _
  rw [List.length_map, List.length_map, if_pos h, ← List.map_append, mkL_p]
theorem sign_at (st : So) : ∀ i : Nat, i < 6 → ∃ w, gIxA (sD SGN) (iD i) st = some (sD w) ∧ okT w ∧ w.length = 1
  | 0, _ => ⟨"a", by kernel_rfl, okT_lit (by decide +kernel), by decide +kernel⟩
  | 1, _ => ⟨"b", by kernel_rfl, okT_lit (by decide +kernel), by decide +kernel⟩
  | 2, _ => ⟨" ", by kernel_rfl, okT_lit (by decide +kernel), by decide +kernel⟩
  | 3, _ => ⟨":", by kernel_rfl, okT_lit (by decide +kernel), by decide +kernel⟩
  | 4, _ => ⟨";", by kernel_rfl, okT_lit (by decide +kernel), by decide +kernel⟩
  | 5, _ => ⟨"-", by kernel_rfl, okT_lit (by decide +kernel), by decide +kernel⟩
  | n + 6, h => absurd h (by omega)
/-! ### a text again and again -/
theorem rep_go {P : Nat → Prop} {a : Array Nat} (ha : ∀ c ∈ a.toList, P c) : ∀ (n : Nat) (acc : Array Nat), (∀ c ∈ acc.toList, P c) →
    (∀ c ∈ ((List.replicate n a).foldl (· ++ ·) acc).toList, P c) ∧ ((List.replicate n a).foldl (· ++ ·) acc).size = acc.size + n * a.size
  | 0, acc, h => ⟨h, by show acc.size = _; omega⟩
  | n + 1, acc, h => by
    obtain ⟨h1, h2⟩ := rep_go ha n (acc ++ a) fun c hc => by
      rw [Array.toList_append] at hc
      exact (List.mem_append.mp hc).elim (h c) (ha c)
    refine ⟨h1, ?_⟩
    show ((List.replicate n a).foldl (· ++ ·) (acc ++ a)).size = _
    rw [h2, Array.size_append, Nat.succ_mul]
    omega
theorem rep_s {a : Str} (h : okS a) (k : Int) : okS (repS a k) := (rep_go (P := fun c => c < 16 ^ 8) h k.toNat #[] fun c hc => by cases hc).1
theorem rep_len (a : Str) (k : Int) : (repS a k).length = k.toNat * a.length := by
  have := (rep_go (P := fun _ => True) (a := a.cps) (fun _ _ => trivial) k.toNat #[] fun c hc => trivial).2
  show (repS a k).cps.size = _
  unfold repS
  rw [this]
  show 0 + _ = _
  rw [Nat.zero_add]; rfl
/-- what `a * k` is -/
def tmE (a : Str) (k : Int) : Str := if a.length = 0 then a else repS a k
theorem mulE_ok {a : Str} {k : Int} (h1 : 2 ≤ k) (h2 : k ≤ 1000) (h3 : a.length ≤ 1000) (st : So) : gMulE (sD a) (zD k) st = some (sD (tmE a k)) := by
  unfold gMulE tmE
  by_cases h : a.length = 0
  · rw [if_pos h]
    show (if a.length = 0 ∧ 1 ≤ k ∧ k ≤ 1000 then some (Dv.p (.str a)) else _) = _
    rw [if_pos ⟨h, by omega, h2⟩]
  · rw [if_neg h]
    show (if a.length = 0 ∧ 1 ≤ k ∧ k ≤ 1000 then some (Dv.p (.str a)) else gMulS (sD a) (zD k) st) = _
    rw [if_neg (fun z => h z.1)]
    show (if k = 0 then _ else if k = 1 then _ else gMulA (sD a) (zD k) st) = _
    rw [if_neg (by omega), if_neg (by omega)]
    show (if decide (2 ≤ k) && decide (k ≤ 1000) && decide (a.length ≤ 1000) && decide (1 ≤ a.length) && decide ((repS a k).length ≤ 1000000) then some (Dv.p (.str (repS a k))) else none) = _
    have hm : k.toNat * a.length ≤ 1000 * 1000 := Nat.mul_le_mul (by omega) h3
    rw [decide_eq_true h1, decide_eq_true h2, decide_eq_true h3, decide_eq_true (show 1 ≤ a.length by omega), decide_eq_true (show (repS a k).length ≤ 1000000 by rw [rep_len]; omega)]
    rfl
theorem tm_s {a : Str} (h : okS a) (k : Int) : okS (tmE a k) := by
  unfold tmE
  split
  · exact h
  · exact rep_s h k
theorem tm_len (a : Str) (k : Int) : (tmE a k).length ≤ k.toNat * a.length := by
  unfold tmE
  split
  · rename_i h; rw [h]; exact Nat.zero_le _
  · rw [rep_len]; exact Nat.le_refl _
/-! ### the things -/
def th1 (T : Str) (n : Nat) : List PyData := [.str T, .int n, .none, .list [.str T], .tuple [.str T, .int n], .str "", .bool true, .bool false, .list [], .tuple [], .dict [], .dict [(.str T, .tuple [.int n])]]
def th2 (T : Str) : List PyData := [.str (tmE T 60), .str (" " ++ T ++ " "), .list [.list [.str T, .none]], .str (tmE "p" 999)]
theorem int_f : ∀ i : Fin 99, fB 19 1400 (.int (i.val : Int)) = true := by decide +kernel
theorem int_F {n : Nat} (h : n < 99) : F 19 1400 (.int (n : Int)) := F.of (int_f ⟨n, h⟩)
theorem int_F0 {n : Nat} (h : n < 99) : F 0 20 (.int (n : Int)) := by
  have : ∀ i : Fin 99, fB 0 20 (.int (i.val : Int)) = true := by decide +kernel
  exact F.of (this ⟨n, h⟩)
theorem lst_F {xs : List PyData} (h : FA' 10 400 xs) (hl : xs.length ≤ 3) : F 19 1400 (.list xs) := (F.lst (m := 1400) h (by have := Nat.mul_le_mul_right 401 hl; omega)).mono (by decide) (by decide)
theorem tup_F {xs : List PyData} (h : FA' 10 400 xs) (hl : xs.length ≤ 3) : F 19 1400 (.tuple xs) := (F.tup (m := 1400) h (by have := Nat.mul_le_mul_right 401 hl; omega)).mono (by decide) (by decide)
theorem two_ok {x : PyData} (h : F 19 1400 x) : strOk (.list [x, x]) = true := strOk_of (F.lst (k := 19) (n := 1400) (fun y hy => by
  rcases List.mem_cons.mp hy with rfl | hy
  · exact h
  · rw [List.mem_singleton.mp hy]; exact h) (Nat.le_of_ble_eq_true rfl))
theorem dict_F {T : Str} {n : Nat} (h : okS T) (hl : T.length ≤ 11) (hn : n < 99) : F 19 1400 (.dict [(.str T, .tuple [.int (n : Int)])]) := by
  have a := F.str (n := 20) (k := 0) h (by omega : T.length ≤ 20)
  have b := F.tup (k := 0) (n := 20) (m := 21) (xs := [.int (n : Int)]) (fun y hy => by rw [List.mem_singleton.mp hy]; exact int_F0 hn) (Nat.le_of_ble_eq_true rfl)
  have b1 := b.bare
  have b2 := b.short
  have b3 := b.shows
  have b4 := b.depth
  have b5 := b.weight
  have a2 := a.short
  have a3 := a.shows
  have a4 := a.depth
  have a5 := a.weight
  refine ⟨?_, ?_, ?_, ?_, ?_⟩
  · simp only [bareD, bareK, Bool.and_true] at b1 ⊢; exact b1
  · simp only [PyData.leavesShort, PyData.leavesShortKv, Bool.and_true, Bool.and_eq_true] at a2 b2 ⊢; exact ⟨a2, b2⟩
  · simp only [PyData.showable, PyData.showableKv, Bool.and_true, Bool.and_eq_true] at a3 b3 ⊢; first | exact ⟨a3, b3⟩ | exact b3
  · simp only [PyData.depth, PyData.depthKv] at a4 b4 ⊢; omega
  · simp only [PyData.weight, PyData.weightKv] at a5 b5 ⊢; omega
theorem things_F {T : Str} {n : Nat} (h : okT T) (hl : T.length ≤ 11) (hn : n < 99) : ∀ x ∈ th1 T n ++ th2 T, F 19 1400 x := by
  have hS := h.s
  have fT : ∀ {k m : Nat}, 11 ≤ m → F k m (.str T) := fun hm => F.str hS (by omega)
  have ls : Str.length " " = 1 := by decide +kernel
  have lp : Str.length "p" = 1 := by decide +kernel
  have o1 : okS " " := okS_lit (by decide +kernel)
  have o2 : okS "p" := okS_lit (by decide +kernel)
  intro x hx
  unfold th1 th2 at hx
  simp only [List.cons_append, List.nil_append, List.mem_cons, List.not_mem_nil, or_false] at hx
  rcases hx with rfl | rfl | rfl | rfl | rfl | rfl | rfl | rfl | rfl | rfl | rfl | rfl | rfl | rfl | rfl | rfl
  · exact fT (by decide)
  · exact int_F hn
  · exact F.of (by decide +kernel)
  · exact lst_F (fun y hy => by rw [List.mem_singleton.mp hy]; exact fT (by decide)) (Nat.le_of_ble_eq_true rfl)
  · refine tup_F (fun y hy => ?_) (Nat.le_of_ble_eq_true rfl)
    rcases List.mem_cons.mp hy with rfl | hy
    · exact fT (by decide)
    · rw [List.mem_singleton.mp hy]; exact (int_F0 hn).mono (by decide) (by decide)
  · exact F.of (by decide +kernel)
  · exact F.of (by decide +kernel)
  · exact F.of (by decide +kernel)
  · exact F.of (by decide +kernel)
  · exact F.of (by decide +kernel)
  · exact F.of (by decide +kernel)
  · exact dict_F hS hl hn
  · refine F.str (tm_s hS 60) ?_
    have := tm_len T 60
    have e : (60 : Int).toNat = 60 := rfl
    rw [e] at this
    omega
  · refine F.str ?_ ?_
    · intro c hc
      rw [Str.cps_append, Str.cps_append, Array.toList_append, Array.toList_append] at hc
      rcases List.mem_append.mp hc with hc | hc
      · exact (List.mem_append.mp hc).elim (o1 c) (hS c)
      · exact o1 c hc
    · rw [Str.length_append, Str.length_append, ls]; omega
  · refine lst_F (fun y hy => ?_) (Nat.le_of_ble_eq_true rfl)
    rw [List.mem_singleton.mp hy]
    refine (F.lst (k := 5) (n := 100) (m := 202) (fun z hz => ?_) (Nat.le_of_ble_eq_true rfl)).mono (by decide) (by decide)
    rcases List.mem_cons.mp hz with rfl | hz
    · exact fT (by decide)
    · rw [List.mem_singleton.mp hz]; exact F.of (by decide +kernel)
  · refine F.str (tm_s o2 999) ?_
    have := tm_len "p" 999
    have e : (999 : Int).toNat = 999 := rfl
    rw [e, lp] at this
    omega
end FB.K04
set_option Elab.async false
set_option linter.all false
set_option maxRecDepth 100000
set_option maxHeartbeats 4000000
/-! V04f: the law. -/
namespace FB.K04
open PySem PySem.Spec PyProof.Rows L2 RZ FB FB.Fit
abbrev slL (ns : List Int) (e t d tx nu so ro ta k th : Option Dv) : Sl := [some (.frz ns), e, t, d, tx, nu, so, ro, ta, k, th]
theorem at_last (S : So) (x : Cl) : (S ++ [x])[S.length]? = some x := by rw [List.getElem?_append_right (Nat.le_refl _), Nat.sub_self]; rfl
theorem set_end (S : So) (x y : Cl) : (S ++ [x]).set S.length y = S ++ [y] := by
  rw [List.set_append_right _ _ (Nat.le_refl _), Nat.sub_self]; rfl
abbrev tkE (k : Int) : FE := fCall d__law_take (fCons (fVar 3) (fCons (fC (.int k)) (fNil)))
theorem tkE_ok {ρ : Sl} {S : So} {n : Int} {k : Nat} (h3 : ρ[3]? = some (some (.ref S.length))) (h1 : 0 < k) (h2 : k < 2 ^ 32) : ∃ (i : Nat) (n' : Int), i < k ∧ tkE k ρ (S ++ [own n]) = .ok (iD i) (S ++ [own n']) := by
  obtain ⟨i, e, hi⟩ := draw (n := n) (k := k) h1
  have t := take_ok (n := n) (k := (k : Int)) (at_last S (own n)) (by omega) (by omega)
  rw [e, set_end] at t
  exact ⟨i, _, hi, call_ok (F := d__law_take) (fr := fCons (fVar 3) (fCons (fC (.int k)) (fNil))) (cons_ok (var_ok h3) (cons_ok c_ok nil_ok)) t⟩
abbrev elS : FE := fOp gIxA (fC (.str "ab :;-")) (tkE 6)
theorem cmp_sign {S : So} {ρ0 : Sl} (h3 : ∀ d, (ρ0.set 9 (some d))[3]? = some (some (.ref S.length))) : ∀ (xs : List Dv) (n : Int) (acc : List Str),
    ∃ n' ws, cmpL (.nm 9) tYesF elS ρ0 xs (acc.map sD) (S ++ [own n]) = .ok ((acc ++ ws).map sD) (S ++ [own n']) ∧ ws.length = xs.length ∧ ∀ w ∈ ws, okT w ∧ w.length = 1
  | [], n, acc => ⟨n, [], by rw [List.append_nil]; rfl, rfl, fun _ h => by cases h⟩
  | d :: xs, n, acc => by
    obtain ⟨i, n1, hi, e1⟩ := tkE_ok (ρ := ρ0.set 9 (some d)) (S := S) (n := n) (k := 6) (h3 d) (by decide) (by decide)
    obtain ⟨w, ew, ow, lw⟩ := sign_at (S ++ [own n1]) i hi
    obtain ⟨n', ws, e2, l2, o2⟩ := cmp_sign h3 xs n1 (acc ++ [w])
    refine ⟨n', w :: ws, ?_, by rw [List.length_cons, List.length_cons, l2], fun y hy => (List.mem_cons.mp hy).elim (fun e => e ▸ ⟨ow, lw⟩) (o2 y)⟩
    have ee : elS (ρ0.set 9 (some d)) (S ++ [own n]) = .ok (sD w) (S ++ [own n1]) := op_ok c_ok e1 ew
    unfold cmpL
    rw [tg_nm]
    show ((elS (ρ0.set 9 (some d)) (S ++ [own n])).bindN fun y st2 => cmpL (.nm 9) tYesF elS ρ0 xs (acc.map sD ++ [y]) st2) = _
    rw [ee, bindN_ok]
    have : acc.map sD ++ [sD w] = (acc ++ [w]).map sD := by rw [List.map_append]; rfl
    rw [this, e2, List.append_assoc]; rfl
abbrev txtE : FE := fTM gJoin (fC (.str "")) (fPure (fLc (fRng rng1 (fCons (tkE 12) (fNil))) (.nm 9) (tYesF) elS))
theorem txtE_ok {ns : List Int} {S : So} {n : Int} {e t tx nu so ro ta k th : Option Dv} : ∃ n' T, txtE (slL ns e t (some (.ref S.length)) tx nu so ro ta k th) (S ++ [own n]) = .ok (sD T) (S ++ [own n']) ∧ okT T ∧ T.length ≤ 11 := by
  obtain ⟨i, n1, hi, e1⟩ := tkE_ok (ρ := slL ns e t (some (.ref S.length)) tx nu so ro ta k th) (S := S) (n := n) (k := 12) rfl (by decide) (by decide)
  have rg := rngN (z := (i : Int)) e1 (by omega) (by omega)
  rw [Int.toNat_natCast] at rg
  obtain ⟨n2, ws, e2, l2, o2⟩ := cmp_sign (S := S) (ρ0 := slL ns e t (some (.ref S.length)) tx nu so ro ta none th) (fun d => rfl) ((List.range i).map fun k => iD k) n1 []
  rw [List.length_map, List.length_range] at l2
  have lc : fLc (fRng rng1 (fCons (tkE 12) (fNil))) (.nm 9) (tYesF) elS (slL ns e t (some (.ref S.length)) tx nu so ro ta k th) (S ++ [own n]) = .ok (ws.map sD) (S ++ [own n2]) := by
    unfold fLc
    have rg' : fRng rng1 (fCons (tkE 12) fNil) (slL ns e t (some (.ref S.length)) tx nu so ro ta k th) (S ++ [own n]) = _ := rg
    rw [rg', bind_ok, List.length_map, List.length_range, if_pos (by omega), rhoW_one]
    exact e2
  have p := pure_to lc (by rw [List.length_map]; omega)
  rw [mkL_s] at p
  obtain ⟨j1, j2⟩ := join_ones o2
  have z : Str.length "" = 0 := by decide +kernel
  have sm : (ws.map (·.length)).sum + ws.length * Str.length "" ≤ 16777216 := by
    have : ∀ l : List Str, (∀ w ∈ l, okT w ∧ w.length = 1) → (l.map (·.length)).sum ≤ l.length := fun l => by
      induction l with
      | nil => intro _; exact Nat.le_refl _
      | cons x l ih =>
        intro hh
        rw [List.map_cons, List.sum_cons, List.length_cons, (hh x List.mem_cons_self).2]
        have := ih fun w hw => hh w (List.mem_cons_of_mem _ hw)
        omega
    have := this ws o2
    rw [z]
    omega
  have jn := tm_ok (a := "") c_ok p (gJoin_lw (st := S ++ [own n2]) sm)
  rw [FB.Tx.txt_join] at jn
  exact ⟨n2, _, jn, j1, by rw [j2]; omega⟩
/-! ### the things -/
abbrev so1 : FE := fPure (disp (fCons (fVar 4) (fCons (fVar 5) (fCons (fC .none) (fCons (fPure (disp (fCons (fVar 4) (fNil)))) (fCons (fTup (fCons (fVar 4) (fCons (fVar 5) (fNil)))) (fCons (fC (.str "")) (fCons (fC (.bool true)) (fCons (fC (.bool false)) (fCons (fPure (disp (fNil))) (fCons (fTup (fNil)) (fCons (fE0) (fCons (fDd1 (fVar 4) (fTup (fCons (fVar 5) (fNil)))) (fNil))))))))))))))
theorem so1_ok {ns : List Int} {S : So} {T : Str} {q : Nat} {e t d so ro ta k th : Option Dv} : so1 (slL ns e t d (some (sD T)) (some (iD q)) so ro ta k th) S = .ok (.p (.list (th1 T q))) S := by kernel_rfl
abbrev so2 : FE := fPure (disp (fCons (fOp gMulE (fVar 4) (fC (.int 60))) (fCons (fOp gAdd (fOp gAdd (fC (.str " ")) (fVar 4)) (fC (.str " "))) (fCons (fPure (disp (fCons (fPure (disp (fCons (fVar 4) (fCons (fC .none) (fNil))))) (fNil)))) (fCons (fOp gMulE (fC (.str "p")) (fC (.int 999))) (fNil))))))
theorem so2_ok {ρ : Sl} {S : So} {T : Str} (h4 : ρ[4]? = some (some (sD T))) (hl : T.length ≤ 11) : so2 ρ S = .ok (.p (.list (th2 T))) S := by
  have v : fVar 4 ρ S = .ok (sD T) S := var_ok h4
  have ls : Str.length " " = 1 := by decide +kernel
  have m1 := op_ok (g := gMulE) v (fb := fC (.int 60)) c_ok (mulE_ok (a := T) (k := 60) (by decide) (by decide) (by omega) S)
  have m2 := op_ok (g := gMulE) (fa := fC (.str "p")) (ρ := ρ) c_ok (fb := fC (.int 999)) c_ok (mulE_ok (a := "p") (k := 999) (by decide) (by decide) (by decide +kernel) S)
  have a1 := op_ok (g := gAdd) (fa := fC (.str " ")) c_ok v (add_s (a := " ") (b := T) (st := S) (by rw [ls]; omega))
  have a2 := op_ok (g := gAdd) a1 (fb := fC (.str " ")) c_ok (add_s (a := " " ++ T) (b := " ") (st := S) (by rw [Str.length_append, ls]; omega))
  have i1 : fPure (disp (fCons (fVar 4) (fCons (fC .none) (fNil)))) ρ S = .ok (.p (.list [.str T, .none])) S := pure_to (xs := [sD T, .p .none]) (disp_to (cons_ok v (cons_ok c_ok nil_ok)) (show 2 ≤ 100000 by decide)) (show 2 ≤ 100000 by decide)
  have i2 : fPure (disp (fCons (fPure (disp (fCons (fVar 4) (fCons (fC .none) (fNil))))) (fNil))) ρ S = .ok (.p (.list [.list [.str T, .none]])) S := pure_to (xs := [.p (.list [.str T, .none])]) (disp_to (cons_ok i1 nil_ok) (show 1 ≤ 100000 by decide)) (show 1 ≤ 100000 by decide)
  exact pure_to (xs := (th2 T).map Dv.p) (disp_to (cons_ok m1 (cons_ok a2 (cons_ok i2 (cons_ok m2 nil_ok)))) (show 4 ≤ 100000 by decide)) (show 4 ≤ 100000 by decide)
abbrev allE : FE := fCB gAll (fCons (fPure (fLcV (fVar 6) (.nm 10) (tYesF) (fCall d__law_locked_good (fCons (fVar 10) (fNil))))) (fNil))
theorem all_b (T : Str) (q : Nat) (S : So) : gAll [.p (.list ((th1 T q ++ th2 T).map fun _ => PyData.bool true))] S = some (.p (.bool true)) := by kernel_rfl
theorem allE_ok {ns : List Int} {S : So} {T : Str} {q : Nat} (hT : okT T) (hl : T.length ≤ 11) (hq : q < 99) {e t d tx nu ro ta k th : Option Dv} : allE (slL ns e t d tx nu (some (.p (.list (th1 T q ++ th2 T)))) ro ta k th) S = .ok (.p (.bool true)) S := by
  have l := lcV_all (fa := fVar 6) (tg := .nm 10) (fe := fCall d__law_locked_good (fCons (fVar 10) (fNil))) (ρ := slL ns e t d tx nu (some (.p (.list (th1 T q ++ th2 T)))) ro ta k th) (st := S) (xs := th1 T q ++ th2 T) (f := Dv.p) (slL ns e t d tx nu (some (.p (.list (th1 T q ++ th2 T)))) ro ta k none) (fun x => slL ns e t d tx nu (some (.p (.list (th1 T q ++ th2 T)))) ro ta k (some (.p x))) (fun _ => Dv.p (.bool true)) (var_ok rfl) (items_l _ S) (show 16 ≤ 100000 by decide) rhoW_one (fun x _ => tg_nm) (fun x hx => call_ok (cons_ok (var_ok rfl) nil_ok) (locked_ok (two_ok (things_F hT hl hq x hx)) S))
  exact cb_ok (cons_ok (pure_ok (g := fun _ => PyData.bool true) l (show 16 ≤ 100000 by decide)) nil_ok) (all_b T q S)
/-! ### the row, the table -/
theorem ne_row {S : So} {c : Nat} {T : Str} {q : Nat} (hs : PyData.strOk T = true) (h : S[c]? = some (.lst [sD T, iD q])) : gNe (.ref c) (.p (.list [.str T, .int (q : Int)])) S = some (.p (.bool false)) := by
  have d1 : datOf (.ref c) S = some (.list [.str T, .int (q : Int)]) := by
    show (match S[c]? with
      | some (.lst xs) => (pures xs).map PyData.list
      | _ => none) = _
    rw [h]; rfl
  have sh : SeqAt.shaped (.list [.str T, .int (q : Int)]) = true := by simp [SeqAt.shaped, PyData.canLay0, PyData.canLayAll0, PyData.depth, PyData.depthAll, hs]
  have ev : PyData.eqv (.list [.str T, .int (q : Int)]) (.list [.str T, .int (q : Int)]) = true := by simp [PyData.eqv, PyData.eqvAll]
  have : eqD (.ref c) (.p (.list [.str T, .int (q : Int)])) S = some true := by
    show (match datOf (.ref c) S, datOf (.p (.list [.str T, .int (q : Int)])) S with
      | some a, some b => if SeqAt.shaped a && SeqAt.shaped b then some (PyData.eqv a b) else none
      | _, _ => none) = _
    rw [d1]
    show (if SeqAt.shaped (.list [.str T, .int (q : Int)]) && SeqAt.shaped (.list [.str T, .int (q : Int)]) then some (PyData.eqv (.list [.str T, .int (q : Int)]) (.list [.str T, .int (q : Int)])) else none) = _
    rw [sh, ev]; rfl
  unfold gNe
  rw [this]; rfl
abbrev retF : FS := sRet (fC (.bool false))
abbrev ifRow : FS := sIf (fTOr (fTB (fOp gNe (fAtt "Locked" "word" (fVar 1)) (fPure (disp (fCons (fVar 4) (fCons (fVar 5) (fNil))))))) (fTNot (fTB (fCall d__law_all_good (fCons (fCall d__law_told (fCons (fVar 4) (fNil))) (fNil)))))) retF (sNext)
theorem told_good {fa : FE} {ρ : Sl} {S : So} {d : Dv} (h : fa ρ S = .ok d S) : fTNot (fTB (fCall d__law_all_good (fCons (fCall d__law_told (fCons fa (fNil))) (fNil)))) ρ S = .ok false S :=
  not_t (tb_ok (call_ok (F := d__law_all_good) (cons_ok (call_ok (F := d__law_told) (cons_ok h nil_ok) (told_ok d S)) nil_ok) (all_good_ok S)))
theorem ifRow_ok {ns : List Int} {S : So} {c : Nat} {T : Str} {q : Nat} (hs : PyData.strOk T = true) (h : S[c]? = some (.lst [sD T, iD q])) {t d so ro ta k th : Option Dv} : ifRow (slL ns (some (xaD (.ref c))) t d (some (sD T)) (some (iD q)) so ro ta k th) S = .nx (slL ns (some (xaD (.ref c))) t d (some (sD T)) (some (iD q)) so ro ta k th) S := by
  have v1 : fVar 1 (slL ns (some (xaD (.ref c))) t d (some (sD T)) (some (iD q)) so ro ta k th) S = .ok (xaD (.ref c)) S := var_ok rfl
  have v4 : fVar 4 (slL ns (some (xaD (.ref c))) t d (some (sD T)) (some (iD q)) so ro ta k th) S = .ok (sD T) S := var_ok rfl
  have v5 : fVar 5 (slL ns (some (xaD (.ref c))) t d (some (sD T)) (some (iD q)) so ro ta k th) S = .ok (iD q) S := var_ok rfl
  have i1 : fPure (disp (fCons (fVar 4) (fCons (fVar 5) (fNil)))) (slL ns (some (xaD (.ref c))) t d (some (sD T)) (some (iD q)) so ro ta k th) S = .ok (.p (.list [.str T, .int (q : Int)])) S := pure_to (xs := [sD T, iD q]) (disp_to (cons_ok v4 (cons_ok v5 nil_ok)) (show 2 ≤ 100000 by decide)) (show 2 ≤ 100000 by decide)
  exact if_next (or_ff (tb_ok (op_ok (g := gNe) (att_ok v1) i1 (ne_row hs h))) (told_good v4))
abbrev setM : FS := sSetK (fC (.int 1)) (fVar 8) (fC (.str "more"))
abbrev ifTab : FS := sIf (fTB (fOp gNeD (fAtt "Locked" "word" (fVar 1)) (fVar 8))) retF (sNext)
theorem setM_ok {ρ : Sl} {S : So} {T : Str} {q : Nat} {i : Nat} (h8 : ρ[8]? = some (some (.ref i))) (hS : S[i]? = some (.dK [(.inr T, iD q)])) (hT : T ≠ "more") : setM ρ S = .nx ρ (S.set i (.dK [(.inr T, iD q), (.inr "more", zD 1)])) := by
  have d1 : dictOf (.ref i) S = some (i, [(.inr T, iD q)]) := by
    show (match S[i]? with
      | some (.dK kvs) => some (i, kvs)
      | _ => none) = _
    rw [hS]
  have p1 : putD [(Sum.inr T, iD q)] (Sum.inr "more") (zD 1) = [(.inr T, iD q), (.inr "more", zD 1)] := by
    unfold putD
    rw [if_neg]
    · rfl
    · simp [hT]
  show ((fC (.int 1) ρ S).st ρ fun d st1 => ((fVar 8 ρ st1).bind fun x st2 => (fC (.str "more") ρ st2).bind fun y st3 => match dictOf x st3, keyD y with
    | some (i, kvs), some k => if kvs.length ≤ 100000 then .ok () (st3.set i (.dK (putD kvs k d))) else .stuck
    | _, _ => .stuck).st ρ fun _ st2 => .nx ρ st2) = _
  rw [c_ok, FB.st_ok, var_ok h8, bind_ok, c_ok, bind_ok, d1]
  show (Rs.st (if ([(Sum.inr T, iD q)] : List (Key × Dv)).length ≤ 100000 then .ok () (S.set i (.dK (putD [(Sum.inr T, iD q)] (Sum.inr "more") (zD 1)))) else .stuck) ρ fun _ st2 => .nx ρ st2) = _
  rw [if_pos (show ([(Sum.inr T, iD q)] : List (Key × Dv)).length ≤ 100000 by show 1 ≤ 100000; decide), p1]; rfl
theorem neD_ok {S : So} {T : Str} {q i : Nat} (hS : S[i]? = some (.dK [(.inr T, iD q), (.inr "more", zD 1)])) (hT : T ≠ "more") : gNeD (.ref i) (.ref i) S = some (.p (.bool false)) := by
  unfold gNeD
  dsimp only
  rw [if_pos rfl, hS]
  show (if (Sum.inr T : Key) = (Sum.inr ("more" : Str) : Key) then none else some (Dv.p (.bool false))) = _
  rw [if_neg (fun e => hT (Sum.inr.inj e))]
end FB.K04
set_option Elab.async false
set_option linter.all false
set_option maxRecDepth 100000
set_option maxHeartbeats 4000000
/-! V04g: the turns, the law. -/
namespace FB.K04
open PySem PySem.Spec PyProof.Rows L2 RZ FB FB.Fit
theorem sgs_uni : ∀ c ∈ sgs, c < 0x110000 := by decide +kernel
theorem okT.u {x : Str} (h : okT x) : PyData.strOk x = true := by
  unfold PyData.strOk
  rw [← Array.all_toList, List.all_eq_true]
  exact fun c hc => decide_eq_true (sgs_uni c (h c hc))
abbrev rowE : FE := fCell (disp (fCons (fVar 4) (fNil)))
abbrev bodyT : FS := sSeq (sAsg (cellE (fVar 2)) (.nm 3)) (sSeq (sAsg txtE (.nm 4)) (sSeq (sAsg (tkE 99) (.nm 5)) (sSeq (sAsg so1 (.nm 6)) (sSeq (sAsg (fOp gAdd (fVar 6) so2) (.nm 6)) (sSeq (sIf (fTNot (fTB allE)) retF (sNext)) (sSeq (sAsg rowE (.nm 7)) (sSeq (sAsg (fNewA "Locked" "word" (fVar 7)) (.nm 1)) (sSeq (sDrop (fMth gAppend (fVar 7) (fCons (fVar 5) (fNil)))) (sSeq ifRow (sSeq (sAsg (fDc1 (fVar 4) (fVar 5)) (.nm 8)) (sSeq (sAsg (fNewA "Locked" "word" (fVar 8)) (.nm 1)) (sSeq setM ifTab))))))))))))
theorem bodyT_ok {ns : List Int} {S : So} {t : Nat} (ht : t < 1000) {e d tx nu so ro ta k th : Option Dv} :
    ∃ S' e' d' tx' nu' so' ro' ta', bodyT (slL ns e (some (iD t)) d tx nu so ro ta k th) S = .nx (slL ns e' (some (iD t)) d' tx' nu' so' ro' ta' k th) S' := by
  obtain ⟨z, hv⟩ := cell_ok ns t S ht
  have c1 : fCons (fCall d__law_cell (fCons (fVar 0) (fCons (fVar 2) (fNil)))) (fNil) (slL ns e (some (iD t)) d tx nu so ro ta k th) S = .ok [zD z] S := cons_ok (call_ok (cons_ok (var_ok rfl) (cons_ok (var_ok rfl) nil_ok)) hv) nil_ok
  have e1 : cellE (fVar 2) (slL ns e (some (iD t)) d tx nu so ro ta k th) S = .ok (.ref S.length) (S ++ [own z]) := cell_to (disp_to c1 (show 1 ≤ 100000 by decide)) (show 1 ≤ 100000 by decide)
  have t1 := asg_to (i := 3) e1 (ρ' := slL ns e (some (iD t)) (some (.ref S.length)) tx nu so ro ta k th) rfl
  obtain ⟨n1, T, e2, hT, lT⟩ := txtE_ok (ns := ns) (S := S) (n := z) (e := e) (t := some (iD t)) (tx := tx) (nu := nu) (so := so) (ro := ro) (ta := ta) (k := k) (th := th)
  have t2 := asg_to (i := 4) e2 (ρ' := slL ns e (some (iD t)) (some (.ref S.length)) (some (sD T)) nu so ro ta k th) rfl
  obtain ⟨q, n2, hq, e3⟩ := tkE_ok (ρ := slL ns e (some (iD t)) (some (.ref S.length)) (some (sD T)) nu so ro ta k th) (S := S) (n := n1) (k := 99) rfl (by decide) (by decide)
  have t3 := asg_to (i := 5) e3 (ρ' := slL ns e (some (iD t)) (some (.ref S.length)) (some (sD T)) (some (iD q)) so ro ta k th) rfl
  generalize hS1 : S ++ [own n2] = S1 at t3
  have t4 := asg_to (i := 6) (so1_ok (ns := ns) (S := S1) (T := T) (q := q) (e := e) (t := some (iD t)) (d := some (.ref S.length)) (so := so) (ro := ro) (ta := ta) (k := k) (th := th)) (ρ' := slL ns e (some (iD t)) (some (.ref S.length)) (some (sD T)) (some (iD q)) (some (.p (.list (th1 T q)))) ro ta k th) rfl
  have e5 := op_ok (g := gAdd) (fa := fVar 6) (ρ := slL ns e (some (iD t)) (some (.ref S.length)) (some (sD T)) (some (iD q)) (some (.p (.list (th1 T q)))) ro ta k th) (st := S1) (var_ok rfl) (so2_ok rfl lT) (gAdd_l (xs := th1 T q) (ys := th2 T) (show 16 ≤ 100000 by decide))
  have t5 := asg_to (i := 6) e5 (ρ' := slL ns e (some (iD t)) (some (.ref S.length)) (some (sD T)) (some (iD q)) (some (.p (.list (th1 T q ++ th2 T)))) ro ta k th) rfl
  have t6 := if_next (ga := retF) (not_t (tb_ok (allE_ok (ns := ns) (S := S1) hT lT hq (e := e) (t := some (iD t)) (d := some (.ref S.length)) (tx := some (sD T)) (nu := some (iD q)) (ro := ro) (ta := ta) (k := k) (th := th))))
  generalize some (Dv.p (.list (th1 T q ++ th2 T))) = so' at t5 t6
  have c7 : fCons (fVar 4) (fNil) (slL ns e (some (iD t)) (some (.ref S.length)) (some (sD T)) (some (iD q)) so' ro ta k th) S1 = .ok [sD T] S1 := cons_ok (var_ok rfl) nil_ok
  have e7 : rowE (slL ns e (some (iD t)) (some (.ref S.length)) (some (sD T)) (some (iD q)) so' ro ta k th) S1 = .ok (.ref S1.length) (S1 ++ [.lst [sD T]]) := cell_to (disp_to c7 (show 1 ≤ 100000 by decide)) (show 1 ≤ 100000 by decide)
  have t7 := asg_to (i := 7) e7 (ρ' := slL ns e (some (iD t)) (some (.ref S.length)) (some (sD T)) (some (iD q)) so' (some (.ref S1.length)) ta k th) rfl
  have t8 := asg_to (i := 1) (newA_ok (fa := fVar 7) (ρ := slL ns e (some (iD t)) (some (.ref S.length)) (some (sD T)) (some (iD q)) so' (some (.ref S1.length)) ta k th) (st := S1 ++ [.lst [sD T]]) (var_ok rfl)) (ρ' := slL ns (some (xaD (.ref S1.length))) (some (iD t)) (some (.ref S.length)) (some (sD T)) (some (iD q)) so' (some (.ref S1.length)) ta k th) rfl
  have a9 := app_g (d := iD q) (at_last S1 (.lst [sD T])) (show 1 < 100000 by decide)
  rw [set_end] at a9
  have t9 := drop_to (mth_ok (g := gAppend) (fo := fVar 7) (fr := fCons (fVar 5) (fNil)) (ρ := slL ns (some (xaD (.ref S1.length))) (some (iD t)) (some (.ref S.length)) (some (sD T)) (some (iD q)) so' (some (.ref S1.length)) ta k th) (var_ok rfl) (isLst_CS (at_last S1 (.lst [sD T]))) (cons_ok (var_ok rfl) nil_ok) a9)
  have t10 := ifRow_ok (ns := ns) (S := S1 ++ [.lst ([sD T] ++ [iD q])]) (c := S1.length) (T := T) (q := q) hT.u (at_last S1 (.lst ([sD T] ++ [iD q]))) (t := some (iD t)) (d := some (.ref S.length)) (so := so') (ro := some (.ref S1.length)) (ta := ta) (k := k) (th := th)
  generalize hS2 : S1 ++ [Cl.lst ([sD T] ++ [iD q])] = S2 at t9 t10
  have e11 : fDc1 (fVar 4) (fVar 5) (slL ns (some (xaD (.ref S1.length))) (some (iD t)) (some (.ref S.length)) (some (sD T)) (some (iD q)) so' (some (.ref S1.length)) ta k th) S2 = .ok (.ref S2.length) (S2 ++ [.dK [(.inr T, iD q)]]) := rfl
  have t11 := asg_to (i := 8) e11 (ρ' := slL ns (some (xaD (.ref S1.length))) (some (iD t)) (some (.ref S.length)) (some (sD T)) (some (iD q)) so' (some (.ref S1.length)) (some (.ref S2.length)) k th) rfl
  have t12 := asg_to (i := 1) (newA_ok (fa := fVar 8) (ρ := slL ns (some (xaD (.ref S1.length))) (some (iD t)) (some (.ref S.length)) (some (sD T)) (some (iD q)) so' (some (.ref S1.length)) (some (.ref S2.length)) k th) (st := S2 ++ [.dK [(.inr T, iD q)]]) (var_ok rfl)) (ρ' := slL ns (some (xaD (.ref S2.length))) (some (iD t)) (some (.ref S.length)) (some (sD T)) (some (iD q)) so' (some (.ref S1.length)) (some (.ref S2.length)) k th) rfl
  have t13 := setM_ok (ρ := slL ns (some (xaD (.ref S2.length))) (some (iD t)) (some (.ref S.length)) (some (sD T)) (some (iD q)) so' (some (.ref S1.length)) (some (.ref S2.length)) k th) rfl (at_last S2 (.dK [(.inr T, iD q)])) (okT_more hT)
  rw [set_end] at t13
  have t14 := if_next (ga := retF) (tb_ok (op_ok (g := gNeD) (att_ok (fa := fVar 1) (ρ := slL ns (some (xaD (.ref S2.length))) (some (iD t)) (some (.ref S.length)) (some (sD T)) (some (iD q)) so' (some (.ref S1.length)) (some (.ref S2.length)) k th) (st := S2 ++ [.dK [(.inr T, iD q), (.inr "more", zD 1)]]) (var_ok rfl)) (fb := fVar 8) (var_ok rfl) (neD_ok (at_last S2 (.dK [(.inr T, iD q), (.inr "more", zD 1)])) (okT_more hT))))
  exact ⟨_, _, _, _, _, _, _, _, (seq_to t1).trans ((seq_to t2).trans ((seq_to t3).trans ((seq_to t4).trans ((seq_to t5).trans ((seq_to t6).trans ((seq_to t7).trans ((seq_to t8).trans ((seq_to t9).trans ((seq_to t10).trans ((seq_to t11).trans ((seq_to t12).trans ((seq_to t13).trans t14))))))))))))⟩
theorem loopT {ns : List Int} : ∀ (ts : List Nat) (S : So) (e t d tx nu so ro ta k th : Option Dv), (∀ t ∈ ts, t < 1000) →
    ∃ S' e' t' d' tx' nu' so' ro' ta', sForL (.nm 2) bodyT (ts.map fun k => iD k) (slL ns e t d tx nu so ro ta k th) S = .nx (slL ns e' t' d' tx' nu' so' ro' ta' k th) S'
  | [], S, e, t, d, tx, nu, so, ro, ta, k, th, _ => ⟨S, e, t, d, tx, nu, so, ro, ta, rfl⟩
  | q :: ts, S, e, t, d, tx, nu, so, ro, ta, k, th, h => by
    obtain ⟨S1, e1, d1, tx1, nu1, so1, ro1, ta1, h1⟩ := bodyT_ok (ns := ns) (S := S) (h q List.mem_cons_self) (e := e) (d := d) (tx := tx) (nu := nu) (so := so) (ro := ro) (ta := ta) (k := k) (th := th)
    obtain ⟨S', e', t', d', tx', nu', so', ro', ta', h2⟩ := loopT (ns := ns) ts S1 e1 (some (iD q)) d1 tx1 nu1 so1 ro1 ta1 k th fun x hx => h x (List.mem_cons_of_mem _ hx)
    exact ⟨S', e', t', d', tx', nu', so', ro', ta', (forL_next (ρ1 := slL ns e (some (iD q)) d tx nu so ro ta k th) (tg_nm.trans rfl) h1).trans h2⟩
/-! ### the law -/
abbrev fbD : Dv := exD "FrontBackError"
abbrev ifA : FS := sIf (fTOr (fTNot (fTB (fCall d__law_all_good (fCons (fCall d__law_plain fNil) (fNil))))) (fTNot (fTB (fCall d__law_all_good (fCons (fCall d__law_told (fCons (fC (.str "a message")) (fNil))) (fNil)))))) retF (sNext)
abbrev ifB : FS := sIf (fTB (fOp gIsNot (fAtt "Locked" "word" (fNewA0 "Locked" "word")) (fC .none))) retF (sNext)
abbrev bodyF : FS := sIf (fTOr (fTNot (fTB (fIsA (tsL ti_ValueError) (fVar 1)))) (fTB (fOp gIn (fC (.bool true)) (fCall d__law_kinds (fCons (fVar 1) (fNil)))))) retF (sNext)
abbrev lstF : FE := fPure (disp (fCons (fNew0 "FrontBackError") (fCons (fNew1 "FrontBackError" (fC (.str "a message"))) (fNil))))
theorem lstF_ok (ρ : Sl) (S : So) : lstF ρ S = .ok (.lstD [fbD, fbD]) S := by kernel_rfl
theorem ve_fb : tstA (tsL ti_ValueError) fbD = some true := by kernel_rfl
theorem in_fb (S : So) : gIn (.p (.bool true)) (.p (.list (kb 16))) S = some (.p (.bool false)) := by kernel_rfl
theorem bodyF_ok {ns : List Int} {S : So} {t d tx nu so ro ta k th : Option Dv} : bodyF (slL ns (some fbD) t d tx nu so ro ta k th) S = .nx (slL ns (some fbD) t d tx nu so ro ta k th) S := by
  have v1 : fVar 1 (slL ns (some fbD) t d tx nu so ro ta k th) S = .ok fbD S := var_ok rfl
  exact if_next (or_ff (not_t (tb_ok (isA_ok (l := ti_ValueError) v1 ve_fb))) (tb_ok (op_ok (g := gIn) c_ok (call_ok (F := d__law_kinds) (cons_ok v1 nil_ok) (kinds_fb S)) (in_fb S))))
theorem law_true (ns : List Int) (h : ns.length ≤ 63) : ∃ st', d_law [.frz ns] [] = .ok (.p (.bool true)) st' := by
  have p1 := not_t (tb_ok (call_ok (F := d__law_all_good) (fr := fCons (fCall d__law_plain fNil) (fNil)) (ρ := slL ns none none none none none none none none none none) (st := []) (cons_ok (call_ok (F := d__law_plain) nil_ok (plain_ok [])) nil_ok) (all_good_ok [])))
  have t1 : ifA (slL ns none none none none none none none none none none) [] = .nx (slL ns none none none none none none none none none none) [] := if_next (or_ff p1 (told_good (fa := fC (.str "a message")) c_ok))
  have t2 : ifB (slL ns none none none none none none none none none none) [] = .nx (slL ns none none none none none none none none none none) [] := if_next (tb_ok (op_ok (g := gIsNot) (x := .p .none) (fb := fC .none) (z := .p (.bool false)) rfl c_ok rfl))
  have b := bodyF_ok (ns := ns) (S := []) (t := none) (d := none) (tx := none) (nu := none) (so := none) (ro := none) (ta := none) (k := none) (th := none)
  have l3 : sForL (.nm 1) bodyF [fbD, fbD] (slL ns none none none none none none none none none none) [] = .nx (slL ns (some fbD) none none none none none none none none none) [] :=
    (forL_next (ρ1 := slL ns (some fbD) none none none none none none none none none) (tg_nm.trans rfl) b).trans ((forL_next (ρ1 := slL ns (some fbD) none none none none none none none none none) (tg_nm.trans rfl) b).trans rfl)
  have t3 : sForV lstF (.nm 1) bodyF (slL ns none none none none none none none none none none) [] = .nx (slL ns (some fbD) none none none none none none none none none) [] := (ev_forV (lstF_ok _ _) rfl).trans l3
  obtain ⟨q, hq, hr⟩ := turns_ok ns h (slL ns (some fbD) none none none none none none none none none) [] rfl
  obtain ⟨S, e, t, d, tx, nu, so, ro, ta, lp⟩ := loopT (ns := ns) (List.range q) [] (some fbD) none none none none none none none none none fun x hx => by have := List.mem_range.mp hx; omega
  have t4 : sFor (fRng rng1 (fCons (fCB gMax (fCons (fCB gMin (fCons (fCB gLen (fCons (fVar 0) (fNil))) (fCons (fC (.int 3)) (fNil)))) (fCons (fC (.int 1)) (fNil)))) (fNil))) (.nm 2) bodyT (slL ns (some fbD) none none none none none none none none none) [] = .nx (slL ns e t d tx nu so ro ta none none) S := by
    rw [ev_for, hr, FB.st_ok, lp]
  have fin : fNot (fIsVE false (fC (.str "x"))) (slL ns e t d tx nu so ro ta none none) S = .ok (.p (.bool true)) S := rfl
  exact ⟨_, runD_ret (N := 11) (body := m_law) (args := [.frz ns]) ((seq_to t1).trans ((seq_to t2).trans ((seq_to t3).trans ((seq_to t4).trans (ret_to fin)))))⟩
end FB.K04
set_option Elab.async false
set_option linter.all false
set_option maxRecDepth 100000
set_option maxHeartbeats 0
namespace FB.K04
open PySem PySem.Spec PyProof.Rows L2 RZ FB
/-! ### the head: facts by names, the run -/
def dd__law_mixed : He.DefD := ⟨("_law_mixed", none), "_law_mixed", "_law_mixed", defArgs s__law_mixed, defBody s__law_mixed, defScope s__law_mixed, [], []⟩
def dd__law_cell : He.DefD := ⟨("_law_cell", none), "_law_cell", "_law_cell", defArgs s__law_cell, defBody s__law_cell, defScope s__law_cell, [], []⟩
def dd__law_take : He.DefD := ⟨("_law_take", none), "_law_take", "_law_take", defArgs s__law_take, defBody s__law_take, defScope s__law_take, [], []⟩
def dd__law_kinds : He.DefD := ⟨("_law_kinds", none), "_law_kinds", "_law_kinds", defArgs s__law_kinds, defBody s__law_kinds, defScope s__law_kinds, [], []⟩
def dd__law_plain : He.DefD := ⟨("_law_plain", none), "_law_plain", "_law_plain", defArgs s__law_plain, defBody s__law_plain, defScope s__law_plain, [], []⟩
def dd__law_told : He.DefD := ⟨("_law_told", none), "_law_told", "_law_told", defArgs s__law_told, defBody s__law_told, defScope s__law_told, [], []⟩
def dd__law_all_good : He.DefD := ⟨("_law_all_good", none), "_law_all_good", "_law_all_good", defArgs s__law_all_good, defBody s__law_all_good, defScope s__law_all_good, [], []⟩
def dd__law_locked_good : He.DefD := ⟨("_law_locked_good", none), "_law_locked_good", "_law_locked_good", defArgs s__law_locked_good, defBody s__law_locked_good, defScope s__law_locked_good, [], []⟩
def dd_law : He.DefD := ⟨("law", none), "law", "law", defArgs s_law, defBody s_law, defScope s_law, [], []⟩
def dd_Locked : He.DefD := ⟨("Locked", some "__init__"), "__init__", "Locked.__init__", defArgs s_Locked, defBody s_Locked, defScope s_Locked, [.non], []⟩
def fnL : List He.DefD := [dd__law_mixed, dd__law_cell, dd__law_take, dd__law_kinds, dd__law_plain, dd__law_told, dd__law_all_good, dd__law_locked_good, dd_law, dd_Locked]
def faL : List He.Fa := [.glo "_law_mixed", .glo "_law_cell", .glo "_law_take", .glo "_law_kinds", .glo "_law_plain", .glo "_law_told", .glo "_law_all_good", .glo "_law_locked_good", .glo "law", .free "ArithmeticError", .free "AttributeError", .free "LookupError", .free "RuntimeError", .free "TypeError", .free "ValueError", .free "all", .free "int", .free "isinstance", .free "len", .free "max", .free "min", .free "range", .free "str", .glo "FrontBackError", .exc "FrontBackError", .glo "InvalidFences", .exc "InvalidFences", .glo "InvalidMeaning", .exc "InvalidMeaning", .glo "InvalidNames", .exc "InvalidNames", .glo "InvalidNumber", .exc "InvalidNumber", .glo "InvalidOperation", .exc "InvalidOperation", .glo "InvalidProgram", .exc "InvalidProgram", .glo "InvalidResults", .exc "InvalidResults", .glo "InvalidRow", .exc "InvalidRow", .glo "InvalidRows", .exc "InvalidRows", .glo "InvalidText", .exc "InvalidText", .glo "InvalidWord", .exc "InvalidWord", .glo "NoProgram", .exc "NoProgram", .glo "NoSource", .exc "NoSource", .glo "NothingToUndo", .exc "NothingToUndo", .glo "TooLarge", .exc "TooLarge", .glo "Locked"]
abbrev R : PySem.W.OpenRow := PySem.W.OpenLaw.row PySem.Challenge.rw_frontback_k04_errors_created
def exL : List (PySem.W.Frag → Bool) := [excCB "FrontBackError", excCB "InvalidFences", excCB "InvalidMeaning", excCB "InvalidNames", excCB "InvalidNumber", excCB "InvalidOperation", excCB "InvalidProgram", excCB "InvalidResults", excCB "InvalidRow", excCB "InvalidRows", excCB "InvalidText", excCB "InvalidWord", excCB "Locked", excCB "NoProgram", excCB "NoSource", excCB "NothingToUndo", excCB "TooLarge", kitXB "FrontBackError" "FrontBackError" true, kitXB "InvalidFences" "FrontBackError" true, kitXB "InvalidMeaning" "FrontBackError" true, kitXB "InvalidNames" "FrontBackError" true, kitXB "InvalidNumber" "FrontBackError" true, kitXB "InvalidOperation" "FrontBackError" true, kitXB "InvalidProgram" "FrontBackError" true, kitXB "InvalidResults" "FrontBackError" true, kitXB "InvalidRow" "FrontBackError" true, kitXB "InvalidRows" "FrontBackError" true, kitXB "InvalidText" "FrontBackError" true, kitXB "InvalidWord" "FrontBackError" true, kitXB "Locked" "FrontBackError" true, kitXB "NoProgram" "FrontBackError" true, kitXB "NoSource" "FrontBackError" true, kitXB "NothingToUndo" "FrontBackError" true, kitXB "TooLarge" "FrontBackError" true, kitXB "FrontBackError" "InvalidFences" false, kitXB "InvalidFences" "InvalidFences" true, kitXB "InvalidMeaning" "InvalidFences" false, kitXB "InvalidNames" "InvalidFences" false, kitXB "InvalidNumber" "InvalidFences" false, kitXB "InvalidOperation" "InvalidFences" false, kitXB "InvalidProgram" "InvalidFences" false, kitXB "InvalidResults" "InvalidFences" false, kitXB "InvalidRow" "InvalidFences" false, kitXB "InvalidRows" "InvalidFences" false, kitXB "InvalidText" "InvalidFences" false, kitXB "InvalidWord" "InvalidFences" false, kitXB "Locked" "InvalidFences" false, kitXB "NoProgram" "InvalidFences" false, kitXB "NoSource" "InvalidFences" false, kitXB "NothingToUndo" "InvalidFences" false, kitXB "TooLarge" "InvalidFences" false, kitXB "FrontBackError" "InvalidMeaning" false, kitXB "InvalidFences" "InvalidMeaning" false, kitXB "InvalidMeaning" "InvalidMeaning" true, kitXB "InvalidNames" "InvalidMeaning" false, kitXB "InvalidNumber" "InvalidMeaning" false, kitXB "InvalidOperation" "InvalidMeaning" false, kitXB "InvalidProgram" "InvalidMeaning" false, kitXB "InvalidResults" "InvalidMeaning" false, kitXB "InvalidRow" "InvalidMeaning" false, kitXB "InvalidRows" "InvalidMeaning" false, kitXB "InvalidText" "InvalidMeaning" false, kitXB "InvalidWord" "InvalidMeaning" false, kitXB "Locked" "InvalidMeaning" false, kitXB "NoProgram" "InvalidMeaning" false, kitXB "NoSource" "InvalidMeaning" false, kitXB "NothingToUndo" "InvalidMeaning" false, kitXB "TooLarge" "InvalidMeaning" false, kitXB "FrontBackError" "InvalidNames" false, kitXB "InvalidFences" "InvalidNames" false, kitXB "InvalidMeaning" "InvalidNames" false, kitXB "InvalidNames" "InvalidNames" true, kitXB "InvalidNumber" "InvalidNames" false, kitXB "InvalidOperation" "InvalidNames" false, kitXB "InvalidProgram" "InvalidNames" false, kitXB "InvalidResults" "InvalidNames" false, kitXB "InvalidRow" "InvalidNames" false, kitXB "InvalidRows" "InvalidNames" false, kitXB "InvalidText" "InvalidNames" false, kitXB "InvalidWord" "InvalidNames" false, kitXB "Locked" "InvalidNames" false, kitXB "NoProgram" "InvalidNames" false, kitXB "NoSource" "InvalidNames" false, kitXB "NothingToUndo" "InvalidNames" false, kitXB "TooLarge" "InvalidNames" false, kitXB "FrontBackError" "InvalidNumber" false, kitXB "InvalidFences" "InvalidNumber" false, kitXB "InvalidMeaning" "InvalidNumber" false, kitXB "InvalidNames" "InvalidNumber" false, kitXB "InvalidNumber" "InvalidNumber" true, kitXB "InvalidOperation" "InvalidNumber" false, kitXB "InvalidProgram" "InvalidNumber" false, kitXB "InvalidResults" "InvalidNumber" false, kitXB "InvalidRow" "InvalidNumber" false, kitXB "InvalidRows" "InvalidNumber" false, kitXB "InvalidText" "InvalidNumber" false, kitXB "InvalidWord" "InvalidNumber" false, kitXB "Locked" "InvalidNumber" false, kitXB "NoProgram" "InvalidNumber" false, kitXB "NoSource" "InvalidNumber" false, kitXB "NothingToUndo" "InvalidNumber" false, kitXB "TooLarge" "InvalidNumber" false, kitXB "FrontBackError" "InvalidOperation" false, kitXB "InvalidFences" "InvalidOperation" false, kitXB "InvalidMeaning" "InvalidOperation" false, kitXB "InvalidNames" "InvalidOperation" false, kitXB "InvalidNumber" "InvalidOperation" false, kitXB "InvalidOperation" "InvalidOperation" true, kitXB "InvalidProgram" "InvalidOperation" false, kitXB "InvalidResults" "InvalidOperation" false, kitXB "InvalidRow" "InvalidOperation" false, kitXB "InvalidRows" "InvalidOperation" false, kitXB "InvalidText" "InvalidOperation" false, kitXB "InvalidWord" "InvalidOperation" false, kitXB "Locked" "InvalidOperation" false, kitXB "NoProgram" "InvalidOperation" false, kitXB "NoSource" "InvalidOperation" false, kitXB "NothingToUndo" "InvalidOperation" false, kitXB "TooLarge" "InvalidOperation" false, kitXB "FrontBackError" "InvalidProgram" false, kitXB "InvalidFences" "InvalidProgram" false, kitXB "InvalidMeaning" "InvalidProgram" false, kitXB "InvalidNames" "InvalidProgram" false, kitXB "InvalidNumber" "InvalidProgram" false, kitXB "InvalidOperation" "InvalidProgram" false, kitXB "InvalidProgram" "InvalidProgram" true, kitXB "InvalidResults" "InvalidProgram" false, kitXB "InvalidRow" "InvalidProgram" false, kitXB "InvalidRows" "InvalidProgram" false, kitXB "InvalidText" "InvalidProgram" false, kitXB "InvalidWord" "InvalidProgram" false, kitXB "Locked" "InvalidProgram" false, kitXB "NoProgram" "InvalidProgram" false, kitXB "NoSource" "InvalidProgram" false, kitXB "NothingToUndo" "InvalidProgram" false, kitXB "TooLarge" "InvalidProgram" false, kitXB "FrontBackError" "InvalidResults" false, kitXB "InvalidFences" "InvalidResults" false, kitXB "InvalidMeaning" "InvalidResults" false, kitXB "InvalidNames" "InvalidResults" false, kitXB "InvalidNumber" "InvalidResults" false, kitXB "InvalidOperation" "InvalidResults" false, kitXB "InvalidProgram" "InvalidResults" false, kitXB "InvalidResults" "InvalidResults" true, kitXB "InvalidRow" "InvalidResults" false, kitXB "InvalidRows" "InvalidResults" false, kitXB "InvalidText" "InvalidResults" false, kitXB "InvalidWord" "InvalidResults" false, kitXB "Locked" "InvalidResults" false, kitXB "NoProgram" "InvalidResults" false, kitXB "NoSource" "InvalidResults" false, kitXB "NothingToUndo" "InvalidResults" false, kitXB "TooLarge" "InvalidResults" false, kitXB "FrontBackError" "InvalidRow" false, kitXB "InvalidFences" "InvalidRow" false, kitXB "InvalidMeaning" "InvalidRow" false, kitXB "InvalidNames" "InvalidRow" false, kitXB "InvalidNumber" "InvalidRow" false, kitXB "InvalidOperation" "InvalidRow" false, kitXB "InvalidProgram" "InvalidRow" false, kitXB "InvalidResults" "InvalidRow" false, kitXB "InvalidRow" "InvalidRow" true, kitXB "InvalidRows" "InvalidRow" false, kitXB "InvalidText" "InvalidRow" false, kitXB "InvalidWord" "InvalidRow" false, kitXB "Locked" "InvalidRow" false, kitXB "NoProgram" "InvalidRow" false, kitXB "NoSource" "InvalidRow" false, kitXB "NothingToUndo" "InvalidRow" false, kitXB "TooLarge" "InvalidRow" false, kitXB "FrontBackError" "InvalidRows" false, kitXB "InvalidFences" "InvalidRows" false, kitXB "InvalidMeaning" "InvalidRows" false, kitXB "InvalidNames" "InvalidRows" false, kitXB "InvalidNumber" "InvalidRows" false, kitXB "InvalidOperation" "InvalidRows" false, kitXB "InvalidProgram" "InvalidRows" false, kitXB "InvalidResults" "InvalidRows" false, kitXB "InvalidRow" "InvalidRows" false, kitXB "InvalidRows" "InvalidRows" true, kitXB "InvalidText" "InvalidRows" false, kitXB "InvalidWord" "InvalidRows" false, kitXB "Locked" "InvalidRows" false, kitXB "NoProgram" "InvalidRows" false, kitXB "NoSource" "InvalidRows" false, kitXB "NothingToUndo" "InvalidRows" false, kitXB "TooLarge" "InvalidRows" false, kitXB "FrontBackError" "InvalidText" false, kitXB "InvalidFences" "InvalidText" false, kitXB "InvalidMeaning" "InvalidText" false, kitXB "InvalidNames" "InvalidText" false, kitXB "InvalidNumber" "InvalidText" false, kitXB "InvalidOperation" "InvalidText" false, kitXB "InvalidProgram" "InvalidText" false, kitXB "InvalidResults" "InvalidText" false, kitXB "InvalidRow" "InvalidText" false, kitXB "InvalidRows" "InvalidText" false, kitXB "InvalidText" "InvalidText" true, kitXB "InvalidWord" "InvalidText" false, kitXB "Locked" "InvalidText" false, kitXB "NoProgram" "InvalidText" false, kitXB "NoSource" "InvalidText" false, kitXB "NothingToUndo" "InvalidText" false, kitXB "TooLarge" "InvalidText" false, kitXB "FrontBackError" "InvalidWord" false, kitXB "InvalidFences" "InvalidWord" false, kitXB "InvalidMeaning" "InvalidWord" false, kitXB "InvalidNames" "InvalidWord" false, kitXB "InvalidNumber" "InvalidWord" false, kitXB "InvalidOperation" "InvalidWord" false, kitXB "InvalidProgram" "InvalidWord" false, kitXB "InvalidResults" "InvalidWord" false, kitXB "InvalidRow" "InvalidWord" false, kitXB "InvalidRows" "InvalidWord" false, kitXB "InvalidText" "InvalidWord" false, kitXB "InvalidWord" "InvalidWord" true, kitXB "Locked" "InvalidWord" false, kitXB "NoProgram" "InvalidWord" false, kitXB "NoSource" "InvalidWord" false, kitXB "NothingToUndo" "InvalidWord" false, kitXB "TooLarge" "InvalidWord" false, kitXB "FrontBackError" "Locked" false, kitXB "InvalidFences" "Locked" false, kitXB "InvalidMeaning" "Locked" false, kitXB "InvalidNames" "Locked" false, kitXB "InvalidNumber" "Locked" false, kitXB "InvalidOperation" "Locked" false, kitXB "InvalidProgram" "Locked" false, kitXB "InvalidResults" "Locked" false, kitXB "InvalidRow" "Locked" false, kitXB "InvalidRows" "Locked" false, kitXB "InvalidText" "Locked" false, kitXB "InvalidWord" "Locked" false, kitXB "Locked" "Locked" true, kitXB "NoProgram" "Locked" false, kitXB "NoSource" "Locked" false, kitXB "NothingToUndo" "Locked" false, kitXB "TooLarge" "Locked" false, kitXB "FrontBackError" "NoProgram" false, kitXB "InvalidFences" "NoProgram" false, kitXB "InvalidMeaning" "NoProgram" false, kitXB "InvalidNames" "NoProgram" false, kitXB "InvalidNumber" "NoProgram" false, kitXB "InvalidOperation" "NoProgram" false, kitXB "InvalidProgram" "NoProgram" false, kitXB "InvalidResults" "NoProgram" false, kitXB "InvalidRow" "NoProgram" false, kitXB "InvalidRows" "NoProgram" false, kitXB "InvalidText" "NoProgram" false, kitXB "InvalidWord" "NoProgram" false, kitXB "Locked" "NoProgram" false, kitXB "NoProgram" "NoProgram" true, kitXB "NoSource" "NoProgram" false, kitXB "NothingToUndo" "NoProgram" false, kitXB "TooLarge" "NoProgram" false, kitXB "FrontBackError" "NoSource" false, kitXB "InvalidFences" "NoSource" false, kitXB "InvalidMeaning" "NoSource" false, kitXB "InvalidNames" "NoSource" false, kitXB "InvalidNumber" "NoSource" false, kitXB "InvalidOperation" "NoSource" false, kitXB "InvalidProgram" "NoSource" false, kitXB "InvalidResults" "NoSource" false, kitXB "InvalidRow" "NoSource" false, kitXB "InvalidRows" "NoSource" false, kitXB "InvalidText" "NoSource" false, kitXB "InvalidWord" "NoSource" false, kitXB "Locked" "NoSource" false, kitXB "NoProgram" "NoSource" false, kitXB "NoSource" "NoSource" true, kitXB "NothingToUndo" "NoSource" false, kitXB "TooLarge" "NoSource" false, kitXB "FrontBackError" "NothingToUndo" false, kitXB "InvalidFences" "NothingToUndo" false, kitXB "InvalidMeaning" "NothingToUndo" false, kitXB "InvalidNames" "NothingToUndo" false, kitXB "InvalidNumber" "NothingToUndo" false, kitXB "InvalidOperation" "NothingToUndo" false, kitXB "InvalidProgram" "NothingToUndo" false, kitXB "InvalidResults" "NothingToUndo" false, kitXB "InvalidRow" "NothingToUndo" false, kitXB "InvalidRows" "NothingToUndo" false, kitXB "InvalidText" "NothingToUndo" false, kitXB "InvalidWord" "NothingToUndo" false, kitXB "Locked" "NothingToUndo" false, kitXB "NoProgram" "NothingToUndo" false, kitXB "NoSource" "NothingToUndo" false, kitXB "NothingToUndo" "NothingToUndo" true, kitXB "TooLarge" "NothingToUndo" false, kitXB "FrontBackError" "TooLarge" false, kitXB "InvalidFences" "TooLarge" false, kitXB "InvalidMeaning" "TooLarge" false, kitXB "InvalidNames" "TooLarge" false, kitXB "InvalidNumber" "TooLarge" false, kitXB "InvalidOperation" "TooLarge" false, kitXB "InvalidProgram" "TooLarge" false, kitXB "InvalidResults" "TooLarge" false, kitXB "InvalidRow" "TooLarge" false, kitXB "InvalidRows" "TooLarge" false, kitXB "InvalidText" "TooLarge" false, kitXB "InvalidWord" "TooLarge" false, kitXB "Locked" "TooLarge" false, kitXB "NoProgram" "TooLarge" false, kitXB "NoSource" "TooLarge" false, kitXB "NothingToUndo" "TooLarge" false, kitXB "TooLarge" "TooLarge" true, kitTB "FrontBackError" "ValueError" true, kitTB "InvalidFences" "ValueError" true, kitTB "InvalidMeaning" "ValueError" true, kitTB "InvalidNames" "ValueError" true, kitTB "InvalidNumber" "ValueError" true, kitTB "InvalidOperation" "ValueError" true, kitTB "InvalidProgram" "ValueError" true, kitTB "InvalidResults" "ValueError" true, kitTB "InvalidRow" "ValueError" true, kitTB "InvalidRows" "ValueError" true, kitTB "InvalidText" "ValueError" true, kitTB "InvalidWord" "ValueError" true, kitTB "Locked" "ValueError" true, kitTB "NoProgram" "ValueError" true, kitTB "NoSource" "ValueError" true, kitTB "NothingToUndo" "ValueError" true, kitTB "TooLarge" "ValueError" true, kitAB "FrontBackError" ["TypeError", "LookupError", "ArithmeticError", "RuntimeError", "AttributeError"] false, kitAB "InvalidFences" ["TypeError", "LookupError", "ArithmeticError", "RuntimeError", "AttributeError"] false, kitAB "InvalidMeaning" ["TypeError", "LookupError", "ArithmeticError", "RuntimeError", "AttributeError"] false, kitAB "InvalidNames" ["TypeError", "LookupError", "ArithmeticError", "RuntimeError", "AttributeError"] false, kitAB "InvalidNumber" ["TypeError", "LookupError", "ArithmeticError", "RuntimeError", "AttributeError"] false, kitAB "InvalidOperation" ["TypeError", "LookupError", "ArithmeticError", "RuntimeError", "AttributeError"] false, kitAB "InvalidProgram" ["TypeError", "LookupError", "ArithmeticError", "RuntimeError", "AttributeError"] false, kitAB "InvalidResults" ["TypeError", "LookupError", "ArithmeticError", "RuntimeError", "AttributeError"] false, kitAB "InvalidRow" ["TypeError", "LookupError", "ArithmeticError", "RuntimeError", "AttributeError"] false, kitAB "InvalidRows" ["TypeError", "LookupError", "ArithmeticError", "RuntimeError", "AttributeError"] false, kitAB "InvalidText" ["TypeError", "LookupError", "ArithmeticError", "RuntimeError", "AttributeError"] false, kitAB "InvalidWord" ["TypeError", "LookupError", "ArithmeticError", "RuntimeError", "AttributeError"] false, kitAB "Locked" ["TypeError", "LookupError", "ArithmeticError", "RuntimeError", "AttributeError"] false, kitAB "NoProgram" ["TypeError", "LookupError", "ArithmeticError", "RuntimeError", "AttributeError"] false, kitAB "NoSource" ["TypeError", "LookupError", "ArithmeticError", "RuntimeError", "AttributeError"] false, kitAB "NothingToUndo" ["TypeError", "LookupError", "ArithmeticError", "RuntimeError", "AttributeError"] false, kitAB "TooLarge" ["TypeError", "LookupError", "ArithmeticError", "RuntimeError", "AttributeError"] false, kitVB "FrontBackError" false, lockB "Locked" "FrontBackError" "word", sysB]
abbrev hk : PySem.W.Hook := hookZ 4 faL fnL exL
def ob (s : PySem.W.SharedT) : He.AlD := obsZG 4 faL fnL exL (HandSHeadRun.getT s)
theorem ob_eq (s : PySem.W.SharedT) : ob s = hk.obs s.abs := obsZG_eq (HandSHeadRun.getT_eq s)
def loose0 : List Str := ["FrontBackError", "InvalidRow", "InvalidRows", "InvalidProgram", "InvalidOperation", "InvalidWord", "InvalidNames", "InvalidMeaning", "InvalidNumber", "InvalidFences", "InvalidResults", "InvalidText", "TooLarge", "NoProgram", "NoSource", "NothingToUndo", "Locked", "_law_mixed", "_law_cell", "_law_take"]
def loose1 : List Str := ["_law_kinds", "_law_plain", "_law_told", "_law_all_good", "_law_locked_good"]
abbrev looseL : List Str := loose0 ++ loose1
theorem run (w : World) : HandSHeadRun.RunEq R (PySem.W.view R.prog [27]) hk ob 20000 looseL w := by
  intro os
  kernel_rfl
theorem facts {K : PySem.W.Frag} {h : Heap} {mg : Str → Option Value} {f : Addr} (X : K.In h) (G : h.Ns mainGlobals mg) (hfa : mg ("law" : Str) = some (.ref f)) (cx : SaysX faL fnL exL K) :
    ∃ S : Fs K mg, S.a_law = f := by
  have c := cx.d
  obtain ⟨h__law_mixed, F__law_mixed⟩ := c.def_ 0 (d := dd__law_mixed) rfl
  obtain ⟨h__law_cell, F__law_cell⟩ := c.def_ 1 (d := dd__law_cell) rfl
  obtain ⟨h__law_take, F__law_take⟩ := c.def_ 2 (d := dd__law_take) rfl
  obtain ⟨h__law_kinds, F__law_kinds⟩ := c.def_ 3 (d := dd__law_kinds) rfl
  obtain ⟨h__law_plain, F__law_plain⟩ := c.def_ 4 (d := dd__law_plain) rfl
  obtain ⟨h__law_told, F__law_told⟩ := c.def_ 5 (d := dd__law_told) rfl
  obtain ⟨h__law_all_good, F__law_all_good⟩ := c.def_ 6 (d := dd__law_all_good) rfl
  obtain ⟨h__law_locked_good, F__law_locked_good⟩ := c.def_ 7 (d := dd__law_locked_good) rfl
  obtain ⟨h_law, F_law⟩ := c.def_ 8 (d := dd_law) rfl
  obtain ⟨h_Locked, F_Locked⟩ := c.def_ 9 (d := dd_Locked) rfl
  have L_Locked := lockB_ok (cx.ex 341 (p := lockB "Locked" "FrontBackError" "word") rfl)
  refine ⟨{
    a__law_mixed := _
    h__law_mixed := h__law_mixed
    F__law_mixed := F__law_mixed
    g__law_mixed := He.glo_ok X G (c.fact 0 (f := .glo "_law_mixed") rfl)
    a__law_cell := _
    h__law_cell := h__law_cell
    F__law_cell := F__law_cell
    g__law_cell := He.glo_ok X G (c.fact 1 (f := .glo "_law_cell") rfl)
    a__law_take := _
    h__law_take := h__law_take
    F__law_take := F__law_take
    g__law_take := He.glo_ok X G (c.fact 2 (f := .glo "_law_take") rfl)
    a__law_kinds := _
    h__law_kinds := h__law_kinds
    F__law_kinds := F__law_kinds
    g__law_kinds := He.glo_ok X G (c.fact 3 (f := .glo "_law_kinds") rfl)
    a__law_plain := _
    h__law_plain := h__law_plain
    F__law_plain := F__law_plain
    g__law_plain := He.glo_ok X G (c.fact 4 (f := .glo "_law_plain") rfl)
    a__law_told := _
    h__law_told := h__law_told
    F__law_told := F__law_told
    g__law_told := He.glo_ok X G (c.fact 5 (f := .glo "_law_told") rfl)
    a__law_all_good := _
    h__law_all_good := h__law_all_good
    F__law_all_good := F__law_all_good
    g__law_all_good := He.glo_ok X G (c.fact 6 (f := .glo "_law_all_good") rfl)
    a__law_locked_good := _
    h__law_locked_good := h__law_locked_good
    F__law_locked_good := F__law_locked_good
    g__law_locked_good := He.glo_ok X G (c.fact 7 (f := .glo "_law_locked_good") rfl)
    a_law := _
    h_law := h_law
    F_law := F_law
    g_law := He.glo_ok X G (c.fact 8 (f := .glo "law") rfl)
    b_ArithmeticError := He.free_ok X G (c.fact 9 (f := .free "ArithmeticError") rfl)
    b_AttributeError := He.free_ok X G (c.fact 10 (f := .free "AttributeError") rfl)
    b_LookupError := He.free_ok X G (c.fact 11 (f := .free "LookupError") rfl)
    b_RuntimeError := He.free_ok X G (c.fact 12 (f := .free "RuntimeError") rfl)
    b_TypeError := He.free_ok X G (c.fact 13 (f := .free "TypeError") rfl)
    b_ValueError := He.free_ok X G (c.fact 14 (f := .free "ValueError") rfl)
    b_all := He.free_ok X G (c.fact 15 (f := .free "all") rfl)
    b_int := He.free_ok X G (c.fact 16 (f := .free "int") rfl)
    b_isinstance := He.free_ok X G (c.fact 17 (f := .free "isinstance") rfl)
    b_len := He.free_ok X G (c.fact 18 (f := .free "len") rfl)
    b_max := He.free_ok X G (c.fact 19 (f := .free "max") rfl)
    b_min := He.free_ok X G (c.fact 20 (f := .free "min") rfl)
    b_range := He.free_ok X G (c.fact 21 (f := .free "range") rfl)
    b_str := He.free_ok X G (c.fact 22 (f := .free "str") rfl)
    C_FrontBackError := _
    x_FrontBackError := ⟨(He.exc_ok (c.fact 24 (f := .exc "FrontBackError") rfl)).1, He.glo_ok X G (c.fact 23 (f := .glo "FrontBackError") rfl), (He.exc_ok (c.fact 24 (f := .exc "FrontBackError") rfl)).2⟩
    C_InvalidFences := _
    x_InvalidFences := ⟨(He.exc_ok (c.fact 26 (f := .exc "InvalidFences") rfl)).1, He.glo_ok X G (c.fact 25 (f := .glo "InvalidFences") rfl), (He.exc_ok (c.fact 26 (f := .exc "InvalidFences") rfl)).2⟩
    C_InvalidMeaning := _
    x_InvalidMeaning := ⟨(He.exc_ok (c.fact 28 (f := .exc "InvalidMeaning") rfl)).1, He.glo_ok X G (c.fact 27 (f := .glo "InvalidMeaning") rfl), (He.exc_ok (c.fact 28 (f := .exc "InvalidMeaning") rfl)).2⟩
    C_InvalidNames := _
    x_InvalidNames := ⟨(He.exc_ok (c.fact 30 (f := .exc "InvalidNames") rfl)).1, He.glo_ok X G (c.fact 29 (f := .glo "InvalidNames") rfl), (He.exc_ok (c.fact 30 (f := .exc "InvalidNames") rfl)).2⟩
    C_InvalidNumber := _
    x_InvalidNumber := ⟨(He.exc_ok (c.fact 32 (f := .exc "InvalidNumber") rfl)).1, He.glo_ok X G (c.fact 31 (f := .glo "InvalidNumber") rfl), (He.exc_ok (c.fact 32 (f := .exc "InvalidNumber") rfl)).2⟩
    C_InvalidOperation := _
    x_InvalidOperation := ⟨(He.exc_ok (c.fact 34 (f := .exc "InvalidOperation") rfl)).1, He.glo_ok X G (c.fact 33 (f := .glo "InvalidOperation") rfl), (He.exc_ok (c.fact 34 (f := .exc "InvalidOperation") rfl)).2⟩
    C_InvalidProgram := _
    x_InvalidProgram := ⟨(He.exc_ok (c.fact 36 (f := .exc "InvalidProgram") rfl)).1, He.glo_ok X G (c.fact 35 (f := .glo "InvalidProgram") rfl), (He.exc_ok (c.fact 36 (f := .exc "InvalidProgram") rfl)).2⟩
    C_InvalidResults := _
    x_InvalidResults := ⟨(He.exc_ok (c.fact 38 (f := .exc "InvalidResults") rfl)).1, He.glo_ok X G (c.fact 37 (f := .glo "InvalidResults") rfl), (He.exc_ok (c.fact 38 (f := .exc "InvalidResults") rfl)).2⟩
    C_InvalidRow := _
    x_InvalidRow := ⟨(He.exc_ok (c.fact 40 (f := .exc "InvalidRow") rfl)).1, He.glo_ok X G (c.fact 39 (f := .glo "InvalidRow") rfl), (He.exc_ok (c.fact 40 (f := .exc "InvalidRow") rfl)).2⟩
    C_InvalidRows := _
    x_InvalidRows := ⟨(He.exc_ok (c.fact 42 (f := .exc "InvalidRows") rfl)).1, He.glo_ok X G (c.fact 41 (f := .glo "InvalidRows") rfl), (He.exc_ok (c.fact 42 (f := .exc "InvalidRows") rfl)).2⟩
    C_InvalidText := _
    x_InvalidText := ⟨(He.exc_ok (c.fact 44 (f := .exc "InvalidText") rfl)).1, He.glo_ok X G (c.fact 43 (f := .glo "InvalidText") rfl), (He.exc_ok (c.fact 44 (f := .exc "InvalidText") rfl)).2⟩
    C_InvalidWord := _
    x_InvalidWord := ⟨(He.exc_ok (c.fact 46 (f := .exc "InvalidWord") rfl)).1, He.glo_ok X G (c.fact 45 (f := .glo "InvalidWord") rfl), (He.exc_ok (c.fact 46 (f := .exc "InvalidWord") rfl)).2⟩
    C_NoProgram := _
    x_NoProgram := ⟨(He.exc_ok (c.fact 48 (f := .exc "NoProgram") rfl)).1, He.glo_ok X G (c.fact 47 (f := .glo "NoProgram") rfl), (He.exc_ok (c.fact 48 (f := .exc "NoProgram") rfl)).2⟩
    C_NoSource := _
    x_NoSource := ⟨(He.exc_ok (c.fact 50 (f := .exc "NoSource") rfl)).1, He.glo_ok X G (c.fact 49 (f := .glo "NoSource") rfl), (He.exc_ok (c.fact 50 (f := .exc "NoSource") rfl)).2⟩
    C_NothingToUndo := _
    x_NothingToUndo := ⟨(He.exc_ok (c.fact 52 (f := .exc "NothingToUndo") rfl)).1, He.glo_ok X G (c.fact 51 (f := .glo "NothingToUndo") rfl), (He.exc_ok (c.fact 52 (f := .exc "NothingToUndo") rfl)).2⟩
    C_TooLarge := _
    x_TooLarge := ⟨(He.exc_ok (c.fact 54 (f := .exc "TooLarge") rfl)).1, He.glo_ok X G (c.fact 53 (f := .glo "TooLarge") rfl), (He.exc_ok (c.fact 54 (f := .exc "TooLarge") rfl)).2⟩
    C_Locked := _
    T_Locked := L_Locked.1
    g_Locked := He.glo_ok X G (c.fact 55 (f := .glo "Locked") rfl)
    i_Locked := _
    h_Locked := h_Locked
    F_Locked := F_Locked
    n_Locked := ⟨L_Locked.2.1, L_Locked.2.2.1, L_Locked.2.2.2.1, L_Locked.2.2.2.2.1, He.glo_ok X G (c.fact 23 (f := .glo "FrontBackError") rfl), L_Locked.2.2.2.2.2.1, L_Locked.2.2.2.2.2.2.1, L_Locked.2.2.2.2.2.2.2⟩
    K_FrontBackError := _
    gx_FrontBackError := He.glo_ok X G (c.fact 23 (f := .glo "FrontBackError") rfl)
    K_InvalidFences := _
    gx_InvalidFences := He.glo_ok X G (c.fact 25 (f := .glo "InvalidFences") rfl)
    K_InvalidMeaning := _
    gx_InvalidMeaning := He.glo_ok X G (c.fact 27 (f := .glo "InvalidMeaning") rfl)
    K_InvalidNames := _
    gx_InvalidNames := He.glo_ok X G (c.fact 29 (f := .glo "InvalidNames") rfl)
    K_InvalidNumber := _
    gx_InvalidNumber := He.glo_ok X G (c.fact 31 (f := .glo "InvalidNumber") rfl)
    K_InvalidOperation := _
    gx_InvalidOperation := He.glo_ok X G (c.fact 33 (f := .glo "InvalidOperation") rfl)
    K_InvalidProgram := _
    gx_InvalidProgram := He.glo_ok X G (c.fact 35 (f := .glo "InvalidProgram") rfl)
    K_InvalidResults := _
    gx_InvalidResults := He.glo_ok X G (c.fact 37 (f := .glo "InvalidResults") rfl)
    K_InvalidRow := _
    gx_InvalidRow := He.glo_ok X G (c.fact 39 (f := .glo "InvalidRow") rfl)
    K_InvalidRows := _
    gx_InvalidRows := He.glo_ok X G (c.fact 41 (f := .glo "InvalidRows") rfl)
    K_InvalidText := _
    gx_InvalidText := He.glo_ok X G (c.fact 43 (f := .glo "InvalidText") rfl)
    K_InvalidWord := _
    gx_InvalidWord := He.glo_ok X G (c.fact 45 (f := .glo "InvalidWord") rfl)
    K_Locked := _
    gx_Locked := He.glo_ok X G (c.fact 55 (f := .glo "Locked") rfl)
    K_NoProgram := _
    gx_NoProgram := He.glo_ok X G (c.fact 47 (f := .glo "NoProgram") rfl)
    K_NoSource := _
    gx_NoSource := He.glo_ok X G (c.fact 49 (f := .glo "NoSource") rfl)
    K_NothingToUndo := _
    gx_NothingToUndo := He.glo_ok X G (c.fact 51 (f := .glo "NothingToUndo") rfl)
    K_TooLarge := _
    gx_TooLarge := He.glo_ok X G (c.fact 53 (f := .glo "TooLarge") rfl)
    ti_FrontBackError := (tsL_cons (fun C h => by rw [(at_ga h (He.glo_ok X G (c.fact 23 (f := .glo "FrontBackError") rfl)))]; exact ⟨excCB_ok (cx.ex 0 (p := excCB "FrontBackError") rfl), of_decide_eq_true (cx.ex 17 (p := kitXB "FrontBackError" "FrontBackError" true) rfl)⟩) (tsL_cons (fun C h => by rw [(at_ga h (He.glo_ok X G (c.fact 25 (f := .glo "InvalidFences") rfl)))]; exact ⟨excCB_ok (cx.ex 1 (p := excCB "InvalidFences") rfl), of_decide_eq_true (cx.ex 18 (p := kitXB "InvalidFences" "FrontBackError" true) rfl)⟩) (tsL_cons (fun C h => by rw [(at_ga h (He.glo_ok X G (c.fact 27 (f := .glo "InvalidMeaning") rfl)))]; exact ⟨excCB_ok (cx.ex 2 (p := excCB "InvalidMeaning") rfl), of_decide_eq_true (cx.ex 19 (p := kitXB "InvalidMeaning" "FrontBackError" true) rfl)⟩) (tsL_cons (fun C h => by rw [(at_ga h (He.glo_ok X G (c.fact 29 (f := .glo "InvalidNames") rfl)))]; exact ⟨excCB_ok (cx.ex 3 (p := excCB "InvalidNames") rfl), of_decide_eq_true (cx.ex 20 (p := kitXB "InvalidNames" "FrontBackError" true) rfl)⟩) (tsL_cons (fun C h => by rw [(at_ga h (He.glo_ok X G (c.fact 31 (f := .glo "InvalidNumber") rfl)))]; exact ⟨excCB_ok (cx.ex 4 (p := excCB "InvalidNumber") rfl), of_decide_eq_true (cx.ex 21 (p := kitXB "InvalidNumber" "FrontBackError" true) rfl)⟩) (tsL_cons (fun C h => by rw [(at_ga h (He.glo_ok X G (c.fact 33 (f := .glo "InvalidOperation") rfl)))]; exact ⟨excCB_ok (cx.ex 5 (p := excCB "InvalidOperation") rfl), of_decide_eq_true (cx.ex 22 (p := kitXB "InvalidOperation" "FrontBackError" true) rfl)⟩) (tsL_cons (fun C h => by rw [(at_ga h (He.glo_ok X G (c.fact 35 (f := .glo "InvalidProgram") rfl)))]; exact ⟨excCB_ok (cx.ex 6 (p := excCB "InvalidProgram") rfl), of_decide_eq_true (cx.ex 23 (p := kitXB "InvalidProgram" "FrontBackError" true) rfl)⟩) (tsL_cons (fun C h => by rw [(at_ga h (He.glo_ok X G (c.fact 37 (f := .glo "InvalidResults") rfl)))]; exact ⟨excCB_ok (cx.ex 7 (p := excCB "InvalidResults") rfl), of_decide_eq_true (cx.ex 24 (p := kitXB "InvalidResults" "FrontBackError" true) rfl)⟩) (tsL_cons (fun C h => by rw [(at_ga h (He.glo_ok X G (c.fact 39 (f := .glo "InvalidRow") rfl)))]; exact ⟨excCB_ok (cx.ex 8 (p := excCB "InvalidRow") rfl), of_decide_eq_true (cx.ex 25 (p := kitXB "InvalidRow" "FrontBackError" true) rfl)⟩) (tsL_cons (fun C h => by rw [(at_ga h (He.glo_ok X G (c.fact 41 (f := .glo "InvalidRows") rfl)))]; exact ⟨excCB_ok (cx.ex 9 (p := excCB "InvalidRows") rfl), of_decide_eq_true (cx.ex 26 (p := kitXB "InvalidRows" "FrontBackError" true) rfl)⟩) (tsL_cons (fun C h => by rw [(at_ga h (He.glo_ok X G (c.fact 43 (f := .glo "InvalidText") rfl)))]; exact ⟨excCB_ok (cx.ex 10 (p := excCB "InvalidText") rfl), of_decide_eq_true (cx.ex 27 (p := kitXB "InvalidText" "FrontBackError" true) rfl)⟩) (tsL_cons (fun C h => by rw [(at_ga h (He.glo_ok X G (c.fact 45 (f := .glo "InvalidWord") rfl)))]; exact ⟨excCB_ok (cx.ex 11 (p := excCB "InvalidWord") rfl), of_decide_eq_true (cx.ex 28 (p := kitXB "InvalidWord" "FrontBackError" true) rfl)⟩) (tsL_cons (fun C h => by rw [(at_ga h (He.glo_ok X G (c.fact 55 (f := .glo "Locked") rfl)))]; exact ⟨excCB_ok (cx.ex 12 (p := excCB "Locked") rfl), of_decide_eq_true (cx.ex 29 (p := kitXB "Locked" "FrontBackError" true) rfl)⟩) (tsL_cons (fun C h => by rw [(at_ga h (He.glo_ok X G (c.fact 47 (f := .glo "NoProgram") rfl)))]; exact ⟨excCB_ok (cx.ex 13 (p := excCB "NoProgram") rfl), of_decide_eq_true (cx.ex 30 (p := kitXB "NoProgram" "FrontBackError" true) rfl)⟩) (tsL_cons (fun C h => by rw [(at_ga h (He.glo_ok X G (c.fact 49 (f := .glo "NoSource") rfl)))]; exact ⟨excCB_ok (cx.ex 14 (p := excCB "NoSource") rfl), of_decide_eq_true (cx.ex 31 (p := kitXB "NoSource" "FrontBackError" true) rfl)⟩) (tsL_cons (fun C h => by rw [(at_ga h (He.glo_ok X G (c.fact 51 (f := .glo "NothingToUndo") rfl)))]; exact ⟨excCB_ok (cx.ex 15 (p := excCB "NothingToUndo") rfl), of_decide_eq_true (cx.ex 32 (p := kitXB "NothingToUndo" "FrontBackError" true) rfl)⟩) (tsL_cons (fun C h => by rw [(at_ga h (He.glo_ok X G (c.fact 53 (f := .glo "TooLarge") rfl)))]; exact ⟨excCB_ok (cx.ex 16 (p := excCB "TooLarge") rfl), of_decide_eq_true (cx.ex 33 (p := kitXB "TooLarge" "FrontBackError" true) rfl)⟩) tsL_nil)))))))))))))))))
    ti_InvalidFences := (tsL_cons (fun C h => by rw [(at_ga h (He.glo_ok X G (c.fact 23 (f := .glo "FrontBackError") rfl)))]; exact ⟨excCB_ok (cx.ex 0 (p := excCB "FrontBackError") rfl), of_decide_eq_true (cx.ex 34 (p := kitXB "FrontBackError" "InvalidFences" false) rfl)⟩) (tsL_cons (fun C h => by rw [(at_ga h (He.glo_ok X G (c.fact 25 (f := .glo "InvalidFences") rfl)))]; exact ⟨excCB_ok (cx.ex 1 (p := excCB "InvalidFences") rfl), of_decide_eq_true (cx.ex 35 (p := kitXB "InvalidFences" "InvalidFences" true) rfl)⟩) (tsL_cons (fun C h => by rw [(at_ga h (He.glo_ok X G (c.fact 27 (f := .glo "InvalidMeaning") rfl)))]; exact ⟨excCB_ok (cx.ex 2 (p := excCB "InvalidMeaning") rfl), of_decide_eq_true (cx.ex 36 (p := kitXB "InvalidMeaning" "InvalidFences" false) rfl)⟩) (tsL_cons (fun C h => by rw [(at_ga h (He.glo_ok X G (c.fact 29 (f := .glo "InvalidNames") rfl)))]; exact ⟨excCB_ok (cx.ex 3 (p := excCB "InvalidNames") rfl), of_decide_eq_true (cx.ex 37 (p := kitXB "InvalidNames" "InvalidFences" false) rfl)⟩) (tsL_cons (fun C h => by rw [(at_ga h (He.glo_ok X G (c.fact 31 (f := .glo "InvalidNumber") rfl)))]; exact ⟨excCB_ok (cx.ex 4 (p := excCB "InvalidNumber") rfl), of_decide_eq_true (cx.ex 38 (p := kitXB "InvalidNumber" "InvalidFences" false) rfl)⟩) (tsL_cons (fun C h => by rw [(at_ga h (He.glo_ok X G (c.fact 33 (f := .glo "InvalidOperation") rfl)))]; exact ⟨excCB_ok (cx.ex 5 (p := excCB "InvalidOperation") rfl), of_decide_eq_true (cx.ex 39 (p := kitXB "InvalidOperation" "InvalidFences" false) rfl)⟩) (tsL_cons (fun C h => by rw [(at_ga h (He.glo_ok X G (c.fact 35 (f := .glo "InvalidProgram") rfl)))]; exact ⟨excCB_ok (cx.ex 6 (p := excCB "InvalidProgram") rfl), of_decide_eq_true (cx.ex 40 (p := kitXB "InvalidProgram" "InvalidFences" false) rfl)⟩) (tsL_cons (fun C h => by rw [(at_ga h (He.glo_ok X G (c.fact 37 (f := .glo "InvalidResults") rfl)))]; exact ⟨excCB_ok (cx.ex 7 (p := excCB "InvalidResults") rfl), of_decide_eq_true (cx.ex 41 (p := kitXB "InvalidResults" "InvalidFences" false) rfl)⟩) (tsL_cons (fun C h => by rw [(at_ga h (He.glo_ok X G (c.fact 39 (f := .glo "InvalidRow") rfl)))]; exact ⟨excCB_ok (cx.ex 8 (p := excCB "InvalidRow") rfl), of_decide_eq_true (cx.ex 42 (p := kitXB "InvalidRow" "InvalidFences" false) rfl)⟩) (tsL_cons (fun C h => by rw [(at_ga h (He.glo_ok X G (c.fact 41 (f := .glo "InvalidRows") rfl)))]; exact ⟨excCB_ok (cx.ex 9 (p := excCB "InvalidRows") rfl), of_decide_eq_true (cx.ex 43 (p := kitXB "InvalidRows" "InvalidFences" false) rfl)⟩) (tsL_cons (fun C h => by rw [(at_ga h (He.glo_ok X G (c.fact 43 (f := .glo "InvalidText") rfl)))]; exact ⟨excCB_ok (cx.ex 10 (p := excCB "InvalidText") rfl), of_decide_eq_true (cx.ex 44 (p := kitXB "InvalidText" "InvalidFences" false) rfl)⟩) (tsL_cons (fun C h => by rw [(at_ga h (He.glo_ok X G (c.fact 45 (f := .glo "InvalidWord") rfl)))]; exact ⟨excCB_ok (cx.ex 11 (p := excCB "InvalidWord") rfl), of_decide_eq_true (cx.ex 45 (p := kitXB "InvalidWord" "InvalidFences" false) rfl)⟩) (tsL_cons (fun C h => by rw [(at_ga h (He.glo_ok X G (c.fact 55 (f := .glo "Locked") rfl)))]; exact ⟨excCB_ok (cx.ex 12 (p := excCB "Locked") rfl), of_decide_eq_true (cx.ex 46 (p := kitXB "Locked" "InvalidFences" false) rfl)⟩) (tsL_cons (fun C h => by rw [(at_ga h (He.glo_ok X G (c.fact 47 (f := .glo "NoProgram") rfl)))]; exact ⟨excCB_ok (cx.ex 13 (p := excCB "NoProgram") rfl), of_decide_eq_true (cx.ex 47 (p := kitXB "NoProgram" "InvalidFences" false) rfl)⟩) (tsL_cons (fun C h => by rw [(at_ga h (He.glo_ok X G (c.fact 49 (f := .glo "NoSource") rfl)))]; exact ⟨excCB_ok (cx.ex 14 (p := excCB "NoSource") rfl), of_decide_eq_true (cx.ex 48 (p := kitXB "NoSource" "InvalidFences" false) rfl)⟩) (tsL_cons (fun C h => by rw [(at_ga h (He.glo_ok X G (c.fact 51 (f := .glo "NothingToUndo") rfl)))]; exact ⟨excCB_ok (cx.ex 15 (p := excCB "NothingToUndo") rfl), of_decide_eq_true (cx.ex 49 (p := kitXB "NothingToUndo" "InvalidFences" false) rfl)⟩) (tsL_cons (fun C h => by rw [(at_ga h (He.glo_ok X G (c.fact 53 (f := .glo "TooLarge") rfl)))]; exact ⟨excCB_ok (cx.ex 16 (p := excCB "TooLarge") rfl), of_decide_eq_true (cx.ex 50 (p := kitXB "TooLarge" "InvalidFences" false) rfl)⟩) tsL_nil)))))))))))))))))
    ti_InvalidMeaning := (tsL_cons (fun C h => by rw [(at_ga h (He.glo_ok X G (c.fact 23 (f := .glo "FrontBackError") rfl)))]; exact ⟨excCB_ok (cx.ex 0 (p := excCB "FrontBackError") rfl), of_decide_eq_true (cx.ex 51 (p := kitXB "FrontBackError" "InvalidMeaning" false) rfl)⟩) (tsL_cons (fun C h => by rw [(at_ga h (He.glo_ok X G (c.fact 25 (f := .glo "InvalidFences") rfl)))]; exact ⟨excCB_ok (cx.ex 1 (p := excCB "InvalidFences") rfl), of_decide_eq_true (cx.ex 52 (p := kitXB "InvalidFences" "InvalidMeaning" false) rfl)⟩) (tsL_cons (fun C h => by rw [(at_ga h (He.glo_ok X G (c.fact 27 (f := .glo "InvalidMeaning") rfl)))]; exact ⟨excCB_ok (cx.ex 2 (p := excCB "InvalidMeaning") rfl), of_decide_eq_true (cx.ex 53 (p := kitXB "InvalidMeaning" "InvalidMeaning" true) rfl)⟩) (tsL_cons (fun C h => by rw [(at_ga h (He.glo_ok X G (c.fact 29 (f := .glo "InvalidNames") rfl)))]; exact ⟨excCB_ok (cx.ex 3 (p := excCB "InvalidNames") rfl), of_decide_eq_true (cx.ex 54 (p := kitXB "InvalidNames" "InvalidMeaning" false) rfl)⟩) (tsL_cons (fun C h => by rw [(at_ga h (He.glo_ok X G (c.fact 31 (f := .glo "InvalidNumber") rfl)))]; exact ⟨excCB_ok (cx.ex 4 (p := excCB "InvalidNumber") rfl), of_decide_eq_true (cx.ex 55 (p := kitXB "InvalidNumber" "InvalidMeaning" false) rfl)⟩) (tsL_cons (fun C h => by rw [(at_ga h (He.glo_ok X G (c.fact 33 (f := .glo "InvalidOperation") rfl)))]; exact ⟨excCB_ok (cx.ex 5 (p := excCB "InvalidOperation") rfl), of_decide_eq_true (cx.ex 56 (p := kitXB "InvalidOperation" "InvalidMeaning" false) rfl)⟩) (tsL_cons (fun C h => by rw [(at_ga h (He.glo_ok X G (c.fact 35 (f := .glo "InvalidProgram") rfl)))]; exact ⟨excCB_ok (cx.ex 6 (p := excCB "InvalidProgram") rfl), of_decide_eq_true (cx.ex 57 (p := kitXB "InvalidProgram" "InvalidMeaning" false) rfl)⟩) (tsL_cons (fun C h => by rw [(at_ga h (He.glo_ok X G (c.fact 37 (f := .glo "InvalidResults") rfl)))]; exact ⟨excCB_ok (cx.ex 7 (p := excCB "InvalidResults") rfl), of_decide_eq_true (cx.ex 58 (p := kitXB "InvalidResults" "InvalidMeaning" false) rfl)⟩) (tsL_cons (fun C h => by rw [(at_ga h (He.glo_ok X G (c.fact 39 (f := .glo "InvalidRow") rfl)))]; exact ⟨excCB_ok (cx.ex 8 (p := excCB "InvalidRow") rfl), of_decide_eq_true (cx.ex 59 (p := kitXB "InvalidRow" "InvalidMeaning" false) rfl)⟩) (tsL_cons (fun C h => by rw [(at_ga h (He.glo_ok X G (c.fact 41 (f := .glo "InvalidRows") rfl)))]; exact ⟨excCB_ok (cx.ex 9 (p := excCB "InvalidRows") rfl), of_decide_eq_true (cx.ex 60 (p := kitXB "InvalidRows" "InvalidMeaning" false) rfl)⟩) (tsL_cons (fun C h => by rw [(at_ga h (He.glo_ok X G (c.fact 43 (f := .glo "InvalidText") rfl)))]; exact ⟨excCB_ok (cx.ex 10 (p := excCB "InvalidText") rfl), of_decide_eq_true (cx.ex 61 (p := kitXB "InvalidText" "InvalidMeaning" false) rfl)⟩) (tsL_cons (fun C h => by rw [(at_ga h (He.glo_ok X G (c.fact 45 (f := .glo "InvalidWord") rfl)))]; exact ⟨excCB_ok (cx.ex 11 (p := excCB "InvalidWord") rfl), of_decide_eq_true (cx.ex 62 (p := kitXB "InvalidWord" "InvalidMeaning" false) rfl)⟩) (tsL_cons (fun C h => by rw [(at_ga h (He.glo_ok X G (c.fact 55 (f := .glo "Locked") rfl)))]; exact ⟨excCB_ok (cx.ex 12 (p := excCB "Locked") rfl), of_decide_eq_true (cx.ex 63 (p := kitXB "Locked" "InvalidMeaning" false) rfl)⟩) (tsL_cons (fun C h => by rw [(at_ga h (He.glo_ok X G (c.fact 47 (f := .glo "NoProgram") rfl)))]; exact ⟨excCB_ok (cx.ex 13 (p := excCB "NoProgram") rfl), of_decide_eq_true (cx.ex 64 (p := kitXB "NoProgram" "InvalidMeaning" false) rfl)⟩) (tsL_cons (fun C h => by rw [(at_ga h (He.glo_ok X G (c.fact 49 (f := .glo "NoSource") rfl)))]; exact ⟨excCB_ok (cx.ex 14 (p := excCB "NoSource") rfl), of_decide_eq_true (cx.ex 65 (p := kitXB "NoSource" "InvalidMeaning" false) rfl)⟩) (tsL_cons (fun C h => by rw [(at_ga h (He.glo_ok X G (c.fact 51 (f := .glo "NothingToUndo") rfl)))]; exact ⟨excCB_ok (cx.ex 15 (p := excCB "NothingToUndo") rfl), of_decide_eq_true (cx.ex 66 (p := kitXB "NothingToUndo" "InvalidMeaning" false) rfl)⟩) (tsL_cons (fun C h => by rw [(at_ga h (He.glo_ok X G (c.fact 53 (f := .glo "TooLarge") rfl)))]; exact ⟨excCB_ok (cx.ex 16 (p := excCB "TooLarge") rfl), of_decide_eq_true (cx.ex 67 (p := kitXB "TooLarge" "InvalidMeaning" false) rfl)⟩) tsL_nil)))))))))))))))))
    ti_InvalidNames := (tsL_cons (fun C h => by rw [(at_ga h (He.glo_ok X G (c.fact 23 (f := .glo "FrontBackError") rfl)))]; exact ⟨excCB_ok (cx.ex 0 (p := excCB "FrontBackError") rfl), of_decide_eq_true (cx.ex 68 (p := kitXB "FrontBackError" "InvalidNames" false) rfl)⟩) (tsL_cons (fun C h => by rw [(at_ga h (He.glo_ok X G (c.fact 25 (f := .glo "InvalidFences") rfl)))]; exact ⟨excCB_ok (cx.ex 1 (p := excCB "InvalidFences") rfl), of_decide_eq_true (cx.ex 69 (p := kitXB "InvalidFences" "InvalidNames" false) rfl)⟩) (tsL_cons (fun C h => by rw [(at_ga h (He.glo_ok X G (c.fact 27 (f := .glo "InvalidMeaning") rfl)))]; exact ⟨excCB_ok (cx.ex 2 (p := excCB "InvalidMeaning") rfl), of_decide_eq_true (cx.ex 70 (p := kitXB "InvalidMeaning" "InvalidNames" false) rfl)⟩) (tsL_cons (fun C h => by rw [(at_ga h (He.glo_ok X G (c.fact 29 (f := .glo "InvalidNames") rfl)))]; exact ⟨excCB_ok (cx.ex 3 (p := excCB "InvalidNames") rfl), of_decide_eq_true (cx.ex 71 (p := kitXB "InvalidNames" "InvalidNames" true) rfl)⟩) (tsL_cons (fun C h => by rw [(at_ga h (He.glo_ok X G (c.fact 31 (f := .glo "InvalidNumber") rfl)))]; exact ⟨excCB_ok (cx.ex 4 (p := excCB "InvalidNumber") rfl), of_decide_eq_true (cx.ex 72 (p := kitXB "InvalidNumber" "InvalidNames" false) rfl)⟩) (tsL_cons (fun C h => by rw [(at_ga h (He.glo_ok X G (c.fact 33 (f := .glo "InvalidOperation") rfl)))]; exact ⟨excCB_ok (cx.ex 5 (p := excCB "InvalidOperation") rfl), of_decide_eq_true (cx.ex 73 (p := kitXB "InvalidOperation" "InvalidNames" false) rfl)⟩) (tsL_cons (fun C h => by rw [(at_ga h (He.glo_ok X G (c.fact 35 (f := .glo "InvalidProgram") rfl)))]; exact ⟨excCB_ok (cx.ex 6 (p := excCB "InvalidProgram") rfl), of_decide_eq_true (cx.ex 74 (p := kitXB "InvalidProgram" "InvalidNames" false) rfl)⟩) (tsL_cons (fun C h => by rw [(at_ga h (He.glo_ok X G (c.fact 37 (f := .glo "InvalidResults") rfl)))]; exact ⟨excCB_ok (cx.ex 7 (p := excCB "InvalidResults") rfl), of_decide_eq_true (cx.ex 75 (p := kitXB "InvalidResults" "InvalidNames" false) rfl)⟩) (tsL_cons (fun C h => by rw [(at_ga h (He.glo_ok X G (c.fact 39 (f := .glo "InvalidRow") rfl)))]; exact ⟨excCB_ok (cx.ex 8 (p := excCB "InvalidRow") rfl), of_decide_eq_true (cx.ex 76 (p := kitXB "InvalidRow" "InvalidNames" false) rfl)⟩) (tsL_cons (fun C h => by rw [(at_ga h (He.glo_ok X G (c.fact 41 (f := .glo "InvalidRows") rfl)))]; exact ⟨excCB_ok (cx.ex 9 (p := excCB "InvalidRows") rfl), of_decide_eq_true (cx.ex 77 (p := kitXB "InvalidRows" "InvalidNames" false) rfl)⟩) (tsL_cons (fun C h => by rw [(at_ga h (He.glo_ok X G (c.fact 43 (f := .glo "InvalidText") rfl)))]; exact ⟨excCB_ok (cx.ex 10 (p := excCB "InvalidText") rfl), of_decide_eq_true (cx.ex 78 (p := kitXB "InvalidText" "InvalidNames" false) rfl)⟩) (tsL_cons (fun C h => by rw [(at_ga h (He.glo_ok X G (c.fact 45 (f := .glo "InvalidWord") rfl)))]; exact ⟨excCB_ok (cx.ex 11 (p := excCB "InvalidWord") rfl), of_decide_eq_true (cx.ex 79 (p := kitXB "InvalidWord" "InvalidNames" false) rfl)⟩) (tsL_cons (fun C h => by rw [(at_ga h (He.glo_ok X G (c.fact 55 (f := .glo "Locked") rfl)))]; exact ⟨excCB_ok (cx.ex 12 (p := excCB "Locked") rfl), of_decide_eq_true (cx.ex 80 (p := kitXB "Locked" "InvalidNames" false) rfl)⟩) (tsL_cons (fun C h => by rw [(at_ga h (He.glo_ok X G (c.fact 47 (f := .glo "NoProgram") rfl)))]; exact ⟨excCB_ok (cx.ex 13 (p := excCB "NoProgram") rfl), of_decide_eq_true (cx.ex 81 (p := kitXB "NoProgram" "InvalidNames" false) rfl)⟩) (tsL_cons (fun C h => by rw [(at_ga h (He.glo_ok X G (c.fact 49 (f := .glo "NoSource") rfl)))]; exact ⟨excCB_ok (cx.ex 14 (p := excCB "NoSource") rfl), of_decide_eq_true (cx.ex 82 (p := kitXB "NoSource" "InvalidNames" false) rfl)⟩) (tsL_cons (fun C h => by rw [(at_ga h (He.glo_ok X G (c.fact 51 (f := .glo "NothingToUndo") rfl)))]; exact ⟨excCB_ok (cx.ex 15 (p := excCB "NothingToUndo") rfl), of_decide_eq_true (cx.ex 83 (p := kitXB "NothingToUndo" "InvalidNames" false) rfl)⟩) (tsL_cons (fun C h => by rw [(at_ga h (He.glo_ok X G (c.fact 53 (f := .glo "TooLarge") rfl)))]; exact ⟨excCB_ok (cx.ex 16 (p := excCB "TooLarge") rfl), of_decide_eq_true (cx.ex 84 (p := kitXB "TooLarge" "InvalidNames" false) rfl)⟩) tsL_nil)))))))))))))))))
    ti_InvalidNumber := (tsL_cons (fun C h => by rw [(at_ga h (He.glo_ok X G (c.fact 23 (f := .glo "FrontBackError") rfl)))]; exact ⟨excCB_ok (cx.ex 0 (p := excCB "FrontBackError") rfl), of_decide_eq_true (cx.ex 85 (p := kitXB "FrontBackError" "InvalidNumber" false) rfl)⟩) (tsL_cons (fun C h => by rw [(at_ga h (He.glo_ok X G (c.fact 25 (f := .glo "InvalidFences") rfl)))]; exact ⟨excCB_ok (cx.ex 1 (p := excCB "InvalidFences") rfl), of_decide_eq_true (cx.ex 86 (p := kitXB "InvalidFences" "InvalidNumber" false) rfl)⟩) (tsL_cons (fun C h => by rw [(at_ga h (He.glo_ok X G (c.fact 27 (f := .glo "InvalidMeaning") rfl)))]; exact ⟨excCB_ok (cx.ex 2 (p := excCB "InvalidMeaning") rfl), of_decide_eq_true (cx.ex 87 (p := kitXB "InvalidMeaning" "InvalidNumber" false) rfl)⟩) (tsL_cons (fun C h => by rw [(at_ga h (He.glo_ok X G (c.fact 29 (f := .glo "InvalidNames") rfl)))]; exact ⟨excCB_ok (cx.ex 3 (p := excCB "InvalidNames") rfl), of_decide_eq_true (cx.ex 88 (p := kitXB "InvalidNames" "InvalidNumber" false) rfl)⟩) (tsL_cons (fun C h => by rw [(at_ga h (He.glo_ok X G (c.fact 31 (f := .glo "InvalidNumber") rfl)))]; exact ⟨excCB_ok (cx.ex 4 (p := excCB "InvalidNumber") rfl), of_decide_eq_true (cx.ex 89 (p := kitXB "InvalidNumber" "InvalidNumber" true) rfl)⟩) (tsL_cons (fun C h => by rw [(at_ga h (He.glo_ok X G (c.fact 33 (f := .glo "InvalidOperation") rfl)))]; exact ⟨excCB_ok (cx.ex 5 (p := excCB "InvalidOperation") rfl), of_decide_eq_true (cx.ex 90 (p := kitXB "InvalidOperation" "InvalidNumber" false) rfl)⟩) (tsL_cons (fun C h => by rw [(at_ga h (He.glo_ok X G (c.fact 35 (f := .glo "InvalidProgram") rfl)))]; exact ⟨excCB_ok (cx.ex 6 (p := excCB "InvalidProgram") rfl), of_decide_eq_true (cx.ex 91 (p := kitXB "InvalidProgram" "InvalidNumber" false) rfl)⟩) (tsL_cons (fun C h => by rw [(at_ga h (He.glo_ok X G (c.fact 37 (f := .glo "InvalidResults") rfl)))]; exact ⟨excCB_ok (cx.ex 7 (p := excCB "InvalidResults") rfl), of_decide_eq_true (cx.ex 92 (p := kitXB "InvalidResults" "InvalidNumber" false) rfl)⟩) (tsL_cons (fun C h => by rw [(at_ga h (He.glo_ok X G (c.fact 39 (f := .glo "InvalidRow") rfl)))]; exact ⟨excCB_ok (cx.ex 8 (p := excCB "InvalidRow") rfl), of_decide_eq_true (cx.ex 93 (p := kitXB "InvalidRow" "InvalidNumber" false) rfl)⟩) (tsL_cons (fun C h => by rw [(at_ga h (He.glo_ok X G (c.fact 41 (f := .glo "InvalidRows") rfl)))]; exact ⟨excCB_ok (cx.ex 9 (p := excCB "InvalidRows") rfl), of_decide_eq_true (cx.ex 94 (p := kitXB "InvalidRows" "InvalidNumber" false) rfl)⟩) (tsL_cons (fun C h => by rw [(at_ga h (He.glo_ok X G (c.fact 43 (f := .glo "InvalidText") rfl)))]; exact ⟨excCB_ok (cx.ex 10 (p := excCB "InvalidText") rfl), of_decide_eq_true (cx.ex 95 (p := kitXB "InvalidText" "InvalidNumber" false) rfl)⟩) (tsL_cons (fun C h => by rw [(at_ga h (He.glo_ok X G (c.fact 45 (f := .glo "InvalidWord") rfl)))]; exact ⟨excCB_ok (cx.ex 11 (p := excCB "InvalidWord") rfl), of_decide_eq_true (cx.ex 96 (p := kitXB "InvalidWord" "InvalidNumber" false) rfl)⟩) (tsL_cons (fun C h => by rw [(at_ga h (He.glo_ok X G (c.fact 55 (f := .glo "Locked") rfl)))]; exact ⟨excCB_ok (cx.ex 12 (p := excCB "Locked") rfl), of_decide_eq_true (cx.ex 97 (p := kitXB "Locked" "InvalidNumber" false) rfl)⟩) (tsL_cons (fun C h => by rw [(at_ga h (He.glo_ok X G (c.fact 47 (f := .glo "NoProgram") rfl)))]; exact ⟨excCB_ok (cx.ex 13 (p := excCB "NoProgram") rfl), of_decide_eq_true (cx.ex 98 (p := kitXB "NoProgram" "InvalidNumber" false) rfl)⟩) (tsL_cons (fun C h => by rw [(at_ga h (He.glo_ok X G (c.fact 49 (f := .glo "NoSource") rfl)))]; exact ⟨excCB_ok (cx.ex 14 (p := excCB "NoSource") rfl), of_decide_eq_true (cx.ex 99 (p := kitXB "NoSource" "InvalidNumber" false) rfl)⟩) (tsL_cons (fun C h => by rw [(at_ga h (He.glo_ok X G (c.fact 51 (f := .glo "NothingToUndo") rfl)))]; exact ⟨excCB_ok (cx.ex 15 (p := excCB "NothingToUndo") rfl), of_decide_eq_true (cx.ex 100 (p := kitXB "NothingToUndo" "InvalidNumber" false) rfl)⟩) (tsL_cons (fun C h => by rw [(at_ga h (He.glo_ok X G (c.fact 53 (f := .glo "TooLarge") rfl)))]; exact ⟨excCB_ok (cx.ex 16 (p := excCB "TooLarge") rfl), of_decide_eq_true (cx.ex 101 (p := kitXB "TooLarge" "InvalidNumber" false) rfl)⟩) tsL_nil)))))))))))))))))
    ti_InvalidOperation := (tsL_cons (fun C h => by rw [(at_ga h (He.glo_ok X G (c.fact 23 (f := .glo "FrontBackError") rfl)))]; exact ⟨excCB_ok (cx.ex 0 (p := excCB "FrontBackError") rfl), of_decide_eq_true (cx.ex 102 (p := kitXB "FrontBackError" "InvalidOperation" false) rfl)⟩) (tsL_cons (fun C h => by rw [(at_ga h (He.glo_ok X G (c.fact 25 (f := .glo "InvalidFences") rfl)))]; exact ⟨excCB_ok (cx.ex 1 (p := excCB "InvalidFences") rfl), of_decide_eq_true (cx.ex 103 (p := kitXB "InvalidFences" "InvalidOperation" false) rfl)⟩) (tsL_cons (fun C h => by rw [(at_ga h (He.glo_ok X G (c.fact 27 (f := .glo "InvalidMeaning") rfl)))]; exact ⟨excCB_ok (cx.ex 2 (p := excCB "InvalidMeaning") rfl), of_decide_eq_true (cx.ex 104 (p := kitXB "InvalidMeaning" "InvalidOperation" false) rfl)⟩) (tsL_cons (fun C h => by rw [(at_ga h (He.glo_ok X G (c.fact 29 (f := .glo "InvalidNames") rfl)))]; exact ⟨excCB_ok (cx.ex 3 (p := excCB "InvalidNames") rfl), of_decide_eq_true (cx.ex 105 (p := kitXB "InvalidNames" "InvalidOperation" false) rfl)⟩) (tsL_cons (fun C h => by rw [(at_ga h (He.glo_ok X G (c.fact 31 (f := .glo "InvalidNumber") rfl)))]; exact ⟨excCB_ok (cx.ex 4 (p := excCB "InvalidNumber") rfl), of_decide_eq_true (cx.ex 106 (p := kitXB "InvalidNumber" "InvalidOperation" false) rfl)⟩) (tsL_cons (fun C h => by rw [(at_ga h (He.glo_ok X G (c.fact 33 (f := .glo "InvalidOperation") rfl)))]; exact ⟨excCB_ok (cx.ex 5 (p := excCB "InvalidOperation") rfl), of_decide_eq_true (cx.ex 107 (p := kitXB "InvalidOperation" "InvalidOperation" true) rfl)⟩) (tsL_cons (fun C h => by rw [(at_ga h (He.glo_ok X G (c.fact 35 (f := .glo "InvalidProgram") rfl)))]; exact ⟨excCB_ok (cx.ex 6 (p := excCB "InvalidProgram") rfl), of_decide_eq_true (cx.ex 108 (p := kitXB "InvalidProgram" "InvalidOperation" false) rfl)⟩) (tsL_cons (fun C h => by rw [(at_ga h (He.glo_ok X G (c.fact 37 (f := .glo "InvalidResults") rfl)))]; exact ⟨excCB_ok (cx.ex 7 (p := excCB "InvalidResults") rfl), of_decide_eq_true (cx.ex 109 (p := kitXB "InvalidResults" "InvalidOperation" false) rfl)⟩) (tsL_cons (fun C h => by rw [(at_ga h (He.glo_ok X G (c.fact 39 (f := .glo "InvalidRow") rfl)))]; exact ⟨excCB_ok (cx.ex 8 (p := excCB "InvalidRow") rfl), of_decide_eq_true (cx.ex 110 (p := kitXB "InvalidRow" "InvalidOperation" false) rfl)⟩) (tsL_cons (fun C h => by rw [(at_ga h (He.glo_ok X G (c.fact 41 (f := .glo "InvalidRows") rfl)))]; exact ⟨excCB_ok (cx.ex 9 (p := excCB "InvalidRows") rfl), of_decide_eq_true (cx.ex 111 (p := kitXB "InvalidRows" "InvalidOperation" false) rfl)⟩) (tsL_cons (fun C h => by rw [(at_ga h (He.glo_ok X G (c.fact 43 (f := .glo "InvalidText") rfl)))]; exact ⟨excCB_ok (cx.ex 10 (p := excCB "InvalidText") rfl), of_decide_eq_true (cx.ex 112 (p := kitXB "InvalidText" "InvalidOperation" false) rfl)⟩) (tsL_cons (fun C h => by rw [(at_ga h (He.glo_ok X G (c.fact 45 (f := .glo "InvalidWord") rfl)))]; exact ⟨excCB_ok (cx.ex 11 (p := excCB "InvalidWord") rfl), of_decide_eq_true (cx.ex 113 (p := kitXB "InvalidWord" "InvalidOperation" false) rfl)⟩) (tsL_cons (fun C h => by rw [(at_ga h (He.glo_ok X G (c.fact 55 (f := .glo "Locked") rfl)))]; exact ⟨excCB_ok (cx.ex 12 (p := excCB "Locked") rfl), of_decide_eq_true (cx.ex 114 (p := kitXB "Locked" "InvalidOperation" false) rfl)⟩) (tsL_cons (fun C h => by rw [(at_ga h (He.glo_ok X G (c.fact 47 (f := .glo "NoProgram") rfl)))]; exact ⟨excCB_ok (cx.ex 13 (p := excCB "NoProgram") rfl), of_decide_eq_true (cx.ex 115 (p := kitXB "NoProgram" "InvalidOperation" false) rfl)⟩) (tsL_cons (fun C h => by rw [(at_ga h (He.glo_ok X G (c.fact 49 (f := .glo "NoSource") rfl)))]; exact ⟨excCB_ok (cx.ex 14 (p := excCB "NoSource") rfl), of_decide_eq_true (cx.ex 116 (p := kitXB "NoSource" "InvalidOperation" false) rfl)⟩) (tsL_cons (fun C h => by rw [(at_ga h (He.glo_ok X G (c.fact 51 (f := .glo "NothingToUndo") rfl)))]; exact ⟨excCB_ok (cx.ex 15 (p := excCB "NothingToUndo") rfl), of_decide_eq_true (cx.ex 117 (p := kitXB "NothingToUndo" "InvalidOperation" false) rfl)⟩) (tsL_cons (fun C h => by rw [(at_ga h (He.glo_ok X G (c.fact 53 (f := .glo "TooLarge") rfl)))]; exact ⟨excCB_ok (cx.ex 16 (p := excCB "TooLarge") rfl), of_decide_eq_true (cx.ex 118 (p := kitXB "TooLarge" "InvalidOperation" false) rfl)⟩) tsL_nil)))))))))))))))))
    ti_InvalidProgram := (tsL_cons (fun C h => by rw [(at_ga h (He.glo_ok X G (c.fact 23 (f := .glo "FrontBackError") rfl)))]; exact ⟨excCB_ok (cx.ex 0 (p := excCB "FrontBackError") rfl), of_decide_eq_true (cx.ex 119 (p := kitXB "FrontBackError" "InvalidProgram" false) rfl)⟩) (tsL_cons (fun C h => by rw [(at_ga h (He.glo_ok X G (c.fact 25 (f := .glo "InvalidFences") rfl)))]; exact ⟨excCB_ok (cx.ex 1 (p := excCB "InvalidFences") rfl), of_decide_eq_true (cx.ex 120 (p := kitXB "InvalidFences" "InvalidProgram" false) rfl)⟩) (tsL_cons (fun C h => by rw [(at_ga h (He.glo_ok X G (c.fact 27 (f := .glo "InvalidMeaning") rfl)))]; exact ⟨excCB_ok (cx.ex 2 (p := excCB "InvalidMeaning") rfl), of_decide_eq_true (cx.ex 121 (p := kitXB "InvalidMeaning" "InvalidProgram" false) rfl)⟩) (tsL_cons (fun C h => by rw [(at_ga h (He.glo_ok X G (c.fact 29 (f := .glo "InvalidNames") rfl)))]; exact ⟨excCB_ok (cx.ex 3 (p := excCB "InvalidNames") rfl), of_decide_eq_true (cx.ex 122 (p := kitXB "InvalidNames" "InvalidProgram" false) rfl)⟩) (tsL_cons (fun C h => by rw [(at_ga h (He.glo_ok X G (c.fact 31 (f := .glo "InvalidNumber") rfl)))]; exact ⟨excCB_ok (cx.ex 4 (p := excCB "InvalidNumber") rfl), of_decide_eq_true (cx.ex 123 (p := kitXB "InvalidNumber" "InvalidProgram" false) rfl)⟩) (tsL_cons (fun C h => by rw [(at_ga h (He.glo_ok X G (c.fact 33 (f := .glo "InvalidOperation") rfl)))]; exact ⟨excCB_ok (cx.ex 5 (p := excCB "InvalidOperation") rfl), of_decide_eq_true (cx.ex 124 (p := kitXB "InvalidOperation" "InvalidProgram" false) rfl)⟩) (tsL_cons (fun C h => by rw [(at_ga h (He.glo_ok X G (c.fact 35 (f := .glo "InvalidProgram") rfl)))]; exact ⟨excCB_ok (cx.ex 6 (p := excCB "InvalidProgram") rfl), of_decide_eq_true (cx.ex 125 (p := kitXB "InvalidProgram" "InvalidProgram" true) rfl)⟩) (tsL_cons (fun C h => by rw [(at_ga h (He.glo_ok X G (c.fact 37 (f := .glo "InvalidResults") rfl)))]; exact ⟨excCB_ok (cx.ex 7 (p := excCB "InvalidResults") rfl), of_decide_eq_true (cx.ex 126 (p := kitXB "InvalidResults" "InvalidProgram" false) rfl)⟩) (tsL_cons (fun C h => by rw [(at_ga h (He.glo_ok X G (c.fact 39 (f := .glo "InvalidRow") rfl)))]; exact ⟨excCB_ok (cx.ex 8 (p := excCB "InvalidRow") rfl), of_decide_eq_true (cx.ex 127 (p := kitXB "InvalidRow" "InvalidProgram" false) rfl)⟩) (tsL_cons (fun C h => by rw [(at_ga h (He.glo_ok X G (c.fact 41 (f := .glo "InvalidRows") rfl)))]; exact ⟨excCB_ok (cx.ex 9 (p := excCB "InvalidRows") rfl), of_decide_eq_true (cx.ex 128 (p := kitXB "InvalidRows" "InvalidProgram" false) rfl)⟩) (tsL_cons (fun C h => by rw [(at_ga h (He.glo_ok X G (c.fact 43 (f := .glo "InvalidText") rfl)))]; exact ⟨excCB_ok (cx.ex 10 (p := excCB "InvalidText") rfl), of_decide_eq_true (cx.ex 129 (p := kitXB "InvalidText" "InvalidProgram" false) rfl)⟩) (tsL_cons (fun C h => by rw [(at_ga h (He.glo_ok X G (c.fact 45 (f := .glo "InvalidWord") rfl)))]; exact ⟨excCB_ok (cx.ex 11 (p := excCB "InvalidWord") rfl), of_decide_eq_true (cx.ex 130 (p := kitXB "InvalidWord" "InvalidProgram" false) rfl)⟩) (tsL_cons (fun C h => by rw [(at_ga h (He.glo_ok X G (c.fact 55 (f := .glo "Locked") rfl)))]; exact ⟨excCB_ok (cx.ex 12 (p := excCB "Locked") rfl), of_decide_eq_true (cx.ex 131 (p := kitXB "Locked" "InvalidProgram" false) rfl)⟩) (tsL_cons (fun C h => by rw [(at_ga h (He.glo_ok X G (c.fact 47 (f := .glo "NoProgram") rfl)))]; exact ⟨excCB_ok (cx.ex 13 (p := excCB "NoProgram") rfl), of_decide_eq_true (cx.ex 132 (p := kitXB "NoProgram" "InvalidProgram" false) rfl)⟩) (tsL_cons (fun C h => by rw [(at_ga h (He.glo_ok X G (c.fact 49 (f := .glo "NoSource") rfl)))]; exact ⟨excCB_ok (cx.ex 14 (p := excCB "NoSource") rfl), of_decide_eq_true (cx.ex 133 (p := kitXB "NoSource" "InvalidProgram" false) rfl)⟩) (tsL_cons (fun C h => by rw [(at_ga h (He.glo_ok X G (c.fact 51 (f := .glo "NothingToUndo") rfl)))]; exact ⟨excCB_ok (cx.ex 15 (p := excCB "NothingToUndo") rfl), of_decide_eq_true (cx.ex 134 (p := kitXB "NothingToUndo" "InvalidProgram" false) rfl)⟩) (tsL_cons (fun C h => by rw [(at_ga h (He.glo_ok X G (c.fact 53 (f := .glo "TooLarge") rfl)))]; exact ⟨excCB_ok (cx.ex 16 (p := excCB "TooLarge") rfl), of_decide_eq_true (cx.ex 135 (p := kitXB "TooLarge" "InvalidProgram" false) rfl)⟩) tsL_nil)))))))))))))))))
    ti_InvalidResults := (tsL_cons (fun C h => by rw [(at_ga h (He.glo_ok X G (c.fact 23 (f := .glo "FrontBackError") rfl)))]; exact ⟨excCB_ok (cx.ex 0 (p := excCB "FrontBackError") rfl), of_decide_eq_true (cx.ex 136 (p := kitXB "FrontBackError" "InvalidResults" false) rfl)⟩) (tsL_cons (fun C h => by rw [(at_ga h (He.glo_ok X G (c.fact 25 (f := .glo "InvalidFences") rfl)))]; exact ⟨excCB_ok (cx.ex 1 (p := excCB "InvalidFences") rfl), of_decide_eq_true (cx.ex 137 (p := kitXB "InvalidFences" "InvalidResults" false) rfl)⟩) (tsL_cons (fun C h => by rw [(at_ga h (He.glo_ok X G (c.fact 27 (f := .glo "InvalidMeaning") rfl)))]; exact ⟨excCB_ok (cx.ex 2 (p := excCB "InvalidMeaning") rfl), of_decide_eq_true (cx.ex 138 (p := kitXB "InvalidMeaning" "InvalidResults" false) rfl)⟩) (tsL_cons (fun C h => by rw [(at_ga h (He.glo_ok X G (c.fact 29 (f := .glo "InvalidNames") rfl)))]; exact ⟨excCB_ok (cx.ex 3 (p := excCB "InvalidNames") rfl), of_decide_eq_true (cx.ex 139 (p := kitXB "InvalidNames" "InvalidResults" false) rfl)⟩) (tsL_cons (fun C h => by rw [(at_ga h (He.glo_ok X G (c.fact 31 (f := .glo "InvalidNumber") rfl)))]; exact ⟨excCB_ok (cx.ex 4 (p := excCB "InvalidNumber") rfl), of_decide_eq_true (cx.ex 140 (p := kitXB "InvalidNumber" "InvalidResults" false) rfl)⟩) (tsL_cons (fun C h => by rw [(at_ga h (He.glo_ok X G (c.fact 33 (f := .glo "InvalidOperation") rfl)))]; exact ⟨excCB_ok (cx.ex 5 (p := excCB "InvalidOperation") rfl), of_decide_eq_true (cx.ex 141 (p := kitXB "InvalidOperation" "InvalidResults" false) rfl)⟩) (tsL_cons (fun C h => by rw [(at_ga h (He.glo_ok X G (c.fact 35 (f := .glo "InvalidProgram") rfl)))]; exact ⟨excCB_ok (cx.ex 6 (p := excCB "InvalidProgram") rfl), of_decide_eq_true (cx.ex 142 (p := kitXB "InvalidProgram" "InvalidResults" false) rfl)⟩) (tsL_cons (fun C h => by rw [(at_ga h (He.glo_ok X G (c.fact 37 (f := .glo "InvalidResults") rfl)))]; exact ⟨excCB_ok (cx.ex 7 (p := excCB "InvalidResults") rfl), of_decide_eq_true (cx.ex 143 (p := kitXB "InvalidResults" "InvalidResults" true) rfl)⟩) (tsL_cons (fun C h => by rw [(at_ga h (He.glo_ok X G (c.fact 39 (f := .glo "InvalidRow") rfl)))]; exact ⟨excCB_ok (cx.ex 8 (p := excCB "InvalidRow") rfl), of_decide_eq_true (cx.ex 144 (p := kitXB "InvalidRow" "InvalidResults" false) rfl)⟩) (tsL_cons (fun C h => by rw [(at_ga h (He.glo_ok X G (c.fact 41 (f := .glo "InvalidRows") rfl)))]; exact ⟨excCB_ok (cx.ex 9 (p := excCB "InvalidRows") rfl), of_decide_eq_true (cx.ex 145 (p := kitXB "InvalidRows" "InvalidResults" false) rfl)⟩) (tsL_cons (fun C h => by rw [(at_ga h (He.glo_ok X G (c.fact 43 (f := .glo "InvalidText") rfl)))]; exact ⟨excCB_ok (cx.ex 10 (p := excCB "InvalidText") rfl), of_decide_eq_true (cx.ex 146 (p := kitXB "InvalidText" "InvalidResults" false) rfl)⟩) (tsL_cons (fun C h => by rw [(at_ga h (He.glo_ok X G (c.fact 45 (f := .glo "InvalidWord") rfl)))]; exact ⟨excCB_ok (cx.ex 11 (p := excCB "InvalidWord") rfl), of_decide_eq_true (cx.ex 147 (p := kitXB "InvalidWord" "InvalidResults" false) rfl)⟩) (tsL_cons (fun C h => by rw [(at_ga h (He.glo_ok X G (c.fact 55 (f := .glo "Locked") rfl)))]; exact ⟨excCB_ok (cx.ex 12 (p := excCB "Locked") rfl), of_decide_eq_true (cx.ex 148 (p := kitXB "Locked" "InvalidResults" false) rfl)⟩) (tsL_cons (fun C h => by rw [(at_ga h (He.glo_ok X G (c.fact 47 (f := .glo "NoProgram") rfl)))]; exact ⟨excCB_ok (cx.ex 13 (p := excCB "NoProgram") rfl), of_decide_eq_true (cx.ex 149 (p := kitXB "NoProgram" "InvalidResults" false) rfl)⟩) (tsL_cons (fun C h => by rw [(at_ga h (He.glo_ok X G (c.fact 49 (f := .glo "NoSource") rfl)))]; exact ⟨excCB_ok (cx.ex 14 (p := excCB "NoSource") rfl), of_decide_eq_true (cx.ex 150 (p := kitXB "NoSource" "InvalidResults" false) rfl)⟩) (tsL_cons (fun C h => by rw [(at_ga h (He.glo_ok X G (c.fact 51 (f := .glo "NothingToUndo") rfl)))]; exact ⟨excCB_ok (cx.ex 15 (p := excCB "NothingToUndo") rfl), of_decide_eq_true (cx.ex 151 (p := kitXB "NothingToUndo" "InvalidResults" false) rfl)⟩) (tsL_cons (fun C h => by rw [(at_ga h (He.glo_ok X G (c.fact 53 (f := .glo "TooLarge") rfl)))]; exact ⟨excCB_ok (cx.ex 16 (p := excCB "TooLarge") rfl), of_decide_eq_true (cx.ex 152 (p := kitXB "TooLarge" "InvalidResults" false) rfl)⟩) tsL_nil)))))))))))))))))
    ti_InvalidRow := (tsL_cons (fun C h => by rw [(at_ga h (He.glo_ok X G (c.fact 23 (f := .glo "FrontBackError") rfl)))]; exact ⟨excCB_ok (cx.ex 0 (p := excCB "FrontBackError") rfl), of_decide_eq_true (cx.ex 153 (p := kitXB "FrontBackError" "InvalidRow" false) rfl)⟩) (tsL_cons (fun C h => by rw [(at_ga h (He.glo_ok X G (c.fact 25 (f := .glo "InvalidFences") rfl)))]; exact ⟨excCB_ok (cx.ex 1 (p := excCB "InvalidFences") rfl), of_decide_eq_true (cx.ex 154 (p := kitXB "InvalidFences" "InvalidRow" false) rfl)⟩) (tsL_cons (fun C h => by rw [(at_ga h (He.glo_ok X G (c.fact 27 (f := .glo "InvalidMeaning") rfl)))]; exact ⟨excCB_ok (cx.ex 2 (p := excCB "InvalidMeaning") rfl), of_decide_eq_true (cx.ex 155 (p := kitXB "InvalidMeaning" "InvalidRow" false) rfl)⟩) (tsL_cons (fun C h => by rw [(at_ga h (He.glo_ok X G (c.fact 29 (f := .glo "InvalidNames") rfl)))]; exact ⟨excCB_ok (cx.ex 3 (p := excCB "InvalidNames") rfl), of_decide_eq_true (cx.ex 156 (p := kitXB "InvalidNames" "InvalidRow" false) rfl)⟩) (tsL_cons (fun C h => by rw [(at_ga h (He.glo_ok X G (c.fact 31 (f := .glo "InvalidNumber") rfl)))]; exact ⟨excCB_ok (cx.ex 4 (p := excCB "InvalidNumber") rfl), of_decide_eq_true (cx.ex 157 (p := kitXB "InvalidNumber" "InvalidRow" false) rfl)⟩) (tsL_cons (fun C h => by rw [(at_ga h (He.glo_ok X G (c.fact 33 (f := .glo "InvalidOperation") rfl)))]; exact ⟨excCB_ok (cx.ex 5 (p := excCB "InvalidOperation") rfl), of_decide_eq_true (cx.ex 158 (p := kitXB "InvalidOperation" "InvalidRow" false) rfl)⟩) (tsL_cons (fun C h => by rw [(at_ga h (He.glo_ok X G (c.fact 35 (f := .glo "InvalidProgram") rfl)))]; exact ⟨excCB_ok (cx.ex 6 (p := excCB "InvalidProgram") rfl), of_decide_eq_true (cx.ex 159 (p := kitXB "InvalidProgram" "InvalidRow" false) rfl)⟩) (tsL_cons (fun C h => by rw [(at_ga h (He.glo_ok X G (c.fact 37 (f := .glo "InvalidResults") rfl)))]; exact ⟨excCB_ok (cx.ex 7 (p := excCB "InvalidResults") rfl), of_decide_eq_true (cx.ex 160 (p := kitXB "InvalidResults" "InvalidRow" false) rfl)⟩) (tsL_cons (fun C h => by rw [(at_ga h (He.glo_ok X G (c.fact 39 (f := .glo "InvalidRow") rfl)))]; exact ⟨excCB_ok (cx.ex 8 (p := excCB "InvalidRow") rfl), of_decide_eq_true (cx.ex 161 (p := kitXB "InvalidRow" "InvalidRow" true) rfl)⟩) (tsL_cons (fun C h => by rw [(at_ga h (He.glo_ok X G (c.fact 41 (f := .glo "InvalidRows") rfl)))]; exact ⟨excCB_ok (cx.ex 9 (p := excCB "InvalidRows") rfl), of_decide_eq_true (cx.ex 162 (p := kitXB "InvalidRows" "InvalidRow" false) rfl)⟩) (tsL_cons (fun C h => by rw [(at_ga h (He.glo_ok X G (c.fact 43 (f := .glo "InvalidText") rfl)))]; exact ⟨excCB_ok (cx.ex 10 (p := excCB "InvalidText") rfl), of_decide_eq_true (cx.ex 163 (p := kitXB "InvalidText" "InvalidRow" false) rfl)⟩) (tsL_cons (fun C h => by rw [(at_ga h (He.glo_ok X G (c.fact 45 (f := .glo "InvalidWord") rfl)))]; exact ⟨excCB_ok (cx.ex 11 (p := excCB "InvalidWord") rfl), of_decide_eq_true (cx.ex 164 (p := kitXB "InvalidWord" "InvalidRow" false) rfl)⟩) (tsL_cons (fun C h => by rw [(at_ga h (He.glo_ok X G (c.fact 55 (f := .glo "Locked") rfl)))]; exact ⟨excCB_ok (cx.ex 12 (p := excCB "Locked") rfl), of_decide_eq_true (cx.ex 165 (p := kitXB "Locked" "InvalidRow" false) rfl)⟩) (tsL_cons (fun C h => by rw [(at_ga h (He.glo_ok X G (c.fact 47 (f := .glo "NoProgram") rfl)))]; exact ⟨excCB_ok (cx.ex 13 (p := excCB "NoProgram") rfl), of_decide_eq_true (cx.ex 166 (p := kitXB "NoProgram" "InvalidRow" false) rfl)⟩) (tsL_cons (fun C h => by rw [(at_ga h (He.glo_ok X G (c.fact 49 (f := .glo "NoSource") rfl)))]; exact ⟨excCB_ok (cx.ex 14 (p := excCB "NoSource") rfl), of_decide_eq_true (cx.ex 167 (p := kitXB "NoSource" "InvalidRow" false) rfl)⟩) (tsL_cons (fun C h => by rw [(at_ga h (He.glo_ok X G (c.fact 51 (f := .glo "NothingToUndo") rfl)))]; exact ⟨excCB_ok (cx.ex 15 (p := excCB "NothingToUndo") rfl), of_decide_eq_true (cx.ex 168 (p := kitXB "NothingToUndo" "InvalidRow" false) rfl)⟩) (tsL_cons (fun C h => by rw [(at_ga h (He.glo_ok X G (c.fact 53 (f := .glo "TooLarge") rfl)))]; exact ⟨excCB_ok (cx.ex 16 (p := excCB "TooLarge") rfl), of_decide_eq_true (cx.ex 169 (p := kitXB "TooLarge" "InvalidRow" false) rfl)⟩) tsL_nil)))))))))))))))))
    ti_InvalidRows := (tsL_cons (fun C h => by rw [(at_ga h (He.glo_ok X G (c.fact 23 (f := .glo "FrontBackError") rfl)))]; exact ⟨excCB_ok (cx.ex 0 (p := excCB "FrontBackError") rfl), of_decide_eq_true (cx.ex 170 (p := kitXB "FrontBackError" "InvalidRows" false) rfl)⟩) (tsL_cons (fun C h => by rw [(at_ga h (He.glo_ok X G (c.fact 25 (f := .glo "InvalidFences") rfl)))]; exact ⟨excCB_ok (cx.ex 1 (p := excCB "InvalidFences") rfl), of_decide_eq_true (cx.ex 171 (p := kitXB "InvalidFences" "InvalidRows" false) rfl)⟩) (tsL_cons (fun C h => by rw [(at_ga h (He.glo_ok X G (c.fact 27 (f := .glo "InvalidMeaning") rfl)))]; exact ⟨excCB_ok (cx.ex 2 (p := excCB "InvalidMeaning") rfl), of_decide_eq_true (cx.ex 172 (p := kitXB "InvalidMeaning" "InvalidRows" false) rfl)⟩) (tsL_cons (fun C h => by rw [(at_ga h (He.glo_ok X G (c.fact 29 (f := .glo "InvalidNames") rfl)))]; exact ⟨excCB_ok (cx.ex 3 (p := excCB "InvalidNames") rfl), of_decide_eq_true (cx.ex 173 (p := kitXB "InvalidNames" "InvalidRows" false) rfl)⟩) (tsL_cons (fun C h => by rw [(at_ga h (He.glo_ok X G (c.fact 31 (f := .glo "InvalidNumber") rfl)))]; exact ⟨excCB_ok (cx.ex 4 (p := excCB "InvalidNumber") rfl), of_decide_eq_true (cx.ex 174 (p := kitXB "InvalidNumber" "InvalidRows" false) rfl)⟩) (tsL_cons (fun C h => by rw [(at_ga h (He.glo_ok X G (c.fact 33 (f := .glo "InvalidOperation") rfl)))]; exact ⟨excCB_ok (cx.ex 5 (p := excCB "InvalidOperation") rfl), of_decide_eq_true (cx.ex 175 (p := kitXB "InvalidOperation" "InvalidRows" false) rfl)⟩) (tsL_cons (fun C h => by rw [(at_ga h (He.glo_ok X G (c.fact 35 (f := .glo "InvalidProgram") rfl)))]; exact ⟨excCB_ok (cx.ex 6 (p := excCB "InvalidProgram") rfl), of_decide_eq_true (cx.ex 176 (p := kitXB "InvalidProgram" "InvalidRows" false) rfl)⟩) (tsL_cons (fun C h => by rw [(at_ga h (He.glo_ok X G (c.fact 37 (f := .glo "InvalidResults") rfl)))]; exact ⟨excCB_ok (cx.ex 7 (p := excCB "InvalidResults") rfl), of_decide_eq_true (cx.ex 177 (p := kitXB "InvalidResults" "InvalidRows" false) rfl)⟩) (tsL_cons (fun C h => by rw [(at_ga h (He.glo_ok X G (c.fact 39 (f := .glo "InvalidRow") rfl)))]; exact ⟨excCB_ok (cx.ex 8 (p := excCB "InvalidRow") rfl), of_decide_eq_true (cx.ex 178 (p := kitXB "InvalidRow" "InvalidRows" false) rfl)⟩) (tsL_cons (fun C h => by rw [(at_ga h (He.glo_ok X G (c.fact 41 (f := .glo "InvalidRows") rfl)))]; exact ⟨excCB_ok (cx.ex 9 (p := excCB "InvalidRows") rfl), of_decide_eq_true (cx.ex 179 (p := kitXB "InvalidRows" "InvalidRows" true) rfl)⟩) (tsL_cons (fun C h => by rw [(at_ga h (He.glo_ok X G (c.fact 43 (f := .glo "InvalidText") rfl)))]; exact ⟨excCB_ok (cx.ex 10 (p := excCB "InvalidText") rfl), of_decide_eq_true (cx.ex 180 (p := kitXB "InvalidText" "InvalidRows" false) rfl)⟩) (tsL_cons (fun C h => by rw [(at_ga h (He.glo_ok X G (c.fact 45 (f := .glo "InvalidWord") rfl)))]; exact ⟨excCB_ok (cx.ex 11 (p := excCB "InvalidWord") rfl), of_decide_eq_true (cx.ex 181 (p := kitXB "InvalidWord" "InvalidRows" false) rfl)⟩) (tsL_cons (fun C h => by rw [(at_ga h (He.glo_ok X G (c.fact 55 (f := .glo "Locked") rfl)))]; exact ⟨excCB_ok (cx.ex 12 (p := excCB "Locked") rfl), of_decide_eq_true (cx.ex 182 (p := kitXB "Locked" "InvalidRows" false) rfl)⟩) (tsL_cons (fun C h => by rw [(at_ga h (He.glo_ok X G (c.fact 47 (f := .glo "NoProgram") rfl)))]; exact ⟨excCB_ok (cx.ex 13 (p := excCB "NoProgram") rfl), of_decide_eq_true (cx.ex 183 (p := kitXB "NoProgram" "InvalidRows" false) rfl)⟩) (tsL_cons (fun C h => by rw [(at_ga h (He.glo_ok X G (c.fact 49 (f := .glo "NoSource") rfl)))]; exact ⟨excCB_ok (cx.ex 14 (p := excCB "NoSource") rfl), of_decide_eq_true (cx.ex 184 (p := kitXB "NoSource" "InvalidRows" false) rfl)⟩) (tsL_cons (fun C h => by rw [(at_ga h (He.glo_ok X G (c.fact 51 (f := .glo "NothingToUndo") rfl)))]; exact ⟨excCB_ok (cx.ex 15 (p := excCB "NothingToUndo") rfl), of_decide_eq_true (cx.ex 185 (p := kitXB "NothingToUndo" "InvalidRows" false) rfl)⟩) (tsL_cons (fun C h => by rw [(at_ga h (He.glo_ok X G (c.fact 53 (f := .glo "TooLarge") rfl)))]; exact ⟨excCB_ok (cx.ex 16 (p := excCB "TooLarge") rfl), of_decide_eq_true (cx.ex 186 (p := kitXB "TooLarge" "InvalidRows" false) rfl)⟩) tsL_nil)))))))))))))))))
    ti_InvalidText := (tsL_cons (fun C h => by rw [(at_ga h (He.glo_ok X G (c.fact 23 (f := .glo "FrontBackError") rfl)))]; exact ⟨excCB_ok (cx.ex 0 (p := excCB "FrontBackError") rfl), of_decide_eq_true (cx.ex 187 (p := kitXB "FrontBackError" "InvalidText" false) rfl)⟩) (tsL_cons (fun C h => by rw [(at_ga h (He.glo_ok X G (c.fact 25 (f := .glo "InvalidFences") rfl)))]; exact ⟨excCB_ok (cx.ex 1 (p := excCB "InvalidFences") rfl), of_decide_eq_true (cx.ex 188 (p := kitXB "InvalidFences" "InvalidText" false) rfl)⟩) (tsL_cons (fun C h => by rw [(at_ga h (He.glo_ok X G (c.fact 27 (f := .glo "InvalidMeaning") rfl)))]; exact ⟨excCB_ok (cx.ex 2 (p := excCB "InvalidMeaning") rfl), of_decide_eq_true (cx.ex 189 (p := kitXB "InvalidMeaning" "InvalidText" false) rfl)⟩) (tsL_cons (fun C h => by rw [(at_ga h (He.glo_ok X G (c.fact 29 (f := .glo "InvalidNames") rfl)))]; exact ⟨excCB_ok (cx.ex 3 (p := excCB "InvalidNames") rfl), of_decide_eq_true (cx.ex 190 (p := kitXB "InvalidNames" "InvalidText" false) rfl)⟩) (tsL_cons (fun C h => by rw [(at_ga h (He.glo_ok X G (c.fact 31 (f := .glo "InvalidNumber") rfl)))]; exact ⟨excCB_ok (cx.ex 4 (p := excCB "InvalidNumber") rfl), of_decide_eq_true (cx.ex 191 (p := kitXB "InvalidNumber" "InvalidText" false) rfl)⟩) (tsL_cons (fun C h => by rw [(at_ga h (He.glo_ok X G (c.fact 33 (f := .glo "InvalidOperation") rfl)))]; exact ⟨excCB_ok (cx.ex 5 (p := excCB "InvalidOperation") rfl), of_decide_eq_true (cx.ex 192 (p := kitXB "InvalidOperation" "InvalidText" false) rfl)⟩) (tsL_cons (fun C h => by rw [(at_ga h (He.glo_ok X G (c.fact 35 (f := .glo "InvalidProgram") rfl)))]; exact ⟨excCB_ok (cx.ex 6 (p := excCB "InvalidProgram") rfl), of_decide_eq_true (cx.ex 193 (p := kitXB "InvalidProgram" "InvalidText" false) rfl)⟩) (tsL_cons (fun C h => by rw [(at_ga h (He.glo_ok X G (c.fact 37 (f := .glo "InvalidResults") rfl)))]; exact ⟨excCB_ok (cx.ex 7 (p := excCB "InvalidResults") rfl), of_decide_eq_true (cx.ex 194 (p := kitXB "InvalidResults" "InvalidText" false) rfl)⟩) (tsL_cons (fun C h => by rw [(at_ga h (He.glo_ok X G (c.fact 39 (f := .glo "InvalidRow") rfl)))]; exact ⟨excCB_ok (cx.ex 8 (p := excCB "InvalidRow") rfl), of_decide_eq_true (cx.ex 195 (p := kitXB "InvalidRow" "InvalidText" false) rfl)⟩) (tsL_cons (fun C h => by rw [(at_ga h (He.glo_ok X G (c.fact 41 (f := .glo "InvalidRows") rfl)))]; exact ⟨excCB_ok (cx.ex 9 (p := excCB "InvalidRows") rfl), of_decide_eq_true (cx.ex 196 (p := kitXB "InvalidRows" "InvalidText" false) rfl)⟩) (tsL_cons (fun C h => by rw [(at_ga h (He.glo_ok X G (c.fact 43 (f := .glo "InvalidText") rfl)))]; exact ⟨excCB_ok (cx.ex 10 (p := excCB "InvalidText") rfl), of_decide_eq_true (cx.ex 197 (p := kitXB "InvalidText" "InvalidText" true) rfl)⟩) (tsL_cons (fun C h => by rw [(at_ga h (He.glo_ok X G (c.fact 45 (f := .glo "InvalidWord") rfl)))]; exact ⟨excCB_ok (cx.ex 11 (p := excCB "InvalidWord") rfl), of_decide_eq_true (cx.ex 198 (p := kitXB "InvalidWord" "InvalidText" false) rfl)⟩) (tsL_cons (fun C h => by rw [(at_ga h (He.glo_ok X G (c.fact 55 (f := .glo "Locked") rfl)))]; exact ⟨excCB_ok (cx.ex 12 (p := excCB "Locked") rfl), of_decide_eq_true (cx.ex 199 (p := kitXB "Locked" "InvalidText" false) rfl)⟩) (tsL_cons (fun C h => by rw [(at_ga h (He.glo_ok X G (c.fact 47 (f := .glo "NoProgram") rfl)))]; exact ⟨excCB_ok (cx.ex 13 (p := excCB "NoProgram") rfl), of_decide_eq_true (cx.ex 200 (p := kitXB "NoProgram" "InvalidText" false) rfl)⟩) (tsL_cons (fun C h => by rw [(at_ga h (He.glo_ok X G (c.fact 49 (f := .glo "NoSource") rfl)))]; exact ⟨excCB_ok (cx.ex 14 (p := excCB "NoSource") rfl), of_decide_eq_true (cx.ex 201 (p := kitXB "NoSource" "InvalidText" false) rfl)⟩) (tsL_cons (fun C h => by rw [(at_ga h (He.glo_ok X G (c.fact 51 (f := .glo "NothingToUndo") rfl)))]; exact ⟨excCB_ok (cx.ex 15 (p := excCB "NothingToUndo") rfl), of_decide_eq_true (cx.ex 202 (p := kitXB "NothingToUndo" "InvalidText" false) rfl)⟩) (tsL_cons (fun C h => by rw [(at_ga h (He.glo_ok X G (c.fact 53 (f := .glo "TooLarge") rfl)))]; exact ⟨excCB_ok (cx.ex 16 (p := excCB "TooLarge") rfl), of_decide_eq_true (cx.ex 203 (p := kitXB "TooLarge" "InvalidText" false) rfl)⟩) tsL_nil)))))))))))))))))
    ti_InvalidWord := (tsL_cons (fun C h => by rw [(at_ga h (He.glo_ok X G (c.fact 23 (f := .glo "FrontBackError") rfl)))]; exact ⟨excCB_ok (cx.ex 0 (p := excCB "FrontBackError") rfl), of_decide_eq_true (cx.ex 204 (p := kitXB "FrontBackError" "InvalidWord" false) rfl)⟩) (tsL_cons (fun C h => by rw [(at_ga h (He.glo_ok X G (c.fact 25 (f := .glo "InvalidFences") rfl)))]; exact ⟨excCB_ok (cx.ex 1 (p := excCB "InvalidFences") rfl), of_decide_eq_true (cx.ex 205 (p := kitXB "InvalidFences" "InvalidWord" false) rfl)⟩) (tsL_cons (fun C h => by rw [(at_ga h (He.glo_ok X G (c.fact 27 (f := .glo "InvalidMeaning") rfl)))]; exact ⟨excCB_ok (cx.ex 2 (p := excCB "InvalidMeaning") rfl), of_decide_eq_true (cx.ex 206 (p := kitXB "InvalidMeaning" "InvalidWord" false) rfl)⟩) (tsL_cons (fun C h => by rw [(at_ga h (He.glo_ok X G (c.fact 29 (f := .glo "InvalidNames") rfl)))]; exact ⟨excCB_ok (cx.ex 3 (p := excCB "InvalidNames") rfl), of_decide_eq_true (cx.ex 207 (p := kitXB "InvalidNames" "InvalidWord" false) rfl)⟩) (tsL_cons (fun C h => by rw [(at_ga h (He.glo_ok X G (c.fact 31 (f := .glo "InvalidNumber") rfl)))]; exact ⟨excCB_ok (cx.ex 4 (p := excCB "InvalidNumber") rfl), of_decide_eq_true (cx.ex 208 (p := kitXB "InvalidNumber" "InvalidWord" false) rfl)⟩) (tsL_cons (fun C h => by rw [(at_ga h (He.glo_ok X G (c.fact 33 (f := .glo "InvalidOperation") rfl)))]; exact ⟨excCB_ok (cx.ex 5 (p := excCB "InvalidOperation") rfl), of_decide_eq_true (cx.ex 209 (p := kitXB "InvalidOperation" "InvalidWord" false) rfl)⟩) (tsL_cons (fun C h => by rw [(at_ga h (He.glo_ok X G (c.fact 35 (f := .glo "InvalidProgram") rfl)))]; exact ⟨excCB_ok (cx.ex 6 (p := excCB "InvalidProgram") rfl), of_decide_eq_true (cx.ex 210 (p := kitXB "InvalidProgram" "InvalidWord" false) rfl)⟩) (tsL_cons (fun C h => by rw [(at_ga h (He.glo_ok X G (c.fact 37 (f := .glo "InvalidResults") rfl)))]; exact ⟨excCB_ok (cx.ex 7 (p := excCB "InvalidResults") rfl), of_decide_eq_true (cx.ex 211 (p := kitXB "InvalidResults" "InvalidWord" false) rfl)⟩) (tsL_cons (fun C h => by rw [(at_ga h (He.glo_ok X G (c.fact 39 (f := .glo "InvalidRow") rfl)))]; exact ⟨excCB_ok (cx.ex 8 (p := excCB "InvalidRow") rfl), of_decide_eq_true (cx.ex 212 (p := kitXB "InvalidRow" "InvalidWord" false) rfl)⟩) (tsL_cons (fun C h => by rw [(at_ga h (He.glo_ok X G (c.fact 41 (f := .glo "InvalidRows") rfl)))]; exact ⟨excCB_ok (cx.ex 9 (p := excCB "InvalidRows") rfl), of_decide_eq_true (cx.ex 213 (p := kitXB "InvalidRows" "InvalidWord" false) rfl)⟩) (tsL_cons (fun C h => by rw [(at_ga h (He.glo_ok X G (c.fact 43 (f := .glo "InvalidText") rfl)))]; exact ⟨excCB_ok (cx.ex 10 (p := excCB "InvalidText") rfl), of_decide_eq_true (cx.ex 214 (p := kitXB "InvalidText" "InvalidWord" false) rfl)⟩) (tsL_cons (fun C h => by rw [(at_ga h (He.glo_ok X G (c.fact 45 (f := .glo "InvalidWord") rfl)))]; exact ⟨excCB_ok (cx.ex 11 (p := excCB "InvalidWord") rfl), of_decide_eq_true (cx.ex 215 (p := kitXB "InvalidWord" "InvalidWord" true) rfl)⟩) (tsL_cons (fun C h => by rw [(at_ga h (He.glo_ok X G (c.fact 55 (f := .glo "Locked") rfl)))]; exact ⟨excCB_ok (cx.ex 12 (p := excCB "Locked") rfl), of_decide_eq_true (cx.ex 216 (p := kitXB "Locked" "InvalidWord" false) rfl)⟩) (tsL_cons (fun C h => by rw [(at_ga h (He.glo_ok X G (c.fact 47 (f := .glo "NoProgram") rfl)))]; exact ⟨excCB_ok (cx.ex 13 (p := excCB "NoProgram") rfl), of_decide_eq_true (cx.ex 217 (p := kitXB "NoProgram" "InvalidWord" false) rfl)⟩) (tsL_cons (fun C h => by rw [(at_ga h (He.glo_ok X G (c.fact 49 (f := .glo "NoSource") rfl)))]; exact ⟨excCB_ok (cx.ex 14 (p := excCB "NoSource") rfl), of_decide_eq_true (cx.ex 218 (p := kitXB "NoSource" "InvalidWord" false) rfl)⟩) (tsL_cons (fun C h => by rw [(at_ga h (He.glo_ok X G (c.fact 51 (f := .glo "NothingToUndo") rfl)))]; exact ⟨excCB_ok (cx.ex 15 (p := excCB "NothingToUndo") rfl), of_decide_eq_true (cx.ex 219 (p := kitXB "NothingToUndo" "InvalidWord" false) rfl)⟩) (tsL_cons (fun C h => by rw [(at_ga h (He.glo_ok X G (c.fact 53 (f := .glo "TooLarge") rfl)))]; exact ⟨excCB_ok (cx.ex 16 (p := excCB "TooLarge") rfl), of_decide_eq_true (cx.ex 220 (p := kitXB "TooLarge" "InvalidWord" false) rfl)⟩) tsL_nil)))))))))))))))))
    ti_Locked := (tsL_cons (fun C h => by rw [(at_ga h (He.glo_ok X G (c.fact 23 (f := .glo "FrontBackError") rfl)))]; exact ⟨excCB_ok (cx.ex 0 (p := excCB "FrontBackError") rfl), of_decide_eq_true (cx.ex 221 (p := kitXB "FrontBackError" "Locked" false) rfl)⟩) (tsL_cons (fun C h => by rw [(at_ga h (He.glo_ok X G (c.fact 25 (f := .glo "InvalidFences") rfl)))]; exact ⟨excCB_ok (cx.ex 1 (p := excCB "InvalidFences") rfl), of_decide_eq_true (cx.ex 222 (p := kitXB "InvalidFences" "Locked" false) rfl)⟩) (tsL_cons (fun C h => by rw [(at_ga h (He.glo_ok X G (c.fact 27 (f := .glo "InvalidMeaning") rfl)))]; exact ⟨excCB_ok (cx.ex 2 (p := excCB "InvalidMeaning") rfl), of_decide_eq_true (cx.ex 223 (p := kitXB "InvalidMeaning" "Locked" false) rfl)⟩) (tsL_cons (fun C h => by rw [(at_ga h (He.glo_ok X G (c.fact 29 (f := .glo "InvalidNames") rfl)))]; exact ⟨excCB_ok (cx.ex 3 (p := excCB "InvalidNames") rfl), of_decide_eq_true (cx.ex 224 (p := kitXB "InvalidNames" "Locked" false) rfl)⟩) (tsL_cons (fun C h => by rw [(at_ga h (He.glo_ok X G (c.fact 31 (f := .glo "InvalidNumber") rfl)))]; exact ⟨excCB_ok (cx.ex 4 (p := excCB "InvalidNumber") rfl), of_decide_eq_true (cx.ex 225 (p := kitXB "InvalidNumber" "Locked" false) rfl)⟩) (tsL_cons (fun C h => by rw [(at_ga h (He.glo_ok X G (c.fact 33 (f := .glo "InvalidOperation") rfl)))]; exact ⟨excCB_ok (cx.ex 5 (p := excCB "InvalidOperation") rfl), of_decide_eq_true (cx.ex 226 (p := kitXB "InvalidOperation" "Locked" false) rfl)⟩) (tsL_cons (fun C h => by rw [(at_ga h (He.glo_ok X G (c.fact 35 (f := .glo "InvalidProgram") rfl)))]; exact ⟨excCB_ok (cx.ex 6 (p := excCB "InvalidProgram") rfl), of_decide_eq_true (cx.ex 227 (p := kitXB "InvalidProgram" "Locked" false) rfl)⟩) (tsL_cons (fun C h => by rw [(at_ga h (He.glo_ok X G (c.fact 37 (f := .glo "InvalidResults") rfl)))]; exact ⟨excCB_ok (cx.ex 7 (p := excCB "InvalidResults") rfl), of_decide_eq_true (cx.ex 228 (p := kitXB "InvalidResults" "Locked" false) rfl)⟩) (tsL_cons (fun C h => by rw [(at_ga h (He.glo_ok X G (c.fact 39 (f := .glo "InvalidRow") rfl)))]; exact ⟨excCB_ok (cx.ex 8 (p := excCB "InvalidRow") rfl), of_decide_eq_true (cx.ex 229 (p := kitXB "InvalidRow" "Locked" false) rfl)⟩) (tsL_cons (fun C h => by rw [(at_ga h (He.glo_ok X G (c.fact 41 (f := .glo "InvalidRows") rfl)))]; exact ⟨excCB_ok (cx.ex 9 (p := excCB "InvalidRows") rfl), of_decide_eq_true (cx.ex 230 (p := kitXB "InvalidRows" "Locked" false) rfl)⟩) (tsL_cons (fun C h => by rw [(at_ga h (He.glo_ok X G (c.fact 43 (f := .glo "InvalidText") rfl)))]; exact ⟨excCB_ok (cx.ex 10 (p := excCB "InvalidText") rfl), of_decide_eq_true (cx.ex 231 (p := kitXB "InvalidText" "Locked" false) rfl)⟩) (tsL_cons (fun C h => by rw [(at_ga h (He.glo_ok X G (c.fact 45 (f := .glo "InvalidWord") rfl)))]; exact ⟨excCB_ok (cx.ex 11 (p := excCB "InvalidWord") rfl), of_decide_eq_true (cx.ex 232 (p := kitXB "InvalidWord" "Locked" false) rfl)⟩) (tsL_cons (fun C h => by rw [(at_ga h (He.glo_ok X G (c.fact 55 (f := .glo "Locked") rfl)))]; exact ⟨excCB_ok (cx.ex 12 (p := excCB "Locked") rfl), of_decide_eq_true (cx.ex 233 (p := kitXB "Locked" "Locked" true) rfl)⟩) (tsL_cons (fun C h => by rw [(at_ga h (He.glo_ok X G (c.fact 47 (f := .glo "NoProgram") rfl)))]; exact ⟨excCB_ok (cx.ex 13 (p := excCB "NoProgram") rfl), of_decide_eq_true (cx.ex 234 (p := kitXB "NoProgram" "Locked" false) rfl)⟩) (tsL_cons (fun C h => by rw [(at_ga h (He.glo_ok X G (c.fact 49 (f := .glo "NoSource") rfl)))]; exact ⟨excCB_ok (cx.ex 14 (p := excCB "NoSource") rfl), of_decide_eq_true (cx.ex 235 (p := kitXB "NoSource" "Locked" false) rfl)⟩) (tsL_cons (fun C h => by rw [(at_ga h (He.glo_ok X G (c.fact 51 (f := .glo "NothingToUndo") rfl)))]; exact ⟨excCB_ok (cx.ex 15 (p := excCB "NothingToUndo") rfl), of_decide_eq_true (cx.ex 236 (p := kitXB "NothingToUndo" "Locked" false) rfl)⟩) (tsL_cons (fun C h => by rw [(at_ga h (He.glo_ok X G (c.fact 53 (f := .glo "TooLarge") rfl)))]; exact ⟨excCB_ok (cx.ex 16 (p := excCB "TooLarge") rfl), of_decide_eq_true (cx.ex 237 (p := kitXB "TooLarge" "Locked" false) rfl)⟩) tsL_nil)))))))))))))))))
    ti_NoProgram := (tsL_cons (fun C h => by rw [(at_ga h (He.glo_ok X G (c.fact 23 (f := .glo "FrontBackError") rfl)))]; exact ⟨excCB_ok (cx.ex 0 (p := excCB "FrontBackError") rfl), of_decide_eq_true (cx.ex 238 (p := kitXB "FrontBackError" "NoProgram" false) rfl)⟩) (tsL_cons (fun C h => by rw [(at_ga h (He.glo_ok X G (c.fact 25 (f := .glo "InvalidFences") rfl)))]; exact ⟨excCB_ok (cx.ex 1 (p := excCB "InvalidFences") rfl), of_decide_eq_true (cx.ex 239 (p := kitXB "InvalidFences" "NoProgram" false) rfl)⟩) (tsL_cons (fun C h => by rw [(at_ga h (He.glo_ok X G (c.fact 27 (f := .glo "InvalidMeaning") rfl)))]; exact ⟨excCB_ok (cx.ex 2 (p := excCB "InvalidMeaning") rfl), of_decide_eq_true (cx.ex 240 (p := kitXB "InvalidMeaning" "NoProgram" false) rfl)⟩) (tsL_cons (fun C h => by rw [(at_ga h (He.glo_ok X G (c.fact 29 (f := .glo "InvalidNames") rfl)))]; exact ⟨excCB_ok (cx.ex 3 (p := excCB "InvalidNames") rfl), of_decide_eq_true (cx.ex 241 (p := kitXB "InvalidNames" "NoProgram" false) rfl)⟩) (tsL_cons (fun C h => by rw [(at_ga h (He.glo_ok X G (c.fact 31 (f := .glo "InvalidNumber") rfl)))]; exact ⟨excCB_ok (cx.ex 4 (p := excCB "InvalidNumber") rfl), of_decide_eq_true (cx.ex 242 (p := kitXB "InvalidNumber" "NoProgram" false) rfl)⟩) (tsL_cons (fun C h => by rw [(at_ga h (He.glo_ok X G (c.fact 33 (f := .glo "InvalidOperation") rfl)))]; exact ⟨excCB_ok (cx.ex 5 (p := excCB "InvalidOperation") rfl), of_decide_eq_true (cx.ex 243 (p := kitXB "InvalidOperation" "NoProgram" false) rfl)⟩) (tsL_cons (fun C h => by rw [(at_ga h (He.glo_ok X G (c.fact 35 (f := .glo "InvalidProgram") rfl)))]; exact ⟨excCB_ok (cx.ex 6 (p := excCB "InvalidProgram") rfl), of_decide_eq_true (cx.ex 244 (p := kitXB "InvalidProgram" "NoProgram" false) rfl)⟩) (tsL_cons (fun C h => by rw [(at_ga h (He.glo_ok X G (c.fact 37 (f := .glo "InvalidResults") rfl)))]; exact ⟨excCB_ok (cx.ex 7 (p := excCB "InvalidResults") rfl), of_decide_eq_true (cx.ex 245 (p := kitXB "InvalidResults" "NoProgram" false) rfl)⟩) (tsL_cons (fun C h => by rw [(at_ga h (He.glo_ok X G (c.fact 39 (f := .glo "InvalidRow") rfl)))]; exact ⟨excCB_ok (cx.ex 8 (p := excCB "InvalidRow") rfl), of_decide_eq_true (cx.ex 246 (p := kitXB "InvalidRow" "NoProgram" false) rfl)⟩) (tsL_cons (fun C h => by rw [(at_ga h (He.glo_ok X G (c.fact 41 (f := .glo "InvalidRows") rfl)))]; exact ⟨excCB_ok (cx.ex 9 (p := excCB "InvalidRows") rfl), of_decide_eq_true (cx.ex 247 (p := kitXB "InvalidRows" "NoProgram" false) rfl)⟩) (tsL_cons (fun C h => by rw [(at_ga h (He.glo_ok X G (c.fact 43 (f := .glo "InvalidText") rfl)))]; exact ⟨excCB_ok (cx.ex 10 (p := excCB "InvalidText") rfl), of_decide_eq_true (cx.ex 248 (p := kitXB "InvalidText" "NoProgram" false) rfl)⟩) (tsL_cons (fun C h => by rw [(at_ga h (He.glo_ok X G (c.fact 45 (f := .glo "InvalidWord") rfl)))]; exact ⟨excCB_ok (cx.ex 11 (p := excCB "InvalidWord") rfl), of_decide_eq_true (cx.ex 249 (p := kitXB "InvalidWord" "NoProgram" false) rfl)⟩) (tsL_cons (fun C h => by rw [(at_ga h (He.glo_ok X G (c.fact 55 (f := .glo "Locked") rfl)))]; exact ⟨excCB_ok (cx.ex 12 (p := excCB "Locked") rfl), of_decide_eq_true (cx.ex 250 (p := kitXB "Locked" "NoProgram" false) rfl)⟩) (tsL_cons (fun C h => by rw [(at_ga h (He.glo_ok X G (c.fact 47 (f := .glo "NoProgram") rfl)))]; exact ⟨excCB_ok (cx.ex 13 (p := excCB "NoProgram") rfl), of_decide_eq_true (cx.ex 251 (p := kitXB "NoProgram" "NoProgram" true) rfl)⟩) (tsL_cons (fun C h => by rw [(at_ga h (He.glo_ok X G (c.fact 49 (f := .glo "NoSource") rfl)))]; exact ⟨excCB_ok (cx.ex 14 (p := excCB "NoSource") rfl), of_decide_eq_true (cx.ex 252 (p := kitXB "NoSource" "NoProgram" false) rfl)⟩) (tsL_cons (fun C h => by rw [(at_ga h (He.glo_ok X G (c.fact 51 (f := .glo "NothingToUndo") rfl)))]; exact ⟨excCB_ok (cx.ex 15 (p := excCB "NothingToUndo") rfl), of_decide_eq_true (cx.ex 253 (p := kitXB "NothingToUndo" "NoProgram" false) rfl)⟩) (tsL_cons (fun C h => by rw [(at_ga h (He.glo_ok X G (c.fact 53 (f := .glo "TooLarge") rfl)))]; exact ⟨excCB_ok (cx.ex 16 (p := excCB "TooLarge") rfl), of_decide_eq_true (cx.ex 254 (p := kitXB "TooLarge" "NoProgram" false) rfl)⟩) tsL_nil)))))))))))))))))
    ti_NoSource := (tsL_cons (fun C h => by rw [(at_ga h (He.glo_ok X G (c.fact 23 (f := .glo "FrontBackError") rfl)))]; exact ⟨excCB_ok (cx.ex 0 (p := excCB "FrontBackError") rfl), of_decide_eq_true (cx.ex 255 (p := kitXB "FrontBackError" "NoSource" false) rfl)⟩) (tsL_cons (fun C h => by rw [(at_ga h (He.glo_ok X G (c.fact 25 (f := .glo "InvalidFences") rfl)))]; exact ⟨excCB_ok (cx.ex 1 (p := excCB "InvalidFences") rfl), of_decide_eq_true (cx.ex 256 (p := kitXB "InvalidFences" "NoSource" false) rfl)⟩) (tsL_cons (fun C h => by rw [(at_ga h (He.glo_ok X G (c.fact 27 (f := .glo "InvalidMeaning") rfl)))]; exact ⟨excCB_ok (cx.ex 2 (p := excCB "InvalidMeaning") rfl), of_decide_eq_true (cx.ex 257 (p := kitXB "InvalidMeaning" "NoSource" false) rfl)⟩) (tsL_cons (fun C h => by rw [(at_ga h (He.glo_ok X G (c.fact 29 (f := .glo "InvalidNames") rfl)))]; exact ⟨excCB_ok (cx.ex 3 (p := excCB "InvalidNames") rfl), of_decide_eq_true (cx.ex 258 (p := kitXB "InvalidNames" "NoSource" false) rfl)⟩) (tsL_cons (fun C h => by rw [(at_ga h (He.glo_ok X G (c.fact 31 (f := .glo "InvalidNumber") rfl)))]; exact ⟨excCB_ok (cx.ex 4 (p := excCB "InvalidNumber") rfl), of_decide_eq_true (cx.ex 259 (p := kitXB "InvalidNumber" "NoSource" false) rfl)⟩) (tsL_cons (fun C h => by rw [(at_ga h (He.glo_ok X G (c.fact 33 (f := .glo "InvalidOperation") rfl)))]; exact ⟨excCB_ok (cx.ex 5 (p := excCB "InvalidOperation") rfl), of_decide_eq_true (cx.ex 260 (p := kitXB "InvalidOperation" "NoSource" false) rfl)⟩) (tsL_cons (fun C h => by rw [(at_ga h (He.glo_ok X G (c.fact 35 (f := .glo "InvalidProgram") rfl)))]; exact ⟨excCB_ok (cx.ex 6 (p := excCB "InvalidProgram") rfl), of_decide_eq_true (cx.ex 261 (p := kitXB "InvalidProgram" "NoSource" false) rfl)⟩) (tsL_cons (fun C h => by rw [(at_ga h (He.glo_ok X G (c.fact 37 (f := .glo "InvalidResults") rfl)))]; exact ⟨excCB_ok (cx.ex 7 (p := excCB "InvalidResults") rfl), of_decide_eq_true (cx.ex 262 (p := kitXB "InvalidResults" "NoSource" false) rfl)⟩) (tsL_cons (fun C h => by rw [(at_ga h (He.glo_ok X G (c.fact 39 (f := .glo "InvalidRow") rfl)))]; exact ⟨excCB_ok (cx.ex 8 (p := excCB "InvalidRow") rfl), of_decide_eq_true (cx.ex 263 (p := kitXB "InvalidRow" "NoSource" false) rfl)⟩) (tsL_cons (fun C h => by rw [(at_ga h (He.glo_ok X G (c.fact 41 (f := .glo "InvalidRows") rfl)))]; exact ⟨excCB_ok (cx.ex 9 (p := excCB "InvalidRows") rfl), of_decide_eq_true (cx.ex 264 (p := kitXB "InvalidRows" "NoSource" false) rfl)⟩) (tsL_cons (fun C h => by rw [(at_ga h (He.glo_ok X G (c.fact 43 (f := .glo "InvalidText") rfl)))]; exact ⟨excCB_ok (cx.ex 10 (p := excCB "InvalidText") rfl), of_decide_eq_true (cx.ex 265 (p := kitXB "InvalidText" "NoSource" false) rfl)⟩) (tsL_cons (fun C h => by rw [(at_ga h (He.glo_ok X G (c.fact 45 (f := .glo "InvalidWord") rfl)))]; exact ⟨excCB_ok (cx.ex 11 (p := excCB "InvalidWord") rfl), of_decide_eq_true (cx.ex 266 (p := kitXB "InvalidWord" "NoSource" false) rfl)⟩) (tsL_cons (fun C h => by rw [(at_ga h (He.glo_ok X G (c.fact 55 (f := .glo "Locked") rfl)))]; exact ⟨excCB_ok (cx.ex 12 (p := excCB "Locked") rfl), of_decide_eq_true (cx.ex 267 (p := kitXB "Locked" "NoSource" false) rfl)⟩) (tsL_cons (fun C h => by rw [(at_ga h (He.glo_ok X G (c.fact 47 (f := .glo "NoProgram") rfl)))]; exact ⟨excCB_ok (cx.ex 13 (p := excCB "NoProgram") rfl), of_decide_eq_true (cx.ex 268 (p := kitXB "NoProgram" "NoSource" false) rfl)⟩) (tsL_cons (fun C h => by rw [(at_ga h (He.glo_ok X G (c.fact 49 (f := .glo "NoSource") rfl)))]; exact ⟨excCB_ok (cx.ex 14 (p := excCB "NoSource") rfl), of_decide_eq_true (cx.ex 269 (p := kitXB "NoSource" "NoSource" true) rfl)⟩) (tsL_cons (fun C h => by rw [(at_ga h (He.glo_ok X G (c.fact 51 (f := .glo "NothingToUndo") rfl)))]; exact ⟨excCB_ok (cx.ex 15 (p := excCB "NothingToUndo") rfl), of_decide_eq_true (cx.ex 270 (p := kitXB "NothingToUndo" "NoSource" false) rfl)⟩) (tsL_cons (fun C h => by rw [(at_ga h (He.glo_ok X G (c.fact 53 (f := .glo "TooLarge") rfl)))]; exact ⟨excCB_ok (cx.ex 16 (p := excCB "TooLarge") rfl), of_decide_eq_true (cx.ex 271 (p := kitXB "TooLarge" "NoSource" false) rfl)⟩) tsL_nil)))))))))))))))))
    ti_NothingToUndo := (tsL_cons (fun C h => by rw [(at_ga h (He.glo_ok X G (c.fact 23 (f := .glo "FrontBackError") rfl)))]; exact ⟨excCB_ok (cx.ex 0 (p := excCB "FrontBackError") rfl), of_decide_eq_true (cx.ex 272 (p := kitXB "FrontBackError" "NothingToUndo" false) rfl)⟩) (tsL_cons (fun C h => by rw [(at_ga h (He.glo_ok X G (c.fact 25 (f := .glo "InvalidFences") rfl)))]; exact ⟨excCB_ok (cx.ex 1 (p := excCB "InvalidFences") rfl), of_decide_eq_true (cx.ex 273 (p := kitXB "InvalidFences" "NothingToUndo" false) rfl)⟩) (tsL_cons (fun C h => by rw [(at_ga h (He.glo_ok X G (c.fact 27 (f := .glo "InvalidMeaning") rfl)))]; exact ⟨excCB_ok (cx.ex 2 (p := excCB "InvalidMeaning") rfl), of_decide_eq_true (cx.ex 274 (p := kitXB "InvalidMeaning" "NothingToUndo" false) rfl)⟩) (tsL_cons (fun C h => by rw [(at_ga h (He.glo_ok X G (c.fact 29 (f := .glo "InvalidNames") rfl)))]; exact ⟨excCB_ok (cx.ex 3 (p := excCB "InvalidNames") rfl), of_decide_eq_true (cx.ex 275 (p := kitXB "InvalidNames" "NothingToUndo" false) rfl)⟩) (tsL_cons (fun C h => by rw [(at_ga h (He.glo_ok X G (c.fact 31 (f := .glo "InvalidNumber") rfl)))]; exact ⟨excCB_ok (cx.ex 4 (p := excCB "InvalidNumber") rfl), of_decide_eq_true (cx.ex 276 (p := kitXB "InvalidNumber" "NothingToUndo" false) rfl)⟩) (tsL_cons (fun C h => by rw [(at_ga h (He.glo_ok X G (c.fact 33 (f := .glo "InvalidOperation") rfl)))]; exact ⟨excCB_ok (cx.ex 5 (p := excCB "InvalidOperation") rfl), of_decide_eq_true (cx.ex 277 (p := kitXB "InvalidOperation" "NothingToUndo" false) rfl)⟩) (tsL_cons (fun C h => by rw [(at_ga h (He.glo_ok X G (c.fact 35 (f := .glo "InvalidProgram") rfl)))]; exact ⟨excCB_ok (cx.ex 6 (p := excCB "InvalidProgram") rfl), of_decide_eq_true (cx.ex 278 (p := kitXB "InvalidProgram" "NothingToUndo" false) rfl)⟩) (tsL_cons (fun C h => by rw [(at_ga h (He.glo_ok X G (c.fact 37 (f := .glo "InvalidResults") rfl)))]; exact ⟨excCB_ok (cx.ex 7 (p := excCB "InvalidResults") rfl), of_decide_eq_true (cx.ex 279 (p := kitXB "InvalidResults" "NothingToUndo" false) rfl)⟩) (tsL_cons (fun C h => by rw [(at_ga h (He.glo_ok X G (c.fact 39 (f := .glo "InvalidRow") rfl)))]; exact ⟨excCB_ok (cx.ex 8 (p := excCB "InvalidRow") rfl), of_decide_eq_true (cx.ex 280 (p := kitXB "InvalidRow" "NothingToUndo" false) rfl)⟩) (tsL_cons (fun C h => by rw [(at_ga h (He.glo_ok X G (c.fact 41 (f := .glo "InvalidRows") rfl)))]; exact ⟨excCB_ok (cx.ex 9 (p := excCB "InvalidRows") rfl), of_decide_eq_true (cx.ex 281 (p := kitXB "InvalidRows" "NothingToUndo" false) rfl)⟩) (tsL_cons (fun C h => by rw [(at_ga h (He.glo_ok X G (c.fact 43 (f := .glo "InvalidText") rfl)))]; exact ⟨excCB_ok (cx.ex 10 (p := excCB "InvalidText") rfl), of_decide_eq_true (cx.ex 282 (p := kitXB "InvalidText" "NothingToUndo" false) rfl)⟩) (tsL_cons (fun C h => by rw [(at_ga h (He.glo_ok X G (c.fact 45 (f := .glo "InvalidWord") rfl)))]; exact ⟨excCB_ok (cx.ex 11 (p := excCB "InvalidWord") rfl), of_decide_eq_true (cx.ex 283 (p := kitXB "InvalidWord" "NothingToUndo" false) rfl)⟩) (tsL_cons (fun C h => by rw [(at_ga h (He.glo_ok X G (c.fact 55 (f := .glo "Locked") rfl)))]; exact ⟨excCB_ok (cx.ex 12 (p := excCB "Locked") rfl), of_decide_eq_true (cx.ex 284 (p := kitXB "Locked" "NothingToUndo" false) rfl)⟩) (tsL_cons (fun C h => by rw [(at_ga h (He.glo_ok X G (c.fact 47 (f := .glo "NoProgram") rfl)))]; exact ⟨excCB_ok (cx.ex 13 (p := excCB "NoProgram") rfl), of_decide_eq_true (cx.ex 285 (p := kitXB "NoProgram" "NothingToUndo" false) rfl)⟩) (tsL_cons (fun C h => by rw [(at_ga h (He.glo_ok X G (c.fact 49 (f := .glo "NoSource") rfl)))]; exact ⟨excCB_ok (cx.ex 14 (p := excCB "NoSource") rfl), of_decide_eq_true (cx.ex 286 (p := kitXB "NoSource" "NothingToUndo" false) rfl)⟩) (tsL_cons (fun C h => by rw [(at_ga h (He.glo_ok X G (c.fact 51 (f := .glo "NothingToUndo") rfl)))]; exact ⟨excCB_ok (cx.ex 15 (p := excCB "NothingToUndo") rfl), of_decide_eq_true (cx.ex 287 (p := kitXB "NothingToUndo" "NothingToUndo" true) rfl)⟩) (tsL_cons (fun C h => by rw [(at_ga h (He.glo_ok X G (c.fact 53 (f := .glo "TooLarge") rfl)))]; exact ⟨excCB_ok (cx.ex 16 (p := excCB "TooLarge") rfl), of_decide_eq_true (cx.ex 288 (p := kitXB "TooLarge" "NothingToUndo" false) rfl)⟩) tsL_nil)))))))))))))))))
    ti_TooLarge := (tsL_cons (fun C h => by rw [(at_ga h (He.glo_ok X G (c.fact 23 (f := .glo "FrontBackError") rfl)))]; exact ⟨excCB_ok (cx.ex 0 (p := excCB "FrontBackError") rfl), of_decide_eq_true (cx.ex 289 (p := kitXB "FrontBackError" "TooLarge" false) rfl)⟩) (tsL_cons (fun C h => by rw [(at_ga h (He.glo_ok X G (c.fact 25 (f := .glo "InvalidFences") rfl)))]; exact ⟨excCB_ok (cx.ex 1 (p := excCB "InvalidFences") rfl), of_decide_eq_true (cx.ex 290 (p := kitXB "InvalidFences" "TooLarge" false) rfl)⟩) (tsL_cons (fun C h => by rw [(at_ga h (He.glo_ok X G (c.fact 27 (f := .glo "InvalidMeaning") rfl)))]; exact ⟨excCB_ok (cx.ex 2 (p := excCB "InvalidMeaning") rfl), of_decide_eq_true (cx.ex 291 (p := kitXB "InvalidMeaning" "TooLarge" false) rfl)⟩) (tsL_cons (fun C h => by rw [(at_ga h (He.glo_ok X G (c.fact 29 (f := .glo "InvalidNames") rfl)))]; exact ⟨excCB_ok (cx.ex 3 (p := excCB "InvalidNames") rfl), of_decide_eq_true (cx.ex 292 (p := kitXB "InvalidNames" "TooLarge" false) rfl)⟩) (tsL_cons (fun C h => by rw [(at_ga h (He.glo_ok X G (c.fact 31 (f := .glo "InvalidNumber") rfl)))]; exact ⟨excCB_ok (cx.ex 4 (p := excCB "InvalidNumber") rfl), of_decide_eq_true (cx.ex 293 (p := kitXB "InvalidNumber" "TooLarge" false) rfl)⟩) (tsL_cons (fun C h => by rw [(at_ga h (He.glo_ok X G (c.fact 33 (f := .glo "InvalidOperation") rfl)))]; exact ⟨excCB_ok (cx.ex 5 (p := excCB "InvalidOperation") rfl), of_decide_eq_true (cx.ex 294 (p := kitXB "InvalidOperation" "TooLarge" false) rfl)⟩) (tsL_cons (fun C h => by rw [(at_ga h (He.glo_ok X G (c.fact 35 (f := .glo "InvalidProgram") rfl)))]; exact ⟨excCB_ok (cx.ex 6 (p := excCB "InvalidProgram") rfl), of_decide_eq_true (cx.ex 295 (p := kitXB "InvalidProgram" "TooLarge" false) rfl)⟩) (tsL_cons (fun C h => by rw [(at_ga h (He.glo_ok X G (c.fact 37 (f := .glo "InvalidResults") rfl)))]; exact ⟨excCB_ok (cx.ex 7 (p := excCB "InvalidResults") rfl), of_decide_eq_true (cx.ex 296 (p := kitXB "InvalidResults" "TooLarge" false) rfl)⟩) (tsL_cons (fun C h => by rw [(at_ga h (He.glo_ok X G (c.fact 39 (f := .glo "InvalidRow") rfl)))]; exact ⟨excCB_ok (cx.ex 8 (p := excCB "InvalidRow") rfl), of_decide_eq_true (cx.ex 297 (p := kitXB "InvalidRow" "TooLarge" false) rfl)⟩) (tsL_cons (fun C h => by rw [(at_ga h (He.glo_ok X G (c.fact 41 (f := .glo "InvalidRows") rfl)))]; exact ⟨excCB_ok (cx.ex 9 (p := excCB "InvalidRows") rfl), of_decide_eq_true (cx.ex 298 (p := kitXB "InvalidRows" "TooLarge" false) rfl)⟩) (tsL_cons (fun C h => by rw [(at_ga h (He.glo_ok X G (c.fact 43 (f := .glo "InvalidText") rfl)))]; exact ⟨excCB_ok (cx.ex 10 (p := excCB "InvalidText") rfl), of_decide_eq_true (cx.ex 299 (p := kitXB "InvalidText" "TooLarge" false) rfl)⟩) (tsL_cons (fun C h => by rw [(at_ga h (He.glo_ok X G (c.fact 45 (f := .glo "InvalidWord") rfl)))]; exact ⟨excCB_ok (cx.ex 11 (p := excCB "InvalidWord") rfl), of_decide_eq_true (cx.ex 300 (p := kitXB "InvalidWord" "TooLarge" false) rfl)⟩) (tsL_cons (fun C h => by rw [(at_ga h (He.glo_ok X G (c.fact 55 (f := .glo "Locked") rfl)))]; exact ⟨excCB_ok (cx.ex 12 (p := excCB "Locked") rfl), of_decide_eq_true (cx.ex 301 (p := kitXB "Locked" "TooLarge" false) rfl)⟩) (tsL_cons (fun C h => by rw [(at_ga h (He.glo_ok X G (c.fact 47 (f := .glo "NoProgram") rfl)))]; exact ⟨excCB_ok (cx.ex 13 (p := excCB "NoProgram") rfl), of_decide_eq_true (cx.ex 302 (p := kitXB "NoProgram" "TooLarge" false) rfl)⟩) (tsL_cons (fun C h => by rw [(at_ga h (He.glo_ok X G (c.fact 49 (f := .glo "NoSource") rfl)))]; exact ⟨excCB_ok (cx.ex 14 (p := excCB "NoSource") rfl), of_decide_eq_true (cx.ex 303 (p := kitXB "NoSource" "TooLarge" false) rfl)⟩) (tsL_cons (fun C h => by rw [(at_ga h (He.glo_ok X G (c.fact 51 (f := .glo "NothingToUndo") rfl)))]; exact ⟨excCB_ok (cx.ex 15 (p := excCB "NothingToUndo") rfl), of_decide_eq_true (cx.ex 304 (p := kitXB "NothingToUndo" "TooLarge" false) rfl)⟩) (tsL_cons (fun C h => by rw [(at_ga h (He.glo_ok X G (c.fact 53 (f := .glo "TooLarge") rfl)))]; exact ⟨excCB_ok (cx.ex 16 (p := excCB "TooLarge") rfl), of_decide_eq_true (cx.ex 305 (p := kitXB "TooLarge" "TooLarge" true) rfl)⟩) tsL_nil)))))))))))))))))
    ti_ValueError := (tsL_cons (fun C h => by rw [(at_ga h (He.glo_ok X G (c.fact 23 (f := .glo "FrontBackError") rfl)))]; exact ⟨excCB_ok (cx.ex 0 (p := excCB "FrontBackError") rfl), of_decide_eq_true (cx.ex 306 (p := kitTB "FrontBackError" "ValueError" true) rfl)⟩) (tsL_cons (fun C h => by rw [(at_ga h (He.glo_ok X G (c.fact 25 (f := .glo "InvalidFences") rfl)))]; exact ⟨excCB_ok (cx.ex 1 (p := excCB "InvalidFences") rfl), of_decide_eq_true (cx.ex 307 (p := kitTB "InvalidFences" "ValueError" true) rfl)⟩) (tsL_cons (fun C h => by rw [(at_ga h (He.glo_ok X G (c.fact 27 (f := .glo "InvalidMeaning") rfl)))]; exact ⟨excCB_ok (cx.ex 2 (p := excCB "InvalidMeaning") rfl), of_decide_eq_true (cx.ex 308 (p := kitTB "InvalidMeaning" "ValueError" true) rfl)⟩) (tsL_cons (fun C h => by rw [(at_ga h (He.glo_ok X G (c.fact 29 (f := .glo "InvalidNames") rfl)))]; exact ⟨excCB_ok (cx.ex 3 (p := excCB "InvalidNames") rfl), of_decide_eq_true (cx.ex 309 (p := kitTB "InvalidNames" "ValueError" true) rfl)⟩) (tsL_cons (fun C h => by rw [(at_ga h (He.glo_ok X G (c.fact 31 (f := .glo "InvalidNumber") rfl)))]; exact ⟨excCB_ok (cx.ex 4 (p := excCB "InvalidNumber") rfl), of_decide_eq_true (cx.ex 310 (p := kitTB "InvalidNumber" "ValueError" true) rfl)⟩) (tsL_cons (fun C h => by rw [(at_ga h (He.glo_ok X G (c.fact 33 (f := .glo "InvalidOperation") rfl)))]; exact ⟨excCB_ok (cx.ex 5 (p := excCB "InvalidOperation") rfl), of_decide_eq_true (cx.ex 311 (p := kitTB "InvalidOperation" "ValueError" true) rfl)⟩) (tsL_cons (fun C h => by rw [(at_ga h (He.glo_ok X G (c.fact 35 (f := .glo "InvalidProgram") rfl)))]; exact ⟨excCB_ok (cx.ex 6 (p := excCB "InvalidProgram") rfl), of_decide_eq_true (cx.ex 312 (p := kitTB "InvalidProgram" "ValueError" true) rfl)⟩) (tsL_cons (fun C h => by rw [(at_ga h (He.glo_ok X G (c.fact 37 (f := .glo "InvalidResults") rfl)))]; exact ⟨excCB_ok (cx.ex 7 (p := excCB "InvalidResults") rfl), of_decide_eq_true (cx.ex 313 (p := kitTB "InvalidResults" "ValueError" true) rfl)⟩) (tsL_cons (fun C h => by rw [(at_ga h (He.glo_ok X G (c.fact 39 (f := .glo "InvalidRow") rfl)))]; exact ⟨excCB_ok (cx.ex 8 (p := excCB "InvalidRow") rfl), of_decide_eq_true (cx.ex 314 (p := kitTB "InvalidRow" "ValueError" true) rfl)⟩) (tsL_cons (fun C h => by rw [(at_ga h (He.glo_ok X G (c.fact 41 (f := .glo "InvalidRows") rfl)))]; exact ⟨excCB_ok (cx.ex 9 (p := excCB "InvalidRows") rfl), of_decide_eq_true (cx.ex 315 (p := kitTB "InvalidRows" "ValueError" true) rfl)⟩) (tsL_cons (fun C h => by rw [(at_ga h (He.glo_ok X G (c.fact 43 (f := .glo "InvalidText") rfl)))]; exact ⟨excCB_ok (cx.ex 10 (p := excCB "InvalidText") rfl), of_decide_eq_true (cx.ex 316 (p := kitTB "InvalidText" "ValueError" true) rfl)⟩) (tsL_cons (fun C h => by rw [(at_ga h (He.glo_ok X G (c.fact 45 (f := .glo "InvalidWord") rfl)))]; exact ⟨excCB_ok (cx.ex 11 (p := excCB "InvalidWord") rfl), of_decide_eq_true (cx.ex 317 (p := kitTB "InvalidWord" "ValueError" true) rfl)⟩) (tsL_cons (fun C h => by rw [(at_ga h (He.glo_ok X G (c.fact 55 (f := .glo "Locked") rfl)))]; exact ⟨excCB_ok (cx.ex 12 (p := excCB "Locked") rfl), of_decide_eq_true (cx.ex 318 (p := kitTB "Locked" "ValueError" true) rfl)⟩) (tsL_cons (fun C h => by rw [(at_ga h (He.glo_ok X G (c.fact 47 (f := .glo "NoProgram") rfl)))]; exact ⟨excCB_ok (cx.ex 13 (p := excCB "NoProgram") rfl), of_decide_eq_true (cx.ex 319 (p := kitTB "NoProgram" "ValueError" true) rfl)⟩) (tsL_cons (fun C h => by rw [(at_ga h (He.glo_ok X G (c.fact 49 (f := .glo "NoSource") rfl)))]; exact ⟨excCB_ok (cx.ex 14 (p := excCB "NoSource") rfl), of_decide_eq_true (cx.ex 320 (p := kitTB "NoSource" "ValueError" true) rfl)⟩) (tsL_cons (fun C h => by rw [(at_ga h (He.glo_ok X G (c.fact 51 (f := .glo "NothingToUndo") rfl)))]; exact ⟨excCB_ok (cx.ex 15 (p := excCB "NothingToUndo") rfl), of_decide_eq_true (cx.ex 321 (p := kitTB "NothingToUndo" "ValueError" true) rfl)⟩) (tsL_cons (fun C h => by rw [(at_ga h (He.glo_ok X G (c.fact 53 (f := .glo "TooLarge") rfl)))]; exact ⟨excCB_ok (cx.ex 16 (p := excCB "TooLarge") rfl), of_decide_eq_true (cx.ex 322 (p := kitTB "TooLarge" "ValueError" true) rfl)⟩) tsL_nil)))))))))))))))))
    tt_0 := (tsL_cons (fun C h => by rw [(at_ga h (He.glo_ok X G (c.fact 23 (f := .glo "FrontBackError") rfl)))]; exact ⟨excCB_ok (cx.ex 0 (p := excCB "FrontBackError") rfl), of_decide_eq_true (cx.ex 323 (p := kitAB "FrontBackError" ["TypeError", "LookupError", "ArithmeticError", "RuntimeError", "AttributeError"] false) rfl)⟩) (tsL_cons (fun C h => by rw [(at_ga h (He.glo_ok X G (c.fact 25 (f := .glo "InvalidFences") rfl)))]; exact ⟨excCB_ok (cx.ex 1 (p := excCB "InvalidFences") rfl), of_decide_eq_true (cx.ex 324 (p := kitAB "InvalidFences" ["TypeError", "LookupError", "ArithmeticError", "RuntimeError", "AttributeError"] false) rfl)⟩) (tsL_cons (fun C h => by rw [(at_ga h (He.glo_ok X G (c.fact 27 (f := .glo "InvalidMeaning") rfl)))]; exact ⟨excCB_ok (cx.ex 2 (p := excCB "InvalidMeaning") rfl), of_decide_eq_true (cx.ex 325 (p := kitAB "InvalidMeaning" ["TypeError", "LookupError", "ArithmeticError", "RuntimeError", "AttributeError"] false) rfl)⟩) (tsL_cons (fun C h => by rw [(at_ga h (He.glo_ok X G (c.fact 29 (f := .glo "InvalidNames") rfl)))]; exact ⟨excCB_ok (cx.ex 3 (p := excCB "InvalidNames") rfl), of_decide_eq_true (cx.ex 326 (p := kitAB "InvalidNames" ["TypeError", "LookupError", "ArithmeticError", "RuntimeError", "AttributeError"] false) rfl)⟩) (tsL_cons (fun C h => by rw [(at_ga h (He.glo_ok X G (c.fact 31 (f := .glo "InvalidNumber") rfl)))]; exact ⟨excCB_ok (cx.ex 4 (p := excCB "InvalidNumber") rfl), of_decide_eq_true (cx.ex 327 (p := kitAB "InvalidNumber" ["TypeError", "LookupError", "ArithmeticError", "RuntimeError", "AttributeError"] false) rfl)⟩) (tsL_cons (fun C h => by rw [(at_ga h (He.glo_ok X G (c.fact 33 (f := .glo "InvalidOperation") rfl)))]; exact ⟨excCB_ok (cx.ex 5 (p := excCB "InvalidOperation") rfl), of_decide_eq_true (cx.ex 328 (p := kitAB "InvalidOperation" ["TypeError", "LookupError", "ArithmeticError", "RuntimeError", "AttributeError"] false) rfl)⟩) (tsL_cons (fun C h => by rw [(at_ga h (He.glo_ok X G (c.fact 35 (f := .glo "InvalidProgram") rfl)))]; exact ⟨excCB_ok (cx.ex 6 (p := excCB "InvalidProgram") rfl), of_decide_eq_true (cx.ex 329 (p := kitAB "InvalidProgram" ["TypeError", "LookupError", "ArithmeticError", "RuntimeError", "AttributeError"] false) rfl)⟩) (tsL_cons (fun C h => by rw [(at_ga h (He.glo_ok X G (c.fact 37 (f := .glo "InvalidResults") rfl)))]; exact ⟨excCB_ok (cx.ex 7 (p := excCB "InvalidResults") rfl), of_decide_eq_true (cx.ex 330 (p := kitAB "InvalidResults" ["TypeError", "LookupError", "ArithmeticError", "RuntimeError", "AttributeError"] false) rfl)⟩) (tsL_cons (fun C h => by rw [(at_ga h (He.glo_ok X G (c.fact 39 (f := .glo "InvalidRow") rfl)))]; exact ⟨excCB_ok (cx.ex 8 (p := excCB "InvalidRow") rfl), of_decide_eq_true (cx.ex 331 (p := kitAB "InvalidRow" ["TypeError", "LookupError", "ArithmeticError", "RuntimeError", "AttributeError"] false) rfl)⟩) (tsL_cons (fun C h => by rw [(at_ga h (He.glo_ok X G (c.fact 41 (f := .glo "InvalidRows") rfl)))]; exact ⟨excCB_ok (cx.ex 9 (p := excCB "InvalidRows") rfl), of_decide_eq_true (cx.ex 332 (p := kitAB "InvalidRows" ["TypeError", "LookupError", "ArithmeticError", "RuntimeError", "AttributeError"] false) rfl)⟩) (tsL_cons (fun C h => by rw [(at_ga h (He.glo_ok X G (c.fact 43 (f := .glo "InvalidText") rfl)))]; exact ⟨excCB_ok (cx.ex 10 (p := excCB "InvalidText") rfl), of_decide_eq_true (cx.ex 333 (p := kitAB "InvalidText" ["TypeError", "LookupError", "ArithmeticError", "RuntimeError", "AttributeError"] false) rfl)⟩) (tsL_cons (fun C h => by rw [(at_ga h (He.glo_ok X G (c.fact 45 (f := .glo "InvalidWord") rfl)))]; exact ⟨excCB_ok (cx.ex 11 (p := excCB "InvalidWord") rfl), of_decide_eq_true (cx.ex 334 (p := kitAB "InvalidWord" ["TypeError", "LookupError", "ArithmeticError", "RuntimeError", "AttributeError"] false) rfl)⟩) (tsL_cons (fun C h => by rw [(at_ga h (He.glo_ok X G (c.fact 55 (f := .glo "Locked") rfl)))]; exact ⟨excCB_ok (cx.ex 12 (p := excCB "Locked") rfl), of_decide_eq_true (cx.ex 335 (p := kitAB "Locked" ["TypeError", "LookupError", "ArithmeticError", "RuntimeError", "AttributeError"] false) rfl)⟩) (tsL_cons (fun C h => by rw [(at_ga h (He.glo_ok X G (c.fact 47 (f := .glo "NoProgram") rfl)))]; exact ⟨excCB_ok (cx.ex 13 (p := excCB "NoProgram") rfl), of_decide_eq_true (cx.ex 336 (p := kitAB "NoProgram" ["TypeError", "LookupError", "ArithmeticError", "RuntimeError", "AttributeError"] false) rfl)⟩) (tsL_cons (fun C h => by rw [(at_ga h (He.glo_ok X G (c.fact 49 (f := .glo "NoSource") rfl)))]; exact ⟨excCB_ok (cx.ex 14 (p := excCB "NoSource") rfl), of_decide_eq_true (cx.ex 337 (p := kitAB "NoSource" ["TypeError", "LookupError", "ArithmeticError", "RuntimeError", "AttributeError"] false) rfl)⟩) (tsL_cons (fun C h => by rw [(at_ga h (He.glo_ok X G (c.fact 51 (f := .glo "NothingToUndo") rfl)))]; exact ⟨excCB_ok (cx.ex 15 (p := excCB "NothingToUndo") rfl), of_decide_eq_true (cx.ex 338 (p := kitAB "NothingToUndo" ["TypeError", "LookupError", "ArithmeticError", "RuntimeError", "AttributeError"] false) rfl)⟩) (tsL_cons (fun C h => by rw [(at_ga h (He.glo_ok X G (c.fact 53 (f := .glo "TooLarge") rfl)))]; exact ⟨excCB_ok (cx.ex 16 (p := excCB "TooLarge") rfl), of_decide_eq_true (cx.ex 339 (p := kitAB "TooLarge" ["TypeError", "LookupError", "ArithmeticError", "RuntimeError", "AttributeError"] false) rfl)⟩) tsL_nil)))))))))))))))))
    v_FrontBackError := of_decide_eq_true (cx.ex 340 (p := kitVB "FrontBackError" false) rfl)
    sys := cx.ex 342 (p := sysB) rfl }, ?_⟩
  have e := hfa.symm.trans (He.glo_ok X G (c.fact 8 (f := .glo "law") rfl))
  cases e
  rfl
end FB.K04
open PySem PySem.W PySem.Calls PyProof.Rows
theorem PySem.Challenge.cw_frontback_k04_errors_created_holds : PySem.Challenge.rw_frontback_k04_errors_created.Holds := by
  w_on; o_law
  refine HandSHeadRun.head_any (r := OpenLaw.row PySem.Challenge.rw_frontback_k04_errors_created) (q := view (OpenLaw.row PySem.Challenge.rw_frontback_k04_errors_created).prog [27]) (H := FB.K04.hk) (ob := FB.K04.ob) (M := 20000) (loose := FB.K04.looseL) (d := HandSHeadRun.topDef (OpenLaw.row PySem.Challenge.rw_frontback_k04_errors_created).prog 27) (kwd := []) FB.K04.ob_eq
    (by kernel_rfl) (fun s => by kernel_rfl) FB.K04.run (by kernel_rfl) (by kernel_rfl) (by kernel_rfl) (by rfl) (by first | assumption | decide +kernel) (by decide +kernel) ⟨rfl, rfl, rfl, rfl, rfl, by decide +kernel⟩ ?hw ?hc
  case hw => w_witness2
  case hc =>
    refine FB.walk_ofG (l := PySem.Challenge.rw_frontback_k04_errors_created) (n := 63) (k := 5) (x := "script") rfl (by decide) (by kernel_rfl) ⟨rfl, by decide, by decide⟩ ?F
    intro w mg fa h Y G hmg0
    obtain ⟨K, KX, c⟩ := Y
    have hmg : mg ("law" : PySem.Str) = some (.ref fa) := by
      have e : (HandSHeadRun.topDef (OpenLaw.row PySem.Challenge.rw_frontback_k04_errors_created).prog 27).name = ("law" : PySem.Str) := by kernel_rfl
      rw [← e]
      exact hmg0
    obtain ⟨S, rfl⟩ := FB.K04.facts KX G hmg c
    refine ⟨K, S.h_law, _, KX, ?_, ?_, fun base _ _ => FB.K04.ok_law S⟩
    · exact fun s v => (S.F_law.bindsA (ps := ["script"]) fun _ _ _ _ _ _ us hl => match us, hl with | [_], _ => rfl) s [v] rfl
    · exact fun H a ns hl hO hS => let ⟨st', e⟩ := FB.K04.law_true ns hl; FB.end_sp hO hS e

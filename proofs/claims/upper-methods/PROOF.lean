import PyProof.Rows.All
import Wide.All
import OpenK.AllK
import Wide.FinOn
import HandS.ForMost
import HandS.Evl
import HandS.Codes
import HandS.IsInst
import HandS.Steps
import HandS.ExcIs
import HandS.Lambda
import HandS.EndOwn
import KE.GoesEnum
import KE.KStar
import HandS.Exc
import HandS.ExcOwn
import HandS.SetFor
import HandS.TupAny
import HandS.Style
import HandS.Walk
import KE.OsRunLaw
import PySem.Challenge.RW_classhouse_k49_whole_upper_methods
set_option Elab.async false
set_option linter.all false
set_option maxRecDepth 100000
set_option maxHeartbeats 8000000
section
open PySem PySem.W PyProof.Rows
set_option maxHeartbeats 0
open_top K49hd for PySem.Challenge.rw_classhouse_k49_whole_upper_methods
end
namespace K49
open PySem PySem.Spec PyProof.Rows L2
/-! Rules of our own: *xs in a display, t[::-1] of a tuple, enumerate of a tuple, X() of an own exception, count of a bool. -/
section
variable {X : Cx}
/-! ### *e in a display -/
def tStar (K : PySem.W.Frag) (te : TE) (tr : TA) : TA := fun σ H Q => te σ H fun x H1 => ∃ (a : Addr) (xs : List V), x = .ref a ∧ SqL K H1 a xs ∧ tr σ H1 fun vs H2 => Q (xs ++ vs) H2
theorem pa_star {e : Expr} {es : List Expr} {p : Pos} {te : TE} {tr : TA} (he : PE X e te) (hr : PA X es tr) : PA X (.Starred e p :: es) (tStar X.K te tr) := by
  refine ⟨fun pos pins s σ H Q I h => ?_⟩
  refine PySem.W.items_star (thn (he.run pins s σ H _ I h) fun v s1 ⟨x, H1, I1, r1, q1⟩ => ?_)
  obtain ⟨a, xs, ex, hx, q⟩ := q1
  subst ex
  cases r1
  obtain ⟨its, rv, ⟨o, n, ho, hc, hd, hdat⟩, hz⟩ := I1.list hx
  have hT' : s1.TypeIs (.ref a) "list" := ⟨o, ho, hc⟩
  have hlen := rv.length
  have z : wpAny (model X.prog X.w) X.A (collect (.ref a)) (fun here s₂ => wpAny (model X.prog X.w) X.A (spliced (backTo pos (starEach es X.env))) (fun vs s₃ => AP X pins σ Q (here ++ vs) s₃) X.xe s₂) X.xe s1 := by
    refine wpAny_collect_seq a (.inl rfl) ho hc hdat (fun h' hk => ?_) (by rw [List.size_toArray]; omega)
    have I2 : Inv X pins σ H1 { s1 with heap := h' } := I1.kept (t' := s1.toks) hk
    refine thn (hr.run pos pins _ σ H1 _ I2 q) fun us s3 ⟨vs, H3, I3, r3, q3⟩ => ?_
    refine ⟨xs ++ vs, H3, I3, ?_, q3⟩
    rw [List.toList_toArray]
    exact rv.append r3
  unfold PySem.W.StarOf notIterableAtAll
  exact wpAny_bind (wpAny_specialOf hT' PySem.F.slot_list_iter.lookup (wpAny_pure ⟨rfl, z⟩))

/-! ### t[::-1], t a tuple -/
end
section
variable {prog : Program} {w : World} {A : Around} {E : Value → Shared → Prop} {s : Shared}
theorem fmap_congr {a b : Type} {f g : a → Option b} : ∀ {l : List a}, (∀ m ∈ l, f m = g m) → l.filterMap f = l.filterMap g
  | [], _ => rfl
  | x :: r, h => by
    rw [List.filterMap_cons, List.filterMap_cons, h x List.mem_cons_self, fmap_congr fun m hm => h m (List.mem_cons_of_mem _ hm)]
theorem rev_places (xs : Array Value) : ((List.range xs.size).filterMap fun (m : Nat) => xs[(((xs.size : Int) - 1) + (m : Int) * (-1)).toNat]?).toArray = xs.toList.reverse.toArray := by
  have e : (List.range xs.size).filterMap (fun (m : Nat) => xs[(((xs.size : Int) - 1) + (m : Int) * (-1)).toNat]?) = (List.range xs.size).filterMap (fun (m : Nat) => some (xs.toList.reverse.getD m .none)) := by
    apply fmap_congr
    intro m hm
    have hm : m < xs.size := List.mem_range.mp hm
    have e1 : (((xs.size : Int) - 1) + (m : Int) * (-1)).toNat = xs.size - 1 - m := by omega
    rw [e1]
    have h2 : m < xs.toList.reverse.length := by simpa using hm
    rw [List.getD_eq_getElem?_getD, List.getElem?_eq_getElem h2, Option.getD_some, List.getElem_reverse]
    have h3 : xs.size - 1 - m < xs.size := by omega
    rw [Array.getElem?_eq_getElem h3]
    simp
  rw [e]
  have e2 : (List.range xs.size).filterMap (fun (m : Nat) => some (xs.toList.reverse.getD m .none)) = (List.range xs.size).map (fun m => xs.toList.reverse.getD m .none) := by
    rw [List.filterMap_eq_map']
  rw [e2]
  congr 1
  apply List.ext_getElem?
  intro i
  rw [List.getElem?_map]
  by_cases hi : i < xs.size
  · have h2 : i < xs.toList.reverse.length := by simpa using hi
    rw [List.getElem?_range hi, Option.map_some, List.getD_eq_getElem?_getD, List.getElem?_eq_getElem h2]
    rfl
  · rw [List.getElem?_eq_none (by simpa using hi), List.getElem?_eq_none (by simpa using hi)]
    rfl
theorem adjust_rev (n : Nat) : Builtin.Slice.sliceAdjust none none (-1) (n : Int) = ((n : Int) - 1, -1) := by
  unfold Builtin.Slice.sliceAdjust
  simp
theorem places_rev (n : Nat) : Builtin.Slice.slicePlaces ((n : Int) - 1) (-1) (-1) = n := by
  unfold Builtin.Slice.slicePlaces
  simp
  split <;> omega
theorem sliceApplied_rev {sl : Addr} {t : Tok} {vs : Value} {n : Nat} {Q : Int × Int × Nat → Shared → Prop} (hs : s.heap.IsSliceOf sl .none .none vs) (ps : IsPart vs (some (-1)))
    (h : Q ((n : Int) - 1, -1, n) s) : wpAny (model prog w) A (Builtin.Slice.sliceApplied (.ref sl) (pure (n : Int))) Q E s := by
  obtain ⟨os, hos, hcs, hds⟩ := id hs
  unfold Builtin.Slice.sliceApplied Builtin.Slice.sliceFields
  refine wpAny_bind (wpAny_bind (wpAny_field hos hds (x := .none) rfl (wpAny_bind (wpAny_field hos hds (x := .none) rfl (wpAny_bind (wpAny_field hos hds (x := vs) rfl (wpAny_pure ?_)))))))
  refine wpAny_bind (HT.slicePart_ ps ?_)
  show wpAny _ _ (if ((-1 : Int) == 0) = true then _ else _) _ _ s
  rw [if_neg (by decide)]
  refine wpAny_bind (slicePart_none (wpAny_bind (slicePart_none (wpAny_bind (wpAny_pure ?_)))))
  show wpAny _ _ (match Builtin.Slice.sliceAdjust none none (-1) (n : Int) with | (lo, hi) => pure (lo, (-1 : Int), Builtin.Slice.slicePlaces lo hi (-1))) _ _ s
  rw [adjust_rev n]
  show wpAny _ _ (pure ((n : Int) - 1, (-1 : Int), Builtin.Slice.slicePlaces ((n : Int) - 1) (-1) (-1))) _ _ s
  rw [places_rev]
  exact wpAny_pure h
theorem getItem_tuple_rev {t sl : Addr} {items : Array Value} {vs : Value} {Q : Value → Shared → Prop} (ht : IsTup s.heap t items) (hs : s.heap.IsSliceOf sl .none .none vs) (ps : IsPart vs (some (-1)))
    (h : Q (.ref s.heap.objs.size) { s with heap := s.heap.push { cls := .type "tuple", data := .seq items.toList.reverse.toArray } })
    (hsz : items.size ≤ sizeLine) : wpAny (model prog w) A (getItem (.ref t) (.ref sl)) Q E s := by
  have htake : sizeOk (.seq items.toList.reverse.toArray) := by
    show items.toList.reverse.toArray.size ≤ sizeLine
    simpa using hsz
  obtain ⟨os, hos, hcs, hds⟩ := id hs
  have hTs : s.TypeIs (.ref sl) "slice" := ⟨os, hos, hcs⟩
  unfold getItem
  try with_reducible refine wpAny_holding ?_
  first | refine wpAny_bind (wpAny_pure ?_) | skip
  refine wpAny_bind (wpAny_sequenceKey ht.typeIs (by decide) ?_)
  refine wpAny_bind (wpAny_callSpecial?_slot (name := Str.ofString "__getitem__") ht.typeIs PyProof.Rows.slot_tuple_getitem
    (wpAny_call_entry PyProof.Rows.slot_tuple_getitem ht.typeIs entry_tuple_getitem ?_ (args_tuple_getitem _ _)))
  show wpAny _ _ (Builtin.Tuple.tupleItemsOf (.ref t) >>= _) _ _ s
  refine wpAny_bind (tupleItemsOf_ ht ?_)
  refine wpAny_bind (wpAny_typeOf hTs ?_)
  rw [if_pos (by decide)]
  refine wpAny_bind (sliceApplied_rev (t := 0) hs ps ?_)
  have hno : ¬ ((((items.size : Int) - 1) == 0 && (-1 : Int) == 1 && items.size == items.size) = true) := by
    intro q
    rw [Bool.and_eq_true, Bool.and_eq_true] at q
    exact absurd q.1.2 (by decide)
  show wpAny _ _ (if (((items.size : Int) - 1) == 0 && (-1 : Int) == 1 && items.size == items.size) = true then _ else _) _ _ s
  rw [if_neg hno, rev_places]
  first
    | exact wpAny_bind (m := Builtin.Tuple.tupleExact _) (wpAny_newObj_type (wpAny_pure ⟨_, rfl, wpAny_pure h⟩) htake)
    | exact wpAny_bind (m := Builtin.Tuple.tupleExact _) (wpAny_newObj_type (wpAny_bind (wpAny_pure (wpAny_pure ⟨_, rfl, wpAny_pure h⟩))) htake)
    | exact wpAny_bind (wpAny_bind (m := Builtin.Tuple.tupleExact _) (wpAny_newObj_type (wpAny_pure (wpAny_pure ⟨_, rfl, wpAny_pure h⟩)) htake))
    | exact wpAny_bind (wpAny_bind (m := Builtin.Tuple.tupleExact _) (wpAny_newObj_type (wpAny_pure ⟨_, rfl, wpAny_pure h⟩) htake))
end
section
variable {X : Cx}
/-- e[::-1], e a list or a tuple -/
def tRevA (K : PySem.W.Frag) (te : TE) : TE := fun σ H Q => te σ H fun x H1 => ∃ (a : Addr) (xs : List V), x = .ref a ∧
  ((SqL K H1 a xs ∧ ∀ p, H1 p = none → Q (.ref p) (upd H1 p (.lst xs.reverse))) ∨ (SqT K H1 a xs ∧ ∀ p, H1 p = none → Q (.ref p) (upd H1 p (.tup xs.reverse))))
theorem pe_revA {e : Expr} {te : TE} {k : Nat} {p1 p2 p3 pos : Pos} (he : PE X e te) : PE X (.Subscript e (.Slice none none (some (.UnaryOp .USub (.Constant (.int 1) k p1) p2)) p3) pos) (tRevA X.K te) := by
  refine ⟨fun pins s σ H Q I h => ?_⟩
  refine Subscript_ (thn (he.run pins s σ H _ I h) fun v s1 ⟨x, H1, I1, r1, q1⟩ => ?_)
  obtain ⟨a, xs, ex, q⟩ := q1
  subst ex
  cases r1
  have hst : PO X (some (.UnaryOp .USub (.Constant (.int 1) k p1) p2)) (tPart (tUn (rU fun i => .int (-i)) (tC (.int 1)))) := po_some (pe_un un_neg pe_int)
  refine wpAny_Slice (thn (po_none.run pins s1 σ H1 (fun o H2 => o = none ∧ H2 = H1) I1 ⟨rfl, rfl⟩) fun vl s2 ⟨l, H2, I2, pl, el, e2⟩ => ?_)
  subst el e2
  refine thn (po_none.run pins s2 σ H2 (fun o H3 => o = none ∧ H3 = H2) I2 ⟨rfl, rfl⟩) fun vu s3 ⟨u, H3, I3, pu, eu, e3⟩ => ?_
  subst eu e3
  refine thn (hst.run pins s3 σ H3 (fun o H4 => o = some (-1) ∧ H4 = H3) I3 ⟨1, rfl, -1, rfl, rfl, rfl⟩) fun vs s4 ⟨o, H4, I4, ps, eo, e4⟩ => ?_
  subst eo e4
  have I5 : Inv X pins σ H4 { s4 with heap := s4.heap.push { cls := .type "slice", data := .fields #[vl, vu, vs] } } := I4.kept (t' := s4.toks) fun b ob q => Heap.get?_push_of_some _ q
  show wpAny (model X.prog X.w) X.A (subscriptTail e (.Slice none none (some (.UnaryOp .USub (.Constant (.int 1) k p1) p2)) p3) (.ref a) (.ref s4.heap.objs.size)) (EP X pins σ Q) X.xe { s4 with heap := s4.heap.push { cls := .type "slice", data := .fields #[vl, vu, vs] } }
  rcases q with ⟨hx, q⟩ | ⟨hx, q⟩
  · obtain ⟨its, r, ht, hz⟩ := I5.list hx
    have hlen := r.length
    refine tail_any (ops := [.ref a, .ref s4.heap.objs.size]) ht.isList.typeIs (PySem.slot_list_getitem.lookup) ?_ (by with_unfolding_all rfl)
    refine wpAny_getItem_list_slice ht.isList (Heap.IsSliceOf.new _ vl vu vs) pl pu ps (by decide) ?_ (by rw [List.size_toArray]; omega)
    rw [PySem.W.krv_pick]
    refine ⟨.ref _, _, I5.laid (t' := s4.toks) (o := .lst xs.reverse) (fun b ob q => Heap.get?_push_of_some _ q) (Nat.le_refl _) ?_, rfl, q _ (I5.hok.fresh (Nat.le_refl _))⟩
    exact ⟨by rw [List.length_reverse]; exact hz, _, 0, r.reverse, Heap.get?_push_size _ rfl⟩
  · obtain ⟨its, r, ht, hz⟩ := I5.tuple hx
    have hlen := r.length
    cases pl
    cases pu
    refine tail_any (ops := [.ref a, .ref s4.heap.objs.size]) ht.typeIs (PyProof.Rows.slot_tuple_getitem.lookup) ?_ (by with_unfolding_all rfl)
    refine getItem_tuple_rev ht (Heap.IsSliceOf.new _ .none .none vs) ps ?_ (by rw [List.size_toArray]; omega)
    refine ⟨.ref _, _, I5.laid (t' := s4.toks) (o := .tup xs.reverse) (fun b ob q => Heap.get?_push_of_some _ q) (Nat.le_refl _) ?_, rfl, q _ (I5.hok.fresh (Nat.le_refl _))⟩
    exact ⟨by rw [List.length_reverse]; exact hz, _, r.reverse, ⟨_, Heap.get?_push_size _ rfl, rfl, 0, rfl⟩⟩
end

/-! ### enumerate(t), t a tuple -/
theorem meets_enumerate_new1 {v : Value} {o : Obj} {H : Heap → Prop} (B : Begins v o H) :
    Meets (Builtin.«enumerate.__new__» ⟨[.type "enumerate", v], []⟩) (fun _ R s => H s.heap ∧
      R (.ok (.ret (.ref (s.heap.push o).objs.size))) { s with heap := (s.heap.push o).push { cls := .type "enumerate", data := .fields #[.none, .bool false, .ref s.heap.objs.size, rawInt 0, .none, .none] } }) :=
  .of_wp fun prog w A R s h => by
    obtain ⟨hp, g, d, tk, os⟩ := s; obtain ⟨h1, h⟩ := h
    have hsub := sub_enumerate
    have q1 : ∀ {A' : Around} {E : Value → Shared → Prop} {Q : Value → Shared → Prop}, Q (.ref hp.objs.size) ⟨hp.push o, g, d, tk, os⟩ → wpAny (model prog w) A' (pyIter v) Q E ⟨hp, g, d, tk, os⟩ :=
      fun q => B.iter prog w _ _ ⟨hp, g, d, tk, os⟩ _ h1 q
    wp_walk using q1
    refine wpAny_stack_any fun st => wpAny_pure ?_
    split
    · rename_i c _ _ _ _ _
      cases (c == Value.type "enumerate")
      · wp_walk using q1
        exact ⟨_, rfl, h⟩
      · wp_walk using q1
        exact ⟨_, rfl, h⟩
    · wp_walk using q1
      exact ⟨_, rfl, h⟩
section
variable {prog : Program} {w : World} {A : Around} {E : Value → Shared → Prop} {s : Shared}
theorem enum_begins1 {v : Value} {o : Obj} {H : Heap → Prop} {Q : Value → Shared → Prop} (B : Begins v o H) (h1 : H s.heap)
    (h : ∀ h', IsEnum h' (s.heap.objs.size + 1) s.heap.objs.size 0 .none → h'.get? s.heap.objs.size = some o → h'.objs.size = s.heap.objs.size + 2 →
      (∀ b o, s.heap.get? b = some o → h'.get? b = some o) → Q (.ref (s.heap.objs.size + 1)) { s with heap := h' }) :
    wpAny (model prog w) A (call (.type "enumerate") [v]) Q E s := by
  refine callType_new F.called_enumerate (by decide) (F.typeCall_enumerate_1 _) (F.newCall_enumerate_1 _) (fun obj => F.args_object_init_2 obj _) F.entry_enumerate_new
    (meets_enumerate_new1 B) ⟨h1, ?_⟩
  have hz : (s.heap.push o).objs.size = s.heap.objs.size + 1 := Heap.size_push ..
  show _ ∧ _
  rw [hz]
  have he : IsEnum ((s.heap.push o).push { cls := .type "enumerate", data := .fields #[.none, .bool false, .ref s.heap.objs.size, rawInt 0, .none, .none] }) (s.heap.objs.size + 1) s.heap.objs.size 0 .none := by
    have := Heap.get?_push_size (s.heap.push o) (o := { cls := .type "enumerate", data := .fields #[.none, .bool false, .ref s.heap.objs.size, rawInt 0, .none, .none] }) rfl
    rw [hz] at this; exact this
  refine ⟨⟨_, he, rfl⟩, h _ he (Heap.get?_push_of_some _ (Heap.get?_push_size _ B.free)) (by rw [Heap.size_push, hz]) fun b o x => Heap.get?_push_of_some _ (Heap.get?_push_of_some _ x)⟩
end
def IteT (K : PySem.W.Frag) (a : Addr) : It :=
  ⟨fun i H => ∃ (xs : List V) (x : V), SqT K H a xs ∧ xs[i]? = some x, fun i H v H' => ∃ T x, v = .ref T ∧ H T = none ∧ H' = upd H T (.tup [.int (i : Nat), x]) ∧ ∀ xs, SqT K H a xs → xs[i]? = some x, fun i H => ∃ xs : List V, SqT K H a xs ∧ xs.length = i⟩
theorem turn_enumT {P : Program} {w : World} {K : PySem.W.Frag} {elts : List Expr} {kk : Nat} {tpos : Pos} (a e it : Addr) :
    Turn P w K (.Tuple elts kk tpos) (IteT K a) [e, it] e (fun i h => (∃ old, IsEnum h e it ((i : Nat) : Int) old) ∧ h.IsTupleIter it a i ∧ e ≠ it ∧ a ≠ it ∧ a ≠ e) where
  mem := by simp
  obj := fun i h st b hb => by
    obtain ⟨⟨old, he⟩, ⟨o, ho, hc, hd⟩, _⟩ := st
    have e' : b = e ∨ b = it := by simpa using hb
    rcases e' with z | z
    · rw [z]; exact ⟨_, he, fun v q => nomatch q⟩
    · rw [z]; exact ⟨o, ho, fun v q => by rw [hd] at q; cases q⟩
  keep := fun i h h' st k => let ⟨⟨old, he⟩, hi, hne, h1, h2⟩ := st; ⟨⟨old, k e (by simp) _ he⟩, hi.at fun o q => k it (by simp) o q, hne, h1, h2⟩
  item := by
    intro X hP hw hK hc i pins s σ H E I hf st hg
    subst hP hw hK
    obtain ⟨⟨old, he⟩, hit, hne, ha1, ha2⟩ := st
    obtain ⟨xs, x, hq, hx⟩ := hg
    obtain ⟨its, rv, p, hz⟩ := I.tuple hq
    obtain ⟨u, hu, ru⟩ := rv.get hx
    have hel : e < s.heap.objs.size := Heap.lt_size he
    have hil : it < s.heap.objs.size := by obtain ⟨_, q, _⟩ := hit; exact Heap.lt_size q
    have hD := Draws.tuple (prog := X.prog) (w := X.w) (A := X.A.in1) (I.ok.hd hc) it a ha1 its.toArray
    have hlt : i < its.toArray.size := by
      rw [List.size_toArray]
      exact (List.getElem?_eq_some_iff.mp hu).1
    refine wpAny_pyNext_enum_itemC hD he ⟨hit, show s.heap.IsTuple a its.toArray from p⟩ hlt hne (by simp [hne, Ne.symm ha2]) fun y h' tk hP ho hit' hT hsz hk => ?_
    have ey : y = u := by
      have z : its[i]? = some y := by simpa using hP
      rw [hu] at z
      exact (Option.some.inj z).symm
    subst ey
    refine ⟨_, rfl, wpAny_letOwnedTupleGo_enum (s := { s with heap := h', toks := tk + 1 }) ho fun h'' he' sb => ?_⟩
    have hT2 : h''.get? s.heap.objs.size = some { cls := .type "tuple", data := .seq #[.int i tk, y] } := (sb.2 _ (Nat.ne_of_gt hel)).trans hT
    have new : ObjOk X.prog X.w (upd H s.heap.objs.size (.tup [.int (i : Nat), x])) h'' s.heap.objs.size (.tup [.int (i : Nat), x]) :=
      ⟨by show 2 ≤ sizeLine; decide, [.int i tk, y], .cons ⟨_, rfl⟩ (.cons ru .nil), ⟨_, hT2, rfl, _, rfl⟩⟩
    have I1 : Inv X pins σ (upd H s.heap.objs.size (.tup [.int (i : Nat), x])) { s with heap := h'', toks := tk + 1 } :=
      I.turnedNew (ch := [e, it]) (fun b ob hb q => (sb.2 b (fun z => hb (by simp [z]))).trans (hk b ob (fun z => hb (by simp [z])) (fun z => hb (by simp [z])) q)) hf (Nat.le_refl _) new
    refine ⟨.ref s.heap.objs.size, _, I1, rfl, ⟨_, x, rfl, I.hok.fresh (Nat.le_refl _), rfl, fun ys hy => by rw [I.tuple_inj hy hq]; exact hx⟩, ⟨⟨y, ?_⟩, hit'.1.at fun o q => (sb.2 it (Ne.symm hne)).trans q, hne, ha1, ha2⟩, fun b hb => ?_⟩
    · have e1 : ((i + 1 : Nat) : Int) = (i : Int) + 1 := by omega
      rw [e1]; exact he'
    · have hb' : b < s.heap.objs.size := by
        have e' : b = e ∨ b = it := by simpa using hb
        rcases e' with z | z
        · rw [z]; exact hel
        · rw [z]; exact hil
      rw [upd_ne (Nat.ne_of_lt hb')]
      exact (hf b hb).1
  done := by
    intro X hP hw hK hc i pins s σ H E I hf st hg
    subst hP hw hK
    obtain ⟨⟨old, he⟩, hit, hne, ha1, ha2⟩ := st
    obtain ⟨xs, hq, hx⟩ := hg
    obtain ⟨its, rv, p, hz⟩ := I.tuple hq
    obtain ⟨f0, f1, f2, f3, f4, f5⟩ := hf it (by simp)
    have hl := rv.length
    have hD := Draws.tuple (prog := X.prog) (w := X.w) (A := X.A.in1) (I.ok.hd hc) it a ha1 its.toArray
    have ei : i = its.toArray.size := by rw [List.size_toArray, ← hl]; exact hx.symm
    have hst : s.heap.IsTupleIter it a its.toArray.size ∧ s.heap.IsTuple a its.toArray := ⟨by rw [← ei]; exact hit, p⟩
    exact wpAny_pyNext_enum_endD hD he hst fun h' eb => ⟨rfl, I.turned (t' := s.toks) (fun b o hb q => eb b o hb q) f0 f1 f3 f4 f5⟩
  self := fun A i s Q E st h => let ⟨⟨_, he⟩, _⟩ := st; wpAny_pyIter_enum he h

def iEnumT (K : PySem.W.Frag) (ta : TA) : TI := fun σ H R => ta σ H fun vs H1 => ∃ a xs, vs = [.ref a] ∧ SqT K H1 a xs ∧ R (IteT K a) H1
theorem pi_enumT {X : Cx} {e : Expr} {ta : TA} {p pos tpos : Pos} {elts : List Expr} {kk : Nat} (hg : Gl X "enumerate") (hm : X.mg "enumerate" = none) (ha : PA X [e] ta) (hs : starEach [e] X.env = [(false, eval e X.env)] := by rfl) :
    PI X (.Tuple elts kk tpos) (.Call (.Name "enumerate" p) [e] [] pos) (iEnumT X.K ta) := by
  refine ⟨fun pins s σ H R I h => ?_⟩
  refine Call_ (ld_blt I hg hm boot_enumerate (PyProof.Rows.callWith_type1 (thn (ha.run pos pins s σ H _ I h) fun us s1 ⟨vs, H1, I1, r1, q1⟩ => ?_) hs rfl))
  obtain ⟨a, xs, ex, hq, q⟩ := q1
  subst ex
  cases r1 with
  | cons r rr =>
    cases rr
    cases r
    obtain ⟨its, rv, p', hz⟩ := I1.tuple hq
    have hla : a < s1.heap.objs.size := p'.lt
    refine enum_begins1 (begins_tuple a its.toArray) (show s1.heap.IsTuple a its.toArray from p') fun h' he hit hsz hk => wpAny_pyIter_enum he ?_
    have I2 : Inv X pins σ H1 { s1 with heap := h' } := I1.kept (t' := s1.toks) hk
    refine ⟨s1.heap.objs.size + 1, [s1.heap.objs.size + 1, s1.heap.objs.size], _, _, H1, rfl, I2, turn_enumT a (s1.heap.objs.size + 1) s1.heap.objs.size, ⟨⟨.none, he⟩, ⟨_, hit, rfl, rfl⟩, Nat.succ_ne_self _, Nat.ne_of_lt hla, Nat.ne_of_lt (Nat.lt_succ_of_lt hla)⟩, fun b hb => ?_, q⟩
    have e' : b = s1.heap.objs.size + 1 ∨ b = s1.heap.objs.size := by simpa using hb
    have hle : s1.heap.objs.size ≤ b := by
      rcases e' with z | z
      · rw [z]; exact Nat.le_add_right _ _
      · rw [z]; exact Nat.le_refl _
    exact I1.fpOk hle (I1.hok.fresh hle)
theorem walk_enumT {K : PySem.W.Frag} {a : Addr} {xs : List V} : Walk (IteT K a) xs.length (fun H => SqT K H a xs) (YPair (fun i => some (.int (i : Nat))) (fun i => xs[i]?)) := by
  refine ⟨fun i _ hi q => ⟨xs, xs[i], q, by simp [hi]⟩, fun _ q => ⟨xs, q, rfl⟩, fun i H v H' _ q y => ?_⟩
  obtain ⟨T, x, h1, h2, h3, h4⟩ := y
  exact ⟨T, .int (i : Nat), x, h1, h2, h3, rfl, h4 xs q⟩

/-! ### X(), X an own exception class without __init__ -/
theorem pmk_own0 {X : Cx} {C : Addr} {bmB : List Value} {B newId initId : String} {x : Str} {p pos : Pos} (F : ExcBaseFacts B newId initId bmB) (q : PySem.W.excIn X.K C bmB newId = true) (gC : X.mg x = some (.ref C)) (kC : PySem.W.keepIn X.K (.ref C) = true) (r : Raises X (.ref C)) (hg : Gl X x)
    (hdb : (x == ("__debug__" : Str)) = false := by decide) : PMk X (.Call (.Name x p) [] [] pos) (fun _ H Q => Q (.ref C) none H) := by
  intro pins s σ H Q I h
  refine wpAny_Call_Name_kw (ld_glob I hg gC ?_ hdb)
  refine PySem.W.callWith_K0 I.kIn kC ?_
  obtain ⟨bm, N, nm, qn, bs, hdct, sn, sub, ab, col, dd, k0, k1, k2, k3, k5, mN, hC, hN, hni, T⟩ := exc_obj I.kIn q
  refine wpAny_call_exc_subT F T hC hN hni (fun h' e hm => ?_) (by show 0 ≤ sizeLine; exact Nat.zero_le _)
  exact mk_of I hm r h (I.hok.gone hm.new)

/-! ### xs.count(b), xs a list of bools -/
theorem count_eqU {x : V} : ∀ {xs : List V} {us : List Value}, Vals xs us → xs.all flatV = true → us.countP (eqU x) = xs.countP fun y => eqV y x
  | _, _, .nil, _ => rfl
  | _, _, .cons r t, f => by
    rw [List.all_cons, Bool.and_eq_true] at f
    rw [List.countP_cons, List.countP_cons, count_eqU t f.2, eqU_of r f.1]
def rCntF (K : PySem.W.Frag) : V → List V → Hp → VK → Prop := fun x xs H Q => ∃ (p : Addr) (ys : List V) (y : V), x = .ref p ∧ xs = [y] ∧ SqL K H p ys ∧ flatV y = true ∧ ys.all flatV = true ∧ Q (.int ((ys.countP fun z => eqV z y) : Nat)) H
theorem mt_countF {X : Cx} : MtM X "list.count" (rCntF X.K) := by
  intro pins s σ H x xs v us Q I rx rxs h
  obtain ⟨p, ys, y, rfl, rfl, hs, fy, fys, q⟩ := h
  cases rx
  obtain ⟨u, rfl, ru⟩ := rxs.one
  obtain ⟨its, rv, ⟨⟨cls, dd, data, sl⟩, n, ho, hc, hdn, hd⟩, hlen⟩ := I.list hs
  simp only at hc hd
  subst hc hd
  refine call_meets PySem.F.slot_list_count ⟨_, ho, rfl⟩ PySem.F.entry_list_count (PySem.F.args_list_count_2 _ _)
    (SeqAt.list_countAt p its.toArray n dd sl u (eqU y)) ⟨ho, fun z hz => mem_eqAt ru fy rv fys z (by simpa using hz), ?_⟩
  have ec : its.toArray.toList.countP (eqU y) = ys.countP fun z => eqV z y := count_eqU rv fys
  refine ⟨.int _, H, I.tok _, ⟨s.toks, ?_⟩, q⟩
  show Value.int ((its.toArray.toList.countP (eqU y) : Nat) : Int) s.toks = _
  rw [ec]
/-! Data over the heap: tuples and scalars (Td), lists of these (Ls); what evaluates to what (EvD, EvL, EvN, EvS, EvT, EvA). -/
abbrev Frag := PySem.W.Frag

/-! ### heaps -/
/-- tuples and known things stay -/
structure KT (H H' : Hp) : Prop where
  tup : ∀ a xs, H a = some (.tup xs) → H' a = some (.tup xs)
  frz : ∀ a o u, H a = some (.frz o u) → H' a = some (.frz o u)
theorem KT.refl (H : Hp) : KT H H := ⟨fun _ _ h => h, fun _ _ _ h => h⟩
theorem KT.trans {H H1 H2 : Hp} (a : KT H H1) (b : KT H1 H2) : KT H H2 := ⟨fun x o h => b.tup x o (a.tup x o h), fun x o u h => b.frz x o u (a.frz x o u h)⟩
theorem KT.of {H H' : Hp} (e : Same H H') : KT H H' := ⟨fun a xs h => e a _ h, fun a o u h => e a _ h⟩
/-- all but what stands at S stays -/
structure Gx (S : List Addr) (H H' : Hp) : Prop where
  keep : ∀ a o, a ∉ S → H a = some o → H' a = some o
  kt : KT H H'
theorem Gx.refl (S : List Addr) (H : Hp) : Gx S H H := ⟨fun _ _ _ h => h, .refl H⟩
theorem Gx.trans {S : List Addr} {H H1 H2 : Hp} (a : Gx S H H1) (b : Gx S H1 H2) : Gx S H H2 := ⟨fun x o n h => b.keep x o n (a.keep x o n h), a.kt.trans b.kt⟩
theorem Gx.of {S : List Addr} {H H' : Hp} (e : Same H H') : Gx S H H' := ⟨fun a o _ h => e a o h, .of e⟩
theorem Gx.mono {S S' : List Addr} {H H' : Hp} (g : Gx S H H') (h : ∀ a ∈ S, a ∈ S') : Gx S' H H' := ⟨fun a o n e => g.keep a o (fun z => n (h a z)) e, g.kt⟩
/-- a list at S is written -/
theorem Gx.upd {S : List Addr} {H H1 : Hp} {p : Addr} {xs ys : List V} (g : Gx S H H1) (hp : p ∈ S) (h : H1 p = some (.lst xs)) : Gx S H (upd H1 p (.lst ys)) := by
  refine g.trans ⟨fun a o n e => ?_, ⟨fun a zs e => ?_, fun a o u e => ?_⟩⟩
  · rw [upd_ne (fun z => n (by rw [z]; exact hp))]
    exact e
  · rw [upd_ne (ne_of e h (by intro z; cases z))]
    exact e
  · rw [upd_ne (ne_of e h (by intro z; cases z))]
    exact e
theorem Same.new {H : Hp} {p : Addr} {o : HO} (h : H p = none) : Same H (upd H p o) := fun a u e => by
  rw [upd_ne (ne_of_none e h)]
  exact e
/-- what was not there may change -/
theorem Gx.same {S : List Addr} {H H1 H2 : Hp} (e : Same H H1) (g : Gx S H1 H2) (h : ∀ a ∈ S, H a = none) : Same H H2 := fun a o q =>
  g.keep a o (fun z => by rw [h a z] at q; cases q) (e a o q)

/-! ### data -/
mutual
inductive Td (K : Frag) (H : Hp) : V → PyData → Prop
  | non : Td K H .non .none
  | bl (b : Bool) : Td K H (.bl b) (.bool b)
  | int (i : Int) : Td K H (.int i) (.int i)
  | str (x : Str) : Td K H (.str x) (.str x)
  | tup {a : Addr} {xs : List V} {ds : List PyData} : SqT K H a xs → Tds K H xs ds → Td K H (.ref a) (.tuple ds)
inductive Tds (K : Frag) (H : Hp) : List V → List PyData → Prop
  | nil : Tds K H [] []
  | cons {v : V} {vs : List V} {d : PyData} {ds : List PyData} : Td K H v d → Tds K H vs ds → Tds K H (v :: vs) (d :: ds)
end
theorem SqT.kt {K : Frag} {H H' : Hp} {a : Addr} {xs : List V} (k : KT H H') (h : SqT K H a xs) : SqT K H' a xs := by
  rcases h with (h | ⟨o, h⟩) | h
  · exact .inl (.inl (k.tup _ _ h))
  · exact .inl (.inr ⟨o, k.frz _ _ _ h⟩)
  · exact .inr h
mutual
theorem Td.kt {K : Frag} {H H' : Hp} (k : KT H H') : ∀ {v : V} {d : PyData}, Td K H v d → Td K H' v d
  | _, _, .non => .non
  | _, _, .bl b => .bl b
  | _, _, .int i => .int i
  | _, _, .str x => .str x
  | _, _, .tup h t => .tup (SqT.kt k h) (Tds.kt k t)
theorem Tds.kt {K : Frag} {H H' : Hp} (k : KT H H') : ∀ {vs : List V} {ds : List PyData}, Tds K H vs ds → Tds K H' vs ds
  | _, _, .nil => .nil
  | _, _, .cons h t => .cons (Td.kt k h) (Tds.kt k t)
end
mutual
theorem Td.dp {K : Frag} {H : Hp} : ∀ {v : V} {d : PyData}, Td K H v d → Dp K H v d
  | _, _, .non => .non
  | _, _, .bl b => .bl b
  | _, _, .int i => .int i
  | _, _, .str x => .str x
  | _, _, .tup h t => .tup h (Tds.dp t)
theorem Tds.dp {K : Frag} {H : Hp} : ∀ {vs : List V} {ds : List PyData}, Tds K H vs ds → DpAll K H vs ds
  | _, _, .nil => .nil
  | _, _, .cons h t => .cons (Td.dp h) (Tds.dp t)
end
section
variable {K : Frag} {H H' : Hp}
theorem Td.ex {v : V} {d : PyData} (h : Td K H v d) (e : Same H H') : Td K H' v d := h.kt (.of e)
theorem Tds.ex {v : List V} {d : List PyData} (h : Tds K H v d) (e : Same H H') : Tds K H' v d := h.kt (.of e)
theorem Td.gx {S : List Addr} {v : V} {d : PyData} (h : Td K H v d) (g : Gx S H H') : Td K H' v d := h.kt g.kt
theorem Tds.gx {S : List Addr} {v : List V} {d : List PyData} (h : Tds K H v d) (g : Gx S H H') : Tds K H' v d := h.kt g.kt
theorem Tds.len : ∀ {vs : List V} {ds : List PyData}, Tds K H vs ds → vs.length = ds.length
  | _, _, .nil => rfl
  | _, _, .cons _ t => by rw [List.length_cons, List.length_cons, t.len]
theorem Tds.get : ∀ {vs : List V} {ds : List PyData} {i : Nat} {d : PyData}, Tds K H vs ds → ds[i]? = some d → ∃ v, vs[i]? = some v ∧ Td K H v d
  | _, _, _, _, .nil, e => by simp at e
  | _, _, 0, _, .cons h _, e => by simp at e; subst e; exact ⟨_, rfl, h⟩
  | _, _, i + 1, d, .cons _ t, e => by
    obtain ⟨v, h1, h2⟩ := Tds.get (i := i) (d := d) t (by simpa using e)
    exact ⟨v, by simpa using h1, h2⟩
theorem Tds.at_ : ∀ {vs : List V} {ds : List PyData} {i : Nat} {v : V}, Tds K H vs ds → vs[i]? = some v → ∃ d, ds[i]? = some d ∧ Td K H v d
  | _, _, _, _, .nil, e => by simp at e
  | _, _, 0, _, .cons h _, e => by simp at e; subst e; exact ⟨_, rfl, h⟩
  | _, _, i + 1, v, .cons _ t, e => by
    obtain ⟨d, h1, h2⟩ := Tds.at_ (i := i) (v := v) t (by simpa using e)
    exact ⟨d, by simpa using h1, h2⟩
theorem Tds.append : ∀ {vs ws : List V} {ds es : List PyData}, Tds K H vs ds → Tds K H ws es → Tds K H (vs ++ ws) (ds ++ es)
  | _, _, _, _, .nil, s => s
  | _, _, _, _, .cons h t, s => .cons h (t.append s)
theorem Tds.snoc {vs : List V} {ds : List PyData} {v : V} {d : PyData} (h : Tds K H vs ds) (t : Td K H v d) : Tds K H (vs ++ [v]) (ds ++ [d]) := h.append (.cons t .nil)
theorem Tds.take : ∀ {vs : List V} {ds : List PyData} (n : Nat), Tds K H vs ds → Tds K H (vs.take n) (ds.take n)
  | _, _, 0, _ => .nil
  | _, _, _ + 1, .nil => .nil
  | _, _, n + 1, .cons h t => .cons h (t.take n)
theorem Tds.drop : ∀ {vs : List V} {ds : List PyData} (n : Nat), Tds K H vs ds → Tds K H (vs.drop n) (ds.drop n)
  | _, _, 0, h => h
  | _, _, _ + 1, .nil => .nil
  | _, _, n + 1, .cons _ t => t.drop n
theorem Tds.rev : ∀ {vs : List V} {ds : List PyData}, Tds K H vs ds → Tds K H vs.reverse ds.reverse
  | _, _, .nil => .nil
  | _, _, .cons h t => by rw [List.reverse_cons, List.reverse_cons]; exact t.rev.append (.cons h .nil)
theorem Tds.strs : ∀ {vs : List V} {xs : List Str}, Tds K H vs (xs.map PyData.str) → vs = xs.map V.str
  | _, [], .nil => rfl
  | _, x :: xs, .cons h t => by cases h; rw [t.strs]; rfl
theorem Tds.of_strs : ∀ (xs : List Str), Tds K H (xs.map V.str) (xs.map PyData.str)
  | [] => .nil
  | x :: r => .cons (.str x) (Tds.of_strs r)
theorem Tds.bools : ∀ {vs : List V} {bs : List Bool}, Tds K H vs (bs.map PyData.bool) → vs = bs.map V.bl
  | _, [], .nil => rfl
  | _, x :: xs, .cons h t => by cases h; rw [t.bools]; rfl
/-- a list of data at a -/
def Ls (K : Frag) (H : Hp) (a : Addr) (ds : List PyData) : Prop := ∃ xs, SqL K H a xs ∧ Tds K H xs ds
theorem Ls.ex {a : Addr} {ds : List PyData} (h : Ls K H a ds) (e : Same H H') : Ls K H' a ds := let ⟨xs, h1, h2⟩ := h; ⟨xs, e.seq h1, h2.ex e⟩
theorem Ls.of {a : Addr} {xs : List V} {ds : List PyData} (h : H a = some (.lst xs)) (t : Tds K H xs ds) : Ls K H a ds := ⟨xs, .of h, t⟩
/-- data in a list or a tuple at a -/
def Sq (K : Frag) (H : Hp) (a : Addr) (ds : List PyData) : Prop := ∃ xs, (SqL K H a xs ∨ SqT K H a xs) ∧ Tds K H xs ds
theorem Sq.ex {a : Addr} {ds : List PyData} (h : Sq K H a ds) (e : Same H H') : Sq K H' a ds := let ⟨xs, h1, h2⟩ := h; ⟨xs, h1.imp (fun h => e.seq h) (fun h => SqT.kt (.of e) h), h2.ex e⟩
theorem Ls.sq {a : Addr} {ds : List PyData} (h : Ls K H a ds) : Sq K H a ds := let ⟨xs, h1, h2⟩ := h; ⟨xs, .inl h1, h2⟩
theorem Td.sq {v : V} {ds : List PyData} (h : Td K H v (.tuple ds)) : ∃ a, v = .ref a ∧ Sq K H a ds := by
  cases h with
  | tup h t => exact ⟨_, rfl, _, .inr h, t⟩
theorem Td.tupI {v : V} {ds : List PyData} (h : Td K H v (.tuple ds)) : ∃ a xs, v = .ref a ∧ SqT K H a xs ∧ Tds K H xs ds := by
  cases h with
  | tup h t => exact ⟨_, _, rfl, h, t⟩
theorem Td.strI {v : V} {x : Str} (h : Td K H v (.str x)) : v = .str x := by cases h; rfl
theorem Td.intI {v : V} {i : Int} (h : Td K H v (.int i)) : v = .int i := by cases h; rfl
theorem Td.blI {v : V} {b : Bool} (h : Td K H v (.bool b)) : v = .bl b := by cases h; rfl
theorem Td.nonI {v : V} (h : Td K H v .none) : v = .non := by cases h; rfl
end

/-! ### what evaluates to what -/
def EvD (K : Frag) (te : TE) (σ : L2.St) (H : Hp) (d : PyData) : Prop := ∀ H1, Same H H1 → ∀ Q : VK, (∀ v H2, Same H1 H2 → Td K H2 v d → Q v H2) → te σ H1 Q
/-- a list | a new list | a list or a tuple -/
def EvL (K : Frag) (te : TE) (σ : L2.St) (H : Hp) (ds : List PyData) : Prop := ∀ H1, Same H H1 → ∀ Q : VK, (∀ a H2, Same H1 H2 → Ls K H2 a ds → Q (.ref a) H2) → te σ H1 Q
def EvN (K : Frag) (te : TE) (σ : L2.St) (H : Hp) (ds : List PyData) : Prop := ∀ H1, Same H H1 → ∀ Q : VK, (∀ a xs H2, H1 a = none → Same H1 H2 → H2 a = some (.lst xs) → Tds K H2 xs ds → Q (.ref a) H2) → te σ H1 Q
def EvS (K : Frag) (te : TE) (σ : L2.St) (H : Hp) (ds : List PyData) : Prop := ∀ H1, Same H H1 → ∀ Q : VK, (∀ a H2, Same H1 H2 → Sq K H2 a ds → Q (.ref a) H2) → te σ H1 Q
def EvT (tt : TT) (σ : L2.St) (H : Hp) (b : Bool) : Prop := ∀ H1, Same H H1 → ∀ Q : Bool → Hp → Prop, (∀ H2, Same H1 H2 → Q b H2) → tt σ H1 Q
def EvA (K : Frag) (ta : TA) (σ : L2.St) (H : Hp) (ds : List PyData) : Prop := ∀ H1, Same H H1 → ∀ Q : List V → Hp → Prop, (∀ vs H2, Same H1 H2 → Tds K H2 vs ds → Q vs H2) → ta σ H1 Q
/-- a part of a slice -/
def EvO (to : TO) (σ : L2.St) (H : Hp) (o : Option Int) : Prop := ∀ H1, Same H H1 → ∀ Q : Option Int → Hp → Prop, (∀ H2, Same H1 H2 → Q o H2) → to σ H1 Q

section
variable {K : Frag} {σ : L2.St} {H H' : Hp} {ta tb tc te : TE} {t u : TT} {d e : PyData} {ds es : List PyData} {b c : Bool}
theorem EvD.mono (h : EvD K te σ H d) (e : Same H H') : EvD K te σ H' d := fun H1 a Q q => h H1 (e.trans a) Q q
theorem EvL.mono (h : EvL K te σ H ds) (e : Same H H') : EvL K te σ H' ds := fun H1 a Q q => h H1 (e.trans a) Q q
theorem EvN.mono (h : EvN K te σ H ds) (e : Same H H') : EvN K te σ H' ds := fun H1 a Q q => h H1 (e.trans a) Q q
theorem EvS.mono (h : EvS K te σ H ds) (e : Same H H') : EvS K te σ H' ds := fun H1 a Q q => h H1 (e.trans a) Q q
theorem EvT.mono (h : EvT t σ H b) (e : Same H H') : EvT t σ H' b := fun H1 a Q q => h H1 (e.trans a) Q q
theorem EvD.is (h : EvD K te σ H d) (q : d = e) : EvD K te σ H e := q ▸ h
theorem EvT.is (h : EvT t σ H b) (q : b = c) : EvT t σ H c := q ▸ h
theorem EvL.is (h : EvL K te σ H ds) (q : ds = es) : EvL K te σ H es := q ▸ h
theorem EvN.is (h : EvN K te σ H ds) (q : ds = es) : EvN K te σ H es := q ▸ h
theorem EvN.l (h : EvN K te σ H ds) : EvL K te σ H ds := fun H1 a Q q => h H1 a Q fun p xs H2 _ e2 hp t => q p H2 e2 (.of hp t)
theorem EvL.s (h : EvL K te σ H ds) : EvS K te σ H ds := fun H1 a Q q => h H1 a Q fun p H2 e2 hp => q p H2 e2 hp.sq
theorem EvN.s (h : EvN K te σ H ds) : EvS K te σ H ds := h.l.s
theorem EvD.s (h : EvD K te σ H (.tuple ds)) : EvS K te σ H ds := fun H1 a Q q => h H1 a Q fun v H2 e2 t => by
  obtain ⟨p, ev, hs⟩ := t.sq
  subst ev
  exact q p H2 e2 hs
theorem ed_var {i : Nat} {v : V} (h : σ[i]? = some (some v)) (t : Td K H v d) : EvD K (tVar i) σ H d := fun H1 a Q q => ⟨v, h, q v H1 (Same.refl H1) (t.ex a)⟩
theorem el_var {i : Nat} {a : Addr} (h : σ[i]? = some (some (.ref a))) (t : Ls K H a ds) : EvL K (tVar i) σ H ds := fun H1 e Q q => ⟨_, h, q a H1 (Same.refl H1) (t.ex e)⟩
theorem es_var {i : Nat} {a : Addr} (h : σ[i]? = some (some (.ref a))) (t : Sq K H a ds) : EvS K (tVar i) σ H ds := fun H1 e Q q => ⟨_, h, q a H1 (Same.refl H1) (t.ex e)⟩
theorem ed_c {v : V} (t : ∀ H', Td K H' v d) : EvD K (tC v) σ H d := fun H1 _ Q q => q v H1 (Same.refl H1) (t H1)
theorem ed_str {x : Str} : EvD K (tC (.str x)) σ H (.str x) := ed_c fun _ => .str x
theorem ed_int {i : Int} : EvD K (tC (.int i)) σ H (.int i) := ed_c fun _ => .int i
theorem ed_bl {x : Bool} : EvD K (tC (.bl x)) σ H (.bool x) := ed_c fun _ => .bl x
theorem ed_non : EvD K (tC .non) σ H .none := ed_c fun _ => .non
theorem ea_nil : EvA K tNil σ H [] := fun H1 _ Q q => q [] H1 (Same.refl H1) .nil
theorem ea_cons {tr : TA} (h : EvD K ta σ H d) (r : EvA K tr σ H ds) : EvA K (tCons ta tr) σ H (d :: ds) := fun H1 a Q q =>
  h H1 a _ fun v H2 e2 t => r H2 (a.trans e2) _ fun vs H3 e3 ts => q (v :: vs) H3 (e2.trans e3) (.cons (t.ex e3) ts)
/-- .., *xs -/
theorem ea_star {tr : TA} (h : EvL K ta σ H ds) (r : EvA K tr σ H es) : EvA K (tStar K ta tr) σ H (ds ++ es) := fun H1 a Q q =>
  h H1 a _ fun p H2 e2 ⟨xs, hs, t⟩ => ⟨p, xs, rfl, hs, r H2 (a.trans e2) _ fun vs H3 e3 ts => q (xs ++ vs) H3 (e2.trans e3) ((t.ex e3).append ts)⟩
theorem sz100 {n : Nat} (h : n ≤ 100000) : n ≤ sizeLine := Nat.le_trans h (by decide)
theorem ed_tup {ta : TA} (h : EvA K ta σ H ds) (hl : ds.length ≤ 100000 := by decide) : EvD K (tTup ta) σ H (.tuple ds) := fun H1 a Q q =>
  h H1 a _ fun vs H2 e2 t => ⟨by rw [t.len]; exact sz100 hl, fun p hp => q (.ref p) _ (e2.trans (Same.new hp)) (.tup (.of upd_same) (t.ex (Same.new hp)))⟩
theorem en_lst {ta : TA} (h : EvA K ta σ H ds) (hl : ds.length ≤ 100000 := by decide) : EvN K (tLst ta) σ H ds := fun H1 a Q q =>
  h H1 a _ fun vs H2 e2 t => ⟨by rw [t.len]; exact sz100 hl, fun p hp => q p vs _ (e2.free hp) (e2.trans (Same.new hp)) upd_same (t.ex (Same.new hp))⟩
/-- a[i] -/
theorem ed_ixT {i : Int} (h : EvD K ta σ H (.tuple ds)) (hi : EvD K tb σ H (.int i)) (e : atI ds i = some d) : EvD K (tOp (rIx K) ta tb) σ H d := fun H1 a Q q =>
  h H1 a _ fun v H2 e2 t => hi H2 (a.trans e2) _ fun w H3 e3 t2 => by
    obtain ⟨p, xs, ev, hs, ts⟩ := (t.ex e3).tupI
    subst ev
    have ew := t2.intI
    subst ew
    obtain ⟨j, h1, h2, _⟩ := atI_get e
    obtain ⟨x, hx, tx⟩ := ts.get h2
    refine .inr (.inl ⟨p, xs, i, x, rfl, rfl, hs, ?_, q x H3 (e2.trans e3) tx⟩)
    unfold atI at e ⊢
    rw [ts.len]
    cases hn : ixN ds.length i with
    | none => rw [hn] at e; cases e
    | some k =>
      rw [hn] at e
      have e' : ds[k]? = some d := e
      have hk := (ixN_seq hn).1
      rw [h1] at hk
      cases hk
      exact hx
theorem ed_ixL {i : Int} (h : EvL K ta σ H ds) (hi : EvD K tb σ H (.int i)) (e : atI ds i = some d) : EvD K (tOp (rIx K) ta tb) σ H d := fun H1 a Q q =>
  h H1 a _ fun p H2 e2 t => hi H2 (a.trans e2) _ fun w H3 e3 t2 => by
    obtain ⟨xs, hs, ts⟩ := t.ex e3
    have ew := t2.intI
    subst ew
    obtain ⟨j, h1, h2, _⟩ := atI_get e
    obtain ⟨x, hx, tx⟩ := ts.get h2
    refine .inl ⟨p, xs, i, x, rfl, rfl, hs, ?_, q x H3 (e2.trans e3) tx⟩
    unfold atI at e ⊢
    rw [ts.len]
    cases hn : ixN ds.length i with
    | none => rw [hn] at e; cases e
    | some k =>
      rw [hn] at e
      have e' : ds[k]? = some d := e
      have hk := (ixN_seq hn).1
      rw [h1] at hk
      cases hk
      exact hx
/-- ==, != of data -/
theorem ed_eq (h : EvD K ta σ H d) (h2 : EvD K tb σ H e) (s1 : SeqAt.shaped d = true) (s2 : SeqAt.shaped e = true) : EvD K (tOp (rEqD K) ta tb) σ H (.bool (PyData.eqv d e)) := fun H1 a Q q =>
  h H1 a _ fun v H2 e2 t => h2 H2 (a.trans e2) _ fun w H3 e3 t2 => ⟨d, e, (t.ex e3).dp, t2.dp, s1, s2, q _ H3 (e2.trans e3) (.bl _)⟩
theorem ed_ne (h : EvD K ta σ H d) (h2 : EvD K tb σ H e) (s1 : SeqAt.shaped d = true) (s2 : SeqAt.shaped e = true) : EvD K (tOp (rNeD K) ta tb) σ H (.bool (!PyData.eqv d e)) := fun H1 a Q q =>
  h H1 a _ fun v H2 e2 t => h2 H2 (a.trans e2) _ fun w H3 e3 t2 => ⟨d, e, (t.ex e3).dp, t2.dp, s1, s2, q _ H3 (e2.trans e3) (.bl _)⟩
theorem ed_eqL (h : EvL K ta σ H ds) (h2 : EvL K tb σ H es) (s1 : SeqAt.shaped (.list ds) = true) (s2 : SeqAt.shaped (.list es) = true) : EvD K (tOp (rEqD K) ta tb) σ H (.bool (PyData.eqv (.list ds) (.list es))) := fun H1 a Q q =>
  h H1 a _ fun v H2 e2 t => h2 H2 (a.trans e2) _ fun w H3 e3 t2 => by
    obtain ⟨xs, hx, tx⟩ := t.ex e3
    obtain ⟨ys, hy, ty⟩ := t2
    exact ⟨_, _, .lst hx tx.dp, .lst hy ty.dp, s1, s2, q _ H3 (e2.trans e3) (.bl _)⟩
theorem ed_neL (h : EvL K ta σ H ds) (h2 : EvL K tb σ H es) (s1 : SeqAt.shaped (.list ds) = true) (s2 : SeqAt.shaped (.list es) = true) : EvD K (tOp (rNeD K) ta tb) σ H (.bool (!PyData.eqv (.list ds) (.list es))) := fun H1 a Q q =>
  h H1 a _ fun v H2 e2 t => h2 H2 (a.trans e2) _ fun w H3 e3 t2 => by
    obtain ⟨xs, hx, tx⟩ := t.ex e3
    obtain ⟨ys, hy, ty⟩ := t2
    exact ⟨_, _, .lst hx tx.dp, .lst hy ty.dp, s1, s2, q _ H3 (e2.trans e3) (.bl _)⟩
/-- two ints -/
theorem ed_I0 {g : Int → Int → V} {i j : Int} (h : EvD K ta σ H (.int i)) (h2 : EvD K tb σ H (.int j)) (t : ∀ H', Td K H' (g i j) d) : EvD K (tOp (rI0 g) ta tb) σ H d := fun H1 a Q q =>
  h H1 a _ fun v H2 e2 t1 => h2 H2 (a.trans e2) _ fun w H3 e3 t2 => by
    have e1 := t1.intI
    have e4 := t2.intI
    subst e1 e4
    exact ⟨i, j, rfl, rfl, q _ H3 (e2.trans e3) (t H3)⟩
theorem ed_I {C : Int → Int → Prop} {g : Int → Int → V} {i j : Int} (h : EvD K ta σ H (.int i)) (h2 : EvD K tb σ H (.int j)) (hc : C i j) (t : ∀ H', Td K H' (g i j) d) : EvD K (tOp (rI C g) ta tb) σ H d := fun H1 a Q q =>
  h H1 a _ fun v H2 e2 t1 => h2 H2 (a.trans e2) _ fun w H3 e3 t2 => by
    have e1 := t1.intI
    have e4 := t2.intI
    subst e1 e4
    exact ⟨i, j, rfl, rfl, hc, q _ H3 (e2.trans e3) (t H3)⟩
theorem ed_neg {i : Int} (h : EvD K ta σ H (.int i)) : EvD K (tUn (rU fun i => .int (-i)) ta) σ H (.int (-i)) := fun H1 a Q q =>
  h H1 a _ fun v H2 e2 t1 => by
    have e1 := t1.intI
    subst e1
    exact ⟨i, rfl, q _ H2 e2 (.int _)⟩
/-- in: texts -/
theorem inV_strs (x : Str) : ∀ xs : List Str, inV (.str x) (xs.map V.str) = decide (x ∈ xs)
  | [] => rfl
  | y :: r => by
    have ih := inV_strs x r
    unfold inV at ih ⊢
    rw [List.map_cons, List.any_cons, ih]
    by_cases h : y = x
    · subst h
      simp [eqV]
    · have h' : ¬ x = y := fun z => h z.symm
      have e : eqV (.str y) (.str x) = false := by
        show decide (y = x) = false
        exact decide_eq_false h
      rw [e]
      simp [h']
theorem flat_strs (xs : List Str) : (xs.map V.str).all flatV = true := by
  rw [List.all_eq_true]
  intro v hv
  obtain ⟨x, _, rfl⟩ := List.mem_map.mp hv
  rfl
theorem ed_in {x : Str} {xs : List Str} (h : EvD K ta σ H (.str x)) (h2 : EvS K tb σ H (xs.map PyData.str)) : EvD K (tOp (rIn K false) ta tb) σ H (.bool (decide (x ∈ xs))) := fun H1 a Q q =>
  h H1 a _ fun v H2 e2 t1 => h2 H2 (a.trans e2) _ fun p H3 e3 ⟨ys, hs, ts⟩ => by
    have e1 := t1.strI
    subst e1
    have e4 := ts.strs
    subst e4
    refine ⟨p, _, rfl, hs, rfl, flat_strs xs, ?_⟩
    have e5 : (if false = true then !inV (.str x) (xs.map V.str) else inV (.str x) (xs.map V.str)) = decide (x ∈ xs) := by
      rw [if_neg Bool.false_ne_true, inV_strs]
    rw [e5]
    exact q _ H3 (e2.trans e3) (.bl _)
theorem ed_notin {x : Str} {xs : List Str} (h : EvD K ta σ H (.str x)) (h2 : EvS K tb σ H (xs.map PyData.str)) : EvD K (tOp (rIn K true) ta tb) σ H (.bool (!decide (x ∈ xs))) := fun H1 a Q q =>
  h H1 a _ fun v H2 e2 t1 => h2 H2 (a.trans e2) _ fun p H3 e3 ⟨ys, hs, ts⟩ => by
    have e1 := t1.strI
    subst e1
    have e4 := ts.strs
    subst e4
    refine ⟨p, _, rfl, hs, rfl, flat_strs xs, ?_⟩
    have e5 : (if true = true then !inV (.str x) (xs.map V.str) else inV (.str x) (xs.map V.str)) = !decide (x ∈ xs) := by
      rw [if_pos rfl, inV_strs]
    rw [e5]
    exact q _ H3 (e2.trans e3) (.bl _)
/-- is None, is not None -/
def isNon : PyData → Bool
  | .none => true
  | _ => false
theorem Td.nonB {v : V} (t : Td K H v d) : decide (v = .non) = isNon d := by
  cases t <;> rfl
theorem ed_isN (h : EvD K ta σ H d) : EvD K (tOp rIsN ta (tC .non)) σ H (.bool (isNon d)) := fun H1 a Q q =>
  h H1 a _ fun v H2 e2 t => ⟨rfl, by rw [t.nonB]; exact q _ H2 e2 (.bl _)⟩
theorem ed_notN (h : EvD K ta σ H d) : EvD K (tOp rNotN ta (tC .non)) σ H (.bool (!isNon d)) := fun H1 a Q q =>
  h H1 a _ fun v H2 e2 t => ⟨rfl, by rw [t.nonB]; exact q _ H2 e2 (.bl _)⟩
/-- len -/
def rLen (K : Frag) : List V → Hp → VK → Prop := fun xs H Q => ∃ (x : V) (n : Nat), xs = [x] ∧ LenV K x H n ∧ Q (.int (n : Int)) H
theorem ed_lenS (h : EvS K ta σ H ds) : EvD K (tCB (rLen K) (tCons ta tNil)) σ H (.int (ds.length : Int)) := fun H1 a Q q =>
  h H1 a _ fun p H2 e2 ⟨xs, hs, ts⟩ => ⟨.ref p, xs.length, rfl, hs.imp (fun h => ⟨xs, h, rfl⟩) (fun h => ⟨xs, h, rfl⟩), by rw [ts.len]; exact q _ H2 e2 (.int _)⟩
theorem ed_lenD (h : EvD K ta σ H (.tuple ds)) : EvD K (tCB (rLen K) (tCons ta tNil)) σ H (.int (ds.length : Int)) := ed_lenS h.s
theorem ed_lenX {x : Str} (h : EvD K ta σ H (.str x)) (hl : x.length ≤ 100000) : EvD K (tCB (rLen K) (tCons ta tNil)) σ H (.int (x.length : Int)) := fun H1 a Q q =>
  h H1 a _ fun v H2 e2 t => by
    have e1 := t.strI
    subst e1
    exact ⟨.str x, x.length, rfl, ⟨sz100 hl, rfl⟩, q _ H2 e2 (.int _)⟩
/-- tuple(xs), list(xs) -/
def rTupOf (K : Frag) : List V → Hp → VK → Prop := fun xs H Q => ∃ p ys, xs = [.ref p] ∧ ((SqL K H p ys ∧ ∀ l, H l = none → Q (.ref l) (upd H l (.tup ys))) ∨ (SqT K H p ys ∧ Q (.ref p) H))
def rLstOf (K : Frag) : List V → Hp → VK → Prop := fun xs H Q => ∃ p ys, xs = [.ref p] ∧ (SqL K H p ys ∨ SqT K H p ys) ∧ ∀ l, H l = none → Q (.ref l) (upd H l (.lst ys))
theorem ed_tupOf (h : EvL K ta σ H ds) : EvD K (tCB (rTupOf K) (tCons ta tNil)) σ H (.tuple ds) := fun H1 a Q q =>
  h H1 a _ fun p H2 e2 ⟨xs, hs, ts⟩ => ⟨p, xs, rfl, .inl ⟨hs, fun l hl => q (.ref l) _ (e2.trans (Same.new hl)) (.tup (.of upd_same) (ts.ex (Same.new hl)))⟩⟩
theorem en_lstOf (h : EvS K ta σ H ds) : EvN K (tCB (rLstOf K) (tCons ta tNil)) σ H ds := fun H1 a Q q =>
  h H1 a _ fun p H2 e2 ⟨xs, hs, ts⟩ => ⟨p, xs, rfl, hs, fun l hl => q l xs _ (e2.free hl) (e2.trans (Same.new hl)) upd_same (ts.ex (Same.new hl))⟩
/-- isinstance with a built-in class -/
def tyN : PyData → String
  | .none => "NoneType" | .bool _ => "bool" | .int _ => "int" | .str _ => "str" | .tuple _ => "tuple" | .list _ => "list" | .dict _ => "dict"
theorem Td.ty {v : V} (t : Td K H v d) (hd : d ≠ .none) : TyX K H v (.type (tyN d)) := by
  cases t with
  | non => exact absurd rfl hd
  | bl b => exact .base (.bl b)
  | int i => exact .base (.int i)
  | str x => exact .base (.str x)
  | tup h _ =>
    rcases h with (h | ⟨o, h⟩) | ⟨o, its, n, hk, hc, _⟩
    · exact .base (.tup h)
    · exact .fTuple h
    · exact .kTuple hk hc
theorem ed_isi {tn n : String} {r : Bool} (h : EvD K ta σ H d) (hd : d ≠ .none) (ht : tyN d = tn) (hk : kitB tn n = some r) : EvD K (tCB (rIsi K) (tCons ta (tCons (tC (.ty n)) tNil))) σ H (.bool r) := fun H1 a Q q =>
  h H1 a _ fun v H2 e2 t => ⟨v, .ty n, _, _, r, rfl, .ty n, t.ty hd, kit_ty (by rw [ht]; exact hk), q _ H2 e2 (.bl _)⟩
/-- slices -/
theorem eo_none : EvO tNoPart σ H none := fun H1 _ Q q => q H1 (Same.refl H1)
theorem eo_some {i : Int} (h : EvD K te σ H (.int i)) : EvO (tPart te) σ H (some i) := fun H1 a Q q =>
  h H1 a _ fun v H2 e2 t => by
    have e1 := t.intI
    subst e1
    exact ⟨i, rfl, q H2 e2⟩
def cutD (ds : List PyData) (lo hi : Option Int) : List PyData := (ds.drop (HT.sIx ds.length 0 lo)).take (HT.sIx ds.length ds.length hi - HT.sIx ds.length 0 lo)
theorem Tds.cut {vs : List V} (t : Tds K H vs ds) (lo hi : Option Int) : Tds K H (cutV vs lo hi) (cutD ds lo hi) := by
  unfold cutV cutD
  rw [t.len]
  exact (t.drop _).take _
theorem cutD_whole {lo hi : Option Int} (h : HT.sIx ds.length 0 lo = 0 ∧ HT.sIx ds.length ds.length hi = ds.length) : cutD ds lo hi = ds := by
  unfold cutD
  rw [h.1, h.2, Nat.sub_zero, List.drop_zero, List.take_length]
def rSlX (K : Frag) : V → Option Int → Option Int → Hp → VK → Prop := fun x lo hi H Q => rSlL K x lo hi H Q ∨ rSlA K x lo hi H Q
theorem sl_any {X : Cx} : SlR X (rSlX X.K) := sl_list.or sl_tupA
theorem ed_sl {tl th : TO} {lo hi : Option Int} (h : EvD K ta σ H (.tuple ds)) (h1 : EvO tl σ H lo) (h2 : EvO th σ H hi) : EvD K (tSl (rSlX K) ta tl th) σ H (.tuple (cutD ds lo hi)) := fun H1 a Q q =>
  h H1 a _ fun v H2 e2 t => h1 H2 (a.trans e2) _ fun H3 e3 => h2 H3 ((a.trans e2).trans e3) _ fun H4 e4 => by
    obtain ⟨p, xs, ev, hs, ts⟩ := (t.ex (e3.trans e4)).tupI
    subst ev
    refine .inr ⟨p, xs, rfl, hs, fun hw => ?_, fun _ l hl => ?_⟩
    · rw [ts.len] at hw
      rw [cutD_whole hw] at q
      exact q _ H4 ((e2.trans e3).trans e4) (.tup hs ts)
    · exact q _ _ (((e2.trans e3).trans e4).trans (Same.new hl)) (.tup (.of upd_same) ((ts.cut lo hi).ex (Same.new hl)))
theorem en_sl {tl th : TO} {lo hi : Option Int} (h : EvL K ta σ H ds) (h1 : EvO tl σ H lo) (h2 : EvO th σ H hi) : EvN K (tSl (rSlX K) ta tl th) σ H (cutD ds lo hi) := fun H1 a Q q =>
  h H1 a _ fun p H2 e2 t => h1 H2 (a.trans e2) _ fun H3 e3 => h2 H3 ((a.trans e2).trans e3) _ fun H4 e4 => by
    obtain ⟨xs, hs, ts⟩ := t.ex (e3.trans e4)
    exact .inl ⟨p, xs, rfl, hs, fun l hl => q l _ _ (((e2.trans e3).trans e4).free hl) (((e2.trans e3).trans e4).trans (Same.new hl)) upd_same ((ts.cut lo hi).ex (Same.new hl))⟩
/-- xs[::-1] -/
theorem es_rev (h : EvS K ta σ H ds) : EvS K (tRevA K ta) σ H ds.reverse := fun H1 a Q q =>
  h H1 a _ fun p H2 e2 ⟨xs, hs, ts⟩ => ⟨p, xs, rfl, hs.imp (fun h => ⟨h, fun l hl => q l _ (e2.trans (Same.new hl)) ⟨_, .inl (.of upd_same), ts.rev.ex (Same.new hl)⟩⟩) (fun h => ⟨h, fun l hl => q l _ (e2.trans (Same.new hl)) ⟨_, .inr (.of upd_same), ts.rev.ex (Same.new hl)⟩⟩)⟩
/-- a + b -/
theorem en_cat (h : EvN K ta σ H ds) (h2 : EvN K tb σ H es) (hl : ds.length + es.length ≤ 100000) : EvN K (tOp rCat ta tb) σ H (ds ++ es) := fun H1 a Q q =>
  h H1 a _ fun p xs H2 np e2 hp tp => h2 H2 (a.trans e2) _ fun r ys H3 nr e3 hr tr =>
    ⟨p, r, xs, ys, rfl, rfl, e3 _ _ hp, hr, by rw [tp.len, tr.len]; exact sz100 hl, fun l hl => q l _ _ (e2.free (e3.free hl)) ((e2.trans e3).trans (Same.new hl)) upd_same (((tp.ex e3).append tr).ex (Same.new hl))⟩

/-! ### tests and truth values -/
theorem et_B (h : EvD K te σ H (.bool b)) : EvT (tB te) σ H b := fun H1 a Q q => h H1 a _ fun v H2 e2 t => ⟨b, t.blI, q H2 e2⟩
theorem et_test (h : EvD K te σ H (.bool b)) : EvT (tTest te) σ H b := fun H1 a Q q => h H1 a _ fun v H2 e2 t => ⟨b, t.blI, q H2 e2⟩
theorem et_and (h1 : EvT t σ H b) (h2 : b = true → EvT u σ H c) : EvT (tAnd t u) σ H (b && c) := fun H1 a Q q => h1 H1 a _ fun H2 e2 => by
  cases b with
  | true => exact h2 rfl H2 (a.trans e2) Q fun H3 e3 => q H3 (e2.trans e3)
  | false => exact q H2 e2
theorem et_or (h1 : EvT t σ H b) (h2 : b = false → EvT u σ H c) : EvT (tOr t u) σ H (b || c) := fun H1 a Q q => h1 H1 a _ fun H2 e2 => by
  cases b with
  | true => exact q H2 e2
  | false => exact h2 rfl H2 (a.trans e2) Q fun H3 e3 => q H3 (e2.trans e3)
theorem et_not (h : EvT t σ H b) : EvT (tNot t) σ H (!b) := fun H1 a Q q => h H1 a _ fun H2 e2 => q H2 e2
theorem ed_and (h1 : EvD K ta σ H (.bool b)) (h2 : b = true → EvD K tb σ H (.bool c)) : EvD K (tAndV ta tb) σ H (.bool (b && c)) := fun H1 a Q q => h1 H1 a _ fun v H2 e2 t => ⟨b, t.blI, by
  cases b with
  | true => exact h2 rfl H2 (a.trans e2) Q fun w H3 e3 t3 => q w H3 (e2.trans e3) t3
  | false => exact q _ H2 e2 (.bl false)⟩
theorem ed_or (h1 : EvD K ta σ H (.bool b)) (h2 : b = false → EvD K tb σ H (.bool c)) : EvD K (tOrV ta tb) σ H (.bool (b || c)) := fun H1 a Q q => h1 H1 a _ fun v H2 e2 t => ⟨b, t.blI, by
  cases b with
  | true => exact q _ H2 e2 (.bl true)
  | false => exact h2 rfl H2 (a.trans e2) Q fun w H3 e3 t3 => q w H3 (e2.trans e3) t3⟩
theorem ed_not (h : EvD K ta σ H (.bool b)) : EvD K (tNotV ta) σ H (.bool (!b)) := fun H1 a Q q => h H1 a _ fun v H2 e2 t => ⟨b, t.blI, q _ H2 e2 (.bl _)⟩
theorem ed_if (h : EvT t σ H b) (h1 : b = true → EvD K ta σ H d) (h2 : b = false → EvD K tb σ H d) : EvD K (tIf t ta tb) σ H d := fun H1 a Q q => h H1 a _ fun H2 e2 => by
  cases b with
  | true => exact h1 rfl H2 (a.trans e2) Q fun w H3 e3 t3 => q w H3 (e2.trans e3) t3
  | false => exact h2 rfl H2 (a.trans e2) Q fun w H3 e3 t3 => q w H3 (e2.trans e3) t3
/-- i <= x <= j -/
theorem ed_chain {i j k : Int} {g g' : Int → Int → V} (h1 : EvD K ta σ H (.int i)) (h2 : EvD K tb σ H (.int j)) (h3 : EvD K tc σ H (.int k)) (e1 : g i j = .bl true) (e2 : g' j k = .bl c) :
    EvD K (tChain (rI0 g) (rI0 g') ta tb tc) σ H (.bool c) := fun H1 a Q q =>
  h1 H1 a _ fun v H2 a2 t1 => h2 H2 (a.trans a2) _ fun w H3 a3 t2 => by
    have f1 := t1.intI
    have f2 := t2.intI
    subst f1 f2
    refine ⟨i, j, rfl, rfl, true, e1, ?_⟩
    refine iteT ?_
    refine h3 H3 ((a.trans a2).trans a3) _ fun z H4 a4 t3 => ?_
    have f3 := t3.intI
    subst f3
    refine ⟨j, k, rfl, rfl, ?_⟩
    rw [e2]
    exact q _ H4 ((a2.trans a3).trans a4) (.bl _)
end
/-! Statements, loops and comprehensions over data. -/
/-! ### a list or a tuple walked -/
def iAny (K : Frag) (te : TE) : TI := fun σ H R => te σ H fun x H1 => ∃ a, x = .ref a ∧ (((∃ xs, SqL K H1 a xs) ∧ R (Itl K a) H1) ∨ ((∃ xs, SqT K H1 a xs) ∧ R (Itt K a) H1))
theorem pi_any {X : Cx} {tg l : Expr} {tl : TE} (hl : PE X l tl) : PI X tg l (iAny X.K tl) := by
  refine ⟨fun pins s σ H R I h => ?_⟩
  refine thn (hl.run pins s σ H _ I h) fun v s1 ⟨x, H1, I1, r1, q1⟩ => ?_
  obtain ⟨a, e, q⟩ := q1
  subst e
  cases r1
  rcases q with ⟨⟨xs, hq⟩, q⟩ | ⟨⟨xs, hq⟩, q⟩
  · obtain ⟨its, rv, p, hz⟩ := I1.list hq
    refine wpAny_pyIter_list p.isList ?_
    refine ⟨s1.heap.objs.size, [s1.heap.objs.size], _, _, H1, rfl, I1.kept (t' := s1.toks) fun b o e => Heap.get?_push_of_some _ e, turn_list a _, ⟨_, Heap.get?_push_size _ rfl, rfl, rfl⟩, fun b hb => ?_, q⟩
    have e : b = s1.heap.objs.size := by simpa using hb
    subst e
    exact I1.fpOk (Nat.le_refl _) (I1.hok.fresh (Nat.le_refl _))
  · obtain ⟨its, rv, p, hz⟩ := I1.tuple hq
    refine wpAny_pyIter_tuple (show s1.heap.IsTuple a its.toArray from p) ?_
    refine ⟨s1.heap.objs.size, [s1.heap.objs.size], _, _, H1, rfl, I1.kept (t' := s1.toks) fun b o e => Heap.get?_push_of_some _ e, turn_tuple a _, ⟨_, Heap.get?_push_size _ rfl, rfl, rfl⟩, fun b hb => ?_, q⟩
    have e : b = s1.heap.objs.size := by simpa using hb
    subst e
    exact I1.fpOk (Nat.le_refl _) (I1.hok.fresh (Nat.le_refl _))
/-- a sequence that stays while S is written -/
def SqG (K : Frag) (S : List Addr) (H : Hp) (a : Addr) (ds : List PyData) : Prop := ∃ xs, ((SqL K H a xs ∧ a ∉ S) ∨ SqT K H a xs) ∧ Tds K H xs ds
theorem SqL.gx {K : Frag} {S : List Addr} {H H' : Hp} {a : Addr} {xs : List V} (g : Gx S H H') (h : SqL K H a xs) (n : a ∉ S) : SqL K H' a xs := by
  rcases h with (h | ⟨o, h⟩) | h
  · exact .inl (.inl (g.keep _ _ n h))
  · exact .inl (.inr ⟨o, g.kt.frz _ _ _ h⟩)
  · exact .inr h
theorem SqG.gx {K : Frag} {S : List Addr} {H H' : Hp} {a : Addr} {ds : List PyData} (h : SqG K S H a ds) (g : Gx S H H') : SqG K S H' a ds := by
  obtain ⟨xs, h1, h2⟩ := h
  refine ⟨xs, ?_, h2.gx g⟩
  rcases h1 with ⟨h, n⟩ | h
  · exact .inl ⟨SqL.gx g h n, n⟩
  · exact .inr (SqT.kt g.kt h)
def EvG (K : Frag) (S : List Addr) (te : TE) (σ : L2.St) (H : Hp) (ds : List PyData) : Prop := ∀ H1, Same H H1 → ∀ Q : VK, (∀ a H2, Same H1 H2 → SqG K S H2 a ds → Q (.ref a) H2) → te σ H1 Q
section
variable {K : Frag} {S : List Addr} {σ : L2.St} {H H' : Hp} {ta tb tc te tl : TE} {t u tt : TT} {d e : PyData} {ds es : List PyData} {b c : Bool} {D : Ends} {tu tw tz : TS} {gt : TG}
theorem EvG.is (h : EvG K S te σ H ds) (q : ds = es) : EvG K S te σ H es := q ▸ h
theorem EvD.g (h : EvD K te σ H (.tuple ds)) : EvG K S te σ H ds := fun H1 a Q q => h H1 a Q fun v H2 e2 t => by
  obtain ⟨p, xs, ev, hs, ts⟩ := t.tupI
  subst ev
  exact q p H2 e2 ⟨xs, .inr hs, ts⟩
theorem EvN.g (h : EvN K te σ H ds) (hS : ∀ p ∈ S, H p ≠ none) : EvG K S te σ H ds := fun H1 a Q q => h H1 a Q fun p xs H2 np e2 hp t =>
  q p H2 e2 ⟨xs, .inl ⟨.of hp, fun z => hS p z (a.free np)⟩, t⟩
theorem eg_var {i : Nat} {a : Addr} (h : σ[i]? = some (some (.ref a))) (t : SqG K S H a ds) : EvG K S (tVar i) σ H ds := fun H1 e Q q => ⟨_, h, q a H1 (Same.refl H1) (t.gx (.of e))⟩
theorem EvG.s (h : EvG K S te σ H ds) : EvS K te σ H ds := fun H1 a Q q => h H1 a Q fun p H2 e2 ⟨xs, h1, h2⟩ => q p H2 e2 ⟨xs, h1.imp (fun h => h.1) id, h2⟩
theorem eg_rev (h : EvS K ta σ H ds) (hS : ∀ p ∈ S, H p ≠ none) : EvG K S (tRevA K ta) σ H ds.reverse := fun H1 a Q q =>
  h H1 a _ fun p H2 e2 ⟨xs, hs, ts⟩ => ⟨p, xs, rfl, hs.imp (fun h => ⟨h, fun l hl => q l _ (e2.trans (Same.new hl)) ⟨_, .inl ⟨.of upd_same, fun z => hS l z (a.free (e2.free hl))⟩, ts.rev.ex (Same.new hl)⟩⟩) (fun h => ⟨h, fun l hl => q l _ (e2.trans (Same.new hl)) ⟨_, .inr (.of upd_same), ts.rev.ex (Same.new hl)⟩⟩)⟩

/-! ### statements -/
theorem s_setD {i : Nat} (h : EvD K te σ H d) (k : ∀ v H1, Same H H1 → Td K H1 v d → D.nx (σ.set i (some v)) H1) : tAsg te (gName i) D σ H := h H (Same.refl H) _ k
theorem q_setD {i : Nat} (h : EvD K te σ H d) (k : ∀ v H1, Same H H1 → Td K H1 v d → tz D (σ.set i (some v)) H1) : tSeq (tAsg te (gName i)) tz D σ H := s_setD (D := { D with nx := tz D }) h k
theorem s_setL {i : Nat} (h : EvL K te σ H ds) (k : ∀ a H1, Same H H1 → Ls K H1 a ds → D.nx (σ.set i (some (.ref a))) H1) : tAsg te (gName i) D σ H := h H (Same.refl H) _ k
theorem q_setL {i : Nat} (h : EvL K te σ H ds) (k : ∀ a H1, Same H H1 → Ls K H1 a ds → tz D (σ.set i (some (.ref a))) H1) : tSeq (tAsg te (gName i)) tz D σ H := s_setL (D := { D with nx := tz D }) h k
theorem s_setN {i : Nat} (h : EvN K te σ H ds) (k : ∀ a xs H1, H a = none → Same H H1 → H1 a = some (.lst xs) → Tds K H1 xs ds → D.nx (σ.set i (some (.ref a))) H1) : tAsg te (gName i) D σ H := h H (Same.refl H) _ k
theorem q_setN {i : Nat} (h : EvN K te σ H ds) (k : ∀ a xs H1, H a = none → Same H H1 → H1 a = some (.lst xs) → Tds K H1 xs ds → tz D (σ.set i (some (.ref a))) H1) : tSeq (tAsg te (gName i)) tz D σ H := s_setN (D := { D with nx := tz D }) h k
theorem s_ret (h : EvD K te σ H d) (k : ∀ v H1, Same H H1 → Td K H1 v d → D.rt v H1) : tRet te D σ H := h H (Same.refl H) _ k
theorem s_retN (h : EvN K te σ H ds) (k : ∀ a xs H1, H a = none → Same H H1 → H1 a = some (.lst xs) → Tds K H1 xs ds → D.rt (.ref a) H1) : tRet te D σ H := h H (Same.refl H) _ k
theorem s_drop (h : EvD K te σ H d) (k : ∀ H1, Same H H1 → D.nx σ H1) : tDrop te D σ H := h H (Same.refl H) _ fun _ H1 e _ => k H1 e
theorem q_drop (h : EvD K te σ H d) (k : ∀ H1, Same H H1 → tz D σ H1) : tSeq (tDrop te) tz D σ H := s_drop (D := { D with nx := tz D }) h k
theorem s_yes (h : EvT t σ H true) (k : ∀ H1, Same H H1 → tu D σ H1) : tIfS t tu tw D σ H := h H (Same.refl H) _ fun H1 e => k H1 e
theorem s_no (h : EvT t σ H false) (k : ∀ H1, Same H H1 → tw D σ H1) : tIfS t tu tw D σ H := h H (Same.refl H) _ fun H1 e => k H1 e
theorem s_no0 (h : EvT t σ H false) (k : ∀ H1, Same H H1 → D.nx σ H1) : tIfS t tu tNext D σ H := h H (Same.refl H) _ fun H1 e => k H1 e
theorem q_yes (h : EvT t σ H true) (k : ∀ H1, Same H H1 → tu { D with nx := tz D } σ H1) : tSeq (tIfS t tu tw) tz D σ H := s_yes (D := { D with nx := tz D }) h k
theorem q_no (h : EvT t σ H false) (k : ∀ H1, Same H H1 → tz D σ H1) : tSeq (tIfS t tu tNext) tz D σ H := h H (Same.refl H) _ fun H1 e => k H1 e
theorem s_if (h : EvT t σ H b) (h1 : b = true → ∀ H1, Same H H1 → tu D σ H1) (h2 : b = false → ∀ H1, Same H H1 → tw D σ H1) : tIfS t tu tw D σ H := h H (Same.refl H) _ fun H1 e => by
  cases b with
  | true => exact h1 rfl H1 e
  | false => exact h2 rfl H1 e
theorem q_if (h : EvT t σ H b) (h1 : b = true → ∀ H1, Same H H1 → tu { D with nx := tz D } σ H1) (h2 : b = false → ∀ H1, Same H H1 → tw { D with nx := tz D } σ H1) : tSeq (tIfS t tu tw) tz D σ H := s_if (D := { D with nx := tz D }) h h1 h2
/-- l.append(e) -/
theorem s_app {l : Addr} {xs : List V} (hl : H l = some (.lst xs)) (ha : ∀ H1, Same H H1 → ∀ Q : VK, Q (.ref l) H1 → ta σ H1 Q) (h : EvD K te σ H d) (hz : xs.length < 100000)
    (k : ∀ v H1, Same H H1 → Td K H1 v d → D.nx σ (upd H1 l (.lst (xs ++ [v])))) : tDrop (tBM K "list" rAppend ta (tCons te tNil)) D σ H :=
  ha H (Same.refl H) _ ⟨.inl ⟨rfl, _, .of hl⟩, h H (Same.refl H) _ fun v H2 e2 t => ⟨l, xs, v, rfl, rfl, e2 l _ hl, Nat.lt_of_lt_of_le hz (by decide), k v H2 e2 t⟩⟩
theorem q_app {l : Addr} {xs : List V} (hl : H l = some (.lst xs)) (ha : ∀ H1, Same H H1 → ∀ Q : VK, Q (.ref l) H1 → ta σ H1 Q) (h : EvD K te σ H d) (hz : xs.length < 100000)
    (k : ∀ v H1, Same H H1 → Td K H1 v d → tz D σ (upd H1 l (.lst (xs ++ [v])))) : tSeq (tDrop (tBM K "list" rAppend ta (tCons te tNil))) tz D σ H := s_app (D := { D with nx := tz D }) hl ha h hz k
theorem var_is {i : Nat} {v : V} (h : σ[i]? = some (some v)) : ∀ H1, Same H H1 → ∀ Q : VK, Q v H1 → tVar i σ H1 Q := fun _ _ _ q => ⟨v, h, q⟩

/-! ### for -/
theorem s_forG (h : EvG K S te σ H ds) (Pv : Nat → L2.St → Hp → Prop) (h0 : ∀ H1, Same H H1 → Pv 0 σ H1)
    (hs : ∀ i x d σ' H' (N : L2.St → Hp → Prop), Gx S H H' → ds[i]? = some d → Td K H' x d → Pv i σ' H' → (∀ σ3 H3, Gx S H' H3 → Pv (i + 1) σ3 H3 → N σ3 H3) →
      gt x σ' H' fun σ2 H2 => tu { D with nx := N, ct := N, bk := D.nx } σ2 H2)
    (hd : ∀ σ' H', Gx S H H' → Pv ds.length σ' H' → D.nx σ' H') : tFor (iAny K te) gt tu D σ H :=
  h H (Same.refl H) _ fun a H1 e1 ⟨xs, hq, ts⟩ => by
    have core : ∀ (i : Nat) (x : V) (σ' : L2.St) (H' : Hp), xs[i]? = some x → (Gx S H1 H' ∧ Pv i σ' H') → gt x σ' H' fun σ2 H2 => tu { D with nx := fun σ3 H3 => Gx S H1 H3 ∧ Pv (i + 1) σ3 H3, ct := fun σ3 H3 => Gx S H1 H3 ∧ Pv (i + 1) σ3 H3, bk := D.nx } σ2 H2 := by
      intro i x σ' H' hx ⟨gx, p⟩
      obtain ⟨d, hd', td⟩ := ts.at_ hx
      exact hs i x d σ' H' _ ((Gx.of e1).trans gx) hd' (td.gx gx) p fun σ3 H3 g3 p3 => ⟨gx.trans g3, p3⟩
    have hlen := ts.len
    rcases hq with ⟨hq, na⟩ | hq
    · exact ⟨a, rfl, .inl ⟨⟨xs, hq⟩, for_list (K := K) (a := a) (xs := xs) (fun i σ' H' => Gx S H1 H' ∧ Pv i σ' H') ⟨Gx.refl S H1, h0 H1 e1⟩ (fun i σ' H' _ p => SqL.gx p.1 hq na) core fun σ' H' p => hd σ' H' ((Gx.of e1).trans p.1) (by rw [← hlen]; exact p.2)⟩⟩
    · exact ⟨a, rfl, .inr ⟨⟨xs, hq⟩, for_tup (K := K) (a := a) (xs := xs) (fun i σ' H' => Gx S H1 H' ∧ Pv i σ' H') ⟨Gx.refl S H1, h0 H1 e1⟩ (fun i σ' H' _ p => SqT.kt p.1.kt hq) core fun σ' H' p => hd σ' H' ((Gx.of e1).trans p.1) (by rw [← hlen]; exact p.2)⟩⟩
theorem q_forG (h : EvG K S te σ H ds) (Pv : Nat → L2.St → Hp → Prop) (h0 : ∀ H1, Same H H1 → Pv 0 σ H1)
    (hs : ∀ i x d σ' H' (N : L2.St → Hp → Prop), Gx S H H' → ds[i]? = some d → Td K H' x d → Pv i σ' H' → (∀ σ3 H3, Gx S H' H3 → Pv (i + 1) σ3 H3 → N σ3 H3) →
      gt x σ' H' fun σ2 H2 => tu { D with nx := N, ct := N, bk := tz D } σ2 H2)
    (hd : ∀ σ' H', Gx S H H' → Pv ds.length σ' H' → tz D σ' H') : tSeq (tFor (iAny K te) gt tu) tz D σ H := s_forG (D := { D with nx := tz D }) h Pv h0 hs hd
/-- for i in range(n) -/
theorem s_forR {n : Nat} {j : Nat} (h : EvD K te σ H (.int (n : Int))) (hn : n ≤ 100000) (Pv : Nat → L2.St → Hp → Prop) (h0 : ∀ H1, Same H H1 → Pv 0 σ H1)
    (hs : ∀ (i : Nat) σ' H' (N : L2.St → Hp → Prop), i < n → Pv i σ' H' → (∀ σ3 H3, Pv (i + 1) σ3 H3 → N σ3 H3) → tu { D with nx := N, ct := N, bk := D.nx } (σ'.set j (some (.int (i : Int)))) H')
    (hd : ∀ σ' H', Pv n σ' H' → D.nx σ' H') : tFor (iRng1 (tCons te tNil)) (gName j) tu D σ H :=
  h H (Same.refl H) _ fun v H1 e1 t => by
    have ev := t.intI
    subst ev
    refine ⟨(n : Int), rfl, by omega, by omega, for_range (lo := 0) (n := (n : Int).toNat) Pv (h0 H1 e1) (fun i σ' H' hi p => ?_) fun σ' H' p => hd σ' H' (by simpa using p)⟩
    have e0 : (0 : Int) + (i : Int) = (i : Int) := Int.zero_add _
    rw [e0]
    exact hs i σ' H' _ (by simpa using hi) p fun _ _ z => z
theorem q_forR {n : Nat} {j : Nat} (h : EvD K te σ H (.int (n : Int))) (hn : n ≤ 100000) (Pv : Nat → L2.St → Hp → Prop) (h0 : ∀ H1, Same H H1 → Pv 0 σ H1)
    (hs : ∀ (i : Nat) σ' H' (N : L2.St → Hp → Prop), i < n → Pv i σ' H' → (∀ σ3 H3, Pv (i + 1) σ3 H3 → N σ3 H3) → tu { D with nx := N, ct := N, bk := tz D } (σ'.set j (some (.int (i : Int)))) H')
    (hd : ∀ σ' H', Pv n σ' H' → tz D σ' H') : tSeq (tFor (iRng1 (tCons te tNil)) (gName j) tu) tz D σ H := s_forR (D := { D with nx := tz D }) h hn Pv h0 hs hd
/-- for i, x in enumerate(t) -/
theorem s_forE {i j : Nat} (h : EvD K te σ H (.tuple ds)) (Pv : Nat → L2.St → Hp → Prop) (h0 : ∀ H1, Same H H1 → Pv 0 σ H1)
    (hs : ∀ (n : Nat) x d σ' H' (N : L2.St → Hp → Prop), Gx S H H' → ds[n]? = some d → Td K H' x d → (∃ H0, Same H0 H' ∧ Pv n σ' H0) → (∀ σ3 H3, Gx S H' H3 → Pv (n + 1) σ3 H3 → N σ3 H3) →
      tu { D with nx := N, ct := N, bk := D.nx } ((σ'.set i (some (.int (n : Int)))).set j (some x)) H')
    (hd : ∀ σ' H', Gx S H H' → Pv ds.length σ' H' → D.nx σ' H') : tFor (iEnumT K (tCons te tNil)) (gTup K 2 (gCons (gName i) (gCons (gName j) gNil))) tu D σ H :=
  h H (Same.refl H) _ fun v H1 e1 t => by
    obtain ⟨a, xs, ev, hq, ts⟩ := t.tupI
    subst ev
    have hlen := ts.len
    refine ⟨a, xs, rfl, hq, for_it walk_enumT (fun i σ' H' => Gx S H1 H' ∧ Pv i σ' H') ⟨Gx.refl S H1, h0 H1 e1⟩ (fun i σ' H' _ p => SqT.kt p.1.kt hq) (fun n x σ' H' H2 hn p y => ?_) fun σ' H' p => hd σ' H' ((Gx.of e1).trans p.1) (by rw [← hlen]; exact p.2)⟩
    obtain ⟨T, u, w, ex, hT, eH, eu, ew⟩ := y
    subst ex eH
    have eu : u = .int (n : Int) := (Option.some.inj eu).symm
    subst eu
    obtain ⟨d, hd', td⟩ := ts.at_ ew
    have sm : Same H' (upd H' T (.tup [.int (n : Int), w])) := Same.new hT
    have gx : Gx S H1 (upd H' T (.tup [.int (n : Int), w])) := p.1.trans (Gx.of sm)
    refine ⟨T, _, rfl, .of upd_same, rfl, _, _, rfl, _, _, rfl, rfl, ?_⟩
    exact hs n w d σ' _ _ ((Gx.of e1).trans gx) hd' (td.gx gx) ⟨H', sm, p.2⟩ fun σ3 H3 g3 p3 => ⟨gx.trans g3, p3⟩
theorem q_forE {i j : Nat} (h : EvD K te σ H (.tuple ds)) (Pv : Nat → L2.St → Hp → Prop) (h0 : ∀ H1, Same H H1 → Pv 0 σ H1)
    (hs : ∀ (n : Nat) x d σ' H' (N : L2.St → Hp → Prop), Gx S H H' → ds[n]? = some d → Td K H' x d → (∃ H0, Same H0 H' ∧ Pv n σ' H0) → (∀ σ3 H3, Gx S H' H3 → Pv (n + 1) σ3 H3 → N σ3 H3) →
      tu { D with nx := N, ct := N, bk := tz D } ((σ'.set i (some (.int (n : Int)))).set j (some x)) H')
    (hd : ∀ σ' H', Gx S H H' → Pv ds.length σ' H' → tz D σ' H') : tSeq (tFor (iEnumT K (tCons te tNil)) (gTup K 2 (gCons (gName i) (gCons (gName j) gNil))) tu) tz D σ H := s_forE (D := { D with nx := tz D }) (S := S) h Pv h0 hs hd

/-- the first part of a tuple -/
def hd0 : PyData → PyData
  | .tuple (x :: _) => x
  | d => d
/-! ### comprehensions of data -/
def Cw (K : Frag) (H : Hp) (Dl : Addr) (ds : List PyData) (H' : Hp) : Prop := H Dl = none ∧ Same H H' ∧ ∃ ys, H' Dl = some (.lst ys) ∧ Tds K H' ys ds
theorem lst_len {H : Hp} {ys : List V} (t : Tds K H ys es) (h : es.length ≤ 50000) : ys.length < sizeLine := by
  rw [t.len]
  exact Nat.lt_of_le_of_lt h (by decide)
theorem Same.mut {H H' : Hp} {p : Addr} {o : HO} (e : Same H H') (h : H p = none) : Same H (upd H' p o) := fun a u ha => by
  rw [upd_ne (ne_of_none ha h)]
  exact e a u ha
theorem KT.put {H : Hp} {p : Addr} {xs ys : List V} (h : H p = some (.lst xs)) : KT H (upd H p (.lst ys)) := (Gx.upd (S := [p]) (Gx.refl _ H) (by simp) h).kt
theorem cw_turn {Dl : Addr} {σ2 : L2.St} (p : Cw K H Dl es H') (hz : es.length ≤ 50000) (ht : EvT tt σ2 H c) (he : c = true → EvD K te σ2 H d) :
    tt σ2 H' fun b H3 => if b = true then te σ2 H3 fun y H4 => ∃ acc, H4 Dl = some (.lst acc) ∧ acc.length < sizeLine ∧ Cw K H Dl (if c = true then es ++ [d] else es) (upd H4 Dl (.lst (acc ++ [y]))) else Cw K H Dl (if c = true then es ++ [d] else es) H3 := by
  obtain ⟨p1, p2, ys, p3, p4⟩ := p
  refine ht H' p2 _ fun H3 e3 => ?_
  cases c with
  | true =>
    refine iteT (he rfl H3 (p2.trans e3) _ fun y H4 e4 t4 => ?_)
    have hD := e4 Dl _ (e3 Dl _ p3)
    refine ⟨ys, hD, lst_len p4 hz, p1, Same.mut ((p2.trans e3).trans e4) p1, ys ++ [y], upd_same, ?_⟩
    exact (((p4.ex e3).ex e4).snoc t4).kt (KT.put hD)
  | false => exact iteF ⟨p1, p2.trans e3, ys, e3 Dl _ p3, p4.ex e3⟩
theorem filt_succ (p : PyData → Bool) (f : PyData → PyData) {i : Nat} {d : PyData} (h : ds[i]? = some d) : ((ds.take (i + 1)).filter p).map f = if p d = true then ((ds.take i).filter p).map f ++ [f d] else ((ds.take i).filter p).map f := by
  have e : ds.take (i + 1) = ds.take i ++ [d] := by
    rw [List.take_succ, h]
    rfl
  rw [e, List.filter_append, List.map_append]
  cases hp : p d with
  | true => rw [List.filter_cons_of_pos hp]; rfl
  | false => rw [List.filter_cons_of_neg (by rw [hp]; exact Bool.false_ne_true)]; simp
theorem en_lc {j : Nat} {vs : List Nat} (p : PyData → Bool) (f : PyData → PyData) (h : EvS K tl σ H ds) (hz : ds.length ≤ 40000) (hw : ∀ x, wipe ((wipe σ vs).set j (some x)) vs = wipe σ vs)
    (ht : ∀ x d H1, Same H H1 → d ∈ ds → Td K H1 x d → EvT tt ((wipe σ vs).set j (some x)) H1 (p d))
    (he : ∀ x d H1, Same H H1 → d ∈ ds → p d = true → Td K H1 x d → EvD K te ((wipe σ vs).set j (some x)) H1 (f d)) :
    EvN K (tLc (iAny K tl) (gName j) tt te vs) σ H ((ds.filter p).map f) := fun H0 e Q q => h H0 e _ fun a H1 e1 ⟨xs, hq, ts⟩ => by
  have len : ∀ i, (((ds.take i).filter p).map f).length ≤ 50000 := fun i => by
    rw [List.length_map]
    have h1 := List.length_filter_le p (ds.take i)
    have h2 := List.length_take_le i ds
    have h3 : (ds.take i).length ≤ ds.length := by rw [List.length_take]; omega
    omega
  have core : ∀ (Dl : Addr), ∀ (i : Nat) (x : V) (H' : Hp), xs[i]? = some x → Cw K H1 Dl (((ds.take i).filter p).map f) H' → gName j x (wipe σ vs) H' fun σ2 H2 => wipe σ2 vs = wipe σ vs ∧ tt σ2 H2 fun b H3 =>
      if b = true then te σ2 H3 fun y H4 => ∃ acc, H4 Dl = some (.lst acc) ∧ acc.length < sizeLine ∧ Cw K H1 Dl (((ds.take (i + 1)).filter p).map f) (upd H4 Dl (.lst (acc ++ [y]))) else Cw K H1 Dl (((ds.take (i + 1)).filter p).map f) H3 := by
    intro Dl i x H' hx c
    obtain ⟨d, hd, td⟩ := ts.at_ hx
    refine ⟨hw x, ?_⟩
    rw [filt_succ p f hd]
    have hm : d ∈ ds := List.mem_of_getElem? hd
    have z := cw_turn (d := f d) c (len i) (ht x d H1 (e.trans e1) hm td) (fun hp => he x d H1 (e.trans e1) hm hp td)
    exact z
  have start : ∀ Dl, H1 Dl = none → Cw K H1 Dl (((ds.take 0).filter p).map f) (upd H1 Dl (.lst [])) := fun Dl hD => ⟨hD, Same.new hD, [], upd_same, by rw [List.take_zero]; exact .nil⟩
  have fin : ∀ Dl, H1 Dl = none → ∀ H', Cw K H1 Dl (((ds.take xs.length).filter p).map f) H' → Q (.ref Dl) H' := fun Dl hD H' c => by
    obtain ⟨c1, c2, ys, c3, c4⟩ := c
    rw [ts.len, List.take_length] at c4
    exact q Dl ys H' (e1.free c1) (e1.trans c2) c3 c4
  rcases hq with hq | hq
  · exact ⟨a, rfl, .inl ⟨⟨xs, hq⟩, fun Dl hD => lc_list (xs := xs) (fun i H' => Cw K H1 Dl (((ds.take i).filter p).map f) H') (start Dl hD) (fun i H' _ c => c.2.1.seq hq) (core Dl) (fin Dl hD)⟩⟩
  · exact ⟨a, rfl, .inr ⟨⟨xs, hq⟩, fun Dl hD => lc_tup (xs := xs) (fun i H' => Cw K H1 Dl (((ds.take i).filter p).map f) H') (start Dl hD) (fun i H' _ c => SqT.kt (.of c.2.1) hq) (core Dl) (fin Dl hD)⟩⟩
/-- over a text, sign by sign -/
theorem en_lcX {x : Str} {j : Nat} {vs : List Nat} (f : Nat → PyData) (h : EvD K tl σ H (.str x)) (hz : x.cps.size ≤ 40000) (hw : ∀ x, wipe ((wipe σ vs).set j (some x)) vs = wipe σ vs)
    (he : ∀ c H1, Same H H1 → c ∈ x.cps.toList → EvD K te ((wipe σ vs).set j (some (.str ⟨#[c]⟩))) H1 (f c)) : EvN K (tLc (iStr tl) (gName j) tYes te vs) σ H (x.cps.toList.map f) := fun H0 e Q q => h H0 e _ fun v H1 e1 t => by
  have ev := t.strI
  subst ev
  refine ⟨x, rfl, fun Dl hD => lc_it walk_str (fun i H' => Cw K H1 Dl ((x.cps.toList.take i).map f) H') ⟨hD, Same.new hD, [], upd_same, by rw [List.take_zero]; exact .nil⟩ (fun _ _ _ _ => trivial) (fun i y H' H2 hi c yl => ?_) fun H' c => ?_⟩
  · obtain ⟨eH, k, hk, ey⟩ := yl
    subst eH ey
    refine ⟨hw _, ?_⟩
    have hk' : x.cps.toList[i]? = some k := by simpa using hk
    have e5 : (x.cps.toList.take (i + 1)).map f = (x.cps.toList.take i).map f ++ [f k] := by
      rw [List.take_succ, hk']
      simp
    rw [e5]
    have len : ((x.cps.toList.take i).map f).length ≤ 50000 := by
      rw [List.length_map, List.length_take]
      have : x.cps.toList.length = x.cps.size := by simp
      omega
    exact cw_turn (c := true) (tt := tYes) c len (fun H1 _ Q q => q H1 (Same.refl H1)) (fun _ => he k H1 (e.trans e1) (List.mem_of_getElem? hk'))
  · obtain ⟨c1, c2, ys, c3, c4⟩ := c
    have e6 : x.cps.toList.take x.cps.size = x.cps.toList := by
      have : x.cps.toList.length = x.cps.size := by simp
      rw [← this, List.take_length]
    rw [e6] at c4
    exact q Dl ys H' (e1.free c1) (e1.trans c2) c3 c4
theorem et_yes : EvT tYes σ H true := fun H1 _ Q q => q H1 (Same.refl H1)
theorem en_lcM {j : Nat} {vs : List Nat} (f : PyData → PyData) (h : EvS K tl σ H ds) (hz : ds.length ≤ 40000) (hw : ∀ x, wipe ((wipe σ vs).set j (some x)) vs = wipe σ vs)
    (he : ∀ x d H1, Same H H1 → d ∈ ds → Td K H1 x d → EvD K te ((wipe σ vs).set j (some x)) H1 (f d)) :
    EvN K (tLc (iAny K tl) (gName j) tYes te vs) σ H (ds.map f) :=
  (en_lc (fun _ => true) f h hz hw (fun _ _ _ _ _ _ => et_yes) (fun x d H1 e hm _ t => he x d H1 e hm t)).is (by rw [List.filter_eq_self.mpr (fun _ _ => rfl)])
theorem ed_any {bs : List Bool} (h : EvL K ta σ H (bs.map PyData.bool)) : EvD K (tCB (rAny K) (tCons ta tNil)) σ H (.bool (bs.any id)) := fun H1 a Q q =>
  h H1 a _ fun p H2 e2 ⟨xs, hs, ts⟩ => by
    have e : xs = bs.map V.bl := ts.bools
    subst e
    exact ⟨p, bs, rfl, hs, q _ H2 e2 (.bl _)⟩
theorem ed_all {bs : List Bool} (h : EvL K ta σ H (bs.map PyData.bool)) : EvD K (tCB (rAll K) (tCons ta tNil)) σ H (.bool (bs.all id)) := fun H1 a Q q =>
  h H1 a _ fun p H2 e2 ⟨xs, hs, ts⟩ => by
    have e : xs = bs.map V.bl := ts.bools
    subst e
    exact ⟨p, bs, rfl, hs, q _ H2 e2 (.bl _)⟩
end
/-! The text by places, what the top has written, the form of a def's theorem. -/
def top (i : Nat) : Stmt := PySem.Challenge.pw_classhouse_k49_whole_upper_methods.main.body.getD i (.Pass ⟨0, 0, 0, 0⟩)
abbrev rNeg : V → Hp → VK → Prop := rU fun i => .int (-i)
abbrev rAdd : R2 := rI0 fun i j => .int (i + j)
abbrev rSub : R2 := rI0 fun i j => .int (i - j)
abbrev rMul : R2 := rI CMul fun i j => .int (i * j)
abbrev rMod : R2 := rI (fun _ j => 0 < j) fun i j => .int (i % j)
abbrev rDiv : R2 := rI CDiv fun i j => .int (i / j)
abbrev rPow : R2 := rI CPow fun i j => .int (i ^ j.toNat)
abbrev rLt : R2 := rI0 fun i j => .bl (decide (i < j))
abbrev rLe : R2 := rI0 fun i j => .bl (decide (i ≤ j))
abbrev rGt : R2 := rI0 fun i j => .bl (decide (j < i))
abbrev rGe : R2 := rI0 fun i j => .bl (decide (j ≤ i))
abbrev rAddSt : R2 := fun x y H Q => ∃ i j, x = .str i ∧ y = .str j ∧ i.length + j.length ≤ sizeLine ∧ Q (.str (i ++ j)) H
abbrev rInt1 : List V → Hp → VK → Prop := fun xs H Q => (∃ i, xs = [.int i] ∧ Q (.int i) H) ∨ ∃ k, xs = [.bl k] ∧ Q (.int (if k then 1 else 0)) H
abbrev rIsC (C : Addr) : List V → Hp → VK → Prop := fun xs H Q => ∃ a dx fs, xs = [.ref a, .ref C] ∧ H a = some (.ins C dx fs) ∧ Q (.bl true) H
theorem hu64 {A : Around} {k : Nat} (hr : Room k A) : A.units + 64 < cLine := by
  have := hr.un
  omega
def barredL : List Str := ["top", "num", "none", "odd", "unset"]
def bareL : List Str := ["none", "add", "less", "same", "give", "throw", "enter", "leave", "copy", "drop", "print"]
def endsL : List Str := ["give", "go", "throw"]
structure Txt (K : Frag) (mg : Str → Option Value) (aB aR aE aHouse : Addr) : Prop where
  z_isinstance : mg "isinstance" = none
  z_len : mg "len" = none
  z_all : mg "all" = none
  z_any : mg "any" = none
  z_enumerate : mg "enumerate" = none
  z_tuple : mg "tuple" = none
  z_list : mg "list" = none
  z_int : mg "int" = none
  z_range : mg "range" = none
  z_str : mg "str" = none
  z_bool : mg "bool" = none
  c_LETTERS : ∃ u, mg "LETTERS" = some u ∧ RelV (.str "abcdefghijklmnopqrstuvwxyz") u
  c_MOST_CLASSES : ∃ u, mg "MOST_CLASSES" = some u ∧ RelV (.int 8) u
  c_MOST_PARTS : ∃ u, mg "MOST_PARTS" = some u ∧ RelV (.int 4) u
  c_MOST_STEPS : ∃ u, mg "MOST_STEPS" = some u ∧ RelV (.int 20) u
  c_MOST_INS : ∃ u, mg "MOST_INS" = some u ∧ RelV (.int 3) u
  c_LOCALS : ∃ u, mg "LOCALS" = some u ∧ RelV (.int 4) u
  c_TOP : ∃ u, mg "TOP" = some u ∧ RelV (.str "top") u
  c_NUM : ∃ u, mg "NUM" = some u ∧ RelV (.str "num") u
  c_BARRED : ∃ u, mg "BARRED" = some u ∧ RelV (.ref aB) u
  c_BARE : ∃ u, mg "BARE" = some u ∧ RelV (.ref aR) u
  c_ENDS : ∃ u, mg "ENDS" = some u ∧ RelV (.ref aE) u
  c_House : ∃ u, mg "House" = some u ∧ RelV (.ref aHouse) u
  d_BARRED : ∀ H, Td K H (.ref aB) (.tuple (barredL.map PyData.str))
  d_BARE : ∀ H, Td K H (.ref aR) (.tuple (bareL.map PyData.str))
  d_ENDS : ∀ H, Td K H (.ref aE) (.tuple (endsL.map PyData.str))
  insC : C8.InsC K aHouse
  told : NoAttr K aHouse "told"
/-- a def of the text stands -/
structure DefB (K : Frag) (mg : Str → Option Value) (x : Str) (st : Stmt) (ps : List Str) : Prop where
  ex : ∃ f fd, C8.Def K mg x st f fd ∧ Binds K fd ps []
section
variable {P : Program} {w : World} {K : Frag} {mg : Str → Option Value} {base : Heap}
theorem cal_of {x : Str} {st : Stmt} {N ps : List Str} {k : Nat} {sp : Sp} (D : DefB K mg x st ps) (S : FnScope N ps (C8.fnScope st)) (len : ∀ vs H Q E, sp vs H Q E → vs.length = ps.length)
    (hbody : ∀ (f : Addr) (cdv : Value) (A : Around) (outer : List Env) (s : Shared) (H : Hp) (vs : List V) (Q : VK) (E : XK), Room k (A.deeper (envOfC x (C8.fnScope st) s.heap.objs.size f cdv)) → sp vs H Q E →
      ∃ t, PSs (cxOf C8.CX0 P w K mg base N x (C8.fnScope st) f cdv A outer s H E).nox (C8.fnBody st) t ∧ t { nx := fun _ H' => Q .non H', rt := Q } (start N vs) H) : C8.Cal P w K mg base (k + 1) x sp [] := by
  obtain ⟨f, fd, F, b⟩ := D.ex
  exact C8.cal0 F b .nil S len (hbody f)
end
/-! The classes as plain data; what the checks ask. -/
structure Mth where
  word : Str
  ins : List Str
  out : Str
  more : List PyData
structure Kl where
  name : Str
  upper : Str
  fields : List (Str × Str)
  meths : List Mth
def encM (m : Mth) : PyData := .tuple (.str m.word :: .tuple (m.ins.map .str) :: .str m.out :: m.more)
def encF (f : Str × Str) : PyData := .tuple [.str f.1, .str f.2]
def enc (c : Kl) : PyData := .tuple [.str c.name, .str c.upper, .tuple (c.fields.map encF), .tuple (c.meths.map encM)]
abbrev encs (cs : List Kl) : List PyData := cs.map enc
/-- the classes from one upward, the list backwards -/
def rowA : List Kl → Str → List Kl
  | [], _ => []
  | c :: r, n => if c.name = n then c :: rowA r c.upper else rowA r n
def row (cs : List Kl) (n : Str) : List Kl := rowA cs.reverse n
def topS : Str := "top"
def numS : Str := "num"
def namesL (cs : List Kl) : List Str := topS :: cs.map (·.name)
def fnames (c : Kl) : List Str := c.fields.map (·.1)
def mnames (c : Kl) : List Str := c.meths.map (·.word)
def letters : Str := "abcdefghijklmnopqrstuvwxyz"
structure IsWord (x : Str) : Prop where
  lo : 1 ≤ x.length
  hi : x.length ≤ 6
  all : ∀ c ∈ x.cps.toList, c ∈ letters.cps.toList
def isWordB (x : Str) : Bool := decide (1 ≤ x.length) && decide (x.length ≤ 6) && x.cps.toList.all fun c => decide (c ∈ letters.cps.toList)
theorem isWord_of {x : Str} (h : isWordB x = true) : IsWord x := by
  unfold isWordB at h
  simp only [Bool.and_eq_true, decide_eq_true_eq, List.all_eq_true] at h
  exact ⟨h.1.1, h.1.2, h.2⟩
structure OkClass (prev : List Kl) (c : Kl) : Prop where
  name : IsWord c.name
  bar : c.name ∉ barredL
  new : c.name ∉ namesL prev
  upw : IsWord c.upper
  up : c.upper ∈ namesL prev
def OkKind (names : List Str) (k : Str) : Prop := IsWord k ∧ (k = numS ∨ k ∈ names)
structure OkFields (prev : List Kl) (names : List Str) (c : Kl) : Prop where
  most : c.fields.length ≤ 4
  word : ∀ f ∈ c.fields, IsWord f.1
  kind : ∀ f ∈ c.fields, OkKind names f.2
  nodup : (fnames c).Nodup
  apart : ∀ f ∈ c.fields, f.1 ∉ (row prev c.upper).flatMap fnames
structure OkMeth (prev : List Kl) (names : List Str) (c : Kl) (i : Nat) (m : Mth) : Prop where
  word : IsWord m.word
  new : m.word ∉ (c.meths.take i).map (·.word)
  most : m.ins.length ≤ 3
  ins : ∀ k ∈ m.ins, OkKind names k
  out : OkKind names m.out
  same : ∀ u ∈ row prev c.upper, ∀ m' ∈ u.meths, m'.word = m.word → m'.ins = m.ins ∧ m'.out = m.out
  more : m.more.length = 2
/-- a step that can stand; last: it is the last one -/
inductive StepOk (cs : List Kl) (n : Nat) (last : Prop) : PyData → Prop
  | bare {w : Str} : w ∈ bareL → (last → w ∈ endsL) → StepOk cs n last (.tuple [.str w])
  | num {w : Str} {i hi : Int} : (w, hi) ∈ ([("push", 15), ("take", 3), ("keep", 3), ("go", (n : Int) - 1), ("if", (n : Int) - 1)] : List (Str × Int)) → 0 ≤ i → i ≤ hi → (last → w ∈ endsL) → StepOk cs n last (.tuple [.str w, .int i])
  | cls {w c : Str} : w ∈ (["new", "cast", "is"] : List Str) → IsWord c → c ∈ namesL cs → ¬ last → StepOk cs n last (.tuple [.str w, .str c])
  | fld {w c f : Str} : w ∈ (["get", "put"] : List Str) → IsWord c → IsWord f → f ∈ (row cs c).flatMap fnames → ¬ last → StepOk cs n last (.tuple [.str w, .str c, .str f])
  | call {c m : Str} : IsWord c → IsWord m → m ∈ (row cs c).flatMap mnames → ¬ last → StepOk cs n last (.tuple [.str "call", .str c, .str m])
inductive HandOk (cs : List Kl) (n : Nat) : PyData → Prop
  | mk {a b g : Int} {c : Str} : 0 ≤ a → a < n → a < b → b ≤ n → IsWord c → c ∈ namesL cs → 0 ≤ g → g < n → HandOk cs n (.tuple [.int a, .int b, .str c, .int g])
structure OkCode (cs : List Kl) (code hs : List PyData) : Prop where
  ne : code ≠ []
  most : code.length ≤ 20
  steps : ∀ i d, code[i]? = some d → StepOk cs code.length (i + 1 = code.length) d
  hmost : hs.length ≤ 4
  hands : ∀ h ∈ hs, HandOk cs code.length h
structure Good (cs : List Kl) : Prop where
  ne : cs ≠ []
  most : cs.length ≤ 8
  cls : ∀ i c, cs[i]? = some c → OkClass (cs.take i) c
  flds : ∀ i c, cs[i]? = some c → OkFields (cs.take i) (namesL cs) c
  mmost : ∀ c ∈ cs, c.meths.length ≤ 4
  mths : ∀ i c, cs[i]? = some c → ∀ j m, c.meths[j]? = some m → OkMeth (cs.take i) (namesL cs) c j m
  codes : ∀ c ∈ cs, ∀ m ∈ c.meths, ∃ code hs, m.more = [.tuple code, .tuple hs] ∧ OkCode cs code hs
/-! ### promises in common forms -/
/-- a value of the data d comes back; what stood stands -/
def Ret (K : Frag) (d : PyData) (H : Hp) (Q : VK) : Prop := ∀ v H', Same H H' → Td K H' v d → Q v H'
/-- a new list of the data ds comes back -/
def RetN (K : Frag) (ds : List PyData) (H : Hp) (Q : VK) : Prop := ∀ a xs H', H a = none → Same H H' → H' a = some (.lst xs) → Tds K H' xs ds → Q (.ref a) H'
theorem Ret.go {K : Frag} {d : PyData} {H H1 : Hp} {Q : VK} (r : Ret K d H Q) (e : Same H H1) : Ret K d H1 Q := fun v H' a t => r v H' (e.trans a) t
theorem RetN.go {K : Frag} {ds : List PyData} {H H1 : Hp} {Q : VK} (r : RetN K ds H Q) (e : Same H H1) : RetN K ds H1 Q := fun a xs H' n b h t => r a xs H' (e.free n) (e.trans b) h t
section
variable {K : Frag}
def sp_is_in (K : Frag) : Sp := fun vs H Q _ => ∃ (i l m : Int), vs = [.int i, .int l, .int m] ∧ l ≤ i ∧ i ≤ m ∧ Ret K (.bool true) H Q
def sp_is_word (K : Frag) : Sp := fun vs H Q _ => ∃ (x : Str), vs = [.str x] ∧ IsWord x ∧ Ret K (.bool true) H Q
def sp_is_list (K : Frag) : Sp := fun vs H Q _ => ∃ (v : V) (ds : List PyData) (n : Int), vs = [v, .int n] ∧ Td K H v (.tuple ds) ∧ (ds.length : Int) ≤ n ∧ Ret K (.bool true) H Q
def sp_names_of (K : Frag) : Sp := fun vs H Q _ => ∃ (v : V) (cs : List Kl), vs = [v] ∧ Td K H v (.tuple (encs cs)) ∧ cs.length ≤ 8 ∧ RetN K ((namesL cs).map .str) H Q
def sp_row_of (K : Frag) : Sp := fun vs H Q _ => ∃ (v : V) (cs : List Kl) (n : Str), vs = [v, .str n] ∧ Td K H v (.tuple (encs cs)) ∧ cs.length ≤ 8 ∧ RetN K (encs (row cs n)) H Q
def sp_is_class (K : Frag) : Sp := fun vs H Q _ => ∃ (v v2 : V) (cs : List Kl) (c : Kl), vs = [v, v2] ∧ Td K H v (.tuple (encs cs)) ∧ cs.length ≤ 8 ∧ Td K H v2 (enc c) ∧ OkClass cs c ∧ Ret K (.bool true) H Q
def sp_are_fields (K : Frag) : Sp := fun vs H Q _ => ∃ (v v2 : V) (a : Addr) (ys : List V) (cs : List Kl) (names : List Str) (c : Kl), vs = [v, .ref a, v2] ∧ Td K H v (.tuple (encs cs)) ∧ cs.length ≤ 8 ∧ H a = some (.lst ys) ∧ Tds K H ys (names.map .str) ∧ Td K H v2 (enc c) ∧ OkFields cs names c ∧ (∀ u ∈ cs, u.fields.length ≤ 4) ∧ Ret K (.bool true) H Q
def sp_is_kind_in (K : Frag) : Sp := fun vs H Q _ => ∃ (a : Addr) (names : List Str) (k : Str), vs = [.ref a, .str k] ∧ Ls K H a (names.map .str) ∧ OkKind names k ∧ Ret K (.bool true) H Q
def sp_is_method (K : Frag) : Sp := fun vs H Q _ => ∃ (v v2 : V) (a : Addr) (i : Nat) (cs : List Kl) (names : List Str) (c : Kl) (m : Mth), vs = [v, .ref a, v2, .int (i : Int)] ∧ Td K H v (.tuple (encs cs)) ∧ cs.length ≤ 8 ∧ Ls K H a (names.map .str) ∧ Td K H v2 (enc c) ∧ c.meths[i]? = some m ∧ c.meths.length ≤ 4 ∧
  OkMeth cs names c i m ∧ (∀ u ∈ cs, ∀ m' ∈ u.meths, SeqAt.shaped (encM m') = true) ∧ SeqAt.shaped (encM m) = true ∧ Ret K (.bool true) H Q
def sp_has_seen (K : Frag) : Sp := fun vs H Q _ => ∃ (v : V) (cs : List Kl) (c x : Str) (part : Int), vs = [v, .str c, .str x, .int part] ∧ Td K H v (.tuple (encs cs)) ∧ cs.length ≤ 8 ∧ (∀ u ∈ cs, u.fields.length ≤ 4 ∧ u.meths.length ≤ 4) ∧
  ((part = 2 ∧ x ∈ (row cs c).flatMap fnames) ∨ (part = 3 ∧ x ∈ (row cs c).flatMap mnames)) ∧ Ret K (.bool true) H Q
/-- the classes as the checks of codes want them -/
structure Lean8 (cs : List Kl) : Prop where
  most : cs.length ≤ 8
  parts : ∀ u ∈ cs, u.fields.length ≤ 4 ∧ u.meths.length ≤ 4
def sp_is_step (K : Frag) : Sp := fun vs H Q _ => ∃ (v v2 : V) (cs : List Kl) (code : List PyData) (i : Nat) (d : PyData), vs = [v, v2, .int (i : Int)] ∧ Td K H v (.tuple (encs cs)) ∧ Lean8 cs ∧ Td K H v2 (.tuple code) ∧ code.length ≤ 20 ∧ code[i]? = some d ∧ StepOk cs code.length (i + 1 = code.length) d ∧ Ret K (.bool true) H Q
def sp_is_handler (K : Frag) : Sp := fun vs H Q _ => ∃ (v v2 v3 : V) (cs : List Kl) (code : List PyData) (d : PyData), vs = [v, v2, v3] ∧ Td K H v (.tuple (encs cs)) ∧ Lean8 cs ∧ Td K H v2 (.tuple code) ∧ code.length ≤ 20 ∧ Td K H v3 d ∧ HandOk cs code.length d ∧ Ret K (.bool true) H Q
def sp_check_code (K : Frag) : Sp := fun vs H Q _ => ∃ (v v2 : V) (i j : Int) (cs : List Kl) (m : Mth) (code hs : List PyData), vs = [v, .int i, .int j, v2] ∧ Td K H v (.tuple (encs cs)) ∧ Lean8 cs ∧ Td K H v2 (encM m) ∧ m.more = [.tuple code, .tuple hs] ∧ OkCode cs code hs ∧ Ret K .none H Q
def sp_check_classes (K : Frag) : Sp := fun vs H Q _ => ∃ (v : V) (cs : List Kl), vs = [v] ∧ Td K H v (.tuple (encs cs)) ∧ Good cs ∧ Ret K .none H Q
end
/-! More of what evaluates to what; shapes. -/
section
variable {K : Frag} {σ : L2.St} {H H' : Hp} {ta tb tc te tl : TE} {t u tt : TT} {d e : PyData} {ds es : List PyData} {b c : Bool}
theorem ed_eqS {x y : Str} (h : EvD K ta σ H (.str x)) (h2 : EvD K tb σ H (.str y)) : EvD K (tOp rEq ta tb) σ H (.bool (decide (x = y))) := fun H1 a Q q =>
  h H1 a _ fun v H2 e2 t1 => h2 H2 (a.trans e2) _ fun w H3 e3 t2 => by
    have e1 := t1.strI
    have e4 := t2.strI
    subst e1 e4
    have e5 : decide (V.str x = V.str y) = decide (x = y) := by
      by_cases h : x = y
      · subst h; simp
      · rw [decide_eq_false h, decide_eq_false fun z => h (V.str.inj z)]
    exact ⟨rfl, by rw [e5]; exact q _ H3 (e2.trans e3) (.bl _)⟩
theorem ed_neS {x y : Str} (h : EvD K ta σ H (.str x)) (h2 : EvD K tb σ H (.str y)) : EvD K (tOp rNe ta tb) σ H (.bool (!decide (x = y))) := fun H1 a Q q =>
  h H1 a _ fun v H2 e2 t1 => h2 H2 (a.trans e2) _ fun w H3 e3 t2 => by
    have e1 := t1.strI
    have e4 := t2.strI
    subst e1 e4
    have e5 : decide (V.str x = V.str y) = decide (x = y) := by
      by_cases h : x = y
      · subst h; simp
      · rw [decide_eq_false h, decide_eq_false fun z => h (V.str.inj z)]
    exact ⟨rfl, by rw [e5]; exact q _ H3 (e2.trans e3) (.bl _)⟩
theorem ed_eqI {x y : Int} (h : EvD K ta σ H (.int x)) (h2 : EvD K tb σ H (.int y)) : EvD K (tOp rEq ta tb) σ H (.bool (decide (x = y))) := fun H1 a Q q =>
  h H1 a _ fun v H2 e2 t1 => h2 H2 (a.trans e2) _ fun w H3 e3 t2 => by
    have e1 := t1.intI
    have e4 := t2.intI
    subst e1 e4
    have e5 : decide (V.int x = V.int y) = decide (x = y) := by
      by_cases h : x = y
      · subst h; simp
      · rw [decide_eq_false h, decide_eq_false fun z => h (V.int.inj z)]
    exact ⟨rfl, by rw [e5]; exact q _ H3 (e2.trans e3) (.bl _)⟩
theorem ed_neI {x y : Int} (h : EvD K ta σ H (.int x)) (h2 : EvD K tb σ H (.int y)) : EvD K (tOp rNe ta tb) σ H (.bool (!decide (x = y))) := fun H1 a Q q =>
  h H1 a _ fun v H2 e2 t1 => h2 H2 (a.trans e2) _ fun w H3 e3 t2 => by
    have e1 := t1.intI
    have e4 := t2.intI
    subst e1 e4
    have e5 : decide (V.int x = V.int y) = decide (x = y) := by
      by_cases h : x = y
      · subst h; simp
      · rw [decide_eq_false h, decide_eq_false fun z => h (V.int.inj z)]
    exact ⟨rfl, by rw [e5]; exact q _ H3 (e2.trans e3) (.bl _)⟩
theorem ed_eqB {x y : Bool} (h : EvD K ta σ H (.bool x)) (h2 : EvD K tb σ H (.bool y)) : EvD K (tOp rEq ta tb) σ H (.bool (decide (x = y))) := fun H1 a Q q =>
  h H1 a _ fun v H2 e2 t1 => h2 H2 (a.trans e2) _ fun w H3 e3 t2 => by
    have e1 := t1.blI
    have e4 := t2.blI
    subst e1 e4
    have e5 : decide (V.bl x = V.bl y) = decide (x = y) := by
      by_cases h : x = y
      · subst h; simp
      · rw [decide_eq_false h, decide_eq_false fun z => h (V.bl.inj z)]
    exact ⟨rfl, by rw [e5]; exact q _ H3 (e2.trans e3) (.bl _)⟩
theorem ed_neB {x y : Bool} (h : EvD K ta σ H (.bool x)) (h2 : EvD K tb σ H (.bool y)) : EvD K (tOp rNe ta tb) σ H (.bool (!decide (x = y))) := fun H1 a Q q =>
  h H1 a _ fun v H2 e2 t1 => h2 H2 (a.trans e2) _ fun w H3 e3 t2 => by
    have e1 := t1.blI
    have e4 := t2.blI
    subst e1 e4
    have e5 : decide (V.bl x = V.bl y) = decide (x = y) := by
      by_cases h : x = y
      · subst h; simp
      · rw [decide_eq_false h, decide_eq_false fun z => h (V.bl.inj z)]
    exact ⟨rfl, by rw [e5]; exact q _ H3 (e2.trans e3) (.bl _)⟩
theorem ed_eqN (h : EvD K ta σ H .none) (h2 : EvD K tb σ H .none) : EvD K (tOp rEq ta tb) σ H (.bool true) := fun H1 a Q q =>
  h H1 a _ fun v H2 e2 t1 => h2 H2 (a.trans e2) _ fun w H3 e3 t2 => by
    have e1 := t1.nonI
    have e4 := t2.nonI
    subst e1 e4
    exact ⟨rfl, by simpa using q _ H3 (e2.trans e3) (.bl true)⟩
/-! ### tests that fail, that hold -/
theorem et_or2 (h1 : EvT t σ H false) (h2 : EvT u σ H c) : EvT (tOr t u) σ H c := (et_or h1 fun _ => h2).is (by simp)
theorem et_andF (h1 : EvT t σ H false) : EvT (tAnd t u) σ H false := (et_and (c := false) h1 (fun h => by cases h)).is (by simp)
theorem et_and2 (h1 : EvT t σ H true) (h2 : EvT u σ H c) : EvT (tAnd t u) σ H c := (et_and h1 fun _ => h2).is (by simp)
theorem et_nt (h : EvT t σ H true) : EvT (tNot t) σ H false := et_not h
theorem et_nf (h : EvT t σ H false) : EvT (tNot t) σ H true := et_not h
theorem ed_andT (h1 : EvD K ta σ H (.bool true)) (h2 : EvD K tb σ H (.bool c)) : EvD K (tAndV ta tb) σ H (.bool c) := (ed_and h1 fun _ => h2).is (by simp)
theorem ed_nt (h : EvD K te σ H (.bool false)) : EvD K (tNotV te) σ H (.bool true) := ed_not h
end
/-! ### shapes -/
def Sh (n : Nat) (d : PyData) : Prop := d.canLay0 = true ∧ d.depth ≤ n
theorem Sh.shaped {n : Nat} {d : PyData} (h : Sh n d) (hn : n ≤ 64) : SeqAt.shaped d = true := by
  unfold SeqAt.shaped
  rw [h.1, decide_eq_true (Nat.le_trans h.2 hn)]
  rfl
theorem Sh.all : ∀ {n : Nat} {ds : List PyData}, (∀ d ∈ ds, Sh n d) → PyData.canLayAll0 ds = true ∧ PyData.depthAll ds ≤ n
  | n, [], _ => ⟨by simp only [PyData.canLayAll0], by simp only [PyData.depthAll]; exact Nat.zero_le _⟩
  | n, d :: r, h => by
    have h1 := h d List.mem_cons_self
    have h2 := Sh.all (n := n) (ds := r) fun x hx => h x (List.mem_cons_of_mem _ hx)
    refine ⟨by simp only [PyData.canLayAll0, h1.1, h2.1, Bool.and_self], ?_⟩
    simp only [PyData.depthAll]
    exact Nat.max_le.mpr ⟨h1.2, h2.2⟩
theorem Sh.tup {n : Nat} {ds : List PyData} (h : ∀ d ∈ ds, Sh n d) : Sh (n + 1) (.tuple ds) := by
  obtain ⟨h1, h2⟩ := Sh.all h
  refine ⟨by simp only [PyData.canLay0, h1], ?_⟩
  simp only [PyData.depth]
  omega
theorem Sh.lst {n : Nat} {ds : List PyData} (h : ∀ d ∈ ds, Sh n d) : Sh (n + 1) (.list ds) := by
  obtain ⟨h1, h2⟩ := Sh.all h
  refine ⟨by simp only [PyData.canLay0, h1], ?_⟩
  simp only [PyData.depth]
  omega
theorem Sh.int (n : Nat) (i : Int) : Sh n (.int i) := ⟨by simp only [PyData.canLay0], by simp only [PyData.depth]; exact Nat.zero_le _⟩
theorem Sh.str {n : Nat} {x : Str} (h : PyData.canLay0 (.str x) = true) : Sh n (.str x) := ⟨h, by simp only [PyData.depth]; exact Nat.zero_le _⟩
theorem Sh.mono {n m : Nat} {d : PyData} (h : Sh n d) (e : n ≤ m) : Sh m d := ⟨h.1, Nat.le_trans h.2 e⟩
/-! A house, and what is asked of it. -/
def hasW (w : Str) (c : Kl) : Bool := decide (w ∈ mnames c)
def line (cs : List Kl) (n w : Str) : List Str := ((row cs n).filter (hasW w)).map (·.name)
/-- the place of a word -/
def plc (w : Str) : List Str → Nat
  | [] => 0
  | x :: r => if x = w then 0 else plc w r + 1
def pairD (w : Str) (c : Kl) : PyData := .tuple [.str c.name, .int ((plc w (mnames c) : Nat) : Int)]
def nearD (w : Str) (r : List Kl) : PyData := match r.find? (hasW w) with
  | none => .none
  | some c => pairD w c
def reached (cs : List Kl) (n w : Str) : List Str := (cs.filter fun c => decide ((line cs c.name w).take 1 = [n])).map (·.name)
/-- a house of these classes stands at a -/
def HouseAt (K : Frag) (aHouse : Addr) (H : Hp) (a : Addr) (cs : List Kl) : Prop := ∃ dx v, H a = some (.ins aHouse dx [("told", v)]) ∧ Td K H v (.tuple (encs cs)) ∧ Good cs
theorem HouseAt.ex {K : Frag} {aHouse : Addr} {H H' : Hp} {a : Addr} {cs : List Kl} (h : HouseAt K aHouse H a cs) (e : Same H H') : HouseAt K aHouse H' a cs := by
  obtain ⟨dx, v, h1, h2, h3⟩ := h
  exact ⟨dx, v, e _ _ h1, h2.ex e, h3⟩
def sp_House_init (K : Frag) (aHouse : Addr) : Sp := fun vs H Q _ => ∃ (x dx : Addr) (v : V) (cs : List Kl), vs = [.ref x, v] ∧ H x = some (.ins aHouse dx []) ∧ Td K H v (.tuple (encs cs)) ∧ Good cs ∧
  ∀ H', (∀ b o, b ≠ x → H b = some o → H' b = some o) → H' x = some (.ins aHouse dx [("told", v)]) → Q .non H'
def sp_need_house (K : Frag) (aHouse : Addr) : Sp := fun vs H Q _ => ∃ (a : Addr) (cs : List Kl), vs = [.ref a] ∧ HouseAt K aHouse H a cs ∧ Ret K .none H Q
def sp_need_name (K : Frag) (aHouse : Addr) : Sp := fun vs H Q _ => ∃ (a : Addr) (cs : List Kl) (n : Str), vs = [.ref a, .str n] ∧ HouseAt K aHouse H a cs ∧ n ∈ namesL cs ∧ Ret K .none H Q
def sp_need_word (K : Frag) : Sp := fun vs H Q _ => ∃ (x : Str), vs = [.str x] ∧ IsWord x ∧ Ret K .none H Q
def sp_need_asked (K : Frag) (aHouse : Addr) : Sp := fun vs H Q _ => ∃ (a : Addr) (cs : List Kl) (n x : Str), vs = [.ref a, .str n, .str x] ∧ HouseAt K aHouse H a cs ∧ n ∈ namesL cs ∧ IsWord x ∧ Ret K .none H Q
def sp_line_of (K : Frag) (aHouse : Addr) : Sp := fun vs H Q _ => ∃ (a : Addr) (cs : List Kl) (n x : Str), vs = [.ref a, .str n, .str x] ∧ HouseAt K aHouse H a cs ∧ RetN K ((line cs n x).map .str) H Q
def sp_method_line (K : Frag) (aHouse : Addr) : Sp := fun vs H Q _ => ∃ (a : Addr) (cs : List Kl) (n x : Str), vs = [.ref a, .str n, .str x] ∧ HouseAt K aHouse H a cs ∧ n ∈ namesL cs ∧ IsWord x ∧ Ret K (.tuple ((line cs n x).map .str)) H Q
def sp_upper_method (K : Frag) (aHouse : Addr) : Sp := fun vs H Q _ => ∃ (a : Addr) (cs : List Kl) (n x : Str), vs = [.ref a, .str n, .str x] ∧ HouseAt K aHouse H a cs ∧ n ∈ namesL cs ∧ IsWord x ∧ Ret K (nearD x (row cs n).tail) H Q
/-- NotOwn, the class at aN, is raised where the class has none of this word itself -/
def sp_reached_from (K : Frag) (aHouse aN : Addr) : Sp := fun vs H Q E => ∃ (a : Addr) (cs : List Kl) (n x : Str), vs = [.ref a, .str n, .str x] ∧ HouseAt K aHouse H a cs ∧ n ∈ namesL cs ∧ IsWord x ∧
  ((line cs n x).take 1 = [n] → n ≠ topS → Ret K (.tuple ((reached cs n x).map .str)) H Q) ∧ (¬ ((line cs n x).take 1 = [n] ∧ n ≠ topS) → ∀ H', Same H H' → E (.ref aN) none H')
/-- the scope of the comprehension that a def hands back, that a statement stores -/
def retSc (st : Stmt) : Scope := match C8.fnBody st with
  | [.Return (some (.ListComp _ _ sc _)) _] => sc
  | _ => ⟨.function, [], false, false, []⟩
def setSc (st : Stmt) : Scope := match st with
  | .Assign _ (.ListComp _ _ sc _) _ => sc
  | _ => ⟨.function, [], false, false, []⟩
def lcSc_line_of_0 : Scope := retSc (top 50)
/-- raise X(), X the own exception class at aN -/
def tRaiseO (aN : Addr) (E : XK) : TS := fun _ _ H => E (.ref aN) none H
/-- an own exception class over ValueError without __init__ -/
structure ExN (K : Frag) (mg : Str → Option Value) (x : Str) (aN : Addr) : Prop where
  g : mg x = some (.ref aN)
  x : PySem.W.excIn K aN [.type "ValueError", .type "Exception", .type "BaseException", .type "object"] "ValueError.__new__" = true
  k : PySem.W.keepIn K (.ref aN) = true
  b : PySem.W.subIn K (.ref aN) (.type "BaseException") = some true
  t : PySem.W.typeIn K (.ref aN) = some (.type "type")
/-! ### is_in -/
abbrev s_is_in : Stmt := top 28
abbrev N_is_in : List Str := ["value", "least", "most"]
abbrev P_is_in : List Str := ["value", "least", "most"]
theorem sc_is_in : FnScope N_is_in P_is_in (C8.fnScope s_is_in) := C8.fnScope_by (by decide +kernel)
def t_is_in (K : Frag) : TS :=
    (tRet (tAndV (tCB (rIsi K) (tCons (tVar 0) (tCons (tC (.ty "int")) tNil))) (tAndV (tNotV (tCB (rIsi K) (tCons (tVar 0) (tCons (tC (.ty "bool")) tNil)))) (tChain rLe rLe (tVar 1) (tVar 0) (tVar 2)))))
/-! ### is_word -/
abbrev s_is_word : Stmt := top 29
abbrev N_is_word : List Str := ["value", "sign"]
abbrev P_is_word : List Str := ["value"]
theorem sc_is_word : FnScope N_is_word P_is_word (C8.fnScope s_is_word) := C8.fnScope_by (by decide +kernel)
def t_is_word (K : Frag) : TS :=
    (tRet (tAndV (tCB (rIsi K) (tCons (tVar 0) (tCons (tC (.ty "str")) tNil))) (tAndV (tChain rLe rLe (tC (.int 1)) (tCB (rLen K) (tCons (tVar 0) tNil)) (tC (.int 6))) (tCB (rAll K) (tCons (tLc (iStr (tVar 0)) (gName 1) tYes (tOp rInS (tVar 1) (tC (.str "abcdefghijklmnopqrstuvwxyz"))) [1]) tNil)))))
/-! ### is_list -/
abbrev s_is_list : Stmt := top 30
abbrev N_is_list : List Str := ["value", "most"]
abbrev P_is_list : List Str := ["value", "most"]
theorem sc_is_list : FnScope N_is_list P_is_list (C8.fnScope s_is_list) := C8.fnScope_by (by decide +kernel)
def t_is_list (K : Frag) : TS :=
    (tRet (tAndV (tCB (rIsi K) (tCons (tVar 0) (tCons (tC (.ty "tuple")) tNil))) (tOp rLe (tCB (rLen K) (tCons (tVar 0) tNil)) (tVar 1))))
/-! ### names_of -/
abbrev s_names_of : Stmt := top 31
abbrev N_names_of : List Str := ["classes", "told"]
abbrev P_names_of : List Str := ["classes"]
theorem sc_names_of : FnScope N_names_of P_names_of (C8.fnScope s_names_of) := C8.fnScope_by (by decide +kernel)
def t_names_of (K : Frag) : TS :=
    (tRet (tLst (tCons (tC (.str "top")) (tStar K (tLc (iAny K (tVar 0)) (gName 1) tYes (tOp (rIx K) (tVar 1) (tC (.int 0))) [1]) tNil))))
/-! ### row_of -/
abbrev s_row_of : Stmt := top 32
abbrev N_row_of : List Str := ["classes", "name", "found", "told"]
abbrev P_row_of : List Str := ["classes", "name"]
theorem sc_row_of : FnScope N_row_of P_row_of (C8.fnScope s_row_of) := C8.fnScope_by (by decide +kernel)
def t_row_of (K : Frag) : TS :=
    (tSeq (tAsg (tLst tNil) (gName 2))
    (tSeq (tFor (iAny K (tRevA K (tVar 0))) (gName 3) (tIfS (tTest (tOp rEq (tOp (rIx K) (tVar 3) (tC (.int 0))) (tVar 1))) (tSeq (tDrop (tBM K "list" rAppend (tVar 2) (tCons (tVar 3) tNil)))
    (tAsg (tOp (rIx K) (tVar 3) (tC (.int 1))) (gName 1))) tNext))
    (tRet (tVar 2))))
/-! ### is_class -/
abbrev s_is_class : Stmt := top 33
abbrev N_is_class : List Str := ["classes", "value"]
abbrev P_is_class : List Str := ["classes", "value"]
theorem sc_is_class : FnScope N_is_class P_is_class (C8.fnScope s_is_class) := C8.fnScope_by (by decide +kernel)
def t_is_class (K : Frag) (aB : Addr) : TS :=
    (tSeq (tIfS (tOr (tNot (tB (tCB (rIsi K) (tCons (tVar 1) (tCons (tC (.ty "tuple")) tNil))))) (tOr (tTest (tOp rNe (tCB (rLen K) (tCons (tVar 1) tNil)) (tC (.int 4)))) (tNot (tB (tCall (sp_is_word K) [] C8.E0 (tCons (tOp (rIx K) (tVar 1) (tC (.int 0))) tNil)))))) (tRet (tC (.bl false))) tNext)
    (tSeq (tIfS (tOr (tTest (tOp (rIn K false) (tOp (rIx K) (tVar 1) (tC (.int 0))) (tC (.ref aB)))) (tTest (tOp (rIn K false) (tOp (rIx K) (tVar 1) (tC (.int 0))) (tCall (sp_names_of K) [] C8.E0 (tCons (tVar 0) tNil))))) (tRet (tC (.bl false))) tNext)
    (tRet (tAndV (tCall (sp_is_word K) [] C8.E0 (tCons (tOp (rIx K) (tVar 1) (tC (.int 1))) tNil)) (tOp (rIn K false) (tOp (rIx K) (tVar 1) (tC (.int 1))) (tCall (sp_names_of K) [] C8.E0 (tCons (tVar 0) tNil)))))))
/-! ### are_fields -/
abbrev s_are_fields : Stmt := top 34
abbrev N_are_fields : List Str := ["classes", "names", "told", "seen", "field", "upper"]
abbrev P_are_fields : List Str := ["classes", "names", "told"]
theorem sc_are_fields : FnScope N_are_fields P_are_fields (C8.fnScope s_are_fields) := C8.fnScope_by (by decide +kernel)
def t_are_fields (K : Frag) : TS :=
    (tSeq (tIfS (tNot (tB (tCall (sp_is_list K) [] C8.E0 (tCons (tOp (rIx K) (tVar 2) (tC (.int 2))) (tCons (tC (.int 4)) tNil))))) (tRet (tC (.bl false))) tNext)
    (tSeq (tAsg (tLc2 (iAny K (tCall (sp_row_of K) [] C8.E0 (tCons (tVar 0) (tCons (tOp (rIx K) (tVar 2) (tC (.int 1))) tNil)))) (gName 5) tYes (iAny K (tOp (rIx K) (tVar 5) (tC (.int 2)))) (gName 4) tYes (tOp (rIx K) (tVar 4) (tC (.int 0))) [5, 4] [4]) (gName 3))
    (tSeq (tFor (iAny K (tOp (rIx K) (tVar 2) (tC (.int 2)))) (gName 4) (tSeq (tIfS (tOr (tNot (tB (tCB (rIsi K) (tCons (tVar 4) (tCons (tC (.ty "tuple")) tNil))))) (tOr (tTest (tOp rNe (tCB (rLen K) (tCons (tVar 4) tNil)) (tC (.int 2)))) (tOr (tNot (tB (tCall (sp_is_word K) [] C8.E0 (tCons (tOp (rIx K) (tVar 4) (tC (.int 0))) tNil)))) (tTest (tOp (rIn K false) (tOp (rIx K) (tVar 4) (tC (.int 0))) (tVar 3)))))) (tRet (tC (.bl false))) tNext)
    (tSeq (tIfS (tOr (tNot (tB (tCall (sp_is_word K) [] C8.E0 (tCons (tOp (rIx K) (tVar 4) (tC (.int 1))) tNil)))) (tAnd (tTest (tOp rNe (tOp (rIx K) (tVar 4) (tC (.int 1))) (tC (.str "num")))) (tTest (tOp (rIn K true) (tOp (rIx K) (tVar 4) (tC (.int 1))) (tVar 1))))) (tRet (tC (.bl false))) tNext)
    (tDrop (tBM K "list" rAppend (tVar 3) (tCons (tOp (rIx K) (tVar 4) (tC (.int 0))) tNil))))))
    (tRet (tC (.bl true))))))
/-! ### is_kind_in -/
abbrev s_is_kind_in : Stmt := top 35
abbrev N_is_kind_in : List Str := ["names", "value"]
abbrev P_is_kind_in : List Str := ["names", "value"]
theorem sc_is_kind_in : FnScope N_is_kind_in P_is_kind_in (C8.fnScope s_is_kind_in) := C8.fnScope_by (by decide +kernel)
def t_is_kind_in (K : Frag) : TS :=
    (tRet (tAndV (tCall (sp_is_word K) [] C8.E0 (tCons (tVar 1) tNil)) (tOrV (tOp rEq (tVar 1) (tC (.str "num"))) (tOp (rIn K false) (tVar 1) (tVar 0)))))
/-! ### is_method -/
abbrev s_is_method : Stmt := top 36
abbrev N_is_method : List Str := ["classes", "names", "told", "at", "value", "upper", "method", "kind"]
abbrev P_is_method : List Str := ["classes", "names", "told", "at"]
theorem sc_is_method : FnScope N_is_method P_is_method (C8.fnScope s_is_method) := C8.fnScope_by (by decide +kernel)
def t_is_method (K : Frag) : TS :=
    (tSeq (tAsg (tOp (rIx K) (tOp (rIx K) (tVar 2) (tC (.int 3))) (tVar 3)) (gName 4))
    (tSeq (tIfS (tOr (tNot (tB (tCB (rIsi K) (tCons (tVar 4) (tCons (tC (.ty "tuple")) tNil))))) (tOr (tTest (tOp rNe (tCB (rLen K) (tCons (tVar 4) tNil)) (tC (.int 5)))) (tNot (tB (tCall (sp_is_word K) [] C8.E0 (tCons (tOp (rIx K) (tVar 4) (tC (.int 0))) tNil)))))) (tRet (tC (.bl false))) tNext)
    (tSeq (tIfS (tOr (tTest (tOp (rIn K false) (tOp (rIx K) (tVar 4) (tC (.int 0))) (tLc (iAny K (tSl (rSlX K) (tOp (rIx K) (tVar 2) (tC (.int 3))) tNoPart (tPart (tVar 3)))) (gName 6) tYes (tOp (rIx K) (tVar 6) (tC (.int 0))) [6]))) (tNot (tB (tCall (sp_is_list K) [] C8.E0 (tCons (tOp (rIx K) (tVar 4) (tC (.int 1))) (tCons (tC (.int 3)) tNil)))))) (tRet (tC (.bl false))) tNext)
    (tSeq (tIfS (tOr (tNot (tB (tCB (rAll K) (tCons (tLc (iAny K (tOp (rIx K) (tVar 4) (tC (.int 1)))) (gName 7) tYes (tCall (sp_is_kind_in K) [] C8.E0 (tCons (tVar 1) (tCons (tVar 7) tNil))) [7]) tNil)))) (tNot (tB (tCall (sp_is_kind_in K) [] C8.E0 (tCons (tVar 1) (tCons (tOp (rIx K) (tVar 4) (tC (.int 2))) tNil)))))) (tRet (tC (.bl false))) tNext)
    (tSeq (tFor (iAny K (tCall (sp_row_of K) [] C8.E0 (tCons (tVar 0) (tCons (tOp (rIx K) (tVar 2) (tC (.int 1))) tNil)))) (gName 5) (tFor (iAny K (tOp (rIx K) (tVar 5) (tC (.int 3)))) (gName 6) (tIfS (tAnd (tTest (tOp rEq (tOp (rIx K) (tVar 6) (tC (.int 0))) (tOp (rIx K) (tVar 4) (tC (.int 0))))) (tTest (tOp (rNeD K) (tSl (rSlX K) (tVar 6) (tPart (tC (.int 1))) (tPart (tC (.int 3)))) (tSl (rSlX K) (tVar 4) (tPart (tC (.int 1))) (tPart (tC (.int 3))))))) (tRet (tC (.bl false))) tNext)))
    (tRet (tC (.bl true))))))))
/-! ### has_seen -/
abbrev s_has_seen : Stmt := top 37
abbrev N_has_seen : List Str := ["classes", "name", "word", "part", "told", "one"]
abbrev P_has_seen : List Str := ["classes", "name", "word", "part"]
theorem sc_has_seen : FnScope N_has_seen P_has_seen (C8.fnScope s_has_seen) := C8.fnScope_by (by decide +kernel)
def t_has_seen (K : Frag) : TS :=
    (tRet (tCB (rAny K) (tCons (tLc2 (iAny K (tCall (sp_row_of K) [] C8.E0 (tCons (tVar 0) (tCons (tVar 1) tNil)))) (gName 4) tYes (iAny K (tOp (rIx K) (tVar 4) (tVar 3))) (gName 5) tYes (tOp rEq (tOp (rIx K) (tVar 5) (tC (.int 0))) (tVar 2)) [4, 5] [5]) tNil)))
/-! ### is_step -/
abbrev s_is_step : Stmt := top 38
abbrev N_is_step : List Str := ["classes", "code", "at", "step", "parts", "spans"]
abbrev P_is_step : List Str := ["classes", "code", "at"]
theorem sc_is_step : FnScope N_is_step P_is_step (C8.fnScope s_is_step) := C8.fnScope_by (by decide +kernel)
def t_is_step (K : Frag) (aR : Addr) (aE : Addr) : TS :=
    (tSeq (tAsg (tOp (rIx K) (tVar 1) (tVar 2)) (gName 3))
    (tSeq (tIfS (tOr (tNot (tB (tCB (rIsi K) (tCons (tVar 3) (tCons (tC (.ty "tuple")) tNil))))) (tOr (tTest (tOp (rEqD K) (tVar 3) (tTup tNil))) (tNot (tB (tCB (rIsi K) (tCons (tOp (rIx K) (tVar 3) (tC (.int 0))) (tCons (tC (.ty "str")) tNil))))))) (tRet (tC (.bl false))) tNext)
    (tSeq (tIfS (tAnd (tTest (tOp rEq (tVar 2) (tOp rSub (tCB (rLen K) (tCons (tVar 1) tNil)) (tC (.int 1))))) (tTest (tOp (rIn K true) (tOp (rIx K) (tVar 3) (tC (.int 0))) (tC (.ref aE))))) (tRet (tC (.bl false))) tNext)
    (tSeq (tIfS (tTest (tOp rEq (tCB (rLen K) (tCons (tVar 3) tNil)) (tC (.int 1)))) (tRet (tOp (rIn K false) (tOp (rIx K) (tVar 3) (tC (.int 0))) (tC (.ref aR)))) tNext)
    (tSeq (tIfS (tTest (tOp rEq (tCB (rLen K) (tCons (tVar 3) tNil)) (tC (.int 2)))) (tSeq (tAsg (tDisp [((tC (.str "push")), (tC (.int 15))), ((tC (.str "take")), (tOp rSub (tC (.int 4)) (tC (.int 1)))), ((tC (.str "keep")), (tOp rSub (tC (.int 4)) (tC (.int 1)))), ((tC (.str "go")), (tOp rSub (tCB (rLen K) (tCons (tVar 1) tNil)) (tC (.int 1)))), ((tC (.str "if")), (tOp rSub (tCB (rLen K) (tCons (tVar 1) tNil)) (tC (.int 1))))]) (gName 5))
    (tSeq (tIfS (tB (tDIn (tOp (rIx K) (tVar 3) (tC (.int 0))) (tVar 5))) (tRet (tCall (sp_is_in K) [] C8.E0 (tCons (tOp (rIx K) (tVar 3) (tC (.int 1))) (tCons (tC (.int 0)) (tCons (tDGet (tVar 5) (tOp (rIx K) (tVar 3) (tC (.int 0)))) tNil))))) tNext)
    (tRet (tAndV (tOp (rIn K false) (tOp (rIx K) (tVar 3) (tC (.int 0))) (tTup (tCons (tC (.str "new")) (tCons (tC (.str "cast")) (tCons (tC (.str "is")) tNil))))) (tAndV (tCall (sp_is_word K) [] C8.E0 (tCons (tOp (rIx K) (tVar 3) (tC (.int 1))) tNil)) (tOp (rIn K false) (tOp (rIx K) (tVar 3) (tC (.int 1))) (tCall (sp_names_of K) [] C8.E0 (tCons (tVar 0) tNil)))))))) tNext)
    (tSeq (tIfS (tOr (tTest (tOp rNe (tCB (rLen K) (tCons (tVar 3) tNil)) (tC (.int 3)))) (tOr (tNot (tB (tCall (sp_is_word K) [] C8.E0 (tCons (tOp (rIx K) (tVar 3) (tC (.int 1))) tNil)))) (tNot (tB (tCall (sp_is_word K) [] C8.E0 (tCons (tOp (rIx K) (tVar 3) (tC (.int 2))) tNil)))))) (tRet (tC (.bl false))) tNext)
    (tSeq (tAsg (tDisp [((tC (.str "get")), (tC (.int 2))), ((tC (.str "put")), (tC (.int 2))), ((tC (.str "call")), (tC (.int 3)))]) (gName 4))
    (tRet (tAndV (tDIn (tOp (rIx K) (tVar 3) (tC (.int 0))) (tVar 4)) (tCall (sp_has_seen K) [] C8.E0 (tCons (tVar 0) (tCons (tOp (rIx K) (tVar 3) (tC (.int 1))) (tCons (tOp (rIx K) (tVar 3) (tC (.int 2))) (tCons (tDGet (tVar 4) (tOp (rIx K) (tVar 3) (tC (.int 0)))) tNil))))))))))))))
/-! ### is_handler -/
abbrev s_is_handler : Stmt := top 39
abbrev N_is_handler : List Str := ["classes", "code", "value"]
abbrev P_is_handler : List Str := ["classes", "code", "value"]
theorem sc_is_handler : FnScope N_is_handler P_is_handler (C8.fnScope s_is_handler) := C8.fnScope_by (by decide +kernel)
def t_is_handler (K : Frag) : TS :=
    (tSeq (tIfS (tOr (tNot (tB (tCB (rIsi K) (tCons (tVar 2) (tCons (tC (.ty "tuple")) tNil))))) (tOr (tTest (tOp rNe (tCB (rLen K) (tCons (tVar 2) tNil)) (tC (.int 4)))) (tNot (tB (tCall (sp_is_in K) [] C8.E0 (tCons (tOp (rIx K) (tVar 2) (tC (.int 0))) (tCons (tC (.int 0)) (tCons (tOp rSub (tCB (rLen K) (tCons (tVar 1) tNil)) (tC (.int 1))) tNil)))))))) (tRet (tC (.bl false))) tNext)
    (tSeq (tIfS (tOr (tNot (tB (tCall (sp_is_in K) [] C8.E0 (tCons (tOp (rIx K) (tVar 2) (tC (.int 1))) (tCons (tOp rAdd (tOp (rIx K) (tVar 2) (tC (.int 0))) (tC (.int 1))) (tCons (tCB (rLen K) (tCons (tVar 1) tNil)) tNil)))))) (tOr (tNot (tB (tCall (sp_is_word K) [] C8.E0 (tCons (tOp (rIx K) (tVar 2) (tC (.int 2))) tNil)))) (tTest (tOp (rIn K true) (tOp (rIx K) (tVar 2) (tC (.int 2))) (tCall (sp_names_of K) [] C8.E0 (tCons (tVar 0) tNil)))))) (tRet (tC (.bl false))) tNext)
    (tRet (tCall (sp_is_in K) [] C8.E0 (tCons (tOp (rIx K) (tVar 2) (tC (.int 3))) (tCons (tC (.int 0)) (tCons (tOp rSub (tCB (rLen K) (tCons (tVar 1) tNil)) (tC (.int 1))) tNil)))))))
/-! ### check_code -/
abbrev s_check_code : Stmt := top 40
abbrev N_check_code : List Str := ["classes", "index", "place", "method", "code", "step", "row", "handler"]
abbrev P_check_code : List Str := ["classes", "index", "place", "method"]
theorem sc_check_code : FnScope N_check_code P_check_code (C8.fnScope s_check_code) := C8.fnScope_by (by decide +kernel)
def t_check_code (K : Frag) : TS :=
    (tSeq (tAsg (tOp (rIx K) (tVar 3) (tC (.int 3))) (gName 4))
    (tSeq (tIfS (tOr (tNot (tB (tCall (sp_is_list K) [] C8.E0 (tCons (tVar 4) (tCons (tC (.int 20)) tNil))))) (tTest (tOp (rEqD K) (tVar 4) (tTup tNil)))) tNever tNext)
    (tSeq (tFor (iRng1 (tCons (tCB (rLen K) (tCons (tVar 4) tNil)) tNil)) (gName 5) (tIfS (tNot (tB (tCall (sp_is_step K) [] C8.E0 (tCons (tVar 0) (tCons (tVar 4) (tCons (tVar 5) tNil)))))) tNever tNext))
    (tSeq (tIfS (tNot (tB (tCall (sp_is_list K) [] C8.E0 (tCons (tOp (rIx K) (tVar 3) (tC (.int 4))) (tCons (tC (.int 4)) tNil))))) tNever tNext)
    (tFor (iEnumT K (tCons (tOp (rIx K) (tVar 3) (tC (.int 4))) tNil)) (gTup K 2 (gCons (gName 6) (gCons (gName 7) gNil))) (tIfS (tNot (tB (tCall (sp_is_handler K) [] C8.E0 (tCons (tVar 0) (tCons (tVar 4) (tCons (tVar 7) tNil)))))) tNever tNext))))))
/-! ### check_classes -/
abbrev s_check_classes : Stmt := top 41
abbrev N_check_classes : List Str := ["classes", "names", "index", "told", "place", "method"]
abbrev P_check_classes : List Str := ["classes"]
theorem sc_check_classes : FnScope N_check_classes P_check_classes (C8.fnScope s_check_classes) := C8.fnScope_by (by decide +kernel)
def t_check_classes (K : Frag) : TS :=
    (tSeq (tIfS (tOr (tNot (tB (tCall (sp_is_list K) [] C8.E0 (tCons (tVar 0) (tCons (tC (.int 8)) tNil))))) (tTest (tOp (rEqD K) (tVar 0) (tTup tNil)))) tNever tNext)
    (tSeq (tFor (iEnumT K (tCons (tVar 0) tNil)) (gTup K 2 (gCons (gName 2) (gCons (gName 3) gNil))) (tIfS (tNot (tB (tCall (sp_is_class K) [] C8.E0 (tCons (tSl (rSlX K) (tVar 0) tNoPart (tPart (tVar 2))) (tCons (tVar 3) tNil))))) tNever tNext))
    (tSeq (tAsg (tCall (sp_names_of K) [] C8.E0 (tCons (tVar 0) tNil)) (gName 1))
    (tSeq (tFor (iEnumT K (tCons (tVar 0) tNil)) (gTup K 2 (gCons (gName 2) (gCons (gName 3) gNil))) (tSeq (tIfS (tNot (tB (tCall (sp_are_fields K) [] C8.E0 (tCons (tSl (rSlX K) (tVar 0) tNoPart (tPart (tVar 2))) (tCons (tVar 1) (tCons (tVar 3) tNil)))))) tNever tNext)
    (tSeq (tIfS (tNot (tB (tCall (sp_is_list K) [] C8.E0 (tCons (tOp (rIx K) (tVar 3) (tC (.int 3))) (tCons (tC (.int 4)) tNil))))) tNever tNext)
    (tFor (iRng1 (tCons (tCB (rLen K) (tCons (tOp (rIx K) (tVar 3) (tC (.int 3))) tNil)) tNil)) (gName 4) (tIfS (tNot (tB (tCall (sp_is_method K) [] C8.E0 (tCons (tSl (rSlX K) (tVar 0) tNoPart (tPart (tVar 2))) (tCons (tVar 1) (tCons (tVar 3) (tCons (tVar 4) tNil))))))) tNever tNext)))))
    (tFor (iEnumT K (tCons (tVar 0) tNil)) (gTup K 2 (gCons (gName 2) (gCons (gName 3) gNil))) (tFor (iEnumT K (tCons (tOp (rIx K) (tVar 3) (tC (.int 3))) tNil)) (gTup K 2 (gCons (gName 4) (gCons (gName 5) gNil))) (tDrop (tCall (sp_check_code K) [] C8.E0 (tCons (tVar 0) (tCons (tVar 2) (tCons (tVar 4) (tCons (tVar 5) tNil))))))))))))
/-! ### House.__init__ -/
abbrev s_House_init : Stmt := inClass (top 42) 0
abbrev N_House_init : List Str := ["self", "classes"]
abbrev P_House_init : List Str := ["self", "classes"]
theorem sc_House_init : FnScope N_House_init P_House_init (C8.fnScope s_House_init) := C8.fnScope_by (by decide +kernel)
def t_House_init (K : Frag) : TS :=
    (tSeq (tDrop (tCall (sp_check_classes K) [] C8.E0 (tCons (tVar 1) tNil)))
    (sFld K (tVar 0) (tVar 1) "told"))
/-! ### need_house -/
abbrev s_need_house : Stmt := top 43
abbrev N_need_house : List Str := ["house"]
abbrev P_need_house : List Str := ["house"]
theorem sc_need_house : FnScope N_need_house P_need_house (C8.fnScope s_need_house) := C8.fnScope_by (by decide +kernel)
def t_need_house (K : Frag) (aHouse : Addr) : TS :=
    (tIfS (tNot (tB (tCB (rIsC aHouse) (tCons (tVar 0) (tCons (tC (.ref aHouse)) tNil))))) tNever tNext)
/-! ### need_name -/
abbrev s_need_name : Stmt := top 45
abbrev N_need_name : List Str := ["house", "name"]
abbrev P_need_name : List Str := ["house", "name"]
theorem sc_need_name : FnScope N_need_name P_need_name (C8.fnScope s_need_name) := C8.fnScope_by (by decide +kernel)
def t_need_name (K : Frag) : TS :=
    (tIfS (tOr (tNot (tB (tCB (rIsi K) (tCons (tVar 1) (tCons (tC (.ty "str")) tNil))))) (tTest (tOp (rIn K true) (tVar 1) (tCall (sp_names_of K) [] C8.E0 (tCons (tFld K (tVar 0) "told") tNil))))) tNever tNext)
/-! ### need_word -/
abbrev s_need_word : Stmt := top 47
abbrev N_need_word : List Str := ["word"]
abbrev P_need_word : List Str := ["word"]
theorem sc_need_word : FnScope N_need_word P_need_word (C8.fnScope s_need_word) := C8.fnScope_by (by decide +kernel)
def t_need_word (K : Frag) : TS :=
    (tIfS (tNot (tB (tCall (sp_is_word K) [] C8.E0 (tCons (tVar 0) tNil)))) tNever tNext)
/-! ### need_asked -/
abbrev s_need_asked : Stmt := top 48
abbrev N_need_asked : List Str := ["house", "name", "word"]
abbrev P_need_asked : List Str := ["house", "name", "word"]
theorem sc_need_asked : FnScope N_need_asked P_need_asked (C8.fnScope s_need_asked) := C8.fnScope_by (by decide +kernel)
def t_need_asked (K : Frag) (aHouse : Addr) : TS :=
    (tSeq (tDrop (tCall (sp_need_house K aHouse) [] C8.E0 (tCons (tVar 0) tNil)))
    (tSeq (tDrop (tCall (sp_need_name K aHouse) [] C8.E0 (tCons (tVar 0) (tCons (tVar 1) tNil))))
    (tDrop (tCall (sp_need_word K) [] C8.E0 (tCons (tVar 2) tNil)))))
/-! ### line_of -/
abbrev s_line_of : Stmt := top 50
abbrev N_line_of : List Str := ["house", "name", "word", "told", "method"]
abbrev P_line_of : List Str := ["house", "name", "word"]
theorem sc_line_of : FnScope N_line_of P_line_of (C8.fnScope s_line_of) := C8.fnScope_by (by decide +kernel)
def t_line_of (K : Frag) : TS :=
    (tRet (tLc (iAny K (tCall (sp_row_of K) [] C8.E0 (tCons (tFld K (tVar 0) "told") (tCons (tVar 1) tNil)))) (gName 3) (tTest (tOp (rIn K false) (tVar 2) (tLc (iAny K (tOp (rIx K) (tVar 3) (tC (.int 3)))) (gName 4) tYes (tOp (rIx K) (tVar 4) (tC (.int 0))) [4]))) (tOp (rIx K) (tVar 3) (tC (.int 0))) [3]))
/-! ### method_line -/
abbrev s_method_line : Stmt := top 51
abbrev N_method_line : List Str := ["house", "name", "word"]
abbrev P_method_line : List Str := ["house", "name", "word"]
theorem sc_method_line : FnScope N_method_line P_method_line (C8.fnScope s_method_line) := C8.fnScope_by (by decide +kernel)
def t_method_line (K : Frag) (aHouse : Addr) : TS :=
    (tSeq (tDrop (tCall (sp_need_asked K aHouse) [] C8.E0 (tCons (tVar 0) (tCons (tVar 1) (tCons (tVar 2) tNil)))))
    (tRet (tCB (rTupOf K) (tCons (tCall (sp_line_of K aHouse) [] C8.E0 (tCons (tVar 0) (tCons (tVar 1) (tCons (tVar 2) tNil)))) tNil))))
/-! ### upper_method -/
abbrev s_upper_method : Stmt := top 52
abbrev N_upper_method : List Str := ["house", "name", "word", "told", "place", "method"]
abbrev P_upper_method : List Str := ["house", "name", "word"]
theorem sc_upper_method : FnScope N_upper_method P_upper_method (C8.fnScope s_upper_method) := C8.fnScope_by (by decide +kernel)
def t_upper_method (K : Frag) (aHouse : Addr) : TS :=
    (tSeq (tDrop (tCall (sp_need_asked K aHouse) [] C8.E0 (tCons (tVar 0) (tCons (tVar 1) (tCons (tVar 2) tNil)))))
    (tSeq (tFor (iAny K (tSl (rSlX K) (tCall (sp_row_of K) [] C8.E0 (tCons (tFld K (tVar 0) "told") (tCons (tVar 1) tNil))) (tPart (tC (.int 1))) tNoPart)) (gName 3) (tFor (iEnumT K (tCons (tOp (rIx K) (tVar 3) (tC (.int 3))) tNil)) (gTup K 2 (gCons (gName 4) (gCons (gName 5) gNil))) (tIfS (tTest (tOp rEq (tOp (rIx K) (tVar 5) (tC (.int 0))) (tVar 2))) (tRet (tTup (tCons (tOp (rIx K) (tVar 3) (tC (.int 0))) (tCons (tVar 4) tNil)))) tNext)))
    (tRet (tC .non))))
/-! ### reached_from -/
abbrev s_reached_from : Stmt := top 53
abbrev N_reached_from : List Str := ["house", "name", "word", "told"]
abbrev P_reached_from : List Str := ["house", "name", "word"]
theorem sc_reached_from : FnScope N_reached_from P_reached_from (C8.fnScope s_reached_from) := C8.fnScope_by (by decide +kernel)
def t_reached_from (K : Frag) (aN : Addr) (E : XK) (aHouse : Addr) : TS :=
    (tSeq (tDrop (tCall (sp_need_asked K aHouse) [] C8.E0 (tCons (tVar 0) (tCons (tVar 1) (tCons (tVar 2) tNil)))))
    (tSeq (tIfS (tOr (tTest (tOp (rNeD K) (tSl (rSlX K) (tCall (sp_line_of K aHouse) [] C8.E0 (tCons (tVar 0) (tCons (tVar 1) (tCons (tVar 2) tNil)))) tNoPart (tPart (tC (.int 1)))) (tLst (tCons (tVar 1) tNil)))) (tTest (tOp rEq (tVar 1) (tC (.str "top"))))) (tRaiseO aN E) tNext)
    (tRet (tCB (rTupOf K) (tCons (tLc (iAny K (tFld K (tVar 0) "told")) (gName 3) (tTest (tOp (rEqD K) (tSl (rSlX K) (tCall (sp_line_of K aHouse) [] C8.E0 (tCons (tVar 0) (tCons (tOp (rIx K) (tVar 3) (tC (.int 0))) (tCons (tVar 2) tNil)))) tNoPart (tPart (tC (.int 1)))) (tLst (tCons (tVar 1) tNil)))) (tOp (rIx K) (tVar 3) (tC (.int 0))) [3]) tNil)))))
/-! Calls of the program's defs, by what they evaluate to. -/
section
variable {K : Frag} {aHouse : Addr} {σ : L2.St} {H : Hp} {ta tb tc td te : TE} {cs : List Kl} {c : Kl} {names : List Str} {n x : Str}
theorem ev_is_in {i l m : Int} (h1 : EvD K ta σ H (.int i)) (h2 : EvD K tb σ H (.int l)) (h3 : EvD K tc σ H (.int m)) (a : l ≤ i) (b : i ≤ m) : EvD K (tCall (sp_is_in K) [] C8.E0 (tCons ta (tCons tb (tCons tc tNil)))) σ H (.bool true) := fun H1 e Q q =>
  h1 H1 e _ fun v H2 e2 t1 => h2 H2 (e.trans e2) _ fun w H3 e3 t2 => h3 H3 ((e.trans e2).trans e3) _ fun z H4 e4 t3 => by
    rw [t1.intI, t2.intI, t3.intI]
    exact ⟨i, l, m, rfl, a, b, fun v H' e5 t => q v H' (((e2.trans e3).trans e4).trans e5) t⟩
theorem ev_is_word (h1 : EvD K ta σ H (.str x)) (w : IsWord x) : EvD K (tCall (sp_is_word K) [] C8.E0 (tCons ta tNil)) σ H (.bool true) := fun H1 e Q q =>
  h1 H1 e _ fun v H2 e2 t1 => by
    rw [t1.strI]
    exact ⟨x, rfl, w, fun v H' e5 t => q v H' (e2.trans e5) t⟩
theorem ev_is_list {ds : List PyData} {m : Int} (h1 : EvD K ta σ H (.tuple ds)) (h2 : EvD K tb σ H (.int m)) (a : (ds.length : Int) ≤ m) : EvD K (tCall (sp_is_list K) [] C8.E0 (tCons ta (tCons tb tNil))) σ H (.bool true) := fun H1 e Q q =>
  h1 H1 e _ fun v H2 e2 t1 => h2 H2 (e.trans e2) _ fun w H3 e3 t2 => by
    rw [t2.intI]
    exact ⟨v, ds, m, rfl, t1.ex e3, a, fun v H' e5 t => q v H' ((e2.trans e3).trans e5) t⟩
theorem ev_names_of (h1 : EvD K ta σ H (.tuple (encs cs))) (a : cs.length ≤ 8) : EvN K (tCall (sp_names_of K) [] C8.E0 (tCons ta tNil)) σ H ((namesL cs).map .str) := fun H1 e Q q =>
  h1 H1 e _ fun v H2 e2 t1 => ⟨v, cs, rfl, t1, a, fun p xs H' np e5 hp t => q p xs H' (e2.free np) (e2.trans e5) hp t⟩
theorem ev_row_of (h1 : EvD K ta σ H (.tuple (encs cs))) (h2 : EvD K tb σ H (.str n)) (a : cs.length ≤ 8) : EvN K (tCall (sp_row_of K) [] C8.E0 (tCons ta (tCons tb tNil))) σ H (encs (row cs n)) := fun H1 e Q q =>
  h1 H1 e _ fun v H2 e2 t1 => h2 H2 (e.trans e2) _ fun w H3 e3 t2 => by
    rw [t2.strI]
    exact ⟨v, cs, n, rfl, t1.ex e3, a, fun p xs H' np e5 hp t => q p xs H' (e2.free (e3.free np)) ((e2.trans e3).trans e5) hp t⟩
theorem ev_is_class (h1 : EvD K ta σ H (.tuple (encs cs))) (h2 : EvD K tb σ H (enc c)) (a : cs.length ≤ 8) (o : OkClass cs c) : EvD K (tCall (sp_is_class K) [] C8.E0 (tCons ta (tCons tb tNil))) σ H (.bool true) := fun H1 e Q q =>
  h1 H1 e _ fun v H2 e2 t1 => h2 H2 (e.trans e2) _ fun w H3 e3 t2 => ⟨v, w, cs, c, rfl, t1.ex e3, a, t2, o, fun v H' e5 t => q v H' ((e2.trans e3).trans e5) t⟩
theorem ev_are_fields {k : Nat} {p : Addr} {ys : List V} (h1 : EvD K ta σ H (.tuple (encs cs))) (h2 : σ[k]? = some (some (.ref p))) (hp : H p = some (.lst ys)) (tp : Tds K H ys (names.map .str)) (h3 : EvD K tc σ H (enc c)) (a : cs.length ≤ 8) (o : OkFields cs names c) (m : ∀ u ∈ cs, u.fields.length ≤ 4) :
    EvD K (tCall (sp_are_fields K) [] C8.E0 (tCons ta (tCons (tVar k) (tCons tc tNil)))) σ H (.bool true) := fun H1 e Q q =>
  h1 H1 e _ fun v H2 e2 t1 => ⟨_, h2, h3 H2 (e.trans e2) _ fun z H4 e4 t3 =>
    ⟨v, z, p, ys, cs, names, c, rfl, t1.ex e4, a, ((e.trans e2).trans e4) _ _ hp, tp.ex ((e.trans e2).trans e4), t3, o, m, fun v H' e5 t => q v H' ((e2.trans e4).trans e5) t⟩⟩
theorem ev_is_kind_in {k : Str} (h1 : EvL K ta σ H (names.map .str)) (h2 : EvD K tb σ H (.str k)) (o : OkKind names k) : EvD K (tCall (sp_is_kind_in K) [] C8.E0 (tCons ta (tCons tb tNil))) σ H (.bool true) := fun H1 e Q q =>
  h1 H1 e _ fun p H2 e2 t1 => h2 H2 (e.trans e2) _ fun w H3 e3 t2 => by
    rw [t2.strI]
    exact ⟨p, names, k, rfl, t1.ex e3, o, fun v H' e5 t => q v H' ((e2.trans e3).trans e5) t⟩
theorem ev_is_method {i : Nat} {m : Mth} (h1 : EvD K ta σ H (.tuple (encs cs))) (h2 : EvL K tb σ H (names.map .str)) (h3 : EvD K tc σ H (enc c)) (h4 : EvD K td σ H (.int (i : Int))) (a : cs.length ≤ 8) (hm : c.meths[i]? = some m) (hl : c.meths.length ≤ 4)
    (o : OkMeth cs names c i m) (s1 : ∀ u ∈ cs, ∀ m' ∈ u.meths, SeqAt.shaped (encM m') = true) (s2 : SeqAt.shaped (encM m) = true) :
    EvD K (tCall (sp_is_method K) [] C8.E0 (tCons ta (tCons tb (tCons tc (tCons td tNil))))) σ H (.bool true) := fun H1 e Q q =>
  h1 H1 e _ fun v H2 e2 t1 => h2 H2 (e.trans e2) _ fun p H3 e3 t2 => h3 H3 ((e.trans e2).trans e3) _ fun z H4 e4 t3 => h4 H4 (((e.trans e2).trans e3).trans e4) _ fun y H5 e5 t4 => by
    rw [t4.intI]
    exact ⟨v, z, p, i, cs, names, c, m, rfl, t1.ex ((e3.trans e4).trans e5), a, t2.ex (e4.trans e5), t3.ex e5, hm, hl, o, s1, s2, fun v H' e6 t => q v H' ((((e2.trans e3).trans e4).trans e5).trans e6) t⟩
theorem ev_has_seen {part : Int} (h1 : EvD K ta σ H (.tuple (encs cs))) (h2 : EvD K tb σ H (.str n)) (h3 : EvD K tc σ H (.str x)) (h4 : EvD K td σ H (.int part)) (a : cs.length ≤ 8) (m : ∀ u ∈ cs, u.fields.length ≤ 4 ∧ u.meths.length ≤ 4)
    (o : (part = 2 ∧ x ∈ (row cs n).flatMap fnames) ∨ (part = 3 ∧ x ∈ (row cs n).flatMap mnames)) :
    EvD K (tCall (sp_has_seen K) [] C8.E0 (tCons ta (tCons tb (tCons tc (tCons td tNil))))) σ H (.bool true) := fun H1 e Q q =>
  h1 H1 e _ fun v H2 e2 t1 => h2 H2 (e.trans e2) _ fun p H3 e3 t2 => h3 H3 ((e.trans e2).trans e3) _ fun z H4 e4 t3 => h4 H4 (((e.trans e2).trans e3).trans e4) _ fun y H5 e5 t4 => by
    rw [t2.strI, t3.strI, t4.intI]
    exact ⟨v, cs, n, x, part, rfl, t1.ex ((e3.trans e4).trans e5), a, m, o, fun v H' e6 t => q v H' ((((e2.trans e3).trans e4).trans e5).trans e6) t⟩
theorem ev_is_step {code : List PyData} {i : Nat} {d : PyData} (h1 : EvD K ta σ H (.tuple (encs cs))) (h2 : EvD K tb σ H (.tuple code)) (h3 : EvD K tc σ H (.int (i : Int))) (l : Lean8 cs) (hc : code.length ≤ 20) (hd : code[i]? = some d) (o : StepOk cs code.length (i + 1 = code.length) d) :
    EvD K (tCall (sp_is_step K) [] C8.E0 (tCons ta (tCons tb (tCons tc tNil)))) σ H (.bool true) := fun H1 e Q q =>
  h1 H1 e _ fun v H2 e2 t1 => h2 H2 (e.trans e2) _ fun w H3 e3 t2 => h3 H3 ((e.trans e2).trans e3) _ fun z H4 e4 t3 => by
    rw [t3.intI]
    exact ⟨v, w, cs, code, i, d, rfl, t1.ex (e3.trans e4), l, t2.ex e4, hc, hd, o, fun v H' e5 t => q v H' (((e2.trans e3).trans e4).trans e5) t⟩
theorem ev_is_handler {code : List PyData} {d : PyData} (h1 : EvD K ta σ H (.tuple (encs cs))) (h2 : EvD K tb σ H (.tuple code)) (h3 : EvD K tc σ H d) (l : Lean8 cs) (hc : code.length ≤ 20) (o : HandOk cs code.length d) :
    EvD K (tCall (sp_is_handler K) [] C8.E0 (tCons ta (tCons tb (tCons tc tNil)))) σ H (.bool true) := fun H1 e Q q =>
  h1 H1 e _ fun v H2 e2 t1 => h2 H2 (e.trans e2) _ fun w H3 e3 t2 => h3 H3 ((e.trans e2).trans e3) _ fun z H4 e4 t3 =>
    ⟨v, w, z, cs, code, d, rfl, t1.ex (e3.trans e4), l, t2.ex e4, hc, t3, o, fun v H' e5 t => q v H' (((e2.trans e3).trans e4).trans e5) t⟩
theorem ev_check_code {i j : Int} {m : Mth} {code hs : List PyData} (h1 : EvD K ta σ H (.tuple (encs cs))) (h2 : EvD K tb σ H (.int i)) (h3 : EvD K tc σ H (.int j)) (h4 : EvD K td σ H (encM m)) (l : Lean8 cs) (hm : m.more = [.tuple code, .tuple hs]) (o : OkCode cs code hs) :
    EvD K (tCall (sp_check_code K) [] C8.E0 (tCons ta (tCons tb (tCons tc (tCons td tNil))))) σ H .none := fun H1 e Q q =>
  h1 H1 e _ fun v H2 e2 t1 => h2 H2 (e.trans e2) _ fun p H3 e3 t2 => h3 H3 ((e.trans e2).trans e3) _ fun z H4 e4 t3 => h4 H4 (((e.trans e2).trans e3).trans e4) _ fun y H5 e5 t4 => by
    rw [t2.intI, t3.intI]
    exact ⟨v, y, i, j, cs, m, code, hs, rfl, t1.ex ((e3.trans e4).trans e5), l, t4, hm, o, fun v H' e6 t => q v H' ((((e2.trans e3).trans e4).trans e5).trans e6) t⟩
theorem ev_check_classes (h1 : EvD K ta σ H (.tuple (encs cs))) (o : Good cs) : EvD K (tCall (sp_check_classes K) [] C8.E0 (tCons ta tNil)) σ H .none := fun H1 e Q q =>
  h1 H1 e _ fun v H2 e2 t1 => ⟨v, cs, rfl, t1, o, fun v H' e5 t => q v H' (e2.trans e5) t⟩
/-! the house: an address, known -/
def EvH (te : TE) (σ : L2.St) (H : Hp) (a : Addr) : Prop := ∀ H1, Same H H1 → ∀ Q : VK, (∀ H2, Same H1 H2 → Q (.ref a) H2) → te σ H1 Q
theorem eh_var {i : Nat} {a : Addr} (h : σ[i]? = some (some (.ref a))) : EvH (tVar i) σ H a := fun H1 _ Q q => ⟨_, h, q H1 (Same.refl H1)⟩
theorem ev_told {a : Addr} (h : EvH te σ H a) (o : HouseAt K aHouse H a cs) (hc : Cls K aHouse) (hn : NoAttr K aHouse "told") : EvD K (tFld K te "told") σ H (.tuple (encs cs)) := fun H1 e Q q =>
  h H1 e _ fun H2 e2 => by
    obtain ⟨dx, v, h1, h2, h3⟩ := o.ex (e.trans e2)
    exact ⟨a, aHouse, dx, _, v, rfl, h1, hc, hn, by simp [List.lookup], q v H2 e2 h2⟩
theorem ev_need_house {a : Addr} (h : EvH ta σ H a) (o : HouseAt K aHouse H a cs) : EvD K (tCall (sp_need_house K aHouse) [] C8.E0 (tCons ta tNil)) σ H .none := fun H1 e Q q =>
  h H1 e _ fun H2 e2 => ⟨a, cs, rfl, o.ex (e.trans e2), fun v H' e5 t => q v H' (e2.trans e5) t⟩
theorem ev_need_name {a : Addr} (h : EvH ta σ H a) (h2 : EvD K tb σ H (.str n)) (o : HouseAt K aHouse H a cs) (hn : n ∈ namesL cs) : EvD K (tCall (sp_need_name K aHouse) [] C8.E0 (tCons ta (tCons tb tNil))) σ H .none := fun H1 e Q q =>
  h H1 e _ fun H2 e2 => h2 H2 (e.trans e2) _ fun w H3 e3 t2 => by
    rw [t2.strI]
    exact ⟨a, cs, n, rfl, o.ex ((e.trans e2).trans e3), hn, fun v H' e5 t => q v H' ((e2.trans e3).trans e5) t⟩
theorem ev_need_word (h : EvD K ta σ H (.str x)) (w : IsWord x) : EvD K (tCall (sp_need_word K) [] C8.E0 (tCons ta tNil)) σ H .none := fun H1 e Q q =>
  h H1 e _ fun v H2 e2 t1 => by
    rw [t1.strI]
    exact ⟨x, rfl, w, fun v H' e5 t => q v H' (e2.trans e5) t⟩
theorem ev_need_asked {a : Addr} (h : EvH ta σ H a) (h2 : EvD K tb σ H (.str n)) (h3 : EvD K tc σ H (.str x)) (o : HouseAt K aHouse H a cs) (hn : n ∈ namesL cs) (w : IsWord x) : EvD K (tCall (sp_need_asked K aHouse) [] C8.E0 (tCons ta (tCons tb (tCons tc tNil)))) σ H .none := fun H1 e Q q =>
  h H1 e _ fun H2 e2 => h2 H2 (e.trans e2) _ fun z H3 e3 t2 => h3 H3 ((e.trans e2).trans e3) _ fun y H4 e4 t3 => by
    rw [t2.strI, t3.strI]
    exact ⟨a, cs, n, x, rfl, o.ex (((e.trans e2).trans e3).trans e4), hn, w, fun v H' e5 t => q v H' (((e2.trans e3).trans e4).trans e5) t⟩
theorem ev_line_of {a : Addr} (h : EvH ta σ H a) (h2 : EvD K tb σ H (.str n)) (h3 : EvD K tc σ H (.str x)) (o : HouseAt K aHouse H a cs) : EvN K (tCall (sp_line_of K aHouse) [] C8.E0 (tCons ta (tCons tb (tCons tc tNil)))) σ H ((line cs n x).map .str) := fun H1 e Q q =>
  h H1 e _ fun H2 e2 => h2 H2 (e.trans e2) _ fun z H3 e3 t2 => h3 H3 ((e.trans e2).trans e3) _ fun y H4 e4 t3 => by
    rw [t2.strI, t3.strI]
    exact ⟨a, cs, n, x, rfl, o.ex (((e.trans e2).trans e3).trans e4), fun p xs H' np e5 hp t => q p xs H' (e2.free (e3.free (e4.free np))) (((e2.trans e3).trans e4).trans e5) hp t⟩
theorem ev_method_line {a : Addr} (h : EvH ta σ H a) (h2 : EvD K tb σ H (.str n)) (h3 : EvD K tc σ H (.str x)) (o : HouseAt K aHouse H a cs) (hn : n ∈ namesL cs) (w : IsWord x) : EvD K (tCall (sp_method_line K aHouse) [] C8.E0 (tCons ta (tCons tb (tCons tc tNil)))) σ H (.tuple ((line cs n x).map .str)) := fun H1 e Q q =>
  h H1 e _ fun H2 e2 => h2 H2 (e.trans e2) _ fun z H3 e3 t2 => h3 H3 ((e.trans e2).trans e3) _ fun y H4 e4 t3 => by
    rw [t2.strI, t3.strI]
    exact ⟨a, cs, n, x, rfl, o.ex (((e.trans e2).trans e3).trans e4), hn, w, fun v H' e5 t => q v H' (((e2.trans e3).trans e4).trans e5) t⟩
theorem ev_upper_method {a : Addr} (h : EvH ta σ H a) (h2 : EvD K tb σ H (.str n)) (h3 : EvD K tc σ H (.str x)) (o : HouseAt K aHouse H a cs) (hn : n ∈ namesL cs) (w : IsWord x) : EvD K (tCall (sp_upper_method K aHouse) [] C8.E0 (tCons ta (tCons tb (tCons tc tNil)))) σ H (nearD x (row cs n).tail) := fun H1 e Q q =>
  h H1 e _ fun H2 e2 => h2 H2 (e.trans e2) _ fun z H3 e3 t2 => h3 H3 ((e.trans e2).trans e3) _ fun y H4 e4 t3 => by
    rw [t2.strI, t3.strI]
    exact ⟨a, cs, n, x, rfl, o.ex (((e.trans e2).trans e3).trans e4), hn, w, fun v H' e5 t => q v H' (((e2.trans e3).trans e4).trans e5) t⟩
end
/-! Two clauses. -/
section
variable {K : Frag} {S : List Addr} {σ : L2.St} {H H' : Hp} {ta tb tc te tl : TE} {t u tt : TT} {d e : PyData} {ds es : List PyData} {b c : Bool}
/-- any loop whose turns are told by a walk -/
theorem loop_it {J : It} {n : Nat} {G : Hp → Prop} {Y : Nat → Hp → V → Hp → Prop} (w : Walk J n G Y) (body : V → Hp → (Hp → Prop) → Prop) {Hs : Hp} {Qd : Hp → Prop} (Pv : Nat → Hp → Prop) (h0 : Pv 0 Hs) (hG : ∀ i H, i ≤ n → Pv i H → G H)
    (hs : ∀ i x H H', i < n → Pv i H → Y i H x H' → body x H' (Pv (i + 1))) (hd : ∀ H, Pv n H → Qd H) :
    ∃ W : Nat → Nat → Hp → Prop, (∃ m, W 0 m Hs) ∧ ∀ i m H, W i m H → (J.stop i H ∧ Qd H) ∨ (J.go i H ∧ ∃ Nx : Hp → Prop, (∀ H', Nx H' → ∃ m', m' < m ∧ W (i + 1) m' H') ∧ ∀ x H', J.yld i H x H' → body x H' Nx) := by
  refine ⟨fun i m H => m = n - i ∧ i ≤ n ∧ Pv i H, ⟨n, by simp, Nat.zero_le _, h0⟩, ?_⟩
  rintro i m H ⟨rfl, hi, p⟩
  have q := hG i H hi p
  by_cases hlt : i < n
  · exact .inr ⟨w.goes i H hlt q, Pv (i + 1), fun H' p' => ⟨n - (i + 1), by omega, rfl, hlt, p'⟩, fun x H' y => hs i x H H' hlt p (w.yields i H x H' hlt q y)⟩
  · have e : i = n := by omega
    subst e
    exact .inl ⟨w.stops H q, hd H p⟩
/-- [f e for d in ds for e in inner d] -/
theorem en_lc2 {i j : Nat} {vs vs1 : List Nat} {tl1 : TE} (inner : PyData → List PyData) (f : PyData → PyData) (h : EvS K tl σ H ds) (hz : (ds.flatMap inner).length ≤ 40000)
    (hw : ∀ x, wipe ((wipe σ vs).set i (some x)) vs = wipe σ vs) (hw1 : ∀ x y, wipe ((wipe ((wipe σ vs).set i (some x)) vs1).set j (some y)) vs1 = wipe ((wipe σ vs).set i (some x)) vs1)
    (hi : ∀ x d H1, Same H H1 → d ∈ ds → Td K H1 x d → EvD K tl1 ((wipe σ vs).set i (some x)) H1 (.tuple (inner d)))
    (he : ∀ x y d e H1, Same H H1 → d ∈ ds → e ∈ inner d → Td K H1 y e → EvD K te ((wipe ((wipe σ vs).set i (some x)) vs1).set j (some y)) H1 (f e)) :
    EvN K (tLc2 (iAny K tl) (gName i) tYes (iAny K tl1) (gName j) tYes te vs vs1) σ H ((ds.flatMap inner).map f) := fun H0 e Q q => h H0 e _ fun a H1 e1 ⟨xs, hq, ts⟩ => by
  have hfl : ∀ (k : Nat) d, ds[k]? = some d → (ds.take (k + 1)).flatMap inner = (ds.take k).flatMap inner ++ inner d := fun k d hd => by
    rw [List.take_succ, hd]
    simp
  have hpre : ∀ (k : Nat) d m, ds[k]? = some d → ((ds.take k).flatMap inner ++ (inner d).take m).length ≤ (ds.flatMap inner).length := fun k d m hd => by
    have e2 : ds = ds.take k ++ d :: ds.drop (k + 1) := by
      have hk : k < ds.length := (List.getElem?_eq_some_iff.mp hd).1
      have := List.drop_eq_getElem_cons hk
      rw [(List.getElem?_eq_some_iff.mp hd).2] at this
      rw [← this, List.take_append_drop]
    have e3 : (ds.flatMap inner).length = ((ds.take k).flatMap inner).length + (inner d).length + ((ds.drop (k + 1)).flatMap inner).length := by
      conv => lhs; rw [e2]
      rw [List.flatMap_append, List.flatMap_cons, List.length_append, List.length_append]
      omega
    rw [List.length_append, List.length_take]
    omega
  have turn : ∀ (Dl : Addr) (k : Nat) (x : V) (H' : Hp), xs[k]? = some x → Cw K H1 Dl (((ds.take k).flatMap inner).map f) H' →
      gName i x (wipe σ vs) H' fun σ2 H2 => wipe σ2 vs = wipe σ vs ∧ tYes σ2 H2 fun b H3 =>
        if b = true then iAny K tl1 σ2 H3 fun J1 H4 => ∃ W1 : Nat → Nat → Hp → Prop, (∃ m, W1 0 m H4) ∧ ∀ j' k' H, W1 j' k' H →
          (J1.stop j' H ∧ Cw K H1 Dl (((ds.take (k + 1)).flatMap inner).map f) H) ∨ (J1.go j' H ∧ ∃ Nx1 : Hp → Prop, (∀ H', Nx1 H' → ∃ k'', k'' < k' ∧ W1 (j' + 1) k'' H') ∧ ∀ x H', J1.yld j' H x H' → gName j x (wipe σ2 vs1) H' fun σ3 H5 => wipe σ3 vs1 = wipe σ2 vs1 ∧ tYes σ3 H5 fun b H6 =>
            if b = true then te σ3 H6 fun y H7 => ∃ acc, H7 Dl = some (.lst acc) ∧ acc.length < sizeLine ∧ Nx1 (upd H7 Dl (.lst (acc ++ [y]))) else Nx1 H6)
        else Cw K H1 Dl (((ds.take (k + 1)).flatMap inner).map f) H3 := by
    intro Dl k x H' hx c
    obtain ⟨d, hd, td⟩ := ts.at_ hx
    have hm : d ∈ ds := List.mem_of_getElem? hd
    refine ⟨hw x, ?_⟩
    dsimp only [tYes]
    rw [if_pos rfl]
    refine hi x d H1 (e.trans e1) hm td H' c.2.1 _ fun v2 H4 e4 t4 => ?_
    obtain ⟨a2, ys, ev2, hq2, ts2⟩ := t4.tupI
    subst ev2
    have c4 : Cw K H1 Dl (((ds.take k).flatMap inner ++ (inner d).take 0).map f) H4 := by
      obtain ⟨c1, c2, zs, c3, c5⟩ := c
      refine ⟨c1, c2.trans e4, zs, e4 _ _ c3, ?_⟩
      rw [List.take_zero, List.append_nil]
      exact c5.ex e4
    have hlen2 := ts2.len
    refine ⟨a2, rfl, .inr ⟨⟨ys, hq2⟩, ?_⟩⟩
    refine loop_it (walk_tup (K := K) (a := a2) (xs := ys)) (body := fun x H' Nx1 => gName j x (wipe ((wipe σ vs).set i (some _)) vs1) H' fun σ3 H5 => wipe σ3 vs1 = wipe ((wipe σ vs).set i (some _)) vs1 ∧ tYes σ3 H5 fun b H6 =>
            if b = true then te σ3 H6 fun y H7 => ∃ acc, H7 Dl = some (.lst acc) ∧ acc.length < sizeLine ∧ Nx1 (upd H7 Dl (.lst (acc ++ [y]))) else Nx1 H6)
      (fun m H5 => KT H4 H5 ∧ Cw K H1 Dl (((ds.take k).flatMap inner ++ (inner d).take m).map f) H5) ⟨KT.refl _, c4⟩ (fun m H5 _ p => SqT.kt p.1 hq2) ?_ ?_
    · rintro m y H5 H5' hm5 ⟨g5, c5⟩ ⟨rfl, hy⟩
      obtain ⟨e', he', te'⟩ := ts2.at_ hy
      refine ⟨hw1 x y, ?_⟩
      dsimp only [tYes]
      rw [if_pos rfl]
      have hme : e' ∈ inner d := List.mem_of_getElem? he'
      obtain ⟨p1, p2, zs, p3, p4⟩ := c5
      have len : zs.length < sizeLine := lst_len p4 (by rw [List.length_map]; have := hpre k d m hd; omega)
      have ety : EvD K te ((wipe ((wipe σ vs).set i (some x)) vs1).set j (some y)) H5' (f e') := he x y d e' H5' ((e.trans e1).trans p2) hm hme (te'.kt g5)
      refine ety H5' (Same.refl H5') _ fun z H8 e8 t8 => ⟨zs, e8 _ _ p3, len, (g5.trans (KT.of e8)).trans (KT.put (e8 _ _ p3)), p1, Same.mut (p2.trans e8) p1, zs ++ [z], upd_same, ?_⟩
      have e9 : ((ds.take k).flatMap inner ++ (inner d).take (m + 1)).map f = ((ds.take k).flatMap inner ++ (inner d).take m).map f ++ [f e'] := by
        rw [List.take_succ, he']
        simp
      rw [e9]
      exact ((p4.ex e8).snoc t8).kt (KT.put (e8 _ _ p3))
    · rintro H5 ⟨_, c5⟩
      rw [hlen2, List.take_length] at c5
      rw [hfl k d hd]
      exact c5
  have start : ∀ Dl, H1 Dl = none → Cw K H1 Dl (((ds.take 0).flatMap inner).map f) (upd H1 Dl (.lst [])) := fun Dl hD => ⟨hD, Same.new hD, [], upd_same, by rw [List.take_zero]; exact .nil⟩
  have fin : ∀ Dl, H1 Dl = none → ∀ H', Cw K H1 Dl (((ds.take xs.length).flatMap inner).map f) H' → Q (.ref Dl) H' := fun Dl hD H' c => by
    obtain ⟨c1, c2, ys, c3, c4⟩ := c
    rw [ts.len, List.take_length] at c4
    exact q Dl ys H' (e1.free c1) (e1.trans c2) c3 c4
  rcases hq with hq | hq
  · refine ⟨a, rfl, .inl ⟨⟨xs, hq⟩, fun Dl hD => ?_⟩⟩
    exact loop_it (walk_list (K := K) (a := a) (xs := xs)) (body := _) (fun k H' => Cw K H1 Dl (((ds.take k).flatMap inner).map f) H') (start Dl hD) (fun i H' _ c => c.2.1.seq hq) (fun k x H2 H3 _ c y => by obtain ⟨rfl, hy⟩ := y; exact turn Dl k x _ hy c) (fin Dl hD)
  · refine ⟨a, rfl, .inr ⟨⟨xs, hq⟩, fun Dl hD => ?_⟩⟩
    exact loop_it (walk_tup (K := K) (a := a) (xs := xs)) (body := _) (fun k H' => Cw K H1 Dl (((ds.take k).flatMap inner).map f) H') (start Dl hD) (fun i H' _ c => SqT.kt (.of c.2.1) hq) (fun k x H2 H3 _ c y => by obtain ⟨rfl, hy⟩ := y; exact turn Dl k x _ hy c) (fin Dl hD)
end
/-! Plain facts: rows, cuts, words. -/
theorem rowA_sub : ∀ (l : List Kl) (n : Str), (rowA l n).Sublist l
  | [], _ => .slnil
  | c :: r, n => by
    unfold rowA
    split
    · exact (rowA_sub r _).cons₂ c
    · exact (rowA_sub r _).cons c
theorem row_len (cs : List Kl) (n : Str) : (row cs n).length ≤ cs.length := by
  have := (rowA_sub cs.reverse n).length_le
  rw [List.length_reverse] at this
  exact this
theorem row_mem {cs : List Kl} {n : Str} {c : Kl} (h : c ∈ row cs n) : c ∈ cs := List.mem_reverse.mp ((rowA_sub cs.reverse n).mem h)
theorem flat_len {α β : Type} (f : α → List β) (k : Nat) : ∀ (l : List α), (∀ x ∈ l, (f x).length ≤ k) → (l.flatMap f).length ≤ l.length * k
  | [], _ => Nat.zero_le _
  | x :: r, h => by
    rw [List.flatMap_cons, List.length_append, List.length_cons, Nat.succ_mul]
    have h1 := h x List.mem_cons_self
    have h2 := flat_len f k r fun y hy => h y (List.mem_cons_of_mem _ hy)
    omega
theorem cut_to {ds : List PyData} (i : Nat) : cutD ds none (some (i : Int)) = ds.take i := by
  unfold cutD
  have e : HT.sIx ds.length 0 none = 0 := rfl
  have e2 : HT.sIx ds.length ds.length (some (i : Int)) = min i ds.length := HT.sIx_nat _ _ _
  rw [e, e2, Nat.sub_zero, List.drop_zero]
  by_cases h : i ≤ ds.length
  · rw [Nat.min_eq_left h]
  · rw [Nat.min_eq_right (by omega), List.take_length, List.take_of_length_le (by omega)]
theorem cut_one {ds : List PyData} : cutD ds none (some 1) = ds.take 1 := cut_to 1
theorem cut_tail {ds : List PyData} : cutD ds (some 1) none = ds.tail := by
  unfold cutD
  have e : HT.sIx ds.length 0 (some 1) = min 1 ds.length := HT.sIx_nat _ _ 1
  have e2 : HT.sIx ds.length ds.length none = ds.length := rfl
  rw [e, e2]
  cases ds with
  | nil => rfl
  | cons d r =>
    have : min 1 (d :: r).length = 1 := by simp
    rw [this]
    simp
def fieldsD : PyData → List PyData
  | .tuple [_, _, .tuple fs, _] => fs
  | _ => []
def methsD : PyData → List PyData
  | .tuple [_, _, _, .tuple ms] => ms
  | _ => []
theorem flat_fields (R : List Kl) : ((encs R).flatMap fieldsD).map hd0 = ((R.flatMap fnames).map PyData.str) := by
  induction R with
  | nil => rfl
  | cons c r ih =>
    show ((enc c :: encs r).flatMap fieldsD).map hd0 = _
    rw [List.flatMap_cons, List.map_append, ih, List.flatMap_cons, List.map_append]
    congr 1
    show (c.fields.map encF).map hd0 = (c.fields.map (·.1)).map PyData.str
    rw [List.map_map, List.map_map]
    rfl
theorem flat_meths (R : List Kl) : ((encs R).flatMap methsD).map hd0 = ((R.flatMap mnames).map PyData.str) := by
  induction R with
  | nil => rfl
  | cons c r ih =>
    show ((enc c :: encs r).flatMap methsD).map hd0 = _
    rw [List.flatMap_cons, List.map_append, ih, List.flatMap_cons, List.map_append]
    congr 1
    show (c.meths.map encM).map hd0 = (c.meths.map (·.word)).map PyData.str
    rw [List.map_map, List.map_map]
    rfl
theorem flat_fields_len {cs : List Kl} (n : Str) (hl : cs.length ≤ 8) (hm : ∀ u ∈ cs, u.fields.length ≤ 4) : ((encs (row cs n)).flatMap fieldsD).length ≤ 32 := by
  have h := flat_len fieldsD 4 (encs (row cs n)) fun d hd => by
    obtain ⟨c, hc, rfl⟩ := List.mem_map.mp hd
    show (c.fields.map encF).length ≤ 4
    rw [List.length_map]
    exact hm c (row_mem hc)
  have h2 := row_len cs n
  rw [List.length_map] at h
  omega
theorem flat_meths_len {cs : List Kl} (n : Str) (hl : cs.length ≤ 8) (hm : ∀ u ∈ cs, u.meths.length ≤ 4) : ((encs (row cs n)).flatMap methsD).length ≤ 32 := by
  have h := flat_len methsD 4 (encs (row cs n)) fun d hd => by
    obtain ⟨c, hc, rfl⟩ := List.mem_map.mp hd
    show (c.meths.map encM).length ≤ 4
    rw [List.length_map]
    exact hm c (row_mem hc)
  have h2 := row_len cs n
  rw [List.length_map] at h
  omega
theorem map_getE {α β : Type} {l : List α} {f : α → β} {i : Nat} {d : β} (h : (l.map f)[i]? = some d) : ∃ x, l[i]? = some x ∧ d = f x := by
  rw [List.getElem?_map] at h
  cases hc : l[i]? with
  | none => rw [hc] at h; cases h
  | some x => rw [hc] at h; exact ⟨x, rfl, (Option.some.inj h).symm⟩
theorem take_snoc {α : Type} {l : List α} {i : Nat} {x : α} (h : l[i]? = some x) : l.take (i + 1) = l.take i ++ [x] := by
  rw [List.take_succ, h]
  rfl
theorem lt_of_get {α : Type} {l : List α} {i : Nat} {x : α} (h : l[i]? = some x) : i < l.length := (List.getElem?_eq_some_iff.mp h).1
theorem at0 {α : Type} (x : α) (r : List α) : atI (x :: r) 0 = some x := atI_nat (j := 0) rfl
theorem at1 {α : Type} (x y : α) (r : List α) : atI (x :: y :: r) 1 = some y := atI_nat (j := 1) rfl
theorem at2 {α : Type} (x y z : α) (r : List α) : atI (x :: y :: z :: r) 2 = some z := atI_nat (j := 2) rfl
theorem filt_map {α β γ : Type} (f : α → β) (p : β → Bool) (g : β → γ) : ∀ (l : List α), ((l.map f).filter p).map g = (l.filter fun x => p (f x)).map fun x => g (f x)
  | [] => rfl
  | x :: r => by
    rw [List.map_cons, List.filter_cons, List.filter_cons]
    cases h : p (f x) with
    | true => rw [if_pos rfl, if_pos rfl, List.map_cons, List.map_cons, filt_map f p g r]
    | false => rw [if_neg Bool.false_ne_true, if_neg Bool.false_ne_true, filt_map f p g r]
def isStr (w : Str) : PyData → Bool
  | .str y => decide (y = w)
  | _ => false
def hasD (w : Str) (d : PyData) : Bool := (methsD d).any fun m => isStr w (hd0 m)
theorem hasD_enc (w : Str) (c : Kl) : hasD w (enc c) = hasW w c := by
  show (c.meths.map encM).any (fun m => isStr w (hd0 m)) = decide (w ∈ c.meths.map (·.word))
  rw [List.any_map, Bool.eq_iff_iff, List.any_eq_true, decide_eq_true_iff, List.mem_map]
  constructor
  · rintro ⟨m, hm, e⟩
    exact ⟨m, hm, of_decide_eq_true e⟩
  · rintro ⟨m, hm, e⟩
    exact ⟨m, hm, decide_eq_true e⟩
theorem encs_tail (l : List Kl) : (encs l).tail = encs l.tail := by
  cases l <;> rfl
theorem plc_at {x : Str} : ∀ {l : List Str} {j : Nat}, l[j]? = some x → (∀ k < j, l[k]? ≠ some x) → plc x l = j
  | [], j, h, _ => by simp at h
  | u :: r, 0, h, _ => by
    unfold plc
    rw [if_pos (by simpa using h)]
  | u :: r, j + 1, h, hn => by
    unfold plc
    rw [if_neg (by have := hn 0 (by omega); simpa using this), plc_at (j := j) (by simpa using h) fun k hk => by have := hn (k + 1) (by omega); simpa using this]
theorem row_lenE (cs : List Kl) (n : Str) (h : cs.length ≤ 8) : (encs (row cs n)).length ≤ 8 := by
  rw [List.length_map]
  exact Nat.le_trans (row_len cs n) h
/-! Shapes of good classes; dict displays. -/
theorem lay_str {x : Str} (h : ∀ c ∈ x.cps.toList, c < 1114112) : PyData.canLay0 (.str x) = true := by
  have h0 : x.cps.all (fun c => decide (c < 1114112)) = true := by
    rw [← Array.all_toList, List.all_eq_true]
    intro c hc
    exact decide_eq_true (h c hc)
  simpa only [PyData.canLay0, PyData.strOk] using h0
theorem letters_lt : ∀ c ∈ letters.cps.toList, c < 1114112 := by decide +kernel
theorem word_lay {x : Str} (w : IsWord x) : PyData.canLay0 (.str x) = true := lay_str fun c hc => letters_lt c (w.all c hc)
theorem Sh.word {n : Nat} {x : Str} (w : IsWord x) : Sh n (.str x) := Sh.str (word_lay w)
theorem lit_words : ∀ x ∈ (["top", "num", "none", "add", "less", "same", "give", "throw", "enter", "leave", "copy", "drop", "print", "push", "take", "keep", "go", "if", "new", "cast", "is", "get", "put", "call"] : List Str), isWordB x = true := by decide +kernel
theorem lit_word {x : Str} (h : x ∈ (["top", "num", "none", "add", "less", "same", "give", "throw", "enter", "leave", "copy", "drop", "print", "push", "take", "keep", "go", "if", "new", "cast", "is", "get", "put", "call"] : List Str)) : IsWord x := isWord_of (lit_words x h)
theorem step_sh {cs : List Kl} {n : Nat} {last : Prop} {d : PyData} (h : StepOk cs n last d) : Sh 1 d := by
  cases h with
  | @bare w h _ =>
    refine Sh.tup (n := 0) fun d hd => ?_
    rw [List.mem_singleton.mp hd]
    refine Sh.word (lit_word ?_)
    revert h
    unfold bareL
    simp only [List.mem_cons, List.not_mem_nil, or_false]
    rintro (h | h | h | h | h | h | h | h | h | h | h) <;> simp [h]
  | @num w i hi h _ _ _ =>
    refine Sh.tup (n := 0) fun d hd => ?_
    have hd : d = .str w ∨ d = .int i := by simpa using hd
    rcases hd with rfl | rfl
    · refine Sh.word (lit_word ?_)
      simp only [List.mem_cons, List.not_mem_nil, or_false, Prod.mk.injEq] at h
      rcases h with ⟨h, _⟩ | ⟨h, _⟩ | ⟨h, _⟩ | ⟨h, _⟩ | ⟨h, _⟩ <;> simp [h]
    · exact Sh.int _ _
  | @cls w c h wc _ _ =>
    refine Sh.tup (n := 0) fun d hd => ?_
    have hd : d = .str w ∨ d = .str c := by simpa using hd
    rcases hd with rfl | rfl
    · refine Sh.word (lit_word ?_)
      simp only [List.mem_cons, List.not_mem_nil, or_false] at h
      rcases h with h | h | h <;> simp [h]
    · exact Sh.word wc
  | @fld w c f h wc wf _ _ =>
    refine Sh.tup (n := 0) fun d hd => ?_
    have hd : d = .str w ∨ d = .str c ∨ d = .str f := by simpa using hd
    rcases hd with rfl | rfl | rfl
    · refine Sh.word (lit_word ?_)
      simp only [List.mem_cons, List.not_mem_nil, or_false] at h
      rcases h with h | h <;> simp [h]
    · exact Sh.word wc
    · exact Sh.word wf
  | @call c m wc wm _ _ =>
    refine Sh.tup (n := 0) fun d hd => ?_
    have hd : d = .str "call" ∨ d = .str c ∨ d = .str m := by simpa using hd
    rcases hd with rfl | rfl | rfl
    · exact Sh.word (lit_word (by simp))
    · exact Sh.word wc
    · exact Sh.word wm
theorem hand_sh {cs : List Kl} {n : Nat} {d : PyData} (h : HandOk cs n d) : Sh 1 d := by
  obtain @⟨a, b, g, c, h1, h2, h3, h4, h5, h6, h7, h8⟩ := h
  refine Sh.tup (n := 0) fun d hd => ?_
  have hd : d = .int a ∨ d = .int b ∨ d = .str c ∨ d = .int g := by simpa using hd
  rcases hd with rfl | rfl | rfl | rfl
  · exact Sh.int _ _
  · exact Sh.int _ _
  · exact Sh.word h5
  · exact Sh.int _ _
theorem code_sh {cs : List Kl} {code hs : List PyData} (h : OkCode cs code hs) : Sh 2 (.tuple code) ∧ Sh 2 (.tuple hs) := by
  refine ⟨Sh.tup fun d hd => ?_, Sh.tup fun d hd => hand_sh (h.hands d hd)⟩
  obtain ⟨i, hi⟩ := List.mem_iff_getElem?.mp hd
  exact step_sh (h.steps i d hi)
theorem at_mem {cs : List Kl} {c : Kl} (h : c ∈ cs) : ∃ i : Nat, cs[i]? = some c := List.mem_iff_getElem?.mp h
section
variable {cs : List Kl} (g : Good cs)
include g
theorem Good.f4 : ∀ u ∈ cs, u.fields.length ≤ 4 := fun u hu => by
  obtain ⟨i, hi⟩ := at_mem hu
  exact (g.flds i u hi).most
theorem Good.lean : Lean8 cs := ⟨g.most, fun u hu => ⟨g.f4 u hu, g.mmost u hu⟩⟩
theorem Good.m {u : Kl} (hu : u ∈ cs) {m : Mth} (hm : m ∈ u.meths) : ∃ i j : Nat, cs[i]? = some u ∧ u.meths[j]? = some m ∧ OkMeth (cs.take i) (namesL cs) u j m := by
  obtain ⟨i, hi⟩ := at_mem hu
  obtain ⟨j, hj⟩ := List.mem_iff_getElem?.mp hm
  exact ⟨i, j, hi, hj, g.mths i u hi j m hj⟩
theorem Good.shM {u : Kl} (hu : u ∈ cs) {m : Mth} (hm : m ∈ u.meths) : Sh 3 (encM m) := by
  obtain ⟨i, j, hi, hj, o⟩ := g.m hu hm
  obtain ⟨code, hs, em, oc⟩ := g.codes u hu m hm
  obtain ⟨s1, s2⟩ := code_sh oc
  refine Sh.tup fun d hd => ?_
  rw [em] at hd
  have hd : d = .str m.word ∨ d = .tuple (m.ins.map .str) ∨ d = .str m.out ∨ d = .tuple code ∨ d = .tuple hs := by simpa using hd
  rcases hd with rfl | rfl | rfl | rfl | rfl
  · exact Sh.word o.word
  · refine Sh.mono (n := 1) (Sh.tup (n := 0) fun d hd => ?_) (by decide)
    obtain ⟨k, hk, rfl⟩ := List.mem_map.mp hd
    exact Sh.word (o.ins k hk).1
  · exact Sh.word o.out.1
  · exact s1
  · exact s2
theorem Good.sh : Sh 6 (.tuple (encs cs)) := by
  refine Sh.tup fun d hd => ?_
  obtain ⟨u, hu, rfl⟩ := List.mem_map.mp hd
  obtain ⟨i, hi⟩ := at_mem hu
  have o := g.cls i u hi
  have f := g.flds i u hi
  refine Sh.tup fun d hd => ?_
  have hd : d = .str u.name ∨ d = .str u.upper ∨ d = .tuple (u.fields.map encF) ∨ d = .tuple (u.meths.map encM) := by simpa using hd
  rcases hd with rfl | rfl | rfl | rfl
  · exact Sh.word o.name
  · exact Sh.word o.upw
  · refine Sh.mono (n := 2) (Sh.tup fun d hd => ?_) (by decide)
    obtain ⟨x, hx, rfl⟩ := List.mem_map.mp hd
    refine Sh.tup (n := 0) fun d hd => ?_
    have hd : d = .str x.1 ∨ d = .str x.2 := by simpa using hd
    rcases hd with rfl | rfl
    · exact Sh.word (f.word x hx)
    · exact Sh.word (f.kind x hx).1
  · refine Sh.tup fun d hd => ?_
    obtain ⟨m, hm, rfl⟩ := List.mem_map.mp hd
    exact g.shM hu hm
end
theorem sh_words {xs : List Str} (h : ∀ x ∈ xs, IsWord x) : Sh 1 (.tuple (xs.map .str)) := Sh.tup (n := 0) fun d hd => by
  obtain ⟨x, hx, rfl⟩ := List.mem_map.mp hd
  exact Sh.word (h x hx)
theorem shL_words {xs : List Str} (h : ∀ x ∈ xs, IsWord x) : Sh 1 (.list (xs.map .str)) := Sh.lst (n := 0) fun d hd => by
  obtain ⟨x, hx, rfl⟩ := List.mem_map.mp hd
  exact Sh.word (h x hx)
theorem beq_str (x y : Str) : (x == y) = decide (x = y) := by
  by_cases h : x = y
  · subst h
    rw [decide_eq_true rfl]
    exact beq_self_eq_true x
  · rw [decide_eq_false h]
    exact beq_false_of_ne h
theorem eqvAll_strs : ∀ (xs ys : List Str), PyData.eqvAll (xs.map .str) (ys.map .str) = decide (xs = ys)
  | [], [] => by simp [PyData.eqvAll]
  | [], y :: ys => by simp [PyData.eqvAll]
  | x :: xs, [] => by simp [PyData.eqvAll]
  | x :: xs, y :: ys => by
    rw [List.map_cons, List.map_cons]
    simp only [PyData.eqvAll, PyData.eqv]
    rw [eqvAll_strs xs ys, beq_str]
    by_cases h : x = y
    · subst h
      simp
    · simp [h]
theorem eqvL_strs (xs ys : List Str) : PyData.eqv (.list (xs.map .str)) (.list (ys.map .str)) = decide (xs = ys) := by
  simp only [PyData.eqv]
  exact eqvAll_strs xs ys
theorem eqvT_strs (xs ys : List Str) : PyData.eqv (.tuple (xs.map .str)) (.tuple (ys.map .str)) = decide (xs = ys) := by
  simp only [PyData.eqv]
  exact eqvAll_strs xs ys
theorem eqvT_nil {d : PyData} {ds : List PyData} : PyData.eqv (.tuple (d :: ds)) (.tuple []) = false := by
  simp [PyData.eqv, PyData.eqvAll]
/-! ### dict displays of texts and ints -/
section
variable {K : Frag} {σ : L2.St} {H : Hp} {ta tb : TE} {d : PyData}
abbrev kvI (kis : List (Str × Int)) : List (Key × V) := kis.map fun p => (.inr p.1, .int p.2)
def EvP (trs : List (TE × TE)) (σ : L2.St) (H : Hp) (kis : List (Str × Int)) : Prop := ∀ H1, Same H H1 → ∀ Q : List (V × V) → Hp → Prop, (∀ H2, Same H1 H2 → Q (kis.map fun p => (V.str p.1, V.int p.2)) H2) → tPairs trs σ H1 Q
theorem ep_nil : EvP [] σ H [] := fun H1 _ Q q => q H1 (Same.refl H1)
theorem ep_cons {k : Str} {i : Int} {trs : List (TE × TE)} {kis : List (Str × Int)} (h1 : EvD K ta σ H (.str k)) (h2 : EvD K tb σ H (.int i)) (r : EvP trs σ H kis) : EvP ((ta, tb) :: trs) σ H ((k, i) :: kis) := fun H1 e Q q =>
  h1 H1 e _ fun v H2 e2 t1 => h2 H2 (e.trans e2) _ fun w H3 e3 t2 => r H3 ((e.trans e2).trans e3) _ fun H4 e4 => by
    rw [t1.strI, t2.intI]
    exact q H4 ((e2.trans e3).trans e4)
theorem q_disp {trs : List (TE × TE)} {kis : List (Str × Int)} {i : Nat} {tz : TS} {D : Ends} (h : EvP trs σ H kis) (hl : kis.length ≤ 15) (k : ∀ p H1, H p = none → Same H H1 → H1 p = some (.dK (mergeK [] (kvI kis))) → tz D (σ.set i (some (.ref p))) H1) : tSeq (tAsg (tDisp trs) (gName i)) tz D σ H := fun p hp =>
  h _ (Same.new hp) _ fun H2 e2 => by
    have hd : H2 p = some (.dK []) := e2 p _ upd_same
    refine ⟨hd, kvI kis, ?_, by rw [List.length_map]; exact hl, k p _ hp ?_ upd_same⟩
    · rw [List.map_map]
      rfl
    · intro a u ha
      rw [upd_ne (ne_of_none ha hp)]
      exact e2 a u (by rw [upd_ne (ne_of_none ha hp)]; exact ha)
theorem ed_dIn {w : Str} {i : Nat} {a : Addr} {kvs : List (Key × V)} (h : EvD K ta σ H (.str w)) (hv : σ[i]? = some (some (.ref a))) (hd : H a = some (.dK kvs)) : EvD K (tDIn ta (tVar i)) σ H (.bool (valV kvs (.inr w)).isSome) := fun H1 e Q q =>
  h H1 e _ fun v H2 e2 t => ⟨_, hv, a, _, rfl, by rw [t.strI]; exact DGet.k (k := .inr w) ((e.trans e2) _ _ hd), q _ H2 e2 (.bl _)⟩
theorem ed_dGet {w : Str} {i : Nat} {a : Addr} {kvs : List (Key × V)} {v : V} (hv : σ[i]? = some (some (.ref a))) (hd : H a = some (.dK kvs)) (h : EvD K ta σ H (.str w)) (e : valV kvs (.inr w) = some v) (t : ∀ H, Td K H v d) : EvD K (tDGet (tVar i) ta) σ H d := fun H1 e1 Q q =>
  ⟨_, hv, h H1 e1 _ fun u H2 e2 t1 => ⟨a, v, rfl, by rw [t1.strI, ← e]; exact DGet.k (k := .inr w) ((e1.trans e2) _ _ hd), q _ H2 e2 (t H2)⟩⟩
end
/-! What the law's own defs promise. -/
/-- where the row of draws and the script stand -/
structure Scr where
  r : Addr
  sc : Addr
  ns : List Int
def ScrAt (K : Frag) (R : Scr) (H : Hp) : Prop := (R.sc ≠ R.r ∧ (H R.sc = some (.lst (R.ns.map V.int)) ∨ ∃ o, H R.sc = some (.frz o (.lst (R.ns.map V.int))))) ∨ ∀ H', SqL K H' R.sc (R.ns.map V.int)
structure RowAt (K : Frag) (R : Scr) (H : Hp) : Prop where
  row : ∃ (i s t : Int), H R.r = some (.lst [.ref R.sc, .int i, .int s, .int t]) ∧ 0 ≤ i
  scr : ScrAt K R H
section
variable {K : Frag} {R : Scr} {H H' H0 : Hp} {p : Addr}
theorem ScrAt.sq (h : ScrAt K R H) : SqL K H R.sc (R.ns.map V.int) := by
  rcases h with ⟨_, h | ⟨o, h⟩⟩ | h
  · exact .of h
  · exact .inl (.inr ⟨o, h⟩)
  · exact h H
theorem ScrAt.gx (h : ScrAt K R H) (g : Gx [R.r] H H') : ScrAt K R H' := by
  rcases h with ⟨n, h⟩ | h
  · exact .inl ⟨n, h.imp (fun h => g.keep _ _ (by simpa using n) h) fun ⟨o, h⟩ => ⟨o, g.keep _ _ (by simpa using n) h⟩⟩
  · exact .inr h
theorem ScrAt.gx2 (h : ScrAt K R H) (hp : H p = none) (g : Gx [R.r, p] H H') : ScrAt K R H' := by
  rcases h with ⟨n, h⟩ | h
  · have np : R.sc ≠ p := fun z => by
      rcases h with h | ⟨o, h⟩ <;> rw [z, hp] at h <;> cases h
    exact .inl ⟨n, h.imp (fun h => g.keep _ _ (by simp [n, np]) h) fun ⟨o, h⟩ => ⟨o, g.keep _ _ (by simp [n, np]) h⟩⟩
  · exact .inr h
theorem RowAt.ne (h : RowAt K R H) (hp : H p = none) : R.r ≠ p := fun z => by
  obtain ⟨⟨i, s, t, h1, _⟩, _⟩ := h
  rw [z, hp] at h1
  cases h1
theorem RowAt.ex (h : RowAt K R H) (e : Same H H') : RowAt K R H' := by
  obtain ⟨⟨i, s, t, h1, h2⟩, h3⟩ := h
  exact ⟨⟨i, s, t, e _ _ h1, h2⟩, h3.gx (.of e)⟩
/-- what is new since H0 may be written -/
theorem RowAt.upd (h : RowAt K R H') (h0 : RowAt K R H0) (hp : H0 p = none) {o : HO} (g : Gx [R.r, p] H0 (upd H' p o)) : RowAt K R (upd H' p o) := by
  obtain ⟨⟨i, s, t, h1, h2⟩, h3⟩ := h
  refine ⟨⟨i, s, t, ?_, h2⟩, h0.scr.gx2 hp g⟩
  rw [upd_ne (h0.ne hp)]
  exact h1
end
/-- a list apart from S -/
structure Lg (K : Frag) (S : List Addr) (H : Hp) (a : Addr) (ds : List PyData) : Prop where
  out : a ∉ S
  ex : ∃ xs, H a = some (.lst xs) ∧ Tds K H xs ds
theorem Lg.gx {K : Frag} {S : List Addr} {H H' : Hp} {a : Addr} {ds : List PyData} (h : Lg K S H a ds) (g : Gx S H H') : Lg K S H' a ds := by
  obtain ⟨n, xs, h1, h2⟩ := h
  exact ⟨n, xs, g.keep _ _ n h1, h2.gx g⟩
theorem Lg.same {K : Frag} {S : List Addr} {H H' : Hp} {a : Addr} {ds : List PyData} (h : Lg K S H a ds) (e : Same H H') : Lg K S H' a ds := h.gx (.of e)
theorem Lg.ls {K : Frag} {S : List Addr} {H : Hp} {a : Addr} {ds : List PyData} (h : Lg K S H a ds) : Ls K H a ds := by
  obtain ⟨n, xs, h1, h2⟩ := h
  exact .of h1 h2
theorem Lg.sq {K : Frag} {S : List Addr} {H : Hp} {a : Addr} {ds : List PyData} (h : Lg K S H a ds) : Sq K H a ds := h.ls.sq
theorem Lg.new {K : Frag} {R : Scr} {H0 H : Hp} {a : Addr} {xs : List V} {ds : List PyData} (hr : RowAt K R H0) (n : H0 a = none) (h : H a = some (.lst xs)) (t : Tds K H xs ds) : Lg K [R.r] H a ds :=
  ⟨fun z => hr.ne n (List.mem_singleton.mp z).symm, xs, h, t⟩
/-- a drawn thing comes back; a drawn list comes back, new -/
def RetX (K : Frag) (R : Scr) (P : PyData → Prop) (H : Hp) (Q : VK) : Prop := ∀ v d H', Gx [R.r] H H' → RowAt K R H' → Td K H' v d → P d → Q v H'
def RetXL (K : Frag) (R : Scr) (P : List PyData → Prop) (H : Hp) (Q : VK) : Prop := ∀ a xs ds H', H a = none → Gx [R.r] H H' → RowAt K R H' → H' a = some (.lst xs) → Tds K H' xs ds → P ds → Q (.ref a) H'
theorem Gx.free {S : List Addr} {H H' : Hp} {a : Addr} (g : Gx S H H') (hn : H' a = none) (n : a ∉ S) : H a = none := by
  cases h : H a with
  | none => rfl
  | some o =>
    rw [g.keep a o n h] at hn
    cases hn
theorem RetX.go {K : Frag} {R : Scr} {P : PyData → Prop} {H H1 : Hp} {Q : VK} (h : RetX K R P H Q) (g : Gx [R.r] H H1) : RetX K R P H1 Q := fun v d H' g' w t p => h v d H' (g.trans g') w t p
def InR (m : Int) (d : PyData) : Prop := ∃ k : Int, d = .int k ∧ 0 ≤ k ∧ k < m
def leafD : PyData → Bool
  | .none | .str _ | .int _ => true
  | _ => false
def shallow : PyData → Bool
  | .tuple ds => ds.all leafD && decide (ds.length ≤ 1000)
  | d => leafD d
def names8 : List Str := ["egg", "box", "red", "blue", "cat", "dog", "sun", "moon"]
def TreeOk (m : Nat) (ts : List (Str × Str)) : Prop := ts.length = m ∧ ∀ i p, ts[i]? = some p → names8[i]? = some p.1 ∧ p.2 ∈ topS :: (ts.take i).map (·.1)
def OkK (names : List Str) (k : Str) : Prop := k = numS ∨ k = topS ∨ k ∈ names
structure SignOk (names : List Str) (s : List Str × Str) : Prop where
  most : s.1.length ≤ 3
  ins : ∀ k ∈ s.1, OkK names k
  out : OkK names s.2
def encS (s : List Str × Str) : PyData := .tuple [.tuple (s.1.map .str), .str s.2]
def SignsAt (K : Frag) (H : Hp) (p : Addr) (sg : Str → List Str × Str) : Prop := ∃ v1 v2 v3, H p = some (.dK [(.inr "ma", v1), (.inr "mb", v2), (.inr "mc", v3)]) ∧ Td K H v1 (encS (sg "ma")) ∧ Td K H v2 (encS (sg "mb")) ∧ Td K H v3 (encS (sg "mc"))
/-- the classes without codes -/
structure OkMeth0 (prev : List Kl) (names : List Str) (c : Kl) (i : Nat) (m : Mth) : Prop where
  word : IsWord m.word
  new : m.word ∉ (c.meths.take i).map (·.word)
  most : m.ins.length ≤ 3
  ins : ∀ k ∈ m.ins, OkKind names k
  out : OkKind names m.out
  same : ∀ u ∈ row prev c.upper, ∀ m' ∈ u.meths, m'.word = m.word → m'.ins = m.ins ∧ m'.out = m.out
structure BareOk (cs : List Kl) : Prop where
  ne : cs ≠ []
  most : cs.length ≤ 8
  cls : ∀ i c, cs[i]? = some c → OkClass (cs.take i) c
  flds : ∀ i c, cs[i]? = some c → OkFields (cs.take i) (namesL cs) c
  mmost : ∀ c ∈ cs, c.meths.length ≤ 4
  mths : ∀ i c, cs[i]? = some c → ∀ j m, c.meths[j]? = some m → OkMeth0 (cs.take i) (namesL cs) c j m
structure CodeOk (cs : List Kl) (most : Nat) (code : List PyData) : Prop where
  ne : code ≠ []
  most : code.length ≤ most
  steps : ∀ i d, code[i]? = some d → StepOk cs code.length (i + 1 = code.length) d
section
variable (K : Frag)
def sp_law_taken : Sp := fun vs H Q _ => ∃ (R : Scr) (m : Int), vs = [.ref R.r, .int m] ∧ RowAt K R H ∧ 0 < m ∧ m < 1000000 ∧ RetX K R (InR m) H Q
def sp_law_pick : Sp := fun vs H Q _ => ∃ (R : Scr) (a : Addr) (ds : List PyData), vs = [.ref R.r, .ref a] ∧ RowAt K R H ∧ Lg K [R.r] H a ds ∧ ds ≠ [] ∧ ds.length < 100000 ∧ RetX K R (· ∈ ds) H Q
def sp_law_alike0 : Sp := fun vs H Q _ => ∃ (v w : V) (d : PyData), vs = [v, w] ∧ Td K H v d ∧ Td K H w d ∧ leafD d = true ∧ Ret K (.bool true) H Q
def sp_law_alike : Sp := fun vs H Q _ => ∃ (v w : V) (d : PyData), vs = [v, w] ∧ Td K H v d ∧ Td K H w d ∧ shallow d = true ∧ Ret K (.bool true) H Q
def sp_law_row_of : Sp := fun vs H Q _ => ∃ (a : Addr) (cs : List Kl) (n : Str), vs = [.ref a, .str n] ∧ Sq K H a (encs cs) ∧ cs.length ≤ 8 ∧ RetN K (encs (row cs n)) H Q
def sp_law_tree : Sp := fun vs H Q _ => ∃ (R : Scr) (m : Nat), vs = [.ref R.r, .int (m : Int)] ∧ RowAt K R H ∧ 1 ≤ m ∧ m ≤ 8 ∧ RetXL K R (fun ds => ∃ ts, ds = ts.map encF ∧ TreeOk m ts) H Q
def sp_law_signs : Sp := fun vs H Q _ => ∃ (R : Scr) (a : Addr) (names : List Str), vs = [.ref R.r, .ref a] ∧ RowAt K R H ∧ Lg K [R.r] H a (names.map .str) ∧ names.length ≤ 8 ∧
  ∀ p sg H', H p = none → Gx [R.r] H H' → RowAt K R H' → SignsAt K H' p sg → (∀ w, SignOk names (sg w)) → Q (.ref p) H'
def sp_law_step : Sp := fun vs H Q _ => ∃ (R : Scr) (a : Addr) (n : Int) (bs : List Kl), vs = [.ref R.r, .ref a, .int n] ∧ RowAt K R H ∧ Lg K [R.r] H a (encs bs) ∧ BareOk bs ∧ 0 < n ∧ n ≤ 20 ∧ RetX K R (StepOk bs n.toNat False) H Q
def sp_law_code : Sp := fun vs H Q _ => ∃ (R : Scr) (a : Addr) (n : Nat) (bs : List Kl), vs = [.ref R.r, .ref a, .int (n : Int)] ∧ RowAt K R H ∧ Lg K [R.r] H a (encs bs) ∧ BareOk bs ∧ 1 ≤ n ∧ n ≤ 20 ∧ RetX K R (fun d => ∃ code, d = .tuple code ∧ CodeOk bs n code) H Q
def sp_law_handlers : Sp := fun vs H Q _ => ∃ (R : Scr) (a : Addr) (n : Nat) (bs : List Kl), vs = [.ref R.r, .ref a, .int (n : Int)] ∧ RowAt K R H ∧ Lg K [R.r] H a ((bs.map (·.name)).map .str) ∧ BareOk bs ∧ 1 ≤ n ∧ n ≤ 20 ∧ RetX K R (fun d => ∃ hs, d = .tuple hs ∧ hs.length ≤ 4 ∧ ∀ h ∈ hs, HandOk bs n h) H Q
def sp_law_bare : Sp := fun vs H Q _ => ∃ (R : Scr), vs = [.ref R.r, .int 8] ∧ RowAt K R H ∧ RetXL K R (fun ds => ∃ bs : List Kl, ds = encs bs ∧ BareOk bs ∧ ∀ c ∈ bs, ∀ m ∈ c.meths, m.more = []) H Q
def sp_law_classes : Sp := fun vs H Q _ => ∃ (R : Scr), vs = [.ref R.r, .int 8, .int 3] ∧ RowAt K R H ∧ RetX K R (fun d => ∃ cs, d = .tuple (encs cs) ∧ Good cs) H Q
def sp_law_wordy : Sp := fun vs H Q _ => ∃ (R : Scr), vs = [.ref R.r, .int 8] ∧ RowAt K R H ∧ RetX K R (fun d => ∃ cs, d = .tuple (encs cs) ∧ Good cs) H Q
def sp_law_up : Sp := fun vs H Q _ => ∃ (a : Addr) (cs : List Kl) (n : Str), vs = [.ref a, .str n] ∧ Sq K H a (encs cs) ∧ cs.length ≤ 8 ∧ RetN K (((row cs n).map (·.name) ++ [topS]).map .str) H Q
def sp_law_near : Sp := fun vs H Q _ => ∃ (a : Addr) (cs : List Kl) (n w : Str), vs = [.ref a, .str n, .str w] ∧ Sq K H a (encs cs) ∧ cs.length ≤ 8 ∧ (∀ u ∈ cs, u.meths.length ≤ 4) ∧ Ret K (nearD w (row cs n)) H Q
end
/-! ### _law_taken -/
abbrev s_law_taken : Stmt := top 55
abbrev N_law_taken : List Str := ["_law_row", "_law_many", "_law_cell", "_law_found"]
abbrev P_law_taken : List Str := ["_law_row", "_law_many"]
theorem sc_law_taken : FnScope N_law_taken P_law_taken (C8.fnScope s_law_taken) := C8.fnScope_by (by decide +kernel)
def t_law_taken (K : Frag) : TS :=
    (tSeq (tIfS (tTest (tOp rGt (tOp (rIx K) (tVar 0) (tC (.int 3))) (tC (.int 0)))) (tSeq (tAsg (tOp rMod (tCB (rInt1) (tCons (tOp (rIx K) (tVar 0) (tC (.int 3))) tNil)) (tVar 1)) (gName 3))
    (tSeq (tAsg (tOp rDiv (tOp (rIx K) (tVar 0) (tC (.int 3))) (tVar 1)) (gSub (tVar 0) (tC (.int 3)) rSetL))
    (tRet (tVar 3)))) tNext)
    (tSeq (tAsg (tOp rAdd (tOp (rIx K) (tVar 0) (tC (.int 1))) (tC (.int 1))) (gSub (tVar 0) (tC (.int 1)) rSetL))
    (tSeq (tIfS (tTest (tOp rGt (tOp (rIx K) (tVar 0) (tC (.int 1))) (tCB (rLen K) (tCons (tOp (rIx K) (tVar 0) (tC (.int 0))) tNil)))) (tSeq (tAsg (tOp rMod (tCB (rInt1) (tCons (tOp rAdd (tOp rMul (tOp (rIx K) (tVar 0) (tC (.int 2))) (tC (.int 48271))) (tC (.int 11))) tNil)) (tC (.int 2147483647))) (gSub (tVar 0) (tC (.int 2)) rSetL))
    (tRet (tOp rMod (tCB (rInt1) (tCons (tOp rDiv (tOp (rIx K) (tVar 0) (tC (.int 2))) (tC (.int 7))) tNil)) (tVar 1)))) tNext)
    (tSeq (tAsg (tOp (rIx K) (tOp (rIx K) (tVar 0) (tC (.int 0))) (tOp rSub (tOp (rIx K) (tVar 0) (tC (.int 1))) (tC (.int 1)))) (gName 2))
    (tSeq (tAsg (tOp rMod (tCB (rInt1) (tCons (tOp rAdd (tOp rAdd (tOp rMul (tOp (rIx K) (tVar 0) (tC (.int 2))) (tC (.int 48271))) (tVar 2)) (tC (.int 11))) tNil)) (tC (.int 2147483647))) (gSub (tVar 0) (tC (.int 2)) rSetL))
    (tSeq (tIfS (tTest (tOp rGe (tVar 2) (tOp rPow (tC (.int 10)) (tC (.int 18))))) (tAsg (tOp rDiv (tVar 2) (tVar 1)) (gSub (tVar 0) (tC (.int 3)) rSetL)) tNext)
    (tRet (tOp rMod (tCB (rInt1) (tCons (tVar 2) tNil)) (tVar 1)))))))))
/-! ### _law_pick -/
abbrev s_law_pick : Stmt := top 56
abbrev N_law_pick : List Str := ["_law_row", "_law_things"]
abbrev P_law_pick : List Str := ["_law_row", "_law_things"]
theorem sc_law_pick : FnScope N_law_pick P_law_pick (C8.fnScope s_law_pick) := C8.fnScope_by (by decide +kernel)
def t_law_pick (K : Frag) : TS :=
    (tRet (tOp (rIx K) (tVar 1) (tCall (sp_law_taken K) [] C8.E0 (tCons (tVar 0) (tCons (tCB (rLen K) (tCons (tVar 1) tNil)) tNil)))))
/-! ### _law_alike -/
abbrev s_law_alike : Stmt := top 57
abbrev N_law_alike : List Str := ["_law_found", "_law_due", "_law_k"]
abbrev P_law_alike : List Str := ["_law_found", "_law_due"]
theorem sc_law_alike : FnScope N_law_alike P_law_alike (C8.fnScope s_law_alike) := C8.fnScope_by (by decide +kernel)
def t_law_alike (K : Frag) : TS :=
    (tSeq (tIfS (tB (tCB (rIsiT K) (tCons (tVar 1) (tCons (tTup (tCons (tC (.ty "tuple")) (tCons (tC (.ty "list")) tNil))) tNil)))) (tSeq (tIfS (tOr (tNot (tB (tCB (rIsiT K) (tCons (tVar 0) (tCons (tTup (tCons (tC (.ty "tuple")) (tCons (tC (.ty "list")) tNil))) tNil))))) (tTest (tOp rNe (tCB (rIsi K) (tCons (tVar 0) (tCons (tC (.ty "list")) tNil))) (tCB (rIsi K) (tCons (tVar 1) (tCons (tC (.ty "list")) tNil)))))) (tRet (tC (.bl false))) tNext)
    (tSeq (tIfS (tTest (tOp rNe (tCB (rLen K) (tCons (tVar 0) tNil)) (tCB (rLen K) (tCons (tVar 1) tNil)))) (tRet (tC (.bl false))) tNext)
    (tRet (tOp (rEqD K) (tLc (iRng1 (tCons (tCB (rLen K) (tCons (tVar 1) tNil)) tNil)) (gName 2) (tNot (tB (tCall (sp_law_alike0 K) [] C8.E0 (tCons (tOp (rIx K) (tVar 0) (tVar 2)) (tCons (tOp (rIx K) (tVar 1) (tVar 2)) tNil))))) (tVar 2) [2]) (tLst tNil))))) tNext)
    (tSeq (tIfS (tOr (tTest (tOp rIsN (tVar 1) (tC .non))) (tB (tCB (rIsi K) (tCons (tVar 1) (tCons (tC (.ty "str")) tNil))))) (tRet (tAndV (tOp rEq (tVar 0) (tVar 1)) (tOp rEq (tCB (rIsi K) (tCons (tVar 0) (tCons (tC (.ty "str")) tNil))) (tCB (rIsi K) (tCons (tVar 1) (tCons (tC (.ty "str")) tNil)))))) tNext)
    (tRet (tAndV (tCB (rIsi K) (tCons (tVar 0) (tCons (tC (.ty "int")) tNil))) (tAndV (tOp rEq (tCB (rIsi K) (tCons (tVar 0) (tCons (tC (.ty "bool")) tNil))) (tCB (rIsi K) (tCons (tVar 1) (tCons (tC (.ty "bool")) tNil)))) (tOp rEq (tVar 0) (tVar 1)))))))
def t_law_alike0 (K : Frag) : TS :=
    (tSeq (tIfS (tB (tCB (rIsiT K) (tCons (tVar 1) (tCons (tTup (tCons (tC (.ty "tuple")) (tCons (tC (.ty "list")) tNil))) tNil)))) tNever tNext)
    (tSeq (tIfS (tOr (tTest (tOp rIsN (tVar 1) (tC .non))) (tB (tCB (rIsi K) (tCons (tVar 1) (tCons (tC (.ty "str")) tNil))))) (tRet (tAndV (tOp rEq (tVar 0) (tVar 1)) (tOp rEq (tCB (rIsi K) (tCons (tVar 0) (tCons (tC (.ty "str")) tNil))) (tCB (rIsi K) (tCons (tVar 1) (tCons (tC (.ty "str")) tNil)))))) tNext)
    (tRet (tAndV (tCB (rIsi K) (tCons (tVar 0) (tCons (tC (.ty "int")) tNil))) (tAndV (tOp rEq (tCB (rIsi K) (tCons (tVar 0) (tCons (tC (.ty "bool")) tNil))) (tCB (rIsi K) (tCons (tVar 1) (tCons (tC (.ty "bool")) tNil)))) (tOp rEq (tVar 0) (tVar 1)))))))
/-! ### _law_row_of -/
abbrev s_law_row_of : Stmt := top 58
abbrev N_law_row_of : List Str := ["_law_classes_here", "_law_name", "_law_found", "_law_told"]
abbrev P_law_row_of : List Str := ["_law_classes_here", "_law_name"]
theorem sc_law_row_of : FnScope N_law_row_of P_law_row_of (C8.fnScope s_law_row_of) := C8.fnScope_by (by decide +kernel)
def t_law_row_of (K : Frag) : TS :=
    (tSeq (tAsg (tLst tNil) (gName 2))
    (tSeq (tFor (iAny K (tRevA K (tVar 0))) (gName 3) (tIfS (tTest (tOp rEq (tOp (rIx K) (tVar 3) (tC (.int 0))) (tVar 1))) (tSeq (tDrop (tBM K "list" rAppend (tVar 2) (tCons (tVar 3) tNil)))
    (tAsg (tOp (rIx K) (tVar 3) (tC (.int 1))) (gName 1))) tNext))
    (tRet (tVar 2))))
/-! ### _law_tree -/
abbrev s_law_tree : Stmt := top 59
abbrev N_law_tree : List Str := ["_law_row", "_law_many", "_law_at", "_law_names", "_law_way", "_law_found", "_law_some", "_law_upper", "_law_told"]
abbrev P_law_tree : List Str := ["_law_row", "_law_many"]
theorem sc_law_tree : FnScope N_law_tree P_law_tree (C8.fnScope s_law_tree) := C8.fnScope_by (by decide +kernel)
def t_law_tree (K : Frag) : TS :=
    (tSeq (tPar3 3 4 5 (tCons (tLst (tCons (tC (.str "egg")) (tCons (tC (.str "box")) (tCons (tC (.str "red")) (tCons (tC (.str "blue")) (tCons (tC (.str "cat")) (tCons (tC (.str "dog")) (tCons (tC (.str "sun")) (tCons (tC (.str "moon")) tNil))))))))) (tCons (tCall (sp_law_taken K) [] C8.E0 (tCons (tVar 0) (tCons (tC (.int 3)) tNil))) (tCons (tLst tNil) tNil))))
    (tSeq (tFor (iRng1 (tCons (tVar 1) tNil)) (gName 2) (tSeq (tAsg (tOp rCat (tLst (tCons (tC (.str "top")) tNil)) (tLc (iAny K (tVar 5)) (gName 8) tYes (tOp (rIx K) (tVar 8) (tC (.int 0))) [8])) (gName 6))
    (tSeq (tAsg (tOp (rIx K) (tLst (tCons (tOp (rIx K) (tVar 6) (tUn rNeg (tC (.int 1)))) (tCons (tOp (rIx K) (tVar 6) (tOp rMod (tCall (sp_law_taken K) [] C8.E0 (tCons (tVar 0) (tCons (tC (.int 2)) tNil))) (tCB (rLen K) (tCons (tVar 6) tNil)))) (tCons (tCall (sp_law_pick K) [] C8.E0 (tCons (tVar 0) (tCons (tVar 6) tNil))) tNil)))) (tVar 4)) (gName 7))
    (tDrop (tBM K "list" rAppend (tVar 5) (tCons (tTup (tCons (tOp (rIx K) (tVar 3) (tVar 2)) (tCons (tVar 7) tNil))) tNil))))))
    (tRet (tVar 5))))
/-! ### _law_signs -/
abbrev s_law_signs : Stmt := top 60
abbrev N_law_signs : List Str := ["_law_row", "_law_names", "_law_word", "_law_kinds", "_law_found", "_law_ins", "_law_at"]
abbrev P_law_signs : List Str := ["_law_row", "_law_names"]
theorem sc_law_signs : FnScope N_law_signs P_law_signs (C8.fnScope s_law_signs) := C8.fnScope_by (by decide +kernel)
def t_law_signs (K : Frag) : TS :=
    (tSeq (tAsg (tTup (tCons (tOp rCat (tLst (tCons (tC (.str "num")) (tCons (tC (.str "num")) (tCons (tC (.str "top")) tNil)))) (tVar 1)) (tCons tDNewK tNil))) (gTup K 2 (gCons (gName 3) (gCons (gName 4) gNil))))
    (tSeq (tFor (iAny K (tLst (tCons (tC (.str "ma")) (tCons (tC (.str "mb")) (tCons (tC (.str "mc")) tNil))))) (gName 2) (tSeq (tAsg (tCB (rTupOf K) (tCons (tLc (iRng1 (tCons (tCall (sp_law_taken K) [] C8.E0 (tCons (tVar 0) (tCons (tC (.int 3)) tNil))) tNil)) (gName 6) tYes (tCall (sp_law_pick K) [] C8.E0 (tCons (tVar 0) (tCons (tVar 3) tNil))) [6]) tNil)) (gName 5))
    (sDPut (tVar 4) (tVar 2) (tTup (tCons (tVar 5) (tCons (tCall (sp_law_pick K) [] C8.E0 (tCons (tVar 0) (tCons (tVar 3) tNil))) tNil))))))
    (tRet (tVar 4))))
/-! ### _law_step -/
abbrev s_law_step : Stmt := top 61
abbrev N_law_step : List Str := ["_law_row", "_law_classes_here", "_law_size", "_law_name", "_law_told", "_law_some", "_law_names", "_law_way", "_law_words", "_law_fields", "_law_field", "_law_word", "_law_method"]
abbrev P_law_step : List Str := ["_law_row", "_law_classes_here", "_law_size"]
theorem sc_law_step : FnScope N_law_step P_law_step (C8.fnScope s_law_step) := C8.fnScope_by (by decide +kernel)
def t_law_step (K : Frag) : TS :=
    (tSeq (tPar 6 7 (tCons (tOp rCat (tLst (tCons (tC (.str "top")) tNil)) (tLc (iAny K (tVar 1)) (gName 4) tYes (tOp (rIx K) (tVar 4) (tC (.int 0))) [4])) (tCons (tCall (sp_law_taken K) [] C8.E0 (tCons (tVar 0) (tCons (tC (.int 8)) tNil))) tNil)))
    (tSeq (tIfS (tTest (tOp rLt (tVar 7) (tC (.int 2)))) (tSeq (tAsg (tLst (tCons (tC (.str "none")) (tCons (tC (.str "add")) (tCons (tC (.str "less")) (tCons (tC (.str "same")) (tCons (tC (.str "give")) (tCons (tC (.str "throw")) (tCons (tC (.str "enter")) (tCons (tC (.str "leave")) (tCons (tC (.str "copy")) (tCons (tC (.str "drop")) (tCons (tC (.str "print")) tNil)))))))))))) (gName 8))
    (tRet (tTup (tCons (tCall (sp_law_pick K) [] C8.E0 (tCons (tVar 0) (tCons (tVar 8) tNil))) tNil)))) tNext)
    (tSeq (tIfS (tTest (tOp rEq (tVar 7) (tC (.int 2)))) (tRet (tTup (tCons (tC (.str "push")) (tCons (tCall (sp_law_taken K) [] C8.E0 (tCons (tVar 0) (tCons (tC (.int 16)) tNil))) tNil)))) tNext)
    (tSeq (tIfS (tTest (tOp rEq (tVar 7) (tC (.int 3)))) (tRet (tTup (tCons (tCall (sp_law_pick K) [] C8.E0 (tCons (tVar 0) (tCons (tLst (tCons (tC (.str "take")) (tCons (tC (.str "take")) (tCons (tC (.str "keep")) tNil)))) tNil))) (tCons (tCall (sp_law_taken K) [] C8.E0 (tCons (tVar 0) (tCons (tC (.int 4)) tNil))) tNil)))) tNext)
    (tSeq (tIfS (tTest (tOp rEq (tVar 7) (tC (.int 4)))) (tRet (tTup (tCons (tCall (sp_law_pick K) [] C8.E0 (tCons (tVar 0) (tCons (tLst (tCons (tC (.str "go")) (tCons (tC (.str "if")) (tCons (tC (.str "if")) tNil)))) tNil))) (tCons (tCall (sp_law_taken K) [] C8.E0 (tCons (tVar 0) (tCons (tVar 2) tNil))) tNil)))) tNext)
    (tSeq (tIfS (tTest (tOp rEq (tVar 7) (tC (.int 5)))) (tRet (tTup (tCons (tCall (sp_law_pick K) [] C8.E0 (tCons (tVar 0) (tCons (tLst (tCons (tC (.str "new")) (tCons (tC (.str "new")) (tCons (tC (.str "cast")) (tCons (tC (.str "is")) tNil))))) tNil))) (tCons (tCall (sp_law_pick K) [] C8.E0 (tCons (tVar 0) (tCons (tVar 6) tNil))) tNil)))) tNext)
    (tSeq (tAsg (tCall (sp_law_pick K) [] C8.E0 (tCons (tVar 0) (tCons (tVar 6) tNil))) (gName 3))
    (tSeq (tPar 9 8 (tCons (tLst tNil) (tCons (tLst tNil) tNil)))
    (tSeq (tFor (iAny K (tCall (sp_law_row_of K) [] C8.E0 (tCons (tVar 1) (tCons (tVar 3) tNil)))) (gName 4) (tSeq (tAsg (tOp rCat (tVar 9) (tLc (iAny K (tOp (rIx K) (tVar 4) (tC (.int 2)))) (gName 10) tYes (tOp (rIx K) (tVar 10) (tC (.int 0))) [10])) (gName 9))
    (tAsg (tOp rCat (tVar 8) (tLc (iAny K (tOp (rIx K) (tVar 4) (tC (.int 3)))) (gName 12) tYes (tOp (rIx K) (tVar 12) (tC (.int 0))) [12])) (gName 8))))
    (tSeq (tAsg (tOp rCat (tLc (iAny K (tVar 9)) (gName 10) tYes (tTup (tCons (tC (.str "get")) (tCons (tVar 3) (tCons (tVar 10) tNil)))) [10]) (tLc (iAny K (tVar 9)) (gName 10) tYes (tTup (tCons (tC (.str "put")) (tCons (tVar 3) (tCons (tVar 10) tNil)))) [10])) (gName 5))
    (tSeq (tAsg (tOp rCat (tVar 5) (tLc (iAny K (tVar 8)) (gName 11) tYes (tTup (tCons (tC (.str "call")) (tCons (tVar 3) (tCons (tVar 11) tNil)))) [11])) (gName 5))
    (tRet (tIf (tTest (tOp (rNeD K) (tVar 5) (tLst tNil))) (tCall (sp_law_pick K) [] C8.E0 (tCons (tVar 0) (tCons (tVar 5) tNil))) (tTup (tCons (tC (.str "push")) (tCons (tCall (sp_law_taken K) [] C8.E0 (tCons (tVar 0) (tCons (tC (.int 3)) tNil))) tNil))))))))))))))))
/-! ### _law_code -/
abbrev s_law_code : Stmt := top 62
abbrev N_law_code : List Str := ["_law_row", "_law_classes_here", "_law_most", "_law_size", "_law_found", "_law_at"]
abbrev P_law_code : List Str := ["_law_row", "_law_classes_here", "_law_most"]
theorem sc_law_code : FnScope N_law_code P_law_code (C8.fnScope s_law_code) := C8.fnScope_by (by decide +kernel)
def t_law_code (K : Frag) : TS :=
    (tSeq (tAsg (tOp rAdd (tC (.int 1)) (tCall (sp_law_taken K) [] C8.E0 (tCons (tVar 0) (tCons (tVar 2) tNil)))) (gName 3))
    (tSeq (tAsg (tLc (iRng1 (tCons (tOp rSub (tVar 3) (tC (.int 1))) tNil)) (gName 5) tYes (tCall (sp_law_step K) [] C8.E0 (tCons (tVar 0) (tCons (tVar 1) (tCons (tVar 3) tNil)))) [5]) (gName 4))
    (tRet (tCB (rTupOf K) (tCons (tOp rCat (tVar 4) (tLst (tCons (tCall (sp_law_pick K) [] C8.E0 (tCons (tVar 0) (tCons (tLst (tCons (tTup (tCons (tC (.str "give")) tNil)) (tCons (tTup (tCons (tC (.str "give")) tNil)) (tCons (tTup (tCons (tC (.str "throw")) tNil)) (tCons (tTup (tCons (tC (.str "go")) (tCons (tCall (sp_law_taken K) [] C8.E0 (tCons (tVar 0) (tCons (tVar 3) tNil))) tNil))) tNil))))) tNil))) tNil))) tNil)))))
/-! ### _law_handlers -/
abbrev s_law_handlers : Stmt := top 63
abbrev N_law_handlers : List Str := ["_law_row", "_law_names", "_law_size", "_law_found", "_law_at", "_law_begin", "_law_end"]
abbrev P_law_handlers : List Str := ["_law_row", "_law_names", "_law_size"]
theorem sc_law_handlers : FnScope N_law_handlers P_law_handlers (C8.fnScope s_law_handlers) := C8.fnScope_by (by decide +kernel)
def t_law_handlers (K : Frag) : TS :=
    (tSeq (tAsg (tLst tNil) (gName 3))
    (tSeq (tFor (iRng1 (tCons (tCall (sp_law_pick K) [] C8.E0 (tCons (tVar 0) (tCons (tLst (tCons (tC (.int 0)) (tCons (tC (.int 0)) (tCons (tC (.int 1)) (tCons (tC (.int 2)) tNil))))) tNil))) tNil)) (gName 4) (tSeq (tAsg (tCall (sp_law_taken K) [] C8.E0 (tCons (tVar 0) (tCons (tVar 2) tNil))) (gName 5))
    (tSeq (tAsg (tOp rAdd (tOp rAdd (tVar 5) (tC (.int 1))) (tCall (sp_law_taken K) [] C8.E0 (tCons (tVar 0) (tCons (tOp rSub (tVar 2) (tVar 5)) tNil)))) (gName 6))
    (tDrop (tBM K "list" rAppend (tVar 3) (tCons (tTup (tCons (tVar 5) (tCons (tVar 6) (tCons (tCall (sp_law_pick K) [] C8.E0 (tCons (tVar 0) (tCons (tOp rCat (tLst (tCons (tC (.str "top")) (tCons (tC (.str "top")) tNil))) (tVar 1)) tNil))) (tCons (tCall (sp_law_taken K) [] C8.E0 (tCons (tVar 0) (tCons (tVar 2) tNil))) tNil))))) tNil))))))
    (tRet (tCB (rTupOf K) (tCons (tVar 3) tNil)))))
/-! ### _law_bare -/
abbrev s_law_bare : Stmt := top 64
abbrev N_law_bare : List Str := ["_law_row", "_law_most", "_law_tree_here", "_law_signs_here", "_law_names", "_law_found", "_law_many", "_law_name", "_law_upper", "_law_fields", "_law_at", "_law_methods", "_law_told", "_law_word"]
abbrev P_law_bare : List Str := ["_law_row", "_law_most"]
theorem sc_law_bare : FnScope N_law_bare P_law_bare (C8.fnScope s_law_bare) := C8.fnScope_by (by decide +kernel)
def t_law_bare (K : Frag) : TS :=
    (tSeq (tAsg (tCall (sp_law_tree K) [] C8.E0 (tCons (tVar 0) (tCons (tOp rAdd (tC (.int 1)) (tCall (sp_law_taken K) [] C8.E0 (tCons (tVar 0) (tCons (tVar 1) tNil)))) tNil))) (gName 2))
    (tSeq (tPar3 4 5 6 (tCons (tLc (iAny K (tVar 2)) (gName 12) tYes (tOp (rIx K) (tVar 12) (tC (.int 0))) [12]) (tCons (tLst tNil) (tCons (tC (.int 0)) tNil))))
    (tSeq (tAsg (tCall (sp_law_signs K) [] C8.E0 (tCons (tVar 0) (tCons (tVar 4) tNil))) (gName 3))
    (tSeq (tFor (iAny K (tVar 2)) (gTup K 2 (gCons (gName 7) (gCons (gName 8) gNil))) (tSeq (tAsg (tLst tNil) (gName 9))
    (tSeq (tFor (iRng1 (tCons (tCall (sp_law_taken K) [] C8.E0 (tCons (tVar 0) (tCons (tC (.int 3)) tNil))) tNil)) (gName 10) (tSeq (tDrop (tBM K "list" rAppend (tVar 9) (tCons (tTup (tCons (tOp rAddSt (tC (.str "f")) (tOp (rIx K) (tC (.str "abcdefghijklmnopqrstuvwx")) (tVar 6))) (tCons (tCall (sp_law_pick K) [] C8.E0 (tCons (tVar 0) (tCons (tOp rCat (tLst (tCons (tC (.str "num")) (tCons (tC (.str "num")) (tCons (tC (.str "top")) tNil)))) (tVar 4)) tNil))) tNil))) tNil)))
    (tAsg (tOp rAdd (tVar 6) (tC (.int 1))) (gName 6))))
    (tSeq (tAsg (tLc (iAny K (tLst (tCons (tC (.str "ma")) (tCons (tC (.str "mb")) (tCons (tC (.str "mc")) tNil))))) (gName 13) (tTest (tOp rEq (tCall (sp_law_taken K) [] C8.E0 (tCons (tVar 0) (tCons (tC (.int 2)) tNil))) (tC (.int 0)))) (tOp (rCatA K) (tTup (tCons (tVar 13) tNil)) (tDGet (tVar 3) (tVar 13))) [13]) (gName 11))
    (tDrop (tBM K "list" rAppend (tVar 5) (tCons (tTup (tCons (tVar 7) (tCons (tVar 8) (tCons (tCB (rTupOf K) (tCons (tVar 9) tNil)) (tCons (tCB (rTupOf K) (tCons (tVar 11) tNil)) tNil))))) tNil)))))))
    (tRet (tVar 5))))))
/-! ### _law_classes -/
abbrev s_law_classes : Stmt := top 65
abbrev N_law_classes : List Str := ["_law_row", "_law_most", "_law_steps", "_law_names", "_law_bare_here", "_law_found", "_law_name", "_law_upper", "_law_fields", "_law_methods", "_law_whole", "_law_told", "_law_word", "_law_ins", "_law_out", "_law_code_here"]
abbrev P_law_classes : List Str := ["_law_row", "_law_most", "_law_steps"]
theorem sc_law_classes : FnScope N_law_classes P_law_classes (C8.fnScope s_law_classes) := C8.fnScope_by (by decide +kernel)
def t_law_classes (K : Frag) : TS :=
    (tSeq (tPar 4 5 (tCons (tCall (sp_law_bare K) [] C8.E0 (tCons (tVar 0) (tCons (tVar 1) tNil))) (tCons (tLst tNil) tNil)))
    (tSeq (tAsg (tLc (iAny K (tVar 4)) (gName 11) tYes (tOp (rIx K) (tVar 11) (tC (.int 0))) [11]) (gName 3))
    (tSeq (tFor (iAny K (tVar 4)) (gTup K 4 (gCons (gName 6) (gCons (gName 7) (gCons (gName 8) (gCons (gName 9) gNil))))) (tSeq (tAsg (tLst tNil) (gName 10))
    (tSeq (tFor (iAny K (tVar 9)) (gTup K 3 (gCons (gName 12) (gCons (gName 13) (gCons (gName 14) gNil)))) (tSeq (tAsg (tCall (sp_law_code K) [] C8.E0 (tCons (tVar 0) (tCons (tVar 4) (tCons (tVar 2) tNil)))) (gName 15))
    (tDrop (tBM K "list" rAppend (tVar 10) (tCons (tTup (tCons (tVar 12) (tCons (tVar 13) (tCons (tVar 14) (tCons (tVar 15) (tCons (tCall (sp_law_handlers K) [] C8.E0 (tCons (tVar 0) (tCons (tVar 3) (tCons (tCB (rLen K) (tCons (tVar 15) tNil)) tNil)))) tNil)))))) tNil)))))
    (tDrop (tBM K "list" rAppend (tVar 5) (tCons (tTup (tCons (tVar 6) (tCons (tVar 7) (tCons (tVar 8) (tCons (tCB (rTupOf K) (tCons (tVar 10) tNil)) tNil))))) tNil))))))
    (tRet (tCB (rTupOf K) (tCons (tVar 5) tNil))))))
/-! ### _law_wordy -/
abbrev s_law_wordy : Stmt := top 66
abbrev N_law_wordy : List Str := ["_law_row", "_law_most", "_law_words", "_law_found", "_law_name", "_law_upper", "_law_some", "_law_methods", "_law_word"]
abbrev P_law_wordy : List Str := ["_law_row", "_law_most"]
theorem sc_law_wordy : FnScope N_law_wordy P_law_wordy (C8.fnScope s_law_wordy) := C8.fnScope_by (by decide +kernel)
def t_law_wordy (K : Frag) : TS :=
    (tSeq (tPar 2 3 (tCons (tSl (rSlX K) (tLst (tCons (tC (.str "ma")) (tCons (tC (.str "mb")) (tCons (tC (.str "mc")) (tCons (tC (.str "md")) (tCons (tC (.str "me")) tNil)))))) tNoPart (tPart (tOp rAdd (tC (.int 1)) (tCall (sp_law_taken K) [] C8.E0 (tCons (tVar 0) (tCons (tC (.int 5)) tNil)))))) (tCons (tLst tNil) tNil)))
    (tSeq (tFor (iAny K (tCall (sp_law_tree K) [] C8.E0 (tCons (tVar 0) (tCons (tOp rAdd (tC (.int 1)) (tCall (sp_law_taken K) [] C8.E0 (tCons (tVar 0) (tCons (tVar 1) tNil)))) tNil)))) (gTup K 2 (gCons (gName 4) (gCons (gName 5) gNil))) (tSeq (tAsg (tLc (iAny K (tVar 2)) (gName 8) (tTest (tOp rEq (tCall (sp_law_taken K) [] C8.E0 (tCons (tVar 0) (tCons (tC (.int 3)) tNil))) (tC (.int 0)))) (tVar 8) [8]) (gName 6))
    (tSeq (tAsg (tIf (tTest (tOp rEq (tCall (sp_law_taken K) [] C8.E0 (tCons (tVar 0) (tCons (tC (.int 2)) tNil))) (tC (.int 0)))) (tRevA K (tVar 6)) (tVar 6)) (gName 6))
    (tSeq (tAsg (tLc (iAny K (tSl (rSlX K) (tVar 6) tNoPart (tPart (tC (.int 4))))) (gName 8) tYes (tTup (tCons (tVar 8) (tCons (tTup tNil) (tCons (tC (.str "num")) (tCons (tTup (tCons (tTup (tCons (tC (.str "push")) (tCons (tC (.int 1)) tNil))) (tCons (tTup (tCons (tC (.str "give")) tNil)) tNil))) (tCons (tTup tNil) tNil)))))) [8]) (gName 7))
    (tDrop (tBM K "list" rAppend (tVar 3) (tCons (tTup (tCons (tVar 4) (tCons (tVar 5) (tCons (tTup tNil) (tCons (tCB (rTupOf K) (tCons (tVar 7) tNil)) tNil))))) tNil)))))))
    (tRet (tCB (rTupOf K) (tCons (tVar 3) tNil)))))
/-! ### _law_up -/
abbrev s_law_up : Stmt := top 67
abbrev N_law_up : List Str := ["_law_classes_here", "_law_name", "_law_told"]
abbrev P_law_up : List Str := ["_law_classes_here", "_law_name"]
theorem sc_law_up : FnScope N_law_up P_law_up (C8.fnScope s_law_up) := C8.fnScope_by (by decide +kernel)
def t_law_up (K : Frag) : TS :=
    (tRet (tOp rCat (tLc (iAny K (tCall (sp_law_row_of K) [] C8.E0 (tCons (tVar 0) (tCons (tVar 1) tNil)))) (gName 2) tYes (tOp (rIx K) (tVar 2) (tC (.int 0))) [2]) (tLst (tCons (tC (.str "top")) tNil))))
/-! ### _law_near -/
abbrev s_law_near : Stmt := top 68
abbrev N_law_near : List Str := ["_law_classes_here", "_law_name", "_law_word", "_law_told", "_law_words", "_law_method"]
abbrev P_law_near : List Str := ["_law_classes_here", "_law_name", "_law_word"]
theorem sc_law_near : FnScope N_law_near P_law_near (C8.fnScope s_law_near) := C8.fnScope_by (by decide +kernel)
def t_law_near (K : Frag) : TS :=
    (tSeq (tFor (iAny K (tCall (sp_law_row_of K) [] C8.E0 (tCons (tVar 0) (tCons (tVar 1) tNil)))) (gName 3) (tSeq (tAsg (tLc (iAny K (tOp (rIx K) (tVar 3) (tC (.int 3)))) (gName 5) tYes (tOp (rIx K) (tVar 5) (tC (.int 0))) [5]) (gName 4))
    (tIfS (tTest (tOp (rIn K false) (tVar 2) (tVar 4))) (tRet (tTup (tCons (tOp (rIx K) (tVar 3) (tC (.int 0))) (tCons (tBM K "list" (rIndex K) (tVar 4) (tCons (tVar 2) tNil)) tNil)))) tNext)))
    (tRet (tC .non)))
/-! Drawing: what may come of an expression that draws. -/
theorem Gx.mut {S : List Addr} {H H' : Hp} {p : Addr} {o : HO} (g : Gx S H H') (h : H p = none) : Gx S H (L2.upd H' p o) :=
  ⟨fun a u n e => by rw [upd_ne (ne_of_none e h)]; exact g.keep a u n e, fun a xs e => by rw [upd_ne (ne_of_none e h)]; exact g.kt.tup a xs e, fun a u v e => by rw [upd_ne (ne_of_none e h)]; exact g.kt.frz a u v e⟩
section
variable {K : Frag} {R : Scr} {H H' H0 : Hp} {p : Addr}
theorem RowAt.mut (h0 : RowAt K R H0) (hp : H0 p = none) (h : RowAt K R H') (g : Gx [R.r] H0 H') {o : HO} : RowAt K R (L2.upd H' p o) := by
  obtain ⟨⟨i, s, t, h1, h2⟩, h3⟩ := h
  refine ⟨⟨i, s, t, ?_, h2⟩, h0.scr.gx (g.mut hp)⟩
  rw [upd_ne (h0.ne hp)]
  exact h1
end
/-- a list that stands as a list -/
def EvM (K : Frag) (te : TE) (σ : L2.St) (H : Hp) (ds : List PyData) : Prop := ∀ H1, Same H H1 → ∀ Q : VK, (∀ a xs H2, Same H1 H2 → H2 a = some (.lst xs) → Tds K H2 xs ds → Q (.ref a) H2) → te σ H1 Q
section
variable {K : Frag} {R : Scr} {σ : L2.St} {H H' : Hp} {ta tb tc te tl : TE} {tr : TA} {t u tt : TT} {d e : PyData} {ds es : List PyData} {b c : Bool} {P P1 P2 : PyData → Prop} {PA PB : List PyData → Prop} {D : Ends} {tz tu tw : TS} {gt : TG}
theorem EvN.m (h : EvN K te σ H ds) : EvM K te σ H ds := fun H1 a Q q => h H1 a Q fun p xs H2 _ e2 hp t => q p xs H2 e2 hp t
theorem em_var {i : Nat} {a : Addr} {S : List Addr} (h : σ[i]? = some (some (.ref a))) (l : Lg K S H a ds) : EvM K (tVar i) σ H ds := fun H1 e Q q => by
  obtain ⟨_, xs, h1, h2⟩ := l.same e
  exact ⟨_, h, q a xs H1 (Same.refl H1) h1 h2⟩
theorem en_catM (h : EvM K ta σ H ds) (h2 : EvM K tb σ H es) (hl : ds.length + es.length ≤ 100000) : EvN K (tOp rCat ta tb) σ H (ds ++ es) := fun H1 a Q q =>
  h H1 a _ fun p xs H2 e2 hp tp => h2 H2 (a.trans e2) _ fun r ys H3 e3 hr tr =>
    ⟨p, r, xs, ys, rfl, rfl, e3 _ _ hp, hr, by rw [tp.len, tr.len]; exact sz100 hl, fun l hl => q l _ _ (e2.free (e3.free hl)) ((e2.trans e3).trans (Same.new hl)) upd_same (((tp.ex e3).append tr).ex (Same.new hl))⟩
/-- what may come: a thing | a list apart from the row | a new list | arguments | a truth value -/
def EvX (K : Frag) (R : Scr) (te : TE) (σ : L2.St) (H : Hp) (P : PyData → Prop) : Prop := ∀ H1, Gx [R.r] H H1 → RowAt K R H1 → ∀ Q : VK, (∀ v d H2, Gx [R.r] H1 H2 → RowAt K R H2 → Td K H2 v d → P d → Q v H2) → te σ H1 Q
def EvXL (K : Frag) (R : Scr) (te : TE) (σ : L2.St) (H : Hp) (P : List PyData → Prop) : Prop := ∀ H1, Gx [R.r] H H1 → RowAt K R H1 → ∀ Q : VK, (∀ a ds H2, Gx [R.r] H1 H2 → RowAt K R H2 → Lg K [R.r] H2 a ds → P ds → Q (.ref a) H2) → te σ H1 Q
def EvXN (K : Frag) (R : Scr) (te : TE) (σ : L2.St) (H : Hp) (P : List PyData → Prop) : Prop := ∀ H1, Gx [R.r] H H1 → RowAt K R H1 → ∀ Q : VK, (∀ a xs ds H2, H1 a = none → Gx [R.r] H1 H2 → RowAt K R H2 → H2 a = some (.lst xs) → Tds K H2 xs ds → P ds → Q (.ref a) H2) → te σ H1 Q
def EvXA (K : Frag) (R : Scr) (ta : TA) (σ : L2.St) (H : Hp) (P : List PyData → Prop) : Prop := ∀ H1, Gx [R.r] H H1 → RowAt K R H1 → ∀ Q : List V → Hp → Prop, (∀ vs ds H2, Gx [R.r] H1 H2 → RowAt K R H2 → Tds K H2 vs ds → P ds → Q vs H2) → ta σ H1 Q
def EvXT (K : Frag) (R : Scr) (tt : TT) (σ : L2.St) (H : Hp) : Prop := ∀ H1, Gx [R.r] H H1 → RowAt K R H1 → ∀ Q : Bool → Hp → Prop, (∀ b H2, Gx [R.r] H1 H2 → RowAt K R H2 → Q b H2) → tt σ H1 Q
theorem EvX.mono (h : EvX K R te σ H P1) (q : ∀ d, P1 d → P2 d) : EvX K R te σ H P2 := fun H1 g r Q k => h H1 g r Q fun v d H2 g2 r2 t p => k v d H2 g2 r2 t (q d p)
theorem EvXL.mono (h : EvXL K R te σ H PA) (q : ∀ d, PA d → PB d) : EvXL K R te σ H PB := fun H1 g r Q k => h H1 g r Q fun v d H2 g2 r2 t p => k v d H2 g2 r2 t (q d p)
theorem EvXN.mono (h : EvXN K R te σ H PA) (q : ∀ d, PA d → PB d) : EvXN K R te σ H PB := fun H1 g r Q k => h H1 g r Q fun v xs d H2 n g2 r2 a t p => k v xs d H2 n g2 r2 a t (q d p)
theorem EvXA.mono {ta : TA} (h : EvXA K R ta σ H PA) (q : ∀ d, PA d → PB d) : EvXA K R ta σ H PB := fun H1 g r Q k => h H1 g r Q fun v d H2 g2 r2 t p => k v d H2 g2 r2 t (q d p)
theorem EvXN.l (h : EvXN K R te σ H PA) : EvXL K R te σ H PA := fun H1 g r Q k => h H1 g r Q fun a xs ds H2 n g2 r2 hp t p => k a ds H2 g2 r2 (Lg.new r n hp t) p
theorem ex_pure (h : ∀ H1, Gx [R.r] H H1 → RowAt K R H1 → EvD K te σ H1 d) : EvX K R te σ H (· = d) := fun H1 g r Q k => h H1 g r H1 (Same.refl H1) Q fun v H2 e t => k v d H2 (Gx.of e) (r.ex e) t rfl
theorem ex_var {i : Nat} {v : V} (h : σ[i]? = some (some v)) (t : Td K H v d) : EvX K R (tVar i) σ H (· = d) := ex_pure fun H1 g _ => ed_var h (t.gx g)
theorem ex_str {x : Str} : EvX K R (tC (.str x)) σ H (· = .str x) := ex_pure fun _ _ _ => ed_str
theorem ex_int {x : Int} : EvX K R (tC (.int x)) σ H (· = .int x) := ex_pure fun _ _ _ => ed_int
theorem exn_pure (h : ∀ H1, Gx [R.r] H H1 → RowAt K R H1 → EvN K te σ H1 ds) : EvXN K R te σ H (· = ds) := fun H1 g r Q k => h H1 g r H1 (Same.refl H1) Q fun a xs H2 n e hp t => k a xs ds H2 n (Gx.of e) (r.ex e) hp t rfl
theorem exl_var {i : Nat} {a : Addr} (h : σ[i]? = some (some (.ref a))) (l : Lg K [R.r] H a ds) : EvXL K R (tVar i) σ H (· = ds) := fun H1 g r Q k => ⟨_, h, k a ds H1 (Gx.refl _ _) r (l.gx g) rfl⟩
theorem exa_nil : EvXA K R tNil σ H (· = []) := fun H1 g r Q k => k [] [] H1 (Gx.refl _ _) r .nil rfl
theorem exa_cons (h : EvX K R ta σ H P) (h2 : EvXA K R tr σ H PA) : EvXA K R (tCons ta tr) σ H (fun ds => ∃ d r, ds = d :: r ∧ P d ∧ PA r) := fun H1 g r Q k =>
  h H1 g r _ fun v d H2 g2 r2 t p => h2 H2 (g.trans g2) r2 _ fun vs ds H3 g3 r3 ts pa => k (v :: vs) (d :: ds) H3 (g2.trans g3) r3 (.cons (t.gx g3) ts) ⟨d, ds, rfl, p, pa⟩
theorem Lg.put {a p : Addr} {xs ys : List V} (h : Lg K [R.r] H a ds) (hp : H p = none) {o : HO} : Lg K [R.r] (upd H p o) a ds := h.same (Same.new hp)
theorem ex_tup {ta : TA} (h : EvXA K R ta σ H PA) (hl : ∀ ds, PA ds → ds.length ≤ 100000) : EvX K R (tTup ta) σ H (fun d => ∃ ds, d = .tuple ds ∧ PA ds) := fun H1 g r Q k =>
  h H1 g r _ fun vs ds H2 g2 r2 t p => ⟨by rw [t.len]; exact sz100 (hl ds p), fun a ha => k (.ref a) (.tuple ds) _ (g2.trans (Gx.of (Same.new ha))) (r2.ex (Same.new ha)) (.tup (.of upd_same) (t.ex (Same.new ha))) ⟨ds, rfl, p⟩⟩
theorem exn_lst {ta : TA} (h : EvXA K R ta σ H PA) (hl : ∀ ds, PA ds → ds.length ≤ 100000) : EvXN K R (tLst ta) σ H PA := fun H1 g r Q k =>
  h H1 g r _ fun vs ds H2 g2 r2 t p => ⟨by rw [t.len]; exact sz100 (hl ds p), fun a ha => k a vs ds _ (by
    cases hn : H1 a with
    | none => rfl
    | some o =>
      by_cases e : a = R.r
      · obtain ⟨⟨i, s, t, h1, _⟩, _⟩ := r2
        rw [e, h1] at ha
        cases ha
      · rw [g2.keep a o (by simpa using e) hn] at ha
        cases ha) (g2.trans (Gx.of (Same.new ha))) (r2.ex (Same.new ha)) upd_same (t.ex (Same.new ha)) p⟩
/-- two ints -/
theorem ex_I0 {f : Int → Int → V} {g : Int → Int → PyData} {A B : Int → Prop} (h : EvX K R ta σ H (fun d => ∃ i, d = .int i ∧ A i)) (h2 : EvX K R tb σ H (fun d => ∃ i, d = .int i ∧ B i)) (hf : ∀ i j H, Td K H (f i j) (g i j)) :
    EvX K R (tOp (rI0 f) ta tb) σ H (fun d => ∃ i j, d = g i j ∧ A i ∧ B j) := fun H1 g1 r Q k =>
  h H1 g1 r _ fun v d H2 g2 r2 t ⟨i, e, pi⟩ => h2 H2 (g1.trans g2) r2 _ fun w d2 H3 g3 r3 t2 ⟨j, e2, pj⟩ => by
    subst e e2
    have e1 := t.intI
    have e4 := t2.intI
    subst e1 e4
    exact ⟨i, j, rfl, rfl, k _ _ H3 (g2.trans g3) r3 (hf i j H3) ⟨i, j, rfl, pi, pj⟩⟩
theorem ex_I {C : Int → Int → Prop} {f : Int → Int → V} {g : Int → Int → PyData} {A B : Int → Prop} (h : EvX K R ta σ H (fun d => ∃ i, d = .int i ∧ A i)) (h2 : EvX K R tb σ H (fun d => ∃ i, d = .int i ∧ B i)) (hc : ∀ i j, A i → B j → C i j) (hf : ∀ i j H, Td K H (f i j) (g i j)) :
    EvX K R (tOp (rI C f) ta tb) σ H (fun d => ∃ i j, d = g i j ∧ A i ∧ B j) := fun H1 g1 r Q k =>
  h H1 g1 r _ fun v d H2 g2 r2 t ⟨i, e, pi⟩ => h2 H2 (g1.trans g2) r2 _ fun w d2 H3 g3 r3 t2 ⟨j, e2, pj⟩ => by
    subst e e2
    have e1 := t.intI
    have e4 := t2.intI
    subst e1 e4
    exact ⟨i, j, rfl, rfl, hc i j pi pj, k _ _ H3 (g2.trans g3) r3 (hf i j H3) ⟨i, j, rfl, pi, pj⟩⟩
/-- _law_taken(row, m), _law_pick(row, things) -/
theorem ex_taken {i : Nat} {A : Int → Prop} (hv : σ[i]? = some (some (.ref R.r))) (h : EvX K R tb σ H (fun d => ∃ m, d = .int m ∧ A m)) (ha : ∀ m, A m → 0 < m ∧ m < 1000000) : EvX K R (tCall (sp_law_taken K) [] C8.E0 (tCons (tVar i) (tCons tb tNil))) σ H (fun d => ∃ m k, d = .int k ∧ A m ∧ 0 ≤ k ∧ k < m) := fun H1 g1 r Q k =>
  ⟨_, hv, h H1 g1 r _ fun v d H2 g2 r2 t ⟨m, e, pm⟩ => by
    subst e
    have e1 := t.intI
    subst e1
    obtain ⟨h1, h2⟩ := ha m pm
    exact ⟨R, m, rfl, r2, h1, h2, fun v d H' g' w t ⟨k', e, a, b⟩ => k v d H' (g2.trans g') w t ⟨m, k', e, pm, a, b⟩⟩⟩
theorem ex_takenC {i : Nat} {m : Int} (hv : σ[i]? = some (some (.ref R.r))) (h : ∀ H1, Gx [R.r] H H1 → RowAt K R H1 → EvD K tb σ H1 (.int m)) (h1 : 0 < m) (h2 : m < 1000000) : EvX K R (tCall (sp_law_taken K) [] C8.E0 (tCons (tVar i) (tCons tb tNil))) σ H (InR m) :=
  (ex_taken (A := (· = m)) hv ((ex_pure h).mono fun d e => ⟨m, e, rfl⟩) fun m' e => by subst e; exact ⟨h1, h2⟩).mono fun d ⟨m', k, e, em, a, b⟩ => ⟨k, e, a, by subst em; exact b⟩
theorem ex_pick {i : Nat} (hv : σ[i]? = some (some (.ref R.r))) (h : EvXL K R tb σ H PA) (hp : ∀ ds, PA ds → ds ≠ [] ∧ ds.length < 100000 ∧ ∀ d ∈ ds, P d) : EvX K R (tCall (sp_law_pick K) [] C8.E0 (tCons (tVar i) (tCons tb tNil))) σ H P := fun H1 g1 r Q k =>
  ⟨_, hv, h H1 g1 r _ fun a ds H2 g2 r2 l pa => by
    obtain ⟨h1, h2, h3⟩ := hp ds pa
    exact ⟨R, a, ds, rfl, r2, l, h1, h2, fun v d H' g' w t p => k v d H' (g2.trans g') w t (h3 d p)⟩⟩
theorem exn_cat (h : EvXL K R ta σ H PA) (h2 : EvXL K R tb σ H PB) (hl : ∀ a b, PA a → PB b → a.length + b.length ≤ 100000) : EvXN K R (tOp rCat ta tb) σ H (fun ds => ∃ a b, ds = a ++ b ∧ PA a ∧ PB b) := fun H1 g r Q k =>
  h H1 g r _ fun p ds H2 g2 r2 l pa => h2 H2 (g.trans g2) r2 _ fun p2 es H3 g3 r3 l3 pb => by
    obtain ⟨_, xs, hp', t⟩ := l.gx g3
    obtain ⟨_, ys, hp3, t3⟩ := l3
    refine ⟨p, p2, xs, ys, rfl, rfl, hp', hp3, by rw [t.len, t3.len]; exact sz100 (hl ds es pa pb), fun l hl2 => k l _ (ds ++ es) _ ?_ ((g2.trans g3).trans (Gx.of (Same.new hl2))) (r3.ex (Same.new hl2)) upd_same ((t.append t3).ex (Same.new hl2)) ⟨ds, es, rfl, pa, pb⟩⟩
    refine (g2.trans g3).free hl2 fun z => ?_
    exact r3.ne hl2 (List.mem_singleton.mp z).symm
/-- xs[i], drawn -/
theorem ex_ix {A : Int → Prop} (h : EvXL K R ta σ H PA) (h2 : EvX K R tb σ H (fun d => ∃ i, d = .int i ∧ A i)) (hp : ∀ ds i, PA ds → A i → ∃ d, atI ds i = some d ∧ P d) : EvX K R (tOp (rIx K) ta tb) σ H P := fun H1 g r Q k =>
  h H1 g r _ fun p ds H2 g2 r2 l pa => h2 H2 (g.trans g2) r2 _ fun w d2 H3 g3 r3 t2 ⟨i, e, ai⟩ => by
    subst e
    have ew := t2.intI
    subst ew
    obtain ⟨d, ed, pd⟩ := hp ds i pa ai
    obtain ⟨v, hv⟩ : ∃ v, EvD K (tOp (rIx K) (tC (.ref p)) (tC (.int i))) [] H3 d ∧ v = () := ⟨(), ed_ixL (fun H4 e4 Q q => q p H4 (Same.refl H4) ((l.gx g3).ls.ex e4)) ed_int ed, rfl⟩
    exact hv.1 H3 (Same.refl H3) _ fun v H4 e4 t4 => k v d H4 ((g2.trans g3).trans (Gx.of e4)) (r3.ex e4) t4 pd
theorem q_par3 {i j l : Nat} (h : ta σ H fun u H1 => tb σ H1 fun v H2 => tc σ H2 fun w H3 => ∃ u' v' w', [u, v, w] = [u', v', w'] ∧ tz D (((σ.set i (some u')).set j (some v')).set l (some w')) H3) : tSeq (tPar3 i j l (tCons ta (tCons tb (tCons tc tNil)))) tz D σ H := h
theorem q_par {i j : Nat} (h : ta σ H fun u H1 => tb σ H1 fun v H2 => ∃ u' v', [u, v] = [u', v'] ∧ tz D ((σ.set i (some u')).set j (some v')) H2) : tSeq (tPar i j (tCons ta (tCons tb tNil))) tz D σ H := h
theorem Gx.updD {S : List Addr} {p : Addr} {xs ys : List (Key × V)} {H1 : Hp} (g : Gx S H H1) (hp : p ∈ S) (h : H1 p = some (.dK xs)) : Gx S H (L2.upd H1 p (.dK ys)) := by
  refine g.trans ⟨fun a o n e => ?_, ⟨fun a zs e => ?_, fun a o u e => ?_⟩⟩
  · rw [upd_ne (fun z => n (by rw [z]; exact hp))]
    exact e
  · rw [upd_ne (ne_of e h (by intro z; cases z))]
    exact e
  · rw [upd_ne (ne_of e h (by intro z; cases z))]
    exact e
theorem Gx.up {S : List Addr} {H1 : Hp} (g : Gx S H H1) {S' : List Addr} (h : ∀ a ∈ S, a ∈ S') : Gx S' H H1 := g.mono h
theorem Gx.upL {r p : Addr} {H1 : Hp} (g : Gx [r] H H1) : Gx [r, p] H H1 := g.mono fun a ha => by simp [List.mem_singleton.mp ha]
/-- tuple(xs) -/
theorem ex_tupOf (h : EvXL K R ta σ H PA) : EvX K R (tCB (rTupOf K) (tCons ta tNil)) σ H (fun d => ∃ ds, d = .tuple ds ∧ PA ds) := fun H1 g r Q k =>
  h H1 g r _ fun p ds H2 g2 r2 l pa => by
    obtain ⟨_, xs, h1, ts⟩ := l
    exact ⟨p, xs, rfl, .inl ⟨.of h1, fun a ha => k (.ref a) (.tuple ds) _ (g2.trans (Gx.of (Same.new ha))) (r2.ex (Same.new ha)) (.tup (.of upd_same) (ts.ex (Same.new ha))) ⟨ds, rfl, pa⟩⟩⟩
/-- tests -/
theorem ext_test (h : EvX K R te σ H (fun d => ∃ b, d = .bool b)) : EvXT K R (tTest te) σ H := fun H1 g r Q k => h H1 g r _ fun v d H2 g2 r2 t ⟨b, e⟩ => by
  subst e
  exact ⟨b, t.blI, k b H2 g2 r2⟩
theorem ex_eqI (h : EvX K R ta σ H (fun d => ∃ i, d = .int i)) (h2 : EvX K R tb σ H (fun d => ∃ i, d = .int i)) : EvX K R (tOp rEq ta tb) σ H (fun d => ∃ b, d = .bool b) := fun H1 g1 r Q k =>
  h H1 g1 r _ fun v d H2 g2 r2 t ⟨i, e⟩ => h2 H2 (g1.trans g2) r2 _ fun w d2 H3 g3 r3 t2 ⟨j, e2⟩ => by
    subst e e2
    have e1 := t.intI
    have e4 := t2.intI
    subst e1 e4
    exact ⟨rfl, k _ _ H3 (g2.trans g3) r3 (.bl _) ⟨_, rfl⟩⟩
/-! statements -/
theorem s_setX {i : Nat} (h : EvX K R te σ H P) (r : RowAt K R H) (k : ∀ v d H1, Gx [R.r] H H1 → RowAt K R H1 → Td K H1 v d → P d → D.nx (σ.set i (some v)) H1) : tAsg te (gName i) D σ H := h H (Gx.refl _ _) r _ k
theorem q_setX {i : Nat} (h : EvX K R te σ H P) (r : RowAt K R H) (k : ∀ v d H1, Gx [R.r] H H1 → RowAt K R H1 → Td K H1 v d → P d → tz D (σ.set i (some v)) H1) : tSeq (tAsg te (gName i)) tz D σ H := h H (Gx.refl _ _) r _ k
theorem q_setXL {i : Nat} (h : EvXL K R te σ H PA) (r : RowAt K R H) (k : ∀ a ds H1, Gx [R.r] H H1 → RowAt K R H1 → Lg K [R.r] H1 a ds → PA ds → tz D (σ.set i (some (.ref a))) H1) : tSeq (tAsg te (gName i)) tz D σ H := h H (Gx.refl _ _) r _ k
theorem q_setXN {i : Nat} (h : EvXN K R te σ H PA) (r : RowAt K R H) (k : ∀ a xs ds H1, H a = none → Gx [R.r] H H1 → RowAt K R H1 → H1 a = some (.lst xs) → Tds K H1 xs ds → PA ds → tz D (σ.set i (some (.ref a))) H1) : tSeq (tAsg te (gName i)) tz D σ H := h H (Gx.refl _ _) r _ k
theorem s_retX (h : EvX K R te σ H P) (r : RowAt K R H) (k : ∀ v d H1, Gx [R.r] H H1 → RowAt K R H1 → Td K H1 v d → P d → D.rt v H1) : tRet te D σ H := h H (Gx.refl _ _) r _ k
/-- l.append(drawn) -/
theorem s_appX {l : Addr} {i : Nat} {xs : List V} (hv : σ[i]? = some (some (.ref l))) (hl : H l = some (.lst xs)) (hn : l ≠ R.r) (h : EvX K R te σ H P) (r : RowAt K R H) (hz : xs.length < 100000)
    (k : ∀ v d H1, Gx [R.r] H H1 → RowAt K R H1 → H1 l = some (.lst xs) → Td K H1 v d → P d → D.nx σ (upd H1 l (.lst (xs ++ [v])))) : tDrop (tBM K "list" rAppend (tVar i) (tCons te tNil)) D σ H :=
  ⟨_, hv, .inl ⟨rfl, _, .of hl⟩, h H (Gx.refl _ _) r _ fun v d H2 g2 r2 t p => by
    have h2 := g2.keep l _ (by simpa using hn) hl
    exact ⟨l, xs, v, rfl, rfl, h2, Nat.lt_of_lt_of_le hz (by decide), k v d H2 g2 r2 h2 t p⟩⟩
/-- for i in range(drawn) -/
theorem s_forRX {j : Nat} {A : Int → Prop} (h : EvX K R te σ H (fun d => ∃ n, d = .int n ∧ A n)) (r : RowAt K R H) (hA : ∀ n, A n → 0 ≤ n ∧ n < 100000) (Pv : Nat → Nat → L2.St → Hp → Prop)
    (h0 : ∀ n H1, A (n : Nat) → Gx [R.r] H H1 → RowAt K R H1 → Pv n 0 σ H1)
    (hs : ∀ (n i : Nat) σ' H' (N : L2.St → Hp → Prop), A (n : Nat) → i < n → Pv n i σ' H' → (∀ σ3 H3, Pv n (i + 1) σ3 H3 → N σ3 H3) → tu { D with nx := N, ct := N, bk := D.nx } (σ'.set j (some (.int (i : Int)))) H')
    (hd : ∀ n σ' H', A (n : Nat) → Pv n n σ' H' → D.nx σ' H') : tFor (iRng1 (tCons te tNil)) (gName j) tu D σ H :=
  h H (Gx.refl _ _) r _ fun v d H1 g1 r1 t ⟨n, e, pn⟩ => by
    subst e
    have ev := t.intI
    subst ev
    obtain ⟨z1, z2⟩ := hA n pn
    obtain ⟨m, rfl⟩ := Int.eq_ofNat_of_zero_le z1
    refine ⟨(m : Int), rfl, by omega, by omega, for_range (lo := 0) (n := (m : Int).toNat) (Pv m) (h0 m H1 pn g1 r1) (fun i σ' H' hi p => ?_) fun σ' H' p => hd m σ' H' pn (by simpa using p)⟩
    have e0 : (0 : Int) + (i : Int) = (i : Int) := Int.zero_add _
    rw [e0]
    exact hs m i σ' H' _ pn (by simpa using hi) p fun _ _ z => z
theorem q_forRX {j : Nat} {A : Int → Prop} (h : EvX K R te σ H (fun d => ∃ n, d = .int n ∧ A n)) (r : RowAt K R H) (hA : ∀ n, A n → 0 ≤ n ∧ n < 100000) (Pv : Nat → Nat → L2.St → Hp → Prop)
    (h0 : ∀ n H1, A (n : Nat) → Gx [R.r] H H1 → RowAt K R H1 → Pv n 0 σ H1)
    (hs : ∀ (n i : Nat) σ' H' (N : L2.St → Hp → Prop), A (n : Nat) → i < n → Pv n i σ' H' → (∀ σ3 H3, Pv n (i + 1) σ3 H3 → N σ3 H3) → tu { D with nx := N, ct := N, bk := tz D } (σ'.set j (some (.int (i : Int)))) H')
    (hd : ∀ n σ' H', A (n : Nat) → Pv n n σ' H' → tz D σ' H') : tSeq (tFor (iRng1 (tCons te tNil)) (gName j) tu) tz D σ H := s_forRX (D := { D with nx := tz D }) h r hA Pv h0 hs hd
/-! comprehensions that draw -/
def Cz (K : Frag) (R : Scr) (H : Hp) (Dl : Addr) (PA : List PyData → Prop) (H' : Hp) : Prop := Gx [R.r] H H' ∧ RowAt K R H' ∧ ∃ ys es, H' Dl = some (.lst ys) ∧ Tds K H' ys es ∧ PA es
/-- [drawn for _ in range(drawn)] -/
theorem exn_lcR {j : Nat} {vs : List Nat} {A : Int → Prop} (h : EvX K R tl σ H (fun d => ∃ n, d = .int n ∧ A n)) (hA : ∀ n, A n → 0 ≤ n ∧ n < 40000) (hw : ∀ x, wipe ((wipe σ vs).set j (some x)) vs = wipe σ vs)
    (he : ∀ x H1, Gx [R.r] H H1 → RowAt K R H1 → EvX K R te ((wipe σ vs).set j (some x)) H1 P) :
    EvXN K R (tLc (iRng1 (tCons tl tNil)) (gName j) tYes te vs) σ H (fun ds => A (ds.length : Int) ∧ ∀ d ∈ ds, P d) := fun H0 g r Q k => h H0 g r _ fun v d H1 g1 r1 t ⟨n, e, pn⟩ => by
  subst e
  have ev := t.intI
  subst ev
  obtain ⟨z1, z2⟩ := hA n pn
  obtain ⟨m, rfl⟩ := Int.eq_ofNat_of_zero_le z1
  refine ⟨(m : Int), rfl, by omega, by omega, fun Dl hD => lc_it (walk_range (lo := 0) (n := (m : Int).toNat)) (fun i H' => Cz K R H1 Dl (fun ds => ds.length = i ∧ ∀ d ∈ ds, P d) H') ⟨Gx.of (Same.new hD), r1.ex (Same.new hD), [], [], upd_same, .nil, rfl, by simp⟩ (fun _ _ _ _ => trivial) (fun i y H' H2 hi c yl => ?_) fun H' c => ?_⟩
  · obtain ⟨rfl, rfl⟩ := yl
    refine ⟨hw _, ?_⟩
    dsimp only [tYes]
    rw [if_pos rfl]
    obtain ⟨c1, c2, ys, es, c3, c4, c5, c6⟩ := c
    refine he _ _ (g.trans (g1.trans c1)) c2 _ (Gx.refl _ _) c2 _ fun y d H4 g4 r4 t4 p4 => ?_
    have h4 : H4 Dl = some (.lst ys) := g4.keep _ _ (by simpa using fun z => r1.ne hD z.symm) c3
    refine ⟨ys, h4, lst_len c4 (by simp at hi; omega), (c1.trans g4).mut hD, r1.mut hD r4 (c1.trans g4), ys ++ [y], es ++ [d], upd_same, ?_, ?_, ?_⟩
    · exact ((c4.gx g4).snoc t4).kt (KT.put h4)
    · rw [List.length_append, c5]
      rfl
    · intro d' hd'
      rcases List.mem_append.mp hd' with z | z
      · exact c6 d' z
      · rw [List.mem_singleton.mp z]
        exact p4
  · obtain ⟨c1, c2, ys, es, c3, c4, c5, c6⟩ := c
    refine k Dl ys es H' (g1.free hD fun z => r1.ne hD (List.mem_singleton.mp z).symm) (g1.trans c1) c2 c3 c4 ⟨?_, c6⟩
    rw [c5]
    simpa using pn
/-- [f x for x in xs if drawn] -/
theorem exn_lcF {j : Nat} {vs : List Nat} (f : PyData → PyData) (h : EvXL K R tl σ H (· = ds)) (hz : ds.length ≤ 40000) (hw : ∀ x, wipe ((wipe σ vs).set j (some x)) vs = wipe σ vs)
    (ht : ∀ x d H1, Gx [R.r] H H1 → RowAt K R H1 → d ∈ ds → Td K H1 x d → EvXT K R tt ((wipe σ vs).set j (some x)) H1)
    (he : ∀ x d H1, Gx [R.r] H H1 → RowAt K R H1 → d ∈ ds → Td K H1 x d → EvD K te ((wipe σ vs).set j (some x)) H1 (f d)) :
    EvXN K R (tLc (iAny K tl) (gName j) tt te vs) σ H (fun es => ∃ ds', List.Sublist ds' ds ∧ es = ds'.map f) := fun H0 g r Q k => h H0 g r _ fun a ds1 H1 g1 r1 l eds => by
  subst eds
  have l0 := l
  obtain ⟨na, xs, ha, ts⟩ := l
  refine ⟨a, rfl, .inl ⟨⟨xs, .of ha⟩, fun Dl hD => lc_it (walk_list (K := K) (a := a) (xs := xs)) (fun i H' => Cz K R H1 Dl (fun es => ∃ ds', List.Sublist ds' (ds1.take i) ∧ es = ds'.map f) H') ⟨Gx.of (Same.new hD), r1.ex (Same.new hD), [], [], upd_same, .nil, [], by simp, rfl⟩ (fun i H' _ c => .of (c.1.keep _ _ na ha)) (fun i y H' H2 hi c yl => ?_) fun H' c => ?_⟩⟩
  · obtain ⟨rfl, hy⟩ := yl
    obtain ⟨d, hd, td⟩ := ts.at_ hy
    have hm : d ∈ ds1 := List.mem_of_getElem? hd
    refine ⟨hw _, ?_⟩
    obtain ⟨c1, c2, ys, es, c3, c4, ds', c5, c6⟩ := c
    have nD : Dl ∉ [R.r] := by simpa using fun z => r1.ne hD z.symm
    have hsl : es.length ≤ 50000 := by
      rw [c6, List.length_map]
      have := c5.length_le
      rw [List.length_take] at this
      omega
    refine ht y d _ (g.trans (g1.trans c1)) c2 hm (td.gx c1) _ (Gx.refl _ _) c2 _ fun b H3 g3 r3 => ?_
    have h3 := g3.keep _ _ nD c3
    cases b with
    | false =>
      refine iteF ⟨c1.trans g3, r3, ys, es, h3, c4.gx g3, ds', c5.trans (List.take_sublist_take_left (Nat.le_succ i)), c6⟩
    | true =>
      refine iteT (he y d _ (g.trans (g1.trans (c1.trans g3))) r3 hm (td.gx (c1.trans g3)) _ (Same.refl _) _ fun z H4 e4 t4 => ?_)
      have h4 := e4 _ _ h3
      refine ⟨ys, h4, lst_len c4 hsl, ((c1.trans g3).trans (Gx.of e4)).mut hD, r1.mut hD (r3.ex e4) ((c1.trans g3).trans (Gx.of e4)), ys ++ [z], es ++ [f d], upd_same, ?_, ds' ++ [d], ?_, ?_⟩
      · exact (((c4.gx g3).ex e4).snoc t4).kt (KT.put h4)
      · rw [take_snoc hd]
        exact c5.append (List.Sublist.refl _)
      · rw [List.map_append, c6]
        rfl
  · obtain ⟨c1, c2, ys, es, c3, c4, ds', c5, c6⟩ := c
    refine k Dl ys es H' (g1.free hD fun z => r1.ne hD (List.mem_singleton.mp z).symm) (g1.trans c1) c2 c3 c4 ⟨ds', ?_, c6⟩
    rw [ts.len, List.take_length] at c5
    exact c5
end
/-! Loops over drawn lists; targets; the classes' names. -/
section
variable {K : Frag} {R : Scr} {σ : L2.St} {H H' : Hp} {ta tb tc te tl : TE} {tr : TA} {t u tt : TT} {d e d1 d2 d3 d4 : PyData} {ds es : List PyData} {b c : Bool} {P P1 P2 : PyData → Prop} {PA PB : List PyData → Prop} {D : Ends} {tz tu tw : TS} {gt : TG}
theorem s_forX {S : List Addr} (F : Addr → List V → List PyData → Hp → Prop) (h : ∀ Q : VK, (∀ a xs ds H1, F a xs ds H1 → Q (.ref a) H1) → te σ H Q) (hF : ∀ a xs ds H1, F a xs ds H1 → H1 a = some (.lst xs) ∧ Tds K H1 xs ds ∧ a ∉ S)
    (Pv : List PyData → Hp → Nat → L2.St → Hp → Prop) (h0 : ∀ a xs ds H1, F a xs ds H1 → Pv ds H1 0 σ H1)
    (hs : ∀ a xs ds H1 i x d σ' H' (N : L2.St → Hp → Prop), F a xs ds H1 → Gx S H1 H' → ds[i]? = some d → Td K H' x d → Pv ds H1 i σ' H' → (∀ σ3 H3, Gx S H' H3 → Pv ds H1 (i + 1) σ3 H3 → N σ3 H3) →
      gt x σ' H' fun σ2 H2 => tu { D with nx := N, ct := N, bk := D.nx } σ2 H2)
    (hd : ∀ a xs ds H1 σ' H', F a xs ds H1 → Gx S H1 H' → Pv ds H1 ds.length σ' H' → D.nx σ' H') : tFor (iAny K te) gt tu D σ H :=
  h _ fun a xs ds H1 f => by
    obtain ⟨hp, ts, na⟩ := hF a xs ds H1 f
    refine ⟨a, rfl, .inl ⟨⟨xs, .of hp⟩, for_list (K := K) (a := a) (xs := xs) (fun i σ' H' => Gx S H1 H' ∧ Pv ds H1 i σ' H') ⟨Gx.refl S H1, h0 a xs ds H1 f⟩ (fun i σ' H' _ p => .of (p.1.keep _ _ na hp)) (fun i x σ' H' hx ⟨gx, p⟩ => ?_) fun σ' H' p => hd a xs ds H1 σ' H' f p.1 (by rw [← ts.len]; exact p.2)⟩⟩
    obtain ⟨d, hd', td⟩ := ts.at_ hx
    exact hs a xs ds H1 i x d σ' H' _ f gx hd' (td.gx gx) p fun σ3 H3 g3 p3 => ⟨gx.trans g3, p3⟩
theorem q_forX {S : List Addr} (F : Addr → List V → List PyData → Hp → Prop) (h : ∀ Q : VK, (∀ a xs ds H1, F a xs ds H1 → Q (.ref a) H1) → te σ H Q) (hF : ∀ a xs ds H1, F a xs ds H1 → H1 a = some (.lst xs) ∧ Tds K H1 xs ds ∧ a ∉ S)
    (Pv : List PyData → Hp → Nat → L2.St → Hp → Prop) (h0 : ∀ a xs ds H1, F a xs ds H1 → Pv ds H1 0 σ H1)
    (hs : ∀ a xs ds H1 i x d σ' H' (N : L2.St → Hp → Prop), F a xs ds H1 → Gx S H1 H' → ds[i]? = some d → Td K H' x d → Pv ds H1 i σ' H' → (∀ σ3 H3, Gx S H' H3 → Pv ds H1 (i + 1) σ3 H3 → N σ3 H3) →
      gt x σ' H' fun σ2 H2 => tu { D with nx := N, ct := N, bk := tz D } σ2 H2)
    (hd : ∀ a xs ds H1 σ' H', F a xs ds H1 → Gx S H1 H' → Pv ds H1 ds.length σ' H' → tz D σ' H') : tSeq (tFor (iAny K te) gt tu) tz D σ H := s_forX (D := { D with nx := tz D }) F h hF Pv h0 hs hd
theorem gt2 {x : V} {i j : Nat} {Q : L2.St → Hp → Prop} (h : Td K H x (.tuple [d1, d2])) (k : ∀ v1 v2, Td K H v1 d1 → Td K H v2 d2 → Q ((σ.set i (some v1)).set j (some v2)) H) : gTup K 2 (gCons (gName i) (gCons (gName j) gNil)) x σ H Q := by
  obtain ⟨T, xs, rfl, hq, ts⟩ := h.tupI
  cases ts with
  | cons t1 ts => cases ts with
    | cons t2 ts =>
      cases ts
      exact ⟨T, _, rfl, hq, rfl, _, _, rfl, _, _, rfl, rfl, k _ _ t1 t2⟩
theorem gt3 {x : V} {i j l : Nat} {Q : L2.St → Hp → Prop} (h : Td K H x (.tuple [d1, d2, d3])) (k : ∀ v1 v2 v3, Td K H v1 d1 → Td K H v2 d2 → Td K H v3 d3 → Q (((σ.set i (some v1)).set j (some v2)).set l (some v3)) H) : gTup K 3 (gCons (gName i) (gCons (gName j) (gCons (gName l) gNil))) x σ H Q := by
  obtain ⟨T, xs, rfl, hq, ts⟩ := h.tupI
  cases ts with
  | cons t1 ts => cases ts with
    | cons t2 ts => cases ts with
      | cons t3 ts =>
        cases ts
        exact ⟨T, _, rfl, hq, rfl, _, _, rfl, _, _, rfl, _, _, rfl, rfl, k _ _ _ t1 t2 t3⟩
theorem gt4 {x : V} {i j l m : Nat} {Q : L2.St → Hp → Prop} (h : Td K H x (.tuple [d1, d2, d3, d4])) (k : ∀ v1 v2 v3 v4, Td K H v1 d1 → Td K H v2 d2 → Td K H v3 d3 → Td K H v4 d4 → Q ((((σ.set i (some v1)).set j (some v2)).set l (some v3)).set m (some v4)) H) : gTup K 4 (gCons (gName i) (gCons (gName j) (gCons (gName l) (gCons (gName m) gNil)))) x σ H Q := by
  obtain ⟨T, xs, rfl, hq, ts⟩ := h.tupI
  cases ts with
  | cons t1 ts => cases ts with
    | cons t2 ts => cases ts with
      | cons t3 ts => cases ts with
        | cons t4 ts =>
          cases ts
          exact ⟨T, _, rfl, hq, rfl, _, _, rfl, _, _, rfl, _, _, rfl, _, _, rfl, rfl, k _ _ _ _ t1 t2 t3 t4⟩
/-- xs[:drawn] -/
theorem exn_slTo {A : Int → Prop} (h : EvXL K R ta σ H (· = ds)) (h2 : EvX K R tb σ H (fun d => ∃ i, d = .int i ∧ A i)) : EvXN K R (tSl (rSlX K) ta tNoPart (tPart tb)) σ H (fun es => ∃ i, A i ∧ es = cutD ds none (some i)) := fun H1 g r Q k =>
  h H1 g r _ fun p ds' H2 g2 r2 l e => h2 H2 (g.trans g2) r2 _ fun w d2 H3 g3 r3 t2 ⟨i, e2, ai⟩ => by
    subst e e2
    have ew := t2.intI
    subst ew
    obtain ⟨_, xs, hp, ts⟩ := l.gx g3
    exact ⟨i, rfl, .inl ⟨p, xs, rfl, .of hp, fun l hl => k l _ _ _ ((g2.trans g3).free hl fun z => r3.ne hl (List.mem_singleton.mp z).symm) ((g2.trans g3).trans (Gx.of (Same.new hl))) (r3.ex (Same.new hl)) upd_same ((ts.cut none (some i)).ex (Same.new hl)) ⟨i, ai, rfl⟩⟩⟩
theorem exl_rev {i : Nat} {a : Addr} (h : σ[i]? = some (some (.ref a))) (l : Lg K [R.r] H a ds) : EvXL K R (tRevA K (tVar i)) σ H (· = ds.reverse) := fun H1 g r Q k => by
  obtain ⟨_, xs, hp, ts⟩ := l.gx g
  exact ⟨_, h, a, xs, rfl, .inl ⟨.of hp, fun l hl => k l _ _ (Gx.of (Same.new hl)) (r.ex (Same.new hl)) (Lg.new r hl upd_same (ts.rev.ex (Same.new hl))) rfl⟩⟩
theorem exl_if {t : TT} (h : EvXT K R t σ H) (h1 : EvXL K R ta σ H PA) (h2 : EvXL K R tb σ H PA) : EvXL K R (tIf t ta tb) σ H PA := fun H1 g r Q k => h H1 g r _ fun b H2 g2 r2 => by
  cases b with
  | true => exact h1 H2 (g.trans g2) r2 Q fun a ds H3 g3 r3 l p => k a ds H3 (g2.trans g3) r3 l p
  | false => exact h2 H2 (g.trans g2) r2 Q fun a ds H3 g3 r3 l p => k a ds H3 (g2.trans g3) r3 l p
theorem ed_catA {x : PyData} {y : PyData} (h : EvD K ta σ H (.tuple (x :: ds))) (h2 : EvD K tb σ H (.tuple (y :: es))) (hl : ds.length + es.length ≤ 99000) : EvD K (tOp (rCatA K) ta tb) σ H (.tuple (x :: ds ++ y :: es)) := fun H1 a Q q =>
  h H1 a _ fun v H2 e2 t => h2 H2 (a.trans e2) _ fun w H3 e3 t2 => by
    obtain ⟨p, xs, rfl, hq, ts⟩ := (t.ex e3).tupI
    obtain ⟨p2, ys, rfl, hq2, ts2⟩ := t2.tupI
    refine ⟨p, p2, xs, ys, rfl, rfl, hq, hq2, ?_, fun z => ?_, fun _ z => ?_, fun _ _ l hl => q (.ref l) _ ((e2.trans e3).trans (Same.new hl)) (.tup (.of upd_same) ((ts.append ts2).ex (Same.new hl)))⟩
    · rw [ts.len, ts2.len]
      exact sz100 (by simp; omega)
    · have := ts.len
      rw [z] at this
      simp at this
    · have := ts2.len
      rw [z] at this
      simp at this
theorem ed_dGetT {w : Str} {i : Nat} {a : Addr} {kvs : List (Key × V)} {v : V} (hv : σ[i]? = some (some (.ref a))) (hd : H a = some (.dK kvs)) (h : EvD K ta σ H (.str w)) (e : valV kvs (.inr w) = some v) (t : Td K H v d) : EvD K (tDGet (tVar i) ta) σ H d := fun H1 e1 Q q =>
  ⟨_, hv, h H1 e1 _ fun u H2 e2 t1 => ⟨a, v, rfl, by rw [t1.strI, ← e]; exact DGet.k (k := .inr w) ((e1.trans e2) _ _ hd), q _ H2 e2 (t.ex (e1.trans e2))⟩⟩
/-- _law_tree(row, 1 + drawn) -/
theorem exn_tree {i : Nat} (hv : σ[i]? = some (some (.ref R.r))) (h : EvX K R tb σ H (fun d => ∃ k : Int, d = .int (1 + k) ∧ 0 ≤ k ∧ k < 8)) : EvXN K R (tCall (sp_law_tree K) [] C8.E0 (tCons (tVar i) (tCons tb tNil))) σ H (fun ds => ∃ m ts, 1 ≤ m ∧ m ≤ 8 ∧ ds = ts.map encF ∧ TreeOk m ts) := fun H1 g r Q k =>
  ⟨_, hv, h H1 g r _ fun v d H2 g2 r2 t ⟨k0, e, a, b⟩ => by
    subst e
    have ew := t.intI
    subst ew
    obtain ⟨n, rfl⟩ := Int.eq_ofNat_of_zero_le a
    refine ⟨R, 1 + n, by simp, r2, by omega, by omega, fun a xs ds H3 n3 g3 r3 hp tp ⟨ts, e, ok⟩ => ?_⟩
    exact k a xs ds H3 (g2.free n3 fun z => r2.ne n3 (List.mem_singleton.mp z).symm) (g2.trans g3) r3 hp tp ⟨1 + n, ts, by omega, by omega, e, ok⟩⟩
theorem ex_one {i j : Nat} {m : Int} (hv : σ[i]? = some (some (.ref R.r))) (hj : σ[j]? = some (some (.int m))) (h0 : 0 < m) (h1 : m < 1000000) : EvX K R (tOp rAdd (tC (.int 1)) (tCall (sp_law_taken K) [] C8.E0 (tCons (tVar i) (tCons (tVar j) tNil)))) σ H (fun d => ∃ k : Int, d = .int (1 + k) ∧ 0 ≤ k ∧ k < m) :=
  EvX.mono (ex_I0 (g := fun i j => .int (i + j)) (A := fun i => i = 1) (B := fun k => 0 ≤ k ∧ k < m) (ex_int.mono fun d e => ⟨1, e, rfl⟩) ((ex_takenC (m := m) hv (fun _ _ _ => ed_var hj (.int _)) h0 h1).mono fun d h => h) fun _ _ _ => .int _) fun d ⟨i, j, e, ei, h1, h2⟩ => ⟨j, by subst ei; exact e, h1, h2⟩
theorem ext_zero {i : Nat} {m : Int} (hv : σ[i]? = some (some (.ref R.r))) (h0 : 0 < m) (h1 : m < 1000000) : EvXT K R (tTest (tOp rEq (tCall (sp_law_taken K) [] C8.E0 (tCons (tVar i) (tCons (tC (.int m)) tNil))) (tC (.int 0)))) σ H :=
  ext_test (ex_eqI ((ex_takenC (m := m) hv (fun _ _ _ => ed_int) h0 h1).mono fun d ⟨k, e, _⟩ => ⟨k, e⟩) (ex_int.mono fun d e => ⟨0, e⟩))
end
/-! ### names -/
theorem n8_word : ∀ x ∈ names8, isWordB x = true ∧ x ∉ barredL ∧ x ≠ topS ∧ x ≠ numS := by decide +kernel
theorem n8_nodup : names8.Nodup := by decide +kernel
theorem n8_inj : ∀ j < 8, ∀ i < j, names8[i]? ≠ names8[j]? := by decide +kernel
theorem top_word : IsWord topS := lit_word (by decide +kernel)
theorem num_word : IsWord numS := lit_word (by decide +kernel)
theorem tree_cls {m : Nat} {ts : List (Str × Str)} (h : TreeOk m ts) {ks : List Kl} (e : ks.map (fun k => (k.name, k.upper)) = ts) : ∀ i c, ks[i]? = some c → OkClass (ks.take i) c := by
  intro i c hc
  obtain ⟨hl, ht⟩ := h
  have hti : ts[i]? = some (c.name, c.upper) := by
    rw [← e, List.getElem?_map, hc]
    rfl
  obtain ⟨h1, h2⟩ := ht i _ hti
  have h1 : names8[i]? = some c.name := h1
  obtain ⟨w1, w2, w3, w4⟩ := n8_word c.name (List.mem_of_getElem? h1)
  have htk : (ts.take i).map (·.1) = (ks.take i).map (·.name) := by
    rw [← e, ← List.map_take, List.map_map]
    rfl
  rw [htk] at h2
  have h2 : c.upper ∈ topS :: (ks.take i).map (·.name) := h2
  have hprev : ∀ x ∈ (ks.take i).map (·.name), ∃ j < i, names8[j]? = some x := by
    intro x hx
    rw [← htk] at hx
    obtain ⟨p, hp, rfl⟩ := List.mem_map.mp hx
    obtain ⟨j, hj⟩ := List.mem_iff_getElem?.mp hp
    rw [List.getElem?_take] at hj
    by_cases hji : j < i
    · rw [if_pos hji] at hj
      exact ⟨j, hji, (ht j p hj).1⟩
    · rw [if_neg hji] at hj
      cases hj
  refine ⟨isWord_of w1, w2, ?_, ?_, h2⟩
  · intro hm
    rcases List.mem_cons.mp hm with z | z
    · exact w3 z
    · obtain ⟨j, hji, hj⟩ := hprev _ z
      refine n8_inj i (lt_of_get h1) j hji ?_
      rw [h1, hj]
  · rcases List.mem_cons.mp h2 with z | z
    · rw [z]
      exact top_word
    · obtain ⟨j, hji, hj⟩ := hprev _ z
      exact isWord_of (n8_word _ (List.mem_of_getElem? hj)).1
theorem tree_word {m : Nat} {ts : List (Str × Str)} (h : TreeOk m ts) {x : Str} (hx : x ∈ ts.map (·.1)) : IsWord x := by
  obtain ⟨p, hp, rfl⟩ := List.mem_map.mp hx
  obtain ⟨i, hi⟩ := List.mem_iff_getElem?.mp hp
  exact isWord_of (n8_word _ (List.mem_of_getElem? (h.2 i p hi).1)).1
/-! What _law_errorc makes of a lambda that raises NotOwn; the law's promise. -/
def TTerr (K : Frag) (aN : Addr) : (XK → Hp → VK → Prop) → Hp → VK → Prop := fun tl H Q => tl (fun cls d H' => cls = .ref aN ∧ d = none ∧ ∀ v H2, Same H' H2 → Td K H2 v (.str "own") → Q v H2) H (fun _ H' => Q (.str "") H')
def sp_law (K : Frag) (PT : Addr) (qL : Str) : Sp := fun vs H Q _ => ∃ (a : Addr) (ns : List Int), vs = [.ref a] ∧ SqL K H a (ns.map V.int) ∧ LamX.Tabs [(PT, qL)] H ∧ ∀ H', Q (.bl true) H'
/-! ### _law_errorc -/
abbrev s_law_errorc : Stmt := top 69
abbrev N_law_errorc : List Str := ["_law_work", "_law_found", "e", "_law_known", "_law_words"]
abbrev P_law_errorc : List Str := ["_law_work"]
theorem sc_law_errorc : FnScope N_law_errorc P_law_errorc (C8.fnScope s_law_errorc) := C8.fnScope_by (by decide +kernel)
def t_suite (K : Frag) (aN a : Addr) (b0 b1 b2 b3 b4 b5 b6 b7 b8 : Addr) : TS :=
    (tSeq (tAsg (tLst (tCons (tCB (rIsE K aN a) (tCons (tVar 2) (tCons (tC (.ref b0)) tNil))) (tCons (tCB (rIsE K aN a) (tCons (tVar 2) (tCons (tC (.ref b1)) tNil))) (tCons (tCB (rIsE K aN a) (tCons (tVar 2) (tCons (tC (.ref b2)) tNil))) (tCons (tCB (rIsE K aN a) (tCons (tVar 2) (tCons (tC (.ref b3)) tNil))) tNil))))) (gName 3))
    (tSeq (tAsg (tOp rCat (tVar 3) (tLst (tCons (tCB (rIsE K aN a) (tCons (tVar 2) (tCons (tC (.ref b4)) tNil))) (tCons (tCB (rIsE K aN a) (tCons (tVar 2) (tCons (tC (.ref b5)) tNil))) (tCons (tCB (rIsE K aN a) (tCons (tVar 2) (tCons (tC (.ref b6)) tNil))) tNil))))) (gName 3))
    (tSeq (tAsg (tOp rCat (tVar 3) (tLst (tCons (tCB (rIsE K aN a) (tCons (tVar 2) (tCons (tC (.ref b7)) tNil))) (tCons (tCB (rIsE K aN a) (tCons (tVar 2) (tCons (tC (.ref b8)) tNil))) tNil)))) (gName 3))
    (tSeq (tAsg (tLst (tCons (tC (.str "house")) (tCons (tC (.str "name")) (tCons (tC (.str "word")) (tCons (tC (.str "slot")) (tCons (tC (.str "choice")) (tCons (tC (.str "kinds")) (tCons (tC (.str "own")) (tCons (tC (.str "words")) (tCons (tC (.str "names")) tNil)))))))))) (gName 4))
    (tSeq (tAsg (tIf (tTest (tOp rEq (tBM K "list" (rCntF K) (tVar 3) (tCons (tC (.bl true)) tNil)) (tC (.int 1)))) (tOp (rIx K) (tVar 4) (tBM K "list" (rIndex K) (tVar 3) (tCons (tC (.bl true)) tNil))) (tC (.str "other"))) (gName 1))
    (tIfS (tTest (tOp rEq (tVar 1) (tC (.str "choice")))) tNever tNext))))))
/-! ### law -/
abbrev s_law : Stmt := top 70
abbrev N_law : List Str := ["_law_script", "_law_row", "_law_classes_here", "_law_house", "_law_name", "_law_word", "_law_line", "_law_above", "_law_own", "_law_due", "_law_told", "_law_other", "_law_method"]
abbrev P_law : List Str := ["_law_script"]
theorem sc_law : FnScope N_law P_law (C8.fnScope s_law) := C8.fnScope_by (by decide +kernel)
def t_law (K : Frag) (aHouse aN PT : Addr) (qL : Str) : TS :=
    (tSeq (tAsg (tLst (tCons (tVar 0) (tCons (tC (.int 0)) (tCons (tC (.int 2949)) (tCons (tC (.int 0)) tNil))))) (gName 1))
    (tSeq (tAsg (tIf (tTest (tOp rGt (tCall (sp_law_taken K) [] C8.E0 (tCons (tVar 1) (tCons (tC (.int 3)) tNil))) (tC (.int 0)))) (tCall (sp_law_wordy K) [] C8.E0 (tCons (tVar 1) (tCons (tC (.int 8)) tNil))) (tCall (sp_law_classes K) [] C8.E0 (tCons (tVar 1) (tCons (tC (.int 8)) (tCons (tC (.int 3)) tNil))))) (gName 2))
    (tSeq (tAsg (tMake aHouse (sp_House_init K aHouse) [] C8.E0 (tCons (tVar 2) tNil)) (gName 3))
    (tSeq (tFor (iAny K (tOp rCat (tLst (tCons (tC (.str "top")) tNil)) (tLc (iAny K (tVar 2)) (gName 10) tYes (tOp (rIx K) (tVar 10) (tC (.int 0))) [10]))) (gName 4) (tSeq (tAsg (tCall (sp_law_pick K) [] C8.E0 (tCons (tVar 1) (tCons (tLst (tCons (tC (.str "ma")) (tCons (tC (.str "ma")) (tCons (tC (.str "mb")) (tCons (tC (.str "mc")) (tCons (tC (.str "md")) (tCons (tC (.str "zz")) tNil))))))) tNil))) (gName 5))
    (tSeq (tAsg (tLc (iAny K (tCall (sp_law_row_of K) [] C8.E0 (tCons (tVar 2) (tCons (tVar 4) tNil)))) (gName 10) (tTest (tOp (rIn K false) (tVar 5) (tLc (iAny K (tOp (rIx K) (tVar 10) (tC (.int 3)))) (gName 12) tYes (tOp (rIx K) (tVar 12) (tC (.int 0))) [12]))) (tOp (rIx K) (tVar 10) (tC (.int 0))) [10]) (gName 6))
    (tSeq (tIfS (tNot (tB (tCall (sp_law_alike K) [] C8.E0 (tCons (tCall (sp_method_line K aHouse) [] C8.E0 (tCons (tVar 3) (tCons (tVar 4) (tCons (tVar 5) tNil)))) (tCons (tCB (rTupOf K) (tCons (tVar 6) tNil)) tNil))))) (tRet (tC (.bl false))) tNext)
    (tSeq (tAsg (tIf (tTest (tOp rEq (tVar 4) (tC (.str "top")))) (tC .non) (tCall (sp_law_near K) [] C8.E0 (tCons (tVar 2) (tCons (tOp (rIx K) (tCall (sp_law_up K) [] C8.E0 (tCons (tVar 2) (tCons (tVar 4) tNil))) (tC (.int 1))) (tCons (tVar 5) tNil))))) (gName 7))
    (tSeq (tIfS (tNot (tB (tCall (sp_law_alike K) [] C8.E0 (tCons (tCall (sp_upper_method K aHouse) [] C8.E0 (tCons (tVar 3) (tCons (tVar 4) (tCons (tVar 5) tNil)))) (tCons (tVar 7) tNil))))) (tRet (tC (.bl false))) tNext)
    (tSeq (tAsg (tOp (rEqD K) (tSl (rSlX K) (tVar 6) tNoPart (tPart (tC (.int 1)))) (tLst (tCons (tVar 4) tNil))) (gName 8))
    (tSeq (tIfS (tB (tVar 8)) (tSeq (tAsg (tLc (iAny K (tVar 2)) (gName 10) (tTest (tOp rNotN (tCall (sp_law_near K) [] C8.E0 (tCons (tVar 2) (tCons (tOp (rIx K) (tVar 10) (tC (.int 0))) (tCons (tVar 5) tNil)))) (tC .non))) (tOp (rIx K) (tVar 10) (tC (.int 0))) [10]) (gName 9))
    (tSeq (tAsg (tLc (iAny K (tVar 9)) (gName 11) (tTest (tOp rEq (tOp (rIx K) (tCall (sp_law_near K) [] C8.E0 (tCons (tVar 2) (tCons (tVar 11) (tCons (tVar 5) tNil)))) (tC (.int 0))) (tVar 4))) (tVar 11) [11]) (gName 9))
    (tIfS (tNot (tB (tCall (sp_law_alike K) [] C8.E0 (tCons (tCall (sp_reached_from K aHouse aN) [] C8.E0 (tCons (tVar 3) (tCons (tVar 4) (tCons (tVar 5) tNil)))) (tCons (tCB (rTupOf K) (tCons (tVar 9) tNil)) tNil))))) (tRet (tC (.bl false))) tNext))) (tIfS (tTest (tOp rNe (LamX.tLam [(PT, qL)] (TTerr K aN) (fun E => tCall (sp_reached_from K aHouse aN) [] E (tCons (tVar 3) (tCons (tVar 4) (tCons (tVar 5) tNil))))) (tC (.str "own")))) (tRet (tC (.bl false))) tNext))
    (tIfS (tAnd (tB (tVar 8)) (tTest (tOp (rNeD K) (tSl (rSlX K) (tVar 6) (tPart (tC (.int 1))) tNoPart) (tCB (rLstOf K) (tCons (tCall (sp_method_line K aHouse) [] C8.E0 (tCons (tVar 3) (tCons (tOp (rIx K) (tCall (sp_law_up K) [] C8.E0 (tCons (tVar 2) (tCons (tVar 4) tNil))) (tC (.int 1))) (tCons (tVar 5) tNil)))) tNil))))) (tRet (tC (.bl false))) tNext)))))))))
    (tRet (tC (.bl true)))))))
/-! The plain law: what the rows of good classes answer. -/
theorem rowA_skip : ∀ (l r : List Kl) (n : Str), (∀ b ∈ l, b.name ≠ n) → rowA (l ++ r) n = rowA r n
  | [], _, _, _ => rfl
  | c :: l, r, n, h => by
    show (if c.name = n then c :: rowA (l ++ r) c.upper else rowA (l ++ r) n) = rowA r n
    rw [if_neg (h c List.mem_cons_self), rowA_skip l r n fun b hb => h b (List.mem_cons_of_mem _ hb)]
theorem rowA_none : ∀ (l : List Kl) (n : Str), (∀ b ∈ l, b.name ≠ n) → rowA l n = []
  | [], _, _ => rfl
  | c :: l, n, h => by
    show (if c.name = n then c :: rowA l c.upper else rowA l n) = []
    rw [if_neg (h c List.mem_cons_self), rowA_none l n fun b hb => h b (List.mem_cons_of_mem _ hb)]
section
variable {cs : List Kl} (g : Good cs)
include g
theorem good_top : row cs topS = [] := by
  refine rowA_none _ _ fun b hb => ?_
  obtain ⟨i, hi⟩ := at_mem (List.mem_reverse.mp hb)
  intro z
  exact (g.cls i b hi).new (by rw [z]; exact List.mem_cons_self)
theorem good_row {n : Str} (hn : n ∈ namesL cs) (ht : n ≠ topS) : ∃ c, row cs n = c :: row cs c.upper ∧ c.name = n ∧ c ∈ cs ∧ c.upper ∈ namesL cs ∧ ∀ u ∈ row cs c.upper, u.name ≠ n := by
  rcases List.mem_cons.mp hn with h | h
  · exact absurd h ht
  obtain ⟨c, hc, rfl⟩ := List.mem_map.mp h
  obtain ⟨i, hi⟩ := at_mem hc
  have o := g.cls i c hi
  have hil := lt_of_get hi
  have hsplit : cs = cs.take i ++ c :: cs.drop (i + 1) := by
    have := List.drop_eq_getElem_cons hil
    rw [(List.getElem?_eq_some_iff.mp hi).2] at this
    rw [← this, List.take_append_drop]
  have hB : ∀ b ∈ cs.drop (i + 1), b.name ≠ c.name ∧ b.name ≠ c.upper := by
    intro b hb
    obtain ⟨j, hj⟩ := List.mem_iff_getElem?.mp hb
    rw [List.getElem?_drop] at hj
    have ob := g.cls (i + 1 + j) b hj
    have hct : c ∈ cs.take (i + 1 + j) := List.mem_iff_getElem?.mpr ⟨i, by rw [List.getElem?_take, if_pos (by omega)]; exact hi⟩
    constructor
    · intro z
      exact ob.new (by rw [z]; exact List.mem_cons_of_mem _ (List.mem_map.mpr ⟨c, hct, rfl⟩))
    · intro z
      refine ob.new ?_
      rw [z]
      rcases List.mem_cons.mp o.up with h | h
      · rw [h]
        exact List.mem_cons_self
      · obtain ⟨u, hu, e⟩ := List.mem_map.mp h
        refine List.mem_cons_of_mem _ (List.mem_map.mpr ⟨u, ?_, e⟩)
        exact (List.take_subset_take_left cs (by omega : i ≤ i + 1 + j)) hu
  have hrev : cs.reverse = (cs.drop (i + 1)).reverse ++ c :: (cs.take i).reverse := by
    conv => lhs; rw [hsplit]
    rw [List.reverse_append, List.reverse_cons, List.append_assoc]
    rfl
  have hcu : c.name ≠ c.upper := fun z => o.new (by rw [z]; exact o.up)
  have e1 : row cs c.name = c :: rowA (cs.take i).reverse c.upper := by
    unfold row
    rw [hrev, rowA_skip _ _ _ fun b hb => (hB b (List.mem_reverse.mp hb)).1]
    show (if c.name = c.name then c :: rowA (cs.take i).reverse c.upper else _) = _
    rw [if_pos rfl]
  have e2 : row cs c.upper = rowA (cs.take i).reverse c.upper := by
    unfold row
    rw [hrev, rowA_skip _ _ _ fun b hb => (hB b (List.mem_reverse.mp hb)).2]
    show (if c.name = c.upper then c :: rowA (cs.take i).reverse c.upper else rowA (cs.take i).reverse c.upper) = _
    rw [if_neg hcu]
  refine ⟨c, by rw [e1, e2], rfl, hc, ?_, fun u hu => ?_⟩
  · rcases List.mem_cons.mp o.up with h | h
    · rw [h]
      exact List.mem_cons_self
    · obtain ⟨u, hu, e⟩ := List.mem_map.mp h
      exact List.mem_cons_of_mem _ (List.mem_map.mpr ⟨u, List.mem_of_mem_take hu, e⟩)
  · rw [e2] at hu
    have hu2 : u ∈ cs.take i := List.mem_reverse.mp ((rowA_sub _ _).mem hu)
    intro z
    exact o.new (by rw [← z]; exact List.mem_cons_of_mem _ (List.mem_map.mpr ⟨u, hu2, rfl⟩))
/-- the second of the names upward is the upper class -/
theorem good_up {n : Str} (hn : n ∈ namesL cs) (ht : n ≠ topS) : ∃ c, row cs n = c :: row cs c.upper ∧ c.name = n ∧ c.upper ∈ namesL cs ∧ (∀ u ∈ row cs c.upper, u.name ≠ n) ∧ (((row cs n).map (·.name) ++ [topS]).map PyData.str)[1]? = some (.str c.upper) := by
  obtain ⟨c, h1, h2, h3, h4, h5⟩ := good_row g hn ht
  refine ⟨c, h1, h2, h4, h5, ?_⟩
  rw [h1]
  by_cases hu : c.upper = topS
  · rw [hu, good_top g]
    rfl
  · obtain ⟨c2, e1, e2, _⟩ := good_row g h4 hu
    rw [e1]
    show some (PyData.str c2.name) = _
    rw [e2]
end
theorem filt_take1 (p : Kl → Bool) : ∀ (R : List Kl), ((R.filter p).map (·.name)).take 1 = match R.find? p with | none => [] | some c => [c.name]
  | [] => rfl
  | c :: r => by
    rw [List.filter_cons, List.find?_cons]
    cases h : p c with
    | true => simp
    | false => simpa using filt_take1 p r
/-- the class has the word itself: the rest of its line is its upper class's -/
theorem own_line {cs : List Kl} (g : Good cs) {n w : Str} (hn : n ∈ namesL cs) (ho : (line cs n w).take 1 = [n]) : n ≠ topS ∧ ∃ c, row cs n = c :: row cs c.upper ∧ c.upper ∈ namesL cs ∧ (line cs n w).tail = line cs c.upper w ∧ (((row cs n).map (·.name) ++ [topS]).map PyData.str)[1]? = some (.str c.upper) := by
  have ht : n ≠ topS := by
    intro z
    rw [z] at ho
    unfold line at ho
    rw [good_top g] at ho
    simp at ho
  obtain ⟨c, h1, h2, h4, h5, h6⟩ := good_up g hn ht
  refine ⟨ht, c, h1, h4, ?_, h6⟩
  have hc : hasW w c = true := by
    cases h : hasW w c with
    | true => rfl
    | false =>
      exfalso
      unfold line at ho
      rw [h1, List.filter_cons_of_neg (by rw [h]; exact Bool.false_ne_true), filt_take1] at ho
      cases hf : (row cs c.upper).find? (hasW w) with
      | none => rw [hf] at ho; simp at ho
      | some u =>
        rw [hf] at ho
        have : u.name = n := by simpa using ho
        exact h5 u (List.mem_of_find?_eq_some hf) this
  unfold line
  rw [h1, List.filter_cons_of_pos hc]
  rfl
def nearN (cs : List Kl) (w x : Str) : Option Str := ((row cs x).find? (hasW w)).map (·.name)
theorem near_none {cs : List Kl} {w x : Str} : isNon (nearD w (row cs x)) = (nearN cs w x).isNone := by
  unfold nearD nearN
  cases (row cs x).find? (hasW w) <;> rfl
theorem reach_eq {cs : List Kl} {n w : Str} : ((cs.filter fun c => (nearN cs w c.name).isSome).map (·.name)).filter (fun x => decide (nearN cs w x = some n)) = reached cs n w := by
  unfold reached
  have e : ∀ c : Kl, decide ((line cs c.name w).take 1 = [n]) = decide (nearN cs w c.name = some n) := fun c => by
    unfold line nearN
    rw [filt_take1]
    cases (row cs c.name).find? (hasW w) with
    | none => simp
    | some u => simp
  have e2 : (fun c : Kl => decide ((line cs c.name w).take 1 = [n])) = fun c : Kl => decide (nearN cs w c.name = some n) := funext e
  rw [e2, List.filter_map, List.filter_filter]
  congr 1
  refine List.filter_congr fun c _ => ?_
  show (decide (nearN cs w c.name = some n) && (nearN cs w c.name).isSome) = decide (nearN cs w c.name = some n)
  cases h : nearN cs w c.name with
  | none => simp
  | some y => simp
theorem near_shallow {w : Str} {R : List Kl} : shallow (nearD w R) = true := by
  unfold nearD
  cases R.find? (hasW w) <;> rfl
theorem strs_shallow {xs : List Str} (h : xs.length ≤ 1000) : shallow (.tuple (xs.map .str)) = true := by
  show ((xs.map PyData.str).all leafD && decide ((xs.map PyData.str).length ≤ 1000)) = true
  rw [List.length_map, decide_eq_true h, Bool.and_true, List.all_eq_true]
  intro d hd
  obtain ⟨x, _, rfl⟩ := List.mem_map.mp hd
  rfl
theorem line_len {cs : List Kl} (h : cs.length ≤ 8) (n w : Str) : (line cs n w).length ≤ 8 := by
  unfold line
  rw [List.length_map]
  exact Nat.le_trans (List.length_filter_le _ _) (Nat.le_trans (row_len cs n) h)
theorem reached_len {cs : List Kl} (h : cs.length ≤ 8) (n w : Str) : (reached cs n w).length ≤ 8 := by
  unfold reached
  rw [List.length_map]
  exact Nat.le_trans (List.length_filter_le _ _) h
local macro_rules | `(tactic| walk_at "sm") => `(tactic| first | exact Same.refl _ | assumption | (refine' Same.trans ?_ (by assumption); walk_at "sm"))
local macro_rules | `(tactic| walk_at "kt") => `(tactic| first | exact KT.refl _ | (refine' KT.trans ?_ (KT.of (by assumption)); walk_at "kt") | (refine' KT.trans ?_ (Gx.kt (by assumption)); walk_at "kt"))
local macro_rules | `(tactic| walk_at "td") => `(tactic| first | assumption | exact Td.str _ | exact Td.int _ | exact Td.bl _ | exact Td.non | (refine' Td.kt ?_ (by assumption); walk_at "kt"))
local macro_rules | `(tactic| walk_at "ls") => `(tactic| first | assumption | (refine' Ls.ex (by assumption) ?_; walk_at "sm") | exact Lg.ls (by assumption) | exact Lg.ls (Lg.gx (by assumption) (by assumption)) | exact Lg.ls (Lg.same (by assumption) (by assumption)) | (refine' Ls.of (by assumption) ?_; walk_at "tds") | (refine' Ls.ex (Ls.of (by assumption) (by walk_at "tds")) ?_; walk_at "sm"))
local macro_rules | `(tactic| walk_at "tds") => `(tactic| first | assumption | (refine' Tds.kt ?_ (by assumption); walk_at "kt"))
local macro_rules | `(tactic| walk_at "lg") => `(tactic| first | assumption | exact Lg.gx (by assumption) (by assumption) | exact Lg.same (by assumption) (by assumption))
local macro_rules | `(tactic| walk_at "ho") => `(tactic| first | assumption | (refine' HouseAt.ex (by assumption) ?_; walk_at "sm"))
local macro_rules | `(tactic| walk_at "bq") => `(tactic| first | exact rfl | exact congrArg PyData.bool (decide_eq_true (by assumption)) | exact congrArg PyData.bool (decide_eq_false (by assumption)) | (refine congrArg PyData.bool ?_; rw [decide_eq_true (by assumption)]; rfl) | (refine congrArg PyData.bool ?_; rw [decide_eq_false (by assumption)]; rfl) | exact congrArg PyData.bool (decide_eq_true (by omega)) | exact congrArg PyData.bool (decide_eq_false (by omega)))
local macro_rules | `(tactic| walk_at "ev") => `(tactic| first
  | ((with_reducible show EvD _ (tVar _) _ _ _); exact ed_var (by exact rfl) (by walk_at "td"))
  | ((with_reducible show EvD _ (tC (V.str _)) _ _ _); exact ed_str)
  | ((with_reducible show EvD _ (tC (V.int _)) _ _ _); exact ed_int)
  | ((with_reducible show EvD _ (tC (V.bl _)) _ _ _); exact ed_bl)
  | ((with_reducible show EvD _ (tC V.non) _ _ _); exact ed_non)
  | ((with_reducible show EvD _ (tC (V.ref _)) _ _ _); exact ed_c (Txt.d_BARRED (by assumption)))
  | ((with_reducible show EvD _ (tC (V.ref _)) _ _ _); exact ed_c (Txt.d_BARE (by assumption)))
  | ((with_reducible show EvD _ (tC (V.ref _)) _ _ _); exact ed_c (Txt.d_ENDS (by assumption)))
  | ((with_reducible show EvD _ (tTup _) _ _ _); exact ed_tup (by walk_at "ev"))
  | ((with_reducible show EvD _ (tOp (rIx _) _ _) _ _ _); exact ed_ixT (by walk_at "ev") (by walk_at "ev") (by first | exact rfl | exact at0 _ _ | exact at1 _ _ _ | exact at2 _ _ _ _ | assumption))
  | ((with_reducible show EvD _ (tOp (rIx _) _ _) _ _ _); exact ed_ixL (by walk_at "ev") (by walk_at "ev") (by first | exact rfl | exact at0 _ _ | exact at1 _ _ _ | exact at2 _ _ _ _ | assumption))
  | ((with_reducible show EvD _ (tOp rEq _ _) _ _ _); exact EvD.is (ed_eqS (by walk_at "ev") (by walk_at "ev")) (by walk_at "bq"))
  | ((with_reducible show EvD _ (tOp rEq _ _) _ _ _); exact EvD.is (ed_eqI (by walk_at "ev") (by walk_at "ev")) (by walk_at "bq"))
  | ((with_reducible show EvD _ (tOp rEq _ _) _ _ _); exact EvD.is (ed_eqB (by walk_at "ev") (by walk_at "ev")) (by walk_at "bq"))
  | ((with_reducible show EvD _ (tOp rNe _ _) _ _ _); exact EvD.is (ed_neS (by walk_at "ev") (by walk_at "ev")) (by walk_at "bq"))
  | ((with_reducible show EvD _ (tOp rNe _ _) _ _ _); exact EvD.is (ed_neI (by walk_at "ev") (by walk_at "ev")) (by walk_at "bq"))
  | ((with_reducible show EvD _ (tOp rNe _ _) _ _ _); exact EvD.is (ed_neB (by walk_at "ev") (by walk_at "ev")) (by walk_at "bq"))
  | ((with_reducible show EvD _ (tOp (rIn _ false) _ _) _ _ _); exact EvD.is (ed_in (by walk_at "ev") (by walk_at "ev")) (by walk_at "bq"))
  | ((with_reducible show EvD _ (tOp (rIn _ true) _ _) _ _ _); exact EvD.is (ed_notin (by walk_at "ev") (by walk_at "ev")) (by walk_at "bq"))
  | ((with_reducible show EvD _ (tOp rIsN _ _) _ _ _); exact EvD.is (ed_isN (by walk_at "ev")) (by walk_at "bq"))
  | ((with_reducible show EvD _ (tOp rNotN _ _) _ _ _); exact EvD.is (ed_notN (by walk_at "ev")) (by walk_at "bq"))
  | ((with_reducible show EvD _ (tCB (rIsi _) _) _ _ _); exact ed_isi (by walk_at "ev") (by intro z; cases z) (by dsimp only [tyN, enc, encM, encF] <;> exact rfl) (by decide +kernel))
  | ((with_reducible show EvD _ (tCB (rLen _) _) _ _ _); exact ed_lenD (by walk_at "ev"))
  | ((with_reducible show EvD _ (tCB (rLen _) _) _ _ _); exact ed_lenS (by walk_at "ev"))
  | ((with_reducible show EvD _ (tOp (rI0 _) _ _) _ _ _); exact ed_I0 (by walk_at "ev") (by walk_at "ev") (fun _ => Td.int _))
  | ((with_reducible show EvD _ (tOp (rI0 _) _ _) _ _ _); exact EvD.is (ed_I0 (by walk_at "ev") (by walk_at "ev") (fun _ => Td.bl _)) (by walk_at "bq"))
  | ((with_reducible show EvD _ (tUn _ _) _ _ _); exact ed_neg (by walk_at "ev"))
  | ((with_reducible show EvD _ (tAndV _ _) _ _ _); exact ed_andT (by walk_at "ev") (by walk_at "ev"))
  | ((with_reducible show EvD _ (tNotV _) _ _ _); exact ed_nt (by walk_at "ev"))
  | ((with_reducible show EvD _ (tCB (rTupOf _) _) _ _ _); exact ed_tupOf (by walk_at "ev"))
  | ((with_reducible show EvD _ (tSl (rSlX _) _ _ _) _ _ _); exact ed_sl (by walk_at "ev") (by walk_at "ev") (by walk_at "ev"))
  | ((with_reducible show EvN _ (tLst _) _ _ _); exact en_lst (by walk_at "ev"))
  | ((with_reducible show EvN _ (tSl (rSlX _) _ _ _) _ _ _); exact en_sl (by walk_at "ev") (by walk_at "ev") (by walk_at "ev"))
  | ((with_reducible show EvN _ (tCB (rLstOf _) _) _ _ _); exact en_lstOf (by walk_at "ev"))
  | ((with_reducible show EvN _ (tOp rCat _ _) _ _ _); exact en_catM (by walk_at "ev") (by walk_at "ev") (by first | decide | (simp; omega)))
  | ((with_reducible show EvM _ (tVar _) _ _ _); exact em_var (S := [Scr.r _]) (by exact rfl) (by walk_at "lg"))
  | ((with_reducible show EvM _ _ _ _ _); exact EvN.m (by walk_at "ev"))
  | ((with_reducible show EvO tNoPart _ _ _); exact eo_none)
  | ((with_reducible show EvO (tPart _) _ _ _); exact eo_some (by walk_at "ev"))
  | ((with_reducible show EvA _ tNil _ _ _); exact ea_nil)
  | ((with_reducible show EvA _ (tCons _ _) _ _ _); exact ea_cons (by walk_at "ev") (by walk_at "ev"))
  | ((with_reducible show EvA _ (tStar _ _ _) _ _ _); exact ea_star (by walk_at "ev") (by walk_at "ev"))
  | ((with_reducible show EvH (tVar _) _ _ _); exact eh_var (by exact rfl))
  | ((with_reducible show EvT (tOr _ _) _ _ _); exact et_or2 (by walk_at "ev") (by walk_at "ev"))
  | ((with_reducible show EvT (tAnd _ _) _ _ _); exact et_and2 (by walk_at "ev") (by walk_at "ev"))
  | ((with_reducible show EvT (tAnd _ _) _ _ _); exact et_andF (by walk_at "ev"))
  | ((with_reducible show EvT (tNot _) _ _ false); exact et_nt (by walk_at "ev"))
  | ((with_reducible show EvT (tNot _) _ _ true); exact et_nf (by walk_at "ev"))
  | ((with_reducible show EvT (tTest _) _ _ _); exact et_test (by walk_at "ev"))
  | ((with_reducible show EvT (tB _) _ _ _); exact et_B (by walk_at "ev"))
  | ((with_reducible show EvT tYes _ _ _); exact et_yes)
  | walk_at "ec"
  )
local macro_rules | `(tactic| walk_at "ec") => `(tactic| first
  | ((with_reducible show EvD _ (tCall (sp_is_word _) _ _ _) _ _ _); exact ev_is_word (by walk_at "ev") (by assumption))
  | ((with_reducible show EvD _ (tCall (sp_is_in _) _ _ _) _ _ _); exact ev_is_in (by walk_at "ev") (by walk_at "ev") (by walk_at "ev") (by first | assumption | omega) (by first | assumption | omega))
  | ((with_reducible show EvD _ (tCall (sp_is_list _) _ _ _) _ _ _); exact ev_is_list (by walk_at "ev") (by walk_at "ev") (by first | assumption | omega | (simp; omega)))
  | ((with_reducible show EvN _ (tCall (sp_names_of _) _ _ _) _ _ _); exact ev_names_of (by walk_at "ev") (by first | assumption | omega))
  | ((with_reducible show EvN _ (tCall (sp_row_of _) _ _ _) _ _ _); exact ev_row_of (by walk_at "ev") (by walk_at "ev") (by first | assumption | omega))
  | ((with_reducible show EvD _ (tFld _ _ _) _ _ _); exact ev_told (by walk_at "ev") (by walk_at "ho") (C8.InsC.cl (Txt.insC (by assumption))) (Txt.told (by assumption)))
  | ((with_reducible show EvL _ (tVar _) _ _ _); exact el_var (by exact rfl) (by walk_at "ls"))
  | ((with_reducible show EvL _ _ _ _ _); exact EvN.l (by walk_at "ev"))
  | ((with_reducible show EvS _ (tVar _) _ _ _); exact EvD.s (by walk_at "ev"))
  | ((with_reducible show EvS _ (tVar _) _ _ _); exact EvL.s (by walk_at "ev"))
  | ((with_reducible show EvS _ (tRevA _ _) _ _ _); exact es_rev (by walk_at "ev"))
  | ((with_reducible show EvS _ _ _ _ _); exact EvN.s (by walk_at "ev"))
  | ((with_reducible show EvS _ _ _ _ _); exact EvD.s (by walk_at "ev"))
  | walk_at "ex"
  )
local macro_rules | `(tactic| walk_at "ex") => `(tactic| fail "ev: no rule")
section
variable {K : Frag} {mg : Str → Option Value} {aB aR aE aHouse : Addr}
theorem p_is_in (T : Txt K mg aB aR aE aHouse) (vs : List V) (H : Hp) (Q : VK) (E : XK) (h : sp_is_in K vs H Q E) : t_is_in K { nx := fun _ H' => Q .non H', rt := Q } (start N_is_in vs) H := by
  obtain ⟨i, l, m, rfl, h1, h2, q⟩ := h
  refine s_ret (K := K) (d := .bool true) ?_ fun v H1 e t => q v H1 e t
  refine ed_andT (by walk_at "ev") (ed_andT (by walk_at "ev") ?_)
  exact ed_chain (i := l) (j := i) (k := m) (by walk_at "ev") (by walk_at "ev") (by walk_at "ev") (by simp [h1]) (by simp [h2])
end
section
variable {K : Frag} {mg : Str → Option Value} {aB aR aE aHouse : Addr}
theorem ed_inS {σ : L2.St} {H : Hp} {ta tb : TE} {c : Nat} {z : Str} (h : EvD K ta σ H (.str ⟨#[c]⟩)) (h2 : EvD K tb σ H (.str z)) : EvD K (tOp rInS ta tb) σ H (.bool (decide (c ∈ z.cps.toList))) := fun H1 a Q q =>
  h H1 a _ fun v H2 e2 t1 => h2 H2 (a.trans e2) _ fun w H3 e3 t2 => ⟨c, z, t1.strI, t2.strI, q _ H3 (e2.trans e3) (.bl _)⟩
theorem p_is_word (T : Txt K mg aB aR aE aHouse) (vs : List V) (H : Hp) (Q : VK) (E : XK) (h : sp_is_word K vs H Q E) : t_is_word K { nx := fun _ H' => Q .non H', rt := Q } (start N_is_word vs) H := by
  obtain ⟨x, rfl, w, q⟩ := h
  refine s_ret (K := K) (d := .bool true) ?_ fun v H1 e t => q v H1 e t
  have h1 := w.lo
  have h2 := w.hi
  refine ed_andT (by walk_at "ev") (ed_andT ?_ ?_)
  · exact ed_chain (i := 1) (j := (x.length : Int)) (k := 6) (by walk_at "ev") (ed_lenX (by walk_at "ev") (by omega)) (by walk_at "ev") (congrArg V.bl (decide_eq_true (by omega))) (congrArg V.bl (decide_eq_true (by omega)))
  · refine EvD.is (ed_all (bs := x.cps.toList.map fun _ => true) ?_) ?_
    · refine EvL.is (EvN.l (en_lcX (f := fun _ => PyData.bool true) (by walk_at "ev") (by have : x.cps.size = x.length := rfl; omega) (fun _ => rfl) fun c H1 e hc => ?_)) (by simp)
      refine EvD.is (ed_inS (c := c) (z := letters) (ed_var rfl (.str _)) ed_str) ?_
      rw [decide_eq_true (w.all c hc)]
    · congr 1
      simp
end
section
variable {K : Frag} {mg : Str → Option Value} {aB aR aE aHouse : Addr}
theorem p_is_list (T : Txt K mg aB aR aE aHouse) (vs : List V) (H : Hp) (Q : VK) (E : XK) (h : sp_is_list K vs H Q E) : t_is_list K { nx := fun _ H' => Q .non H', rt := Q } (start N_is_list vs) H := by
  obtain ⟨v, ds, n, rfl, hv, h1, q⟩ := h
  refine s_ret (K := K) (d := .bool true) ?_ fun v H1 e t => q v H1 e t
  refine ed_andT (by walk_at "ev") ?_
  refine EvD.is (ed_I0 (i := (ds.length : Int)) (j := n) (by walk_at "ev") (by walk_at "ev") (fun _ => Td.bl _)) ?_
  rw [decide_eq_true h1]
end
section
variable {K : Frag} {mg : Str → Option Value} {aB aR aE aHouse : Addr}
theorem p_names_of (T : Txt K mg aB aR aE aHouse) (vs : List V) (H : Hp) (Q : VK) (E : XK) (h : sp_names_of K vs H Q E) : t_names_of K { nx := fun _ H' => Q .non H', rt := Q } (start N_names_of vs) H := by
  obtain ⟨v, cs, rfl, hv, hl, q⟩ := h
  refine s_retN (K := K) (ds := (namesL cs).map .str) ?_ fun a xs H1 n e h t => q a xs H1 n e h t
  refine EvN.is (en_lst (ds := .str "top" :: ((encs cs).map hd0 ++ [])) (ea_cons ed_str (ea_star (EvN.l (en_lcM hd0 (by walk_at "ev") (by simp; omega) (fun _ => rfl) fun x d H1 e hd t => ?_)) ea_nil)) (by simp; omega)) ?_
  · obtain ⟨c, _, rfl⟩ := List.mem_map.mp hd
    exact ed_ixT (d := .str c.name) (ed_var (d := enc c) rfl t) ed_int rfl
  · rw [List.append_nil, List.map_map]
    show _ = PyData.str topS :: (cs.map (·.name)).map .str
    rw [List.map_map]
    rfl
end
section
variable {K : Frag} {mg : Str → Option Value} {aB aR aE aHouse : Addr}
theorem p_row_of (T : Txt K mg aB aR aE aHouse) (vs : List V) (H : Hp) (Q : VK) (E : XK) (h : sp_row_of K vs H Q E) : t_row_of K { nx := fun _ H' => Q .non H', rt := Q } (start N_row_of vs) H := by
  obtain ⟨v, cs, n, rfl, hv, hl, q⟩ := h
  refine q_setN (K := K) (en_lst ea_nil) fun p xs H1 np e1 hp tp => ?_
  cases tp
  refine q_forG (K := K) (S := [p]) (ds := (encs cs).reverse) (eg_rev (by walk_at "ev") (by intro b hb; rw [List.mem_singleton.mp hb, hp]; intro z; cases z))
    (fun i σ' H' => ∃ (m : Str) (fs : List Kl) (ys : List V) (o : Option V), σ' = [some v, some (.str m), some (.ref p), o] ∧ rowA cs.reverse n = fs ++ rowA (cs.reverse.drop i) m ∧ fs.length ≤ i ∧ H' p = some (.lst ys) ∧ Tds K H' ys (encs fs)) ?_ ?_ ?_
  · intro H2 e2
    exact ⟨n, [], [], none, rfl, rfl, Nat.le_refl _, e2 _ _ hp, .nil⟩
  · rintro i x d σ' H' N g hd td ⟨m, fs, ys, o, rfl, hr, hlen, hp', ty⟩ hN
    obtain ⟨c, hc, rfl⟩ : ∃ c, cs.reverse[i]? = some c ∧ d = enc c := by
      rw [← List.map_reverse, List.getElem?_map] at hd
      cases hc : cs.reverse[i]? with
      | none => rw [hc] at hd; cases hd
      | some c => rw [hc] at hd; exact ⟨c, rfl, (Option.some.inj hd).symm⟩
    have hil : i < cs.reverse.length := (List.getElem?_eq_some_iff.mp hc).1
    have hdrop : cs.reverse.drop i = c :: cs.reverse.drop (i + 1) := by
      rw [List.drop_eq_getElem_cons hil, (List.getElem?_eq_some_iff.mp hc).2]
    rw [hdrop] at hr
    rw [List.length_reverse] at hil
    refine s_if (b := decide (c.name = m)) (et_test (ed_eqS (ed_ixT (d := .str c.name) (ed_var (d := enc c) rfl td) ed_int rfl) (ed_var (d := .str m) rfl (.str m)))) (fun hb H2 e2 => ?_) fun hb H2 e2 => ?_
    · have hb : c.name = m := of_decide_eq_true hb
      refine q_app (K := K) (d := enc c) (e2 _ _ hp') (var_is rfl) (ed_var rfl (td.ex e2)) (by rw [ty.len, List.length_map]; omega) fun w H3 e3 t3 => ?_
      have g3 : Gx [p] H' (upd H3 p (.lst (ys ++ [w]))) := Gx.upd (Gx.of (e2.trans e3)) (by simp) ((e2.trans e3) _ _ hp')
      refine s_setD (K := K) (d := .str c.upper) (ed_ixT (ed_var (d := enc c) rfl (td.gx g3)) ed_int rfl) fun z H4 e4 t4 => ?_
      have ez := t4.strI
      subst ez
      refine hN _ _ (g3.trans (Gx.of e4)) ⟨c.upper, fs ++ [c], ys ++ [w], _, rfl, ?_, by rw [List.length_append]; simp; omega, e4 _ _ upd_same, ?_⟩
      · rw [hr]
        show fs ++ (if c.name = m then c :: rowA (cs.reverse.drop (i + 1)) c.upper else rowA (cs.reverse.drop (i + 1)) m) = _
        rw [if_pos hb, List.append_assoc]
        rfl
      · show Tds K H4 (ys ++ [w]) ((fs ++ [c]).map enc)
        rw [List.map_append]
        exact Tds.snoc (ty.gx (g3.trans (Gx.of e4))) (t3.kt ((KT.put ((e2.trans e3) _ _ hp')).trans (.of e4)))
    · have hb : ¬ c.name = m := of_decide_eq_false hb
      refine hN _ _ (Gx.of e2) ⟨m, fs, ys, _, rfl, ?_, by omega, e2 _ _ hp', ty.ex e2⟩
      rw [hr]
      show fs ++ (if c.name = m then c :: rowA (cs.reverse.drop (i + 1)) c.upper else rowA (cs.reverse.drop (i + 1)) m) = _
      rw [if_neg hb]
  · rintro σ' H' g ⟨m, fs, ys, o, rfl, hr, hlen, hp', ty⟩
    refine ⟨.ref p, rfl, ?_⟩
    have e : Same H H' := Gx.same e1 g (by intro a ha; rw [List.mem_singleton.mp ha]; exact np)
    have hf : row cs n = fs := by
      have e0 : cs.reverse.drop ((encs cs).reverse.length) = [] := by
        rw [List.length_reverse, List.length_map, List.drop_eq_nil_iff, List.length_reverse]
        exact Nat.le_refl _
      rw [e0] at hr
      show rowA cs.reverse n = fs
      rw [hr]
      show fs ++ [] = fs
      rw [List.append_nil]
    exact q p ys H' np e hp' (by rw [hf]; exact ty)
end
section
variable {K : Frag} {mg : Str → Option Value} {aB aR aE aHouse : Addr}
theorem p_is_class (T : Txt K mg aB aR aE aHouse) (vs : List V) (H : Hp) (Q : VK) (E : XK) (h : sp_is_class K vs H Q E) : t_is_class K aB { nx := fun _ H' => Q .non H', rt := Q } (start N_is_class vs) H := by
  obtain ⟨v, v2, cs, c, rfl, hv, hl, hv2, o, q⟩ := h
  have h1 := o.name
  have h2 := o.bar
  have h3 := o.new
  have h4 := o.upw
  have h5 := o.up
  refine q_no (by walk_at "ev") fun H1 e1 => ?_
  refine q_no (by walk_at "ev") fun H2 e2 => ?_
  refine s_ret (K := K) (d := .bool true) (by walk_at "ev") fun w H3 e3 t => q w H3 ((e1.trans e2).trans e3) t
end
section
variable {K : Frag} {mg : Str → Option Value} {aB aR aE aHouse : Addr}
theorem p_are_fields (T : Txt K mg aB aR aE aHouse) (vs : List V) (H : Hp) (Q : VK) (E : XK) (h : sp_are_fields K vs H Q E) : t_are_fields K { nx := fun _ H' => Q .non H', rt := Q } (start N_are_fields vs) H := by
  obtain ⟨v, v2, a, zs, cs, names, c, rfl, hv, hl, hn, tn, hv2, o, hm, q⟩ := h
  have hmost : (c.fields.map encF).length ≤ 4 := by rw [List.length_map]; exact o.most
  refine q_no (by walk_at "ev") fun H1 e1 => ?_
  refine q_setN (K := K) (EvN.is (en_lc2 fieldsD hd0 (EvN.s (ds := encs (row cs c.upper)) (by walk_at "ev")) (by have := flat_fields_len c.upper hl hm; omega) (fun _ => rfl) (fun _ _ => rfl) (fun x d H2 e2 hd t => ?_) (fun x y d e H2 e2 hd he t => ?_)) (flat_fields _)) fun p xs H2 np e2 hp tp => ?_
  · obtain ⟨u, hu, rfl⟩ := List.mem_map.mp hd
    exact ed_ixT (ed_var (d := enc u) rfl t) ed_int rfl
  · obtain ⟨u, hu, rfl⟩ := List.mem_map.mp hd
    obtain ⟨f, hf, rfl⟩ := List.mem_map.mp he
    exact ed_ixT (ed_var (d := encF f) rfl t) ed_int rfl
  refine q_forG (K := K) (S := [p]) (ds := c.fields.map encF) (EvD.g (by walk_at "ev"))
    (fun i σ' H' => ∃ (ys : List V) (o1 o2 : Option V), σ' = [some v, some (.ref a), some v2, some (.ref p), o1, o2] ∧ H' p = some (.lst ys) ∧ Tds K H' ys (((row cs c.upper).flatMap fnames ++ (fnames c).take i).map PyData.str)) ?_ ?_ ?_
  · intro H3 e3
    refine ⟨xs, none, none, rfl, e3 _ _ hp, ?_⟩
    rw [List.take_zero, List.append_nil]
    exact tp.ex e3
  · rintro i x d σ' H' N g hd td ⟨ys, o1, o2, rfl, hp', ty⟩ hN
    obtain ⟨f, hf, rfl⟩ := map_getE hd
    have hfm : f ∈ c.fields := List.mem_of_getElem? hf
    have w1 := o.word f hfm
    obtain ⟨w2, hk⟩ := o.kind f hfm
    have hfi : (fnames c)[i]? = some f.1 := by
      show (c.fields.map (·.1))[i]? = _
      rw [List.getElem?_map, hf]
      rfl
    have hnew : f.1 ∉ (row cs c.upper).flatMap fnames ++ (fnames c).take i := by
      intro hmem
      rcases List.mem_append.mp hmem with hm1 | hm1
      · exact o.apart f hfm hm1
      · have hnd := o.nodup
        have e : fnames c = (fnames c).take (i + 1) ++ (fnames c).drop (i + 1) := (List.take_append_drop _ _).symm
        rw [e, take_snoc hfi] at hnd
        have := (List.nodup_append.mp (List.nodup_append.mp hnd).1).2.2
        exact this f.1 hm1 f.1 (by simp) rfl
    have hn' : Ls K H' a (names.map .str) := by
      have na : a ≠ p := fun z => by
        rw [z, e1.free np] at hn
        cases hn
      exact .of (g.keep _ _ (by simpa using na) ((e1.trans e2) _ _ hn)) ((tn.ex (e1.trans e2)).gx g)
    dsimp only [gName, List.set]
    refine q_no ?_ fun H3 e3 => ?_
    · refine et_or2 (by walk_at "ev") (et_or2 (by walk_at "ev") (et_or2 (by walk_at "ev") (et_test (K := K) ?_)))
      exact EvD.is (ed_in (ed_ixT (ed_var (d := encF f) rfl td) ed_int rfl) (EvL.s (el_var rfl (.of hp' ty)))) (congrArg PyData.bool (decide_eq_false hnew))
    refine q_no ?_ fun H4 e4 => ?_
    · refine et_or2 (by walk_at "ev") ?_
      by_cases hnum : f.2 = numS
      · refine et_andF (et_test (EvD.is (ed_neS (x := f.2) (y := "num") (by walk_at "ev") ed_str) ?_))
        rw [hnum]
        rfl
      · have hin : f.2 ∈ names := hk.resolve_left hnum
        refine EvT.is (et_and (b := true) (c := false) (et_test (EvD.is (ed_neS (x := f.2) (y := "num") (by walk_at "ev") ed_str) ?_)) fun _ => et_test (EvD.is (ed_notin (x := f.2) (xs := names) (by walk_at "ev") (EvL.s (el_var rfl (hn'.ex e3)))) ?_)) rfl
        · rw [decide_eq_false (show ¬ f.2 = ("num" : Str) from hnum)]; rfl
        · rw [decide_eq_true hin]; rfl
    refine s_app (K := K) (d := .str f.1) (e4 _ _ (e3 _ _ hp')) (var_is rfl) (by walk_at "ev") ?_ fun w H5 e5 t5 => ?_
    · rw [ty.len, List.length_map, List.length_append]
      have h1 := flat_fields_len c.upper hl hm
      have h2 : ((row cs c.upper).flatMap fnames).length ≤ 32 := by
        have := congrArg List.length (flat_fields (row cs c.upper))
        rw [List.length_map, List.length_map] at this
        omega
      have h3 : ((fnames c).take i).length ≤ 4 := by
        rw [List.length_take]
        have : (fnames c).length = c.fields.length := List.length_map _
        have := o.most
        omega
      omega
    · have e35 : Same H' H5 := (e3.trans e4).trans e5
      refine hN _ _ (Gx.upd (Gx.of e35) (by simp) (e35 _ _ hp')) ⟨_, _, _, rfl, upd_same, ?_⟩
      rw [take_snoc hfi, ← List.append_assoc, List.map_append (l₂ := [f.1])]
      exact ((ty.ex e35).snoc t5).kt (KT.put (e35 _ _ hp'))
  · rintro σ' H' g ⟨ys, o1, o2, rfl, hp', ty⟩
    refine s_ret (K := K) (d := .bool true) ed_bl fun w H3 e3 t => q w H3 ((Gx.same (e1.trans e2) g ?_).trans e3) t
    intro b hb
    rw [List.mem_singleton.mp hb]
    exact e1.free np
end
section
variable {K : Frag} {mg : Str → Option Value} {aB aR aE aHouse : Addr}
theorem p_is_kind_in (T : Txt K mg aB aR aE aHouse) (vs : List V) (H : Hp) (Q : VK) (E : XK) (h : sp_is_kind_in K vs H Q E) : t_is_kind_in K { nx := fun _ H' => Q .non H', rt := Q } (start N_is_kind_in vs) H := by
  obtain ⟨a, names, k, rfl, hv, ⟨h1, h2⟩, q⟩ := h
  refine s_ret (K := K) (d := .bool true) ?_ fun w H3 e3 t => q w H3 e3 t
  refine ed_andT (by walk_at "ev") (EvD.is (ed_or (b := decide (k = numS)) (c := decide (k ∈ names)) (ed_eqS (by walk_at "ev") ed_str) fun _ => ed_in (by walk_at "ev") (EvL.s (by walk_at "ev"))) ?_)
  congr 1
  simpa using h2
end
section
variable {K : Frag} {mg : Str → Option Value} {aB aR aE aHouse : Addr}
theorem sh_cut {m : Mth} (s : SeqAt.shaped (encM m) = true) : SeqAt.shaped (.tuple [.tuple (m.ins.map .str), .str m.out]) = true := by
  unfold SeqAt.shaped encM at *
  simp only [Bool.and_eq_true, decide_eq_true_eq, PyData.canLay0, PyData.canLayAll0, PyData.depth, PyData.depthAll] at s ⊢
  obtain ⟨⟨_, h1, h2, _⟩, h3⟩ := s
  have h3 := of_decide_eq_true h3
  exact ⟨⟨h1, h2, trivial⟩, decide_eq_true (by omega)⟩
theorem cut13 (a b c : PyData) (r : List PyData) : cutD (a :: b :: c :: r) (some 1) (some 3) = [b, c] := by
  unfold cutD
  have e : HT.sIx (a :: b :: c :: r).length 0 (some 1) = 1 := by
    have := HT.sIx_nat (a :: b :: c :: r).length 0 1
    rw [show ((1 : Nat) : Int) = 1 from rfl] at this
    rw [this]
    simp
  have e2 : HT.sIx (a :: b :: c :: r).length (a :: b :: c :: r).length (some 3) = 3 := by
    have := HT.sIx_nat (a :: b :: c :: r).length (a :: b :: c :: r).length 3
    rw [show ((3 : Nat) : Int) = 3 from rfl] at this
    rw [this]
    simp
  rw [e, e2]
  rfl
theorem p_is_method (T : Txt K mg aB aR aE aHouse) (vs : List V) (H : Hp) (Q : VK) (E : XK) (h : sp_is_method K vs H Q E) : t_is_method K { nx := fun _ H' => Q .non H', rt := Q } (start N_is_method vs) H := by
  obtain ⟨v, v2, a, i, cs, names, c, m, rfl, hv, hl, hn, hv2, hm, hml, o, hs1, hs2, q⟩ := h
  have w1 := o.word
  have hmost : (m.ins.map PyData.str).length ≤ 3 := by rw [List.length_map]; exact o.most
  have hnew := o.new
  have hk := o.out
  have hmx : (c.meths.map encM)[i]? = some (encM m) := by
    rw [List.getElem?_map, hm]
    rfl
  refine q_setD (K := K) (d := encM m) (ed_ixT (i := (i : Int)) (ds := c.meths.map encM) (by walk_at "ev") (ed_var rfl (.int _)) (atI_nat hmx)) fun w H1 e1 tw => ?_
  obtain ⟨x1, x2, ex⟩ : ∃ x1 x2, m.more = [x1, x2] := by
    have := o.more
    match hmm : m.more, this with
    | [x1, x2], _ => exact ⟨x1, x2, rfl⟩
  have twx : Td K H1 w (.tuple [.str m.word, .tuple (m.ins.map .str), .str m.out, x1, x2]) := by
    have e : encM m = .tuple (.str m.word :: .tuple (m.ins.map .str) :: .str m.out :: m.more) := rfl
    rw [ex] at e
    rw [← e]
    exact tw
  clear tw
  refine q_no (by walk_at "ev") fun H2 e2 => ?_
  refine q_no (et_or2 (et_test (EvD.is (ed_in (x := m.word) (xs := (c.meths.take i).map (·.word)) (by walk_at "ev") (EvN.s (EvN.is (en_lcM hd0 (EvD.s (ds := (c.meths.take i).map encM) (EvD.is (ed_sl (ds := c.meths.map encM) (by walk_at "ev") eo_none (eo_some (K := K) (i := (i : Int)) (by walk_at "ev"))) (by rw [cut_to, List.map_take]))) ?_ (fun _ => rfl) ?_) ?_))) (congrArg PyData.bool (decide_eq_false hnew)))) (by walk_at "ev")) fun H3 e3 => ?_
  · rw [List.length_map, List.length_take]
    omega
  · intro y d H3 e3 hd t
    obtain ⟨m2, hm2, rfl⟩ := List.mem_map.mp hd
    exact ed_ixT (ed_var (d := encM m2) rfl t) ed_int (at0 _ _)
  · rw [List.map_map, List.map_map]
    rfl
  refine q_no (et_or2 (et_nt (et_B (EvD.is (ed_all (bs := m.ins.map fun _ => true) (EvN.l (EvN.is (en_lcM (fun _ => PyData.bool true) (EvD.s (ds := m.ins.map .str) (by walk_at "ev")) (by omega) (fun _ => rfl) ?_) ?_))) ?_))) (et_nt (et_B (ev_is_kind_in (names := names) (by walk_at "ev") (by walk_at "ev") hk)))) fun H4 e4 => ?_
  · intro y d H4 e4 hd t
    obtain ⟨k, hk2, rfl⟩ := List.mem_map.mp hd
    exact ev_is_kind_in (names := names) (el_var rfl (hn.ex (((e1.trans e2).trans e3).trans e4))) (ed_var rfl t) (o.ins k hk2)
  · rw [List.map_map, List.map_map]
    rfl
  · congr 1
    simp
  have e14 := ((e1.trans e2).trans e3).trans e4
  have tw4 := twx.ex ((e2.trans e3).trans e4)
  have hv4 := hv.ex e14
  have hv24 := hv2.ex e14
  refine q_forG (K := K) (S := []) (ds := encs (row cs c.upper)) (EvN.g (ev_row_of (ed_var rfl hv4) (ed_ixT (ed_var (d := enc c) rfl hv24) ed_int rfl) hl) (by simp))
    (fun k σ' H' => ∃ (o1 o2 : Option V), σ' = [some v, some (.ref a), some v2, some (.int (i : Int)), some w, o1, o2, none] ∧ Same H4 H') ?_ ?_ ?_
  · intro H5 e5
    exact ⟨none, none, rfl, e5⟩
  · rintro k y d σ' H5 N g hd td ⟨o1, o2, rfl, e5⟩ hN
    obtain ⟨u, hu, rfl⟩ := map_getE hd
    have hur : u ∈ row cs c.upper := List.mem_of_getElem? hu
    dsimp only [gName, List.set]
    refine s_forG (K := K) (S := []) (ds := u.meths.map encM) (EvD.g (by walk_at "ev"))
      (fun j σ' H' => ∃ (o2 : Option V), σ' = [some v, some (.ref a), some v2, some (.int (i : Int)), some w, some y, o2, none] ∧ Same H5 H') ?_ ?_ ?_
    · intro H6 e6
      exact ⟨_, rfl, e6⟩
    · rintro j z d σ' H6 N2 g2 hd2 td2 ⟨p2, rfl, e6⟩ hN2
      obtain ⟨m', hm', rfl⟩ := map_getE hd2
      have hmm : m' ∈ u.meths := List.mem_of_getElem? hm'
      have tw6 := tw4.ex (e5.trans e6)
      dsimp only [gName, List.set]
      refine s_no0 (EvT.is (et_and (b := decide (m'.word = m.word)) (c := false) (et_test (ed_eqS (ed_ixT (d := .str m'.word) (ed_var (d := encM m') rfl td2) ed_int (at0 _ _)) (by walk_at "ev"))) fun hb => ?_) (by simp)) fun H7 e7 => hN2 _ _ (Gx.of e7) ⟨_, rfl, e6.trans e7⟩
      have hb : m'.word = m.word := of_decide_eq_true hb
      obtain ⟨q1, q2⟩ := o.same u hur m' hmm hb
      have sh1 := sh_cut (hs1 u (row_mem hur) m' hmm)
      have sh2 := sh_cut hs2
      refine et_test (EvD.is (ed_ne (K := K) (d := .tuple [.tuple (m'.ins.map .str), .str m'.out]) (e := .tuple [.tuple (m.ins.map .str), .str m.out]) (EvD.is (ed_sl (ed_var (d := encM m') rfl td2) (eo_some (K := K) ed_int) (eo_some (K := K) ed_int)) (congrArg PyData.tuple (cut13 _ _ _ _))) (EvD.is (ed_sl (ed_var rfl tw6) (eo_some (K := K) ed_int) (eo_some (K := K) ed_int)) (congrArg PyData.tuple (cut13 _ _ _ _))) sh1 sh2) ?_)
      rw [q1, q2]
      have : PyData.eqv (.tuple [.tuple (m.ins.map .str), .str m.out]) (.tuple [.tuple (m.ins.map .str), .str m.out]) = true := by
        simp only [PyData.eqv, PyData.eqvAll, eqvAll_strs, beq_str]
        simp
      rw [this]
      rfl
    · rintro σ' H6 g2 ⟨p2, rfl, e6⟩
      exact hN _ _ g2 ⟨_, _, rfl, e5.trans e6⟩
  · rintro σ' H5 g ⟨o1, o2, rfl, e5⟩
    exact s_ret (K := K) (d := .bool true) ed_bl fun w H6 e6 t => q w H6 ((e14.trans e5).trans e6) t
end
section
variable {K : Frag} {mg : Str → Option Value} {aB aR aE aHouse : Addr}
theorem p_has_seen (T : Txt K mg aB aR aE aHouse) (vs : List V) (H : Hp) (Q : VK) (E : XK) (h : sp_has_seen K vs H Q E) : t_has_seen K { nx := fun _ H' => Q .non H', rt := Q } (start N_has_seen vs) H := by
  obtain ⟨v, cs, c, x, part, rfl, hv, hl, hm, ho, q⟩ := h
  refine s_ret (K := K) (d := .bool true) ?_ q
  rcases ho with ⟨rfl, hx⟩ | ⟨rfl, hx⟩
  · have hall : (((row cs c).flatMap fnames).map fun y => decide (y = x)).any id = true := by
      rw [List.any_map, List.any_eq_true]
      exact ⟨x, hx, by simp⟩
    refine EvD.is (ed_any (bs := ((row cs c).flatMap fnames).map fun y => decide (y = x)) (EvN.l (EvN.is (en_lc2 fieldsD (fun d => match d with | .tuple (.str y :: _) => .bool (decide (y = x)) | d => d) (EvN.s (ds := encs (row cs c)) (by walk_at "ev")) (by have := flat_fields_len c hl (fun u hu => (hm u hu).1); omega) (fun _ => rfl) (fun _ _ => rfl) (fun x d H2 e2 hd t => ?_) (fun x y d e H2 e2 hd he t => ?_)) ?_))) (by rw [hall])
    · obtain ⟨u, hu, rfl⟩ := List.mem_map.mp hd
      exact ed_ixT (ed_var (d := enc u) rfl t) (ed_var (d := .int 2) rfl (.int 2)) rfl
    · obtain ⟨u, hu, rfl⟩ := List.mem_map.mp hd
      obtain ⟨f, hf, rfl⟩ := List.mem_map.mp he
      exact ed_eqS (ed_ixT (d := .str f.1) (ed_var (d := encF f) rfl t) ed_int rfl) (ed_var rfl (.str _))
    · have e := congrArg (List.map (fun d : PyData => match d with | .str y => PyData.bool (decide (y = x)) | d => d)) (flat_fields (row cs c))
      rw [List.map_map, List.map_map] at e
      rw [List.map_map]
      refine Eq.trans ?_ e
      refine List.map_congr_left fun d hd => ?_
      obtain ⟨u, hu, hd⟩ := List.mem_flatMap.mp hd
      obtain ⟨u, hu, rfl⟩ := List.mem_map.mp hu
      obtain ⟨f, hf, rfl⟩ := List.mem_map.mp hd
      rfl
  · have hall : (((row cs c).flatMap mnames).map fun y => decide (y = x)).any id = true := by
      rw [List.any_map, List.any_eq_true]
      exact ⟨x, hx, by simp⟩
    refine EvD.is (ed_any (bs := ((row cs c).flatMap mnames).map fun y => decide (y = x)) (EvN.l (EvN.is (en_lc2 methsD (fun d => match d with | .tuple (.str y :: _) => .bool (decide (y = x)) | d => d) (EvN.s (ds := encs (row cs c)) (by walk_at "ev")) (by have := flat_meths_len c hl (fun u hu => (hm u hu).2); omega) (fun _ => rfl) (fun _ _ => rfl) (fun x d H2 e2 hd t => ?_) (fun x y d e H2 e2 hd he t => ?_)) ?_))) (by rw [hall])
    · obtain ⟨u, hu, rfl⟩ := List.mem_map.mp hd
      exact ed_ixT (ed_var (d := enc u) rfl t) (ed_var (d := .int 3) rfl (.int 3)) rfl
    · obtain ⟨u, hu, rfl⟩ := List.mem_map.mp hd
      obtain ⟨f, hf, rfl⟩ := List.mem_map.mp he
      exact ed_eqS (ed_ixT (d := .str f.word) (ed_var (d := encM f) rfl t) ed_int (at0 _ _)) (ed_var rfl (.str _))
    · have e := congrArg (List.map (fun d : PyData => match d with | .str y => PyData.bool (decide (y = x)) | d => d)) (flat_meths (row cs c))
      rw [List.map_map, List.map_map] at e
      rw [List.map_map]
      refine Eq.trans ?_ e
      refine List.map_congr_left fun d hd => ?_
      obtain ⟨u, hu, hd⟩ := List.mem_flatMap.mp hd
      obtain ⟨u, hu, rfl⟩ := List.mem_map.mp hu
      obtain ⟨f, hf, rfl⟩ := List.mem_map.mp hd
      rfl
end
section
variable {K : Frag} {mg : Str → Option Value} {aB aR aE aHouse : Addr}
abbrev Tail4 (K : Frag) (aR : Addr) : TS :=
    (tSeq (tIfS (tTest (tOp rEq (tCB (rLen K) (tCons (tVar 3) tNil)) (tC (.int 1)))) (tRet (tOp (rIn K false) (tOp (rIx K) (tVar 3) (tC (.int 0))) (tC (.ref aR)))) tNext)
    (tSeq (tIfS (tTest (tOp rEq (tCB (rLen K) (tCons (tVar 3) tNil)) (tC (.int 2)))) (tSeq (tAsg (tDisp [((tC (.str "push")), (tC (.int 15))), ((tC (.str "take")), (tOp rSub (tC (.int 4)) (tC (.int 1)))), ((tC (.str "keep")), (tOp rSub (tC (.int 4)) (tC (.int 1)))), ((tC (.str "go")), (tOp rSub (tCB (rLen K) (tCons (tVar 1) tNil)) (tC (.int 1)))), ((tC (.str "if")), (tOp rSub (tCB (rLen K) (tCons (tVar 1) tNil)) (tC (.int 1))))]) (gName 5))
    (tSeq (tIfS (tB (tDIn (tOp (rIx K) (tVar 3) (tC (.int 0))) (tVar 5))) (tRet (tCall (sp_is_in K) [] C8.E0 (tCons (tOp (rIx K) (tVar 3) (tC (.int 1))) (tCons (tC (.int 0)) (tCons (tDGet (tVar 5) (tOp (rIx K) (tVar 3) (tC (.int 0)))) tNil))))) tNext)
    (tRet (tAndV (tOp (rIn K false) (tOp (rIx K) (tVar 3) (tC (.int 0))) (tTup (tCons (tC (.str "new")) (tCons (tC (.str "cast")) (tCons (tC (.str "is")) tNil))))) (tAndV (tCall (sp_is_word K) [] C8.E0 (tCons (tOp (rIx K) (tVar 3) (tC (.int 1))) tNil)) (tOp (rIn K false) (tOp (rIx K) (tVar 3) (tC (.int 1))) (tCall (sp_names_of K) [] C8.E0 (tCons (tVar 0) tNil)))))))) tNext)
    (tSeq (tIfS (tOr (tTest (tOp rNe (tCB (rLen K) (tCons (tVar 3) tNil)) (tC (.int 3)))) (tOr (tNot (tB (tCall (sp_is_word K) [] C8.E0 (tCons (tOp (rIx K) (tVar 3) (tC (.int 1))) tNil)))) (tNot (tB (tCall (sp_is_word K) [] C8.E0 (tCons (tOp (rIx K) (tVar 3) (tC (.int 2))) tNil)))))) (tRet (tC (.bl false))) tNext)
    (tSeq (tAsg (tDisp [((tC (.str "get")), (tC (.int 2))), ((tC (.str "put")), (tC (.int 2))), ((tC (.str "call")), (tC (.int 3)))]) (gName 4))
    (tRet (tAndV (tDIn (tOp (rIx K) (tVar 3) (tC (.int 0))) (tVar 4)) (tCall (sp_has_seen K) [] C8.E0 (tCons (tVar 0) (tCons (tOp (rIx K) (tVar 3) (tC (.int 1))) (tCons (tOp (rIx K) (tVar 3) (tC (.int 2))) (tCons (tDGet (tVar 4) (tOp (rIx K) (tVar 3) (tC (.int 0)))) tNil)))))))))))
/-- the two tests ahead, for a step that begins with a text -/
theorem step_front (T : Txt K mg aB aR aE aHouse) {v v2 w : V} {cs : List Kl} {code : List PyData} {i : Nat} {x : Str} {ds : List PyData} {H : Hp} {D : Ends} (hv2 : Td K H v2 (.tuple code)) (hc : code.length ≤ 20) (hi : i < code.length) (tw : Td K H w (.tuple (.str x :: ds)))
    (sh : SeqAt.shaped (.tuple (.str x :: ds)) = true) (hl : i + 1 = code.length → x ∈ endsL) {tz : TS}
    (k : ∀ H1, Same H H1 → tz D [some v, some v2, some (.int (i : Int)), some w, none, none] H1) :
    (tSeq (tIfS (tOr (tNot (tB (tCB (rIsi K) (tCons (tVar 3) (tCons (tC (.ty "tuple")) tNil))))) (tOr (tTest (tOp (rEqD K) (tVar 3) (tTup tNil))) (tNot (tB (tCB (rIsi K) (tCons (tOp (rIx K) (tVar 3) (tC (.int 0))) (tCons (tC (.ty "str")) tNil))))))) (tRet (tC (.bl false))) tNext)
    (tSeq (tIfS (tAnd (tTest (tOp rEq (tVar 2) (tOp rSub (tCB (rLen K) (tCons (tVar 1) tNil)) (tC (.int 1))))) (tTest (tOp (rIn K true) (tOp (rIx K) (tVar 3) (tC (.int 0))) (tC (.ref aE))))) (tRet (tC (.bl false))) tNext) tz)) D [some v, some v2, some (.int (i : Int)), some w, none, none] H := by
  refine q_no (et_or2 (by walk_at "ev") (et_or2 (et_test (EvD.is (ed_eq (K := K) (ed_var rfl tw) (ed_tup ea_nil (by decide)) sh ((Sh.tup (n := 0) (by simp)).shaped (by decide))) (by rw [eqvT_nil]))) (by walk_at "ev"))) fun H1 e1 => ?_
  have tw1 := tw.ex e1
  refine q_no (EvT.is (et_and (b := decide ((i : Int) = (code.length : Int) - 1)) (c := false) (et_test (ed_eqI (K := K) (ed_var rfl (.int _)) (ed_I0 (i := (code.length : Int)) (j := 1) (ed_lenD (ed_var rfl (hv2.ex e1))) ed_int (fun _ => Td.int _)))) fun hb => ?_) (by simp)) fun H2 e2 => k H2 (e1.trans e2)
  have hb : (i : Int) = (code.length : Int) - 1 := of_decide_eq_true hb
  have hx := hl (by omega)
  exact et_test (EvD.is (ed_notin (x := x) (xs := endsL) (ed_ixT (ed_var rfl tw1) ed_int (at0 _ _)) (EvD.s (ed_c T.d_ENDS))) (by rw [decide_eq_true hx]; rfl))
theorem p_is_step (T : Txt K mg aB aR aE aHouse) (vs : List V) (H : Hp) (Q : VK) (E : XK) (h : sp_is_step K vs H Q E) : t_is_step K aR aE { nx := fun _ H' => Q .non H', rt := Q } (start N_is_step vs) H := by
  obtain ⟨v, v2, cs, code, i, d, rfl, hv, hl, hv2, hc, hd, o, q⟩ := h
  have h9 := hl.most
  have hi := lt_of_get hd
  refine q_setD (K := K) (d := d) (ed_ixT (i := (i : Int)) (by walk_at "ev") (ed_var rfl (.int _)) (atI_nat hd)) fun w H1 e1 tw => ?_
  have hv1 := hv.ex e1
  have hv21 := hv2.ex e1
  have sh := (step_sh o).shaped (by decide)
  cases o with
  | @bare x hx hlast =>
    refine step_front T (D := _) (tz := Tail4 K aR) (cs := cs) hv21 hc hi tw sh hlast fun H2 e2 => ?_
    have tw2 := tw.ex e2
    refine q_yes (by walk_at "ev") fun H3 e3 => ?_
    refine s_ret (K := K) (d := .bool true) (by walk_at "ev") fun z H4 e4 t => q z H4 (((e1.trans e2).trans e3).trans e4) t
  | @num x j hi2 hx h1 h2 hlast =>
    refine step_front T (D := _) (tz := Tail4 K aR) (cs := cs) hv21 hc hi tw sh hlast fun H2 e2 => ?_
    have tw2 := tw.ex e2
    refine q_no (by walk_at "ev") fun H3 e3 => ?_
    refine q_yes (by walk_at "ev") fun H4 e4 => ?_
    refine q_disp (kis := [("push", 15), ("take", 3), ("keep", 3), ("go", (code.length : Int) - 1), ("if", (code.length : Int) - 1)]) (ep_cons (K := K) ed_str ed_int (ep_cons (K := K) ed_str (by walk_at "ev") (ep_cons (K := K) ed_str (by walk_at "ev") (ep_cons (K := K) ed_str (by walk_at "ev") (ep_cons (K := K) ed_str (by walk_at "ev") ep_nil))))) (by simp) fun p H5 hp e5 hd5 => ?_
    have hval : valV (mergeK [] (kvI [("push", 15), ("take", 3), ("keep", 3), ("go", (code.length : Int) - 1), ("if", (code.length : Int) - 1)])) (.inr x) = some (.int hi2) := by
      simp only [List.mem_cons, List.not_mem_nil, or_false, Prod.mk.injEq] at hx
      rcases hx with ⟨rfl, rfl⟩ | ⟨rfl, rfl⟩ | ⟨rfl, rfl⟩ | ⟨rfl, rfl⟩ | ⟨rfl, rfl⟩ <;> rfl
    have tw5 := tw2.ex ((e3.trans e4).trans e5)
    refine q_yes (et_B (EvD.is (ed_dIn (ed_ixT (ed_var (d := .tuple [.str x, .int j]) rfl tw5) ed_int rfl) rfl hd5) (by rw [hval]; rfl))) fun H6 e6 => ?_
    have tw6 := tw5.ex e6
    refine s_ret (K := K) (d := .bool true) (ev_is_in (i := j) (l := 0) (m := hi2) (by walk_at "ev") ed_int (ed_dGet rfl (e6 _ _ hd5) (by walk_at "ev") hval (fun _ => .int _)) h1 h2) fun z H7 e7 t => q z H7 ((((((e1.trans e2).trans e3).trans e4).trans e5).trans e6).trans e7) t
  | @cls x c hx wc hcn hlast =>
    refine step_front T (D := _) (tz := Tail4 K aR) (cs := cs) hv21 hc hi tw sh (fun h => absurd h hlast) fun H2 e2 => ?_
    have tw2 := tw.ex e2
    have hv2' := hv1.ex e2
    refine q_no (by walk_at "ev") fun H3 e3 => ?_
    refine q_yes (by walk_at "ev") fun H4 e4 => ?_
    refine q_disp (kis := [("push", 15), ("take", 3), ("keep", 3), ("go", (code.length : Int) - 1), ("if", (code.length : Int) - 1)]) (ep_cons (K := K) ed_str ed_int (ep_cons (K := K) ed_str (by walk_at "ev") (ep_cons (K := K) ed_str (by walk_at "ev") (ep_cons (K := K) ed_str (by walk_at "ev") (ep_cons (K := K) ed_str (by walk_at "ev") ep_nil))))) (by simp) fun p H5 hp e5 hd5 => ?_
    have hval : valV (mergeK [] (kvI [("push", 15), ("take", 3), ("keep", 3), ("go", (code.length : Int) - 1), ("if", (code.length : Int) - 1)])) (.inr x) = none := by
      simp only [List.mem_cons, List.not_mem_nil, or_false] at hx
      rcases hx with rfl | rfl | rfl <;> rfl
    have tw5 := tw2.ex ((e3.trans e4).trans e5)
    have hv5 := hv2'.ex ((e3.trans e4).trans e5)
    refine q_no (et_B (EvD.is (ed_dIn (ed_ixT (ed_var (d := .tuple [.str x, .str c]) rfl tw5) ed_int rfl) rfl hd5) (by rw [hval]; rfl))) fun H6 e6 => ?_
    have tw6 := tw5.ex e6
    have hv6 := hv5.ex e6
    refine s_ret (K := K) (d := .bool true) (ed_andT (EvD.is (ed_in (x := x) (xs := ["new", "cast", "is"]) (by walk_at "ev") (EvD.s (by walk_at "ev"))) (by rw [decide_eq_true hx])) (ed_andT (by walk_at "ev") (by walk_at "ev"))) fun z H7 e7 t => q z H7 ((((((e1.trans e2).trans e3).trans e4).trans e5).trans e6).trans e7) t
  | @fld x c f hx wc wf hf hlast =>
    refine step_front T (D := _) (tz := Tail4 K aR) (cs := cs) hv21 hc hi tw sh (fun h => absurd h hlast) fun H2 e2 => ?_
    have tw2 := tw.ex e2
    have hv2' := hv1.ex e2
    refine q_no (by walk_at "ev") fun H3 e3 => ?_
    refine q_no (by walk_at "ev") fun H4 e4 => ?_
    refine q_no (by walk_at "ev") fun H5 e5 => ?_
    refine q_disp (kis := [("get", 2), ("put", 2), ("call", 3)]) (ep_cons (K := K) ed_str ed_int (ep_cons (K := K) ed_str ed_int (ep_cons (K := K) ed_str ed_int ep_nil))) (by decide) fun p H6 hp e6 hd6 => ?_
    have hval : valV (mergeK [] (kvI [("get", 2), ("put", 2), ("call", 3)])) (.inr x) = some (.int 2) := by
      simp only [List.mem_cons, List.not_mem_nil, or_false] at hx
      rcases hx with rfl | rfl <;> rfl
    have e26 : Same H2 H6 := ((e3.trans e4).trans e5).trans e6
    have tw6 := tw2.ex e26
    have hv6 := hv2'.ex e26
    refine s_ret (K := K) (d := .bool true) (ed_andT (EvD.is (ed_dIn (ed_ixT (ed_var (d := .tuple [.str x, .str c, .str f]) rfl tw6) ed_int rfl) rfl hd6) (by rw [hval]; rfl)) (ev_has_seen (part := 2) (cs := cs) (n := c) (x := f) (by walk_at "ev") (by walk_at "ev") (by walk_at "ev") (ed_dGet rfl hd6 (by walk_at "ev") hval (fun _ => .int _)) h9 hl.parts (.inl ⟨rfl, hf⟩))) fun z H7 e7 t => q z H7 (((e1.trans e2).trans e26).trans e7) t
  | @call c f wc wf hf hlast =>
    refine step_front T (D := _) (tz := Tail4 K aR) (cs := cs) hv21 hc hi tw sh (fun h => absurd h hlast) fun H2 e2 => ?_
    have tw2 := tw.ex e2
    have hv2' := hv1.ex e2
    refine q_no (by walk_at "ev") fun H3 e3 => ?_
    refine q_no (by walk_at "ev") fun H4 e4 => ?_
    refine q_no (by walk_at "ev") fun H5 e5 => ?_
    refine q_disp (kis := [("get", 2), ("put", 2), ("call", 3)]) (ep_cons (K := K) ed_str ed_int (ep_cons (K := K) ed_str ed_int (ep_cons (K := K) ed_str ed_int ep_nil))) (by decide) fun p H6 hp e6 hd6 => ?_
    have hval : valV (mergeK [] (kvI [("get", 2), ("put", 2), ("call", 3)])) (.inr "call") = some (.int 3) := rfl
    have e26 : Same H2 H6 := ((e3.trans e4).trans e5).trans e6
    have tw6 := tw2.ex e26
    have hv6 := hv2'.ex e26
    refine s_ret (K := K) (d := .bool true) (ed_andT (EvD.is (ed_dIn (ed_ixT (ed_var (d := .tuple [.str "call", .str c, .str f]) rfl tw6) ed_int rfl) rfl hd6) (by rw [hval]; rfl)) (ev_has_seen (part := 3) (cs := cs) (n := c) (x := f) (by walk_at "ev") (by walk_at "ev") (by walk_at "ev") (ed_dGet rfl hd6 (by walk_at "ev") hval (fun _ => .int _)) h9 hl.parts (.inr ⟨rfl, hf⟩))) fun z H7 e7 t => q z H7 (((e1.trans e2).trans e26).trans e7) t
end
section
variable {K : Frag} {mg : Str → Option Value} {aB aR aE aHouse : Addr}
theorem p_is_handler (T : Txt K mg aB aR aE aHouse) (vs : List V) (H : Hp) (Q : VK) (E : XK) (h : sp_is_handler K vs H Q E) : t_is_handler K { nx := fun _ H' => Q .non H', rt := Q } (start N_is_handler vs) H := by
  obtain ⟨v, v2, v3, cs, code, d, rfl, hv, hl, hv2, hc, hv3, o, q⟩ := h
  obtain @⟨a, b, g, c, h1, h2, h3, h4, h5, h6, h7, h8⟩ := o
  have h9 := hl.most
  refine q_no (by walk_at "ev") fun H1 e1 => ?_
  refine q_no (by walk_at "ev") fun H2 e2 => ?_
  refine s_ret (K := K) (d := .bool true) (by walk_at "ev") fun w H3 e3 t => q w H3 ((e1.trans e2).trans e3) t
end
section
variable {K : Frag} {mg : Str → Option Value} {aB aR aE aHouse : Addr}
theorem p_check_code (T : Txt K mg aB aR aE aHouse) (vs : List V) (H : Hp) (Q : VK) (E : XK) (h : sp_check_code K vs H Q E) : t_check_code K { nx := fun _ H' => Q .non H', rt := Q } (start N_check_code vs) H := by
  obtain ⟨v, v2, i, j, cs, m, code, hs, rfl, hv, hl, hv2, hm, o, q⟩ := h
  have hv2 : Td K H v2 (.tuple [.str m.word, .tuple (m.ins.map .str), .str m.out, .tuple code, .tuple hs]) := by
    have e : encM m = .tuple (.str m.word :: .tuple (m.ins.map .str) :: .str m.out :: m.more) := rfl
    rw [hm] at e
    rw [← e]
    exact hv2
  have hc := o.most
  have hh := o.hmost
  obtain ⟨s1, s2⟩ := code_sh o
  obtain ⟨d0, ds0, rfl⟩ : ∃ d0 ds0, code = d0 :: ds0 := by
    cases code with
    | nil => exact absurd rfl o.ne
    | cons a b => exact ⟨a, b, rfl⟩
  refine q_setD (K := K) (d := .tuple (d0 :: ds0)) (by walk_at "ev") fun w H1 e1 tw => ?_
  refine q_no (et_or2 (by walk_at "ev") (et_test (EvD.is (ed_eq (K := K) (ed_var rfl tw) (ed_tup ea_nil (by decide)) (s1.shaped (by decide)) ((Sh.tup (n := 0) (by simp)).shaped (by decide))) (by rw [eqvT_nil])))) fun H2 e2 => ?_
  refine q_forR (K := K) (n := (d0 :: ds0).length) (by walk_at "ev") (by omega)
    (fun k σ' H' => ∃ (o1 o2 o3 : Option V), σ' = [some v, some (.int i), some (.int j), some v2, some w, o1, o2, o3] ∧ Same H2 H') ?_ ?_ ?_
  · intro H3 e3
    exact ⟨none, none, none, rfl, e3⟩
  · rintro k σ' H' N hk ⟨o1, o2, o3, rfl, e'⟩ hN
    dsimp only [List.set]
    have hd := List.getElem?_eq_getElem hk
    have ho := o.steps k _ hd
    refine s_no0 (et_nt (et_B (ev_is_step (d := (d0 :: ds0)[k]) (i := k) (code := d0 :: ds0) (ed_var rfl ?_) (by walk_at "ev") (ed_var rfl (.int _)) hl hc hd ho))) fun H3 e3 => hN _ _ ⟨_, _, _, rfl, e'.trans e3⟩
    exact hv.ex ((e1.trans e2).trans e')
  · rintro σ' H' ⟨o1, o2, o3, rfl, e'⟩
    refine q_no (by walk_at "ev") fun H3 e3 => ?_
    refine s_forE (K := K) (S := []) (ds := hs) (by walk_at "ev")
      (fun k σ' H' => ∃ (o1 o2 o3 : Option V), σ' = [some v, some (.int i), some (.int j), some v2, some w, o1, o2, o3] ∧ Same H3 H') ?_ ?_ ?_
    · intro H4 e4
      exact ⟨_, _, _, rfl, e4⟩
    · rintro k x d σ2 H4 N g hd td ⟨H0, e0, p1, p2, p3, rfl, e4⟩ hN
      dsimp only [List.set]
      have e4 := e4.trans e0
      refine s_no0 (et_nt (et_B (ev_is_handler (code := d0 :: ds0) (d := d) (ed_var rfl ?_) (by walk_at "ev") (ed_var rfl td) hl hc (o.hands d (List.mem_of_getElem? hd))))) fun H5 e5 => hN _ _ (Gx.of e5) ⟨_, _, _, rfl, e4.trans e5⟩
      exact hv.ex ((((e1.trans e2).trans e').trans e3).trans e4)
    · rintro σ2 H4 g ⟨p1, p2, p3, rfl, e4⟩
      exact q .non H4 ((((e1.trans e2).trans e').trans e3).trans e4) .non
end
section
variable {K : Frag} {mg : Str → Option Value} {aB aR aE aHouse : Addr}
theorem cut_encs {cs : List Kl} (i : Nat) : cutD (encs cs) none (some (i : Int)) = encs (cs.take i) := by
  rw [cut_to]
  exact (List.map_take ..).symm
theorem ed_cut {σ : L2.St} {H : Hp} {v : V} {cs : List Kl} {i n k : Nat} (h : σ[k]? = some (some v)) (t : Td K H v (.tuple (encs cs))) (hi : σ[n]? = some (some (.int (i : Int)))) : EvD K (tSl (rSlX K) (tVar k) tNoPart (tPart (tVar n))) σ H (.tuple (encs (cs.take i))) :=
  EvD.is (ed_sl (ed_var h t) eo_none (eo_some (K := K) (ed_var hi (.int _)))) (congrArg PyData.tuple (cut_encs i))
theorem p_check_classes (T : Txt K mg aB aR aE aHouse) (vs : List V) (H : Hp) (Q : VK) (E : XK) (h : sp_check_classes K vs H Q E) : t_check_classes K { nx := fun _ H' => Q .non H', rt := Q } (start N_check_classes vs) H := by
  obtain ⟨v, cs, rfl, hv, g, q⟩ := h
  have h8 := g.most
  have h8' : (encs cs).length ≤ 8 := by rw [List.length_map]; exact h8
  have hne : ∃ c0 r, cs = c0 :: r := by
    cases cs with
    | nil => exact absurd rfl g.ne
    | cons a b => exact ⟨a, b, rfl⟩
  have htk : ∀ i : Nat, (cs.take i).length ≤ 8 := fun i => by rw [List.length_take]; omega
  refine q_no (et_or2 (by walk_at "ev") (et_test (EvD.is (ed_eq (K := K) (ed_var rfl hv) (ed_tup ea_nil (by decide)) (g.sh.shaped (by decide)) ((Sh.tup (n := 0) (by simp)).shaped (by decide))) ?_))) fun H1 e1 => ?_
  · obtain ⟨c0, r, rfl⟩ := hne
    show PyData.bool (PyData.eqv (.tuple (enc c0 :: encs r)) (.tuple [])) = _
    rw [eqvT_nil]
  refine q_forE (K := K) (S := []) (ds := encs cs) (by walk_at "ev")
    (fun k σ' H' => ∃ (o1 o2 : Option V), σ' = [some v, none, o1, o2, none, none] ∧ Same H1 H') ?_ ?_ ?_
  · intro H2 e2
    exact ⟨none, none, rfl, e2⟩
  · rintro k x d σ' H' N _ hd td ⟨H0, e0, o1, o2, rfl, e'⟩ hN
    obtain ⟨c, hc, rfl⟩ := map_getE hd
    have e' := e'.trans e0
    dsimp only [List.set]
    exact s_no0 (et_nt (et_B (ev_is_class (cs := cs.take k) (c := c) (ed_cut rfl (hv.ex (e1.trans e')) rfl) (ed_var rfl td) (htk k) (g.cls k c hc)))) fun H3 e3 => hN _ _ (Gx.of e3) ⟨_, _, rfl, e'.trans e3⟩
  rintro σ' H' _ ⟨o1, o2, rfl, e'⟩
  have e2 := e1.trans e'
  clear e' e1
  refine q_setN (K := K) (ev_names_of (ed_var rfl (hv.ex e2)) h8) fun p xs H3 np e3 hp tp => ?_
  dsimp only [List.set]
  refine q_forE (K := K) (S := []) (ds := encs cs) (ed_var rfl (hv.ex (e2.trans e3)))
    (fun k σ' H' => ∃ (o1 o2 o3 : Option V), σ' = [some v, some (.ref p), o1, o2, o3, none] ∧ Same H3 H') ?_ ?_ ?_
  · intro H4 e4
    exact ⟨_, _, _, rfl, e4⟩
  · rintro k x d σ' H4 N _ hd td ⟨H0, e0, o1, o2, o3, rfl, e4⟩ hN
    obtain ⟨c, hc, rfl⟩ := map_getE hd
    have hcm : c ∈ cs := List.mem_of_getElem? hc
    have e4 := e4.trans e0
    have hv4 := hv.ex ((e2.trans e3).trans e4)
    have hp4 := e4 _ _ hp
    have tp4 := tp.ex e4
    have hml : (c.meths.map encM).length ≤ 4 := by rw [List.length_map]; exact g.mmost c hcm
    dsimp only [List.set]
    refine q_no (et_nt (et_B (ev_are_fields (cs := cs.take k) (c := c) (names := namesL cs) (ed_cut rfl hv4 rfl) rfl hp4 tp4 (ed_var rfl td) (htk k) (g.flds k c hc) fun u hu => g.f4 u (List.mem_of_mem_take hu)))) fun H5 e5 => ?_
    have td5 := td.ex e5
    refine q_no (by walk_at "ev") fun H6 e6 => ?_
    refine s_forR (K := K) (n := c.meths.length) (EvD.is (ed_lenD (ds := c.meths.map encM) (by walk_at "ev")) (by rw [List.length_map])) (by have := g.mmost c hcm; omega)
      (fun j σ' H' => ∃ (o3 : Option V), σ' = [some v, some (.ref p), some (.int (k : Int)), some x, o3, none] ∧ Same H6 H') ?_ ?_ ?_
    · intro H7 e7
      exact ⟨_, rfl, e7⟩
    · rintro j σ' H7 N2 hj ⟨p3, rfl, e7⟩ hN2
      have hm := List.getElem?_eq_getElem hj
      have e47 : Same H4 H7 := (e5.trans e6).trans e7
      dsimp only [List.set]
      exact s_no0 (et_nt (et_B (ev_is_method (cs := cs.take k) (c := c) (i := j) (m := c.meths[j]) (names := namesL cs) (ed_cut rfl (hv4.ex e47) rfl) (el_var rfl (.of (e47 _ _ hp4) (tp4.ex e47))) (ed_var rfl (td.ex e47)) (ed_var rfl (.int _)) (htk k) hm (g.mmost c hcm) (g.mths k c hc j _ hm)
        (fun u hu m' hm' => (g.shM (List.mem_of_mem_take hu) hm').shaped (by decide)) ((g.shM hcm (List.mem_of_getElem? hm)).shaped (by decide))))) fun H8 e8 => hN2 _ _ ⟨_, rfl, e7.trans e8⟩
    · rintro σ' H7 ⟨p3, rfl, e7⟩
      exact hN _ _ (Gx.of ((e5.trans e6).trans e7)) ⟨_, _, _, rfl, ((e4.trans e5).trans e6).trans e7⟩
  rintro σ' H4 _ ⟨o1, o2, o3, rfl, e4⟩
  have e5 := (e2.trans e3).trans e4
  clear e2 e3 e4 hp tp
  refine s_forE (K := K) (S := []) (ds := encs cs) (ed_var rfl (hv.ex e5))
    (fun k σ' H' => ∃ (o1 o2 o3 o4 : Option V), σ' = [some v, some (.ref p), o1, o2, o3, o4] ∧ Same H4 H') ?_ ?_ ?_
  · intro H6 e6
    exact ⟨_, _, _, _, rfl, e6⟩
  · rintro k x d σ' H6 N _ hd td ⟨H0, e0, p1, p2, p3, p4, rfl, e6⟩ hN
    obtain ⟨c, hc, rfl⟩ := map_getE hd
    have hcm : c ∈ cs := List.mem_of_getElem? hc
    have e6 := e6.trans e0
    dsimp only [List.set]
    refine s_forE (K := K) (S := []) (ds := c.meths.map encM) (by walk_at "ev")
      (fun j σ' H' => ∃ (o3 o4 : Option V), σ' = [some v, some (.ref p), some (.int (k : Int)), some x, o3, o4] ∧ Same H6 H') ?_ ?_ ?_
    · intro H7 e7
      exact ⟨_, _, rfl, e7⟩
    · rintro j y d σ' H7 N2 _ hd2 td2 ⟨H0, e0, r1, r2, rfl, e7⟩ hN2
      obtain ⟨m, hm, rfl⟩ := map_getE hd2
      have e7 := e7.trans e0
      obtain ⟨code, hs, em, oc⟩ := g.codes c hcm m (List.mem_of_getElem? hm)
      dsimp only [List.set]
      exact s_drop (K := K) (ev_check_code (cs := cs) (m := m) (code := code) (hs := hs) (ed_var rfl (hv.ex ((e5.trans e6).trans e7))) (ed_var rfl (.int _)) (ed_var rfl (.int _)) (ed_var rfl td2) g.lean em oc) fun H8 e8 => hN2 _ _ (Gx.of e8) ⟨_, _, rfl, e7.trans e8⟩
    · rintro σ' H7 _ ⟨r1, r2, rfl, e7⟩
      exact hN _ _ (Gx.of e7) ⟨_, _, _, _, rfl, e6.trans e7⟩
  · rintro σ' H6 _ ⟨p1, p2, p3, p4, rfl, e6⟩
    exact q .non H6 (e5.trans e6) .non
end
section
variable {K : Frag} {mg : Str → Option Value} {aB aR aE aHouse : Addr}
theorem p_need_house (T : Txt K mg aB aR aE aHouse) (vs : List V) (H : Hp) (Q : VK) (E : XK) (h : sp_need_house K aHouse vs H Q E) : t_need_house K aHouse { nx := fun _ H' => Q .non H', rt := Q } (start N_need_house vs) H := by
  obtain ⟨a, cs, rfl, ho, q⟩ := h
  obtain ⟨dx, v, h1, h2, h3⟩ := ho
  refine s_no0 (fun H1 e Q2 q2 => ?_) fun H1 e => q .non H1 e .non
  refine ⟨_, rfl, a, dx, _, rfl, e _ _ h1, true, rfl, ?_⟩
  exact q2 H1 (Same.refl H1)
end
section
variable {K : Frag} {mg : Str → Option Value} {aB aR aE aHouse : Addr}
theorem p_need_name (T : Txt K mg aB aR aE aHouse) (vs : List V) (H : Hp) (Q : VK) (E : XK) (h : sp_need_name K aHouse vs H Q E) : t_need_name K { nx := fun _ H' => Q .non H', rt := Q } (start N_need_name vs) H := by
  obtain ⟨a, cs, n, rfl, ho, hn, q⟩ := h
  have hg : cs.length ≤ 8 := by obtain ⟨_, _, _, _, g⟩ := ho; exact g.most
  exact s_no0 (by walk_at "ev") fun H1 e => q .non H1 e .non
end
section
variable {K : Frag} {mg : Str → Option Value} {aB aR aE aHouse : Addr}
theorem p_need_word (T : Txt K mg aB aR aE aHouse) (vs : List V) (H : Hp) (Q : VK) (E : XK) (h : sp_need_word K vs H Q E) : t_need_word K { nx := fun _ H' => Q .non H', rt := Q } (start N_need_word vs) H := by
  obtain ⟨x, rfl, w, q⟩ := h
  exact s_no0 (by walk_at "ev") fun H1 e => q .non H1 e .non
end
section
variable {K : Frag} {mg : Str → Option Value} {aB aR aE aHouse : Addr}
theorem p_need_asked (T : Txt K mg aB aR aE aHouse) (vs : List V) (H : Hp) (Q : VK) (E : XK) (h : sp_need_asked K aHouse vs H Q E) : t_need_asked K aHouse { nx := fun _ H' => Q .non H', rt := Q } (start N_need_asked vs) H := by
  obtain ⟨a, cs, n, x, rfl, ho, hn, w, q⟩ := h
  refine q_drop (K := K) (ev_need_house (eh_var rfl) ho) fun H1 e1 => ?_
  refine q_drop (K := K) (ev_need_name (eh_var rfl) (ed_var rfl (.str _)) (ho.ex e1) hn) fun H2 e2 => ?_
  exact s_drop (K := K) (ev_need_word (ed_var rfl (.str _)) w) fun H3 e3 => q .non H3 ((e1.trans e2).trans e3) .non
end
section
variable {K : Frag} {mg : Str → Option Value} {aB aR aE aHouse : Addr}
theorem p_line_of (T : Txt K mg aB aR aE aHouse) (vs : List V) (H : Hp) (Q : VK) (E : XK) (h : sp_line_of K aHouse vs H Q E) : t_line_of K { nx := fun _ H' => Q .non H', rt := Q } (start N_line_of vs) H := by
  obtain ⟨a, cs, n, x, rfl, ho, q⟩ := h
  have hg : Good cs := by obtain ⟨_, _, _, _, g⟩ := ho; exact g
  have h8 := hg.most
  refine s_retN (K := K) (ds := (line cs n x).map .str) ?_ q
  refine EvN.is (en_lc (hasD x) hd0 (EvN.s (ds := encs (row cs n)) (by walk_at "ev")) (by have := row_lenE cs n h8; omega) (fun _ => rfl) (fun y d H1 e hd t => ?_) (fun y d H1 e hd _ t => ?_)) ?_
  · obtain ⟨u, hu, rfl⟩ := List.mem_map.mp hd
    have hm := hg.mmost u (row_mem hu)
    rw [hasD_enc]
    refine et_test (ed_in (x := x) (xs := mnames u) (ed_var rfl (.str _)) (EvN.s (EvN.is (en_lcM hd0 (EvD.s (ds := u.meths.map encM) (ed_ixT (ed_var (d := enc u) rfl t) ed_int rfl)) (by rw [List.length_map]; omega) (fun _ => rfl) fun z d H2 e2 hd t2 => ?_) ?_)))
    · obtain ⟨m, hm, rfl⟩ := List.mem_map.mp hd
      exact ed_ixT (ed_var (d := encM m) rfl t2) ed_int (at0 _ _)
    · show (u.meths.map encM).map hd0 = (u.meths.map (·.word)).map PyData.str
      rw [List.map_map, List.map_map]
      rfl
  · obtain ⟨u, hu, rfl⟩ := List.mem_map.mp hd
    exact ed_ixT (d := .str u.name) (ed_var (d := enc u) rfl t) ed_int rfl
  · show (((row cs n).map enc).filter (hasD x)).map hd0 = (((row cs n).filter (hasW x)).map (·.name)).map PyData.str
    rw [filt_map, List.map_map]
    have e : (fun y => hasD x (enc y)) = hasW x := funext fun y => hasD_enc x y
    rw [e]
    rfl
end
section
variable {K : Frag} {mg : Str → Option Value} {aB aR aE aHouse : Addr}
theorem p_method_line (T : Txt K mg aB aR aE aHouse) (vs : List V) (H : Hp) (Q : VK) (E : XK) (h : sp_method_line K aHouse vs H Q E) : t_method_line K aHouse { nx := fun _ H' => Q .non H', rt := Q } (start N_method_line vs) H := by
  obtain ⟨a, cs, n, x, rfl, ho, hn, w, q⟩ := h
  refine q_drop (K := K) (ev_need_asked (eh_var rfl) (ed_var rfl (.str _)) (ed_var rfl (.str _)) ho hn w) fun H1 e1 => ?_
  exact s_ret (K := K) (ed_tupOf (EvN.l (ev_line_of (eh_var rfl) (ed_var rfl (.str _)) (ed_var rfl (.str _)) (ho.ex e1)))) fun w H2 e2 t => q w H2 (e1.trans e2) t
end
section
variable {K : Frag} {mg : Str → Option Value} {aB aR aE aHouse : Addr}
theorem p_upper_method (T : Txt K mg aB aR aE aHouse) (vs : List V) (H : Hp) (Q : VK) (E : XK) (h : sp_upper_method K aHouse vs H Q E) : t_upper_method K aHouse { nx := fun _ H' => Q .non H', rt := Q } (start N_upper_method vs) H := by
  obtain ⟨a, cs, n, x, rfl, ho, hn, w, q⟩ := h
  have hg : Good cs := by obtain ⟨_, _, _, _, g⟩ := ho; exact g
  have h8 := hg.most
  refine q_drop (K := K) (ev_need_asked (eh_var rfl) (ed_var rfl (.str _)) (ed_var rfl (.str _)) ho hn w) fun H1 e1 => ?_
  have ho1 := ho.ex e1
  refine q_forG (K := K) (S := []) (ds := encs (row cs n).tail) (EvN.g (EvN.is (en_sl (EvN.l (ds := encs (row cs n)) (by walk_at "ev")) (eo_some (K := K) ed_int) eo_none) (by rw [cut_tail, encs_tail])) (by simp))
    (fun i σ' H' => ∃ (o1 o2 o3 : Option V), σ' = [some (.ref a), some (.str n), some (.str x), o1, o2, o3] ∧ Same H1 H' ∧ ∀ c ∈ (row cs n).tail.take i, hasW x c = false) ?_ ?_ ?_
  · intro H2 e2
    exact ⟨none, none, none, rfl, e2, by simp⟩
  · rintro i y d σ' H' N g hd td ⟨o1, o2, o3, rfl, e', hno⟩ hN
    obtain ⟨c, hc, rfl⟩ := map_getE hd
    dsimp only [gName, List.set]
    refine s_forE (K := K) (S := []) (ds := c.meths.map encM) (by walk_at "ev")
      (fun j σ2 H2 => ∃ (o1 o2 : Option V), σ2 = [some (.ref a), some (.str n), some (.str x), some y, o1, o2] ∧ Same H' H2 ∧ ∀ m ∈ c.meths.take j, m.word ≠ x) ?_ ?_ ?_
    · intro H2 e2
      exact ⟨o2, o3, rfl, e2, by simp⟩
    · rintro j z d σ2 H2 N2 g2 hd2 td2 ⟨H0, e02, p1, p2, rfl, e2, hno2⟩ hN2
      obtain ⟨m, hm, rfl⟩ := map_getE hd2
      have e2 : Same H' H2 := e2.trans e02
      dsimp only [List.set]
      refine s_if (b := decide (m.word = x)) (et_test (ed_eqS (ed_ixT (d := .str m.word) (ed_var (d := encM m) rfl td2) ed_int (at0 _ _)) (ed_var (d := .str x) rfl (.str x)))) (fun hb H3 e3 => ?_) fun hb H3 e3 => ?_
      · have hb : m.word = x := of_decide_eq_true hb
        refine s_ret (K := K) (d := pairD x c) (ed_tup (ea_cons (ed_ixT (d := .str c.name) (ed_var (d := enc c) rfl (td.ex (e2.trans e3))) ed_int rfl) (ea_cons (ed_var rfl ?_) ea_nil)) (by simp)) fun v H4 e4 t4 => ?_
        · have e5 : plc x (mnames c) = j := by
            have hw : (mnames c)[j]? = some x := by
              show (c.meths.map (·.word))[j]? = _
              rw [List.getElem?_map, hm, ← hb]
              rfl
            have hn3 : ∀ k < j, (mnames c)[k]? ≠ some x := by
              intro k hk hz
              have hz : (c.meths.map (·.word))[k]? = some x := hz
              obtain ⟨m2, hm2, ew⟩ := map_getE hz
              exact hno2 m2 (List.mem_iff_getElem?.mpr ⟨k, by rw [List.getElem?_take, if_pos hk]; exact hm2⟩) ew.symm
            exact plc_at hw hn3
          rw [e5]
          exact .int _
        · have hh : hasW x c = true := decide_eq_true (List.mem_map.mpr ⟨m, List.mem_of_getElem? hm, hb⟩)
          have hnear : nearD x (row cs n).tail = pairD x c := by
            have hf : (row cs n).tail.find? (hasW x) = some c := by
              rw [List.find?_eq_some_iff_getElem]
              refine ⟨hh, i, lt_of_get hc, (List.getElem?_eq_some_iff.mp hc).2, fun k hk => ?_⟩
              rw [hno _ (List.mem_iff_getElem?.mpr ⟨k, by rw [List.getElem?_take, if_pos hk]; exact List.getElem?_eq_getElem _⟩)]
              rfl
            unfold nearD
            rw [hf]
          rw [hnear] at q
          exact q v H4 ((e1.trans e').trans ((e2.trans e3).trans e4)) t4
      · have hb : ¬ m.word = x := of_decide_eq_false hb
        refine hN2 _ _ (Gx.of e3) ⟨_, _, rfl, e2.trans e3, fun m2 hm2 => ?_⟩
        rw [take_snoc hm] at hm2
        rcases List.mem_append.mp hm2 with h | h
        · exact hno2 m2 h
        · rw [List.mem_singleton.mp h]
          exact hb
    · rintro σ2 H2 g2 ⟨p1, p2, rfl, e2, hno2⟩
      refine hN _ _ g2 ⟨_, _, _, rfl, e'.trans e2, fun c2 hc2 => ?_⟩
      rw [take_snoc hc] at hc2
      rcases List.mem_append.mp hc2 with h | h
      · exact hno c2 h
      · rw [List.mem_singleton.mp h]
        refine decide_eq_false fun hz => ?_
        obtain ⟨m, hm, ew⟩ := List.mem_map.mp hz
        rw [List.length_map, List.take_length] at hno2
        exact hno2 m hm ew
  · rintro σ' H' g ⟨o1, o2, o3, rfl, e', hno⟩
    have hnear : nearD x (row cs n).tail = .none := by
      rw [List.length_map, List.take_length] at hno
      have hf : (row cs n).tail.find? (hasW x) = none := by
        rw [List.find?_eq_none]
        intro c hc
        rw [hno c hc]
        exact Bool.false_ne_true
      unfold nearD
      rw [hf]
    rw [hnear] at q
    exact s_ret (K := K) (d := .none) ed_non fun v H4 e4 t4 => q v H4 ((e1.trans e').trans e4) t4
end
section
variable {K : Frag} {mg : Str → Option Value} {aB aR aE aHouse : Addr}
theorem line_word {cs : List Kl} (g : Good cs) {n w : Str} : ∀ x ∈ line cs n w, IsWord x := fun x hx => by
  obtain ⟨c, hc, rfl⟩ := List.mem_map.mp hx
  obtain ⟨i, hi⟩ := at_mem (row_mem ((List.mem_filter.mp hc).1))
  exact (g.cls i c hi).name
theorem name_word {cs : List Kl} (g : Good cs) {n : Str} (h : n ∈ namesL cs) : IsWord n := by
  rcases List.mem_cons.mp h with rfl | h
  · exact lit_word (by decide +kernel)
  · obtain ⟨c, hc, rfl⟩ := List.mem_map.mp h
    obtain ⟨i, hi⟩ := at_mem hc
    exact (g.cls i c hi).name
theorem cut1_strs (xs : List Str) : cutD (xs.map PyData.str) none (some 1) = (xs.take 1).map .str := by
  rw [cut_one, List.map_take]
def isOwn (cs : List Kl) (n w : Str) (d : PyData) : Bool := match hd0 d with
  | .str y => decide ((line cs y w).take 1 = [n])
  | _ => false
theorem p_reached_from {aN : Addr} (T : Txt K mg aB aR aE aHouse) (vs : List V) (H : Hp) (Q : VK) (E : XK) (h : sp_reached_from K aHouse aN vs H Q E) : t_reached_from K aN E aHouse { nx := fun _ H' => Q .non H', rt := Q } (start N_reached_from vs) H := by
  obtain ⟨a, cs, n, x, rfl, ho, hn, w, q, qE⟩ := h
  have g : Good cs := by obtain ⟨_, _, _, _, g⟩ := ho; exact g
  have wn := name_word g hn
  have hsh : ∀ y : Str, SeqAt.shaped (.list (((line cs y x).take 1).map .str)) = true := fun y => (shL_words fun z hz => line_word g z (List.mem_of_mem_take hz)).shaped (by decide)
  have hsn : SeqAt.shaped (.list ([n].map .str)) = true := (shL_words fun z hz => by rw [List.mem_singleton.mp hz]; exact wn).shaped (by decide)
  refine q_drop (K := K) (ev_need_asked (eh_var rfl) (ed_var rfl (.str _)) (ed_var rfl (.str _)) ho hn w) fun H1 e1 => ?_
  have ho1 := ho.ex e1
  refine q_if (b := (!decide ((line cs n x).take 1 = [n])) || decide (n = topS)) (et_or (et_test (EvD.is (ed_neL (K := K) (ds := ((line cs n x).take 1).map .str) (es := [n].map .str) (EvN.l (EvN.is (en_sl (EvN.l (ev_line_of (eh_var rfl) (ed_var rfl (.str _)) (ed_var rfl (.str _)) ho1)) eo_none (eo_some (K := K) ed_int)) (cut1_strs _))) (EvN.l (en_lst (ea_cons (ed_var rfl (.str _)) ea_nil) (by simp))) (hsh n) hsn) (by rw [eqvL_strs]))) fun _ => et_test (ed_eqS (x := n) (y := topS) (ed_var (K := K) rfl (.str _)) ed_str)) (fun hb H2 e2 => ?_) fun hb H2 e2 => ?_
  · refine qE ?_ H2 (e1.trans e2)
    simp only [Bool.or_eq_true, Bool.not_eq_true', decide_eq_true_eq, decide_eq_false_iff_not] at hb
    rintro ⟨h1, h2⟩
    rcases hb with h | h
    · exact h h1
    · exact h2 h
  · simp only [Bool.or_eq_false_iff, Bool.not_eq_false', decide_eq_true_eq, decide_eq_false_iff_not] at hb
    have q := q hb.1 hb.2
    have ho2 := ho1.ex e2
    have h8 := g.most
    dsimp only [tNext]
    refine s_ret (K := K) (d := .tuple ((reached cs n x).map .str)) (ed_tupOf (EvN.l (EvN.is (en_lc (isOwn cs n x) hd0 (EvD.s (ds := encs cs) (by walk_at "ev")) (by rw [List.length_map]; omega) (fun _ => rfl) (fun y d H3 e3 hd t => ?_) (fun y d H3 e3 hd _ t => ?_)) ?_))) fun v H3 e3 t => q v H3 ((e1.trans e2).trans e3) t
    · obtain ⟨c, hc, rfl⟩ := List.mem_map.mp hd
      refine et_test (EvD.is (ed_eqL (K := K) (ds := ((line cs c.name x).take 1).map .str) (es := [n].map .str) (EvN.l (EvN.is (en_sl (EvN.l (ev_line_of (eh_var rfl) (ed_ixT (ed_var (d := enc c) rfl t) ed_int rfl) (ed_var rfl (.str _)) (ho2.ex e3))) eo_none (eo_some (K := K) ed_int)) (cut1_strs _))) (EvN.l (en_lst (ea_cons (ed_var rfl (.str _)) ea_nil) (by simp))) (hsh c.name) hsn) (by rw [eqvL_strs]; rfl))
    · obtain ⟨c, hc, rfl⟩ := List.mem_map.mp hd
      exact ed_ixT (d := .str c.name) (ed_var (d := enc c) rfl t) ed_int rfl
    · show ((cs.map enc).filter (isOwn cs n x)).map hd0 = ((cs.filter fun c => decide ((line cs c.name x).take 1 = [n])).map (·.name)).map .str
      rw [filt_map, List.map_map]
      rfl
end
section
variable {K : Frag} {mg : Str → Option Value} {aB aR aE aHouse : Addr}
theorem p_House_init (T : Txt K mg aB aR aE aHouse) (vs : List V) (H : Hp) (Q : VK) (E : XK) (h : sp_House_init K aHouse vs H Q E) : t_House_init K { nx := fun _ H' => Q .non H', rt := Q } (start N_House_init vs) H := by
  obtain ⟨x, dx, v, cs, rfl, hx, hv, g, q⟩ := h
  refine q_drop (K := K) (ev_check_classes (cs := cs) (ed_var rfl hv) g) fun H1 e1 => ?_
  refine ⟨_, rfl, _, rfl, x, aHouse, dx, [], rfl, e1 _ _ hx, T.insC.cl, T.told, by simp, ?_⟩
  refine q _ (fun b o hb ho => ?_) upd_same
  rw [upd_ne hb]
  exact e1 b o ho
end
section
variable {P : Program} {w : World} {K : Frag} {mg : Str → Option Value} {base : Heap} {aB aR aE aHouse : Addr}
theorem d_is_in (T : Txt K mg aB aR aE aHouse) {f : Addr} {cdv : Value} {A : Around} {outer : List Env} {s : Shared} {H : Hp} {E : XK} (hr : Room 0 (A.deeper (envOfC "is_in" (C8.fnScope s_is_in) s.heap.objs.size f cdv))) :
    PSs (cxOf C8.CX0 P w K mg base N_is_in "is_in" (C8.fnScope s_is_in) f cdv A outer s H E).nox (C8.fnBody s_is_in) (t_is_in K) :=
  (pss_one (ps_ret (pe_and (pe_callB call_isi (by rfl) T.z_isinstance (by decide +kernel) (pa_cons (pv 0) (pa_cons (pe_bltn (by rfl) T.z_int (by decide +kernel) rfl) pa_nil))) (pe_and (pe_not (pe_callB call_isi (by rfl) T.z_isinstance (by decide +kernel) (pa_cons (pv 0) (pa_cons (pe_bltn (by rfl) T.z_bool (by decide +kernel) rfl) pa_nil)))) (pe_one (pe_chain op_le op_le (pv 1) (pv 0) (pv 2)))))))
theorem ok_is_in (D : DefB K mg "is_in" s_is_in P_is_in) (T : Txt K mg aB aR aE aHouse) : C8.Cal P w K mg base 1 "is_in" (sp_is_in K) [] :=
  cal_of D sc_is_in (fun vs H Q E h => by obtain ⟨_, _, _, rfl, _⟩ := h; rfl) (fun f cdv A outer s H vs Q E hr h => ⟨(t_is_in K), d_is_in T hr, p_is_in T vs H Q E h⟩)
end
section
variable {P : Program} {w : World} {K : Frag} {mg : Str → Option Value} {base : Heap} {aB aR aE aHouse : Addr}
theorem d_is_word (T : Txt K mg aB aR aE aHouse) {f : Addr} {cdv : Value} {A : Around} {outer : List Env} {s : Shared} {H : Hp} {E : XK} (hr : Room 0 (A.deeper (envOfC "is_word" (C8.fnScope s_is_word) s.heap.objs.size f cdv))) :
    PSs (cxOf C8.CX0 P w K mg base N_is_word "is_word" (C8.fnScope s_is_word) f cdv A outer s H E).nox (C8.fnBody s_is_word) (t_is_word K) :=
  (pss_one (ps_ret (pe_and (pe_callB call_isi (by rfl) T.z_isinstance (by decide +kernel) (pa_cons (pv 0) (pa_cons (pe_bltn (by rfl) T.z_str (by decide +kernel) rfl) pa_nil))) (pe_and (pe_chain op_le op_le pe_int (pe_callB call_len (by rfl) T.z_len boot_len (pa_cons (pv 0) pa_nil)) pe_int) (pe_one (pe_callB (cr_all rfl) (by rfl) T.z_all (by decide +kernel) (pa_cons (pe_lc (own := [("sign", 1)]) rfl sc_is_word.nd (pi_str (pv 0)) (blkOk_by (own := [("sign", 1)]) (N := N_is_word) (sc := (C8.fnScope s_is_word)) (by decide +kernel)) (fun _ _ _ _ _ => (pg_name (i := 1) sc_is_word.nd rfl (by first | exact Or.inl rfl | exact Or.inr rfl))) (fun _ _ _ _ _ => pts_nil) (fun _ _ _ _ _ => (pe_cmpR op_inS (pv 1) (C8.pe_gc rfl T.c_LETTERS) (by with_unfolding_all rfl)))) pa_nil)))))))
theorem ok_is_word (D : DefB K mg "is_word" s_is_word P_is_word) (T : Txt K mg aB aR aE aHouse) : C8.Cal P w K mg base 1 "is_word" (sp_is_word K) [] :=
  cal_of D sc_is_word (fun vs H Q E h => by obtain ⟨_, rfl, _⟩ := h; rfl) (fun f cdv A outer s H vs Q E hr h => ⟨(t_is_word K), d_is_word T hr, p_is_word T vs H Q E h⟩)
end
section
variable {P : Program} {w : World} {K : Frag} {mg : Str → Option Value} {base : Heap} {aB aR aE aHouse : Addr}
theorem d_is_list (T : Txt K mg aB aR aE aHouse) {f : Addr} {cdv : Value} {A : Around} {outer : List Env} {s : Shared} {H : Hp} {E : XK} (hr : Room 0 (A.deeper (envOfC "is_list" (C8.fnScope s_is_list) s.heap.objs.size f cdv))) :
    PSs (cxOf C8.CX0 P w K mg base N_is_list "is_list" (C8.fnScope s_is_list) f cdv A outer s H E).nox (C8.fnBody s_is_list) (t_is_list K) :=
  (pss_one (ps_ret (pe_and (pe_callB call_isi (by rfl) T.z_isinstance (by decide +kernel) (pa_cons (pv 0) (pa_cons (pe_bltn (by rfl) T.z_tuple (by decide +kernel) rfl) pa_nil))) (pe_one (pe_cmpR op_le (pe_callB call_len (by rfl) T.z_len boot_len (pa_cons (pv 0) pa_nil)) (pv 1) (nomark _))))))
theorem ok_is_list (D : DefB K mg "is_list" s_is_list P_is_list) (T : Txt K mg aB aR aE aHouse) : C8.Cal P w K mg base 1 "is_list" (sp_is_list K) [] :=
  cal_of D sc_is_list (fun vs H Q E h => by obtain ⟨_, _, _, rfl, _⟩ := h; rfl) (fun f cdv A outer s H vs Q E hr h => ⟨(t_is_list K), d_is_list T hr, p_is_list T vs H Q E h⟩)
end
section
variable {P : Program} {w : World} {K : Frag} {mg : Str → Option Value} {base : Heap} {aB aR aE aHouse : Addr}
theorem d_names_of (T : Txt K mg aB aR aE aHouse) {f : Addr} {cdv : Value} {A : Around} {outer : List Env} {s : Shared} {H : Hp} {E : XK} (hr : Room 0 (A.deeper (envOfC "names_of" (C8.fnScope s_names_of) s.heap.objs.size f cdv))) :
    PSs (cxOf C8.CX0 P w K mg base N_names_of "names_of" (C8.fnScope s_names_of) f cdv A outer s H E).nox (C8.fnBody s_names_of) (t_names_of K) :=
  (pss_one (ps_ret (pe_lst (pa_cons (C8.pe_gc rfl T.c_TOP) (pa_star (pe_lc (own := [("told", 1)]) rfl sc_names_of.nd (pi_any (pv 0)) (blkOk_by (own := [("told", 1)]) (N := N_names_of) (sc := (C8.fnScope s_names_of)) (by decide +kernel)) (fun _ _ _ _ _ => (pg_name (i := 1) sc_names_of.nd rfl (by first | exact Or.inl rfl | exact Or.inr rfl))) (fun _ _ _ _ _ => pts_nil) (fun _ _ _ _ _ => (pe_ix ix_seq (pv 1) pe_int (fun _ _ => rfl)))) pa_nil)))))
theorem ok_names_of (D : DefB K mg "names_of" s_names_of P_names_of) (T : Txt K mg aB aR aE aHouse) : C8.Cal P w K mg base 1 "names_of" (sp_names_of K) [] :=
  cal_of D sc_names_of (fun vs H Q E h => by obtain ⟨_, _, rfl, _⟩ := h; rfl) (fun f cdv A outer s H vs Q E hr h => ⟨(t_names_of K), d_names_of T hr, p_names_of T vs H Q E h⟩)
end
section
variable {P : Program} {w : World} {K : Frag} {mg : Str → Option Value} {base : Heap} {aB aR aE aHouse : Addr}
theorem d_row_of (T : Txt K mg aB aR aE aHouse) {f : Addr} {cdv : Value} {A : Around} {outer : List Env} {s : Shared} {H : Hp} {E : XK} (hr : Room 0 (A.deeper (envOfC "row_of" (C8.fnScope s_row_of) s.heap.objs.size f cdv))) :
    PSs (cxOf C8.CX0 P w K mg base N_row_of "row_of" (C8.fnScope s_row_of) f cdv A outer s H E).nox (C8.fnBody s_row_of) (t_row_of K) :=
  (pss_cons (ps_set (i := 2) sc_row_of.nd rfl (by first | exact Or.inl rfl | exact Or.inr rfl) (pe_lst pa_nil))
    (pss_cons (ps_for PassesOwn.never rfl (pi_any (pe_revA (pv 0))) (pg_name (i := 3) sc_row_of.nd rfl (by first | exact Or.inl rfl | exact Or.inr rfl)) (pss_one (ps_if (pt_cmpR op_eq (pe_ix ix_seq (pv 3) pe_int (fun _ _ => rfl)) (pv 1) (nomark _)) (pss_cons (ps_expr (pe_bm PySem.F.plainAttrs_list PySem.F.slot_list_append PySem.F.type_list_append mt_append (pv 2) (pa_cons (pv 3) pa_nil)))
    (pss_one (ps_set (i := 1) sc_row_of.nd rfl (by first | exact Or.inl rfl | exact Or.inr rfl) (pe_ix ix_seq (pv 3) pe_int (fun _ _ => rfl))))) pss_nil)))
    (pss_one (ps_ret (pv 2)))))
theorem ok_row_of (D : DefB K mg "row_of" s_row_of P_row_of) (T : Txt K mg aB aR aE aHouse) : C8.Cal P w K mg base 1 "row_of" (sp_row_of K) [] :=
  cal_of D sc_row_of (fun vs H Q E h => by obtain ⟨_, _, _, rfl, _⟩ := h; rfl) (fun f cdv A outer s H vs Q E hr h => ⟨(t_row_of K), d_row_of T hr, p_row_of T vs H Q E h⟩)
end
section
variable {P : Program} {w : World} {K : Frag} {mg : Str → Option Value} {base : Heap} {aB aR aE aHouse : Addr}
theorem d_is_class (T : Txt K mg aB aR aE aHouse) (c_names_of : C8.Cal P w K mg base 1 "names_of" (sp_names_of K) []) (c_is_word : C8.Cal P w K mg base 1 "is_word" (sp_is_word K) []) {f : Addr} {cdv : Value} {A : Around} {outer : List Env} {s : Shared} {H : Hp} {E : XK} (hr : Room 1 (A.deeper (envOfC "is_class" (C8.fnScope s_is_class) s.heap.objs.size f cdv))) :
    PSs (cxOf C8.CX0 P w K mg base N_is_class "is_class" (C8.fnScope s_is_class) f cdv A outer s H E).nox (C8.fnBody s_is_class) (t_is_class K aB) :=
  (pss_cons (ps_if (PW.pt (pw_or (pt_not (pt_val (pe_callB call_isi (by rfl) T.z_isinstance (by decide +kernel) (pa_cons (pv 1) (pa_cons (pe_bltn (by rfl) T.z_tuple (by decide +kernel) rfl) pa_nil))))) (pw_or (pt_cmpR op_ne (pe_callB call_len (by rfl) T.z_len boot_len (pa_cons (pv 1) pa_nil)) pe_int (nomark _)) (pw_or1 (pt_not (pt_val (C8.pe_c c_is_word hr (by decide) rfl (pa_cons (pe_ix ix_seq (pv 1) pe_int (fun _ _ => rfl)) pa_nil)))))))) (pss_one (ps_ret pe_bl)) pss_nil)
    (pss_cons (ps_if (PW.pt (pw_or (pt_cmpR op_in_seq (pe_ix ix_seq (pv 1) pe_int (fun _ _ => rfl)) (C8.pe_gc rfl T.c_BARRED) (by with_unfolding_all rfl)) (pw_or1 (pt_cmpR op_in_seq (pe_ix ix_seq (pv 1) pe_int (fun _ _ => rfl)) (C8.pe_c c_names_of hr (by decide) rfl (pa_cons (pv 0) pa_nil)) (by with_unfolding_all rfl))))) (pss_one (ps_ret pe_bl)) pss_nil)
    (pss_one (ps_ret (pe_and (C8.pe_c c_is_word hr (by decide) rfl (pa_cons (pe_ix ix_seq (pv 1) pe_int (fun _ _ => rfl)) pa_nil)) (pe_one (pe_cmpR op_in_seq (pe_ix ix_seq (pv 1) pe_int (fun _ _ => rfl)) (C8.pe_c c_names_of hr (by decide) rfl (pa_cons (pv 0) pa_nil)) (by with_unfolding_all rfl))))))))
theorem ok_is_class (D : DefB K mg "is_class" s_is_class P_is_class) (T : Txt K mg aB aR aE aHouse) (c_names_of : C8.Cal P w K mg base 1 "names_of" (sp_names_of K) []) (c_is_word : C8.Cal P w K mg base 1 "is_word" (sp_is_word K) []) : C8.Cal P w K mg base 2 "is_class" (sp_is_class K) [] :=
  cal_of D sc_is_class (fun vs H Q E h => by obtain ⟨_, _, _, _, rfl, _⟩ := h; rfl) (fun f cdv A outer s H vs Q E hr h => ⟨(t_is_class K aB), d_is_class T c_names_of c_is_word hr, p_is_class T vs H Q E h⟩)
end
section
variable {P : Program} {w : World} {K : Frag} {mg : Str → Option Value} {base : Heap} {aB aR aE aHouse : Addr}
theorem d_are_fields (T : Txt K mg aB aR aE aHouse) (c_is_word : C8.Cal P w K mg base 1 "is_word" (sp_is_word K) []) (c_row_of : C8.Cal P w K mg base 1 "row_of" (sp_row_of K) []) (c_is_list : C8.Cal P w K mg base 1 "is_list" (sp_is_list K) []) {f : Addr} {cdv : Value} {A : Around} {outer : List Env} {s : Shared} {H : Hp} {E : XK} (hr : Room 1 (A.deeper (envOfC "are_fields" (C8.fnScope s_are_fields) s.heap.objs.size f cdv))) :
    PSs (cxOf C8.CX0 P w K mg base N_are_fields "are_fields" (C8.fnScope s_are_fields) f cdv A outer s H E).nox (C8.fnBody s_are_fields) (t_are_fields K) :=
  (pss_cons (ps_if (pt_not (pt_val (C8.pe_c c_is_list hr (by decide) rfl (pa_cons (pe_ix ix_seq (pv 2) pe_int (fun _ _ => rfl)) (pa_cons (C8.pe_gc rfl T.c_MOST_PARTS) pa_nil))))) (pss_one (ps_ret pe_bl)) pss_nil)
    (pss_cons (ps_setLc2 (i := 3) (own := [("upper", 5), ("field", 4)]) (vs1 := [4]) rfl sc_are_fields.nd rfl rfl (sw_true rfl rfl rfl (by decide +kernel)) (pi_any (C8.pe_c c_row_of hr (by decide) rfl (pa_cons (pv 0) (pa_cons (pe_ix ix_seq (pv 2) pe_int (fun _ _ => rfl)) pa_nil)))) (blkOk_by (own := [("upper", 5), ("field", 4)]) (N := N_are_fields) (sc := (C8.fnScope s_are_fields)) (by decide +kernel)) (by decide) (fun _ _ _ _ _ => (pg_name (i := 5) sc_are_fields.nd rfl (by first | exact Or.inl rfl | exact Or.inr rfl))) (fun _ _ _ _ _ => pts_nil) (fun _ _ _ _ _ => (pi_any (pe_ix ix_seq (pv 5) pe_int (fun _ _ => rfl)))) (fun _ _ _ _ _ => (pg_name (i := 4) sc_are_fields.nd rfl (by first | exact Or.inl rfl | exact Or.inr rfl))) (fun _ _ _ _ _ => pts_nil) (fun _ _ _ _ _ => (pe_ix ix_seq (pv 4) pe_int (fun _ _ => rfl))))
    (pss_cons (ps_for PassesOwn.never rfl (pi_any (pe_ix ix_seq (pv 2) pe_int (fun _ _ => rfl))) (pg_name (i := 4) sc_are_fields.nd rfl (by first | exact Or.inl rfl | exact Or.inr rfl)) (pss_cons (ps_if (PW.pt (pw_or (pt_not (pt_val (pe_callB call_isi (by rfl) T.z_isinstance (by decide +kernel) (pa_cons (pv 4) (pa_cons (pe_bltn (by rfl) T.z_tuple (by decide +kernel) rfl) pa_nil))))) (pw_or (pt_cmpR op_ne (pe_callB call_len (by rfl) T.z_len boot_len (pa_cons (pv 4) pa_nil)) pe_int (nomark _)) (pw_or (pt_not (pt_val (C8.pe_c c_is_word hr (by decide) rfl (pa_cons (pe_ix ix_seq (pv 4) pe_int (fun _ _ => rfl)) pa_nil)))) (pw_or1 (pt_cmpR op_in_seq (pe_ix ix_seq (pv 4) pe_int (fun _ _ => rfl)) (pv 3) (by with_unfolding_all rfl))))))) (pss_one (ps_ret pe_bl)) pss_nil)
    (pss_cons (ps_if (PW.pt (pw_or (pt_not (pt_val (C8.pe_c c_is_word hr (by decide) rfl (pa_cons (pe_ix ix_seq (pv 4) pe_int (fun _ _ => rfl)) pa_nil)))) (pw_or1 (PW.pt (pw_and (pt_cmpR op_ne (pe_ix ix_seq (pv 4) pe_int (fun _ _ => rfl)) (C8.pe_gc rfl T.c_NUM) (nomark _)) (pw_and1 (pt_cmpR op_notIn_seq (pe_ix ix_seq (pv 4) pe_int (fun _ _ => rfl)) (pv 1) (by with_unfolding_all rfl)))))))) (pss_one (ps_ret pe_bl)) pss_nil)
    (pss_one (ps_expr (pe_bm PySem.F.plainAttrs_list PySem.F.slot_list_append PySem.F.type_list_append mt_append (pv 3) (pa_cons (pe_ix ix_seq (pv 4) pe_int (fun _ _ => rfl)) pa_nil)))))))
    (pss_one (ps_ret pe_bl)))))
theorem ok_are_fields (D : DefB K mg "are_fields" s_are_fields P_are_fields) (T : Txt K mg aB aR aE aHouse) (c_is_word : C8.Cal P w K mg base 1 "is_word" (sp_is_word K) []) (c_row_of : C8.Cal P w K mg base 1 "row_of" (sp_row_of K) []) (c_is_list : C8.Cal P w K mg base 1 "is_list" (sp_is_list K) []) : C8.Cal P w K mg base 2 "are_fields" (sp_are_fields K) [] :=
  cal_of D sc_are_fields (fun vs H Q E h => by obtain ⟨_, _, _, _, _, _, _, rfl, _⟩ := h; rfl) (fun f cdv A outer s H vs Q E hr h => ⟨(t_are_fields K), d_are_fields T c_is_word c_row_of c_is_list hr, p_are_fields T vs H Q E h⟩)
end
section
variable {P : Program} {w : World} {K : Frag} {mg : Str → Option Value} {base : Heap} {aB aR aE aHouse : Addr}
theorem d_is_kind_in (T : Txt K mg aB aR aE aHouse) (c_is_word : C8.Cal P w K mg base 1 "is_word" (sp_is_word K) []) {f : Addr} {cdv : Value} {A : Around} {outer : List Env} {s : Shared} {H : Hp} {E : XK} (hr : Room 1 (A.deeper (envOfC "is_kind_in" (C8.fnScope s_is_kind_in) s.heap.objs.size f cdv))) :
    PSs (cxOf C8.CX0 P w K mg base N_is_kind_in "is_kind_in" (C8.fnScope s_is_kind_in) f cdv A outer s H E).nox (C8.fnBody s_is_kind_in) (t_is_kind_in K) :=
  (pss_one (ps_ret (pe_and (C8.pe_c c_is_word hr (by decide) rfl (pa_cons (pv 1) pa_nil)) (pe_one (pe_or (pe_cmpR op_eq (pv 1) (C8.pe_gc rfl T.c_NUM) (nomark _)) (pe_one (pe_cmpR op_in_seq (pv 1) (pv 0) (by with_unfolding_all rfl))))))))
theorem ok_is_kind_in (D : DefB K mg "is_kind_in" s_is_kind_in P_is_kind_in) (T : Txt K mg aB aR aE aHouse) (c_is_word : C8.Cal P w K mg base 1 "is_word" (sp_is_word K) []) : C8.Cal P w K mg base 2 "is_kind_in" (sp_is_kind_in K) [] :=
  cal_of D sc_is_kind_in (fun vs H Q E h => by obtain ⟨_, _, _, rfl, _⟩ := h; rfl) (fun f cdv A outer s H vs Q E hr h => ⟨(t_is_kind_in K), d_is_kind_in T c_is_word hr, p_is_kind_in T vs H Q E h⟩)
end
section
variable {P : Program} {w : World} {K : Frag} {mg : Str → Option Value} {base : Heap} {aB aR aE aHouse : Addr}
theorem d_is_method (T : Txt K mg aB aR aE aHouse) (c_row_of : C8.Cal P w K mg base 1 "row_of" (sp_row_of K) []) (c_is_kind_in : C8.Cal P w K mg base 2 "is_kind_in" (sp_is_kind_in K) []) (c_is_list : C8.Cal P w K mg base 1 "is_list" (sp_is_list K) []) (c_is_word : C8.Cal P w K mg base 1 "is_word" (sp_is_word K) []) {f : Addr} {cdv : Value} {A : Around} {outer : List Env} {s : Shared} {H : Hp} {E : XK} (hr : Room 2 (A.deeper (envOfC "is_method" (C8.fnScope s_is_method) s.heap.objs.size f cdv))) :
    PSs (cxOf C8.CX0 P w K mg base N_is_method "is_method" (C8.fnScope s_is_method) f cdv A outer s H E).nox (C8.fnBody s_is_method) (t_is_method K) :=
  (pss_cons (ps_set (i := 4) sc_is_method.nd rfl (by first | exact Or.inl rfl | exact Or.inr rfl) (pe_ix ix_seq (pe_ix ix_seq (pv 2) pe_int (fun _ _ => rfl)) (pv 3) (fun _ _ => rfl)))
    (pss_cons (ps_if (PW.pt (pw_or (pt_not (pt_val (pe_callB call_isi (by rfl) T.z_isinstance (by decide +kernel) (pa_cons (pv 4) (pa_cons (pe_bltn (by rfl) T.z_tuple (by decide +kernel) rfl) pa_nil))))) (pw_or (pt_cmpR op_ne (pe_callB call_len (by rfl) T.z_len boot_len (pa_cons (pv 4) pa_nil)) pe_int (nomark _)) (pw_or1 (pt_not (pt_val (C8.pe_c c_is_word hr (by decide) rfl (pa_cons (pe_ix ix_seq (pv 4) pe_int (fun _ _ => rfl)) pa_nil)))))))) (pss_one (ps_ret pe_bl)) pss_nil)
    (pss_cons (ps_if (PW.pt (pw_or (pt_cmpR op_in_seq (pe_ix ix_seq (pv 4) pe_int (fun _ _ => rfl)) (pe_lc (own := [("method", 6)]) rfl sc_is_method.nd (pi_any (pe_slice sl_any (pe_ix ix_seq (pv 2) pe_int (fun _ _ => rfl)) po_none (po_some (pv 3)))) (blkOk_by (own := [("method", 6)]) (N := N_is_method) (sc := (C8.fnScope s_is_method)) (by decide +kernel)) (fun _ _ _ _ _ => (pg_name (i := 6) sc_is_method.nd rfl (by first | exact Or.inl rfl | exact Or.inr rfl))) (fun _ _ _ _ _ => pts_nil) (fun _ _ _ _ _ => (pe_ix ix_seq (pv 6) pe_int (fun _ _ => rfl)))) (by with_unfolding_all rfl)) (pw_or1 (pt_not (pt_val (C8.pe_c c_is_list hr (by decide) rfl (pa_cons (pe_ix ix_seq (pv 4) pe_int (fun _ _ => rfl)) (pa_cons (C8.pe_gc rfl T.c_MOST_INS) pa_nil)))))))) (pss_one (ps_ret pe_bl)) pss_nil)
    (pss_cons (ps_if (PW.pt (pw_or (pt_not (pt_val (pe_callB (cr_all rfl) (by rfl) T.z_all (by decide +kernel) (pa_cons (pe_lc (own := [("kind", 7)]) rfl sc_is_method.nd (pi_any (pe_ix ix_seq (pv 4) pe_int (fun _ _ => rfl))) (blkOk_by (own := [("kind", 7)]) (N := N_is_method) (sc := (C8.fnScope s_is_method)) (by decide +kernel)) (fun _ _ _ _ _ => (pg_name (i := 7) sc_is_method.nd rfl (by first | exact Or.inl rfl | exact Or.inr rfl))) (fun _ _ _ _ _ => pts_nil) (fun _ _ _ _ _ => (C8.pe_c c_is_kind_in hr (by decide) rfl (pa_cons (pv 1) (pa_cons (pv 7) pa_nil))))) pa_nil)))) (pw_or1 (pt_not (pt_val (C8.pe_c c_is_kind_in hr (by decide) rfl (pa_cons (pv 1) (pa_cons (pe_ix ix_seq (pv 4) pe_int (fun _ _ => rfl)) pa_nil)))))))) (pss_one (ps_ret pe_bl)) pss_nil)
    (pss_cons (ps_for PassesOwn.never rfl (pi_any (C8.pe_c c_row_of hr (by decide) rfl (pa_cons (pv 0) (pa_cons (pe_ix ix_seq (pv 2) pe_int (fun _ _ => rfl)) pa_nil)))) (pg_name (i := 5) sc_is_method.nd rfl (by first | exact Or.inl rfl | exact Or.inr rfl)) (pss_one (ps_for PassesOwn.never rfl (pi_any (pe_ix ix_seq (pv 5) pe_int (fun _ _ => rfl))) (pg_name (i := 6) sc_is_method.nd rfl (by first | exact Or.inl rfl | exact Or.inr rfl)) (pss_one (ps_if (PW.pt (pw_and (pt_cmpR op_eq (pe_ix ix_seq (pv 6) pe_int (fun _ _ => rfl)) (pe_ix ix_seq (pv 4) pe_int (fun _ _ => rfl)) (nomark _)) (pw_and1 (pt_cmpR (op_neD (hu64 hr)) (pe_slice sl_any (pv 6) (po_some pe_int) (po_some pe_int)) (pe_slice sl_any (pv 4) (po_some pe_int) (po_some pe_int)) (nomark _))))) (pss_one (ps_ret pe_bl)) pss_nil)))))
    (pss_one (ps_ret pe_bl)))))))
theorem ok_is_method (D : DefB K mg "is_method" s_is_method P_is_method) (T : Txt K mg aB aR aE aHouse) (c_row_of : C8.Cal P w K mg base 1 "row_of" (sp_row_of K) []) (c_is_kind_in : C8.Cal P w K mg base 2 "is_kind_in" (sp_is_kind_in K) []) (c_is_list : C8.Cal P w K mg base 1 "is_list" (sp_is_list K) []) (c_is_word : C8.Cal P w K mg base 1 "is_word" (sp_is_word K) []) : C8.Cal P w K mg base 3 "is_method" (sp_is_method K) [] :=
  cal_of D sc_is_method (fun vs H Q E h => by obtain ⟨_, _, _, _, _, _, _, _, rfl, _⟩ := h; rfl) (fun f cdv A outer s H vs Q E hr h => ⟨(t_is_method K), d_is_method T c_row_of c_is_kind_in c_is_list c_is_word hr, p_is_method T vs H Q E h⟩)
end
section
variable {P : Program} {w : World} {K : Frag} {mg : Str → Option Value} {base : Heap} {aB aR aE aHouse : Addr}
theorem d_has_seen (T : Txt K mg aB aR aE aHouse) (c_row_of : C8.Cal P w K mg base 1 "row_of" (sp_row_of K) []) {f : Addr} {cdv : Value} {A : Around} {outer : List Env} {s : Shared} {H : Hp} {E : XK} (hr : Room 1 (A.deeper (envOfC "has_seen" (C8.fnScope s_has_seen) s.heap.objs.size f cdv))) :
    PSs (cxOf C8.CX0 P w K mg base N_has_seen "has_seen" (C8.fnScope s_has_seen) f cdv A outer s H E).nox (C8.fnBody s_has_seen) (t_has_seen K) :=
  (pss_one (ps_ret (pe_callB (cr_any rfl) (by rfl) T.z_any (by decide +kernel) (pa_cons (pe_lc2 (own := [("told", 4), ("one", 5)]) (vs1 := [5]) rfl sc_has_seen.nd (pi_any (C8.pe_c c_row_of hr (by decide) rfl (pa_cons (pv 0) (pa_cons (pv 1) pa_nil)))) (blkOk_by (own := [("told", 4), ("one", 5)]) (N := N_has_seen) (sc := (C8.fnScope s_has_seen)) (by decide +kernel)) (by decide) (fun _ _ _ _ _ => (pg_name (i := 4) sc_has_seen.nd rfl (by first | exact Or.inl rfl | exact Or.inr rfl))) (fun _ _ _ _ _ => pts_nil) (fun _ _ _ _ _ => (pi_any (pe_ix ix_seq (pv 4) (pv 3) (fun _ _ => rfl)))) (fun _ _ _ _ _ => (pg_name (i := 5) sc_has_seen.nd rfl (by first | exact Or.inl rfl | exact Or.inr rfl))) (fun _ _ _ _ _ => pts_nil) (fun _ _ _ _ _ => (pe_cmpR op_eq (pe_ix ix_seq (pv 5) pe_int (fun _ _ => rfl)) (pv 2) (nomark _)))) pa_nil))))
theorem ok_has_seen (D : DefB K mg "has_seen" s_has_seen P_has_seen) (T : Txt K mg aB aR aE aHouse) (c_row_of : C8.Cal P w K mg base 1 "row_of" (sp_row_of K) []) : C8.Cal P w K mg base 2 "has_seen" (sp_has_seen K) [] :=
  cal_of D sc_has_seen (fun vs H Q E h => by obtain ⟨_, _, _, _, _, rfl, _⟩ := h; rfl) (fun f cdv A outer s H vs Q E hr h => ⟨(t_has_seen K), d_has_seen T c_row_of hr, p_has_seen T vs H Q E h⟩)
end
section
variable {P : Program} {w : World} {K : Frag} {mg : Str → Option Value} {base : Heap} {aB aR aE aHouse : Addr}
theorem d_is_step (T : Txt K mg aB aR aE aHouse) (c_has_seen : C8.Cal P w K mg base 2 "has_seen" (sp_has_seen K) []) (c_is_word : C8.Cal P w K mg base 1 "is_word" (sp_is_word K) []) (c_names_of : C8.Cal P w K mg base 1 "names_of" (sp_names_of K) []) (c_is_in : C8.Cal P w K mg base 1 "is_in" (sp_is_in K) []) {f : Addr} {cdv : Value} {A : Around} {outer : List Env} {s : Shared} {H : Hp} {E : XK} (hr : Room 2 (A.deeper (envOfC "is_step" (C8.fnScope s_is_step) s.heap.objs.size f cdv))) :
    PSs (cxOf C8.CX0 P w K mg base N_is_step "is_step" (C8.fnScope s_is_step) f cdv A outer s H E).nox (C8.fnBody s_is_step) (t_is_step K aR aE) :=
  (pss_cons (ps_set (i := 3) sc_is_step.nd rfl (by first | exact Or.inl rfl | exact Or.inr rfl) (pe_ix ix_seq (pv 1) (pv 2) (fun _ _ => rfl)))
    (pss_cons (ps_if (PW.pt (pw_or (pt_not (pt_val (pe_callB call_isi (by rfl) T.z_isinstance (by decide +kernel) (pa_cons (pv 3) (pa_cons (pe_bltn (by rfl) T.z_tuple (by decide +kernel) rfl) pa_nil))))) (pw_or (pt_cmpR (op_eqD (hu64 hr)) (pv 3) (pe_tup pa_nil) (nomark _)) (pw_or1 (pt_not (pt_val (pe_callB call_isi (by rfl) T.z_isinstance (by decide +kernel) (pa_cons (pe_ix ix_seq (pv 3) pe_int (fun _ _ => rfl)) (pa_cons (pe_bltn (by rfl) T.z_str (by decide +kernel) rfl) pa_nil))))))))) (pss_one (ps_ret pe_bl)) pss_nil)
    (pss_cons (ps_if (PW.pt (pw_and (pt_cmpR op_eq (pv 2) (pe_op op_sub (pe_callB call_len (by rfl) T.z_len boot_len (pa_cons (pv 1) pa_nil)) pe_int) (nomark _)) (pw_and1 (pt_cmpR op_notIn_seq (pe_ix ix_seq (pv 3) pe_int (fun _ _ => rfl)) (C8.pe_gc rfl T.c_ENDS) (by with_unfolding_all rfl))))) (pss_one (ps_ret pe_bl)) pss_nil)
    (pss_cons (ps_if (pt_cmpR op_eq (pe_callB call_len (by rfl) T.z_len boot_len (pa_cons (pv 3) pa_nil)) pe_int (nomark _)) (pss_one (ps_ret (pe_cmpR op_in_seq (pe_ix ix_seq (pv 3) pe_int (fun _ _ => rfl)) (C8.pe_gc rfl T.c_BARE) (by with_unfolding_all rfl)))) pss_nil)
    (pss_cons (ps_if (pt_cmpR op_eq (pe_callB call_len (by rfl) T.z_len boot_len (pa_cons (pv 3) pa_nil)) pe_int (nomark _)) (pss_cons (ps_set (i := 5) sc_is_step.nd rfl (by first | exact Or.inl rfl | exact Or.inr rfl) (pe_disp (pps_cons pe_str pe_int (pps_cons pe_str (pe_op op_sub (C8.pe_gc rfl T.c_LOCALS) pe_int) (pps_cons pe_str (pe_op op_sub (C8.pe_gc rfl T.c_LOCALS) pe_int) (pps_cons pe_str (pe_op op_sub (pe_callB call_len (by rfl) T.z_len boot_len (pa_cons (pv 1) pa_nil)) pe_int) (pps_cons pe_str (pe_op op_sub (pe_callB call_len (by rfl) T.z_len boot_len (pa_cons (pv 1) pa_nil)) pe_int) pps_nil))))) (by rfl) (by rfl) (fun z => by cases z) (by decide)))
    (pss_cons (ps_if (pt_cmp (pc_din (hu_of hr) (pe_ix ix_seq (pv 3) pe_int (fun _ _ => rfl)) (pv 5)) rfl) (pss_one (ps_ret (C8.pe_c c_is_in hr (by decide) rfl (pa_cons (pe_ix ix_seq (pv 3) pe_int (fun _ _ => rfl)) (pa_cons pe_int (pa_cons (pe_dget (hu_of hr) (pv 5) (pe_ix ix_seq (pv 3) pe_int (fun _ _ => rfl)) (fun _ _ => rfl)) pa_nil)))))) pss_nil)
    (pss_one (ps_ret (pe_and (pe_cmpR op_in_seq (pe_ix ix_seq (pv 3) pe_int (fun _ _ => rfl)) (pe_tup (pa_cons pe_str (pa_cons pe_str (pa_cons pe_str pa_nil)))) (by with_unfolding_all rfl)) (pe_and (C8.pe_c c_is_word hr (by decide) rfl (pa_cons (pe_ix ix_seq (pv 3) pe_int (fun _ _ => rfl)) pa_nil)) (pe_one (pe_cmpR op_in_seq (pe_ix ix_seq (pv 3) pe_int (fun _ _ => rfl)) (C8.pe_c c_names_of hr (by decide) rfl (pa_cons (pv 0) pa_nil)) (by with_unfolding_all rfl))))))))) pss_nil)
    (pss_cons (ps_if (PW.pt (pw_or (pt_cmpR op_ne (pe_callB call_len (by rfl) T.z_len boot_len (pa_cons (pv 3) pa_nil)) pe_int (nomark _)) (pw_or (pt_not (pt_val (C8.pe_c c_is_word hr (by decide) rfl (pa_cons (pe_ix ix_seq (pv 3) pe_int (fun _ _ => rfl)) pa_nil)))) (pw_or1 (pt_not (pt_val (C8.pe_c c_is_word hr (by decide) rfl (pa_cons (pe_ix ix_seq (pv 3) pe_int (fun _ _ => rfl)) pa_nil)))))))) (pss_one (ps_ret pe_bl)) pss_nil)
    (pss_cons (ps_set (i := 4) sc_is_step.nd rfl (by first | exact Or.inl rfl | exact Or.inr rfl) (pe_disp (pps_cons pe_str pe_int (pps_cons pe_str pe_int (pps_cons pe_str pe_int pps_nil))) (by rfl) (by rfl) (fun z => by cases z) (by decide)))
    (pss_one (ps_ret (pe_and (pe_cmp (pc_din (hu_of hr) (pe_ix ix_seq (pv 3) pe_int (fun _ _ => rfl)) (pv 4)) rfl) (pe_one (C8.pe_c c_has_seen hr (by decide) rfl (pa_cons (pv 0) (pa_cons (pe_ix ix_seq (pv 3) pe_int (fun _ _ => rfl)) (pa_cons (pe_ix ix_seq (pv 3) pe_int (fun _ _ => rfl)) (pa_cons (pe_dget (hu_of hr) (pv 4) (pe_ix ix_seq (pv 3) pe_int (fun _ _ => rfl)) (fun _ _ => rfl)) pa_nil))))))))))))))))
theorem ok_is_step (D : DefB K mg "is_step" s_is_step P_is_step) (T : Txt K mg aB aR aE aHouse) (c_has_seen : C8.Cal P w K mg base 2 "has_seen" (sp_has_seen K) []) (c_is_word : C8.Cal P w K mg base 1 "is_word" (sp_is_word K) []) (c_names_of : C8.Cal P w K mg base 1 "names_of" (sp_names_of K) []) (c_is_in : C8.Cal P w K mg base 1 "is_in" (sp_is_in K) []) : C8.Cal P w K mg base 3 "is_step" (sp_is_step K) [] :=
  cal_of D sc_is_step (fun vs H Q E h => by obtain ⟨_, _, _, _, _, _, rfl, _⟩ := h; rfl) (fun f cdv A outer s H vs Q E hr h => ⟨(t_is_step K aR aE), d_is_step T c_has_seen c_is_word c_names_of c_is_in hr, p_is_step T vs H Q E h⟩)
end
section
variable {P : Program} {w : World} {K : Frag} {mg : Str → Option Value} {base : Heap} {aB aR aE aHouse : Addr}
theorem d_is_handler (T : Txt K mg aB aR aE aHouse) (c_is_in : C8.Cal P w K mg base 1 "is_in" (sp_is_in K) []) (c_names_of : C8.Cal P w K mg base 1 "names_of" (sp_names_of K) []) (c_is_word : C8.Cal P w K mg base 1 "is_word" (sp_is_word K) []) {f : Addr} {cdv : Value} {A : Around} {outer : List Env} {s : Shared} {H : Hp} {E : XK} (hr : Room 1 (A.deeper (envOfC "is_handler" (C8.fnScope s_is_handler) s.heap.objs.size f cdv))) :
    PSs (cxOf C8.CX0 P w K mg base N_is_handler "is_handler" (C8.fnScope s_is_handler) f cdv A outer s H E).nox (C8.fnBody s_is_handler) (t_is_handler K) :=
  (pss_cons (ps_if (PW.pt (pw_or (pt_not (pt_val (pe_callB call_isi (by rfl) T.z_isinstance (by decide +kernel) (pa_cons (pv 2) (pa_cons (pe_bltn (by rfl) T.z_tuple (by decide +kernel) rfl) pa_nil))))) (pw_or (pt_cmpR op_ne (pe_callB call_len (by rfl) T.z_len boot_len (pa_cons (pv 2) pa_nil)) pe_int (nomark _)) (pw_or1 (pt_not (pt_val (C8.pe_c c_is_in hr (by decide) rfl (pa_cons (pe_ix ix_seq (pv 2) pe_int (fun _ _ => rfl)) (pa_cons pe_int (pa_cons (pe_op op_sub (pe_callB call_len (by rfl) T.z_len boot_len (pa_cons (pv 1) pa_nil)) pe_int) pa_nil)))))))))) (pss_one (ps_ret pe_bl)) pss_nil)
    (pss_cons (ps_if (PW.pt (pw_or (pt_not (pt_val (C8.pe_c c_is_in hr (by decide) rfl (pa_cons (pe_ix ix_seq (pv 2) pe_int (fun _ _ => rfl)) (pa_cons (pe_op op_add (pe_ix ix_seq (pv 2) pe_int (fun _ _ => rfl)) pe_int) (pa_cons (pe_callB call_len (by rfl) T.z_len boot_len (pa_cons (pv 1) pa_nil)) pa_nil)))))) (pw_or (pt_not (pt_val (C8.pe_c c_is_word hr (by decide) rfl (pa_cons (pe_ix ix_seq (pv 2) pe_int (fun _ _ => rfl)) pa_nil)))) (pw_or1 (pt_cmpR op_notIn_seq (pe_ix ix_seq (pv 2) pe_int (fun _ _ => rfl)) (C8.pe_c c_names_of hr (by decide) rfl (pa_cons (pv 0) pa_nil)) (by with_unfolding_all rfl)))))) (pss_one (ps_ret pe_bl)) pss_nil)
    (pss_one (ps_ret (C8.pe_c c_is_in hr (by decide) rfl (pa_cons (pe_ix ix_seq (pv 2) pe_int (fun _ _ => rfl)) (pa_cons pe_int (pa_cons (pe_op op_sub (pe_callB call_len (by rfl) T.z_len boot_len (pa_cons (pv 1) pa_nil)) pe_int) pa_nil))))))))
theorem ok_is_handler (D : DefB K mg "is_handler" s_is_handler P_is_handler) (T : Txt K mg aB aR aE aHouse) (c_is_in : C8.Cal P w K mg base 1 "is_in" (sp_is_in K) []) (c_names_of : C8.Cal P w K mg base 1 "names_of" (sp_names_of K) []) (c_is_word : C8.Cal P w K mg base 1 "is_word" (sp_is_word K) []) : C8.Cal P w K mg base 2 "is_handler" (sp_is_handler K) [] :=
  cal_of D sc_is_handler (fun vs H Q E h => by obtain ⟨_, _, _, _, _, _, rfl, _⟩ := h; rfl) (fun f cdv A outer s H vs Q E hr h => ⟨(t_is_handler K), d_is_handler T c_is_in c_names_of c_is_word hr, p_is_handler T vs H Q E h⟩)
end
section
variable {P : Program} {w : World} {K : Frag} {mg : Str → Option Value} {base : Heap} {aB aR aE aHouse : Addr}
theorem d_check_code (T : Txt K mg aB aR aE aHouse) (c_is_handler : C8.Cal P w K mg base 2 "is_handler" (sp_is_handler K) []) (c_is_list : C8.Cal P w K mg base 1 "is_list" (sp_is_list K) []) (c_is_step : C8.Cal P w K mg base 3 "is_step" (sp_is_step K) []) {f : Addr} {cdv : Value} {A : Around} {outer : List Env} {s : Shared} {H : Hp} {E : XK} (hr : Room 3 (A.deeper (envOfC "check_code" (C8.fnScope s_check_code) s.heap.objs.size f cdv))) :
    PSs (cxOf C8.CX0 P w K mg base N_check_code "check_code" (C8.fnScope s_check_code) f cdv A outer s H E).nox (C8.fnBody s_check_code) (t_check_code K) :=
  (pss_cons (ps_set (i := 4) sc_check_code.nd rfl (by first | exact Or.inl rfl | exact Or.inr rfl) (pe_ix ix_seq (pv 3) pe_int (fun _ _ => rfl)))
    (pss_cons (ps_if (PW.pt (pw_or (pt_not (pt_val (C8.pe_c c_is_list hr (by decide) rfl (pa_cons (pv 4) (pa_cons (C8.pe_gc rfl T.c_MOST_STEPS) pa_nil))))) (pw_or1 (pt_cmpR (op_eqD (hu64 hr)) (pv 4) (pe_tup pa_nil) (nomark _))))) (pss_one ps_never) pss_nil)
    (pss_cons (ps_for PassesOwn.never rfl (pi_range1 rfl T.z_range (pa_cons (pe_callB call_len (by rfl) T.z_len boot_len (pa_cons (pv 4) pa_nil)) pa_nil)) (pg_name (i := 5) sc_check_code.nd rfl (by first | exact Or.inl rfl | exact Or.inr rfl)) (pss_one (ps_if (pt_not (pt_val (C8.pe_c c_is_step hr (by decide) rfl (pa_cons (pv 0) (pa_cons (pv 4) (pa_cons (pv 5) pa_nil)))))) (pss_one ps_never) pss_nil)))
    (pss_cons (ps_if (pt_not (pt_val (C8.pe_c c_is_list hr (by decide) rfl (pa_cons (pe_ix ix_seq (pv 3) pe_int (fun _ _ => rfl)) (pa_cons (C8.pe_gc rfl T.c_MOST_PARTS) pa_nil))))) (pss_one ps_never) pss_nil)
    (pss_one (ps_for PassesOwn.never rfl (pi_enumT (by rfl) T.z_enumerate (pa_cons (pe_ix ix_seq (pv 3) pe_int (fun _ _ => rfl)) pa_nil)) (pg_tup (by rfl) (pgs_cons (pg_name (i := 6) sc_check_code.nd rfl (by first | exact Or.inl rfl | exact Or.inr rfl)) (pgs_cons (pg_name (i := 7) sc_check_code.nd rfl (by first | exact Or.inl rfl | exact Or.inr rfl)) pgs_nil))) (pss_one (ps_if (pt_not (pt_val (C8.pe_c c_is_handler hr (by decide) rfl (pa_cons (pv 0) (pa_cons (pv 4) (pa_cons (pv 7) pa_nil)))))) (pss_one ps_never) pss_nil))))))))
theorem ok_check_code (D : DefB K mg "check_code" s_check_code P_check_code) (T : Txt K mg aB aR aE aHouse) (c_is_handler : C8.Cal P w K mg base 2 "is_handler" (sp_is_handler K) []) (c_is_list : C8.Cal P w K mg base 1 "is_list" (sp_is_list K) []) (c_is_step : C8.Cal P w K mg base 3 "is_step" (sp_is_step K) []) : C8.Cal P w K mg base 4 "check_code" (sp_check_code K) [] :=
  cal_of D sc_check_code (fun vs H Q E h => by obtain ⟨_, _, _, _, _, _, _, _, rfl, _⟩ := h; rfl) (fun f cdv A outer s H vs Q E hr h => ⟨(t_check_code K), d_check_code T c_is_handler c_is_list c_is_step hr, p_check_code T vs H Q E h⟩)
end
section
variable {P : Program} {w : World} {K : Frag} {mg : Str → Option Value} {base : Heap} {aB aR aE aHouse : Addr}
theorem d_check_classes (T : Txt K mg aB aR aE aHouse) (c_check_code : C8.Cal P w K mg base 4 "check_code" (sp_check_code K) []) (c_is_method : C8.Cal P w K mg base 3 "is_method" (sp_is_method K) []) (c_is_list : C8.Cal P w K mg base 1 "is_list" (sp_is_list K) []) (c_are_fields : C8.Cal P w K mg base 2 "are_fields" (sp_are_fields K) []) (c_names_of : C8.Cal P w K mg base 1 "names_of" (sp_names_of K) []) (c_is_class : C8.Cal P w K mg base 2 "is_class" (sp_is_class K) []) {f : Addr} {cdv : Value} {A : Around} {outer : List Env} {s : Shared} {H : Hp} {E : XK} (hr : Room 4 (A.deeper (envOfC "check_classes" (C8.fnScope s_check_classes) s.heap.objs.size f cdv))) :
    PSs (cxOf C8.CX0 P w K mg base N_check_classes "check_classes" (C8.fnScope s_check_classes) f cdv A outer s H E).nox (C8.fnBody s_check_classes) (t_check_classes K) :=
  (pss_cons (ps_if (PW.pt (pw_or (pt_not (pt_val (C8.pe_c c_is_list hr (by decide) rfl (pa_cons (pv 0) (pa_cons (C8.pe_gc rfl T.c_MOST_CLASSES) pa_nil))))) (pw_or1 (pt_cmpR (op_eqD (hu64 hr)) (pv 0) (pe_tup pa_nil) (nomark _))))) (pss_one ps_never) pss_nil)
    (pss_cons (ps_for PassesOwn.never rfl (pi_enumT (by rfl) T.z_enumerate (pa_cons (pv 0) pa_nil)) (pg_tup (by rfl) (pgs_cons (pg_name (i := 2) sc_check_classes.nd rfl (by first | exact Or.inl rfl | exact Or.inr rfl)) (pgs_cons (pg_name (i := 3) sc_check_classes.nd rfl (by first | exact Or.inl rfl | exact Or.inr rfl)) pgs_nil))) (pss_one (ps_if (pt_not (pt_val (C8.pe_c c_is_class hr (by decide) rfl (pa_cons (pe_slice sl_any (pv 0) po_none (po_some (pv 2))) (pa_cons (pv 3) pa_nil))))) (pss_one ps_never) pss_nil)))
    (pss_cons (ps_set (i := 1) sc_check_classes.nd rfl (by first | exact Or.inl rfl | exact Or.inr rfl) (C8.pe_c c_names_of hr (by decide) rfl (pa_cons (pv 0) pa_nil)))
    (pss_cons (ps_for PassesOwn.never rfl (pi_enumT (by rfl) T.z_enumerate (pa_cons (pv 0) pa_nil)) (pg_tup (by rfl) (pgs_cons (pg_name (i := 2) sc_check_classes.nd rfl (by first | exact Or.inl rfl | exact Or.inr rfl)) (pgs_cons (pg_name (i := 3) sc_check_classes.nd rfl (by first | exact Or.inl rfl | exact Or.inr rfl)) pgs_nil))) (pss_cons (ps_if (pt_not (pt_val (C8.pe_c c_are_fields hr (by decide) rfl (pa_cons (pe_slice sl_any (pv 0) po_none (po_some (pv 2))) (pa_cons (pv 1) (pa_cons (pv 3) pa_nil)))))) (pss_one ps_never) pss_nil)
    (pss_cons (ps_if (pt_not (pt_val (C8.pe_c c_is_list hr (by decide) rfl (pa_cons (pe_ix ix_seq (pv 3) pe_int (fun _ _ => rfl)) (pa_cons (C8.pe_gc rfl T.c_MOST_PARTS) pa_nil))))) (pss_one ps_never) pss_nil)
    (pss_one (ps_for PassesOwn.never rfl (pi_range1 rfl T.z_range (pa_cons (pe_callB call_len (by rfl) T.z_len boot_len (pa_cons (pe_ix ix_seq (pv 3) pe_int (fun _ _ => rfl)) pa_nil)) pa_nil)) (pg_name (i := 4) sc_check_classes.nd rfl (by first | exact Or.inl rfl | exact Or.inr rfl)) (pss_one (ps_if (pt_not (pt_val (C8.pe_c c_is_method hr (by decide) rfl (pa_cons (pe_slice sl_any (pv 0) po_none (po_some (pv 2))) (pa_cons (pv 1) (pa_cons (pv 3) (pa_cons (pv 4) pa_nil))))))) (pss_one ps_never) pss_nil)))))))
    (pss_one (ps_for PassesOwn.never rfl (pi_enumT (by rfl) T.z_enumerate (pa_cons (pv 0) pa_nil)) (pg_tup (by rfl) (pgs_cons (pg_name (i := 2) sc_check_classes.nd rfl (by first | exact Or.inl rfl | exact Or.inr rfl)) (pgs_cons (pg_name (i := 3) sc_check_classes.nd rfl (by first | exact Or.inl rfl | exact Or.inr rfl)) pgs_nil))) (pss_one (ps_for PassesOwn.never rfl (pi_enumT (by rfl) T.z_enumerate (pa_cons (pe_ix ix_seq (pv 3) pe_int (fun _ _ => rfl)) pa_nil)) (pg_tup (by rfl) (pgs_cons (pg_name (i := 4) sc_check_classes.nd rfl (by first | exact Or.inl rfl | exact Or.inr rfl)) (pgs_cons (pg_name (i := 5) sc_check_classes.nd rfl (by first | exact Or.inl rfl | exact Or.inr rfl)) pgs_nil))) (pss_one (ps_expr (C8.pe_c c_check_code hr (by decide) rfl (pa_cons (pv 0) (pa_cons (pv 2) (pa_cons (pv 4) (pa_cons (pv 5) pa_nil)))))))))))))))
theorem ok_check_classes (D : DefB K mg "check_classes" s_check_classes P_check_classes) (T : Txt K mg aB aR aE aHouse) (c_check_code : C8.Cal P w K mg base 4 "check_code" (sp_check_code K) []) (c_is_method : C8.Cal P w K mg base 3 "is_method" (sp_is_method K) []) (c_is_list : C8.Cal P w K mg base 1 "is_list" (sp_is_list K) []) (c_are_fields : C8.Cal P w K mg base 2 "are_fields" (sp_are_fields K) []) (c_names_of : C8.Cal P w K mg base 1 "names_of" (sp_names_of K) []) (c_is_class : C8.Cal P w K mg base 2 "is_class" (sp_is_class K) []) : C8.Cal P w K mg base 5 "check_classes" (sp_check_classes K) [] :=
  cal_of D sc_check_classes (fun vs H Q E h => by obtain ⟨_, _, rfl, _⟩ := h; rfl) (fun f cdv A outer s H vs Q E hr h => ⟨(t_check_classes K), d_check_classes T c_check_code c_is_method c_is_list c_are_fields c_names_of c_is_class hr, p_check_classes T vs H Q E h⟩)
end
section
variable {P : Program} {w : World} {K : Frag} {mg : Str → Option Value} {base : Heap} {aB aR aE aHouse : Addr}
theorem d_need_house (T : Txt K mg aB aR aE aHouse) {f : Addr} {cdv : Value} {A : Around} {outer : List Env} {s : Shared} {H : Hp} {E : XK} (hr : Room 0 (A.deeper (envOfC "need_house" (C8.fnScope s_need_house) s.heap.objs.size f cdv))) :
    PSs (cxOf C8.CX0 P w K mg base N_need_house "need_house" (C8.fnScope s_need_house) f cdv A outer s H E).nox (C8.fnBody s_need_house) (t_need_house K aHouse) :=
  (pss_one (ps_if (pt_not (pt_val (pe_callB (C8.call_isC T.insC) (by rfl) T.z_isinstance (by decide +kernel) (pa_cons (pv 0) (pa_cons (C8.pe_gc rfl T.c_House) pa_nil))))) (pss_one ps_never) pss_nil))
theorem ok_need_house (D : DefB K mg "need_house" s_need_house P_need_house) (T : Txt K mg aB aR aE aHouse) : C8.Cal P w K mg base 1 "need_house" (sp_need_house K aHouse) [] :=
  cal_of D sc_need_house (fun vs H Q E h => by obtain ⟨_, _, rfl, _⟩ := h; rfl) (fun f cdv A outer s H vs Q E hr h => ⟨(t_need_house K aHouse), d_need_house T hr, p_need_house T vs H Q E h⟩)
end
section
variable {P : Program} {w : World} {K : Frag} {mg : Str → Option Value} {base : Heap} {aB aR aE aHouse : Addr}
theorem d_need_name (T : Txt K mg aB aR aE aHouse) (c_names_of : C8.Cal P w K mg base 1 "names_of" (sp_names_of K) []) {f : Addr} {cdv : Value} {A : Around} {outer : List Env} {s : Shared} {H : Hp} {E : XK} (hr : Room 1 (A.deeper (envOfC "need_name" (C8.fnScope s_need_name) s.heap.objs.size f cdv))) :
    PSs (cxOf C8.CX0 P w K mg base N_need_name "need_name" (C8.fnScope s_need_name) f cdv A outer s H E).nox (C8.fnBody s_need_name) (t_need_name K) :=
  (pss_one (ps_if (PW.pt (pw_or (pt_not (pt_val (pe_callB call_isi (by rfl) T.z_isinstance (by decide +kernel) (pa_cons (pv 1) (pa_cons (pe_bltn (by rfl) T.z_str (by decide +kernel) rfl) pa_nil))))) (pw_or1 (pt_cmpR op_notIn_seq (pv 1) (C8.pe_c c_names_of hr (by decide) rfl (pa_cons (pe_fld (pv 0) rfl) pa_nil)) (by with_unfolding_all rfl))))) (pss_one ps_never) pss_nil))
theorem ok_need_name (D : DefB K mg "need_name" s_need_name P_need_name) (T : Txt K mg aB aR aE aHouse) (c_names_of : C8.Cal P w K mg base 1 "names_of" (sp_names_of K) []) : C8.Cal P w K mg base 2 "need_name" (sp_need_name K aHouse) [] :=
  cal_of D sc_need_name (fun vs H Q E h => by obtain ⟨_, _, _, rfl, _⟩ := h; rfl) (fun f cdv A outer s H vs Q E hr h => ⟨(t_need_name K), d_need_name T c_names_of hr, p_need_name T vs H Q E h⟩)
end
section
variable {P : Program} {w : World} {K : Frag} {mg : Str → Option Value} {base : Heap} {aB aR aE aHouse : Addr}
theorem d_need_word (T : Txt K mg aB aR aE aHouse) (c_is_word : C8.Cal P w K mg base 1 "is_word" (sp_is_word K) []) {f : Addr} {cdv : Value} {A : Around} {outer : List Env} {s : Shared} {H : Hp} {E : XK} (hr : Room 1 (A.deeper (envOfC "need_word" (C8.fnScope s_need_word) s.heap.objs.size f cdv))) :
    PSs (cxOf C8.CX0 P w K mg base N_need_word "need_word" (C8.fnScope s_need_word) f cdv A outer s H E).nox (C8.fnBody s_need_word) (t_need_word K) :=
  (pss_one (ps_if (pt_not (pt_val (C8.pe_c c_is_word hr (by decide) rfl (pa_cons (pv 0) pa_nil)))) (pss_one ps_never) pss_nil))
theorem ok_need_word (D : DefB K mg "need_word" s_need_word P_need_word) (T : Txt K mg aB aR aE aHouse) (c_is_word : C8.Cal P w K mg base 1 "is_word" (sp_is_word K) []) : C8.Cal P w K mg base 2 "need_word" (sp_need_word K) [] :=
  cal_of D sc_need_word (fun vs H Q E h => by obtain ⟨_, rfl, _⟩ := h; rfl) (fun f cdv A outer s H vs Q E hr h => ⟨(t_need_word K), d_need_word T c_is_word hr, p_need_word T vs H Q E h⟩)
end
section
variable {P : Program} {w : World} {K : Frag} {mg : Str → Option Value} {base : Heap} {aB aR aE aHouse : Addr}
theorem d_need_asked (T : Txt K mg aB aR aE aHouse) (c_need_word : C8.Cal P w K mg base 2 "need_word" (sp_need_word K) []) (c_need_name : C8.Cal P w K mg base 2 "need_name" (sp_need_name K aHouse) []) (c_need_house : C8.Cal P w K mg base 1 "need_house" (sp_need_house K aHouse) []) {f : Addr} {cdv : Value} {A : Around} {outer : List Env} {s : Shared} {H : Hp} {E : XK} (hr : Room 2 (A.deeper (envOfC "need_asked" (C8.fnScope s_need_asked) s.heap.objs.size f cdv))) :
    PSs (cxOf C8.CX0 P w K mg base N_need_asked "need_asked" (C8.fnScope s_need_asked) f cdv A outer s H E).nox (C8.fnBody s_need_asked) (t_need_asked K aHouse) :=
  (pss_cons (ps_expr (C8.pe_c c_need_house hr (by decide) rfl (pa_cons (pv 0) pa_nil)))
    (pss_cons (ps_expr (C8.pe_c c_need_name hr (by decide) rfl (pa_cons (pv 0) (pa_cons (pv 1) pa_nil))))
    (pss_one (ps_expr (C8.pe_c c_need_word hr (by decide) rfl (pa_cons (pv 2) pa_nil))))))
theorem ok_need_asked (D : DefB K mg "need_asked" s_need_asked P_need_asked) (T : Txt K mg aB aR aE aHouse) (c_need_word : C8.Cal P w K mg base 2 "need_word" (sp_need_word K) []) (c_need_name : C8.Cal P w K mg base 2 "need_name" (sp_need_name K aHouse) []) (c_need_house : C8.Cal P w K mg base 1 "need_house" (sp_need_house K aHouse) []) : C8.Cal P w K mg base 3 "need_asked" (sp_need_asked K aHouse) [] :=
  cal_of D sc_need_asked (fun vs H Q E h => by obtain ⟨_, _, _, _, rfl, _⟩ := h; rfl) (fun f cdv A outer s H vs Q E hr h => ⟨(t_need_asked K aHouse), d_need_asked T c_need_word c_need_name c_need_house hr, p_need_asked T vs H Q E h⟩)
end
section
variable {P : Program} {w : World} {K : Frag} {mg : Str → Option Value} {base : Heap} {aB aR aE aHouse : Addr}
theorem d_line_of (T : Txt K mg aB aR aE aHouse) (c_row_of : C8.Cal P w K mg base 1 "row_of" (sp_row_of K) []) {f : Addr} {cdv : Value} {A : Around} {outer : List Env} {s : Shared} {H : Hp} {E : XK} (hr : Room 1 (A.deeper (envOfC "line_of" (C8.fnScope s_line_of) s.heap.objs.size f cdv))) :
    PSs (cxOf C8.CX0 P w K mg base N_line_of "line_of" (C8.fnScope s_line_of) f cdv A outer s H E).nox (C8.fnBody s_line_of) (t_line_of K) :=
  (pss_one (ps_ret (pe_lc (own := [("told", 3)]) rfl sc_line_of.nd (pi_any (C8.pe_c c_row_of hr (by decide) rfl (pa_cons (pe_fld (pv 0) rfl) (pa_cons (pv 1) pa_nil)))) (blkOk_by (own := [("told", 3)]) (N := N_line_of) (sc := (C8.fnScope s_line_of)) (by decide +kernel)) (fun _ _ _ _ _ => (pg_name (i := 3) sc_line_of.nd rfl (by first | exact Or.inl rfl | exact Or.inr rfl))) (fun _ _ _ _ _ => (pts_one (pt_cmpR op_in_seq (pv 2) (pe_lc (own := [("method", 4)]) rfl sc_line_of.nd (pi_any (pe_ix ix_seq (pv 3) pe_int (fun _ _ => rfl))) (blkOk_by (own := [("method", 4)]) (N := N_line_of) (sc := (relS (lcSc_line_of_0) (C8.fnScope s_line_of))) (by decide +kernel)) (fun _ _ _ _ _ => (pg_name (i := 4) sc_line_of.nd rfl (by first | exact Or.inl rfl | exact Or.inr rfl))) (fun _ _ _ _ _ => pts_nil) (fun _ _ _ _ _ => (pe_ix ix_seq (pv 4) pe_int (fun _ _ => rfl)))) (by with_unfolding_all rfl)))) (fun _ _ _ _ _ => (pe_ix ix_seq (pv 3) pe_int (fun _ _ => rfl))))))
theorem ok_line_of (D : DefB K mg "line_of" s_line_of P_line_of) (T : Txt K mg aB aR aE aHouse) (c_row_of : C8.Cal P w K mg base 1 "row_of" (sp_row_of K) []) : C8.Cal P w K mg base 2 "line_of" (sp_line_of K aHouse) [] :=
  cal_of D sc_line_of (fun vs H Q E h => by obtain ⟨_, _, _, _, rfl, _⟩ := h; rfl) (fun f cdv A outer s H vs Q E hr h => ⟨(t_line_of K), d_line_of T c_row_of hr, p_line_of T vs H Q E h⟩)
end
section
variable {P : Program} {w : World} {K : Frag} {mg : Str → Option Value} {base : Heap} {aB aR aE aHouse : Addr}
theorem d_method_line (T : Txt K mg aB aR aE aHouse) (c_line_of : C8.Cal P w K mg base 2 "line_of" (sp_line_of K aHouse) []) (c_need_asked : C8.Cal P w K mg base 3 "need_asked" (sp_need_asked K aHouse) []) {f : Addr} {cdv : Value} {A : Around} {outer : List Env} {s : Shared} {H : Hp} {E : XK} (hr : Room 3 (A.deeper (envOfC "method_line" (C8.fnScope s_method_line) s.heap.objs.size f cdv))) :
    PSs (cxOf C8.CX0 P w K mg base N_method_line "method_line" (C8.fnScope s_method_line) f cdv A outer s H E).nox (C8.fnBody s_method_line) (t_method_line K aHouse) :=
  (pss_cons (ps_expr (C8.pe_c c_need_asked hr (by decide) rfl (pa_cons (pv 0) (pa_cons (pv 1) (pa_cons (pv 2) pa_nil)))))
    (pss_one (ps_ret (pe_callTy call_tuple_of (by rfl) T.z_tuple (by decide +kernel) (pa_cons (C8.pe_c c_line_of hr (by decide) rfl (pa_cons (pv 0) (pa_cons (pv 1) (pa_cons (pv 2) pa_nil)))) pa_nil)))))
theorem ok_method_line (D : DefB K mg "method_line" s_method_line P_method_line) (T : Txt K mg aB aR aE aHouse) (c_line_of : C8.Cal P w K mg base 2 "line_of" (sp_line_of K aHouse) []) (c_need_asked : C8.Cal P w K mg base 3 "need_asked" (sp_need_asked K aHouse) []) : C8.Cal P w K mg base 4 "method_line" (sp_method_line K aHouse) [] :=
  cal_of D sc_method_line (fun vs H Q E h => by obtain ⟨_, _, _, _, rfl, _⟩ := h; rfl) (fun f cdv A outer s H vs Q E hr h => ⟨(t_method_line K aHouse), d_method_line T c_line_of c_need_asked hr, p_method_line T vs H Q E h⟩)
end
section
variable {P : Program} {w : World} {K : Frag} {mg : Str → Option Value} {base : Heap} {aB aR aE aHouse : Addr}
theorem d_upper_method (T : Txt K mg aB aR aE aHouse) (c_row_of : C8.Cal P w K mg base 1 "row_of" (sp_row_of K) []) (c_need_asked : C8.Cal P w K mg base 3 "need_asked" (sp_need_asked K aHouse) []) {f : Addr} {cdv : Value} {A : Around} {outer : List Env} {s : Shared} {H : Hp} {E : XK} (hr : Room 3 (A.deeper (envOfC "upper_method" (C8.fnScope s_upper_method) s.heap.objs.size f cdv))) :
    PSs (cxOf C8.CX0 P w K mg base N_upper_method "upper_method" (C8.fnScope s_upper_method) f cdv A outer s H E).nox (C8.fnBody s_upper_method) (t_upper_method K aHouse) :=
  (pss_cons (ps_expr (C8.pe_c c_need_asked hr (by decide) rfl (pa_cons (pv 0) (pa_cons (pv 1) (pa_cons (pv 2) pa_nil)))))
    (pss_cons (ps_for PassesOwn.never rfl (pi_any (pe_slice sl_any (C8.pe_c c_row_of hr (by decide) rfl (pa_cons (pe_fld (pv 0) rfl) (pa_cons (pv 1) pa_nil))) (po_some pe_int) po_none)) (pg_name (i := 3) sc_upper_method.nd rfl (by first | exact Or.inl rfl | exact Or.inr rfl)) (pss_one (ps_for PassesOwn.never rfl (pi_enumT (by rfl) T.z_enumerate (pa_cons (pe_ix ix_seq (pv 3) pe_int (fun _ _ => rfl)) pa_nil)) (pg_tup (by rfl) (pgs_cons (pg_name (i := 4) sc_upper_method.nd rfl (by first | exact Or.inl rfl | exact Or.inr rfl)) (pgs_cons (pg_name (i := 5) sc_upper_method.nd rfl (by first | exact Or.inl rfl | exact Or.inr rfl)) pgs_nil))) (pss_one (ps_if (pt_cmpR op_eq (pe_ix ix_seq (pv 5) pe_int (fun _ _ => rfl)) (pv 2) (nomark _)) (pss_one (ps_ret (pe_tup (pa_cons (pe_ix ix_seq (pv 3) pe_int (fun _ _ => rfl)) (pa_cons (pv 4) pa_nil))))) pss_nil)))))
    (pss_one (ps_ret pe_non))))
theorem ok_upper_method (D : DefB K mg "upper_method" s_upper_method P_upper_method) (T : Txt K mg aB aR aE aHouse) (c_row_of : C8.Cal P w K mg base 1 "row_of" (sp_row_of K) []) (c_need_asked : C8.Cal P w K mg base 3 "need_asked" (sp_need_asked K aHouse) []) : C8.Cal P w K mg base 4 "upper_method" (sp_upper_method K aHouse) [] :=
  cal_of D sc_upper_method (fun vs H Q E h => by obtain ⟨_, _, _, _, rfl, _⟩ := h; rfl) (fun f cdv A outer s H vs Q E hr h => ⟨(t_upper_method K aHouse), d_upper_method T c_row_of c_need_asked hr, p_upper_method T vs H Q E h⟩)
end
section
variable {P : Program} {w : World} {K : Frag} {mg : Str → Option Value} {base : Heap} {aB aR aE aHouse : Addr}
theorem d_reached_from (T : Txt K mg aB aR aE aHouse) {aN : Addr} (EN : ExN K mg "NotOwn" aN) (c_line_of : C8.Cal P w K mg base 2 "line_of" (sp_line_of K aHouse) []) (c_need_asked : C8.Cal P w K mg base 3 "need_asked" (sp_need_asked K aHouse) []) {f : Addr} {cdv : Value} {A : Around} {outer : List Env} {s : Shared} {H : Hp} {E : XK} (hr : Room 3 (A.deeper (envOfC "reached_from" (C8.fnScope s_reached_from) s.heap.objs.size f cdv))) :
    PSs (cxOf (L2.CX P w) P w K mg base N_reached_from "reached_from" (C8.fnScope s_reached_from) f cdv A outer s H E) (C8.fnBody s_reached_from) (t_reached_from K aN E aHouse) :=
  (pss_cons (ps_expr (C8.pe_c c_need_asked hr (by decide) rfl (pa_cons (pv 0) (pa_cons (pv 1) (pa_cons (pv 2) pa_nil)))))
    (pss_cons (ps_if (PW.pt (pw_or (pt_cmpR (op_neD (hu64 hr)) (pe_slice sl_any (C8.pe_c c_line_of hr (by decide) rfl (pa_cons (pv 0) (pa_cons (pv 1) (pa_cons (pv 2) pa_nil)))) po_none (po_some pe_int)) (pe_lst (pa_cons (pv 1) pa_nil)) (nomark _)) (pw_or1 (pt_cmpR op_eq (pv 1) (C8.pe_gc rfl T.c_TOP) (nomark _))))) (pss_one (ps_raise rfl (takes_of rfl rfl rfl rfl) (pmk_own0 PySem.F.excBase_ValueError EN.x EN.g EN.k (raises_own EN.b EN.t) (by exact rfl)))) pss_nil)
    (pss_one (ps_ret (pe_callTy call_tuple_of (by rfl) T.z_tuple (by decide +kernel) (pa_cons (pe_lc (own := [("told", 3)]) rfl sc_reached_from.nd (pi_any (pe_fld (pv 0) rfl)) (blkOk_by (own := [("told", 3)]) (N := N_reached_from) (sc := (C8.fnScope s_reached_from)) (by decide +kernel)) (fun _ _ _ _ _ => (pg_name (i := 3) sc_reached_from.nd rfl (by first | exact Or.inl rfl | exact Or.inr rfl))) (fun _ _ _ _ _ => (pts_one (pt_cmpR (op_eqD (hu64 hr)) (pe_slice sl_any (C8.pe_c c_line_of hr (by decide) rfl (pa_cons (pv 0) (pa_cons (pe_ix ix_seq (pv 3) pe_int (fun _ _ => rfl)) (pa_cons (pv 2) pa_nil)))) po_none (po_some pe_int)) (pe_lst (pa_cons (pv 1) pa_nil)) (nomark _)))) (fun _ _ _ _ _ => (pe_ix ix_seq (pv 3) pe_int (fun _ _ => rfl)))) pa_nil))))))
end
section
variable {P : Program} {w : World} {K : Frag} {mg : Str → Option Value} {base : Heap} {aB aR aE aHouse : Addr}
theorem d_House_init (T : Txt K mg aB aR aE aHouse) (c_check_classes : C8.Cal P w K mg base 5 "check_classes" (sp_check_classes K) []) {f : Addr} {cdv : Value} {A : Around} {outer : List Env} {s : Shared} {H : Hp} {E : XK} (hr : Room 5 (A.deeper (envOfC "House.__init__" (C8.fnScope s_House_init) s.heap.objs.size f cdv))) :
    PSs (cxOf C8.CX0 P w K mg base N_House_init "House.__init__" (C8.fnScope s_House_init) f cdv A outer s H E).nox (C8.fnBody s_House_init) (t_House_init K) :=
  (pss_cons (ps_expr (C8.pe_c c_check_classes hr (by decide) rfl (pa_cons (pv 1) pa_nil)))
    (pss_one (ps_fld (pv 0) (pv 1) rfl)))
end
section
variable {K : Frag}
theorem Td.tyA {H : Hp} {v : V} {d : PyData} (t : Td K H v d) : TyX K H v (.type (tyN d)) := by
  cases t with
  | non => exact .base .non
  | bl b => exact .base (.bl b)
  | int i => exact .base (.int i)
  | str x => exact .base (.str x)
  | tup h _ =>
    rcases h with (h | ⟨o, h⟩) | ⟨o, its, n, hk, hc, _⟩
    · exact .base (.tup h)
    · exact .fTuple h
    · exact .kTuple hk hc
theorem ed_isiA {σ : L2.St} {H : Hp} {ta : TE} {d : PyData} {n : String} {r : Bool} (h : EvD K ta σ H d) (hk : kitB (tyN d) n = some r) : EvD K (tCB (rIsi K) (tCons ta (tCons (tC (.ty n)) tNil))) σ H (.bool r) := fun H1 e Q q =>
  h H1 e _ fun v H2 e2 t => ⟨v, .ty n, _, _, r, rfl, .ty n, t.tyA, kit_ty hk, q _ H2 e2 (.bl _)⟩
def isSeq : PyData → Bool
  | .tuple _ => true
  | .list _ => true
  | _ => false
theorem kit_n {n : String} (h1 : kitB n "tuple" = some false) (h2 : kitB n "list" = some false) : PySem.W.kitAny K (.type n) [.type "tuple", .type "list"] = some false :=
  kitAny_cons (kit_ty h1) (fun _ => kitAny_cons (kit_ty h2) (fun _ => kitAny_nil) (by simp)) (by simp)
theorem kit_tl (d : PyData) (hd : ∀ x, d ≠ .dict x) : PySem.W.kitAny K (.type (tyN d)) [.type "tuple", .type "list"] = some (isSeq d) := by
  cases d with
  | dict x => exact absurd rfl (hd x)
  | none => exact kit_n (by decide +kernel) (by decide +kernel)
  | bool _ => exact kit_n (n := "bool") (by decide +kernel) (by decide +kernel)
  | int _ => exact kit_n (n := "int") (by decide +kernel) (by decide +kernel)
  | str _ => exact kit_n (n := "str") (by decide +kernel) (by decide +kernel)
  | tuple _ => exact kitAny_cons (b := true) (kit_ty (a := "tuple") (by decide +kernel)) (by simp) (fun _ => rfl)
  | list _ => exact kitAny_cons (b := false) (kit_ty (a := "list") (by decide +kernel)) (fun _ => kitAny_cons (b := true) (kit_ty (a := "list") (by decide +kernel)) (by simp) (fun _ => rfl)) (by simp)
theorem ed_isiT {σ : L2.St} {H : Hp} {ta : TE} {d : PyData} (h : EvD K ta σ H d) (hd : ∀ x, d ≠ .dict x) : EvD K (tCB (rIsiT K) (tCons ta (tCons (tTup (tCons (tC (.ty "tuple")) (tCons (tC (.ty "list")) tNil))) tNil))) σ H (.bool (isSeq d)) := fun H1 e Q q =>
  h H1 e _ fun v H2 e2 t => by
    refine ⟨by decide, fun p hp => ?_⟩
    exact ⟨v, p, [.ty "tuple", .ty "list"], .type (tyN d), [.type "tuple", .type "list"], isSeq d, rfl, upd_same, .cons (.ty _) (.cons (.ty _) .nil), (t.ex (Same.new hp)).tyA, kit_tl d hd, q _ _ (e2.trans (Same.new hp)) (.bl _)⟩
theorem k_ss : kitB "str" "str" = some true := by decide +kernel
theorem k_is : kitB "int" "str" = some false := by decide +kernel
theorem k_ii : kitB "int" "int" = some true := by decide +kernel
theorem k_ib : kitB "int" "bool" = some false := by decide +kernel
theorem k_ns : kitB "NoneType" "str" = some false := by decide +kernel
theorem k_tl : kitB "tuple" "list" = some false := by decide +kernel
/-- l.index(x), texts -/
theorem ed_index {σ : L2.St} {H : Hp} {ta : TE} {i : Nat} {p : Addr} {ys : List Str} {x : Str} {j : Nat} (hv : σ[i]? = some (some (.ref p))) (hl : H p = some (.lst (ys.map V.str))) (h : EvD K ta σ H (.str x)) (h1 : ys[j]? = some x) (h2 : ∀ k < j, ys[k]? ≠ some x) :
    EvD K (tBM K "list" (rIndex K) (tVar i) (tCons ta tNil)) σ H (.int (j : Int)) := fun H1 e Q q =>
  ⟨_, hv, .inl ⟨rfl, _, .of (e _ _ hl)⟩, h H1 e _ fun v H2 e2 t => by
    rw [t.strI]
    refine ⟨p, _, .str x, j, .str x, rfl, rfl, .of ((e.trans e2) _ _ hl), rfl, flat_strs ys, by rw [List.getElem?_map, h1]; rfl, ?_, fun m z' hm hz => ?_, q _ H2 e2 (.int _)⟩
    · show decide (x = x) = true
      simp
    · rw [List.getElem?_map] at hz
      cases hy : ys[m]? with
      | none => rw [hy] at hz; cases hz
      | some y =>
        rw [hy] at hz
        cases hz
        show decide (y = x) = false
        refine decide_eq_false fun z => h2 m hm ?_
        rw [hy, z]⟩
end
section
variable {K : Frag} {mg : Str → Option Value} {aB aR aE aHouse : Addr}
theorem ev_lrow {σ : L2.St} {H : Hp} {ta tb : TE} {cs : List Kl} {n : Str} (h1 : EvS K ta σ H (encs cs)) (h2 : EvD K tb σ H (.str n)) (a : cs.length ≤ 8) : EvN K (tCall (sp_law_row_of K) [] C8.E0 (tCons ta (tCons tb tNil))) σ H (encs (row cs n)) := fun H1 e Q q =>
  h1 H1 e _ fun v H2 e2 t1 => h2 H2 (e.trans e2) _ fun w H3 e3 t2 => by
    rw [t2.strI]
    exact ⟨v, cs, n, rfl, t1.ex e3, a, fun p xs H' np e5 hp t => q p xs H' (e2.free (e3.free np)) ((e2.trans e3).trans e5) hp t⟩
theorem p_law_up (T : Txt K mg aB aR aE aHouse) (vs : List V) (H : Hp) (Q : VK) (E : XK) (h : sp_law_up K vs H Q E) : t_law_up K { nx := fun _ H' => Q .non H', rt := Q } (start N_law_up vs) H := by
  obtain ⟨a, cs, n, rfl, hv, hl, q⟩ := h
  have h8 := row_lenE cs n hl
  refine s_retN (K := K) (ds := ((row cs n).map (·.name) ++ [topS]).map .str) (EvN.is (en_catM (EvN.m (en_lcM hd0 (EvN.s (ev_lrow (cs := cs) (n := n) (es_var rfl hv) (ed_var rfl (.str _)) hl)) (by omega) (fun _ => rfl) fun x d H1 e hd t => ?_)) (EvN.m (en_lst (ea_cons ed_str ea_nil) (by simp))) (by simp at h8 ⊢; omega)) ?_) q
  · obtain ⟨u, hu, rfl⟩ := List.mem_map.mp hd
    exact ed_ixT (d := .str u.name) (ed_var (d := enc u) rfl t) ed_int rfl
  · rw [List.map_append, List.map_map, List.map_map]
    rfl
end
section
variable {K : Frag} {mg : Str → Option Value} {aB aR aE aHouse : Addr}
section
variable {σ : L2.St} {H : Hp} {ta te : TE} {d : PyData} {D : Ends} {tz : TS}
theorem ed_ixV {i : Nat} {r : Addr} {k : Int} {xs : List V} {v : V} (hv : σ[i]? = some (some (.ref r))) (h : H r = some (.lst xs)) (e : atI xs k = some v) (t : ∀ H, Td K H v d) : EvD K (tOp (rIx K) (tVar i) (tC (.int k))) σ H d := fun H1 e1 Q q =>
  ⟨_, hv, .inl ⟨r, xs, k, v, rfl, rfl, .of (e1 _ _ h), e, q v H1 (Same.refl H1) (t H1)⟩⟩
theorem ed_int1 {i : Int} (h : EvD K ta σ H (.int i)) : EvD K (tCB rInt1 (tCons ta tNil)) σ H (.int i) := fun H1 e Q q =>
  h H1 e _ fun v H2 e2 t => .inl ⟨i, by rw [t.intI], q _ H2 e2 (.int i)⟩
theorem s_row {i : Nat} {r : Addr} {k z : Int} {j : Nat} {xs : List V} (ys : List V) (h : EvD K te σ H (.int z)) (hv : σ[i]? = some (some (.ref r))) (hr : H r = some (.lst xs)) (hk : ixN xs.length k = some j) (hy : xs.set j (.int z) = ys) (kk : ∀ H1, Same H H1 → H1 r = some (.lst xs) → D.nx σ (upd H1 r (.lst ys))) :
    tAsg te (gSub (tVar i) (tC (.int k)) rSetL) D σ H := h H (Same.refl H) _ fun v H1 e1 t => by
  have := t.intI
  subst this
  exact ⟨_, hv, r, xs, k, j, rfl, rfl, e1 _ _ hr, hk, by rw [hy]; exact kk H1 e1 (e1 _ _ hr)⟩
theorem q_row {i : Nat} {r : Addr} {k z : Int} {j : Nat} {xs : List V} (ys : List V) (h : EvD K te σ H (.int z)) (hv : σ[i]? = some (some (.ref r))) (hr : H r = some (.lst xs)) (hk : ixN xs.length k = some j) (hy : xs.set j (.int z) = ys) (kk : ∀ H1, Same H H1 → H1 r = some (.lst xs) → tz D σ (upd H1 r (.lst ys))) :
    tSeq (tAsg te (gSub (tVar i) (tC (.int k)) rSetL)) tz D σ H := s_row (D := { D with nx := tz D }) ys h hv hr hk hy kk
end
theorem p_law_taken (T : Txt K mg aB aR aE aHouse) (vs : List V) (H : Hp) (Q : VK) (E : XK) (h : sp_law_taken K vs H Q E) : t_law_taken K { nx := fun _ H' => Q .non H', rt := Q } (start N_law_taken vs) H := by
  obtain ⟨R, m, rfl, hr, h1, h2, q⟩ := h
  obtain ⟨⟨i, s, t, hrow, hi⟩, hsc⟩ := hr
  have fin : ∀ (v : V) (k : Int) (H' : Hp) (i' s' t' : Int), Gx [R.r] H H' → H' R.r = some (.lst [.ref R.sc, .int i', .int s', .int t']) → 0 ≤ i' → Td K H' v (.int (k % m)) → Q v H' := fun v k H' i' s' t' g hrow' hi' tv =>
    q v _ H' g ⟨⟨i', s', t', hrow', hi'⟩, hsc.gx g⟩ tv ⟨k % m, rfl, Int.emod_nonneg _ (by omega), Int.emod_lt_of_pos _ h1⟩
  have u : ∀ {H0 H1 : Hp} {xs ys : List V}, Gx [R.r] H H0 → Same H0 H1 → H1 R.r = some (.lst xs) → Gx [R.r] H (upd H1 R.r (.lst ys)) := fun g e h => Gx.upd (g.trans (Gx.of e)) (by simp) h
  refine q_if (b := decide (0 < t)) (et_test (K := K) (ed_I0 (i := t) (j := 0) (ed_ixV rfl hrow rfl (fun _ => .int _)) ed_int (fun _ => .bl _))) (fun hb H1 e1 => ?_) fun hb H1 e1 => ?_
  · have hrow1 := e1 _ _ hrow
    refine q_setD (K := K) (d := .int (t % m)) (ed_I (C := fun _ j => 0 < j) (i := t) (j := m) (ed_int1 (ed_ixV rfl hrow1 rfl (fun _ => .int _))) (ed_var rfl (.int _)) h1 (fun _ => .int _)) fun v H2 e2 tv => ?_
    have := tv.intI
    subst this
    refine q_row (K := K) (z := t / m) [.ref R.sc, .int i, .int s, .int (t / m)] (ed_I (C := CDiv) (i := t) (j := m) (ed_ixV rfl (e2 _ _ hrow1) rfl (fun _ => .int _)) (ed_var rfl (.int _)) ⟨h1, by omega⟩ (fun _ => .int _)) rfl (e2 _ _ hrow1) rfl rfl fun H3 e3 h3 => ?_
    exact s_ret (K := K) (d := .int (t % m)) (ed_var rfl (.int _)) fun w H4 e4 tw => fin w t H4 i s (t / m) ((u (Gx.of (e1.trans e2)) e3 h3).trans (Gx.of e4)) (e4 _ _ upd_same) hi tw
  · have hrow1 := e1 _ _ hrow
    dsimp only [tNext]
    refine q_row (K := K) (z := i + 1) [.ref R.sc, .int (i + 1), .int s, .int t] (ed_I0 (i := i) (j := 1) (ed_ixV rfl hrow1 rfl (fun _ => .int _)) ed_int (fun _ => .int _)) rfl hrow1 rfl rfl fun H2 e2 h2' => ?_
    have g2 := u (ys := [.ref R.sc, .int (i + 1), .int s, .int t]) (Gx.of e1) e2 h2'
    try dsimp only [List.set]
    generalize hH3 : upd H2 R.r (.lst [.ref R.sc, .int (i + 1), .int s, .int t]) = H3 at *
    have h3 : H3 R.r = some (.lst [.ref R.sc, .int (i + 1), .int s, .int t]) := by
      rw [← hH3]
      exact upd_same
    have hlen : EvD K (tCB (rLen K) (tCons (tOp (rIx K) (tVar 0) (tC (.int 0))) tNil)) (L2.start N_law_taken [V.ref R.r, V.int m]) H3 (.int (R.ns.length : Int)) := fun H4 e4 Q q => by
      refine ⟨_, rfl, .inl ⟨R.r, _, 0, .ref R.sc, rfl, rfl, .of (e4 _ _ h3), rfl, ?_⟩⟩
      refine ⟨.ref R.sc, R.ns.length, rfl, .inl ⟨_, (hsc.gx (g2.trans (Gx.of e4))).sq, by rw [List.length_map]⟩, q _ H4 (Same.refl H4) (.int _)⟩
    refine q_if (b := decide ((R.ns.length : Int) < i + 1)) (et_test (K := K) (ed_I0 (i := i + 1) (j := (R.ns.length : Int)) (ed_ixV rfl h3 rfl (fun _ => .int _)) hlen (fun _ => .bl _))) (fun hb2 H4 e4 => ?_) fun hb2 H4 e4 => ?_
    · have h4 := e4 _ _ h3
      refine q_row (K := K) (z := (s * 48271 + 11) % 2147483647) [.ref R.sc, .int (i + 1), .int ((s * 48271 + 11) % 2147483647), .int t] (ed_I (C := fun _ j => 0 < j) (i := s * 48271 + 11) (j := 2147483647) (ed_int1 (ed_I0 (i := s * 48271) (j := 11) (ed_I (C := CMul) (i := s) (j := 48271) (ed_ixV rfl h4 rfl (fun _ => .int _)) ed_int (.inr (by omega)) (fun _ => .int _)) ed_int (fun _ => .int _))) ed_int (by omega) (fun _ => .int _)) rfl h4 rfl rfl fun H5 e5 h5 => ?_
      have g5 := u (ys := [.ref R.sc, .int (i + 1), .int ((s * 48271 + 11) % 2147483647), .int t]) (g2.trans (Gx.of e4)) e5 h5
      refine s_ret (K := K) (d := .int ((s * 48271 + 11) % 2147483647 / 7 % m)) (ed_I (C := fun _ j => 0 < j) (j := m) (ed_int1 (ed_I (C := CDiv) (i := (s * 48271 + 11) % 2147483647) (j := 7) (ed_ixV rfl upd_same rfl (fun _ => .int _)) ed_int ⟨by omega, by omega⟩ (fun _ => .int _))) (ed_var rfl (.int _)) h1 (fun _ => .int _)) fun w H6 e6 tw => ?_
      exact fin w _ H6 (i + 1) _ t (g5.trans (Gx.of e6)) (e6 _ _ upd_same) (by omega) tw
    · have hb2 : ¬ (R.ns.length : Int) < i + 1 := of_decide_eq_false hb2
      have h4 := e4 _ _ h3
      dsimp only [tNext]
      have hlt : i.toNat < R.ns.length := by omega
      have hcell : atI (R.ns.map V.int) (i + 1 - 1) = some (.int (R.ns[i.toNat])) := by
        have e : i + 1 - 1 = ((i.toNat : Nat) : Int) := by omega
        rw [e]
        refine atI_nat ?_
        rw [List.getElem?_map, List.getElem?_eq_getElem hlt]
        rfl
      generalize R.ns[i.toNat] = c at hcell
      refine q_setD (K := K) (d := .int c) ?_ fun v H5 e5 tv => ?_
      · intro H5 e5 Q q
        refine ⟨_, rfl, .inl ⟨R.r, _, 0, .ref R.sc, rfl, rfl, .of (e5 _ _ h4), rfl, ?_⟩⟩
        refine ⟨_, rfl, .inl ⟨R.r, _, 1, .int (i + 1), rfl, rfl, .of (e5 _ _ h4), rfl, ?_⟩⟩
        refine ⟨i + 1, 1, rfl, rfl, .inl ⟨R.sc, _, i + 1 - 1, .int c, rfl, rfl, (hsc.gx ((g2.trans (Gx.of e4)).trans (Gx.of e5))).sq, hcell, q _ H5 (Same.refl H5) (.int c)⟩⟩
      have := tv.intI
      subst this
      have h5 := e5 _ _ h4
      refine q_row (K := K) (z := (s * 48271 + c + 11) % 2147483647) [.ref R.sc, .int (i + 1), .int ((s * 48271 + c + 11) % 2147483647), .int t] (ed_I (C := fun _ j => 0 < j) (i := s * 48271 + c + 11) (j := 2147483647) (ed_int1 (ed_I0 (i := s * 48271 + c) (j := 11) (ed_I0 (i := s * 48271) (j := c) (ed_I (C := CMul) (i := s) (j := 48271) (ed_ixV rfl h5 rfl (fun _ => .int _)) ed_int (.inr (by omega)) (fun _ => .int _)) (ed_var rfl (.int _)) (fun _ => .int _)) ed_int (fun _ => .int _))) ed_int (by omega) (fun _ => .int _)) rfl h5 rfl rfl fun H6 e6 h6 => ?_
      have g6 := u (ys := [.ref R.sc, .int (i + 1), .int ((s * 48271 + c + 11) % 2147483647), .int t]) (g2.trans (Gx.of (e4.trans e5))) e6 h6
      try dsimp only [List.set]
      generalize hs' : (s * 48271 + c + 11) % 2147483647 = s' at *
      generalize hH7 : upd H6 R.r (.lst [.ref R.sc, .int (i + 1), .int s', .int t]) = H7 at *
      have h7 : H7 R.r = some (.lst [.ref R.sc, .int (i + 1), .int s', .int t]) := by
        rw [← hH7]
        exact upd_same
      refine q_if (b := decide ((10 : Int) ^ (18 : Int).toNat ≤ c)) (et_test (K := K) (ed_I0 (i := c) (j := 10 ^ (18 : Int).toNat) (ed_var rfl (.int _)) (ed_I (C := CPow) (i := 10) (j := 18) ed_int ed_int ⟨by omega, by omega, by decide⟩ (fun _ => .int _)) (fun _ => .bl _))) (fun _ H8 e8 => ?_) fun _ H8 e8 => ?_
      · have h8 := e8 _ _ h7
        refine s_row (K := K) (z := c / m) [.ref R.sc, .int (i + 1), .int s', .int (c / m)] (ed_I (C := CDiv) (i := c) (j := m) (ed_var rfl (.int _)) (ed_var rfl (.int _)) ⟨h1, by omega⟩ (fun _ => .int _)) rfl h8 rfl rfl fun H9 e9 h9 => ?_
        have g9 := u (ys := [.ref R.sc, .int (i + 1), .int s', .int (c / m)]) (g6.trans (Gx.of e8)) e9 h9
        refine s_ret (K := K) (d := .int (c % m)) (ed_I (C := fun _ j => 0 < j) (i := c) (j := m) (ed_int1 (ed_var rfl (.int _))) (ed_var rfl (.int _)) h1 (fun _ => .int _)) fun w Ha ea tw => ?_
        exact fin w c Ha (i + 1) s' (c / m) (g9.trans (Gx.of ea)) (ea _ _ upd_same) (by omega) tw
      · refine s_ret (K := K) (d := .int (c % m)) (ed_I (C := fun _ j => 0 < j) (i := c) (j := m) (ed_int1 (ed_var rfl (.int _))) (ed_var rfl (.int _)) h1 (fun _ => .int _)) fun w Ha ea tw => ?_
        exact fin w c Ha (i + 1) s' t (g6.trans (Gx.of (e8.trans ea))) (ea _ _ (e8 _ _ h7)) (by omega) tw
end
section
variable {K : Frag} {mg : Str → Option Value} {aB aR aE aHouse : Addr}
theorem p_law_pick (T : Txt K mg aB aR aE aHouse) (vs : List V) (H : Hp) (Q : VK) (E : XK) (h : sp_law_pick K vs H Q E) : t_law_pick K { nx := fun _ H' => Q .non H', rt := Q } (start N_law_pick vs) H := by
  obtain ⟨R, a, ds, rfl, hr, l, h1, h2, q⟩ := h
  have hpos : 0 < ds.length := List.length_pos_iff.mpr h1
  refine ⟨_, rfl, ?_⟩
  refine ex_takenC (K := K) (R := R) (H := H) (m := (ds.length : Int)) rfl (fun H1 g r => by walk_at "ev") (by omega) (by omega) H (Gx.refl _ _) hr _ fun v d H2 g2 r2 t2 ⟨k, e, k0, k1⟩ => ?_
  subst e
  have := t2.intI
  subst this
  obtain ⟨_, xs, ha, ts⟩ := l.gx g2
  obtain ⟨j, rfl⟩ := Int.eq_ofNat_of_zero_le k0
  have hj : j < ds.length := by omega
  obtain ⟨x, hx, tx⟩ := ts.get (List.getElem?_eq_getElem hj)
  exact .inl ⟨a, xs, (j : Int), x, rfl, rfl, .of ha, atI_nat hx, q x _ H2 g2 r2 tx (List.getElem_mem hj)⟩
end
section
variable {K : Frag} {mg : Str → Option Value} {aB aR aE aHouse : Addr}
abbrev AlTail (K : Frag) : TS := (tSeq (tIfS (tOr (tTest (tOp rIsN (tVar 1) (tC .non))) (tB (tCB (rIsi K) (tCons (tVar 1) (tCons (tC (.ty "str")) tNil))))) (tRet (tAndV (tOp rEq (tVar 0) (tVar 1)) (tOp rEq (tCB (rIsi K) (tCons (tVar 0) (tCons (tC (.ty "str")) tNil))) (tCB (rIsi K) (tCons (tVar 1) (tCons (tC (.ty "str")) tNil)))))) tNext)
    (tRet (tAndV (tCB (rIsi K) (tCons (tVar 0) (tCons (tC (.ty "int")) tNil))) (tAndV (tOp rEq (tCB (rIsi K) (tCons (tVar 0) (tCons (tC (.ty "bool")) tNil))) (tCB (rIsi K) (tCons (tVar 1) (tCons (tC (.ty "bool")) tNil)))) (tOp rEq (tVar 0) (tVar 1))))))
theorem al_tail {v w : V} {d : PyData} {H H1 : Hp} {Q : VK} {D : Ends} (hD : D.rt = Q) (hl : leafD d = true) (q : Ret K (.bool true) H Q) (e1 : Same H H1) (hv1 : Td K H1 v d) (hw1 : Td K H1 w d) : AlTail K D [some v, some w, none] H1 := by
  subst hD
  cases d with
  | none =>
    refine q_yes (EvT.is (et_or (b := true) (c := false) (et_test (K := K) (EvD.is (ed_isN (d := .none) (ed_var rfl hw1)) rfl)) (fun z => by cases z)) rfl) fun H2 e2 => ?_
    refine s_ret (K := K) (d := .bool true) (ed_andT (ed_eqN (ed_var rfl (hv1.ex e2)) (ed_var rfl (hw1.ex e2))) (EvD.is (ed_eqB (x := false) (y := false) (ed_isiA (d := .none) (ed_var rfl (hv1.ex e2)) (by first | exact k_ss | exact k_is | exact k_ii | exact k_ib | exact k_ns)) (ed_isiA (d := .none) (ed_var rfl (hw1.ex e2)) (by first | exact k_ss | exact k_is | exact k_ii | exact k_ib | exact k_ns))) rfl)) fun v H3 e3 t => q v H3 ((e1.trans e2).trans e3) t
  | str x =>
    refine q_yes (EvT.is (et_or (b := false) (c := true) (et_test (K := K) (EvD.is (ed_isN (d := .str x) (ed_var rfl hw1)) rfl)) (fun _ => et_B (K := K) (ed_isiA (d := .str x) (ed_var rfl hw1) (by first | exact k_ss | exact k_is | exact k_ii | exact k_ib | exact k_ns)))) rfl) fun H2 e2 => ?_
    refine s_ret (K := K) (d := .bool true) (ed_andT (EvD.is (ed_eqS (x := x) (y := x) (ed_var rfl (hv1.ex e2)) (ed_var rfl (hw1.ex e2))) (by simp)) (EvD.is (ed_eqB (x := true) (y := true) (ed_isiA (d := .str x) (ed_var rfl (hv1.ex e2)) (by first | exact k_ss | exact k_is | exact k_ii | exact k_ib | exact k_ns)) (ed_isiA (d := .str x) (ed_var rfl (hw1.ex e2)) (by first | exact k_ss | exact k_is | exact k_ii | exact k_ib | exact k_ns))) rfl)) fun v H3 e3 t => q v H3 ((e1.trans e2).trans e3) t
  | int x =>
    refine q_no (et_or2 (et_test (K := K) (EvD.is (ed_isN (d := .int x) (ed_var rfl hw1)) rfl)) (et_B (K := K) (ed_isiA (d := .int x) (ed_var rfl hw1) (by first | exact k_ss | exact k_is | exact k_ii | exact k_ib | exact k_ns)))) fun H2 e2 => ?_
    refine s_ret (K := K) (d := .bool true) (ed_andT (ed_isiA (d := .int x) (ed_var rfl (hv1.ex e2)) (by first | exact k_ss | exact k_is | exact k_ii | exact k_ib | exact k_ns)) (ed_andT (EvD.is (ed_eqB (x := false) (y := false) (ed_isiA (d := .int x) (ed_var rfl (hv1.ex e2)) (by first | exact k_ss | exact k_is | exact k_ii | exact k_ib | exact k_ns)) (ed_isiA (d := .int x) (ed_var rfl (hw1.ex e2)) (by first | exact k_ss | exact k_is | exact k_ii | exact k_ib | exact k_ns))) rfl) (EvD.is (ed_eqI (x := x) (y := x) (ed_var rfl (hv1.ex e2)) (ed_var rfl (hw1.ex e2))) (by simp)))) fun v H3 e3 t => q v H3 ((e1.trans e2).trans e3) t
  | bool _ => cases hl
  | tuple _ => cases hl
  | list _ => cases hl
  | dict _ => cases hl
theorem p_law_alike0 (T : Txt K mg aB aR aE aHouse) (vs : List V) (H : Hp) (Q : VK) (E : XK) (h : sp_law_alike0 K vs H Q E) : t_law_alike0 K { nx := fun _ H' => Q .non H', rt := Q } (start N_law_alike vs) H := by
  obtain ⟨v, w, d, rfl, hv, hw, hl, q⟩ := h
  have hd : ∀ x, d ≠ .dict x := fun x z => by subst z; cases hl
  have hs : isSeq d = false := by cases d <;> first | rfl | cases hl
  refine q_no (et_B (K := K) (EvD.is (ed_isiT (ed_var (d := d) rfl hw) hd) (by rw [hs]))) fun H1 e1 => ?_
  have hv1 := hv.ex e1
  have hw1 := hw.ex e1
  exact al_tail rfl hl q e1 hv1 hw1
end
section
variable {K : Frag} {mg : Str → Option Value} {aB aR aE aHouse : Addr}
theorem ev_alike0 {σ : L2.St} {H : Hp} {ta tb : TE} {d : PyData} (h1 : EvD K ta σ H d) (h2 : EvD K tb σ H d) (hl : leafD d = true) : EvD K (tCall (sp_law_alike0 K) [] C8.E0 (tCons ta (tCons tb tNil))) σ H (.bool true) := fun H1 e Q q =>
  h1 H1 e _ fun v H2 e2 t1 => h2 H2 (e.trans e2) _ fun w H3 e3 t2 => ⟨v, w, d, rfl, t1.ex e3, t2, hl, fun z H4 e4 t => q z H4 ((e2.trans e3).trans e4) t⟩
theorem en_lcRF {σ : L2.St} {H : Hp} {tl te : TE} {tt : TT} {j n : Nat} {vs : List Nat} (h : EvD K tl σ H (.int (n : Int))) (hn : n ≤ 40000) (hw : ∀ x, wipe ((wipe σ vs).set j (some x)) vs = wipe σ vs)
    (ht : ∀ (i : Nat) H1, Same H H1 → i < n → EvT tt ((wipe σ vs).set j (some (.int (i : Int)))) H1 false) : EvN K (tLc (iRng1 (tCons tl tNil)) (gName j) tt te vs) σ H [] := fun H0 e Q q => h H0 e _ fun v H1 e1 t => by
  have ev := t.intI
  subst ev
  refine ⟨(n : Int), rfl, by omega, by omega, fun Dl hD => lc_it (walk_range (lo := 0) (n := (n : Int).toNat)) (fun i H' => Same H1 H' ∧ H' Dl = some (.lst [])) ⟨Same.new hD, upd_same⟩ (fun _ _ _ _ => trivial) (fun i y H' H2 hi c yl => ?_) fun H' c => q Dl [] H' (e1.free hD) (e1.trans c.1) c.2 .nil⟩
  obtain ⟨rfl, rfl⟩ := yl
  refine ⟨hw _, ?_⟩
  have e0 : (0 : Int) + (i : Int) = (i : Int) := Int.zero_add _
  dsimp only
  rw [e0]
  exact ht i _ (e.trans (e1.trans c.1)) (by simpa using hi) _ (Same.refl _) _ fun H3 e3 => iteF ⟨c.1.trans e3, e3 _ _ c.2⟩
theorem p_law_alike (T : Txt K mg aB aR aE aHouse) (vs : List V) (H : Hp) (Q : VK) (E : XK) (h : sp_law_alike K vs H Q E) : t_law_alike K { nx := fun _ H' => Q .non H', rt := Q } (start N_law_alike vs) H := by
  obtain ⟨v, w, d, rfl, hv, hw, hl, q⟩ := h
  by_cases hle : leafD d = true
  · have h0 := p_law_alike0 T [v, w] H Q E ⟨v, w, d, rfl, hv, hw, hle, q⟩
    have hd : ∀ x, d ≠ .dict x := fun x z => by subst z; cases hle
    have hs : isSeq d = false := by cases d <;> first | rfl | cases hle
    refine q_no (et_B (K := K) (EvD.is (ed_isiT (ed_var (d := d) rfl hw) hd) (by rw [hs]))) fun H1 e1 => ?_
    exact al_tail rfl hle q e1 (hv.ex e1) (hw.ex e1)
  · cases d with
    | tuple ds =>
      have hl2 : ds.all leafD = true ∧ ds.length ≤ 1000 := by
        have h : (ds.all leafD && decide (ds.length ≤ 1000)) = true := hl
        simpa using h
      refine q_yes (et_B (K := K) (EvD.is (ed_isiT (ed_var (d := .tuple ds) rfl hw) (by intro x z; cases z)) rfl)) fun H1 e1 => ?_
      have hv1 := hv.ex e1
      have hw1 := hw.ex e1
      refine q_no (et_or2 (et_nt (et_B (K := K) (EvD.is (ed_isiT (ed_var (d := .tuple ds) rfl hv1) (by intro x z; cases z)) rfl))) (et_test (K := K) (EvD.is (ed_neB (x := false) (y := false) (ed_isiA (d := .tuple ds) (ed_var rfl hv1) (by first | exact k_tl)) (ed_isiA (d := .tuple ds) (ed_var rfl hw1) (by first | exact k_tl))) rfl))) fun H2 e2 => ?_
      have hv2 := hv1.ex e2
      have hw2 := hw1.ex e2
      refine q_no (et_test (K := K) (EvD.is (ed_neI (x := (ds.length : Int)) (y := (ds.length : Int)) (ed_lenD (ed_var rfl hv2)) (ed_lenD (ed_var rfl hw2))) (by simp))) fun H3 e3 => ?_
      have hv3 := hv2.ex e3
      have hw3 := hw2.ex e3
      refine s_ret (K := K) (d := .bool true) (EvD.is (ed_eqL (K := K) (ds := []) (es := []) (EvN.l (en_lcRF (n := ds.length) (ed_lenD (ed_var rfl hw3)) (by omega) (fun _ => rfl) fun i H4 e4 hi => ?_)) (EvN.l (en_lst ea_nil)) ((Sh.lst (n := 0) (by simp)).shaped (by decide)) ((Sh.lst (n := 0) (by simp)).shaped (by decide))) (by simp [PyData.eqv, PyData.eqvAll])) fun z H4 e4 t => q z H4 (((e1.trans e2).trans e3).trans e4) t
      have hat : atI ds (i : Int) = some ds[i] := atI_nat (List.getElem?_eq_getElem hi)
      have hlf : leafD ds[i] = true := List.all_eq_true.mp hl2.1 _ (List.getElem_mem hi)
      exact et_nt (et_B (K := K) (ev_alike0 (d := ds[i]) (ed_ixT (ed_var rfl (hv3.ex e4)) (ed_var rfl (.int _)) hat) (ed_ixT (ed_var rfl (hw3.ex e4)) (ed_var rfl (.int _)) hat) hlf))
    | _ => exact absurd hl hle
end
section
variable {K : Frag} {mg : Str → Option Value} {aB aR aE aHouse : Addr}
theorem p_law_row_of (T : Txt K mg aB aR aE aHouse) (vs : List V) (H : Hp) (Q : VK) (E : XK) (h : sp_law_row_of K vs H Q E) : t_law_row_of K { nx := fun _ H' => Q .non H', rt := Q } (start N_law_row_of vs) H := by
  obtain ⟨a, cs, n, rfl, hv, hl, q⟩ := h
  refine q_setN (K := K) (en_lst ea_nil) fun p xs H1 np e1 hp tp => ?_
  cases tp
  refine q_forG (K := K) (S := [p]) (ds := (encs cs).reverse) (eg_rev (es_var rfl (hv.ex e1)) (by intro b hb; rw [List.mem_singleton.mp hb, hp]; intro z; cases z))
    (fun i σ' H' => ∃ (m : Str) (fs : List Kl) (ys : List V) (o : Option V), σ' = [some (.ref a), some (.str m), some (.ref p), o] ∧ rowA cs.reverse n = fs ++ rowA (cs.reverse.drop i) m ∧ fs.length ≤ i ∧ H' p = some (.lst ys) ∧ Tds K H' ys (encs fs)) ?_ ?_ ?_
  · intro H2 e2
    exact ⟨n, [], [], none, rfl, rfl, Nat.le_refl _, e2 _ _ hp, .nil⟩
  · rintro i x d σ' H' N g hd td ⟨m, fs, ys, o, rfl, hr, hlen, hp', ty⟩ hN
    obtain ⟨c, hc, rfl⟩ : ∃ c, cs.reverse[i]? = some c ∧ d = enc c := by
      rw [← List.map_reverse, List.getElem?_map] at hd
      cases hc : cs.reverse[i]? with
      | none => rw [hc] at hd; cases hd
      | some c => rw [hc] at hd; exact ⟨c, rfl, (Option.some.inj hd).symm⟩
    have hil : i < cs.reverse.length := (List.getElem?_eq_some_iff.mp hc).1
    have hdrop : cs.reverse.drop i = c :: cs.reverse.drop (i + 1) := by
      rw [List.drop_eq_getElem_cons hil, (List.getElem?_eq_some_iff.mp hc).2]
    rw [hdrop] at hr
    rw [List.length_reverse] at hil
    refine s_if (b := decide (c.name = m)) (et_test (ed_eqS (ed_ixT (d := .str c.name) (ed_var (d := enc c) rfl td) ed_int rfl) (ed_var (d := .str m) rfl (.str m)))) (fun hb H2 e2 => ?_) fun hb H2 e2 => ?_
    · have hb : c.name = m := of_decide_eq_true hb
      refine q_app (K := K) (d := enc c) (e2 _ _ hp') (var_is rfl) (ed_var rfl (td.ex e2)) (by rw [ty.len, List.length_map]; omega) fun w H3 e3 t3 => ?_
      have g3 : Gx [p] H' (upd H3 p (.lst (ys ++ [w]))) := Gx.upd (Gx.of (e2.trans e3)) (by simp) ((e2.trans e3) _ _ hp')
      refine s_setD (K := K) (d := .str c.upper) (ed_ixT (ed_var (d := enc c) rfl (td.gx g3)) ed_int rfl) fun z H4 e4 t4 => ?_
      have ez := t4.strI
      subst ez
      refine hN _ _ (g3.trans (Gx.of e4)) ⟨c.upper, fs ++ [c], ys ++ [w], _, rfl, ?_, by rw [List.length_append]; simp; omega, e4 _ _ upd_same, ?_⟩
      · rw [hr]
        show fs ++ (if c.name = m then c :: rowA (cs.reverse.drop (i + 1)) c.upper else rowA (cs.reverse.drop (i + 1)) m) = _
        rw [if_pos hb, List.append_assoc]
        rfl
      · show Tds K H4 (ys ++ [w]) ((fs ++ [c]).map enc)
        rw [List.map_append]
        exact Tds.snoc (ty.gx (g3.trans (Gx.of e4))) (t3.kt ((KT.put ((e2.trans e3) _ _ hp')).trans (.of e4)))
    · have hb : ¬ c.name = m := of_decide_eq_false hb
      refine hN _ _ (Gx.of e2) ⟨m, fs, ys, _, rfl, ?_, by omega, e2 _ _ hp', ty.ex e2⟩
      rw [hr]
      show fs ++ (if c.name = m then c :: rowA (cs.reverse.drop (i + 1)) c.upper else rowA (cs.reverse.drop (i + 1)) m) = _
      rw [if_neg hb]
  · rintro σ' H' g ⟨m, fs, ys, o, rfl, hr, hlen, hp', ty⟩
    refine ⟨.ref p, rfl, ?_⟩
    have e : Same H H' := Gx.same e1 g (by intro a ha; rw [List.mem_singleton.mp ha]; exact np)
    have hf : row cs n = fs := by
      have e0 : cs.reverse.drop ((encs cs).reverse.length) = [] := by
        rw [List.length_reverse, List.length_map, List.drop_eq_nil_iff, List.length_reverse]
        exact Nat.le_refl _
      rw [e0] at hr
      show rowA cs.reverse n = fs
      rw [hr]
      show fs ++ [] = fs
      rw [List.append_nil]
    exact q p ys H' np e hp' (by rw [hf]; exact ty)
end
section
variable {K : Frag} {mg : Str → Option Value} {aB aR aE aHouse : Addr}
theorem at_neg1 {α : Type} : ∀ {xs : List α}, xs ≠ [] → ∃ d, atI xs (-1) = some d ∧ d ∈ xs
  | xs, h => by
    obtain ⟨d, hd⟩ : ∃ d, xs = xs.dropLast ++ [d] := ⟨xs.getLast h, (List.dropLast_concat_getLast h).symm⟩
    refine ⟨d, ?_, ?_⟩
    · rw [hd]
      exact atI_last _ d
    · rw [hd]
      simp
theorem at_in {α : Type} {xs : List α} {i : Int} (h0 : 0 ≤ i) (h1 : i < xs.length) : ∃ d, atI xs i = some d ∧ d ∈ xs := by
  obtain ⟨j, rfl⟩ := Int.eq_ofNat_of_zero_le h0
  have hj : j < xs.length := by omega
  exact ⟨xs[j], atI_nat (List.getElem?_eq_getElem hj), List.getElem_mem hj⟩
theorem p_law_tree (T : Txt K mg aB aR aE aHouse) (vs : List V) (H : Hp) (Q : VK) (E : XK) (h : sp_law_tree K vs H Q E) : t_law_tree K { nx := fun _ H' => Q .non H', rt := Q } (start N_law_tree vs) H := by
  obtain ⟨R, m, rfl, hr, h1, h2, q⟩ := h
  refine q_par3 ?_
  refine en_lst (K := K) (ds := names8.map .str) (ea_cons ed_str (ea_cons ed_str (ea_cons ed_str (ea_cons ed_str (ea_cons ed_str (ea_cons ed_str (ea_cons ed_str (ea_cons ed_str ea_nil)))))))) (by decide) H (Same.refl H) _ fun a1 xs1 H1 n1 e1 hp1 t1 => ?_
  have r1 := hr.ex e1
  have l1 : Lg K [R.r] H1 a1 (names8.map .str) := Lg.new hr n1 hp1 t1
  refine ex_takenC (K := K) (R := R) (m := 3) rfl (fun _ _ _ => ed_int) (by omega) (by omega) H1 (Gx.refl _ _) r1 _ fun v d H2 g2 r2 tv ⟨way, ed, w0, w3⟩ => ?_
  subst ed
  have := tv.intI
  subst this
  refine en_lst (K := K) ea_nil (by decide) H2 (Same.refl H2) _ fun p xs3 H3 np e3 hp t3 => ⟨_, _, _, rfl, ?_⟩
  cases t3
  have l2 := l1.gx g2
  have hnp : H p = none := e1.free (g2.free np fun z => r1.ne (g2.free np (by
    intro z
    exact r2.ne np (List.mem_singleton.mp z).symm)) (List.mem_singleton.mp z).symm)
  have npr : p ≠ R.r := fun z => r2.ne np z.symm
  dsimp only [L2.start, List.set]
  refine q_forR (K := K) (n := m) (ed_var rfl (.int _)) (by omega)
    (fun i σ' H' => ∃ (o2 o6 o7 : Option V) (ts : List (Str × Str)) (ys : List V), σ' = [some (.ref R.r), some (.int (m : Int)), o2, some (.ref a1), some (.int way), some (.ref p), o6, o7, none] ∧ Gx [R.r] H2 H' ∧ RowAt K R H' ∧ H' p = some (.lst ys) ∧ Tds K H' ys (ts.map encF) ∧ TreeOk i ts) ?_ ?_ ?_
  · intro H4 e4
    exact ⟨none, none, none, [], [], rfl, Gx.of (e3.trans e4), r2.ex (e3.trans e4), e4 _ _ hp, .nil, rfl, by simp⟩
  · rintro i σ' H' N hi ⟨o2, o6, o7, ts, ys, rfl, g, r, hp', ty, ⟨hlen, htree⟩⟩ hN
    dsimp only [List.set]
    have l' := l2.gx g
    refine q_setN (K := K) (ds := (topS :: ts.map (·.1)).map .str) (EvN.is (en_catM (EvN.m (en_lst (ea_cons ed_str ea_nil))) (EvN.m (en_lcM hd0 (es_var rfl ⟨ys, .inl (.of hp'), ty⟩) (by rw [List.length_map]; omega) (fun _ => rfl) fun x d H5 e5 hd t => ?_)) (by simp; omega)) ?_) fun a6 xs6 H5 n6 e5 hp6 t6 => ?_
    · obtain ⟨f, hf, rfl⟩ := List.mem_map.mp hd
      exact ed_ixT (d := .str f.1) (ed_var (d := encF f) rfl t) ed_int rfl
    · rw [List.map_map, List.map_cons, List.map_map]
      rfl
    have l6 : Lg K [R.r] H5 a6 ((topS :: ts.map (·.1)).map .str) := Lg.new r n6 hp6 t6
    have r5 := r.ex e5
    have l5 := l'.same e5
    have hne : (topS :: ts.map (·.1)).map PyData.str ≠ [] := by simp
    have hle : ((topS :: ts.map (·.1)).map PyData.str).length = ts.length + 1 := by simp
    dsimp only [List.set]
    refine q_setX (K := K) (R := R) (P := fun d => d ∈ (topS :: ts.map (·.1)).map PyData.str) ?_ r5 fun v7 d7 H6 g6 r6 t7 hd7 => ?_
    · refine ex_ix (A := fun i => 0 ≤ i ∧ i < 3) (EvXN.l (exn_lst (PA := fun ds => ds.length = 3 ∧ ∀ d ∈ ds, d ∈ (topS :: ts.map (·.1)).map PyData.str) (EvXA.mono (exa_cons (P := fun d => d ∈ (topS :: ts.map (·.1)).map PyData.str) ?_ (exa_cons (P := fun d => d ∈ (topS :: ts.map (·.1)).map PyData.str) ?_ (exa_cons (P := fun d => d ∈ (topS :: ts.map (·.1)).map PyData.str) ?_ exa_nil))) ?_) ?_)) ((ex_var (d := .int way) rfl (.int _)).mono fun d e => ⟨way, e, w0, w3⟩) ?_
      · exact ex_ix (A := fun i => i = -1) (exl_var rfl l6) ((ex_pure (d := .int (-1)) fun _ _ _ => ed_neg ed_int).mono fun d e => ⟨_, e, rfl⟩) fun ds i e ei => by
          subst e ei
          exact at_neg1 hne
      · refine ex_ix (A := fun i => 0 ≤ i ∧ i < (ts.length + 1 : Nat)) (exl_var rfl l6) (EvX.mono (ex_I (C := fun _ j => 0 < j) (g := fun i j => .int (i % j)) (A := fun _ => True) (B := fun j => j = ((ts.length + 1 : Nat) : Int)) ((ex_takenC (m := 2) rfl (fun _ _ _ => ed_int) (by omega) (by omega)).mono fun d ⟨k, e, _⟩ => ⟨k, e, trivial⟩) ((ex_pure (d := .int ((ts.length + 1 : Nat) : Int)) fun H7 g7 _ => EvD.is (ed_lenS (EvL.s (el_var rfl (l6.gx g7).ls))) (by rw [hle])).mono fun d e => ⟨_, e, rfl⟩) (fun i j _ ej => by subst ej; omega) (fun _ _ _ => .int _)) ?_) ?_
        · rintro d ⟨i, j, rfl, _, rfl⟩
          exact ⟨_, rfl, Int.emod_nonneg _ (by omega), Int.emod_lt_of_pos _ (by omega)⟩
        · rintro ds i rfl ⟨i0, i1⟩
          exact at_in i0 (by rw [hle]; exact i1)
      · exact ex_pick rfl (exl_var rfl l6) fun ds e => by
          subst e
          exact ⟨hne, by rw [hle]; omega, fun d hd => hd⟩
      · rintro ds ⟨d1, r1, rfl, p1, d2, r2, rfl, p2, d3, r3, rfl, p3, rfl⟩
        refine ⟨rfl, fun d hd => ?_⟩
        have hd : d = d1 ∨ d = d2 ∨ d = d3 := by simpa using hd
        rcases hd with rfl | rfl | rfl <;> assumption
      · rintro ds ⟨e, _⟩
        omega
      · rintro ds i ⟨hl3, hall⟩ ⟨i0, i1⟩
        obtain ⟨d, hd, hm⟩ := at_in (xs := ds) i0 (by omega)
        exact ⟨d, hd, hall d hm⟩
    · obtain ⟨up, hup, rfl⟩ := List.mem_map.mp hd7
      have hnm : names8[i]? ≠ none := by
        have : i < names8.length := Nat.lt_of_lt_of_le hi h2
        rw [List.getElem?_eq_getElem this]
        simp
      obtain ⟨nm, hnm⟩ := Option.ne_none_iff_exists'.mp hnm
      have g26 : Gx [R.r] H2 H6 := g.trans ((Gx.of e5).trans g6)
      have hp6' : H6 p = some (.lst ys) := g6.keep _ _ (by simpa using npr) (e5 _ _ hp')
      dsimp only [List.set]
      refine s_appX (K := K) (R := R) (P := fun d => d = encF (nm, up)) rfl hp6' npr (EvX.mono (ex_tup (EvXA.mono (exa_cons (ex_pure (d := .str nm) fun H7 g7 _ => ed_ixL (el_var rfl ((l5.gx g6).gx g7).ls) (ed_var rfl (.int (i : Int))) (atI_nat (by rw [List.getElem?_map, hnm]; rfl))) (exa_cons (ex_var (d := .str up) rfl t7) exa_nil)) (q := ?_) (PB := fun ds => ds = [.str nm, .str up])) (by rintro ds rfl; simp)) ?_) r6 (by rw [ty.len, List.length_map]; omega) fun v8 d8 H7 g7 r7 hp7 t8 e8 => ?_
      · rintro ds ⟨d1, r1, rfl, rfl, d2, r2, rfl, rfl, rfl⟩
        rfl
      · rintro d ⟨ds, rfl, rfl⟩
        rfl
      · subst e8
        have g27 := g26.trans g7
        refine hN _ _ ⟨_, _, _, ts ++ [(nm, up)], ys ++ [v8], rfl, g27.mut np, r2.mut np r7 g27, upd_same, ?_, ?_, ?_⟩
        · rw [List.map_append]
          exact ((ty.gx ((Gx.of e5).trans (g6.trans g7))).snoc t8).kt (KT.put hp7)
        · rw [List.length_append, hlen]
          rfl
        · intro j pr hj
          by_cases hjl : j < ts.length
          · rw [List.getElem?_append_left hjl] at hj
            obtain ⟨z1, z2⟩ := htree j pr hj
            refine ⟨z1, ?_⟩
            rw [List.take_append_of_le_length (by omega)]
            exact z2
          · have hj2 : j = ts.length := by
              have := lt_of_get hj
              rw [List.length_append] at this
              simp at this
              omega
            subst hj2
            rw [List.getElem?_append_right (Nat.le_refl _)] at hj
            simp at hj
            subst hj
            refine ⟨by rw [hlen]; exact hnm, ?_⟩
            rw [List.take_append_of_le_length (Nat.le_refl _), List.take_length]
            exact hup
  · rintro σ' H' ⟨o2, o6, o7, ts, ys, rfl, g, r, hp', ty, ht⟩
    refine ⟨.ref p, rfl, ?_⟩
    exact q p ys _ H' hnp ((Gx.of e1).trans (g2.trans g)) r hp' ty ⟨ts, rfl, ht⟩
end
section
variable {K : Frag} {mg : Str → Option Value} {aB aR aE aHouse : Addr}
abbrev w3 : List Str := ["ma", "mb", "mc"]
abbrev kinds0 : List Str := ["num", "num", "top"]
def kinds3 (names : List Str) : List PyData := (kinds0 ++ names).map PyData.str
theorem kinds_ok {names : List Str} {d : PyData} (h : d ∈ kinds3 names) : ∃ k, d = .str k ∧ OkK names k := by
  obtain ⟨k, hk, rfl⟩ := List.mem_map.mp h
  refine ⟨k, rfl, ?_⟩
  rcases List.mem_append.mp hk with h | h
  · have h : k = "num" ∨ k = "num" ∨ k = "top" := by simpa using h
    rcases h with h | h | h
    · exact .inl h
    · exact .inl h
    · exact .inr (.inl h)
  · exact .inr (.inr h)
def kvS (vs : List V) : List (Key × V) := ((w3.map Sum.inr).zip vs)
theorem put_S : ∀ (vs : List V) (v : V) (x : Str), w3[vs.length]? = some x → putK (kvS vs) (.inr x) v = kvS (vs ++ [v])
  | [], v, x, h => by
    have : x = "ma" := by simpa using h.symm
    subst this
    rfl
  | [a], v, x, h => by
    have : x = "mb" := by simpa using h.symm
    subst this
    rfl
  | [a, b], v, x, h => by
    have : x = "mc" := by simpa using h.symm
    subst this
    rfl
  | a :: b :: c :: r, v, x, h => by simp at h
theorem tup_strs {ds : List PyData} {A : Str → Prop} (h : ∀ d ∈ ds, ∃ k, d = .str k ∧ A k) : ∃ ks : List Str, ds = ks.map .str ∧ ∀ k ∈ ks, A k := by
  induction ds with
  | nil => exact ⟨[], rfl, by simp⟩
  | cons d r ih =>
    obtain ⟨k, e, ak⟩ := h d List.mem_cons_self
    obtain ⟨ks, e2, aks⟩ := ih fun d hd => h d (List.mem_cons_of_mem _ hd)
    refine ⟨k :: ks, by rw [e, e2]; rfl, fun k' hk => ?_⟩
    rcases List.mem_cons.mp hk with z | z
    · rw [z]; exact ak
    · exact aks k' z
theorem p_law_signs (T : Txt K mg aB aR aE aHouse) (vs : List V) (H : Hp) (Q : VK) (E : XK) (h : sp_law_signs K vs H Q E) : t_law_signs K { nx := fun _ H' => Q .non H', rt := Q } (start N_law_signs vs) H := by
  obtain ⟨R, a, names, rfl, hr, l, hn8, q⟩ := h
  have hk8 : (kinds3 names).length ≤ 11 := by
    unfold kinds3
    simp [kinds0]
    omega
  have hkne : kinds3 names ≠ [] := by
    unfold kinds3
    simp [kinds0]
  -- the tuple of kinds and dict
  show tAsg _ _ _ _ _
  refine en_catM (K := K) (ds := kinds0.map PyData.str) (es := names.map .str) (EvN.m (en_lst (ea_cons ed_str (ea_cons ed_str (ea_cons ed_str ea_nil))))) (em_var rfl l) (by simp [kinds0]; omega) H (Same.refl H) _ fun a3 xs3 H1 n3 e1 hp3 t3 => ?_
  intro p hp
  have hnp : H p = none := e1.free hp
  have r1 := hr.ex e1
  have npr : p ≠ R.r := fun z => r1.ne hp z.symm
  have l3 : Lg K [R.r] H1 a3 (kinds3 names) := Lg.new hr n3 hp3 (by unfold kinds3; rw [List.map_append]; exact t3)
  refine ⟨sz100 (by simp), fun T0 hT => ?_⟩
  have hT1 : H1 T0 = none := (Same.new hp).free hT
  refine ⟨T0, _, rfl, .of upd_same, rfl, _, _, rfl, _, _, rfl, rfl, ?_⟩
  have e2 : Same H1 (upd (upd H1 p (.dK [])) T0 (.tup [.ref a3, .ref p])) := (Same.new hp).trans (Same.new hT)
  have hp2 : (upd (upd H1 p (.dK [])) T0 (.tup [.ref a3, .ref p])) p = some (.dK []) := (Same.new hT) _ _ upd_same
  have r2 := r1.ex e2
  generalize upd (upd H1 p (.dK [])) T0 (.tup [.ref a3, .ref p]) = H2 at e2 hp2 r2 ⊢
  dsimp only [L2.start, List.set, gName]
  have hrow2 : H2 R.r ≠ none := by
    obtain ⟨⟨i, s, t, h1, _⟩, _⟩ := r2
    rw [h1]
    simp
  refine q_forG (K := K) (S := [R.r, p]) (ds := w3.map .str) (EvN.g (en_lst (ea_cons ed_str (ea_cons ed_str (ea_cons ed_str ea_nil)))) (by
      intro b hb
      have hb : b = R.r ∨ b = p := by simpa using hb
      rcases hb with rfl | rfl
      · exact hrow2
      · rw [hp2]
        simp))
    (fun i σ' H' => ∃ (o2 o5 o6 : Option V) (ss : List (List Str × Str)) (ys : List V), σ' = [some (.ref R.r), some (.ref a), o2, some (.ref a3), some (.ref p), o5, o6] ∧ Gx [R.r] H1 H' ∧ RowAt K R H' ∧ H' p = some (.dK (kvS ys)) ∧ Tds K H' ys (ss.map encS) ∧ ss.length = i ∧ ∀ s ∈ ss, SignOk names s) ?_ ?_ ?_
  · intro H3 e3
    exact ⟨none, none, none, [], [], rfl, Gx.of (e2.trans e3), r2.ex e3, e3 _ _ hp2, .nil, rfl, by simp⟩
  · rintro i x d σ' H' N g0 hd td ⟨o2, o5, o6, ss, ys, rfl, g, r, hp', ty, hlen, hok⟩ hN
    obtain ⟨w, hw, rfl⟩ := map_getE hd
    have hx := td.strI
    subst hx
    dsimp only [List.set, gName]
    have l' := l3.gx g
    refine q_setX (K := K) (R := R) (P := fun d => ∃ ks : List Str, d = .tuple (ks.map .str) ∧ ks.length ≤ 3 ∧ ∀ k ∈ ks, OkK names k) (EvX.mono (ex_tupOf (EvXN.l (exn_lcR (A := fun n => 0 ≤ n ∧ n < 3) (P := fun d => ∃ k, d = .str k ∧ OkK names k) ((ex_takenC (m := 3) rfl (fun _ _ _ => ed_int) (by omega) (by omega)).mono fun d h => h) (fun n hn => ⟨hn.1, by omega⟩) (fun _ => rfl) fun x H3 g3 r3 => ex_pick rfl (exl_var rfl (l'.gx g3)) fun ds e => by
        subst e
        exact ⟨hkne, by omega, fun d hd => kinds_ok hd⟩))) ?_) r fun v5 d5 H3 g3 r3 t5 ⟨ks, e5, hks, hko⟩ => ?_
    · rintro d ⟨ds, rfl, hl, hall⟩
      obtain ⟨ks, rfl, hko⟩ := tup_strs hall
      refine ⟨ks, rfl, ?_, hko⟩
      rw [List.length_map] at hl
      omega
    subst e5
    dsimp only [List.set]
    have l'' := l'.gx g3
    refine ex_tup (K := K) (R := R) (EvXA.mono (PB := fun ds => ∃ o, ds = [.tuple (ks.map .str), .str o] ∧ OkK names o) (exa_cons (ex_var (d := .tuple (ks.map .str)) rfl t5) (exa_cons (P := fun d => ∃ k, d = .str k ∧ OkK names k) (ex_pick rfl (exl_var rfl l'') fun ds e => by
        subst e
        exact ⟨hkne, by omega, fun d hd => kinds_ok hd⟩) exa_nil)) ?_) (by rintro ds ⟨o, rfl, _⟩; simp) H3 (Gx.refl _ _) r3 _ fun v d H4 g4 r4 t4 ⟨ds, ed, o, eds, ho⟩ => ?_
    · rintro ds ⟨d1, r1, rfl, rfl, d2, r2, rfl, ⟨k, rfl, hk⟩, rfl⟩
      exact ⟨k, rfl, hk⟩
    subst ed eds
    have hp4 : H4 p = some (.dK (kvS ys)) := g4.keep _ _ (by simpa using npr) (g3.keep _ _ (by simpa using npr) hp')
    have hyl : ys.length = i := by rw [ty.len, List.length_map, hlen]
    refine ⟨.ref p, rfl, .str w, rfl, p, upd H4 p (.dK (kvS (ys ++ [v]))), rfl, .inl ⟨kvS ys, .inr w, hp4, rfl, ?_, ?_⟩, ?_⟩
    · unfold kvS
      rw [List.length_zip]
      exact Nat.lt_of_le_of_lt (Nat.min_le_left _ _) (by decide)
    · rw [put_S ys v w (by rw [hyl]; exact hw)]
    · have gg := g.trans (g3.trans g4)
      refine hN _ _ (Gx.updD ((g3.trans g4).mono (by simp)) (by simp) hp4) ⟨_, _, _, ss ++ [(ks, o)], ys ++ [v], rfl, gg.mut hp, r1.mut hp r4 gg, upd_same, ?_, by rw [List.length_append, hlen]; rfl, ?_⟩
      · rw [List.map_append]
        refine ((ty.gx (g3.trans g4)).snoc t4).kt ?_
        exact (Gx.updD (S := [p]) (Gx.refl _ H4) (by simp) hp4).kt
      · intro s hs
        rcases List.mem_append.mp hs with z | z
        · exact hok s z
        · rw [List.mem_singleton.mp z]
          exact ⟨hks, hko, ho⟩
  · rintro σ' H' g0 ⟨o2, o5, o6, ss, ys, rfl, g, r, hp', ty, hlen, hok⟩
    refine ⟨.ref p, rfl, ?_⟩
    obtain ⟨s1, s2, s3, rfl⟩ : ∃ s1 s2 s3, ss = [s1, s2, s3] := by
      have hlen : ss.length = 3 := hlen
      match ss, hlen with
      | [s1, s2, s3], _ => exact ⟨s1, s2, s3, rfl⟩
    obtain ⟨v1, v2, v3, rfl, c1, c2, c3⟩ : ∃ v1 v2 v3, ys = [v1, v2, v3] ∧ Td K H' v1 (encS s1) ∧ Td K H' v2 (encS s2) ∧ Td K H' v3 (encS s3) := by
      cases ty with
      | cons c1 t => cases t with
        | cons c2 t => cases t with
          | cons c3 t =>
            cases t
            exact ⟨_, _, _, rfl, c1, c2, c3⟩
    have nab : ¬ (("mb" : Str) = "ma") := by decide +kernel
    have nac : ¬ (("mc" : Str) = "ma") := by decide +kernel
    have nbc : ¬ (("mc" : Str) = "mb") := by decide +kernel
    refine q p (fun w => if w = "ma" then s1 else if w = "mb" then s2 else s3) H' hnp ((Gx.of e1).trans g) r ⟨v1, v2, v3, hp', ?_, ?_, ?_⟩ fun w => ?_
    · try dsimp only
      rw [if_pos rfl]
      exact c1
    · try dsimp only
      rw [if_neg nab, if_pos rfl]
      exact c2
    · try dsimp only
      rw [if_neg nac, if_neg nbc]
      exact c3
    · try dsimp only
      by_cases h1 : w = "ma"
      · rw [if_pos h1]
        exact hok s1 (by simp)
      · rw [if_neg h1]
        by_cases h2 : w = "mb"
        · rw [if_pos h2]
          exact hok s2 (by simp)
        · rw [if_neg h2]
          exact hok s3 (by simp)
end
section
variable {K : Frag} {mg : Str → Option Value} {aB aR aE aHouse : Addr}
theorem bare_word {bs : List Kl} (b : BareOk bs) {c : Kl} (h : c ∈ bs) : IsWord c.name := by
  obtain ⟨i, hi⟩ := at_mem h
  exact (b.cls i c hi).name
theorem bare_names {bs : List Kl} (b : BareOk bs) {x : Str} (h : x ∈ namesL bs) : IsWord x := by
  rcases List.mem_cons.mp h with rfl | h
  · exact lit_word (by decide +kernel)
  · obtain ⟨c, hc, rfl⟩ := List.mem_map.mp h
    exact bare_word b hc
theorem p_law_handlers (T : Txt K mg aB aR aE aHouse) (vs : List V) (H : Hp) (Q : VK) (E : XK) (h : sp_law_handlers K vs H Q E) : t_law_handlers K { nx := fun _ H' => Q .non H', rt := Q } (start N_law_handlers vs) H := by
  obtain ⟨R, a, n, bs, rfl, hr, l, hb, n0, n1, q⟩ := h
  have h8 := hb.most
  refine q_setN (K := K) (en_lst ea_nil) fun p xs H1 np e1 hp t1 => ?_
  cases t1
  have r1 := hr.ex e1
  have npr : p ≠ R.r := fun z => hr.ne np z.symm
  try dsimp only [L2.start, List.set]
  refine q_forRX (K := K) (R := R) (A := fun k => 0 ≤ k ∧ k ≤ 2) (EvX.mono (ex_pick (P := fun d => d ∈ [PyData.int 0, .int 0, .int 1, .int 2]) rfl (EvXN.l (exn_pure (ds := [.int 0, .int 0, .int 1, .int 2]) fun _ _ _ => en_lst (ea_cons ed_int (ea_cons ed_int (ea_cons ed_int (ea_cons ed_int ea_nil)))))) fun ds e => by subst e; exact ⟨by simp, by simp, fun d hd => hd⟩) ?_) r1 (fun k hk => ⟨hk.1, by omega⟩)
    (fun N0 i σ' H' => ∃ (o4 o5 o6 : Option V) (hs : List PyData) (ys : List V), σ' = [some (.ref R.r), some (.ref a), some (.int (n : Int)), some (.ref p), o4, o5, o6] ∧ Gx [R.r] H H' ∧ RowAt K R H' ∧ H' p = some (.lst ys) ∧ Tds K H' ys hs ∧ hs.length = i ∧ ∀ h ∈ hs, HandOk bs n h) ?_ ?_ ?_
  · intro d hd
    have hd : d = .int 0 ∨ d = .int 0 ∨ d = .int 1 ∨ d = .int 2 := by simpa using hd
    rcases hd with rfl | rfl | rfl | rfl
    · exact ⟨0, rfl, by omega, by omega⟩
    · exact ⟨0, rfl, by omega, by omega⟩
    · exact ⟨1, rfl, by omega, by omega⟩
    · exact ⟨2, rfl, by omega, by omega⟩
  · intro N0 H2 _ g2 r2
    exact ⟨none, none, none, [], [], rfl, (Gx.of e1).trans g2, r2, g2.keep _ _ (by simpa using npr) hp, .nil, rfl, by simp⟩
  · rintro N0 i σ' H' N hA hi ⟨o4, o5, o6, hs, ys, rfl, g, r, hp', ty, hlen, hok⟩ hN
    try dsimp only [List.set]
    refine q_setX (K := K) (R := R) (ex_takenC (m := (n : Int)) rfl (fun _ _ _ => ed_var rfl (.int _)) (by omega) (by omega)) r fun v d H2 g2 r2 tv ⟨b, ed, b0, b1⟩ => ?_
    subst ed
    have := tv.intI
    subst this
    try dsimp only [List.set]
    refine q_setX (K := K) (R := R) (P := fun d => ∃ e : Int, d = .int e ∧ b < e ∧ e ≤ (n : Int)) (EvX.mono (ex_I0 (g := fun i j => .int (i + j)) (A := fun i => i = b + 1) (B := fun k => 0 ≤ k ∧ k < (n : Int) - b) ((ex_pure (d := .int (b + 1)) fun _ _ _ => ed_I0 (i := b) (j := 1) (ed_var rfl (.int _)) ed_int (fun _ => .int _)).mono fun d e => ⟨_, e, rfl⟩) ((ex_takenC (m := (n : Int) - b) rfl (fun _ _ _ => ed_I0 (i := (n : Int)) (j := b) (ed_var rfl (.int _)) (ed_var rfl (.int _)) (fun _ => .int _)) (by omega) (by omega)).mono fun d h => h) fun _ _ _ => .int _) ?_) r2 fun v d H3 g3 r3 tv ⟨e, ed, e0, e1'⟩ => ?_
    · rintro d ⟨x, y, rfl, rfl, h1, h2⟩
      exact ⟨_, rfl, by omega, by omega⟩
    subst ed
    have := tv.intI
    subst this
    try dsimp only [List.set]
    have l3 := (l.gx g).gx (g2.trans g3)
    have hp3 : H3 p = some (.lst ys) := (g2.trans g3).keep _ _ (by simpa using npr) hp'
    refine s_appX (K := K) (R := R) (P := HandOk bs n) rfl hp3 npr (EvX.mono (ex_tup (EvXA.mono (PB := fun ds => ∃ (c : Str) (k : Int), ds = [.int b, .int e, .str c, .int k] ∧ c ∈ namesL bs ∧ 0 ≤ k ∧ k < (n : Int)) (exa_cons (ex_var (d := .int b) rfl (.int _)) (exa_cons (ex_var (d := .int e) rfl (.int _)) (exa_cons (P := fun d => ∃ c, d = .str c ∧ c ∈ namesL bs) (ex_pick rfl (EvXN.l (exn_pure (ds := ((["top", "top"] : List Str) ++ bs.map Kl.name).map PyData.str) fun H4 g4 _ => EvN.is (en_catM (EvN.m (en_lst (ea_cons ed_str (ea_cons ed_str ea_nil)))) (em_var rfl (l3.gx g4)) (by simp; omega)) (by rw [List.map_append]; rfl))) fun ds e => ?_) (exa_cons (ex_takenC (m := (n : Int)) rfl (fun _ _ _ => ed_var rfl (.int _)) (by omega) (by omega)) exa_nil)))) ?_) ?_) ?_) r3 (by rw [ty.len, hlen]; omega) fun v d H4 g4 r4 hp4 t4 hd => ?_
    · subst e
      refine ⟨by simp, by simp; omega, fun d hd => ?_⟩
      obtain ⟨c, hc, rfl⟩ := List.mem_map.mp hd
      refine ⟨c, rfl, ?_⟩
      rcases List.mem_append.mp hc with z | z
      · have z : c = "top" := by simpa using z
        rw [z]
        exact List.mem_cons_self
      · exact List.mem_cons_of_mem _ z
    · rintro ds ⟨d1, r1, rfl, rfl, d2, r2, rfl, rfl, d3, r3, rfl, ⟨c, rfl, hc⟩, d4, r4, rfl, ⟨k, rfl, k0, k1⟩, rfl⟩
      exact ⟨c, k, rfl, hc, k0, k1⟩
    · rintro ds ⟨c, k, rfl, _⟩
      simp
    · rintro d ⟨ds, rfl, c, k, rfl, hc, k0, k1⟩
      exact .mk b0 b1 e0 e1' (bare_names hb hc) hc k0 k1
    · have gg := g.trans ((g2.trans g3).trans g4)
      refine hN _ _ ⟨_, _, _, hs ++ [d], ys ++ [v], rfl, gg.mut np, hr.mut np r4 gg, upd_same, ((ty.gx ((g2.trans g3).trans g4)).snoc t4).kt (KT.put hp4), by rw [List.length_append, hlen]; rfl, fun h hh => ?_⟩
      rcases List.mem_append.mp hh with z | z
      · exact hok h z
      · rw [List.mem_singleton.mp z]
        exact hd
  · rintro N0 σ' H' hA ⟨o4, o5, o6, hs, ys, rfl, g, r, hp', ty, hlen, hok⟩
    refine s_retX (K := K) (R := R) (P := fun d => d = .tuple hs) (EvX.mono (ex_tupOf (exl_var (ds := hs) rfl ⟨by simpa using npr, ys, hp', ty⟩)) ?_) r fun v d H2 g2 r2 t2 e => ?_
    · rintro d ⟨ds, rfl, rfl⟩
      rfl
    · subst e
      exact q v _ H2 (g.trans g2) r2 t2 ⟨hs, rfl, by omega, hok⟩
end
section
variable {K : Frag} {mg : Str → Option Value} {aB aR aE aHouse : Addr}
theorem bare_f4 {bs : List Kl} (b : BareOk bs) : ∀ u ∈ bs, u.fields.length ≤ 4 := fun u hu => by
  obtain ⟨i, hi⟩ := at_mem hu
  exact (b.flds i u hi).most
theorem bare_fword {bs : List Kl} (b : BareOk bs) {n f : Str} (h : f ∈ (row bs n).flatMap fnames) : IsWord f := by
  obtain ⟨c, hc, hf⟩ := List.mem_flatMap.mp h
  obtain ⟨i, hi⟩ := at_mem (row_mem hc)
  obtain ⟨p, hp, rfl⟩ := List.mem_map.mp hf
  exact (b.flds i c hi).word p hp
theorem bare_mword {bs : List Kl} (b : BareOk bs) {n f : Str} (h : f ∈ (row bs n).flatMap mnames) : IsWord f := by
  obtain ⟨c, hc, hf⟩ := List.mem_flatMap.mp h
  obtain ⟨i, hi⟩ := at_mem (row_mem hc)
  obtain ⟨m, hm, rfl⟩ := List.mem_map.mp hf
  obtain ⟨j, hj⟩ := (List.mem_iff_getElem?.mp hm : ∃ j : Nat, _ = some _)
  exact (b.mths i c hi j m hj).word
def bareD : List PyData := bareL.map .str
theorem p_law_step (T : Txt K mg aB aR aE aHouse) (vs : List V) (H : Hp) (Q : VK) (E : XK) (h : sp_law_step K vs H Q E) : t_law_step K { nx := fun _ H' => Q .non H', rt := Q } (start N_law_step vs) H := by
  obtain ⟨R, a, n, bs, rfl, hr, l, hb, n0, n1, q⟩ := h
  have h8 := hb.most
  have nn : ((n.toNat : Nat) : Int) = n := by omega
  refine q_par ?_
  refine en_catM (K := K) (ds := [.str "top"]) (es := (bs.map Kl.name).map .str) (EvN.m (en_lst (ea_cons ed_str ea_nil))) (EvN.m (EvN.is (en_lcM hd0 (ds := encs bs) (EvL.s (el_var rfl l.ls)) (by rw [List.length_map]; omega) (fun _ => rfl) fun x d H5 e5 hd t => ?_) ?_)) (by simp; omega) H (Same.refl H) _ fun a6 xs6 H1 n6 e1 hp6 t6 => ?_
  · obtain ⟨u, hu, rfl⟩ := List.mem_map.mp hd
    exact ed_ixT (d := .str u.name) (ed_var (d := enc u) rfl t) ed_int rfl
  · rw [List.map_map, List.map_map]
    rfl
  have l6 : Lg K [R.r] H1 a6 ((namesL bs).map .str) := Lg.new hr n6 hp6 t6
  have r1 := hr.ex e1
  have l1 := l.same e1
  refine ex_takenC (K := K) (R := R) (m := 8) rfl (fun _ _ _ => ed_int) (by omega) (by omega) H1 (Gx.refl _ _) r1 _ fun v d H2 g2 r2 tv ⟨way, ed, w0, w8⟩ => ⟨_, _, rfl, ?_⟩
  subst ed
  have := tv.intI
  subst this
  have l62 := l6.gx g2
  have l2 := l1.gx g2
  have q2 : RetX K R (StepOk bs n.toNat False) H2 Q := q.go ((Gx.of e1).trans g2)
  clear q hr l r1 l1 l6 g2 e1 hp6 t6 n6 tv
  try dsimp only [L2.start, List.set]
  have nemp : (namesL bs).map PyData.str ≠ [] := by unfold namesL; simp
  have nlen : ((namesL bs).map PyData.str).length ≤ 9 := by unfold namesL; simp; omega
  have pickN : ∀ (d : PyData), d ∈ (namesL bs).map PyData.str → ∃ c, d = .str c ∧ c ∈ namesL bs := fun d hd => by
    obtain ⟨c, hc, rfl⟩ := List.mem_map.mp hd
    exact ⟨c, rfl, hc⟩
  -- way < 2
  refine q_if (b := decide (way < 2)) (et_test (K := K) (ed_I0 (i := way) (j := 2) (ed_var rfl (.int _)) ed_int (fun _ => .bl _))) (fun hb2 H3 e3 => ?_) fun hb2 H3 e3 => ?_
  · refine q_setN (K := K) (ds := bareD) (en_lst (ea_cons ed_str (ea_cons ed_str (ea_cons ed_str (ea_cons ed_str (ea_cons ed_str (ea_cons ed_str (ea_cons ed_str (ea_cons ed_str (ea_cons ed_str (ea_cons ed_str (ea_cons ed_str ea_nil))))))))))) (by decide)) fun p xs H4 np e4 hp tp => ?_
    have r4 := r2.ex (e3.trans e4)
    have lp : Lg K [R.r] H4 p bareD := Lg.new (r2.ex e3) np hp tp
    refine s_retX (K := K) (R := R) (P := StepOk bs n.toNat False) (EvX.mono (ex_tup (EvXA.mono (PB := fun ds => ∃ w, ds = [.str w] ∧ w ∈ bareL) (exa_cons (P := fun d => d ∈ bareD) (ex_pick rfl (exl_var rfl lp) fun ds e => by subst e; exact ⟨by unfold bareD bareL; simp, by unfold bareD bareL; simp, fun d hd => hd⟩) exa_nil) ?_) ?_) ?_) r4 fun v d H5 g5 r5 t5 p5 => q2 v d H5 ((Gx.of (e3.trans e4)).trans g5) r5 t5 p5
    · rintro ds ⟨d, r, rfl, hd, rfl⟩
      obtain ⟨w, hw, rfl⟩ := List.mem_map.mp hd
      exact ⟨w, rfl, hw⟩
    · rintro ds ⟨w, rfl, _⟩
      simp
    · rintro d ⟨ds, rfl, w, rfl, hw⟩
      exact .bare hw False.elim
  try dsimp only [tNext]
  have r3 := r2.ex e3
  have l63 := l62.same e3
  have l3 := l2.same e3
  have q3 := q2.go (Gx.of e3)
  clear q2 r2 l62 l2
  -- way == 2
  refine q_if (b := decide (way = 2)) (et_test (K := K) (ed_eqI (x := way) (y := 2) (ed_var rfl (.int _)) ed_int)) (fun hb2 H4 e4 => ?_) fun hb2 H4 e4 => ?_
  · refine s_retX (K := K) (R := R) (P := StepOk bs n.toNat False) (EvX.mono (ex_tup (EvXA.mono (PB := fun ds => ∃ i : Int, ds = [.str "push", .int i] ∧ 0 ≤ i ∧ i < 16) (exa_cons ex_str (exa_cons (ex_takenC (m := 16) rfl (fun _ _ _ => ed_int) (by omega) (by omega)) exa_nil)) ?_) ?_) ?_) (r3.ex e4) fun v d H5 g5 r5 t5 p5 => q3 v d H5 ((Gx.of e4).trans g5) r5 t5 p5
    · rintro ds ⟨d1, r1, rfl, rfl, d2, r2, rfl, ⟨i, rfl, h1, h2⟩, rfl⟩
      exact ⟨i, rfl, h1, h2⟩
    · rintro ds ⟨i, rfl, _⟩
      simp
    · rintro d ⟨ds, rfl, i, rfl, h1, h2⟩
      exact .num (hi := 15) (by simp) h1 (by omega) False.elim
  try dsimp only [tNext]
  -- way == 3
  refine q_if (b := decide (way = 3)) (et_test (K := K) (ed_eqI (x := way) (y := 3) (ed_var rfl (.int _)) ed_int)) (fun hb2 H5 e5 => ?_) fun hb2 H5 e5 => ?_
  · refine s_retX (K := K) (R := R) (P := StepOk bs n.toNat False) (EvX.mono (ex_tup (EvXA.mono (PB := fun ds => ∃ (w : Str) (i : Int), ds = [.str w, .int i] ∧ (w = "take" ∨ w = "keep") ∧ 0 ≤ i ∧ i < 4) (exa_cons (P := fun d => d ∈ [PyData.str "take", .str "take", .str "keep"]) (ex_pick rfl (EvXN.l (exn_pure (ds := [.str "take", .str "take", .str "keep"]) fun _ _ _ => en_lst (ea_cons ed_str (ea_cons ed_str (ea_cons ed_str ea_nil))))) fun ds e => by subst e; exact ⟨by simp, by simp, fun d hd => hd⟩) (exa_cons (ex_takenC (m := 4) rfl (fun _ _ _ => ed_int) (by omega) (by omega)) exa_nil)) ?_) ?_) ?_) (r3.ex (e4.trans e5)) fun v d H6 g6 r6 t6 p6 => q3 v d H6 ((Gx.of (e4.trans e5)).trans g6) r6 t6 p6
    · rintro ds ⟨d1, r1, rfl, hd1, d2, r2, rfl, ⟨i, rfl, h1, h2⟩, rfl⟩
      have hd1 : d1 = .str "take" ∨ d1 = .str "take" ∨ d1 = .str "keep" := by simpa using hd1
      rcases hd1 with rfl | rfl | rfl
      · exact ⟨_, i, rfl, .inl rfl, h1, h2⟩
      · exact ⟨_, i, rfl, .inl rfl, h1, h2⟩
      · exact ⟨_, i, rfl, .inr rfl, h1, h2⟩
    · rintro ds ⟨w, i, rfl, _⟩
      simp
    · rintro d ⟨ds, rfl, w, i, rfl, hw, h1, h2⟩
      refine .num (hi := 3) ?_ h1 (by omega) False.elim
      rcases hw with rfl | rfl <;> simp
  try dsimp only [tNext]
  -- way == 4
  refine q_if (b := decide (way = 4)) (et_test (K := K) (ed_eqI (x := way) (y := 4) (ed_var rfl (.int _)) ed_int)) (fun hb2 H6 e6 => ?_) fun hb2 H6 e6 => ?_
  · refine s_retX (K := K) (R := R) (P := StepOk bs n.toNat False) (EvX.mono (ex_tup (EvXA.mono (PB := fun ds => ∃ (w : Str) (i : Int), ds = [.str w, .int i] ∧ (w = "go" ∨ w = "if") ∧ 0 ≤ i ∧ i < n) (exa_cons (P := fun d => d ∈ [PyData.str "go", .str "if", .str "if"]) (ex_pick rfl (EvXN.l (exn_pure (ds := [.str "go", .str "if", .str "if"]) fun _ _ _ => en_lst (ea_cons ed_str (ea_cons ed_str (ea_cons ed_str ea_nil))))) fun ds e => by subst e; exact ⟨by simp, by simp, fun d hd => hd⟩) (exa_cons (ex_takenC (m := n) rfl (fun _ _ _ => ed_var rfl (.int _)) (by omega) (by omega)) exa_nil)) ?_) ?_) ?_) (r3.ex ((e4.trans e5).trans e6)) fun v d H7 g7 r7 t7 p7 => q3 v d H7 ((Gx.of ((e4.trans e5).trans e6)).trans g7) r7 t7 p7
    · rintro ds ⟨d1, r1, rfl, hd1, d2, r2, rfl, ⟨i, rfl, h1, h2⟩, rfl⟩
      have hd1 : d1 = .str "go" ∨ d1 = .str "if" ∨ d1 = .str "if" := by simpa using hd1
      rcases hd1 with rfl | rfl | rfl
      · exact ⟨_, i, rfl, .inl rfl, h1, h2⟩
      · exact ⟨_, i, rfl, .inr rfl, h1, h2⟩
      · exact ⟨_, i, rfl, .inr rfl, h1, h2⟩
    · rintro ds ⟨w, i, rfl, _⟩
      simp
    · rintro d ⟨ds, rfl, w, i, rfl, hw, h1, h2⟩
      refine .num (hi := ((n.toNat : Nat) : Int) - 1) ?_ h1 (by omega) False.elim
      rcases hw with rfl | rfl <;> simp
  try dsimp only [tNext]
  have e36 := (e4.trans e5).trans e6
  have r6 := r3.ex e36
  have l66 := l63.same e36
  have l6 := l3.same e36
  have q6 := q3.go (Gx.of e36)
  clear q3 r3 l63 l3 e4 e5 e6 e36
  -- way == 5
  refine q_if (b := decide (way = 5)) (et_test (K := K) (ed_eqI (x := way) (y := 5) (ed_var rfl (.int _)) ed_int)) (fun hb2 H7 e7 => ?_) fun hb2 H7 e7 => ?_
  · refine s_retX (K := K) (R := R) (P := StepOk bs n.toNat False) (EvX.mono (ex_tup (EvXA.mono (PB := fun ds => ∃ (w c : Str), ds = [.str w, .str c] ∧ w ∈ (["new", "cast", "is"] : List Str) ∧ c ∈ namesL bs) (exa_cons (P := fun d => d ∈ [PyData.str "new", .str "new", .str "cast", .str "is"]) (ex_pick rfl (EvXN.l (exn_pure (ds := [.str "new", .str "new", .str "cast", .str "is"]) fun _ _ _ => en_lst (ea_cons ed_str (ea_cons ed_str (ea_cons ed_str (ea_cons ed_str ea_nil)))))) fun ds e => by subst e; exact ⟨by simp, by simp, fun d hd => hd⟩) (exa_cons (P := fun d => d ∈ (namesL bs).map PyData.str) (ex_pick rfl (exl_var rfl (l66.same e7)) fun ds e => by subst e; exact ⟨nemp, by omega, fun d hd => hd⟩) exa_nil)) ?_) ?_) ?_) (r6.ex e7) fun v d H8 g8 r8 t8 p8 => q6 v d H8 ((Gx.of e7).trans g8) r8 t8 p8
    · rintro ds ⟨d1, r1, rfl, hd1, d2, r2, rfl, hd2, rfl⟩
      obtain ⟨c, rfl, hc⟩ := pickN d2 hd2
      have hd1 : d1 = .str "new" ∨ d1 = .str "new" ∨ d1 = .str "cast" ∨ d1 = .str "is" := by simpa using hd1
      rcases hd1 with rfl | rfl | rfl | rfl <;> exact ⟨_, c, rfl, by simp, hc⟩
    · rintro ds ⟨w, c, rfl, _⟩
      simp
    · rintro d ⟨ds, rfl, w, c, rfl, hw, hc⟩
      exact .cls hw (bare_names hb hc) hc False.elim
  try dsimp only [tNext]
  -- a name, its fields and words
  refine q_setX (K := K) (R := R) (P := fun d => d ∈ (namesL bs).map PyData.str) (ex_pick rfl (exl_var rfl (l66.same e7)) fun ds e => by subst e; exact ⟨nemp, by omega, fun d hd => hd⟩) (r6.ex e7) fun v3 d3 H8 g8 r8 t8 hd8 => ?_
  obtain ⟨c, rfl, hc⟩ := pickN d3 hd8
  have := t8.strI
  subst this
  have wc := bare_names hb hc
  have l8 := (l6.same e7).gx g8
  have q8 := q6.go ((Gx.of e7).trans g8)
  clear l6 q6 r6 hd8
  try dsimp only [L2.start, List.set]
  refine q_par ?_
  refine en_lst (K := K) ea_nil (by decide) H8 (Same.refl H8) _ fun pf xf H9 nf e9 hpf tf => ?_
  refine en_lst (K := K) ea_nil (by decide) H9 (Same.refl H9) _ fun pw xw Ha nw ea hpw tw => ⟨_, _, rfl, ?_⟩
  have e8a := e9.trans ea
  have hpf := ea _ _ hpf
  have tf := tf.ex ea
  have l8a := l8.same e8a
  try dsimp only [L2.start, List.set]
  refine q_forG (K := K) (S := []) (ds := encs (row bs c)) (EvN.g (ev_lrow (cs := bs) (n := c) (es_var rfl l8a.sq) (ed_var rfl (.str _)) h8) (by simp))
    (fun i σ' H' => ∃ (o4 : Option V) (p1 p2 : Addr) (y1 y2 : List V), σ' = [some (.ref R.r), some (.ref a), some (.int n), some (.str c), o4, none, some (.ref a6), some (.int way), some (.ref p2), some (.ref p1), none, none, none] ∧ Same H8 H' ∧ H8 p1 = none ∧ H8 p2 = none ∧ H' p1 = some (.lst y1) ∧ H' p2 = some (.lst y2) ∧ Tds K H' y1 ((((row bs c).take i).flatMap fnames).map .str) ∧ Tds K H' y2 ((((row bs c).take i).flatMap mnames).map .str)) ?_ ?_ ?_
  · intro Hb eb
    exact ⟨none, pf, pw, xf, xw, rfl, e8a.trans eb, nf, e9.free nw, eb _ _ hpf, eb _ _ hpw, by simpa using tf.ex eb, by simpa using tw.ex eb⟩
  · rintro i x d σ' Hb N g hd td ⟨o4, p1, p2, y1, y2, rfl, eb, np1, np2, hp1, hp2, ty1, ty2⟩ hN
    obtain ⟨u, hu, rfl⟩ := map_getE hd
    have hur : u ∈ row bs c := List.mem_of_getElem? hu
    have u4 := bare_f4 hb u (row_mem hur)
    have um4 := hb.mmost u (row_mem hur)
    have hfl : (((row bs c).take (i + 1)).flatMap fnames) = ((row bs c).take i).flatMap fnames ++ fnames u := by
      rw [take_snoc hu, List.flatMap_append]
      simp
    have hml : (((row bs c).take (i + 1)).flatMap mnames) = ((row bs c).take i).flatMap mnames ++ mnames u := by
      rw [take_snoc hu, List.flatMap_append]
      simp
    have len1 : (((row bs c).take i).flatMap fnames).length ≤ 32 := by
      have h1 := flat_len fnames 4 ((row bs c).take i) fun w hw => by
        show (w.fields.map (·.1)).length ≤ 4
        rw [List.length_map]
        exact bare_f4 hb w (row_mem (List.mem_of_mem_take hw))
      have h2 := row_len bs c
      rw [List.length_take] at h1
      omega
    have len2 : (((row bs c).take i).flatMap mnames).length ≤ 32 := by
      have h1 := flat_len mnames 4 ((row bs c).take i) fun w hw => by
        show (w.meths.map (·.word)).length ≤ 4
        rw [List.length_map]
        exact hb.mmost w (row_mem (List.mem_of_mem_take hw))
      have h2 := row_len bs c
      rw [List.length_take] at h1
      omega
    try dsimp only [gName, List.set]
    refine q_setN (K := K) (EvN.is (en_catM (ds := (((row bs c).take i).flatMap fnames).map .str) (es := (fnames u).map .str) (em_var (S := []) rfl ⟨by simp, y1, hp1, ty1⟩) (EvN.m (EvN.is (en_lcM hd0 (EvD.s (ds := u.fields.map encF) (ed_ixT (ed_var (d := enc u) rfl td) ed_int rfl)) (by rw [List.length_map]; omega) (fun _ => rfl) fun z d H2 e2 hd t2 => ?_) ?_)) ?_) (by rw [← List.map_append, ← hfl])) fun p1' y1' Hc nc ec hpc tc => ?_
    · obtain ⟨m, hm, rfl⟩ := List.mem_map.mp hd
      exact ed_ixT (d := .str m.1) (ed_var (d := encF m) rfl t2) ed_int rfl
    · show (u.fields.map encF).map hd0 = (u.fields.map (·.1)).map PyData.str
      rw [List.map_map, List.map_map]
      rfl
    · rw [List.length_map, List.length_map]
      have : (fnames u).length ≤ 4 := by
        show (u.fields.map (·.1)).length ≤ 4
        rw [List.length_map]
        exact u4
      omega
    try dsimp only [gName, List.set]
    refine s_setN (K := K) (EvN.is (en_catM (ds := (((row bs c).take i).flatMap mnames).map .str) (es := (mnames u).map .str) (em_var (S := []) rfl ⟨by simp, y2, ec _ _ hp2, ty2.ex ec⟩) (EvN.m (EvN.is (en_lcM hd0 (EvD.s (ds := u.meths.map encM) (ed_ixT (ed_var (d := enc u) rfl (td.ex ec)) ed_int rfl)) (by rw [List.length_map]; omega) (fun _ => rfl) fun z d H2 e2 hd t2 => ?_) ?_)) ?_) (by rw [← List.map_append, ← hml])) fun p2' y2' Hd nd ed hpd td2 => ?_
    · obtain ⟨m, hm, rfl⟩ := List.mem_map.mp hd
      exact ed_ixT (ed_var (d := encM m) rfl t2) ed_int (at0 _ _)
    · show (u.meths.map encM).map hd0 = (u.meths.map (·.word)).map PyData.str
      rw [List.map_map, List.map_map]
      rfl
    · rw [List.length_map, List.length_map]
      have : (mnames u).length ≤ 4 := by
        show (u.meths.map (·.word)).length ≤ 4
        rw [List.length_map]
        exact um4
      omega
    exact hN _ _ (Gx.of (ec.trans ed)) ⟨_, p1', p2', y1', y2', rfl, eb.trans (ec.trans ed), eb.free nc, eb.free (ec.free nd), ed _ _ hpc, hpd, tc.ex ed, td2⟩
  · rintro σ' Hb g ⟨o4, p1, p2, y1, y2, rfl, eb, np1, np2, hp1, hp2, ty1, ty2⟩
    have hall : (row bs c).take (encs (row bs c)).length = row bs c := by rw [List.length_map, List.take_length]
    rw [hall] at ty1 ty2
    have rb := r8.ex eb
    have qb := q8.go (Gx.of eb)
    have lf : ((row bs c).flatMap fnames).length ≤ 32 := by
      have := flat_fields_len c h8 (bare_f4 hb)
      have e := congrArg List.length (flat_fields (row bs c))
      rw [List.length_map, List.length_map] at e
      omega
    have lm : ((row bs c).flatMap mnames).length ≤ 32 := by
      have := flat_meths_len c h8 hb.mmost
      have e := congrArg List.length (flat_meths (row bs c))
      rw [List.length_map, List.length_map] at e
      omega
    generalize hF : (row bs c).flatMap fnames = F at ty1 lf
    generalize hM : (row bs c).flatMap mnames = M at ty2 lm
    refine q_setN (K := K) (ds := F.map (fun f => PyData.tuple [.str "get", .str c, .str f]) ++ F.map (fun f => PyData.tuple [.str "put", .str c, .str f])) (en_catM (EvN.m (EvN.is (en_lcM (fun d => .tuple [.str "get", .str c, d]) (ds := F.map .str) (EvL.s (el_var rfl (.of hp1 ty1))) (by rw [List.length_map]; omega) (fun _ => rfl) fun x d H2 e2 hd t => ed_tup (ea_cons ed_str (ea_cons (ed_var rfl (.str _)) (ea_cons (ed_var rfl t) ea_nil))) (by simp)) (by rw [List.map_map]; rfl))) (EvN.m (EvN.is (en_lcM (fun d => .tuple [.str "put", .str c, d]) (ds := F.map .str) (EvL.s (el_var rfl (.of hp1 ty1))) (by rw [List.length_map]; omega) (fun _ => rfl) fun x d H2 e2 hd t => ed_tup (ea_cons ed_str (ea_cons (ed_var rfl (.str _)) (ea_cons (ed_var rfl t) ea_nil))) (by simp)) (by rw [List.map_map]; rfl))) (by rw [List.length_map, List.length_map]; omega)) fun p5 y5 Hc nc ec hpc tc => ?_
    try dsimp only [gName, List.set]
    refine q_setN (K := K) (ds := (F.map (fun f => PyData.tuple [.str "get", .str c, .str f]) ++ F.map (fun f => PyData.tuple [.str "put", .str c, .str f])) ++ M.map (fun f => PyData.tuple [.str "call", .str c, .str f])) (en_catM (em_var (S := []) rfl ⟨by simp, y5, hpc, tc⟩) (EvN.m (EvN.is (en_lcM (fun d => .tuple [.str "call", .str c, d]) (ds := M.map .str) (EvL.s (el_var rfl (.of (ec _ _ hp2) (ty2.ex ec)))) (by rw [List.length_map]; omega) (fun _ => rfl) fun x d H2 e2 hd t => ed_tup (ea_cons ed_str (ea_cons (ed_var rfl (.str _)) (ea_cons (ed_var rfl t) ea_nil))) (by simp)) (by rw [List.map_map]; rfl))) (by rw [List.length_append, List.length_map, List.length_map, List.length_map]; omega)) fun p6 y6 Hd nd ed hpd td => ?_
    try dsimp only [gName, List.set]
    have hok : ∀ d ∈ (F.map (fun f => PyData.tuple [.str "get", .str c, .str f]) ++ F.map (fun f => PyData.tuple [.str "put", .str c, .str f])) ++ M.map (fun f => PyData.tuple [.str "call", .str c, .str f]), StepOk bs n.toNat False d := by
      intro d hd
      rcases List.mem_append.mp hd with hd | hd
      · rcases List.mem_append.mp hd with hd | hd
        · obtain ⟨f, hf, rfl⟩ := List.mem_map.mp hd
          rw [← hF] at hf
          exact .fld (by simp) wc (bare_fword hb hf) hf False.elim
        · obtain ⟨f, hf, rfl⟩ := List.mem_map.mp hd
          rw [← hF] at hf
          exact .fld (by simp) wc (bare_fword hb hf) hf False.elim
      · obtain ⟨f, hf, rfl⟩ := List.mem_map.mp hd
        rw [← hM] at hf
        exact .call wc (bare_mword hb hf) hf False.elim
    have lsh : SeqAt.shaped (.list ((F.map (fun f => PyData.tuple [.str "get", .str c, .str f]) ++ F.map (fun f => PyData.tuple [.str "put", .str c, .str f])) ++ M.map (fun f => PyData.tuple [.str "call", .str c, .str f]))) = true := (Sh.lst (n := 1) fun d hd => step_sh (hok d hd)).shaped (by decide)
    have llen : ((F.map (fun f => PyData.tuple [.str "get", .str c, .str f]) ++ F.map (fun f => PyData.tuple [.str "put", .str c, .str f])) ++ M.map (fun f => PyData.tuple [.str "call", .str c, .str f])).length < 1000 := by
      rw [List.length_append, List.length_append, List.length_map, List.length_map, List.length_map]
      omega
    have rd := rb.ex (ec.trans ed)
    have qd := qb.go (Gx.of (ec.trans ed))
    have ld : Lg K [R.r] Hd p6 _ := Lg.new (rb.ex ec) nd hpd td
    generalize ((F.map (fun f => PyData.tuple [.str "get", .str c, .str f]) ++ F.map (fun f => PyData.tuple [.str "put", .str c, .str f])) ++ M.map (fun f => PyData.tuple [.str "call", .str c, .str f])) = L at hok lsh llen ld
    have ht : EvT (tTest (tOp (rNeD K) (tVar 5) (tLst tNil))) [some (.ref R.r), some (.ref a), some (.int n), some (.str c), o4, some (.ref p6), some (.ref a6), some (.int way), some (.ref p2), some (.ref p1), none, none, none] Hd (!PyData.eqv (.list L) (.list [])) :=
      et_test (ed_neL (K := K) (ds := L) (es := []) (el_var rfl ld.ls) (EvN.l (en_lst ea_nil)) lsh ((Sh.lst (n := 0) (by simp)).shaped (by decide)))
    refine ht Hd (Same.refl Hd) _ fun He ee => ?_
    by_cases hL : L = []
    · have hb0 : (!PyData.eqv (.list L) (.list [])) = false := by
        rw [hL]
        simp [PyData.eqv, PyData.eqvAll]
      rw [hb0]
      refine (EvX.mono (P2 := StepOk bs n.toNat False) (ex_tup (K := K) (R := R) (EvXA.mono (PB := fun ds => ∃ i : Int, ds = [.str "push", .int i] ∧ 0 ≤ i ∧ i < 3) (exa_cons ex_str (exa_cons (ex_takenC (m := 3) rfl (fun _ _ _ => ed_int) (by omega) (by omega)) exa_nil)) ?_) ?_) ?_) He (Gx.refl _ _) (rd.ex ee) _ fun v d H5 g5 r5 t5 p5 => qd v d H5 ((Gx.of ee).trans g5) r5 t5 p5
      · rintro ds ⟨d1, r1, rfl, rfl, d2, r2, rfl, ⟨i, rfl, h1, h2⟩, rfl⟩
        exact ⟨i, rfl, h1, h2⟩
      · rintro ds ⟨i, rfl, _⟩
        simp
      · rintro d ⟨ds, rfl, i, rfl, h1, h2⟩
        exact .num (hi := 15) (by simp) h1 (by omega) False.elim
    · have hb1 : (!PyData.eqv (.list L) (.list [])) = true := by
        cases L with
        | nil => exact absurd rfl hL
        | cons a b => simp [PyData.eqv, PyData.eqvAll]
      rw [hb1]
      exact (ex_pick (K := K) (R := R) (P := StepOk bs n.toNat False) rfl (exl_var rfl (ld.same ee)) fun ds e => by subst e; exact ⟨hL, by omega, hok⟩) He (Gx.refl _ _) (rd.ex ee) _ fun v d H5 g5 r5 t5 p5 => qd v d H5 ((Gx.of ee).trans g5) r5 t5 p5
end
section
variable {K : Frag} {mg : Str → Option Value} {aB aR aE aHouse : Addr}
theorem ex_step {R : Scr} {σ : L2.St} {H : Hp} {i j k : Nat} {a : Addr} {bs : List Kl} {n : Int} (h1 : σ[i]? = some (some (.ref R.r))) (h2 : σ[j]? = some (some (.ref a))) (h3 : σ[k]? = some (some (.int n))) (l : Lg K [R.r] H a (encs bs)) (b : BareOk bs) (n0 : 0 < n) (n1 : n ≤ 20) :
    EvX K R (tCall (sp_law_step K) [] C8.E0 (tCons (tVar i) (tCons (tVar j) (tCons (tVar k) tNil)))) σ H (StepOk bs n.toNat False) := fun H1 g r Q k =>
  ⟨_, h1, _, h2, _, h3, R, a, n, bs, rfl, r, l.gx g, b, n0, n1, k⟩
theorem p_law_code (T : Txt K mg aB aR aE aHouse) (vs : List V) (H : Hp) (Q : VK) (E : XK) (h : sp_law_code K vs H Q E) : t_law_code K { nx := fun _ H' => Q .non H', rt := Q } (start N_law_code vs) H := by
  obtain ⟨R, a, n, bs, rfl, hr, l, hb, n0, n1, q⟩ := h
  refine q_setX (K := K) (R := R) (P := fun d => ∃ k : Int, d = .int (1 + k) ∧ 0 ≤ k ∧ k < (n : Int)) (EvX.mono (ex_I0 (g := fun i j => .int (i + j)) (A := fun i => i = 1) (B := fun k => 0 ≤ k ∧ k < (n : Int)) (ex_int.mono fun d e => ⟨1, e, rfl⟩) ((ex_takenC (m := (n : Int)) rfl (fun _ _ _ => ed_var rfl (.int _)) (by omega) (by omega)).mono fun d h => h) fun _ _ _ => .int _) ?_) hr fun v d H1 g1 r1 tv ⟨k, ed, k0, k1⟩ => ?_
  · rintro d ⟨i, j, rfl, rfl, h1, h2⟩
    exact ⟨j, rfl, h1, h2⟩
  subst ed
  have := tv.intI
  subst this
  obtain ⟨m, rfl⟩ := Int.eq_ofNat_of_zero_le k0
  have l1 := l.gx g1
  try dsimp only [L2.start, List.set]
  refine q_setXL (K := K) (R := R) (EvXN.l (exn_lcR (A := fun n => n = (m : Int)) (P := StepOk bs (1 + m) False) (EvX.mono (ex_pure (d := .int (m : Int)) fun H2 _ _ => EvD.is (ed_I0 (i := 1 + (m : Int)) (j := 1) (ed_var rfl (.int _)) ed_int (fun _ => .int _)) (congrArg PyData.int (by omega))) fun d e => ⟨_, e, rfl⟩) (fun n e => by subst e; omega) (fun _ => rfl) fun x H2 g2 r2 => ?_)) r1 fun p ds H2 g2 r2 l2 ⟨hlen, hsteps⟩ => ?_
  · have e : (1 + (m : Int)).toNat = 1 + m := by omega
    rw [← e]
    exact ex_step rfl rfl rfl (l1.gx g2) hb (by omega) (by omega)
  have hlen : ds.length = m := by omega
  try dsimp only [List.set]
  refine s_retX (K := K) (R := R) (P := fun d => ∃ code, d = .tuple code ∧ CodeOk bs n code) (EvX.mono (ex_tupOf (EvXN.l (exn_cat (exl_var rfl l2) (EvXN.l (exn_lst (PA := fun es => ∃ e, es = [e] ∧ StepOk bs (1 + m) True e) (EvXA.mono (exa_cons (P := StepOk bs (1 + m) True) (ex_pick rfl (EvXN.l (exn_lst (PA := fun es => es.length = 4 ∧ ∀ e ∈ es, StepOk bs (1 + m) True e) (EvXA.mono (exa_cons (P := StepOk bs (1 + m) True) ?_ (exa_cons (P := StepOk bs (1 + m) True) ?_ (exa_cons (P := StepOk bs (1 + m) True) ?_ (exa_cons (P := StepOk bs (1 + m) True) ?_ exa_nil)))) ?_) ?_)) ?_) exa_nil) ?_) ?_)) ?_))) ?_) r2 fun v d H3 g3 r3 t3 ⟨code, e, c⟩ => q v d H3 (g1.trans (g2.trans g3)) r3 t3 ⟨code, e, c⟩
  · exact (ex_pure (d := .tuple [.str "give"]) fun _ _ _ => ed_tup (ea_cons ed_str ea_nil) (by simp)).mono fun d e => by
      subst e
      exact .bare (by decide +kernel) fun _ => by decide +kernel
  · exact (ex_pure (d := .tuple [.str "give"]) fun _ _ _ => ed_tup (ea_cons ed_str ea_nil) (by simp)).mono fun d e => by
      subst e
      exact .bare (by decide +kernel) fun _ => by decide +kernel
  · exact (ex_pure (d := .tuple [.str "throw"]) fun _ _ _ => ed_tup (ea_cons ed_str ea_nil) (by simp)).mono fun d e => by
      subst e
      exact .bare (by decide +kernel) fun _ => by decide +kernel
  · refine EvX.mono (ex_tup (EvXA.mono (PB := fun es => ∃ i : Int, es = [.str "go", .int i] ∧ 0 ≤ i ∧ i < 1 + (m : Int)) (exa_cons ex_str (exa_cons (ex_takenC (m := 1 + (m : Int)) rfl (fun _ _ _ => ed_var rfl (.int _)) (by omega) (by omega)) exa_nil)) ?_) ?_) ?_
    · rintro ds ⟨d1, r1, rfl, rfl, d2, r2, rfl, ⟨i, rfl, h1, h2⟩, rfl⟩
      exact ⟨i, rfl, h1, h2⟩
    · rintro ds ⟨i, rfl, _⟩
      simp
    · rintro d ⟨ds, rfl, i, rfl, h1, h2⟩
      exact .num (hi := ((1 + m : Nat) : Int) - 1) (by simp) h1 (by omega) fun _ => by decide +kernel
  · rintro ds ⟨d1, r1, rfl, p1, d2, r2, rfl, p2, d3, r3, rfl, p3, d4, r4, rfl, p4, rfl⟩
    refine ⟨rfl, fun d hd => ?_⟩
    have hd : d = d1 ∨ d = d2 ∨ d = d3 ∨ d = d4 := by simpa using hd
    rcases hd with rfl | rfl | rfl | rfl <;> assumption
  · rintro ds ⟨e, _⟩
    omega
  · rintro ds ⟨e, hall⟩
    exact ⟨by intro z; subst z; simp at e, by omega, hall⟩
  · rintro ds ⟨d1, r1, rfl, p1, rfl⟩
    exact ⟨d1, rfl, p1⟩
  · rintro ds ⟨e, rfl, _⟩
    simp
  · rintro x y rfl ⟨e, rfl, _⟩
    simp
    omega
  · rintro d ⟨_, rfl, x, _, rfl, rfl, e, rfl, he⟩
    refine ⟨_, rfl, by simp, by simp; omega, fun i d hi => ?_⟩
    have hl : (x ++ [e]).length = 1 + m := by simp; omega
    rw [hl]
    by_cases hix : i < x.length
    · rw [List.getElem?_append_left hix] at hi
      have := hsteps d (List.mem_of_getElem? hi)
      have hf : (i + 1 = 1 + m) = False := eq_false (by omega)
      rw [hf]
      exact this
    · have hi2 : i = x.length := by
        have := lt_of_get hi
        omega
      subst hi2
      rw [List.getElem?_append_right (Nat.le_refl _)] at hi
      simp at hi
      subst hi
      have hf : (x.length + 1 = 1 + m) = True := eq_true (by omega)
      rw [hf]
      exact he
end
section
variable {K : Frag} {mg : Str → Option Value} {aB aR aE aHouse : Addr}
abbrev letters24 : Str := "abcdefghijklmnopqrstuvwx"
def fw (k : Nat) : Str := ("f" : Str) ++ (⟨#[letters24.cps.toList.getD k 0]⟩ : Str)
theorem fw_word : ∀ k < 24, isWordB (fw k) = true := by decide +kernel
theorem fw_inj : ∀ j < 24, ∀ i < j, fw i ≠ fw j := by decide +kernel
theorem w3_word : ∀ w ∈ w3, isWordB w = true := by decide +kernel
def bm (sg : Str → List Str × Str) (w : Str) : Mth := ⟨w, (sg w).1, (sg w).2, []⟩
structure BK (sg : Str → List Str × Str) (names : List Str) (p : Str × Str) (c : Kl) : Prop where
  name : c.name = p.1
  upper : c.upper = p.2
  most : c.fields.length ≤ 2
  kinds : ∀ f ∈ c.fields, OkK names f.2
  meths : ∃ ws : List Str, List.Sublist ws w3 ∧ c.meths = ws.map (bm sg)
theorem sub_map0 {ds : List PyData} {ws : List Str} (h : List.Sublist ds (ws.map PyData.str)) : ∃ us : List Str, ds = us.map .str ∧ List.Sublist us ws := by
  obtain ⟨us, h1, h2⟩ := List.sublist_map_iff.mp h
  exact ⟨us, h2, h1⟩
theorem fw_nodup {n : Nat} (h : n ≤ 24) : ((List.range n).map fw).Nodup := by
  rw [List.nodup_iff_pairwise_ne, List.pairwise_map]
  refine List.Pairwise.imp_of_mem ?_ List.pairwise_lt_range
  intro a b ha hb hab
  have := List.mem_range.mp hb
  exact fw_inj b (by omega) a hab
theorem good_bare {m : Nat} {ts : List (Str × Str)} {sg : Str → List Str × Str} {n : Nat} (h1 : 1 ≤ m) (h8 : m ≤ 8) (ht : TreeOk m ts) (hsg : ∀ w, SignOk (ts.map (·.1)) (sg w)) {bs : List Kl} (hl : bs.length = m) (hn : n ≤ 24) (hf : bs.flatMap fnames = (List.range n).map fw)
    (hk : ∀ (i : Nat) (c : Kl), bs[i]? = some c → ∃ p, ts[i]? = some p ∧ BK sg (ts.map (·.1)) p c) : BareOk bs := by
  have emap : bs.map (fun k => (k.name, k.upper)) = ts := by
    apply List.ext_getElem?
    intro i
    rw [List.getElem?_map]
    cases hc : bs[i]? with
    | none =>
      have : bs.length ≤ i := List.getElem?_eq_none_iff.mp hc
      rw [List.getElem?_eq_none (by rw [ht.1]; omega)]
      rfl
    | some c =>
      obtain ⟨p, hp, w⟩ := hk i c hc
      rw [hp]
      show some (c.name, c.upper) = some p
      rw [w.name, w.upper]
  have enames : ts.map (·.1) = bs.map (·.name) := by
    rw [← emap, List.map_map]
    rfl
  have hcl := tree_cls ht emap
  have hkind : ∀ k, OkK (ts.map (·.1)) k → OkKind (namesL bs) k := by
    intro k hk
    rcases hk with h | h | h
    · exact ⟨by rw [h]; exact num_word, .inl h⟩
    · exact ⟨by rw [h]; exact top_word, .inr (by rw [h]; exact List.mem_cons_self)⟩
    · exact ⟨tree_word ht h, .inr (List.mem_cons_of_mem _ (by rw [← enames]; exact h))⟩
  have hmem : ∀ c ∈ bs, ∃ p, BK sg (ts.map (·.1)) p c := fun c hc => by
    obtain ⟨i, hi⟩ := at_mem hc
    obtain ⟨p, hp, w⟩ := hk i c hi
    exact ⟨p, w⟩
  have hnd : (bs.flatMap fnames).Nodup := by rw [hf]; exact fw_nodup hn
  refine ⟨?_, by omega, hcl, ?_, ?_, ?_⟩
  · intro z
    rw [z] at hl
    simp at hl
    omega
  · intro i c hc
    obtain ⟨p, hp, w⟩ := hk i c hc
    have hcm := List.mem_of_getElem? hc
    have hsplit : bs = bs.take i ++ c :: bs.drop (i + 1) := by
      have hi := lt_of_get hc
      have := List.drop_eq_getElem_cons hi
      rw [(List.getElem?_eq_some_iff.mp hc).2] at this
      rw [← this, List.take_append_drop]
    have hfl : bs.flatMap fnames = (bs.take i).flatMap fnames ++ (fnames c ++ (bs.drop (i + 1)).flatMap fnames) := by
      conv => lhs; rw [hsplit]
      rw [List.flatMap_append, List.flatMap_cons]
    rw [hfl] at hnd
    have n1 := List.nodup_append.mp hnd
    have n2 := List.nodup_append.mp n1.2.1
    refine ⟨by have := w.most; omega, ?_, fun f hf' => hkind _ (w.kinds f hf'), n2.1, ?_⟩
    · intro f hf'
      have : f.1 ∈ bs.flatMap fnames := List.mem_flatMap.mpr ⟨c, hcm, List.mem_map.mpr ⟨f, hf', rfl⟩⟩
      rw [hf] at this
      obtain ⟨k, hk', e⟩ := List.mem_map.mp this
      rw [← e]
      exact isWord_of (fw_word k (by have := List.mem_range.mp hk'; omega))
    · intro f hf' hin
      have h3 : f.1 ∈ (bs.take i).flatMap fnames := by
        obtain ⟨u, hu, hfu⟩ := List.mem_flatMap.mp hin
        exact List.mem_flatMap.mpr ⟨u, row_mem hu, hfu⟩
      have h4 : f.1 ∈ fnames c ++ (bs.drop (i + 1)).flatMap fnames := List.mem_append_left _ (List.mem_map.mpr ⟨f, hf', rfl⟩)
      exact n1.2.2 f.1 h3 f.1 h4 rfl
  · intro c hc
    obtain ⟨p, w⟩ := hmem c hc
    obtain ⟨ws, hs, e⟩ := w.meths
    rw [e, List.length_map]
    have := hs.length_le
    simp at this
    omega
  · intro i c hc j mm hm
    obtain ⟨p, hp, w⟩ := hk i c hc
    obtain ⟨ws, hs, e⟩ := w.meths
    have hwnd : ws.Nodup := List.Nodup.sublist hs (by decide +kernel)
    rw [e] at hm
    obtain ⟨x, hx, rfl⟩ := map_getE hm
    have hx3 : x ∈ w3 := hs.mem (List.mem_of_getElem? hx)
    have so := hsg x
    refine ⟨isWord_of (w3_word x hx3), ?_, so.most, fun k hk => hkind k (so.ins k hk), hkind _ so.out, ?_⟩
    · rw [e, ← List.map_take, List.map_map]
      have e1 : (ws.take j).map ((fun x => x.word) ∘ bm sg) = ws.take j := by
        have : ((fun x : Mth => x.word) ∘ bm sg) = id := rfl
        rw [this, List.map_id]
      rw [e1]
      intro hmem
      have hj := lt_of_get hx
      have e2 : ws = ws.take j ++ ws.drop j := (List.take_append_drop _ _).symm
      rw [e2] at hwnd
      have hin : x ∈ ws.drop j := by
        rw [List.drop_eq_getElem_cons hj, (List.getElem?_eq_some_iff.mp hx).2]
        exact List.mem_cons_self
      exact (List.nodup_append.mp hwnd).2.2 x hmem x hin rfl
    · intro u hu m' hm' hw'
      obtain ⟨p2, w2⟩ := hmem u (List.mem_of_mem_take (row_mem hu))
      obtain ⟨ws2, _, e2⟩ := w2.meths
      rw [e2] at hm'
      obtain ⟨y, _, rfl⟩ := List.mem_map.mp hm'
      have : y = x := hw'
      subst this
      exact ⟨rfl, rfl⟩
theorem SignsAt.gx {H H' : Hp} {p : Addr} {sg : Str → List Str × Str} {S : List Addr} (h : SignsAt K H p sg) (g : Gx S H H') (n : p ∉ S) : SignsAt K H' p sg := by
  obtain ⟨v1, v2, v3, h1, t1, t2, t3⟩ := h
  exact ⟨v1, v2, v3, g.keep _ _ n h1, t1.gx g, t2.gx g, t3.gx g⟩
theorem SignsAt.get {H : Hp} {p : Addr} {sg : Str → List Str × Str} (h : SignsAt K H p sg) {w : Str} (hw : w ∈ w3) : ∃ kvs v, H p = some (.dK kvs) ∧ valV kvs (.inr w) = some v ∧ Td K H v (encS (sg w)) := by
  obtain ⟨v1, v2, v3, h1, t1, t2, t3⟩ := h
  have hw : w = "ma" ∨ w = "mb" ∨ w = "mc" := by simpa using hw
  rcases hw with rfl | rfl | rfl
  · exact ⟨_, v1, h1, rfl, t1⟩
  · exact ⟨_, v2, h1, rfl, t2⟩
  · exact ⟨_, v3, h1, rfl, t3⟩
theorem ed_fname {σ : L2.St} {H : Hp} {i k : Nat} (hv : σ[i]? = some (some (.int (k : Int)))) (hk : k < 24) : EvD K (tOp rAddSt (tC (.str "f")) (tOp (rIx K) (tC (.str "abcdefghijklmnopqrstuvwx")) (tVar i))) σ H (.str (fw k)) := fun H1 e Q q => by
  refine ⟨_, hv, ?_⟩
  have hl : letters24.cps.toList.length = 24 := by decide +kernel
  have hat : letters24.cps.toList[k]? = some (letters24.cps.toList.getD k 0) := by
    rw [List.getD_eq_getElem?_getD, List.getElem?_eq_getElem (by omega)]
    rfl
  refine .inr (.inr ⟨letters24, (k : Int), letters24.cps.toList.getD k 0, rfl, rfl, by decide +kernel, atI_nat hat, ?_⟩)
  refine ⟨"f", ⟨#[letters24.cps.toList.getD k 0]⟩, rfl, rfl, ?_, q _ H1 (Same.refl H1) (.str _)⟩
  show 1 + 1 ≤ sizeLine
  decide
theorem q_appX {R : Scr} {σ : L2.St} {H : Hp} {te : TE} {P : PyData → Prop} {D : Ends} {tz : TS} {l : Addr} {i : Nat} {xs : List V} (hv : σ[i]? = some (some (.ref l))) (hl : H l = some (.lst xs)) (hn : l ≠ R.r) (h : EvX K R te σ H P) (r : RowAt K R H) (hz : xs.length < 100000)
    (k : ∀ v d H1, Gx [R.r] H H1 → RowAt K R H1 → H1 l = some (.lst xs) → Td K H1 v d → P d → tz D σ (upd H1 l (.lst (xs ++ [v])))) : tSeq (tDrop (tBM K "list" rAppend (tVar i) (tCons te tNil))) tz D σ H := s_appX (D := { D with nx := tz D }) hv hl hn h r hz k
theorem p_law_bare (T : Txt K mg aB aR aE aHouse) (vs : List V) (H : Hp) (Q : VK) (E : XK) (h : sp_law_bare K vs H Q E) : t_law_bare K { nx := fun _ H' => Q .non H', rt := Q } (start N_law_bare vs) H := by
  obtain ⟨R, rfl, hr, q⟩ := h
  refine q_setXN (K := K) (R := R) (exn_tree rfl (ex_one rfl rfl (by omega) (by omega))) hr fun a2 xs2 ds2 H1 n2 g1 r1 hp2 t2 ⟨m, ts, m1, m8, eds, tok⟩ => ?_
  subst eds
  have l2 : Lg K [R.r] H1 a2 (ts.map encF) := Lg.new hr n2 hp2 t2
  have tl : ts.length ≤ 8 := by rw [tok.1]; exact m8
  try dsimp only [L2.start, List.set]
  refine q_par3 ?_
  refine (EvN.is (en_lcM (K := K) hd0 (ds := ts.map encF) (EvL.s (el_var rfl l2.ls)) (by rw [List.length_map]; omega) (fun _ => rfl) fun x d H5 e5 hd t => ?_) (by rw [List.map_map, List.map_map]; rfl) : EvN K _ _ _ ((ts.map (fun p : Str × Str => p.1)).map PyData.str)) H1 (Same.refl H1) _ fun a4 xs4 H2 n4 e2 hp4 t4 => ?_
  · obtain ⟨f, hf, rfl⟩ := List.mem_map.mp hd
    exact ed_ixT (d := .str f.1) (ed_var (d := encF f) rfl t) ed_int rfl
  have r2 := r1.ex e2
  have l4 : Lg K [R.r] H2 a4 ((ts.map (·.1)).map .str) := Lg.new r1 n4 hp4 t4
  have l22 := l2.same e2
  refine en_lst (K := K) ea_nil (by decide) H2 (Same.refl H2) _ fun p xs3 H3 np e3 hp t3 => ?_
  refine ⟨_, _, _, rfl, ?_⟩
  cases t3
  have r3 := r2.ex e3
  have npr : p ≠ R.r := fun z => r2.ne np z.symm
  have l43 := l4.same e3
  have l23 := l22.same e3
  have g02 : Gx [R.r] H H2 := g1.trans (Gx.of e2)
  have hnp : H p = none := g02.free np fun z => npr (List.mem_singleton.mp z)
  try dsimp only [L2.start, List.set]
  refine ⟨_, rfl, _, rfl, R, a4, ts.map (·.1), rfl, r3, l43, by rw [List.length_map]; exact tl, fun pS sg H4 nS g4 r4 sa sok => ?_⟩
  have hp4' : H4 p = some (.lst []) := g4.keep _ _ (by simpa using npr) hp
  have nSp : pS ∉ [R.r, p] := by
    intro hz
    have hz : pS = R.r ∨ pS = p := by simpa using hz
    rcases hz with z | z
    · exact r3.ne nS z.symm
    · rw [z, hp] at nS
      cases nS
  have l24 := l23.gx g4
  have a2p : a2 ∉ [R.r, p] := by
    intro hz
    have hz : a2 = R.r ∨ a2 = p := by simpa using hz
    obtain ⟨n, xs, hx, _⟩ := l22
    rcases hz with z | z
    · exact n (by rw [z]; simp)
    · rw [z, np] at hx
      cases hx
  have g24 : Gx [R.r] H2 H4 := (Gx.of e3).trans g4
  obtain ⟨_, xs24, hx24, tx24⟩ := l24
  try dsimp only [L2.start, List.set]
  refine q_forX (K := K) (S := [R.r, p]) (te := tVar 2) (fun a xs ds Hz => a = a2 ∧ xs = xs24 ∧ ds = ts.map encF ∧ Hz = H4)
    (fun Q k => ⟨_, rfl, k a2 xs24 _ H4 ⟨rfl, rfl, rfl, rfl⟩⟩)
    (fun a xs ds Hz ⟨e1, e2, e3, e4⟩ => by subst e1 e2 e3 e4; exact ⟨hx24, tx24, a2p⟩)
    (fun ds Hz i σ' H' => ∃ (o7 o8 o9 o10 o11 : Option V) (bs : List Kl) (ys : List V) (M : Nat), σ' = [some (.ref R.r), some (.int 8), some (.ref a2), some (.ref pS), some (.ref a4), some (.ref p), some (.int (M : Int)), o7, o8, o9, o10, o11, none, none] ∧ Gx [R.r] H2 H' ∧ RowAt K R H' ∧ H' p = some (.lst ys) ∧ Tds K H' ys (encs bs) ∧ bs.length = i ∧
      bs.flatMap fnames = (List.range M).map fw ∧ M ≤ 2 * i ∧ ∀ (j : Nat) (c : Kl), bs[j]? = some c → ∃ pr, ts[j]? = some pr ∧ BK sg (ts.map (·.1)) pr c) ?_ ?_ ?_
  · rintro a xs ds Hz ⟨rfl, rfl, rfl, rfl⟩
    exact ⟨none, none, none, none, none, [], [], 0, rfl, g24, r4, hp4', .nil, rfl, rfl, by omega, by simp⟩
  · rintro a xs ds Hz i x d σ' H' N ⟨rfl, rfl, rfl, rfl⟩ gS hd td ⟨o7, o8, o9, o10, o11, bs, ys, M, rfl, g, r, hp', ty, hlen, hflat, hM, hok⟩ hN
    obtain ⟨pr, hpr, rfl⟩ := map_getE hd
    have hil : i < 8 := by
      have := lt_of_get hpr
      omega
    refine gt2 (d1 := .str pr.1) (d2 := .str pr.2) td fun v1 v2 t1 t2 => ?_
    have := t1.strI
    subst this
    have := t2.strI
    subst this
    have l4' := l4.gx g
    have sa' := sa.gx gS nSp
    have nSr : pS ∉ [R.r] := fun z => nSp (by simp [List.mem_singleton.mp z])
    try dsimp only [List.set]
    refine q_setN (K := K) (en_lst ea_nil) fun pf xf H5 nf e5 hpf tf => ?_
    cases tf
    have r5 := r.ex e5
    have nfr : pf ≠ R.r := fun z => r.ne nf z.symm
    try dsimp only [List.set]
    refine q_forRX (K := K) (R := R) (A := fun n => 0 ≤ n ∧ n < 3) ((ex_takenC (m := 3) rfl (fun _ _ _ => ed_int) (by omega) (by omega)).mono fun d h => h) r5 (fun n hn => ⟨hn.1, by omega⟩)
      (fun n0 j σ3 H3 => ∃ (o10 : Option V) (fs : List (Str × Str)) (yf : List V), σ3 = [some (.ref R.r), some (.int 8), some (.ref a), some (.ref pS), some (.ref a4), some (.ref p), some (.int ((M + j : Nat) : Int)), some (.str pr.1), some (.str pr.2), some (.ref pf), o10, o11, none, none] ∧ Gx [R.r] H' H3 ∧ RowAt K R H3 ∧ H3 pf = some (.lst yf) ∧ Tds K H3 yf (fs.map encF) ∧
        fs.length = j ∧ fs.map (·.1) = (List.range' M j).map fw ∧ ∀ f ∈ fs, OkK (ts.map (·.1)) f.2) ?_ ?_ ?_
    · intro n0 H6 _ g6 r6
      exact ⟨o10, [], [], rfl, (Gx.of e5).trans g6, r6, g6.keep _ _ (by simpa using nfr) hpf, .nil, rfl, rfl, by simp⟩
    · rintro n0 j σ3 H6 N2 hA hj ⟨o10', fs, yf, rfl, g6, r6, hpf6, tyf, hfl, hfn, hfk⟩ hN2
      have l46 := l4'.gx g6
      have hA2 : (n0 : Int) < 3 := hA.2
      try dsimp only [List.set]
      refine q_appX (K := K) (R := R) (P := fun d => ∃ k, d = encF (fw (M + j), k) ∧ OkK (ts.map (·.1)) k) rfl hpf6 nfr (EvX.mono (ex_tup (EvXA.mono (PB := fun ds => ∃ k, ds = [.str (fw (M + j)), .str k] ∧ OkK (ts.map (·.1)) k) (exa_cons (ex_pure (d := .str (fw (M + j))) fun _ _ _ => ed_fname rfl (by omega)) (exa_cons (P := fun d => ∃ k, d = .str k ∧ OkK (ts.map (·.1)) k) (ex_pick rfl (EvXN.l (exn_pure (ds := kinds3 (ts.map (·.1))) fun H7 g7 _ => EvN.is (en_catM (ds := kinds0.map .str) (EvN.m (en_lst (ea_cons ed_str (ea_cons ed_str (ea_cons ed_str ea_nil))))) (em_var rfl (l46.gx g7)) (by simp [kinds0]; omega)) (by unfold kinds3; rw [List.map_append]))) fun ds e => ?_) exa_nil)) ?_) ?_) ?_) r6 (by rw [tyf.len, List.length_map, hfl]; omega) fun v d H7 g7 r7 hpf7 t7 ⟨k, ed, hk⟩ => ?_
      · subst e
        exact ⟨by unfold kinds3; simp [kinds0], by unfold kinds3; simp [kinds0]; omega, fun d hd => kinds_ok hd⟩
      · rintro ds ⟨d1, r1, rfl, rfl, d2, r2, rfl, ⟨k, rfl, hk⟩, rfl⟩
        exact ⟨k, rfl, hk⟩
      · rintro ds ⟨k, rfl, _⟩
        simp
      · rintro d ⟨ds, rfl, k, rfl, hk⟩
        exact ⟨k, rfl, hk⟩
      subst ed
      have gg := g6.trans g7
      refine s_setD (K := K) (d := .int ((M + (j + 1) : Nat) : Int)) (EvD.is (ed_I0 (i := ((M + j : Nat) : Int)) (j := 1) (ed_var rfl (.int _)) ed_int (fun _ => .int _)) (congrArg PyData.int (by omega))) fun w H8 e8 tw => ?_
      have := tw.intI
      subst this
      refine hN2 _ _ ⟨_, fs ++ [(fw (M + j), k)], yf ++ [v], rfl, (gg.mut nf).trans (Gx.of e8), (r.mut nf r7 gg).ex e8, e8 _ _ upd_same, ?_, by rw [List.length_append, hfl]; rfl, ?_, ?_⟩
      · rw [List.map_append]
        exact (((tyf.gx g7).snoc t7).kt (KT.put hpf7)).ex e8
      · rw [List.map_append, hfn, List.range'_concat, List.map_append]
        simp
      · intro f hf
        rcases List.mem_append.mp hf with z | z
        · exact hfk f z
        · rw [List.mem_singleton.mp z]
          exact hk
    · rintro n0 σ3 H6 hA ⟨o10', fs, yf, rfl, g6, r6, hpf6, tyf, hfl, hfn, hfk⟩
      have hA2 : (n0 : Int) < 3 := hA.2
      have sa6 := sa'.gx g6 nSr
      try dsimp only [List.set]
      refine q_setXL (K := K) (R := R) (PA := fun es => ∃ ws : List Str, List.Sublist ws w3 ∧ es = ws.map fun w => encM (bm sg w)) (EvXL.mono (EvXN.l (exn_lcF (fun d => match d with | .str w => encM (bm sg w) | d => d) (ds := w3.map .str) (EvXN.l (exn_pure fun _ _ _ => en_lst (ea_cons ed_str (ea_cons ed_str (ea_cons ed_str ea_nil))))) (by simp) (fun _ => rfl) (fun x d H7 g7 r7 _ _ => ext_zero rfl (by omega) (by omega)) (fun x d H7 g7 r7 hd t => ?_))) ?_) r6 fun a11 ds11 H7 g7 r7 l11 ⟨ws, hws, e11⟩ => ?_
      · obtain ⟨w, hw, rfl⟩ := List.mem_map.mp hd
        have hx := t.strI
        subst hx
        obtain ⟨kvs, v, hk, hv, tv⟩ := (sa6.gx g7 nSr).get hw
        exact ed_catA (ds := []) (es := [.str (sg w).2]) (ed_tup (ea_cons (ed_var rfl (.str _)) ea_nil) (by simp)) (ed_dGetT rfl hk (ed_var rfl (.str _)) hv tv) (by simp)
      · rintro es ⟨ds', hs, rfl⟩
        obtain ⟨us, rfl, hus⟩ := sub_map0 hs
        exact ⟨us, hus, by rw [List.map_map]; rfl⟩
      subst e11
      try dsimp only [List.set]
      have g57 := g6.trans g7
      have hpf7 : H7 pf = some (.lst yf) := g7.keep _ _ (by simpa using nfr) hpf6
      have hp7 : H7 p = some (.lst ys) := g57.keep _ _ (by simpa using npr) hp'
      refine s_app (K := K) (d := enc ⟨pr.1, pr.2, fs, ws.map (bm sg)⟩) hp7 (var_is rfl) (EvD.is (ed_tup (ea_cons (ed_var rfl (.str _)) (ea_cons (ed_var rfl (.str _)) (ea_cons (ed_tupOf (el_var rfl (.of hpf7 (tyf.gx g7)))) (ea_cons (ed_tupOf (el_var rfl l11.ls)) ea_nil)))) (by simp)) (by unfold enc; rw [List.map_map]; rfl)) (by rw [ty.len, List.length_map]; omega) fun v H8 e8 t8 => ?_
      have g68 := g57.trans (Gx.of e8)
      have gg := g.trans g68
      refine hN _ _ (Gx.upd (g68.mono (by simp)) (by simp) (e8 _ _ hp7)) ⟨_, _, _, _, _, bs ++ [⟨pr.1, pr.2, fs, ws.map (bm sg)⟩], ys ++ [v], M + n0, rfl, gg.mut np, r2.mut np (r7.ex e8) gg, upd_same, ?_, by rw [List.length_append, hlen]; rfl, ?_, by omega, ?_⟩
      · show Tds K _ (ys ++ [v]) ((bs ++ [_]).map enc)
        rw [List.map_append]
        exact ((ty.gx g68).snoc t8).kt (KT.put (e8 _ _ hp7))
      · rw [List.flatMap_append, hflat]
        simp only [List.flatMap_cons, List.flatMap_nil, List.append_nil]
        show _ ++ fs.map (·.1) = _
        rw [hfn, ← List.map_append, List.range_eq_range', List.range_eq_range']
        congr 1
        have := List.range'_append (s := 0) (m := M) (n := n0) (step := 1)
        simpa using this
      · intro j c hj
        by_cases hjl : j < bs.length
        · rw [List.getElem?_append_left hjl] at hj
          exact hok j c hj
        · have hj2 : j = bs.length := by
            have := lt_of_get hj
            rw [List.length_append] at this
            simp at this
            omega
          subst hj2
          rw [List.getElem?_append_right (Nat.le_refl _)] at hj
          simp at hj
          subst hj
          refine ⟨pr, by rw [hlen]; exact hpr, rfl, rfl, ?_, hfk, ws, hws, rfl⟩
          show fs.length ≤ 2
          omega
  · rintro a xs ds Hz σ' H' ⟨rfl, rfl, rfl, rfl⟩ gS ⟨o7, o8, o9, o10, o11, bs, ys, M, rfl, g, r, hp', ty, hlen, hflat, hM, hok⟩
    rw [List.length_map, tok.1] at hlen hM
    have hb : BareOk bs := good_bare m1 m8 tok sok hlen (by omega) hflat hok
    refine ⟨.ref p, rfl, q p ys _ H' hnp (g02.trans g) r hp' ty ⟨bs, rfl, hb, fun c hc mm hm => ?_⟩⟩
    obtain ⟨i, hi⟩ := at_mem hc
    obtain ⟨pr, _, w⟩ := hok i c hi
    obtain ⟨ws, _, e⟩ := w.meths
    rw [e] at hm
    obtain ⟨x, _, rfl⟩ := List.mem_map.mp hm
    rfl
end
section
variable {K : Frag} {mg : Str → Option Value} {aB aR aE aHouse : Addr}
def stripM (m : Mth) : Mth := { m with more := [] }
def strip (c : Kl) : Kl := { c with meths := c.meths.map stripM }
theorem rowA_strip : ∀ (l : List Kl) (n : Str), rowA (l.map strip) n = (rowA l n).map strip
  | [], _ => rfl
  | c :: r, n => by
    show (if c.name = n then strip c :: rowA (r.map strip) c.upper else rowA (r.map strip) n) = (if c.name = n then c :: rowA r c.upper else rowA r n).map strip
    by_cases h : c.name = n
    · rw [if_pos h, if_pos h, rowA_strip r, List.map_cons]
    · rw [if_neg h, if_neg h, rowA_strip r]
theorem row_strip (cs : List Kl) (n : Str) : row (cs.map strip) n = (row cs n).map strip := by
  unfold row
  rw [← List.map_reverse, rowA_strip]
theorem names_strip (cs : List Kl) : namesL (cs.map strip) = namesL cs := by
  unfold namesL
  rw [List.map_map]
  rfl
theorem fn_strip (R : List Kl) : (R.map strip).flatMap fnames = R.flatMap fnames := by
  rw [List.flatMap_map]
  rfl
theorem mn_strip (R : List Kl) : (R.map strip).flatMap mnames = R.flatMap mnames := by
  rw [List.flatMap_map]
  congr 1
  funext c
  show (c.meths.map stripM).map (·.word) = c.meths.map (·.word)
  rw [List.map_map]
  rfl
theorem step_strip {ks : List Kl} {n : Nat} {l : Prop} {d : PyData} (h : StepOk (ks.map strip) n l d) : StepOk ks n l d := by
  cases h with
  | bare h1 h2 => exact .bare h1 h2
  | num h1 h2 h3 h4 => exact .num h1 h2 h3 h4
  | cls h1 h2 h3 h4 => exact .cls h1 h2 (by rw [← names_strip]; exact h3) h4
  | fld h1 h2 h3 h4 h5 => exact .fld h1 h2 h3 (by rw [row_strip, fn_strip] at h4; exact h4) h5
  | call h1 h2 h3 h4 => exact .call h1 h2 (by rw [row_strip, mn_strip] at h3; exact h3) h4
theorem hand_strip {ks : List Kl} {n : Nat} {d : PyData} (h : HandOk (ks.map strip) n d) : HandOk ks n d := by
  obtain @⟨a, b, g, c, h1, h2, h3, h4, h5, h6, h7, h8⟩ := h
  exact .mk h1 h2 h3 h4 h5 (by rw [← names_strip]; exact h6) h7 h8
theorem code_strip {ks : List Kl} {code hs : List PyData} (h : OkCode (ks.map strip) code hs) : OkCode ks code hs :=
  ⟨h.ne, h.most, fun i d hd => step_strip (h.steps i d hd), h.hmost, fun d hd => hand_strip (h.hands d hd)⟩
theorem good_codes {ks : List Kl} (b : BareOk (ks.map strip)) (hc : ∀ k ∈ ks, ∀ m ∈ k.meths, ∃ code hs, m.more = [.tuple code, .tuple hs] ∧ OkCode (ks.map strip) code hs) : Good ks := by
  have tk : ∀ i, (ks.map strip).take i = (ks.take i).map strip := fun i => List.map_take.symm
  have get : ∀ (i : Nat) c, ks[i]? = some c → (ks.map strip)[i]? = some (strip c) := fun i c h => by rw [List.getElem?_map, h]; rfl
  refine ⟨fun z => b.ne (by rw [z]; rfl), by have := b.most; rw [List.length_map] at this; exact this, ?_, ?_, ?_, ?_, ?_⟩
  · intro i c h
    have o := b.cls i _ (get i c h)
    rw [tk] at o
    exact ⟨o.name, o.bar, by rw [← names_strip]; exact o.new, o.upw, by rw [← names_strip]; exact o.up⟩
  · intro i c h
    have o := b.flds i _ (get i c h)
    rw [tk, names_strip] at o
    exact ⟨o.most, o.word, o.kind, o.nodup, fun f hf => by have := o.apart f hf; rw [show (strip c).upper = c.upper from rfl, row_strip, fn_strip] at this; exact this⟩
  · intro c h
    have := b.mmost _ (List.mem_map.mpr ⟨c, h, rfl⟩)
    have e : (strip c).meths.length = c.meths.length := List.length_map _
    omega
  · intro i c h j m hm
    have o := b.mths i _ (get i c h) j (stripM m) (by show (c.meths.map stripM)[j]? = _; rw [List.getElem?_map, hm]; rfl)
    rw [tk, names_strip] at o
    have hmm : ∃ code hs, m.more = [.tuple code, .tuple hs] ∧ OkCode (ks.map strip) code hs := hc c (List.mem_of_getElem? h) m (List.mem_of_getElem? hm)
    refine ⟨o.word, ?_, o.most, o.ins, o.out, ?_, ?_⟩
    · have e : ((strip c).meths.take j).map (·.word) = (c.meths.take j).map (·.word) := by
        show ((c.meths.map stripM).take j).map (·.word) = _
        rw [← List.map_take, List.map_map]
        rfl
      rw [← e]
      exact o.new
    · intro u hu m' hm' hw
      exact o.same (strip u) (by rw [show (strip c).upper = c.upper from rfl, row_strip]; exact List.mem_map.mpr ⟨u, hu, rfl⟩) (stripM m') (List.mem_map.mpr ⟨m', hm', rfl⟩) hw
    · obtain ⟨code, hs, e, _⟩ := hmm
      rw [e]
      rfl
  · intro c h m hm
    obtain ⟨code, hs, e, o⟩ := hc c h m hm
    exact ⟨code, hs, e, code_strip o⟩
theorem ex_code {R : Scr} {σ : L2.St} {H : Hp} {i j k n : Nat} {a : Addr} {bs : List Kl} (h1 : σ[i]? = some (some (.ref R.r))) (h2 : σ[j]? = some (some (.ref a))) (h3 : σ[k]? = some (some (.int (n : Int)))) (l : Lg K [R.r] H a (encs bs)) (b : BareOk bs) (n0 : 1 ≤ n) (n1 : n ≤ 20) :
    EvX K R (tCall (sp_law_code K) [] C8.E0 (tCons (tVar i) (tCons (tVar j) (tCons (tVar k) tNil)))) σ H (fun d => ∃ code, d = .tuple code ∧ CodeOk bs n code) := fun H1 g r Q k =>
  ⟨_, h1, _, h2, _, h3, R, a, n, bs, rfl, r, l.gx g, b, n0, n1, k⟩
theorem ex_hands {R : Scr} {σ : L2.St} {H : Hp} {tb : TE} {i j n : Nat} {a : Addr} {bs : List Kl} (h1 : σ[i]? = some (some (.ref R.r))) (h2 : σ[j]? = some (some (.ref a))) (h3 : ∀ H1, Gx [R.r] H H1 → EvD K tb σ H1 (.int (n : Int))) (l : Lg K [R.r] H a ((bs.map (·.name)).map .str)) (b : BareOk bs) (n0 : 1 ≤ n) (n1 : n ≤ 20) :
    EvX K R (tCall (sp_law_handlers K) [] C8.E0 (tCons (tVar i) (tCons (tVar j) (tCons tb tNil)))) σ H (fun d => ∃ hs, d = .tuple hs ∧ hs.length ≤ 4 ∧ ∀ h ∈ hs, HandOk bs n h) := fun H1 g r Q k =>
  ⟨_, h1, _, h2, h3 H1 g H1 (Same.refl H1) _ fun v H2 e2 t => by
    rw [t.intI]
    exact ⟨R, a, n, bs, rfl, r.ex e2, (l.gx g).same e2, b, n0, n1, fun v d H' g' w t p => k v d H' ((Gx.of e2).trans g') w t p⟩⟩
theorem p_law_classes (T : Txt K mg aB aR aE aHouse) (vs : List V) (H : Hp) (Q : VK) (E : XK) (h : sp_law_classes K vs H Q E) : t_law_classes K { nx := fun _ H' => Q .non H', rt := Q } (start N_law_classes vs) H := by
  obtain ⟨R, rfl, hr, q⟩ := h
  refine q_par ?_
  refine ⟨_, rfl, _, rfl, R, rfl, hr, fun a4 xs4 ds4 H1 n4 g1 r1 hp4 t4 ⟨bs, eds, hb, hmore⟩ => ?_⟩
  subst eds
  have l4 : Lg K [R.r] H1 a4 (encs bs) := Lg.new hr n4 hp4 t4
  refine en_lst (K := K) ea_nil (by decide) H1 (Same.refl H1) _ fun p xs3 H2 np e2 hp t3 => ⟨_, _, rfl, ?_⟩
  cases t3
  have r2 := r1.ex e2
  have npr : p ≠ R.r := fun z => r1.ne np z.symm
  have l42 := l4.same e2
  have b8 := hb.most
  try dsimp only [L2.start, List.set]
  refine q_setN (K := K) (ds := (bs.map Kl.name).map .str) (EvN.is (en_lcM hd0 (ds := encs bs) (EvL.s (el_var rfl l42.ls)) (by rw [List.length_map]; omega) (fun _ => rfl) fun x d H5 e5 hd t => ?_) (by rw [List.map_map, List.map_map]; rfl)) fun a3 xs5 H3 n3 e3 hp3 t3 => ?_
  · obtain ⟨u, hu, rfl⟩ := List.mem_map.mp hd
    exact ed_ixT (d := .str u.name) (ed_var (d := enc u) rfl t) ed_int rfl
  have r3 := r2.ex e3
  have hp' := e3 _ _ hp
  have l43 := l42.same e3
  have a4p : a4 ∉ [R.r, p] := by
    intro hz
    have hz : a4 = R.r ∨ a4 = p := by simpa using hz
    rcases hz with z | z
    · exact hr.ne n4 z.symm
    · rw [z, np] at hp4
      cases hp4
  have l3 : Lg K [R.r, p] H3 a3 ((bs.map (·.name)).map .str) := by
    refine ⟨fun hz => ?_, xs5, hp3, t3⟩
    have hz : a3 = R.r ∨ a3 = p := by simpa using hz
    rcases hz with z | z
    · exact r2.ne n3 z.symm
    · rw [z, hp] at n3
      cases n3
  have g13 : Gx [R.r] H1 H3 := Gx.of (e2.trans e3)
  obtain ⟨_, xs43, hx43, tx43⟩ := l43
  try dsimp only [L2.start, List.set]
  refine q_forX (K := K) (S := [R.r, p]) (te := tVar 4) (fun a xs ds Hz => a = a4 ∧ xs = xs43 ∧ ds = encs bs ∧ Hz = H3)
    (fun Q k => ⟨_, rfl, k a4 xs43 _ H3 ⟨rfl, rfl, rfl, rfl⟩⟩)
    (fun a xs ds Hz ⟨e1, e2, e3, e4⟩ => by subst e1 e2 e3 e4; exact ⟨hx43, tx43, a4p⟩)
    (fun ds Hz i σ' H' => ∃ (o6 o7 o8 o9 o10 o12 o13 o14 o15 : Option V) (ks : List Kl) (ys : List V), σ' = [some (.ref R.r), some (.int 8), some (.int 3), some (.ref a3), some (.ref a4), some (.ref p), o6, o7, o8, o9, o10, none, o12, o13, o14, o15] ∧ Gx [R.r] H1 H' ∧ RowAt K R H' ∧ H' p = some (.lst ys) ∧ Tds K H' ys (encs ks) ∧ ks.map strip = bs.take i ∧
      ∀ k ∈ ks, ∀ m ∈ k.meths, ∃ code hs, m.more = [.tuple code, .tuple hs] ∧ OkCode bs code hs) ?_ ?_ ?_
  · rintro a xs ds Hz ⟨rfl, rfl, rfl, rfl⟩
    exact ⟨none, none, none, none, none, none, none, none, none, [], [], rfl, g13, r3, hp', .nil, by simp, by simp⟩
  · rintro a xs ds Hz i x d σ' H' N ⟨rfl, rfl, rfl, rfl⟩ gS hd td ⟨o6, o7, o8, o9, o10, o12, o13, o14, o15, ks, ys, rfl, g, r, hp', ty, hst, hok⟩ hN
    obtain ⟨c, hc, rfl⟩ := map_getE hd
    have hcm := List.mem_of_getElem? hc
    have hil : i < 8 := by
      have := lt_of_get hc
      omega
    have hlen : ks.length = i := by
      have := congrArg List.length hst
      rw [List.length_map, List.length_take] at this
      have := lt_of_get hc
      omega
    refine gt4 (d1 := .str c.name) (d2 := .str c.upper) (d3 := .tuple (c.fields.map encF)) (d4 := .tuple (c.meths.map encM)) td fun v1 v2 v3 v4 t1 t2 t3 t4 => ?_
    have := t1.strI
    subst this
    have := t2.strI
    subst this
    have l4' := l4.gx g
    have l3' : Lg K [R.r] H' a3 ((bs.map (·.name)).map .str) := by
      obtain ⟨n, xs, h1, h2⟩ := l3.gx gS
      exact ⟨fun z => n (by simp [List.mem_singleton.mp z]), xs, h1, h2⟩
    have m4 := hb.mmost c hcm
    try dsimp only [List.set]
    refine q_setN (K := K) (en_lst ea_nil) fun pw xw H5 nw e5 hpw tw => ?_
    cases tw
    have r5 := r.ex e5
    have nwr : pw ≠ R.r := fun z => r.ne nw z.symm
    have hrow5 : H5 R.r ≠ none := by
      obtain ⟨⟨i, s, t, h1, _⟩, _⟩ := r5
      rw [h1]
      simp
    try dsimp only [List.set]
    refine q_forG (K := K) (S := [R.r, pw]) (ds := c.meths.map encM) (EvD.g (ed_var rfl (t4.ex e5)))
      (fun j σ3 H6 => ∃ (o12 o13 o14 o15 : Option V) (ms : List Mth) (yw : List V), σ3 = [some (.ref R.r), some (.int 8), some (.int 3), some (.ref a3), some (.ref a), some (.ref p), some (.str c.name), some (.str c.upper), some v3, some v4, some (.ref pw), none, o12, o13, o14, o15] ∧ Gx [R.r] H' H6 ∧ RowAt K R H6 ∧ H6 pw = some (.lst yw) ∧ Tds K H6 yw (ms.map encM) ∧
        ms.map stripM = c.meths.take j ∧ ∀ m ∈ ms, ∃ code hs, m.more = [.tuple code, .tuple hs] ∧ OkCode bs code hs) ?_ ?_ ?_
    · intro H6 e6
      exact ⟨o12, o13, o14, o15, [], [], rfl, Gx.of (e5.trans e6), r5.ex e6, e6 _ _ hpw, .nil, by simp, by simp⟩
    · rintro j y d σ3 H6 N2 gW hd2 td2 ⟨p12, p13, p14, p15, ms, yw, rfl, g6, r6, hpw6, tyw, hms, hmok⟩ hN2
      obtain ⟨m, hm, rfl⟩ := map_getE hd2
      have hmore' := hmore c hcm m (List.mem_of_getElem? hm)
      have hjl := lt_of_get hm
      have hmlen : ms.length ≤ 4 := by
        have := congrArg List.length hms
        rw [List.length_map, List.length_take] at this
        omega
      have em : encM m = .tuple [.str m.word, .tuple (m.ins.map .str), .str m.out] := by
        unfold encM
        rw [hmore']
      rw [em] at td2
      refine gt3 td2 fun u1 u2 u3 s1 s2 s3 => ?_
      have := s1.strI
      subst this
      have := s3.strI
      subst this
      try dsimp only [List.set]
      refine q_setX (K := K) (R := R) (ex_code (n := 3) rfl rfl rfl (l4'.gx g6) hb (by omega) (by omega)) r6 fun v15 d15 H7 g7 r7 t15 ⟨code, e15, ok15⟩ => ?_
      subst e15
      have hc3 := ok15.most
      have hcne : 1 ≤ code.length := by
        have := ok15.ne
        cases code with
        | nil => exact absurd rfl this
        | cons _ _ => simp
      try dsimp only [List.set]
      have hpw7 : H7 pw = some (.lst yw) := g7.keep _ _ (by simpa using nwr) hpw6
      refine s_appX (K := K) (R := R) (P := fun d => ∃ hs, d = encM ⟨m.word, m.ins, m.out, [.tuple code, .tuple hs]⟩ ∧ OkCode bs code hs) rfl hpw7 nwr (EvX.mono (ex_tup (EvXA.mono (PB := fun ds => ∃ hs, ds = [.str m.word, .tuple (m.ins.map .str), .str m.out, .tuple code, .tuple hs] ∧ hs.length ≤ 4 ∧ ∀ h ∈ hs, HandOk bs code.length h)
        (exa_cons (ex_var (d := .str m.word) rfl (.str _)) (exa_cons (ex_var (d := .tuple (m.ins.map .str)) rfl (s2.gx g7)) (exa_cons (ex_var (d := .str m.out) rfl (.str _)) (exa_cons (ex_var (d := .tuple code) rfl t15) (exa_cons (ex_hands (n := code.length) rfl rfl (fun H8 g8 => ed_lenD (ed_var rfl (t15.gx g8))) ((l3'.gx g6).gx g7) hb hcne (by omega)) exa_nil))))) ?_) ?_) ?_) r7 (by rw [tyw.len, List.length_map]; omega) fun v d H8 g8 r8 hpw8 t8 ⟨hs, ed, okc⟩ => ?_
      · rintro ds ⟨d1, q1, rfl, rfl, d2, q2, rfl, rfl, d3, q3, rfl, rfl, d4, q4, rfl, rfl, d5, q5, rfl, ⟨hs, rfl, h1, h2⟩, rfl⟩
        exact ⟨hs, rfl, h1, h2⟩
      · rintro ds ⟨hs, rfl, _⟩
        simp
      · rintro d ⟨ds, rfl, hs, rfl, h1, h2⟩
        exact ⟨hs, rfl, ok15.ne, by omega, ok15.steps, h1, h2⟩
      subst ed
      have gg := g6.trans (g7.trans g8)
      refine hN2 _ _ (Gx.upd ((g7.trans g8).mono (by simp)) (by simp) hpw8) ⟨_, _, _, _, ms ++ [⟨m.word, m.ins, m.out, [.tuple code, .tuple hs]⟩], yw ++ [v], rfl, gg.mut nw, r.mut nw r8 gg, upd_same, ?_, ?_, ?_⟩
      · rw [List.map_append]
        exact ((tyw.gx (g7.trans g8)).snoc t8).kt (KT.put hpw8)
      · rw [List.map_append, hms, take_snoc hm]
        congr 1
        show [stripM ⟨m.word, m.ins, m.out, [.tuple code, .tuple hs]⟩] = [m]
        have : m = ⟨m.word, m.ins, m.out, []⟩ := by rw [← hmore']
        rw [this]
        rfl
      · intro m' hm'
        rcases List.mem_append.mp hm' with z | z
        · exact hmok m' z
        · rw [List.mem_singleton.mp z]
          exact ⟨code, hs, rfl, okc⟩
    · rintro σ3 H6 gW ⟨p12, p13, p14, p15, ms, yw, rfl, g6, r6, hpw6, tyw, hms, hmok⟩
      rw [List.length_map, List.take_length] at hms
      have hp6 : H6 p = some (.lst ys) := g6.keep _ _ (by simpa using npr) hp'
      refine s_app (K := K) (d := enc ⟨c.name, c.upper, c.fields, ms⟩) hp6 (var_is rfl) (EvD.is (ed_tup (ea_cons (ed_var rfl (.str _)) (ea_cons (ed_var rfl (.str _)) (ea_cons (ed_var rfl (t3.gx g6)) (ea_cons (ed_tupOf (el_var rfl (.of hpw6 tyw))) ea_nil)))) (by simp)) rfl) (by rw [ty.len, List.length_map]; omega) fun v H8 e8 t8 => ?_
      have g68 := g6.trans (Gx.of e8)
      have gg := g.trans g68
      refine hN _ _ (Gx.upd (g68.mono (by simp)) (by simp) (e8 _ _ hp6)) ⟨_, _, _, _, _, _, _, _, _, ks ++ [⟨c.name, c.upper, c.fields, ms⟩], ys ++ [v], rfl, gg.mut np, r1.mut np (r6.ex e8) gg, upd_same, ?_, ?_, ?_⟩
      · show Tds K _ (ys ++ [v]) ((ks ++ [_]).map enc)
        rw [List.map_append]
        exact ((ty.gx g68).snoc t8).kt (KT.put (e8 _ _ hp6))
      · rw [List.map_append, hst, take_snoc hc]
        congr 1
        show [strip ⟨c.name, c.upper, c.fields, ms⟩] = [c]
        unfold strip
        dsimp only
        rw [hms]
      · intro k hk
        rcases List.mem_append.mp hk with z | z
        · exact hok k z
        · rw [List.mem_singleton.mp z]
          exact hmok
  · rintro a xs ds Hz σ' H' ⟨rfl, rfl, rfl, rfl⟩ gS ⟨o6, o7, o8, o9, o10, o12, o13, o14, o15, ks, ys, rfl, g, r, hp', ty, hst, hok⟩
    rw [List.length_map, List.take_length] at hst
    have hg : Good ks := good_codes (by rw [hst]; exact hb) (by rw [hst]; exact hok)
    refine s_retX (K := K) (R := R) (P := fun d => d = .tuple (encs ks)) (EvX.mono (ex_tupOf (exl_var (ds := encs ks) rfl ⟨by simpa using npr, ys, hp', ty⟩)) ?_) r fun v d H4 g4 r4 t4 e => ?_
    · rintro d ⟨ds, rfl, rfl⟩
      rfl
    · subst e
      exact q v _ H4 (g1.trans (g.trans g4)) r4 t4 ⟨ks, rfl, hg⟩
end
section
variable {K : Frag} {mg : Str → Option Value} {aB aR aE aHouse : Addr}
abbrev words5 : List Str := ["ma", "mb", "mc", "md", "me"]
def wm (w : Str) : Mth := ⟨w, [], "num", [.tuple [.tuple [.str "push", .int 1], .tuple [.str "give"]], .tuple []]⟩
structure WK (p : Str × Str) (c : Kl) : Prop where
  name : c.name = p.1
  upper : c.upper = p.2
  fields : c.fields = []
  meths : ∃ ws : List Str, c.meths = ws.map wm ∧ ws.Nodup ∧ ws.length ≤ 4 ∧ ∀ w ∈ ws, w ∈ words5
theorem words5_ok : ∀ w ∈ words5, isWordB w = true := by decide +kernel
theorem sub_map {ds : List PyData} {ws : List Str} (h : List.Sublist ds (ws.map PyData.str)) : ∃ us : List Str, ds = us.map .str ∧ List.Sublist us ws := by
  obtain ⟨us, h1, h2⟩ := List.sublist_map_iff.mp h
  exact ⟨us, h2, h1⟩
theorem good_wordy {m : Nat} {ts : List (Str × Str)} (h1 : 1 ≤ m) (h8 : m ≤ 8) (ht : TreeOk m ts) {ks : List Kl} (hl : ks.length = m) (hk : ∀ (i : Nat) (c : Kl), ks[i]? = some c → ∃ p, ts[i]? = some p ∧ WK p c) : Good ks := by
  have emap : ks.map (fun k => (k.name, k.upper)) = ts := by
    apply List.ext_getElem?
    intro i
    rw [List.getElem?_map]
    cases hc : ks[i]? with
    | none =>
      have : ks.length ≤ i := List.getElem?_eq_none_iff.mp hc
      rw [List.getElem?_eq_none (by rw [ht.1]; omega)]
      rfl
    | some c =>
      obtain ⟨p, hp, w⟩ := hk i c hc
      rw [hp]
      show some (c.name, c.upper) = some p
      rw [w.name, w.upper]
  have hcl := tree_cls ht emap
  have hmem : ∀ c ∈ ks, ∃ ws : List Str, c.fields = [] ∧ c.meths = ws.map wm ∧ ws.Nodup ∧ ws.length ≤ 4 ∧ ∀ w ∈ ws, w ∈ words5 := fun c hc => by
    obtain ⟨i, hi⟩ := at_mem hc
    obtain ⟨p, hp, w⟩ := hk i c hi
    obtain ⟨ws, h1, h2, h3, h4⟩ := w.meths
    exact ⟨ws, w.fields, h1, h2, h3, h4⟩
  refine ⟨?_, by omega, hcl, ?_, ?_, ?_, ?_⟩
  · intro z
    rw [z] at hl
    simp at hl
    omega
  · intro i c hc
    obtain ⟨ws, hf, _⟩ := hmem c (List.mem_of_getElem? hc)
    refine ⟨by rw [hf]; simp, ?_, ?_, ?_, ?_⟩
    · rw [hf]; simp
    · rw [hf]; simp
    · unfold fnames; rw [hf]; exact List.nodup_nil
    · rw [hf]; simp
  · intro c hc
    obtain ⟨ws, _, hm, _, h4, _⟩ := hmem c hc
    rw [hm, List.length_map]
    exact h4
  · intro i c hc j mm hm
    obtain ⟨ws, _, hms, hnd, _, hw5⟩ := hmem c (List.mem_of_getElem? hc)
    rw [hms] at hm
    obtain ⟨w, hw, rfl⟩ := map_getE hm
    refine ⟨isWord_of (words5_ok w (hw5 w (List.mem_of_getElem? hw))), ?_, by simp [wm], by simp [wm], ⟨num_word, .inl rfl⟩, ?_, rfl⟩
    · rw [hms, ← List.map_take, List.map_map]
      have e : (ws.take j).map ((fun x => x.word) ∘ wm) = ws.take j := by
        have : ((fun x : Mth => x.word) ∘ wm) = id := rfl
        rw [this, List.map_id]
      rw [e]
      intro hmem
      have hj := lt_of_get hw
      have e2 : ws = ws.take j ++ ws.drop j := (List.take_append_drop _ _).symm
      rw [e2] at hnd
      have hin : w ∈ ws.drop j := by
        rw [List.drop_eq_getElem_cons hj, (List.getElem?_eq_some_iff.mp hw).2]
        exact List.mem_cons_self
      exact (List.nodup_append.mp hnd).2.2 w hmem w hin rfl
    · intro u hu m' hm' _
      obtain ⟨ws2, _, hms2, _⟩ := hmem u (List.mem_of_mem_take (row_mem hu))
      rw [hms2] at hm'
      obtain ⟨w2, _, rfl⟩ := List.mem_map.mp hm'
      exact ⟨rfl, rfl⟩
  · intro c hc mm hm
    obtain ⟨ws, _, hms, _, _, hw5⟩ := hmem c hc
    rw [hms] at hm
    obtain ⟨w, hw, rfl⟩ := List.mem_map.mp hm
    refine ⟨_, _, rfl, by simp, by simp, ?_, by simp, by simp⟩
    intro i d hd
    match i, hd with
    | 0, hd =>
      have : d = .tuple [.str "push", .int 1] := by simpa using hd.symm
      subst this
      exact .num (hi := 15) (by simp) (by omega) (by omega) (fun z => by simp at z)
    | 1, hd =>
      have : d = .tuple [.str "give"] := by simpa using hd.symm
      subst this
      exact .bare (by decide +kernel) fun _ => by decide +kernel
    | n + 2, hd => simp at hd
theorem p_law_wordy (T : Txt K mg aB aR aE aHouse) (vs : List V) (H : Hp) (Q : VK) (E : XK) (h : sp_law_wordy K vs H Q E) : t_law_wordy K { nx := fun _ H' => Q .non H', rt := Q } (start N_law_wordy vs) H := by
  obtain ⟨R, rfl, hr, q⟩ := h
  refine q_par ?_
  refine exn_slTo (K := K) (R := R) (ds := words5.map .str) (A := fun i => 1 ≤ i ∧ i ≤ 5) (EvXN.l (exn_pure fun _ _ _ => en_lst (ea_cons ed_str (ea_cons ed_str (ea_cons ed_str (ea_cons ed_str (ea_cons ed_str ea_nil))))) (by decide))) (EvX.mono (ex_I0 (g := fun i j => .int (i + j)) (A := fun i => i = 1) (B := fun k => 0 ≤ k ∧ k < 5) (ex_int.mono fun d e => ⟨1, e, rfl⟩) ((ex_takenC (m := 5) rfl (fun _ _ _ => ed_int) (by omega) (by omega)).mono fun d h => h) fun _ _ _ => .int _) ?_) H (Gx.refl _ _) hr _ fun a2 xs2 ds2 H1 n2 g1 r1 hp2 t2 ⟨iw, ⟨iw1, iw5⟩, e2⟩ => ?_
  · rintro d ⟨i, j, rfl, rfl, h1, h2⟩
    exact ⟨_, rfl, by omega, by omega⟩
  obtain ⟨nw, rfl⟩ := Int.eq_ofNat_of_zero_le (show 0 ≤ iw by omega)
  have e2 : ds2 = (words5.take nw).map .str := by
    rw [e2]
    show cutD _ none (some (nw : Int)) = _
    rw [cut_to, List.map_take]
  subst e2
  have l2 : Lg K [R.r] H1 a2 ((words5.take nw).map .str) := Lg.new hr n2 hp2 t2
  have hnd5 : (words5.take nw).Nodup := List.Nodup.sublist (List.take_sublist _ _) (by decide +kernel)
  have hin5 : ∀ w ∈ words5.take nw, w ∈ words5 := fun w hw => List.mem_of_mem_take hw
  have hlen5 : (words5.take nw).length ≤ 5 := by rw [List.length_take]; exact Nat.min_le_right _ _
  generalize words5.take nw = W at l2 hnd5 hin5 t2 hlen5
  refine en_lst (K := K) ea_nil (by decide) H1 (Same.refl H1) _ fun p xs3 H2 np e2 hp t3 => ⟨_, _, rfl, ?_⟩
  cases t3
  have r2 := r1.ex e2
  have npr : p ≠ R.r := fun z => r1.ne np z.symm
  try dsimp only [L2.start, List.set]
  refine q_forX (K := K) (S := [R.r, p]) (te := tCall (sp_law_tree K) [] C8.E0 (tCons (tVar 0) (tCons (tOp rAdd (tC (.int 1)) (tCall (sp_law_taken K) [] C8.E0 (tCons (tVar 0) (tCons (tVar 1) tNil)))) tNil))) (fun a xs ds H3 => H2 a = none ∧ Gx [R.r] H2 H3 ∧ RowAt K R H3 ∧ H3 a = some (.lst xs) ∧ Tds K H3 xs ds ∧ ∃ m ts, 1 ≤ m ∧ m ≤ 8 ∧ ds = ts.map encF ∧ TreeOk m ts)
    (fun Q k => exn_tree (K := K) (R := R) rfl (ex_one rfl rfl (by omega) (by omega)) H2 (Gx.refl _ _) r2 Q fun a xs ds H3 n g r hp t pr => k a xs ds H3 ⟨n, g, r, hp, t, pr⟩)
    (fun a xs ds H3 ⟨n, g, r, hp3, t, _⟩ => ⟨hp3, t, by
      intro hz
      have hz : a = R.r ∨ a = p := by simpa using hz
      rcases hz with z | z
      · exact r2.ne n z.symm
      · rw [z, hp] at n
        cases n⟩)
    (fun ds H3 i σ' H' => ∃ (o4 o5 o6 o7 : Option V) (ks : List Kl) (ys : List V), σ' = [some (.ref R.r), some (.int 8), some (.ref a2), some (.ref p), o4, o5, o6, o7, none] ∧ Gx [R.r] H1 H' ∧ RowAt K R H' ∧ H' p = some (.lst ys) ∧ Tds K H' ys (encs ks) ∧ ks.length = i ∧ ∀ (j : Nat) (c : Kl), ks[j]? = some c → ∃ pr, ds[j]? = some (encF pr) ∧ WK pr c) ?_ ?_ ?_
  · rintro a xs ds H3 ⟨n, g, r, _⟩
    exact ⟨none, none, none, none, [], [], rfl, (Gx.of e2).trans g, r, g.keep _ _ (by simpa using npr) hp, .nil, rfl, by simp⟩
  · rintro a xs ds H3 i x d σ' H' N ⟨n, g3, r3, hp3, t3, m, ts, m1, m8, rfl, tok⟩ gS hd td ⟨o4, o5, o6, o7, ks, ys, rfl, g, r, hp', ty, hlen, hok⟩ hN
    obtain ⟨pr, hpr, rfl⟩ := map_getE hd
    have hil : i < 8 := by
      have := lt_of_get hpr
      rw [tok.1] at this
      omega
    refine gt2 (d1 := .str pr.1) (d2 := .str pr.2) td fun v1 v2 t1 t2 => ?_
    have := t1.strI
    subst this
    have := t2.strI
    subst this
    try dsimp only [List.set]
    have l2' := l2.gx g
    refine q_setXL (K := K) (R := R) (PA := fun es => ∃ us : List Str, es = us.map .str ∧ us.Nodup ∧ us.length ≤ 5 ∧ ∀ w ∈ us, w ∈ words5) (EvXL.mono (EvXN.l (exn_lcF (fun d => d) (exl_var rfl l2') (by rw [List.length_map]; omega) (fun _ => rfl) (fun x d H4 g4 r4 _ _ => ext_zero rfl (by omega) (by omega)) (fun x d H4 g4 r4 _ t => ed_var rfl t))) ?_) r fun a6 ds6 H4 g4 r4 l6 ⟨us, e6, und, ulen, uin⟩ => ?_
    · rintro es ⟨ds', hsub, rfl⟩
      rw [List.map_id']
      obtain ⟨us, rfl, hs⟩ := sub_map hsub
      exact ⟨us, rfl, List.Nodup.sublist hs hnd5, Nat.le_trans hs.length_le hlen5, fun w hw => hin5 w (hs.mem hw)⟩
    subst e6
    try dsimp only [List.set]
    refine q_setXL (K := K) (R := R) (PA := fun es => ∃ us : List Str, es = us.map .str ∧ us.Nodup ∧ us.length ≤ 5 ∧ ∀ w ∈ us, w ∈ words5) (exl_if (ext_zero rfl (by omega) (by omega)) ((exl_rev rfl l6).mono fun es e => ⟨us.reverse, by rw [e, List.map_reverse], List.pairwise_reverse.mpr (List.Pairwise.imp (fun h z => h z.symm) und), by rw [List.length_reverse]; exact ulen, fun w hw => uin w (List.mem_reverse.mp hw)⟩) ((exl_var rfl l6).mono fun es e => ⟨us, e, und, ulen, uin⟩)) r4 fun a7 ds7 H5 g5 r5 l7 ⟨us2, e7, und2, ulen2, uin2⟩ => ?_
    subst e7
    try dsimp only [List.set]
    refine q_setN (K := K) (ds := (us2.take 4).map fun w => encM (wm w)) (EvN.is (en_lcM (fun d => .tuple [d, .tuple [], .str "num", .tuple [.tuple [.str "push", .int 1], .tuple [.str "give"]], .tuple []]) (ds := (us2.take 4).map .str) (EvN.s (EvN.is (en_sl (el_var rfl l7.ls) eo_none (eo_some (K := K) ed_int)) (by rw [show (4 : Int) = ((4 : Nat) : Int) from rfl, cut_to, List.map_take]))) (by rw [List.length_map, List.length_take]; omega) (fun _ => rfl) fun x d H6 e6 hd t => ?_) (by rw [List.map_map]; rfl)) fun a8 xs8 H6 n8 e6 hp8 t8 => ?_
    · exact ed_tup (ea_cons (ed_var rfl t) (ea_cons (ed_tup ea_nil (by simp)) (ea_cons ed_str (ea_cons (ed_tup (ea_cons (ed_tup (ea_cons ed_str (ea_cons ed_int ea_nil)) (by simp)) (ea_cons (ed_tup (ea_cons ed_str ea_nil) (by simp)) ea_nil)) (by simp)) (ea_cons (ed_tup ea_nil (by simp)) ea_nil))))) (by simp)
    try dsimp only [List.set]
    have g46 := g4.trans (g5.trans (Gx.of e6))
    have hp6 : H6 p = some (.lst ys) := g46.keep _ _ (by simpa using npr) hp'
    have r6 := r5.ex e6
    refine s_app (K := K) (d := enc ⟨pr.1, pr.2, [], (us2.take 4).map wm⟩) hp6 (var_is rfl) (EvD.is (ed_tup (ea_cons (ed_var rfl (.str _)) (ea_cons (ed_var rfl (.str _)) (ea_cons (ed_tup ea_nil (by simp)) (ea_cons (ed_tupOf (el_var rfl (.of hp8 t8))) ea_nil)))) (by simp)) (by unfold enc; rw [List.map_map]; rfl)) (by rw [ty.len, List.length_map]; omega) fun v H7 e7 t7 => ?_
    have gg := g.trans (g46.trans (Gx.of e7))
    refine hN _ _ (Gx.upd ((g46.trans (Gx.of e7)).mono (by simp)) (by simp) (e7 _ _ hp6)) ⟨_, _, _, _, ks ++ [⟨pr.1, pr.2, [], (us2.take 4).map wm⟩], ys ++ [v], rfl, gg.mut np, r1.mut np (r6.ex e7) gg, upd_same, ?_, by rw [List.length_append, hlen]; rfl, ?_⟩
    · show Tds K _ (ys ++ [v]) ((ks ++ [_]).map enc)
      rw [List.map_append]
      exact ((ty.gx (g46.trans (Gx.of e7))).snoc t7).kt (KT.put (e7 _ _ hp6))
    · intro j c hj
      by_cases hjl : j < ks.length
      · rw [List.getElem?_append_left hjl] at hj
        exact hok j c hj
      · have hj2 : j = ks.length := by
          have := lt_of_get hj
          rw [List.length_append] at this
          simp at this
          omega
        subst hj2
        rw [List.getElem?_append_right (Nat.le_refl _)] at hj
        simp at hj
        subst hj
        refine ⟨pr, by rw [hlen]; exact hd, rfl, rfl, rfl, us2.take 4, List.map_take.symm, List.Nodup.sublist (List.take_sublist _ _) und2, by rw [List.length_take]; omega, fun w hw => uin2 w (List.mem_of_mem_take hw)⟩
  · rintro a xs ds H3 σ' H' ⟨n, g3, r3, hp3, t3, m, ts, m1, m8, rfl, tok⟩ gS ⟨o4, o5, o6, o7, ks, ys, rfl, g, r, hp', ty, hlen, hok⟩
    have hg : Good ks := good_wordy m1 m8 tok (by rw [hlen, List.length_map]; exact tok.1) fun i c hi => by
      obtain ⟨pr, h1, h2⟩ := hok i c hi
      obtain ⟨pr', h3, h4⟩ := map_getE h1
      have : pr = pr' := by
        unfold encF at h4
        simp at h4
        exact Prod.ext h4.1 h4.2
      exact ⟨pr, by rw [this]; exact h3, h2⟩
    refine s_retX (K := K) (R := R) (P := fun d => d = .tuple (encs ks)) (EvX.mono (ex_tupOf (exl_var (ds := encs ks) rfl ⟨by simpa using npr, ys, hp', ty⟩)) ?_) r fun v d H4 g4 r4 t4 e => ?_
    · rintro d ⟨ds, rfl, rfl⟩
      rfl
    · subst e
      exact q v _ H4 (g1.trans (g.trans g4)) r4 t4 ⟨ks, rfl, hg⟩
end
section
variable {K : Frag} {mg : Str → Option Value} {aB aR aE aHouse : Addr}
theorem plc_idx {x : Str} {l : List Str} (h : x ∈ l) : l[plc x l]? = some x ∧ ∀ k < plc x l, l[k]? ≠ some x := by
  induction l with
  | nil => simp at h
  | cons u r ih =>
    unfold plc
    by_cases hu : u = x
    · rw [if_pos hu]
      exact ⟨by simp [hu], by omega⟩
    · rw [if_neg hu]
      have hr : x ∈ r := by
        rcases List.mem_cons.mp h with z | z
        · exact absurd z.symm hu
        · exact z
      obtain ⟨h1, h2⟩ := ih hr
      refine ⟨by simpa using h1, fun k hk => ?_⟩
      cases k with
      | zero => simpa using hu
      | succ k => simpa using h2 k (by omega)
theorem p_law_near (T : Txt K mg aB aR aE aHouse) (vs : List V) (H : Hp) (Q : VK) (E : XK) (h : sp_law_near K vs H Q E) : t_law_near K { nx := fun _ H' => Q .non H', rt := Q } (start N_law_near vs) H := by
  obtain ⟨a, cs, n, x, rfl, hv, hl, h4, q⟩ := h
  refine q_forG (K := K) (S := []) (ds := encs (row cs n)) (EvN.g (ev_lrow (cs := cs) (n := n) (es_var rfl hv) (ed_var rfl (.str _)) hl) (by simp))
    (fun i σ' H' => ∃ (o1 o2 : Option V), σ' = [some (.ref a), some (.str n), some (.str x), o1, o2, none] ∧ Same H H' ∧ ∀ c ∈ (row cs n).take i, hasW x c = false) ?_ ?_ ?_
  · intro H2 e2
    exact ⟨none, none, rfl, e2, by simp⟩
  · rintro i y d σ' H' N g hd td ⟨o1, o2, rfl, e', hno⟩ hN
    obtain ⟨c, hc, rfl⟩ := map_getE hd
    have hcr : c ∈ row cs n := List.mem_of_getElem? hc
    have hm4 := h4 c (row_mem hcr)
    dsimp only [gName, List.set]
    refine q_setN (K := K) (ds := (mnames c).map .str) (EvN.is (en_lcM hd0 (EvD.s (ds := c.meths.map encM) (ed_ixT (ed_var (d := enc c) rfl td) ed_int rfl)) (by rw [List.length_map]; omega) (fun _ => rfl) fun z d H2 e2 hd t2 => ?_) ?_) fun p xs H2 np e2 hp tp => ?_
    · obtain ⟨m, hm, rfl⟩ := List.mem_map.mp hd
      exact ed_ixT (ed_var (d := encM m) rfl t2) ed_int (at0 _ _)
    · show (c.meths.map encM).map hd0 = (c.meths.map (·.word)).map PyData.str
      rw [List.map_map, List.map_map]
      rfl
    refine s_if (b := decide (x ∈ mnames c)) (et_test (K := K) (ed_in (x := x) (xs := mnames c) (ed_var rfl (.str _)) (EvL.s (el_var rfl (.of hp tp))))) (fun hb H3 e3 => ?_) fun hb H3 e3 => ?_
    · have hb : x ∈ mnames c := of_decide_eq_true hb
      obtain ⟨pi1, pi2⟩ := plc_idx hb
      have hnear : nearD x (row cs n) = pairD x c := by
        have hf : (row cs n).find? (hasW x) = some c := by
          rw [List.find?_eq_some_iff_getElem]
          refine ⟨decide_eq_true hb, i, lt_of_get hc, (List.getElem?_eq_some_iff.mp hc).2, fun k hk => ?_⟩
          rw [hno _ (List.mem_iff_getElem?.mpr ⟨k, by rw [List.getElem?_take, if_pos hk]; exact List.getElem?_eq_getElem _⟩)]
          rfl
        unfold nearD
        rw [hf]
      rw [hnear] at q
      refine s_ret (K := K) (d := pairD x c) (ed_tup (ea_cons (ed_ixT (d := .str c.name) (ed_var (d := enc c) rfl (td.ex (e2.trans e3))) ed_int rfl) (ea_cons ?_ ea_nil)) (by simp)) fun v H4 e4 t4 => q v H4 (e'.trans ((e2.trans e3).trans e4)) t4
      have ex := tp.strs
      subst ex
      exact ed_index rfl ((e3) _ _ hp) (ed_var rfl (.str _)) pi1 pi2
    · have hb : ¬ x ∈ mnames c := of_decide_eq_false hb
      refine hN _ _ (Gx.of (e2.trans e3)) ⟨_, _, rfl, e'.trans (e2.trans e3), fun c2 hc2 => ?_⟩
      rw [take_snoc hc] at hc2
      rcases List.mem_append.mp hc2 with h | h
      · exact hno c2 h
      · rw [List.mem_singleton.mp h]
        exact decide_eq_false hb
  · rintro σ' H' g ⟨o1, o2, rfl, e', hno⟩
    have hnear : nearD x (row cs n) = .none := by
      rw [List.length_map, List.take_length] at hno
      have hf : (row cs n).find? (hasW x) = none := by
        rw [List.find?_eq_none]
        intro c hc
        rw [hno c hc]
        exact Bool.false_ne_true
      unfold nearD
      rw [hf]
    rw [hnear] at q
    exact s_ret (K := K) (d := .none) ed_non fun v H4 e4 t4 => q v H4 (e'.trans e4) t4
end
section
variable {K : Frag} {mg : Str → Option Value} {aB aR aE aHouse : Addr}
/-- what is asked of NotOwn, the class at aN, and of the other classes that _law_errorc names -/
structure ErrT (K : Frag) (mg : Str → Option Value) (aN : Addr) : Prop where
  exc : ExcC K aN
  ce : ∃ CE, mg "ClassError" = some (.ref CE) ∧ PySem.W.exmOne K (.ref aN) (.ref CE) = some true
  c0 : ∃ b, mg "NoHouse" = some (.ref b) ∧ PySem.W.kitOne K (.ref aN) (.ref b) = some false
  c1 : ∃ b, mg "BadName" = some (.ref b) ∧ PySem.W.kitOne K (.ref aN) (.ref b) = some false
  c2 : ∃ b, mg "BadWord" = some (.ref b) ∧ PySem.W.kitOne K (.ref aN) (.ref b) = some false
  c3 : ∃ b, mg "BadSlot" = some (.ref b) ∧ PySem.W.kitOne K (.ref aN) (.ref b) = some false
  c4 : ∃ b, mg "BadChoice" = some (.ref b) ∧ PySem.W.kitOne K (.ref aN) (.ref b) = some false
  c5 : ∃ b, mg "BadKinds" = some (.ref b) ∧ PySem.W.kitOne K (.ref aN) (.ref b) = some false
  c6 : ∃ b, mg "NotOwn" = some (.ref b) ∧ PySem.W.kitOne K (.ref aN) (.ref b) = some true
  c7 : ∃ b, mg "BadWords" = some (.ref b) ∧ PySem.W.kitOne K (.ref aN) (.ref b) = some false
  c8 : ∃ b, mg "BadNames" = some (.ref b) ∧ PySem.W.kitOne K (.ref aN) (.ref b) = some false
theorem ed_isE {σ : L2.St} {H : Hp} {aN a b : Addr} {i : Nat} {r : Bool} (hv : σ[i]? = some (some (.ref a))) (hk : PySem.W.kitOne K (.ref aN) (.ref b) = some r) : EvD K (tCB (rIsE K aN a) (tCons (tVar i) (tCons (tC (.ref b)) tNil))) σ H (.bool r) := fun H1 e Q q =>
  ⟨_, hv, .ref b, .ref b, r, rfl, fun u h => h, hk, q _ H1 (Same.refl H1) (.bl r)⟩
theorem flat_bools (bs : List Bool) : (bs.map V.bl).all flatV = true := by
  rw [List.all_eq_true]
  intro v hv
  obtain ⟨x, _, rfl⟩ := List.mem_map.mp hv
  rfl
theorem len_st {X : Cx} {sts : List Stmt} {t : TS} (h : PSs X sts t) : PSs X sts (fun D σ H => σ.length = X.N.length → t D σ H) := ⟨fun pins s σ H D I q => h.run pins s σ H D I (q I.len)⟩
theorem p_suite {aN a b0 b1 b2 b3 b4 b5 b6 b7 b8 : Addr} (k0 : PySem.W.kitOne K (.ref aN) (.ref b0) = some false) (k1 : PySem.W.kitOne K (.ref aN) (.ref b1) = some false) (k2 : PySem.W.kitOne K (.ref aN) (.ref b2) = some false) (k3 : PySem.W.kitOne K (.ref aN) (.ref b3) = some false)
    (k4 : PySem.W.kitOne K (.ref aN) (.ref b4) = some false) (k5 : PySem.W.kitOne K (.ref aN) (.ref b5) = some false) (k6 : PySem.W.kitOne K (.ref aN) (.ref b6) = some true) (k7 : PySem.W.kitOne K (.ref aN) (.ref b7) = some false) (k8 : PySem.W.kitOne K (.ref aN) (.ref b8) = some false)
    {D : Ends} {H : Hp} {s0 s1 s3 s4 : Option V} (q : ∀ o3 o4 H1, Same H H1 → D.nx [s0, some (.str "own"), some (.ref a), o3, o4] H1) : t_suite K aN a b0 b1 b2 b3 b4 b5 b6 b7 b8 D [s0, s1, some (.ref a), s3, s4] H := by
  refine q_setN (K := K) (en_lst (ea_cons (ed_isE rfl k0) (ea_cons (ed_isE rfl k1) (ea_cons (ed_isE rfl k2) (ea_cons (ed_isE rfl k3) ea_nil)))) (by simp)) fun p xs H1 np e1 hp tp => ?_
  try dsimp only [List.set]
  refine q_setN (K := K) (en_catM (em_var (S := []) rfl ⟨by simp, xs, hp, tp⟩) (EvN.m (en_lst (ea_cons (ed_isE rfl k4) (ea_cons (ed_isE rfl k5) (ea_cons (ed_isE rfl k6) ea_nil))) (by simp))) (by simp)) fun p xs H2 np e2 hp tp => ?_
  try dsimp only [List.set]
  refine q_setN (K := K) (en_catM (em_var (S := []) rfl ⟨by simp, xs, hp, tp⟩) (EvN.m (en_lst (ea_cons (ed_isE rfl k7) (ea_cons (ed_isE rfl k8) ea_nil)) (by simp))) (by simp)) fun p xs H3 np e3 hp tp => ?_
  try dsimp only [List.set]
  refine q_setN (K := K) (en_lst (ea_cons ed_str (ea_cons ed_str (ea_cons ed_str (ea_cons ed_str (ea_cons ed_str (ea_cons ed_str (ea_cons ed_str (ea_cons ed_str (ea_cons ed_str ea_nil))))))))) (by decide)) fun p2 xs2 H4 np2 e4 hp2 tp2 => ?_
  try dsimp only [List.set]
  have hp4 := e4 _ _ hp
  have tb := Tds.bools (bs := [false, false, false, false, false, false, true, false, false]) tp
  subst tb
  have hcnt : EvD K (tBM K "list" (rCntF K) (tVar 3) (tCons (tC (.bl true)) tNil)) [s0, s1, some (.ref a), some (.ref p), some (.ref p2)] H4 (.int 1) := fun H5 e5 Q q2 =>
    ⟨_, rfl, .inl ⟨rfl, _, .of (e5 _ _ hp4)⟩, p, _, .bl true, rfl, rfl, .of (e5 _ _ hp4), rfl, flat_bools _, q2 _ H5 (Same.refl H5) (.int 1)⟩
  have hidx : ∀ H5, Same H4 H5 → EvD K (tBM K "list" (rIndex K) (tVar 3) (tCons (tC (.bl true)) tNil)) [s0, s1, some (.ref a), some (.ref p), some (.ref p2)] H5 (.int 6) := fun H5 e5 H6 e6 Q q2 => by
    refine ⟨_, rfl, .inl ⟨rfl, _, .of ((e5.trans e6) _ _ hp4)⟩, p, _, .bl true, 6, .bl true, rfl, rfl, .of ((e5.trans e6) _ _ hp4), rfl, flat_bools _, rfl, rfl, fun m z' hm hz => ?_, q2 _ H6 (Same.refl H6) (.int 6)⟩
    match m, hm with
    | 0, _ => cases hz; rfl
    | 1, _ => cases hz; rfl
    | 2, _ => cases hz; rfl
    | 3, _ => cases hz; rfl
    | 4, _ => cases hz; rfl
    | 5, _ => cases hz; rfl
  refine q_setD (K := K) (d := .str "own") (ed_if (b := true) (et_test (EvD.is (ed_eqI (x := 1) (y := 1) hcnt ed_int) rfl)) (fun _ => ?_) (fun z => by cases z)) fun v H5 e5 tv => ?_
  · exact ed_ixL (el_var rfl (.of hp2 tp2)) (hidx H4 (Same.refl H4)) rfl
  have := tv.strI
  subst this
  try dsimp only [List.set]
  exact s_no0 (et_test (K := K) (EvD.is (ed_eqS (x := "own") (y := "choice") (ed_var rfl (.str _)) ed_str) (congrArg PyData.bool (decide_eq_false (by decide +kernel))))) fun H6 e6 => q _ _ H6 ((((e1.trans e2).trans e3).trans (e4.trans e5)).trans e6)
theorem errorc_gives {X : Cx} {aN g : Addr} {cdg : Value} {q : Str} (T : Txt X.K X.mg aB aR aE aHouse) (ER : ErrT X.K X.mg aN) : LamX.GivesTo X N_law_errorc "_law_errorc" (C8.fnScope s_law_errorc) g cdg (C8.fnBody s_law_errorc) "_law_work" q (TTerr X.K aN) := by
  intro f c' s H Q tl act hc h
  obtain ⟨EC, ⟨CE, mE, kE⟩, ⟨b0, m0, k0⟩, ⟨b1, m1, k1⟩, ⟨b2, m2, k2⟩, ⟨b3, m3, k3⟩, ⟨b4, m4, k4⟩, ⟨b5, m5, k5⟩, ⟨b6, m6, k6⟩, ⟨b7, m7, k7⟩, ⟨b8, m8, k8⟩⟩ := ER
  refine ⟨_, pss_cons (ps_set (i := 1) sc_law_errorc.nd rfl (by first | exact Or.inl rfl | exact Or.inr rfl) pe_str) (pss_cons (ps_try_as (X := (cxOf C8.CX0 X.prog X.w X.K X.mg X.base N_law_errorc "_law_errorc" (C8.fnScope s_law_errorc) g cdg X.A X.stack s H C8.E0).nox) (c := .ref CE) (i := 2)
      (tb := fun W D σ H => ∃ Ech : XK, (∀ cls d σ' H', Ech cls d H' → W cls d σ' H') ∧ σ[0]? = some (some (.ref f)) ∧ H c' = some (LamX.CodeO c' q) ∧ tl Ech H (fun _ H' => D.nx σ H'))
      (ts := fun a cls d => fun D σ H => σ.length = 5 → (if cls = .ref aN ∧ d = none then t_suite X.K aN a b0 b1 b2 b3 b4 b5 b6 b7 b8 else tNever) D σ H)
      rfl rfl sc_law_errorc.nd rfl rfl ⟨rfl, rfl, .inl mE⟩ LamX.takes0 (fun W pn xe tk _ => ?_) (fun a oe cls d pn hz hf => ?_)) (pss_one (ps_ret (pv 1)))), ?_⟩
  · refine ⟨fun pins s' σ H' D I h' => ?_⟩
    obtain ⟨Ech, hW, h1, h2, h3⟩ := h'
    exact (pss_one (ps_expr (act W pn xe Ech _ _ tk hW))).run pins s' σ H' D I ⟨h1, h2, h3⟩
  · refine len_st ?_
    by_cases hcd : cls = .ref aN ∧ d = none
    · rw [if_pos hcd]
      obtain ⟨rfl, rfl⟩ := hcd
      exact (pss_cons (ps_set (i := 3) sc_law_errorc.nd rfl (by first | exact Or.inl rfl | exact Or.inr rfl) (pe_lst (pa_cons (pe_callB (call_isE EC hz hf) (by rfl) T.z_isinstance (by decide +kernel) (pa_cons (pv 2) (pa_cons (C8.pe_gc rfl ⟨_, m0, rfl⟩) pa_nil))) (pa_cons (pe_callB (call_isE EC hz hf) (by rfl) T.z_isinstance (by decide +kernel) (pa_cons (pv 2) (pa_cons (C8.pe_gc rfl ⟨_, m1, rfl⟩) pa_nil))) (pa_cons (pe_callB (call_isE EC hz hf) (by rfl) T.z_isinstance (by decide +kernel) (pa_cons (pv 2) (pa_cons (C8.pe_gc rfl ⟨_, m2, rfl⟩) pa_nil))) (pa_cons (pe_callB (call_isE EC hz hf) (by rfl) T.z_isinstance (by decide +kernel) (pa_cons (pv 2) (pa_cons (C8.pe_gc rfl ⟨_, m3, rfl⟩) pa_nil))) pa_nil))))))
    (pss_cons (ps_set (i := 3) sc_law_errorc.nd rfl (by first | exact Or.inl rfl | exact Or.inr rfl) (pe_op op_cat (pv 3) (pe_lst (pa_cons (pe_callB (call_isE EC hz hf) (by rfl) T.z_isinstance (by decide +kernel) (pa_cons (pv 2) (pa_cons (C8.pe_gc rfl ⟨_, m4, rfl⟩) pa_nil))) (pa_cons (pe_callB (call_isE EC hz hf) (by rfl) T.z_isinstance (by decide +kernel) (pa_cons (pv 2) (pa_cons (C8.pe_gc rfl ⟨_, m5, rfl⟩) pa_nil))) (pa_cons (pe_callB (call_isE EC hz hf) (by rfl) T.z_isinstance (by decide +kernel) (pa_cons (pv 2) (pa_cons (C8.pe_gc rfl ⟨_, m6, rfl⟩) pa_nil))) pa_nil))))))
    (pss_cons (ps_set (i := 3) sc_law_errorc.nd rfl (by first | exact Or.inl rfl | exact Or.inr rfl) (pe_op op_cat (pv 3) (pe_lst (pa_cons (pe_callB (call_isE EC hz hf) (by rfl) T.z_isinstance (by decide +kernel) (pa_cons (pv 2) (pa_cons (C8.pe_gc rfl ⟨_, m7, rfl⟩) pa_nil))) (pa_cons (pe_callB (call_isE EC hz hf) (by rfl) T.z_isinstance (by decide +kernel) (pa_cons (pv 2) (pa_cons (C8.pe_gc rfl ⟨_, m8, rfl⟩) pa_nil))) pa_nil)))))
    (pss_cons (ps_set (i := 4) sc_law_errorc.nd rfl (by first | exact Or.inl rfl | exact Or.inr rfl) (pe_lst (pa_cons pe_str (pa_cons pe_str (pa_cons pe_str (pa_cons pe_str (pa_cons pe_str (pa_cons pe_str (pa_cons pe_str (pa_cons pe_str (pa_cons pe_str pa_nil)))))))))))
    (pss_cons (ps_set (i := 1) sc_law_errorc.nd rfl (by first | exact Or.inl rfl | exact Or.inr rfl) (pe_ifExp (pt_cmpR op_eq (pe_bm PySem.F.plainAttrs_list PySem.F.slot_list_count PySem.F.type_list_count mt_countF (pv 3) (pa_cons pe_bl pa_nil)) pe_int (nomark _)) (pe_ix ix_seq (pv 4) (pe_bm PySem.F.plainAttrs_list PySem.F.slot_list_index PySem.F.type_list_index mt_index (pv 3) (pa_cons pe_bl pa_nil)) (fun _ _ => rfl)) pe_str))
    (pss_one (ps_if (pt_cmpR op_eq (pv 1) pe_str (nomark _)) pss_never pss_nil)))))))
    · rw [if_neg hcd]
      exact pss_never
  · refine ⟨fun cls d H' => cls = .ref aN ∧ d = none ∧ ∀ v H2, Same H' H2 → Td X.K H2 v (.str "own") → Q v H2, fun cls d σ' H' ⟨e1, e2, hq⟩ => ?_, rfl, hc, ?_⟩
    · subst e1 e2
      refine ⟨true, kE, fun _ a ha hl => ?_, fun z => by cases z⟩
      rw [if_pos ⟨rfl, rfl⟩]
      rw [List.length_set] at hl
      match σ', hl with
      | [s0, s1, s2, s3, s4], _ =>
        refine p_suite k0 k1 k2 k3 k4 k5 k6 k7 k8 fun o3 o4 H1 e1 => ?_
        exact ⟨.str "own", rfl, hq _ H1 e1 (.str _)⟩
    · have e : (fun (_ : V) (H' : Hp) => tRet (tVar 1) { nx := fun _ H' => Q .non H', rt := Q } (([some (V.ref f), none, none, none, none] : L2.St).set 1 (some (V.str ""))) H') = fun (_ : V) (H' : Hp) => Q (.str "") H' := by
        funext v H'
        exact propext ⟨fun ⟨w, e1, e2⟩ => by cases e1; exact e2, fun h => ⟨_, rfl, h⟩⟩
      exact Eq.mpr (congrArg (tl _ H) e) h
end
section
variable {K : Frag} {mg : Str → Option Value} {aB aR aE aHouse aN PT : Addr} {qL : Str}
/-- all stays but the row and the tables -/
structure GT (r : Addr) (H H' : Hp) : Prop where
  keep : ∀ b o, b ≠ r → (∀ ps, o ≠ .tbl ps) → H b = some o → H' b = some o
  kt : KT H H'
theorem GT.refl (r : Addr) (H : Hp) : GT r H H := ⟨fun _ _ _ _ h => h, .refl H⟩
theorem GT.trans {r : Addr} {H H1 H2 : Hp} (a : GT r H H1) (b : GT r H1 H2) : GT r H H2 := ⟨fun x o n m h => b.keep x o n m (a.keep x o n m h), a.kt.trans b.kt⟩
theorem GT.gx {r : Addr} {H H1 : Hp} (g : Gx [r] H H1) : GT r H H1 := ⟨fun x o n _ h => g.keep x o (by simpa using n) h, g.kt⟩
theorem GT.of {r : Addr} {H H1 : Hp} (e : Same H H1) : GT r H H1 := .gx (.of e)
theorem GT.ext {r : Addr} {H H1 : Hp} (e : LamX.ExtN H H1) : GT r H H1 := ⟨fun x o _ m h => e x o h m, ⟨fun a xs h => e a _ h (by intro ps z; cases z), fun a o u h => e a _ h (by intro ps z; cases z)⟩⟩
theorem HouseAt.gt {R : Scr} {H H' : Hp} {x : Addr} {cs : List Kl} (h : HouseAt K aHouse H x cs) (r : RowAt K R H) (g : GT R.r H H') : HouseAt K aHouse H' x cs := by
  obtain ⟨dx, v, h1, h2, h3⟩ := h
  refine ⟨dx, v, g.keep x _ (fun z => ?_) (by intro ps z; cases z) h1, h2.kt g.kt, h3⟩
  obtain ⟨⟨i, s, t, hr, _⟩, _⟩ := r
  rw [z, hr] at h1
  cases h1
theorem RowAt.ext {R : Scr} {H H' : Hp} (r : RowAt K R H) (e : LamX.ExtN H H') : RowAt K R H' := by
  obtain ⟨⟨i, s, t, h1, h2⟩, h3⟩ := r
  refine ⟨⟨i, s, t, e _ _ h1 (by intro ps z; cases z), h2⟩, ?_⟩
  rcases h3 with ⟨n, h | ⟨o, h⟩⟩ | h
  · exact .inl ⟨n, .inl (e _ _ h (by intro ps z; cases z))⟩
  · exact .inl ⟨n, .inr ⟨o, e _ _ h (by intro ps z; cases z)⟩⟩
  · exact .inr h
theorem tabs_gx {R : Scr} {H H' : Hp} {T : List (Addr × Str)} (t : LamX.Tabs T H) (r : RowAt K R H) (g : Gx [R.r] H H') : LamX.Tabs T H' := fun p hp => by
  obtain ⟨⟨i, s, u, hr, _⟩, _⟩ := r
  obtain ⟨ps, h1, h2, h3⟩ := t p hp
  refine ⟨ps, g.keep _ _ (fun z => ?_) h1, h2, fun pos cv hc => ?_⟩
  · rw [List.mem_singleton.mp z, hr] at h1
    cases h1
  · obtain ⟨c, e1, e2⟩ := h3 pos cv hc
    refine ⟨c, e1, g.keep _ _ (fun z => ?_) e2⟩
    rw [List.mem_singleton.mp z, hr] at e2
    unfold LamX.CodeO at e2
    cases e2
section
variable {R : Scr} {σ : L2.St} {H : Hp} {ta tb tc te : TE} {d : PyData} {cs : List Kl} {n x : Str} {P : PyData → Prop} {ds : List PyData} {D : Ends} {tz tu : TS} {gt : TG}
theorem ev_alike (h1 : EvD K ta σ H d) (h2 : EvD K tb σ H d) (hl : shallow d = true) : EvD K (tCall (sp_law_alike K) [] C8.E0 (tCons ta (tCons tb tNil))) σ H (.bool true) := fun H1 e Q q =>
  h1 H1 e _ fun v H2 e2 t1 => h2 H2 (e.trans e2) _ fun w H3 e3 t2 => ⟨v, w, d, rfl, t1.ex e3, t2, hl, fun z H4 e4 t => q z H4 ((e2.trans e3).trans e4) t⟩
theorem ev_lnear (h1 : EvS K ta σ H (encs cs)) (h2 : EvD K tb σ H (.str n)) (h3 : EvD K tc σ H (.str x)) (a : cs.length ≤ 8) (m : ∀ u ∈ cs, u.meths.length ≤ 4) : EvD K (tCall (sp_law_near K) [] C8.E0 (tCons ta (tCons tb (tCons tc tNil)))) σ H (nearD x (row cs n)) := fun H1 e Q q =>
  h1 H1 e _ fun v H2 e2 t1 => h2 H2 (e.trans e2) _ fun w H3 e3 t2 => h3 H3 ((e.trans e2).trans e3) _ fun y H4 e4 t3 => by
    rw [t2.strI, t3.strI]
    exact ⟨v, cs, n, x, rfl, t1.ex (e3.trans e4), a, m, fun z H5 e5 t => q z H5 (((e2.trans e3).trans e4).trans e5) t⟩
theorem ev_lup (h1 : EvS K ta σ H (encs cs)) (h2 : EvD K tb σ H (.str n)) (a : cs.length ≤ 8) : EvN K (tCall (sp_law_up K) [] C8.E0 (tCons ta (tCons tb tNil))) σ H (((row cs n).map (·.name) ++ [topS]).map .str) := fun H1 e Q q =>
  h1 H1 e _ fun v H2 e2 t1 => h2 H2 (e.trans e2) _ fun w H3 e3 t2 => by
    rw [t2.strI]
    exact ⟨v, cs, n, rfl, t1.ex e3, a, fun p xs H' np e5 hp t => q p xs H' (e2.free (e3.free np)) ((e2.trans e3).trans e5) hp t⟩
theorem ev_reached {a : Addr} (h : EvH ta σ H a) (h2 : EvD K tb σ H (.str n)) (h3 : EvD K tc σ H (.str x)) (o : HouseAt K aHouse H a cs) (hn : n ∈ namesL cs) (w : IsWord x) (own : (line cs n x).take 1 = [n]) (ht : n ≠ topS) : EvD K (tCall (sp_reached_from K aHouse aN) [] C8.E0 (tCons ta (tCons tb (tCons tc tNil)))) σ H (.tuple ((reached cs n x).map .str)) := fun H1 e Q q =>
  h H1 e _ fun H2 e2 => h2 H2 (e.trans e2) _ fun z H3 e3 t2 => h3 H3 ((e.trans e2).trans e3) _ fun y H4 e4 t3 => by
    rw [t2.strI, t3.strI]
    exact ⟨a, cs, n, x, rfl, o.ex (((e.trans e2).trans e3).trans e4), hn, w, fun _ _ v H' e5 t => q v H' (((e2.trans e3).trans e4).trans e5) t, fun z => absurd ⟨own, ht⟩ z⟩
theorem s_forP (h : EvN K te σ H ds) (Pv : Addr → Hp → Nat → L2.St → Hp → Prop)
    (h0 : ∀ a xs H1, H a = none → Same H H1 → H1 a = some (.lst xs) → Tds K H1 xs ds → Pv a H1 0 σ H1)
    (hk : ∀ a H1 i σ' H' xs, H a = none → Same H H1 → H1 a = some (.lst xs) → Pv a H1 i σ' H' → H' a = some (.lst xs) ∧ KT H1 H')
    (hs : ∀ a xs H1 i v d σ' H' (N : L2.St → Hp → Prop), H a = none → Same H H1 → H1 a = some (.lst xs) → ds[i]? = some d → Td K H' v d → Pv a H1 i σ' H' → (∀ σ3 H3, Pv a H1 (i + 1) σ3 H3 → N σ3 H3) →
      gt v σ' H' fun σ2 H2 => tu { D with nx := N, ct := N, bk := D.nx } σ2 H2)
    (hd : ∀ a H1 σ' H', Pv a H1 ds.length σ' H' → D.nx σ' H') : tFor (iAny K te) gt tu D σ H :=
  h H (Same.refl H) _ fun a xs H1 na e1 hp ts => by
    refine ⟨a, rfl, .inl ⟨⟨xs, .of hp⟩, for_list (K := K) (a := a) (xs := xs) (fun i σ' H' => Pv a H1 i σ' H') (h0 a xs H1 na e1 hp ts) (fun i σ' H' _ p => .of (hk a H1 i σ' H' xs na e1 hp p).1) (fun i v σ' H' hx p => ?_) fun σ' H' p => hd a H1 σ' H' (by rw [← ts.len]; exact p)⟩⟩
    obtain ⟨d, hd', td⟩ := ts.at_ hx
    exact hs a xs H1 i v d σ' H' _ na e1 hp hd' (td.kt (hk a H1 i σ' H' xs na e1 hp p).2) p fun σ3 H3 p3 => p3
theorem q_forP (h : EvN K te σ H ds) (Pv : Addr → Hp → Nat → L2.St → Hp → Prop)
    (h0 : ∀ a xs H1, H a = none → Same H H1 → H1 a = some (.lst xs) → Tds K H1 xs ds → Pv a H1 0 σ H1)
    (hk : ∀ a H1 i σ' H' xs, H a = none → Same H H1 → H1 a = some (.lst xs) → Pv a H1 i σ' H' → H' a = some (.lst xs) ∧ KT H1 H')
    (hs : ∀ a xs H1 i v d σ' H' (N : L2.St → Hp → Prop), H a = none → Same H H1 → H1 a = some (.lst xs) → ds[i]? = some d → Td K H' v d → Pv a H1 i σ' H' → (∀ σ3 H3, Pv a H1 (i + 1) σ3 H3 → N σ3 H3) →
      gt v σ' H' fun σ2 H2 => tu { D with nx := N, ct := N, bk := tz D } σ2 H2)
    (hd : ∀ a H1 σ' H', Pv a H1 ds.length σ' H' → tz D σ' H') : tSeq (tFor (iAny K te) gt tu) tz D σ H := s_forP (D := { D with nx := tz D }) h Pv h0 hk hs hd
theorem ex_if {t : TT} (h : EvXT K R t σ H) (h1 : EvX K R ta σ H P) (h2 : EvX K R tb σ H P) : EvX K R (tIf t ta tb) σ H P := fun H1 g r Q k => h H1 g r _ fun b H2 g2 r2 => by
  cases b with
  | true => exact h1 H2 (g.trans g2) r2 Q fun a ds H3 g3 r3 l p => k a ds H3 (g2.trans g3) r3 l p
  | false => exact h2 H2 (g.trans g2) r2 Q fun a ds H3 g3 r3 l p => k a ds H3 (g2.trans g3) r3 l p
end
abbrev wordsL : List Str := ["ma", "ma", "mb", "mc", "md", "zz"]
theorem wordsL_ok : ∀ w ∈ wordsL, isWordB w = true := by decide +kernel
def strP (p : Str → Bool) : PyData → Bool
  | .str x => p x
  | _ => false
theorem p_law (T : Txt K mg aB aR aE aHouse) (vs : List V) (H : Hp) (Q : VK) (E : XK) (h : sp_law K PT qL vs H Q E) : t_law K aHouse aN PT qL { nx := fun _ H' => Q .non H', rt := Q } (start N_law vs) H := by
  obtain ⟨a, ns, rfl, hS, hTab, q⟩ := h
  refine ⟨_, rfl, sz100 (by simp), fun r hr => ?_⟩
  -- the row
  have e1 : Same H (upd H r (.lst [.ref a, .int 0, .int 2949, .int 0])) := Same.new hr
  have row1 : RowAt K ⟨r, a, ns⟩ (upd H r (.lst [.ref a, .int 0, .int 2949, .int 0])) := by
    refine ⟨⟨0, 2949, 0, upd_same, by omega⟩, ?_⟩
    rcases hS with (h | ⟨o, h⟩) | h
    · exact .inl ⟨(fun z => by have z : a = r := z; rw [z, hr] at h; cases h), .inl (e1 _ _ h)⟩
    · exact .inl ⟨(fun z => by have z : a = r := z; rw [z, hr] at h; cases h), .inr ⟨o, e1 _ _ h⟩⟩
    · exact .inr fun H' => .inr h
  have tab1 : LamX.Tabs [(PT, qL)] (upd H r (.lst [.ref a, .int 0, .int 2949, .int 0])) := hTab.ext e1
  generalize upd H r (.lst [.ref a, .int 0, .int 2949, .int 0]) = H1 at row1 tab1
  clear e1 hS hTab hr
  generalize hR : (⟨r, a, ns⟩ : Scr) = R at row1
  have eR : R.r = r := by rw [← hR]
  subst eR
  clear hR
  try dsimp only [L2.start, List.set]
  refine q_setX (K := K) (R := R) (P := fun d => ∃ cs, d = .tuple (encs cs) ∧ Good cs) (ex_if (ext_test (EvX.mono (ex_I0 (g := fun i j => .bool (decide (j < i))) (A := fun _ => True) (B := fun _ => True) ((ex_takenC (m := 3) rfl (fun _ _ _ => ed_int) (by omega) (by omega)).mono fun d ⟨k, e, _⟩ => ⟨k, e, trivial⟩) (ex_int.mono fun d e => ⟨_, e, trivial⟩) fun _ _ _ => .bl _) fun d ⟨i, j, e, _⟩ => ⟨_, e⟩))
    (fun H2 g2 r2 Q k => ⟨_, rfl, R, rfl, r2, k⟩) (fun H2 g2 r2 Q k => ⟨_, rfl, R, rfl, r2, k⟩)) row1 fun v2 d2 H2 g2 r2 t2 ⟨cs, ed, gd⟩ => ?_
  subst ed
  have tab2 := tabs_gx tab1 row1 g2
  clear tab1 row1 g2
  have h8 := gd.most
  have hm4 := gd.mmost
  try dsimp only [L2.start, List.set]
  -- the house
  refine ⟨_, rfl, fun x dx hx hdx hne => ?_⟩
  have hx1 : upd H2 dx (.own x) x = none := by
    rw [upd_ne (fun z => hne z.symm)]
    exact hx
  have e3 : Same H2 (upd (upd H2 dx (.own x)) x (.ins aHouse dx [])) := (Same.new hdx).trans (Same.new hx1)
  refine ⟨x, dx, v2, cs, rfl, upd_same, t2.ex e3, gd, fun H3 hk hx3 => ⟨rfl, ?_⟩⟩
  have e23 : Same H2 H3 := fun b o hb => hk b o (ne_of_none hb hx) (e3 b o hb)
  have ho3 : HouseAt K aHouse H3 x cs := ⟨dx, v2, hx3, t2.ex e23, gd⟩
  have r3 := r2.ex e23
  have tab3 := tab2.ext e23
  have t3 := t2.ex e23
  clear tab2 r2 t2 e3 hx1 hk hx3 hx hdx hne e23
  try dsimp only [L2.start, List.set]
  refine q_forP (K := K) (ds := (namesL cs).map .str) (EvN.is (en_catM (ds := [.str "top"]) (es := (cs.map Kl.name).map .str) (EvN.m (en_lst (ea_cons ed_str ea_nil))) (EvN.m (EvN.is (en_lcM hd0 (ds := encs cs) (EvD.s (ed_var rfl t3)) (by rw [List.length_map]; omega) (fun _ => rfl) fun y d H5 e5 hd t => ?_) (by rw [List.map_map, List.map_map]; rfl))) (by simp; omega)) rfl)
    (fun al H4 i σ' H' => ∃ (o4 o5 o6 o7 o8 o9 : Option V), σ' = [some (.ref a), some (.ref R.r), some v2, some (.ref x), o4, o5, o6, o7, o8, o9, none, none, none] ∧ GT R.r H4 H' ∧ RowAt K R H' ∧ LamX.Tabs [(PT, qL)] H' ∧ HouseAt K aHouse H' x cs ∧ Td K H' v2 (.tuple (encs cs))) ?_ ?_ ?_ ?_
  · obtain ⟨u, hu, rfl⟩ := List.mem_map.mp hd
    exact ed_ixT (d := .str u.name) (ed_var (d := enc u) rfl t) ed_int rfl
  · intro al xs H4 nal e4 hal tal
    exact ⟨none, none, none, none, none, none, rfl, GT.refl _ _, r3.ex e4, tab3.ext e4, ho3.ex e4, t3.ex e4⟩
  · rintro al H4 i σ' H' xs nal e4 hal ⟨o4, o5, o6, o7, o8, o9, rfl, g, _⟩
    exact ⟨g.keep _ _ (fun z => r3.ne nal z.symm) (by intro ps z; cases z) hal, g.kt⟩
  · rintro al xs H4 i vn d σ' H' N nal e4 hal hdn tdn ⟨o4, o5, o6, o7, o8, o9, rfl, g, r, tab, ho, tc⟩ hN
    obtain ⟨n, hn, rfl⟩ := map_getE hdn
    have hnm : n ∈ namesL cs := List.mem_of_getElem? hn
    have := tdn.strI
    subst this
    clear hdn tdn
    try dsimp only [gName, List.set]
    -- the word
    refine q_setX (K := K) (R := R) (P := fun d => ∃ w ∈ wordsL, d = .str w) (ex_pick rfl (EvXN.l (exn_pure (ds := wordsL.map .str) fun _ _ _ => en_lst (ea_cons ed_str (ea_cons ed_str (ea_cons ed_str (ea_cons ed_str (ea_cons ed_str (ea_cons ed_str ea_nil)))))) (by decide))) fun ds e => by
        subst e
        exact ⟨by simp, by simp, fun d hd => by obtain ⟨w, hw, e⟩ := List.mem_map.mp hd; exact ⟨w, hw, e.symm⟩⟩) r fun v5 d5 H5 g5 r5 t5 ⟨w, hw, ed⟩ => ?_
    subst ed
    have := t5.strI
    subst this
    have hword : IsWord w := isWord_of (wordsL_ok w hw)
    have tab5 := tabs_gx tab r g5
    have ho5 := ho.gt r (.gx g5)
    have tc5 := tc.gx g5
    have g45 := g.trans (.gx g5)
    clear g g5 r tab ho tc t5 hw
    try dsimp only [List.set]
    -- the line
    refine q_setN (K := K) (ds := (line cs n w).map .str) (EvN.is (en_lc (hasD w) hd0 (EvN.s (ev_lrow (cs := cs) (n := n) (EvD.s (ed_var rfl tc5)) (ed_var rfl (.str _)) h8)) (by have := row_lenE cs n h8; omega) (fun _ => rfl) (fun y d H1 e hd t => ?_) (fun y d H1 e hd _ t => ?_)) ?_) fun a6 xs6 H6 n6 e6 hp6 t6 => ?_
    · obtain ⟨u, hu, rfl⟩ := List.mem_map.mp hd
      have hm := hm4 u (row_mem hu)
      rw [hasD_enc]
      refine et_test (ed_in (K := K) (x := w) (xs := mnames u) (ed_var rfl (.str _)) (EvN.s (EvN.is (en_lcM hd0 (EvD.s (ds := u.meths.map encM) (ed_ixT (ed_var (d := enc u) rfl t) ed_int rfl)) (by rw [List.length_map]; omega) (fun _ => rfl) fun z d H2 e2 hd t2 => ?_) ?_)))
      · obtain ⟨m, hm, rfl⟩ := List.mem_map.mp hd
        exact ed_ixT (ed_var (d := encM m) rfl t2) ed_int (at0 _ _)
      · show (u.meths.map encM).map hd0 = (u.meths.map (·.word)).map PyData.str
        rw [List.map_map, List.map_map]
        rfl
    · obtain ⟨u, hu, rfl⟩ := List.mem_map.mp hd
      exact ed_ixT (d := .str u.name) (ed_var (d := enc u) rfl t) ed_int rfl
    · show (((row cs n).map enc).filter (hasD w)).map hd0 = (((row cs n).filter (hasW w)).map (·.name)).map .str
      rw [filt_map, List.map_map]
      have e : (fun y => hasD w (enc y)) = hasW w := funext fun y => hasD_enc w y
      rw [e]
      rfl
    have ho6 := ho5.ex e6
    have tc6 := tc5.ex e6
    have ln6 : Ls K H6 a6 ((line cs n w).map .str) := .of hp6 t6
    try dsimp only [List.set]
    -- method_line
    refine q_no (et_nt (et_B (K := K) (ev_alike (d := .tuple ((line cs n w).map .str)) (ev_method_line (eh_var rfl) (ed_var rfl (.str _)) (ed_var rfl (.str _)) ho6 hnm hword) (ed_tupOf (el_var rfl ln6)) (strs_shallow (by have := line_len h8 n w; omega))))) fun H7 e7 => ?_
    have ho7 := ho6.ex e7
    have tc7 := tc6.ex e7
    -- above
    refine q_setD (K := K) (d := nearD w (row cs n).tail) (ed_if (b := decide (n = topS)) (et_test (K := K) (ed_eqS (x := n) (y := topS) (ed_var rfl (.str _)) ed_str)) (fun hb => ?_) fun hb => ?_) fun v7 H8 e8 t7 => ?_
    · have hb : n = topS := of_decide_eq_true hb
      rw [hb, good_top gd]
      exact ed_non
    · have hb : ¬ n = topS := of_decide_eq_false hb
      obtain ⟨c, h1, h2, h3, _, h5⟩ := good_up gd hnm hb
      have e : (row cs n).tail = row cs c.upper := by rw [h1]; rfl
      rw [e]
      exact ev_lnear (EvD.s (ed_var rfl tc7)) (ed_ixL (EvN.l (ev_lup (n := n) (EvD.s (ed_var rfl tc7)) (ed_var rfl (.str _)) h8)) ed_int (atI_nat (j := 1) h5)) (ed_var rfl (.str _)) h8 hm4
    have ho8 := ho7.ex e8
    have tc8 := tc7.ex e8
    try dsimp only [List.set]
    -- upper_method
    refine q_no (et_nt (et_B (K := K) (ev_alike (d := nearD w (row cs n).tail) (ev_upper_method (eh_var rfl) (ed_var rfl (.str _)) (ed_var rfl (.str _)) ho8 hnm hword) (ed_var rfl t7) near_shallow))) fun H9 e9 => ?_
    have e69 := (e7.trans e8).trans e9
    have ho9 := ho8.ex e9
    have tc9 := tc8.ex e9
    have ln9 := ln6.ex e69
    have wn := name_word gd hnm
    -- own
    refine q_setD (K := K) (d := .bool (decide ((line cs n w).take 1 = [n]))) (EvD.is (ed_eqL (K := K) (ds := ((line cs n w).take 1).map .str) (es := [n].map .str) (EvN.l (EvN.is (en_sl (el_var rfl ln9) eo_none (eo_some (K := K) ed_int)) (cut1_strs _))) (EvN.l (en_lst (ea_cons (ed_var rfl (.str _)) ea_nil) (by simp))) ((shL_words fun z hz => line_word gd z (List.mem_of_mem_take hz)).shaped (by decide)) ((shL_words fun z hz => by rw [List.mem_singleton.mp hz]; exact wn).shaped (by decide))) (by rw [eqvL_strs])) fun v8 Ha ea t8 => ?_
    have := t8.blI
    subst this
    have hoa := ho9.ex ea
    have tca := tc9.ex ea
    have lna := ln9.ex ea
    have e5a := e6.trans (e69.trans ea)
    have ra := r5.ex e5a
    have taba := tab5.ext e5a
    have g4a := g45.trans (.of e5a)
    clear ho5 ho6 ho7 ho8 ho9 tc5 tc6 tc7 tc8 tc9 ln6 ln9 r5 tab5 g45 e5a e69
    try dsimp only [List.set]
    by_cases hown : (line cs n w).take 1 = [n]
    · obtain ⟨ht, c, h1, h3, h4, h5⟩ := own_line gd hnm hown
      rw [decide_eq_true hown]
      refine q_yes (et_B (K := K) (ed_var rfl (.bl true))) fun Hb eb => ?_
      have hob := hoa.ex eb
      have tcb := tca.ex eb
      refine q_setN (K := K) (ds := ((cs.filter fun c => (nearN cs w c.name).isSome).map (·.name)).map .str) (EvN.is (en_lc (fun d => strP (fun y => (nearN cs w y).isSome) (hd0 d)) hd0 (EvD.s (ds := encs cs) (ed_var rfl tcb)) (by rw [List.length_map]; omega) (fun _ => rfl) (fun y d H1 e hd t => ?_) (fun y d H1 e hd _ t => ?_)) ?_) fun a9 xs9 Hc n9 ec hp9 t9 => ?_
      · obtain ⟨u, hu, rfl⟩ := List.mem_map.mp hd
        refine et_test (EvD.is (ed_notN (K := K) (d := nearD w (row cs u.name)) (ev_lnear (EvD.s (ed_var rfl (tcb.ex e))) (ed_ixT (ed_var (d := enc u) rfl t) ed_int rfl) (ed_var rfl (.str _)) h8 hm4)) ?_)
        rw [near_none]
        show PyData.bool (!(nearN cs w u.name).isNone) = .bool (nearN cs w u.name).isSome
        cases nearN cs w u.name <;> rfl
      · obtain ⟨u, hu, rfl⟩ := List.mem_map.mp hd
        exact ed_ixT (d := .str u.name) (ed_var (d := enc u) rfl t) ed_int rfl
      · show ((cs.map enc).filter (fun d => strP (fun y => (nearN cs w y).isSome) (hd0 d))).map hd0 = _
        rw [filt_map, List.map_map]
        rfl
      have tcc := tcb.ex ec
      try dsimp only [List.set]
      refine q_setN (K := K) (ds := (reached cs n w).map .str) (EvN.is (en_lc (strP fun y => decide (nearN cs w y = some n)) (fun d => d) (EvL.s (el_var rfl (.of hp9 t9))) (by rw [List.length_map, List.length_map]; have := List.length_filter_le (fun c : Kl => (nearN cs w c.name).isSome) cs; omega) (fun _ => rfl) (fun y d H1 e hd t => ?_) (fun y d H1 e hd _ t => ed_var rfl t)) ?_) fun a10 xs10 Hd n10 ed hp10 t10 => ?_
      · obtain ⟨y', hy, rfl⟩ := List.mem_map.mp hd
        obtain ⟨u, hu, rfl⟩ := List.mem_map.mp hy
        have := t.strI
        subst this
        have hsome := (List.mem_filter.mp hu).2
        have hne : ∃ c', nearD w (row cs u.name) = pairD w c' ∧ nearN cs w u.name = some c'.name := by
          unfold nearN at hsome ⊢
          unfold nearD
          cases hf : (row cs u.name).find? (hasW w) with
          | none => rw [hf] at hsome; cases hsome
          | some c' => exact ⟨c', rfl, rfl⟩
        obtain ⟨c', e1, e2⟩ := hne
        refine et_test (EvD.is (ed_eqS (K := K) (x := c'.name) (y := n) (ed_ixT (ds := [.str c'.name, .int ((plc w (mnames c') : Nat) : Int)]) (EvD.is (ev_lnear (EvD.s (ed_var rfl (tcc.ex e))) (ed_var rfl (.str _)) (ed_var rfl (.str _)) h8 hm4) e1) ed_int rfl) (ed_var rfl (.str _))) ?_)
        show PyData.bool (decide (c'.name = n)) = .bool (decide (nearN cs w u.name = some n))
        rw [e2]
        simp
      · rw [List.map_id']
        have e : ((((cs.filter fun c => (nearN cs w c.name).isSome).map (·.name)).map PyData.str).filter (strP fun y => decide (nearN cs w y = some n))) = ((((cs.filter fun c => (nearN cs w c.name).isSome).map (·.name)).filter (fun y => decide (nearN cs w y = some n))).map PyData.str) := by
          rw [List.filter_map]
          rfl
        rw [e, reach_eq]
      have hod := hob.ex (ec.trans ed)
      have tcd := tcc.ex ed
      try dsimp only [List.set]
      refine s_no0 (et_nt (et_B (K := K) (ev_alike (d := .tuple ((reached cs n w).map .str)) (ev_reached (eh_var rfl) (ed_var rfl (.str _)) (ed_var rfl (.str _)) hod hnm hword hown ht) (ed_tupOf (el_var rfl (.of hp10 t10))) (strs_shallow (by have := reached_len h8 n w; omega))))) fun He ee => ?_
      have eae := ((eb.trans ec).trans ed).trans ee
      have hoe := hoa.ex eae
      have tce := tca.ex eae
      have lne := lna.ex eae
      refine s_no0 (et_and2 (et_B (K := K) (ed_var rfl (.bl true))) (et_test (K := K) (EvD.is (ed_neL (K := K) (ds := (line cs n w).tail.map .str) (es := (line cs c.upper w).map .str) (EvN.l (EvN.is (en_sl (el_var rfl lne) (eo_some (K := K) ed_int) eo_none) (by rw [cut_tail, List.map_tail]))) (EvN.l (en_lstOf (EvD.s (ev_method_line (n := c.upper) (eh_var rfl) (ed_ixL (EvN.l (ev_lup (n := n) (EvD.s (ed_var rfl tce)) (ed_var rfl (.str _)) h8)) ed_int (atI_nat (j := 1) h5)) (ed_var rfl (.str _)) hoe h3 hword)))) ((shL_words fun z hz => line_word gd z (List.mem_of_mem_tail hz)).shaped (by decide)) ((shL_words fun z hz => line_word gd z hz).shaped (by decide))) (by rw [eqvL_strs, h4, decide_eq_true rfl]; rfl)))) fun Hf ef => ?_
      have eaf := eae.trans ef
      exact hN _ _ ⟨_, _, _, _, _, _, rfl, g4a.trans (.of eaf), ra.ex eaf, taba.ext eaf, hoa.ex eaf, tca.ex eaf⟩
    · rw [decide_eq_false hown]
      refine s_no (et_B (K := K) (ed_var rfl (.bl false))) fun Hb eb => ?_
      have hob := hoa.ex eb
      have rb := ra.ex eb
      have tabb := taba.ext eb
      refine ⟨tabb, fun Hc ex tabc => ?_⟩
      have hoc := hob.gt rb (.ext ex)
      have rc := rb.ext ex
      refine ⟨_, rfl, _, rfl, _, rfl, x, cs, n, w, rfl, hoc, hnm, hword, fun z => absurd z hown, fun _ Hd ed => ⟨rfl, rfl, fun v He ee tv => ?_⟩⟩
      have := tv.strI
      subst this
      refine ⟨rfl, ?_⟩
      have ece := ed.trans ee
      have rce := rc.ex ece
      have tabe := tabc.ext ece
      have hoe := hoc.ex ece
      have g4e : GT R.r H4 He := g4a.trans ((GT.of eb).trans ((GT.ext ex).trans (.of ece)))
      have tce : Td K He v2 (.tuple (encs cs)) := tca.kt ((KT.of eb).trans ((GT.ext (r := R.r) ex).kt.trans (KT.of ece)))
      refine ⟨false, rfl, ?_⟩
      try dsimp only
      refine s_no0 (et_andF (et_B (K := K) (ed_var rfl (.bl false)))) fun Hf ef => ?_
      exact hN _ _ ⟨_, _, _, _, _, _, rfl, g4e.trans (.of ef), rce.ex ef, tabe.ext ef, hoe.ex ef, tce.ex ef⟩
  · rintro al H4 σ' H' ⟨o4, o5, o6, o7, o8, o9, rfl, _⟩
    exact s_ret (K := K) (d := .bool true) ed_bl fun w H6 e6 t => by
      rw [t.blI]
      exact q H6
end
section
variable {P : Program} {w : World} {K : Frag} {mg : Str → Option Value} {base : Heap} {aB aR aE aHouse : Addr}
theorem d_law_taken (T : Txt K mg aB aR aE aHouse) {f : Addr} {cdv : Value} {A : Around} {outer : List Env} {s : Shared} {H : Hp} {E : XK} (hr : Room 0 (A.deeper (envOfC "_law_taken" (C8.fnScope s_law_taken) s.heap.objs.size f cdv))) :
    PSs (cxOf C8.CX0 P w K mg base N_law_taken "_law_taken" (C8.fnScope s_law_taken) f cdv A outer s H E).nox (C8.fnBody s_law_taken) (t_law_taken K) :=
  (pss_cons (ps_if (pt_cmpR op_gt (pe_ix ix_seq (pv 0) pe_int (fun _ _ => rfl)) pe_int (nomark _)) (pss_cons (ps_set (i := 3) sc_law_taken.nd rfl (by first | exact Or.inl rfl | exact Or.inr rfl) (pe_op op_mod (pe_callTy call_int1 (by rfl) T.z_int (by decide +kernel) (pa_cons (pe_ix ix_seq (pv 0) pe_int (fun _ _ => rfl)) pa_nil)) (pv 1)))
    (pss_cons (ps_asg (pe_op op_fdiv (pe_ix ix_seq (pv 0) pe_int (fun _ _ => rfl)) (pv 1)) (pg_sub (pv 0) pe_int set_list))
    (pss_one (ps_ret (pv 3))))) pss_nil)
    (pss_cons (ps_asg (pe_op op_add (pe_ix ix_seq (pv 0) pe_int (fun _ _ => rfl)) pe_int) (pg_sub (pv 0) pe_int set_list))
    (pss_cons (ps_if (pt_cmpR op_gt (pe_ix ix_seq (pv 0) pe_int (fun _ _ => rfl)) (pe_callB call_len (by rfl) T.z_len boot_len (pa_cons (pe_ix ix_seq (pv 0) pe_int (fun _ _ => rfl)) pa_nil)) (nomark _)) (pss_cons (ps_asg (pe_op op_mod (pe_callTy call_int1 (by rfl) T.z_int (by decide +kernel) (pa_cons (pe_op op_add (pe_op op_mul (pe_ix ix_seq (pv 0) pe_int (fun _ _ => rfl)) pe_int) pe_int) pa_nil)) pe_int) (pg_sub (pv 0) pe_int set_list))
    (pss_one (ps_ret (pe_op op_mod (pe_callTy call_int1 (by rfl) T.z_int (by decide +kernel) (pa_cons (pe_op op_fdiv (pe_ix ix_seq (pv 0) pe_int (fun _ _ => rfl)) pe_int) pa_nil)) (pv 1))))) pss_nil)
    (pss_cons (ps_set (i := 2) sc_law_taken.nd rfl (by first | exact Or.inl rfl | exact Or.inr rfl) (pe_ix ix_seq (pe_ix ix_seq (pv 0) pe_int (fun _ _ => rfl)) (pe_op op_sub (pe_ix ix_seq (pv 0) pe_int (fun _ _ => rfl)) pe_int) (fun _ _ => rfl)))
    (pss_cons (ps_asg (pe_op op_mod (pe_callTy call_int1 (by rfl) T.z_int (by decide +kernel) (pa_cons (pe_op op_add (pe_op op_add (pe_op op_mul (pe_ix ix_seq (pv 0) pe_int (fun _ _ => rfl)) pe_int) (pv 2)) pe_int) pa_nil)) pe_int) (pg_sub (pv 0) pe_int set_list))
    (pss_cons (ps_if (pt_cmpR op_ge (pv 2) (pe_op op_pow pe_int pe_int) (nomark _)) (pss_one (ps_asg (pe_op op_fdiv (pv 2) (pv 1)) (pg_sub (pv 0) pe_int set_list))) pss_nil)
    (pss_one (ps_ret (pe_op op_mod (pe_callTy call_int1 (by rfl) T.z_int (by decide +kernel) (pa_cons (pv 2) pa_nil)) (pv 1))))))))))
theorem ok_law_taken (D : DefB K mg "_law_taken" s_law_taken P_law_taken) (T : Txt K mg aB aR aE aHouse) : C8.Cal P w K mg base 1 "_law_taken" (sp_law_taken K) [] :=
  cal_of D sc_law_taken (fun vs H Q E h => by obtain ⟨_, _, rfl, _⟩ := h; rfl) (fun f cdv A outer s H vs Q E hr h => ⟨(t_law_taken K), d_law_taken T hr, p_law_taken T vs H Q E h⟩)
end
section
variable {P : Program} {w : World} {K : Frag} {mg : Str → Option Value} {base : Heap} {aB aR aE aHouse : Addr}
theorem d_law_pick (T : Txt K mg aB aR aE aHouse) (c_law_taken : C8.Cal P w K mg base 1 "_law_taken" (sp_law_taken K) []) {f : Addr} {cdv : Value} {A : Around} {outer : List Env} {s : Shared} {H : Hp} {E : XK} (hr : Room 1 (A.deeper (envOfC "_law_pick" (C8.fnScope s_law_pick) s.heap.objs.size f cdv))) :
    PSs (cxOf C8.CX0 P w K mg base N_law_pick "_law_pick" (C8.fnScope s_law_pick) f cdv A outer s H E).nox (C8.fnBody s_law_pick) (t_law_pick K) :=
  (pss_one (ps_ret (pe_ix ix_seq (pv 1) (C8.pe_c c_law_taken hr (by decide) rfl (pa_cons (pv 0) (pa_cons (pe_callB call_len (by rfl) T.z_len boot_len (pa_cons (pv 1) pa_nil)) pa_nil))) (fun _ _ => rfl))))
theorem ok_law_pick (D : DefB K mg "_law_pick" s_law_pick P_law_pick) (T : Txt K mg aB aR aE aHouse) (c_law_taken : C8.Cal P w K mg base 1 "_law_taken" (sp_law_taken K) []) : C8.Cal P w K mg base 2 "_law_pick" (sp_law_pick K) [] :=
  cal_of D sc_law_pick (fun vs H Q E h => by obtain ⟨_, _, _, rfl, _⟩ := h; rfl) (fun f cdv A outer s H vs Q E hr h => ⟨(t_law_pick K), d_law_pick T c_law_taken hr, p_law_pick T vs H Q E h⟩)
end
section
variable {P : Program} {w : World} {K : Frag} {mg : Str → Option Value} {base : Heap} {aB aR aE aHouse : Addr}
theorem d_law_alike0 (T : Txt K mg aB aR aE aHouse) {f : Addr} {cdv : Value} {A : Around} {outer : List Env} {s : Shared} {H : Hp} {E : XK} (hr : Room 0 (A.deeper (envOfC "_law_alike" (C8.fnScope s_law_alike) s.heap.objs.size f cdv))) :
    PSs (cxOf C8.CX0 P w K mg base N_law_alike "_law_alike" (C8.fnScope s_law_alike) f cdv A outer s H E).nox (C8.fnBody s_law_alike) (t_law_alike0 K) :=
  (pss_cons (ps_if (pt_val (pe_callB call_isiT (by rfl) T.z_isinstance (by decide +kernel) (pa_cons (pv 1) (pa_cons (pe_tup (pa_cons (pe_bltn (by rfl) T.z_tuple (by decide +kernel) rfl) (pa_cons (pe_bltn (by rfl) T.z_list (by decide +kernel) rfl) pa_nil))) pa_nil)))) pss_never pss_nil) (pss_cons (ps_if (PW.pt (pw_or (pt_cmpR op_isN1 (pv 1) pe_non (nomark _)) (pw_or1 (pt_val (pe_callB call_isi (by rfl) T.z_isinstance (by decide +kernel) (pa_cons (pv 1) (pa_cons (pe_bltn (by rfl) T.z_str (by decide +kernel) rfl) pa_nil))))))) (pss_one (ps_ret (pe_and (pe_cmpR op_eq (pv 0) (pv 1) (nomark _)) (pe_one (pe_cmpR op_eq (pe_callB call_isi (by rfl) T.z_isinstance (by decide +kernel) (pa_cons (pv 0) (pa_cons (pe_bltn (by rfl) T.z_str (by decide +kernel) rfl) pa_nil))) (pe_callB call_isi (by rfl) T.z_isinstance (by decide +kernel) (pa_cons (pv 1) (pa_cons (pe_bltn (by rfl) T.z_str (by decide +kernel) rfl) pa_nil))) (nomark _)))))) pss_nil)
    (pss_one (ps_ret (pe_and (pe_callB call_isi (by rfl) T.z_isinstance (by decide +kernel) (pa_cons (pv 0) (pa_cons (pe_bltn (by rfl) T.z_int (by decide +kernel) rfl) pa_nil))) (pe_and (pe_cmpR op_eq (pe_callB call_isi (by rfl) T.z_isinstance (by decide +kernel) (pa_cons (pv 0) (pa_cons (pe_bltn (by rfl) T.z_bool (by decide +kernel) rfl) pa_nil))) (pe_callB call_isi (by rfl) T.z_isinstance (by decide +kernel) (pa_cons (pv 1) (pa_cons (pe_bltn (by rfl) T.z_bool (by decide +kernel) rfl) pa_nil))) (nomark _)) (pe_one (pe_cmpR op_eq (pv 0) (pv 1) (nomark _)))))))))
theorem ok_law_alike0 (D : DefB K mg "_law_alike" s_law_alike P_law_alike) (T : Txt K mg aB aR aE aHouse) : C8.Cal P w K mg base 1 "_law_alike" (sp_law_alike0 K) [] :=
  cal_of D sc_law_alike (fun vs H Q E h => by obtain ⟨_, _, _, rfl, _⟩ := h; rfl) (fun f cdv A outer s H vs Q E hr h => ⟨(t_law_alike0 K), d_law_alike0 T hr, p_law_alike0 T vs H Q E h⟩)
end
section
variable {P : Program} {w : World} {K : Frag} {mg : Str → Option Value} {base : Heap} {aB aR aE aHouse : Addr}
theorem d_law_alike (T : Txt K mg aB aR aE aHouse) (c_law_alike : C8.Cal P w K mg base 1 "_law_alike" (sp_law_alike0 K) []) {f : Addr} {cdv : Value} {A : Around} {outer : List Env} {s : Shared} {H : Hp} {E : XK} (hr : Room 1 (A.deeper (envOfC "_law_alike" (C8.fnScope s_law_alike) s.heap.objs.size f cdv))) :
    PSs (cxOf C8.CX0 P w K mg base N_law_alike "_law_alike" (C8.fnScope s_law_alike) f cdv A outer s H E).nox (C8.fnBody s_law_alike) (t_law_alike K) :=
  (pss_cons (ps_if (pt_val (pe_callB call_isiT (by rfl) T.z_isinstance (by decide +kernel) (pa_cons (pv 1) (pa_cons (pe_tup (pa_cons (pe_bltn (by rfl) T.z_tuple (by decide +kernel) rfl) (pa_cons (pe_bltn (by rfl) T.z_list (by decide +kernel) rfl) pa_nil))) pa_nil)))) (pss_cons (ps_if (PW.pt (pw_or (pt_not (pt_val (pe_callB call_isiT (by rfl) T.z_isinstance (by decide +kernel) (pa_cons (pv 0) (pa_cons (pe_tup (pa_cons (pe_bltn (by rfl) T.z_tuple (by decide +kernel) rfl) (pa_cons (pe_bltn (by rfl) T.z_list (by decide +kernel) rfl) pa_nil))) pa_nil))))) (pw_or1 (pt_cmpR op_ne (pe_callB call_isi (by rfl) T.z_isinstance (by decide +kernel) (pa_cons (pv 0) (pa_cons (pe_bltn (by rfl) T.z_list (by decide +kernel) rfl) pa_nil))) (pe_callB call_isi (by rfl) T.z_isinstance (by decide +kernel) (pa_cons (pv 1) (pa_cons (pe_bltn (by rfl) T.z_list (by decide +kernel) rfl) pa_nil))) (nomark _))))) (pss_one (ps_ret pe_bl)) pss_nil)
    (pss_cons (ps_if (pt_cmpR op_ne (pe_callB call_len (by rfl) T.z_len boot_len (pa_cons (pv 0) pa_nil)) (pe_callB call_len (by rfl) T.z_len boot_len (pa_cons (pv 1) pa_nil)) (nomark _)) (pss_one (ps_ret pe_bl)) pss_nil)
    (pss_one (ps_ret (pe_cmpR (op_eqD (hu64 hr)) (pe_lc (own := [("_law_k", 2)]) rfl sc_law_alike.nd (pi_range1 rfl T.z_range (pa_cons (pe_callB call_len (by rfl) T.z_len boot_len (pa_cons (pv 1) pa_nil)) pa_nil)) (blkOk_by (own := [("_law_k", 2)]) (N := N_law_alike) (sc := (C8.fnScope s_law_alike)) (by decide +kernel)) (fun _ _ _ _ _ => (pg_name (i := 2) sc_law_alike.nd rfl (by first | exact Or.inl rfl | exact Or.inr rfl))) (fun _ _ _ _ _ => (pts_one (pt_not (pt_val (C8.pe_c c_law_alike hr (by decide) rfl (pa_cons (pe_ix ix_seq (pv 0) (pv 2) (fun _ _ => rfl)) (pa_cons (pe_ix ix_seq (pv 1) (pv 2) (fun _ _ => rfl)) pa_nil))))))) (fun _ _ _ _ _ => (pv 2))) (pe_lst pa_nil) (nomark _)))))) pss_nil)
    (pss_cons (ps_if (PW.pt (pw_or (pt_cmpR op_isN1 (pv 1) pe_non (nomark _)) (pw_or1 (pt_val (pe_callB call_isi (by rfl) T.z_isinstance (by decide +kernel) (pa_cons (pv 1) (pa_cons (pe_bltn (by rfl) T.z_str (by decide +kernel) rfl) pa_nil))))))) (pss_one (ps_ret (pe_and (pe_cmpR op_eq (pv 0) (pv 1) (nomark _)) (pe_one (pe_cmpR op_eq (pe_callB call_isi (by rfl) T.z_isinstance (by decide +kernel) (pa_cons (pv 0) (pa_cons (pe_bltn (by rfl) T.z_str (by decide +kernel) rfl) pa_nil))) (pe_callB call_isi (by rfl) T.z_isinstance (by decide +kernel) (pa_cons (pv 1) (pa_cons (pe_bltn (by rfl) T.z_str (by decide +kernel) rfl) pa_nil))) (nomark _)))))) pss_nil)
    (pss_one (ps_ret (pe_and (pe_callB call_isi (by rfl) T.z_isinstance (by decide +kernel) (pa_cons (pv 0) (pa_cons (pe_bltn (by rfl) T.z_int (by decide +kernel) rfl) pa_nil))) (pe_and (pe_cmpR op_eq (pe_callB call_isi (by rfl) T.z_isinstance (by decide +kernel) (pa_cons (pv 0) (pa_cons (pe_bltn (by rfl) T.z_bool (by decide +kernel) rfl) pa_nil))) (pe_callB call_isi (by rfl) T.z_isinstance (by decide +kernel) (pa_cons (pv 1) (pa_cons (pe_bltn (by rfl) T.z_bool (by decide +kernel) rfl) pa_nil))) (nomark _)) (pe_one (pe_cmpR op_eq (pv 0) (pv 1) (nomark _)))))))))
theorem ok_law_alike (D : DefB K mg "_law_alike" s_law_alike P_law_alike) (T : Txt K mg aB aR aE aHouse) (c_law_alike : C8.Cal P w K mg base 1 "_law_alike" (sp_law_alike0 K) []) : C8.Cal P w K mg base 2 "_law_alike" (sp_law_alike K) [] :=
  cal_of D sc_law_alike (fun vs H Q E h => by obtain ⟨_, _, _, rfl, _⟩ := h; rfl) (fun f cdv A outer s H vs Q E hr h => ⟨(t_law_alike K), d_law_alike T c_law_alike hr, p_law_alike T vs H Q E h⟩)
end
section
variable {P : Program} {w : World} {K : Frag} {mg : Str → Option Value} {base : Heap} {aB aR aE aHouse : Addr}
theorem d_law_row_of (T : Txt K mg aB aR aE aHouse) {f : Addr} {cdv : Value} {A : Around} {outer : List Env} {s : Shared} {H : Hp} {E : XK} (hr : Room 0 (A.deeper (envOfC "_law_row_of" (C8.fnScope s_law_row_of) s.heap.objs.size f cdv))) :
    PSs (cxOf C8.CX0 P w K mg base N_law_row_of "_law_row_of" (C8.fnScope s_law_row_of) f cdv A outer s H E).nox (C8.fnBody s_law_row_of) (t_law_row_of K) :=
  (pss_cons (ps_set (i := 2) sc_law_row_of.nd rfl (by first | exact Or.inl rfl | exact Or.inr rfl) (pe_lst pa_nil))
    (pss_cons (ps_for PassesOwn.never rfl (pi_any (pe_revA (pv 0))) (pg_name (i := 3) sc_law_row_of.nd rfl (by first | exact Or.inl rfl | exact Or.inr rfl)) (pss_one (ps_if (pt_cmpR op_eq (pe_ix ix_seq (pv 3) pe_int (fun _ _ => rfl)) (pv 1) (nomark _)) (pss_cons (ps_expr (pe_bm PySem.F.plainAttrs_list PySem.F.slot_list_append PySem.F.type_list_append mt_append (pv 2) (pa_cons (pv 3) pa_nil)))
    (pss_one (ps_set (i := 1) sc_law_row_of.nd rfl (by first | exact Or.inl rfl | exact Or.inr rfl) (pe_ix ix_seq (pv 3) pe_int (fun _ _ => rfl))))) pss_nil)))
    (pss_one (ps_ret (pv 2)))))
theorem ok_law_row_of (D : DefB K mg "_law_row_of" s_law_row_of P_law_row_of) (T : Txt K mg aB aR aE aHouse) : C8.Cal P w K mg base 1 "_law_row_of" (sp_law_row_of K) [] :=
  cal_of D sc_law_row_of (fun vs H Q E h => by obtain ⟨_, _, _, rfl, _⟩ := h; rfl) (fun f cdv A outer s H vs Q E hr h => ⟨(t_law_row_of K), d_law_row_of T hr, p_law_row_of T vs H Q E h⟩)
end
section
variable {P : Program} {w : World} {K : Frag} {mg : Str → Option Value} {base : Heap} {aB aR aE aHouse : Addr}
theorem d_law_tree (T : Txt K mg aB aR aE aHouse) (c_law_pick : C8.Cal P w K mg base 2 "_law_pick" (sp_law_pick K) []) (c_law_taken : C8.Cal P w K mg base 1 "_law_taken" (sp_law_taken K) []) {f : Addr} {cdv : Value} {A : Around} {outer : List Env} {s : Shared} {H : Hp} {E : XK} (hr : Room 2 (A.deeper (envOfC "_law_tree" (C8.fnScope s_law_tree) s.heap.objs.size f cdv))) :
    PSs (cxOf C8.CX0 P w K mg base N_law_tree "_law_tree" (C8.fnScope s_law_tree) f cdv A outer s H E).nox (C8.fnBody s_law_tree) (t_law_tree K) :=
  (pss_cons (ps_par3 (i := 3) (j := 4) (l := 5) (by rfl) sc_law_tree.nd rfl rfl rfl (by decide) (by decide) (by decide) rfl rfl rfl (pa_cons (pe_lst (pa_cons pe_str (pa_cons pe_str (pa_cons pe_str (pa_cons pe_str (pa_cons pe_str (pa_cons pe_str (pa_cons pe_str (pa_cons pe_str pa_nil))))))))) (pa_cons (C8.pe_c c_law_taken hr (by decide) rfl (pa_cons (pv 0) (pa_cons pe_int pa_nil))) (pa_cons (pe_lst pa_nil) pa_nil))) (by rfl))
    (pss_cons (ps_for PassesOwn.never rfl (pi_range1 rfl T.z_range (pa_cons (pv 1) pa_nil)) (pg_name (i := 2) sc_law_tree.nd rfl (by first | exact Or.inl rfl | exact Or.inr rfl)) (pss_cons (ps_set (i := 6) sc_law_tree.nd rfl (by first | exact Or.inl rfl | exact Or.inr rfl) (pe_op op_cat (pe_lst (pa_cons pe_str pa_nil)) (pe_lc (own := [("_law_told", 8)]) rfl sc_law_tree.nd (pi_any (pv 5)) (blkOk_by (own := [("_law_told", 8)]) (N := N_law_tree) (sc := (C8.fnScope s_law_tree)) (by decide +kernel)) (fun _ _ _ _ _ => (pg_name (i := 8) sc_law_tree.nd rfl (by first | exact Or.inl rfl | exact Or.inr rfl))) (fun _ _ _ _ _ => pts_nil) (fun _ _ _ _ _ => (pe_ix ix_seq (pv 8) pe_int (fun _ _ => rfl))))))
    (pss_cons (ps_set (i := 7) sc_law_tree.nd rfl (by first | exact Or.inl rfl | exact Or.inr rfl) (pe_ix ix_seq (pe_lst (pa_cons (pe_ix ix_seq (pv 6) (pe_un un_neg pe_int) (fun _ _ => rfl)) (pa_cons (pe_ix ix_seq (pv 6) (pe_op op_mod (C8.pe_c c_law_taken hr (by decide) rfl (pa_cons (pv 0) (pa_cons pe_int pa_nil))) (pe_callB call_len (by rfl) T.z_len boot_len (pa_cons (pv 6) pa_nil))) (fun _ _ => rfl)) (pa_cons (C8.pe_c c_law_pick hr (by decide) rfl (pa_cons (pv 0) (pa_cons (pv 6) pa_nil))) pa_nil)))) (pv 4) (fun _ _ => rfl)))
    (pss_one (ps_expr (pe_bm PySem.F.plainAttrs_list PySem.F.slot_list_append PySem.F.type_list_append mt_append (pv 5) (pa_cons (pe_tup (pa_cons (pe_ix ix_seq (pv 3) (pv 2) (fun _ _ => rfl)) (pa_cons (pv 7) pa_nil))) pa_nil)))))))
    (pss_one (ps_ret (pv 5)))))
theorem ok_law_tree (D : DefB K mg "_law_tree" s_law_tree P_law_tree) (T : Txt K mg aB aR aE aHouse) (c_law_pick : C8.Cal P w K mg base 2 "_law_pick" (sp_law_pick K) []) (c_law_taken : C8.Cal P w K mg base 1 "_law_taken" (sp_law_taken K) []) : C8.Cal P w K mg base 3 "_law_tree" (sp_law_tree K) [] :=
  cal_of D sc_law_tree (fun vs H Q E h => by obtain ⟨_, _, rfl, _⟩ := h; rfl) (fun f cdv A outer s H vs Q E hr h => ⟨(t_law_tree K), d_law_tree T c_law_pick c_law_taken hr, p_law_tree T vs H Q E h⟩)
end
section
variable {P : Program} {w : World} {K : Frag} {mg : Str → Option Value} {base : Heap} {aB aR aE aHouse : Addr}
theorem d_law_signs (T : Txt K mg aB aR aE aHouse) (c_law_pick : C8.Cal P w K mg base 2 "_law_pick" (sp_law_pick K) []) (c_law_taken : C8.Cal P w K mg base 1 "_law_taken" (sp_law_taken K) []) {f : Addr} {cdv : Value} {A : Around} {outer : List Env} {s : Shared} {H : Hp} {E : XK} (hr : Room 2 (A.deeper (envOfC "_law_signs" (C8.fnScope s_law_signs) s.heap.objs.size f cdv))) :
    PSs (cxOf C8.CX0 P w K mg base N_law_signs "_law_signs" (C8.fnScope s_law_signs) f cdv A outer s H E).nox (C8.fnBody s_law_signs) (t_law_signs K) :=
  (pss_cons (ps_asg (pe_tup (pa_cons (pe_op op_cat (pe_lst (pa_cons pe_str (pa_cons pe_str (pa_cons pe_str pa_nil)))) (pv 1)) (pa_cons pe_dnewK pa_nil))) (pg_tup (by rfl) (pgs_cons (pg_name (i := 3) sc_law_signs.nd rfl (by first | exact Or.inl rfl | exact Or.inr rfl)) (pgs_cons (pg_name (i := 4) sc_law_signs.nd rfl (by first | exact Or.inl rfl | exact Or.inr rfl)) pgs_nil))))
    (pss_cons (ps_for PassesOwn.never rfl (pi_any (pe_lst (pa_cons pe_str (pa_cons pe_str (pa_cons pe_str pa_nil))))) (pg_name (i := 2) sc_law_signs.nd rfl (by first | exact Or.inl rfl | exact Or.inr rfl)) (pss_cons (ps_set (i := 5) sc_law_signs.nd rfl (by first | exact Or.inl rfl | exact Or.inr rfl) (pe_callTy call_tuple_of (by rfl) T.z_tuple (by decide +kernel) (pa_cons (pe_lc (own := [("_law_at", 6)]) rfl sc_law_signs.nd (pi_range1 rfl T.z_range (pa_cons (C8.pe_c c_law_taken hr (by decide) rfl (pa_cons (pv 0) (pa_cons pe_int pa_nil))) pa_nil)) (blkOk_by (own := [("_law_at", 6)]) (N := N_law_signs) (sc := (C8.fnScope s_law_signs)) (by decide +kernel)) (fun _ _ _ _ _ => (pg_name (i := 6) sc_law_signs.nd rfl (by first | exact Or.inl rfl | exact Or.inr rfl))) (fun _ _ _ _ _ => pts_nil) (fun _ _ _ _ _ => (C8.pe_c c_law_pick hr (by decide) rfl (pa_cons (pv 0) (pa_cons (pv 3) pa_nil))))) pa_nil)))
    (pss_one (ps_dput (hu_of hr) (pv 4) (pv 2) (pe_tup (pa_cons (pv 5) (pa_cons (C8.pe_c c_law_pick hr (by decide) rfl (pa_cons (pv 0) (pa_cons (pv 3) pa_nil))) pa_nil))) rfl))))
    (pss_one (ps_ret (pv 4)))))
theorem ok_law_signs (D : DefB K mg "_law_signs" s_law_signs P_law_signs) (T : Txt K mg aB aR aE aHouse) (c_law_pick : C8.Cal P w K mg base 2 "_law_pick" (sp_law_pick K) []) (c_law_taken : C8.Cal P w K mg base 1 "_law_taken" (sp_law_taken K) []) : C8.Cal P w K mg base 3 "_law_signs" (sp_law_signs K) [] :=
  cal_of D sc_law_signs (fun vs H Q E h => by obtain ⟨_, _, _, rfl, _⟩ := h; rfl) (fun f cdv A outer s H vs Q E hr h => ⟨(t_law_signs K), d_law_signs T c_law_pick c_law_taken hr, p_law_signs T vs H Q E h⟩)
end
section
variable {P : Program} {w : World} {K : Frag} {mg : Str → Option Value} {base : Heap} {aB aR aE aHouse : Addr}
theorem d_law_step (T : Txt K mg aB aR aE aHouse) (c_law_pick : C8.Cal P w K mg base 2 "_law_pick" (sp_law_pick K) []) (c_law_taken : C8.Cal P w K mg base 1 "_law_taken" (sp_law_taken K) []) (c_law_row_of : C8.Cal P w K mg base 1 "_law_row_of" (sp_law_row_of K) []) {f : Addr} {cdv : Value} {A : Around} {outer : List Env} {s : Shared} {H : Hp} {E : XK} (hr : Room 2 (A.deeper (envOfC "_law_step" (C8.fnScope s_law_step) s.heap.objs.size f cdv))) :
    PSs (cxOf C8.CX0 P w K mg base N_law_step "_law_step" (C8.fnScope s_law_step) f cdv A outer s H E).nox (C8.fnBody s_law_step) (t_law_step K) :=
  (pss_cons (ps_par (i := 6) (j := 7) (by rfl) sc_law_step.nd rfl rfl (by decide) rfl rfl (pa_cons (pe_op op_cat (pe_lst (pa_cons pe_str pa_nil)) (pe_lc (own := [("_law_told", 4)]) rfl sc_law_step.nd (pi_any (pv 1)) (blkOk_by (own := [("_law_told", 4)]) (N := N_law_step) (sc := (C8.fnScope s_law_step)) (by decide +kernel)) (fun _ _ _ _ _ => (pg_name (i := 4) sc_law_step.nd rfl (by first | exact Or.inl rfl | exact Or.inr rfl))) (fun _ _ _ _ _ => pts_nil) (fun _ _ _ _ _ => (pe_ix ix_seq (pv 4) pe_int (fun _ _ => rfl))))) (pa_cons (C8.pe_c c_law_taken hr (by decide) rfl (pa_cons (pv 0) (pa_cons pe_int pa_nil))) pa_nil)) (by rfl))
    (pss_cons (ps_if (pt_cmpR op_lt (pv 7) pe_int (nomark _)) (pss_cons (ps_set (i := 8) sc_law_step.nd rfl (by first | exact Or.inl rfl | exact Or.inr rfl) (pe_lst (pa_cons pe_str (pa_cons pe_str (pa_cons pe_str (pa_cons pe_str (pa_cons pe_str (pa_cons pe_str (pa_cons pe_str (pa_cons pe_str (pa_cons pe_str (pa_cons pe_str (pa_cons pe_str pa_nil)))))))))))))
    (pss_one (ps_ret (pe_tup (pa_cons (C8.pe_c c_law_pick hr (by decide) rfl (pa_cons (pv 0) (pa_cons (pv 8) pa_nil))) pa_nil))))) pss_nil)
    (pss_cons (ps_if (pt_cmpR op_eq (pv 7) pe_int (nomark _)) (pss_one (ps_ret (pe_tup (pa_cons pe_str (pa_cons (C8.pe_c c_law_taken hr (by decide) rfl (pa_cons (pv 0) (pa_cons pe_int pa_nil))) pa_nil))))) pss_nil)
    (pss_cons (ps_if (pt_cmpR op_eq (pv 7) pe_int (nomark _)) (pss_one (ps_ret (pe_tup (pa_cons (C8.pe_c c_law_pick hr (by decide) rfl (pa_cons (pv 0) (pa_cons (pe_lst (pa_cons pe_str (pa_cons pe_str (pa_cons pe_str pa_nil)))) pa_nil))) (pa_cons (C8.pe_c c_law_taken hr (by decide) rfl (pa_cons (pv 0) (pa_cons pe_int pa_nil))) pa_nil))))) pss_nil)
    (pss_cons (ps_if (pt_cmpR op_eq (pv 7) pe_int (nomark _)) (pss_one (ps_ret (pe_tup (pa_cons (C8.pe_c c_law_pick hr (by decide) rfl (pa_cons (pv 0) (pa_cons (pe_lst (pa_cons pe_str (pa_cons pe_str (pa_cons pe_str pa_nil)))) pa_nil))) (pa_cons (C8.pe_c c_law_taken hr (by decide) rfl (pa_cons (pv 0) (pa_cons (pv 2) pa_nil))) pa_nil))))) pss_nil)
    (pss_cons (ps_if (pt_cmpR op_eq (pv 7) pe_int (nomark _)) (pss_one (ps_ret (pe_tup (pa_cons (C8.pe_c c_law_pick hr (by decide) rfl (pa_cons (pv 0) (pa_cons (pe_lst (pa_cons pe_str (pa_cons pe_str (pa_cons pe_str (pa_cons pe_str pa_nil))))) pa_nil))) (pa_cons (C8.pe_c c_law_pick hr (by decide) rfl (pa_cons (pv 0) (pa_cons (pv 6) pa_nil))) pa_nil))))) pss_nil)
    (pss_cons (ps_set (i := 3) sc_law_step.nd rfl (by first | exact Or.inl rfl | exact Or.inr rfl) (C8.pe_c c_law_pick hr (by decide) rfl (pa_cons (pv 0) (pa_cons (pv 6) pa_nil))))
    (pss_cons (ps_par (i := 9) (j := 8) (by rfl) sc_law_step.nd rfl rfl (by decide) rfl rfl (pa_cons (pe_lst pa_nil) (pa_cons (pe_lst pa_nil) pa_nil)) (by rfl))
    (pss_cons (ps_for PassesOwn.never rfl (pi_any (C8.pe_c c_law_row_of hr (by decide) rfl (pa_cons (pv 1) (pa_cons (pv 3) pa_nil)))) (pg_name (i := 4) sc_law_step.nd rfl (by first | exact Or.inl rfl | exact Or.inr rfl)) (pss_cons (ps_set (i := 9) sc_law_step.nd rfl (by first | exact Or.inl rfl | exact Or.inr rfl) (pe_op op_cat (pv 9) (pe_lc (own := [("_law_field", 10)]) rfl sc_law_step.nd (pi_any (pe_ix ix_seq (pv 4) pe_int (fun _ _ => rfl))) (blkOk_by (own := [("_law_field", 10)]) (N := N_law_step) (sc := (C8.fnScope s_law_step)) (by decide +kernel)) (fun _ _ _ _ _ => (pg_name (i := 10) sc_law_step.nd rfl (by first | exact Or.inl rfl | exact Or.inr rfl))) (fun _ _ _ _ _ => pts_nil) (fun _ _ _ _ _ => (pe_ix ix_seq (pv 10) pe_int (fun _ _ => rfl))))))
    (pss_one (ps_set (i := 8) sc_law_step.nd rfl (by first | exact Or.inl rfl | exact Or.inr rfl) (pe_op op_cat (pv 8) (pe_lc (own := [("_law_method", 12)]) rfl sc_law_step.nd (pi_any (pe_ix ix_seq (pv 4) pe_int (fun _ _ => rfl))) (blkOk_by (own := [("_law_method", 12)]) (N := N_law_step) (sc := (C8.fnScope s_law_step)) (by decide +kernel)) (fun _ _ _ _ _ => (pg_name (i := 12) sc_law_step.nd rfl (by first | exact Or.inl rfl | exact Or.inr rfl))) (fun _ _ _ _ _ => pts_nil) (fun _ _ _ _ _ => (pe_ix ix_seq (pv 12) pe_int (fun _ _ => rfl)))))))))
    (pss_cons (ps_set (i := 5) sc_law_step.nd rfl (by first | exact Or.inl rfl | exact Or.inr rfl) (pe_op op_cat (pe_lc (own := [("_law_field", 10)]) rfl sc_law_step.nd (pi_any (pv 9)) (blkOk_by (own := [("_law_field", 10)]) (N := N_law_step) (sc := (C8.fnScope s_law_step)) (by decide +kernel)) (fun _ _ _ _ _ => (pg_name (i := 10) sc_law_step.nd rfl (by first | exact Or.inl rfl | exact Or.inr rfl))) (fun _ _ _ _ _ => pts_nil) (fun _ _ _ _ _ => (pe_tup (pa_cons pe_str (pa_cons (pv 3) (pa_cons (pv 10) pa_nil)))))) (pe_lc (own := [("_law_field", 10)]) rfl sc_law_step.nd (pi_any (pv 9)) (blkOk_by (own := [("_law_field", 10)]) (N := N_law_step) (sc := (C8.fnScope s_law_step)) (by decide +kernel)) (fun _ _ _ _ _ => (pg_name (i := 10) sc_law_step.nd rfl (by first | exact Or.inl rfl | exact Or.inr rfl))) (fun _ _ _ _ _ => pts_nil) (fun _ _ _ _ _ => (pe_tup (pa_cons pe_str (pa_cons (pv 3) (pa_cons (pv 10) pa_nil))))))))
    (pss_cons (ps_set (i := 5) sc_law_step.nd rfl (by first | exact Or.inl rfl | exact Or.inr rfl) (pe_op op_cat (pv 5) (pe_lc (own := [("_law_word", 11)]) rfl sc_law_step.nd (pi_any (pv 8)) (blkOk_by (own := [("_law_word", 11)]) (N := N_law_step) (sc := (C8.fnScope s_law_step)) (by decide +kernel)) (fun _ _ _ _ _ => (pg_name (i := 11) sc_law_step.nd rfl (by first | exact Or.inl rfl | exact Or.inr rfl))) (fun _ _ _ _ _ => pts_nil) (fun _ _ _ _ _ => (pe_tup (pa_cons pe_str (pa_cons (pv 3) (pa_cons (pv 11) pa_nil))))))))
    (pss_one (ps_ret (pe_ifExp (pt_cmpR (op_neD (hu64 hr)) (pv 5) (pe_lst pa_nil) (nomark _)) (C8.pe_c c_law_pick hr (by decide) rfl (pa_cons (pv 0) (pa_cons (pv 5) pa_nil))) (pe_tup (pa_cons pe_str (pa_cons (C8.pe_c c_law_taken hr (by decide) rfl (pa_cons (pv 0) (pa_cons pe_int pa_nil))) pa_nil)))))))))))))))))
theorem ok_law_step (D : DefB K mg "_law_step" s_law_step P_law_step) (T : Txt K mg aB aR aE aHouse) (c_law_pick : C8.Cal P w K mg base 2 "_law_pick" (sp_law_pick K) []) (c_law_taken : C8.Cal P w K mg base 1 "_law_taken" (sp_law_taken K) []) (c_law_row_of : C8.Cal P w K mg base 1 "_law_row_of" (sp_law_row_of K) []) : C8.Cal P w K mg base 3 "_law_step" (sp_law_step K) [] :=
  cal_of D sc_law_step (fun vs H Q E h => by obtain ⟨_, _, _, _, rfl, _⟩ := h; rfl) (fun f cdv A outer s H vs Q E hr h => ⟨(t_law_step K), d_law_step T c_law_pick c_law_taken c_law_row_of hr, p_law_step T vs H Q E h⟩)
end
section
variable {P : Program} {w : World} {K : Frag} {mg : Str → Option Value} {base : Heap} {aB aR aE aHouse : Addr}
theorem d_law_code (T : Txt K mg aB aR aE aHouse) (c_law_taken : C8.Cal P w K mg base 1 "_law_taken" (sp_law_taken K) []) (c_law_pick : C8.Cal P w K mg base 2 "_law_pick" (sp_law_pick K) []) (c_law_step : C8.Cal P w K mg base 3 "_law_step" (sp_law_step K) []) {f : Addr} {cdv : Value} {A : Around} {outer : List Env} {s : Shared} {H : Hp} {E : XK} (hr : Room 3 (A.deeper (envOfC "_law_code" (C8.fnScope s_law_code) s.heap.objs.size f cdv))) :
    PSs (cxOf C8.CX0 P w K mg base N_law_code "_law_code" (C8.fnScope s_law_code) f cdv A outer s H E).nox (C8.fnBody s_law_code) (t_law_code K) :=
  (pss_cons (ps_set (i := 3) sc_law_code.nd rfl (by first | exact Or.inl rfl | exact Or.inr rfl) (pe_op op_add pe_int (C8.pe_c c_law_taken hr (by decide) rfl (pa_cons (pv 0) (pa_cons (pv 2) pa_nil)))))
    (pss_cons (ps_setLc (i := 4) (own := [("_law_at", 5)]) rfl sc_law_code.nd rfl rfl (sw_true rfl rfl rfl (by decide +kernel)) (pi_range1 rfl T.z_range (pa_cons (pe_op op_sub (pv 3) pe_int) pa_nil)) (blkOk_by (own := [("_law_at", 5)]) (N := N_law_code) (sc := (C8.fnScope s_law_code)) (by decide +kernel)) (fun _ _ _ _ _ => (pg_name (i := 5) sc_law_code.nd rfl (by first | exact Or.inl rfl | exact Or.inr rfl))) (fun _ _ _ _ _ => pts_nil) (fun _ _ _ _ _ => (C8.pe_c c_law_step hr (by decide) rfl (pa_cons (pv 0) (pa_cons (pv 1) (pa_cons (pv 3) pa_nil))))))
    (pss_one (ps_ret (pe_callTy call_tuple_of (by rfl) T.z_tuple (by decide +kernel) (pa_cons (pe_op op_cat (pv 4) (pe_lst (pa_cons (C8.pe_c c_law_pick hr (by decide) rfl (pa_cons (pv 0) (pa_cons (pe_lst (pa_cons (pe_tup (pa_cons pe_str pa_nil)) (pa_cons (pe_tup (pa_cons pe_str pa_nil)) (pa_cons (pe_tup (pa_cons pe_str pa_nil)) (pa_cons (pe_tup (pa_cons pe_str (pa_cons (C8.pe_c c_law_taken hr (by decide) rfl (pa_cons (pv 0) (pa_cons (pv 3) pa_nil))) pa_nil))) pa_nil))))) pa_nil))) pa_nil))) pa_nil))))))
theorem ok_law_code (D : DefB K mg "_law_code" s_law_code P_law_code) (T : Txt K mg aB aR aE aHouse) (c_law_taken : C8.Cal P w K mg base 1 "_law_taken" (sp_law_taken K) []) (c_law_pick : C8.Cal P w K mg base 2 "_law_pick" (sp_law_pick K) []) (c_law_step : C8.Cal P w K mg base 3 "_law_step" (sp_law_step K) []) : C8.Cal P w K mg base 4 "_law_code" (sp_law_code K) [] :=
  cal_of D sc_law_code (fun vs H Q E h => by obtain ⟨_, _, _, _, rfl, _⟩ := h; rfl) (fun f cdv A outer s H vs Q E hr h => ⟨(t_law_code K), d_law_code T c_law_taken c_law_pick c_law_step hr, p_law_code T vs H Q E h⟩)
end
section
variable {P : Program} {w : World} {K : Frag} {mg : Str → Option Value} {base : Heap} {aB aR aE aHouse : Addr}
theorem d_law_handlers (T : Txt K mg aB aR aE aHouse) (c_law_pick : C8.Cal P w K mg base 2 "_law_pick" (sp_law_pick K) []) (c_law_taken : C8.Cal P w K mg base 1 "_law_taken" (sp_law_taken K) []) {f : Addr} {cdv : Value} {A : Around} {outer : List Env} {s : Shared} {H : Hp} {E : XK} (hr : Room 2 (A.deeper (envOfC "_law_handlers" (C8.fnScope s_law_handlers) s.heap.objs.size f cdv))) :
    PSs (cxOf C8.CX0 P w K mg base N_law_handlers "_law_handlers" (C8.fnScope s_law_handlers) f cdv A outer s H E).nox (C8.fnBody s_law_handlers) (t_law_handlers K) :=
  (pss_cons (ps_set (i := 3) sc_law_handlers.nd rfl (by first | exact Or.inl rfl | exact Or.inr rfl) (pe_lst pa_nil))
    (pss_cons (ps_for PassesOwn.never rfl (pi_range1 rfl T.z_range (pa_cons (C8.pe_c c_law_pick hr (by decide) rfl (pa_cons (pv 0) (pa_cons (pe_lst (pa_cons pe_int (pa_cons pe_int (pa_cons pe_int (pa_cons pe_int pa_nil))))) pa_nil))) pa_nil)) (pg_name (i := 4) sc_law_handlers.nd rfl (by first | exact Or.inl rfl | exact Or.inr rfl)) (pss_cons (ps_set (i := 5) sc_law_handlers.nd rfl (by first | exact Or.inl rfl | exact Or.inr rfl) (C8.pe_c c_law_taken hr (by decide) rfl (pa_cons (pv 0) (pa_cons (pv 2) pa_nil))))
    (pss_cons (ps_set (i := 6) sc_law_handlers.nd rfl (by first | exact Or.inl rfl | exact Or.inr rfl) (pe_op op_add (pe_op op_add (pv 5) pe_int) (C8.pe_c c_law_taken hr (by decide) rfl (pa_cons (pv 0) (pa_cons (pe_op op_sub (pv 2) (pv 5)) pa_nil)))))
    (pss_one (ps_expr (pe_bm PySem.F.plainAttrs_list PySem.F.slot_list_append PySem.F.type_list_append mt_append (pv 3) (pa_cons (pe_tup (pa_cons (pv 5) (pa_cons (pv 6) (pa_cons (C8.pe_c c_law_pick hr (by decide) rfl (pa_cons (pv 0) (pa_cons (pe_op op_cat (pe_lst (pa_cons pe_str (pa_cons pe_str pa_nil))) (pv 1)) pa_nil))) (pa_cons (C8.pe_c c_law_taken hr (by decide) rfl (pa_cons (pv 0) (pa_cons (pv 2) pa_nil))) pa_nil))))) pa_nil)))))))
    (pss_one (ps_ret (pe_callTy call_tuple_of (by rfl) T.z_tuple (by decide +kernel) (pa_cons (pv 3) pa_nil))))))
theorem ok_law_handlers (D : DefB K mg "_law_handlers" s_law_handlers P_law_handlers) (T : Txt K mg aB aR aE aHouse) (c_law_pick : C8.Cal P w K mg base 2 "_law_pick" (sp_law_pick K) []) (c_law_taken : C8.Cal P w K mg base 1 "_law_taken" (sp_law_taken K) []) : C8.Cal P w K mg base 3 "_law_handlers" (sp_law_handlers K) [] :=
  cal_of D sc_law_handlers (fun vs H Q E h => by obtain ⟨_, _, _, _, rfl, _⟩ := h; rfl) (fun f cdv A outer s H vs Q E hr h => ⟨(t_law_handlers K), d_law_handlers T c_law_pick c_law_taken hr, p_law_handlers T vs H Q E h⟩)
end
section
variable {P : Program} {w : World} {K : Frag} {mg : Str → Option Value} {base : Heap} {aB aR aE aHouse : Addr}
theorem d_law_bare (T : Txt K mg aB aR aE aHouse) (c_law_taken : C8.Cal P w K mg base 1 "_law_taken" (sp_law_taken K) []) (c_law_pick : C8.Cal P w K mg base 2 "_law_pick" (sp_law_pick K) []) (c_law_signs : C8.Cal P w K mg base 3 "_law_signs" (sp_law_signs K) []) (c_law_tree : C8.Cal P w K mg base 3 "_law_tree" (sp_law_tree K) []) {f : Addr} {cdv : Value} {A : Around} {outer : List Env} {s : Shared} {H : Hp} {E : XK} (hr : Room 3 (A.deeper (envOfC "_law_bare" (C8.fnScope s_law_bare) s.heap.objs.size f cdv))) :
    PSs (cxOf C8.CX0 P w K mg base N_law_bare "_law_bare" (C8.fnScope s_law_bare) f cdv A outer s H E).nox (C8.fnBody s_law_bare) (t_law_bare K) :=
  (pss_cons (ps_set (i := 2) sc_law_bare.nd rfl (by first | exact Or.inl rfl | exact Or.inr rfl) (C8.pe_c c_law_tree hr (by decide) rfl (pa_cons (pv 0) (pa_cons (pe_op op_add pe_int (C8.pe_c c_law_taken hr (by decide) rfl (pa_cons (pv 0) (pa_cons (pv 1) pa_nil)))) pa_nil))))
    (pss_cons (ps_par3 (i := 4) (j := 5) (l := 6) (by rfl) sc_law_bare.nd rfl rfl rfl (by decide) (by decide) (by decide) rfl rfl rfl (pa_cons (pe_lc (own := [("_law_told", 12)]) rfl sc_law_bare.nd (pi_any (pv 2)) (blkOk_by (own := [("_law_told", 12)]) (N := N_law_bare) (sc := (C8.fnScope s_law_bare)) (by decide +kernel)) (fun _ _ _ _ _ => (pg_name (i := 12) sc_law_bare.nd rfl (by first | exact Or.inl rfl | exact Or.inr rfl))) (fun _ _ _ _ _ => pts_nil) (fun _ _ _ _ _ => (pe_ix ix_seq (pv 12) pe_int (fun _ _ => rfl)))) (pa_cons (pe_lst pa_nil) (pa_cons pe_int pa_nil))) (by rfl))
    (pss_cons (ps_set (i := 3) sc_law_bare.nd rfl (by first | exact Or.inl rfl | exact Or.inr rfl) (C8.pe_c c_law_signs hr (by decide) rfl (pa_cons (pv 0) (pa_cons (pv 4) pa_nil))))
    (pss_cons (ps_for PassesOwn.never rfl (pi_any (pv 2)) (pg_tup (by rfl) (pgs_cons (pg_name (i := 7) sc_law_bare.nd rfl (by first | exact Or.inl rfl | exact Or.inr rfl)) (pgs_cons (pg_name (i := 8) sc_law_bare.nd rfl (by first | exact Or.inl rfl | exact Or.inr rfl)) pgs_nil))) (pss_cons (ps_set (i := 9) sc_law_bare.nd rfl (by first | exact Or.inl rfl | exact Or.inr rfl) (pe_lst pa_nil))
    (pss_cons (ps_for PassesOwn.never rfl (pi_range1 rfl T.z_range (pa_cons (C8.pe_c c_law_taken hr (by decide) rfl (pa_cons (pv 0) (pa_cons pe_int pa_nil))) pa_nil)) (pg_name (i := 10) sc_law_bare.nd rfl (by first | exact Or.inl rfl | exact Or.inr rfl)) (pss_cons (ps_expr (pe_bm PySem.F.plainAttrs_list PySem.F.slot_list_append PySem.F.type_list_append mt_append (pv 9) (pa_cons (pe_tup (pa_cons (pe_op op_add_str pe_str (pe_ix ix_seq pe_str (pv 6) (fun _ _ => rfl))) (pa_cons (C8.pe_c c_law_pick hr (by decide) rfl (pa_cons (pv 0) (pa_cons (pe_op op_cat (pe_lst (pa_cons pe_str (pa_cons pe_str (pa_cons pe_str pa_nil)))) (pv 4)) pa_nil))) pa_nil))) pa_nil)))
    (pss_one (ps_set (i := 6) sc_law_bare.nd rfl (by first | exact Or.inl rfl | exact Or.inr rfl) (pe_op op_add (pv 6) pe_int)))))
    (pss_cons (ps_setLc (i := 11) (own := [("_law_word", 13)]) rfl sc_law_bare.nd rfl rfl (sw_true rfl rfl rfl (by decide +kernel)) (pi_any (pe_lst (pa_cons pe_str (pa_cons pe_str (pa_cons pe_str pa_nil))))) (blkOk_by (own := [("_law_word", 13)]) (N := N_law_bare) (sc := (C8.fnScope s_law_bare)) (by decide +kernel)) (fun _ _ _ _ _ => (pg_name (i := 13) sc_law_bare.nd rfl (by first | exact Or.inl rfl | exact Or.inr rfl))) (fun _ _ _ _ _ => (pts_one (pt_cmpR op_eq (C8.pe_c c_law_taken hr (by decide) rfl (pa_cons (pv 0) (pa_cons pe_int pa_nil))) pe_int (nomark _)))) (fun _ _ _ _ _ => (pe_op op_catA (pe_tup (pa_cons (pv 13) pa_nil)) (pe_dget (hu_of hr) (pv 3) (pv 13) (fun _ _ => rfl)))))
    (pss_one (ps_expr (pe_bm PySem.F.plainAttrs_list PySem.F.slot_list_append PySem.F.type_list_append mt_append (pv 5) (pa_cons (pe_tup (pa_cons (pv 7) (pa_cons (pv 8) (pa_cons (pe_callTy call_tuple_of (by rfl) T.z_tuple (by decide +kernel) (pa_cons (pv 9) pa_nil)) (pa_cons (pe_callTy call_tuple_of (by rfl) T.z_tuple (by decide +kernel) (pa_cons (pv 11) pa_nil)) pa_nil))))) pa_nil))))))))
    (pss_one (ps_ret (pv 5)))))))
theorem ok_law_bare (D : DefB K mg "_law_bare" s_law_bare P_law_bare) (T : Txt K mg aB aR aE aHouse) (c_law_taken : C8.Cal P w K mg base 1 "_law_taken" (sp_law_taken K) []) (c_law_pick : C8.Cal P w K mg base 2 "_law_pick" (sp_law_pick K) []) (c_law_signs : C8.Cal P w K mg base 3 "_law_signs" (sp_law_signs K) []) (c_law_tree : C8.Cal P w K mg base 3 "_law_tree" (sp_law_tree K) []) : C8.Cal P w K mg base 4 "_law_bare" (sp_law_bare K) [] :=
  cal_of D sc_law_bare (fun vs H Q E h => by obtain ⟨_, rfl, _⟩ := h; rfl) (fun f cdv A outer s H vs Q E hr h => ⟨(t_law_bare K), d_law_bare T c_law_taken c_law_pick c_law_signs c_law_tree hr, p_law_bare T vs H Q E h⟩)
end
section
variable {P : Program} {w : World} {K : Frag} {mg : Str → Option Value} {base : Heap} {aB aR aE aHouse : Addr}
theorem d_law_classes (T : Txt K mg aB aR aE aHouse) (c_law_handlers : C8.Cal P w K mg base 3 "_law_handlers" (sp_law_handlers K) []) (c_law_code : C8.Cal P w K mg base 4 "_law_code" (sp_law_code K) []) (c_law_bare : C8.Cal P w K mg base 4 "_law_bare" (sp_law_bare K) []) {f : Addr} {cdv : Value} {A : Around} {outer : List Env} {s : Shared} {H : Hp} {E : XK} (hr : Room 4 (A.deeper (envOfC "_law_classes" (C8.fnScope s_law_classes) s.heap.objs.size f cdv))) :
    PSs (cxOf C8.CX0 P w K mg base N_law_classes "_law_classes" (C8.fnScope s_law_classes) f cdv A outer s H E).nox (C8.fnBody s_law_classes) (t_law_classes K) :=
  (pss_cons (ps_par (i := 4) (j := 5) (by rfl) sc_law_classes.nd rfl rfl (by decide) rfl rfl (pa_cons (C8.pe_c c_law_bare hr (by decide) rfl (pa_cons (pv 0) (pa_cons (pv 1) pa_nil))) (pa_cons (pe_lst pa_nil) pa_nil)) (by rfl))
    (pss_cons (ps_setLc (i := 3) (own := [("_law_told", 11)]) rfl sc_law_classes.nd rfl rfl (sw_true rfl rfl rfl (by decide +kernel)) (pi_any (pv 4)) (blkOk_by (own := [("_law_told", 11)]) (N := N_law_classes) (sc := (C8.fnScope s_law_classes)) (by decide +kernel)) (fun _ _ _ _ _ => (pg_name (i := 11) sc_law_classes.nd rfl (by first | exact Or.inl rfl | exact Or.inr rfl))) (fun _ _ _ _ _ => pts_nil) (fun _ _ _ _ _ => (pe_ix ix_seq (pv 11) pe_int (fun _ _ => rfl))))
    (pss_cons (ps_for PassesOwn.never rfl (pi_any (pv 4)) (pg_tup (by rfl) (pgs_cons (pg_name (i := 6) sc_law_classes.nd rfl (by first | exact Or.inl rfl | exact Or.inr rfl)) (pgs_cons (pg_name (i := 7) sc_law_classes.nd rfl (by first | exact Or.inl rfl | exact Or.inr rfl)) (pgs_cons (pg_name (i := 8) sc_law_classes.nd rfl (by first | exact Or.inl rfl | exact Or.inr rfl)) (pgs_cons (pg_name (i := 9) sc_law_classes.nd rfl (by first | exact Or.inl rfl | exact Or.inr rfl)) pgs_nil))))) (pss_cons (ps_set (i := 10) sc_law_classes.nd rfl (by first | exact Or.inl rfl | exact Or.inr rfl) (pe_lst pa_nil))
    (pss_cons (ps_for PassesOwn.never rfl (pi_any (pv 9)) (pg_tup (by rfl) (pgs_cons (pg_name (i := 12) sc_law_classes.nd rfl (by first | exact Or.inl rfl | exact Or.inr rfl)) (pgs_cons (pg_name (i := 13) sc_law_classes.nd rfl (by first | exact Or.inl rfl | exact Or.inr rfl)) (pgs_cons (pg_name (i := 14) sc_law_classes.nd rfl (by first | exact Or.inl rfl | exact Or.inr rfl)) pgs_nil)))) (pss_cons (ps_set (i := 15) sc_law_classes.nd rfl (by first | exact Or.inl rfl | exact Or.inr rfl) (C8.pe_c c_law_code hr (by decide) rfl (pa_cons (pv 0) (pa_cons (pv 4) (pa_cons (pv 2) pa_nil)))))
    (pss_one (ps_expr (pe_bm PySem.F.plainAttrs_list PySem.F.slot_list_append PySem.F.type_list_append mt_append (pv 10) (pa_cons (pe_tup (pa_cons (pv 12) (pa_cons (pv 13) (pa_cons (pv 14) (pa_cons (pv 15) (pa_cons (C8.pe_c c_law_handlers hr (by decide) rfl (pa_cons (pv 0) (pa_cons (pv 3) (pa_cons (pe_callB call_len (by rfl) T.z_len boot_len (pa_cons (pv 15) pa_nil)) pa_nil)))) pa_nil)))))) pa_nil))))))
    (pss_one (ps_expr (pe_bm PySem.F.plainAttrs_list PySem.F.slot_list_append PySem.F.type_list_append mt_append (pv 5) (pa_cons (pe_tup (pa_cons (pv 6) (pa_cons (pv 7) (pa_cons (pv 8) (pa_cons (pe_callTy call_tuple_of (by rfl) T.z_tuple (by decide +kernel) (pa_cons (pv 10) pa_nil)) pa_nil))))) pa_nil)))))))
    (pss_one (ps_ret (pe_callTy call_tuple_of (by rfl) T.z_tuple (by decide +kernel) (pa_cons (pv 5) pa_nil)))))))
theorem ok_law_classes (D : DefB K mg "_law_classes" s_law_classes P_law_classes) (T : Txt K mg aB aR aE aHouse) (c_law_handlers : C8.Cal P w K mg base 3 "_law_handlers" (sp_law_handlers K) []) (c_law_code : C8.Cal P w K mg base 4 "_law_code" (sp_law_code K) []) (c_law_bare : C8.Cal P w K mg base 4 "_law_bare" (sp_law_bare K) []) : C8.Cal P w K mg base 5 "_law_classes" (sp_law_classes K) [] :=
  cal_of D sc_law_classes (fun vs H Q E h => by obtain ⟨_, rfl, _⟩ := h; rfl) (fun f cdv A outer s H vs Q E hr h => ⟨(t_law_classes K), d_law_classes T c_law_handlers c_law_code c_law_bare hr, p_law_classes T vs H Q E h⟩)
end
section
variable {P : Program} {w : World} {K : Frag} {mg : Str → Option Value} {base : Heap} {aB aR aE aHouse : Addr}
theorem d_law_wordy (T : Txt K mg aB aR aE aHouse) (c_law_taken : C8.Cal P w K mg base 1 "_law_taken" (sp_law_taken K) []) (c_law_tree : C8.Cal P w K mg base 3 "_law_tree" (sp_law_tree K) []) {f : Addr} {cdv : Value} {A : Around} {outer : List Env} {s : Shared} {H : Hp} {E : XK} (hr : Room 3 (A.deeper (envOfC "_law_wordy" (C8.fnScope s_law_wordy) s.heap.objs.size f cdv))) :
    PSs (cxOf C8.CX0 P w K mg base N_law_wordy "_law_wordy" (C8.fnScope s_law_wordy) f cdv A outer s H E).nox (C8.fnBody s_law_wordy) (t_law_wordy K) :=
  (pss_cons (ps_par (i := 2) (j := 3) (by rfl) sc_law_wordy.nd rfl rfl (by decide) rfl rfl (pa_cons (pe_slice sl_any (pe_lst (pa_cons pe_str (pa_cons pe_str (pa_cons pe_str (pa_cons pe_str (pa_cons pe_str pa_nil)))))) po_none (po_some (pe_op op_add pe_int (C8.pe_c c_law_taken hr (by decide) rfl (pa_cons (pv 0) (pa_cons pe_int pa_nil)))))) (pa_cons (pe_lst pa_nil) pa_nil)) (by rfl))
    (pss_cons (ps_for PassesOwn.never rfl (pi_any (C8.pe_c c_law_tree hr (by decide) rfl (pa_cons (pv 0) (pa_cons (pe_op op_add pe_int (C8.pe_c c_law_taken hr (by decide) rfl (pa_cons (pv 0) (pa_cons (pv 1) pa_nil)))) pa_nil)))) (pg_tup (by rfl) (pgs_cons (pg_name (i := 4) sc_law_wordy.nd rfl (by first | exact Or.inl rfl | exact Or.inr rfl)) (pgs_cons (pg_name (i := 5) sc_law_wordy.nd rfl (by first | exact Or.inl rfl | exact Or.inr rfl)) pgs_nil))) (pss_cons (ps_setLc (i := 6) (own := [("_law_word", 8)]) rfl sc_law_wordy.nd rfl rfl (sw_true rfl rfl rfl (by decide +kernel)) (pi_any (pv 2)) (blkOk_by (own := [("_law_word", 8)]) (N := N_law_wordy) (sc := (C8.fnScope s_law_wordy)) (by decide +kernel)) (fun _ _ _ _ _ => (pg_name (i := 8) sc_law_wordy.nd rfl (by first | exact Or.inl rfl | exact Or.inr rfl))) (fun _ _ _ _ _ => (pts_one (pt_cmpR op_eq (C8.pe_c c_law_taken hr (by decide) rfl (pa_cons (pv 0) (pa_cons pe_int pa_nil))) pe_int (nomark _)))) (fun _ _ _ _ _ => (pv 8)))
    (pss_cons (ps_set (i := 6) sc_law_wordy.nd rfl (by first | exact Or.inl rfl | exact Or.inr rfl) (pe_ifExp (pt_cmpR op_eq (C8.pe_c c_law_taken hr (by decide) rfl (pa_cons (pv 0) (pa_cons pe_int pa_nil))) pe_int (nomark _)) (pe_revA (pv 6)) (pv 6)))
    (pss_cons (ps_setLc (i := 7) (own := [("_law_word", 8)]) rfl sc_law_wordy.nd rfl rfl (sw_true rfl rfl rfl (by decide +kernel)) (pi_any (pe_slice sl_any (pv 6) po_none (po_some pe_int))) (blkOk_by (own := [("_law_word", 8)]) (N := N_law_wordy) (sc := (C8.fnScope s_law_wordy)) (by decide +kernel)) (fun _ _ _ _ _ => (pg_name (i := 8) sc_law_wordy.nd rfl (by first | exact Or.inl rfl | exact Or.inr rfl))) (fun _ _ _ _ _ => pts_nil) (fun _ _ _ _ _ => (pe_tup (pa_cons (pv 8) (pa_cons (pe_tup pa_nil) (pa_cons pe_str (pa_cons (pe_tup (pa_cons (pe_tup (pa_cons pe_str (pa_cons pe_int pa_nil))) (pa_cons (pe_tup (pa_cons pe_str pa_nil)) pa_nil))) (pa_cons (pe_tup pa_nil) pa_nil))))))))
    (pss_one (ps_expr (pe_bm PySem.F.plainAttrs_list PySem.F.slot_list_append PySem.F.type_list_append mt_append (pv 3) (pa_cons (pe_tup (pa_cons (pv 4) (pa_cons (pv 5) (pa_cons (pe_tup pa_nil) (pa_cons (pe_callTy call_tuple_of (by rfl) T.z_tuple (by decide +kernel) (pa_cons (pv 7) pa_nil)) pa_nil))))) pa_nil))))))))
    (pss_one (ps_ret (pe_callTy call_tuple_of (by rfl) T.z_tuple (by decide +kernel) (pa_cons (pv 3) pa_nil))))))
theorem ok_law_wordy (D : DefB K mg "_law_wordy" s_law_wordy P_law_wordy) (T : Txt K mg aB aR aE aHouse) (c_law_taken : C8.Cal P w K mg base 1 "_law_taken" (sp_law_taken K) []) (c_law_tree : C8.Cal P w K mg base 3 "_law_tree" (sp_law_tree K) []) : C8.Cal P w K mg base 4 "_law_wordy" (sp_law_wordy K) [] :=
  cal_of D sc_law_wordy (fun vs H Q E h => by obtain ⟨_, rfl, _⟩ := h; rfl) (fun f cdv A outer s H vs Q E hr h => ⟨(t_law_wordy K), d_law_wordy T c_law_taken c_law_tree hr, p_law_wordy T vs H Q E h⟩)
end
section
variable {P : Program} {w : World} {K : Frag} {mg : Str → Option Value} {base : Heap} {aB aR aE aHouse : Addr}
theorem d_law_up (T : Txt K mg aB aR aE aHouse) (c_law_row_of : C8.Cal P w K mg base 1 "_law_row_of" (sp_law_row_of K) []) {f : Addr} {cdv : Value} {A : Around} {outer : List Env} {s : Shared} {H : Hp} {E : XK} (hr : Room 1 (A.deeper (envOfC "_law_up" (C8.fnScope s_law_up) s.heap.objs.size f cdv))) :
    PSs (cxOf C8.CX0 P w K mg base N_law_up "_law_up" (C8.fnScope s_law_up) f cdv A outer s H E).nox (C8.fnBody s_law_up) (t_law_up K) :=
  (pss_one (ps_ret (pe_op op_cat (pe_lc (own := [("_law_told", 2)]) rfl sc_law_up.nd (pi_any (C8.pe_c c_law_row_of hr (by decide) rfl (pa_cons (pv 0) (pa_cons (pv 1) pa_nil)))) (blkOk_by (own := [("_law_told", 2)]) (N := N_law_up) (sc := (C8.fnScope s_law_up)) (by decide +kernel)) (fun _ _ _ _ _ => (pg_name (i := 2) sc_law_up.nd rfl (by first | exact Or.inl rfl | exact Or.inr rfl))) (fun _ _ _ _ _ => pts_nil) (fun _ _ _ _ _ => (pe_ix ix_seq (pv 2) pe_int (fun _ _ => rfl)))) (pe_lst (pa_cons pe_str pa_nil)))))
theorem ok_law_up (D : DefB K mg "_law_up" s_law_up P_law_up) (T : Txt K mg aB aR aE aHouse) (c_law_row_of : C8.Cal P w K mg base 1 "_law_row_of" (sp_law_row_of K) []) : C8.Cal P w K mg base 2 "_law_up" (sp_law_up K) [] :=
  cal_of D sc_law_up (fun vs H Q E h => by obtain ⟨_, _, _, rfl, _⟩ := h; rfl) (fun f cdv A outer s H vs Q E hr h => ⟨(t_law_up K), d_law_up T c_law_row_of hr, p_law_up T vs H Q E h⟩)
end
section
variable {P : Program} {w : World} {K : Frag} {mg : Str → Option Value} {base : Heap} {aB aR aE aHouse : Addr}
theorem d_law_near (T : Txt K mg aB aR aE aHouse) (c_law_row_of : C8.Cal P w K mg base 1 "_law_row_of" (sp_law_row_of K) []) {f : Addr} {cdv : Value} {A : Around} {outer : List Env} {s : Shared} {H : Hp} {E : XK} (hr : Room 1 (A.deeper (envOfC "_law_near" (C8.fnScope s_law_near) s.heap.objs.size f cdv))) :
    PSs (cxOf C8.CX0 P w K mg base N_law_near "_law_near" (C8.fnScope s_law_near) f cdv A outer s H E).nox (C8.fnBody s_law_near) (t_law_near K) :=
  (pss_cons (ps_for PassesOwn.never rfl (pi_any (C8.pe_c c_law_row_of hr (by decide) rfl (pa_cons (pv 0) (pa_cons (pv 1) pa_nil)))) (pg_name (i := 3) sc_law_near.nd rfl (by first | exact Or.inl rfl | exact Or.inr rfl)) (pss_cons (ps_setLc (i := 4) (own := [("_law_method", 5)]) rfl sc_law_near.nd rfl rfl (sw_true rfl rfl rfl (by decide +kernel)) (pi_any (pe_ix ix_seq (pv 3) pe_int (fun _ _ => rfl))) (blkOk_by (own := [("_law_method", 5)]) (N := N_law_near) (sc := (C8.fnScope s_law_near)) (by decide +kernel)) (fun _ _ _ _ _ => (pg_name (i := 5) sc_law_near.nd rfl (by first | exact Or.inl rfl | exact Or.inr rfl))) (fun _ _ _ _ _ => pts_nil) (fun _ _ _ _ _ => (pe_ix ix_seq (pv 5) pe_int (fun _ _ => rfl))))
    (pss_one (ps_if (pt_cmpR op_in_seq (pv 2) (pv 4) (by with_unfolding_all rfl)) (pss_one (ps_ret (pe_tup (pa_cons (pe_ix ix_seq (pv 3) pe_int (fun _ _ => rfl)) (pa_cons (pe_bm PySem.F.plainAttrs_list PySem.F.slot_list_index PySem.F.type_list_index mt_index (pv 4) (pa_cons (pv 2) pa_nil)) pa_nil))))) pss_nil))))
    (pss_one (ps_ret pe_non)))
theorem ok_law_near (D : DefB K mg "_law_near" s_law_near P_law_near) (T : Txt K mg aB aR aE aHouse) (c_law_row_of : C8.Cal P w K mg base 1 "_law_row_of" (sp_law_row_of K) []) : C8.Cal P w K mg base 2 "_law_near" (sp_law_near K) [] :=
  cal_of D sc_law_near (fun vs H Q E h => by obtain ⟨_, _, _, _, rfl, _⟩ := h; rfl) (fun f cdv A outer s H vs Q E hr h => ⟨(t_law_near K), d_law_near T c_law_row_of hr, p_law_near T vs H Q E h⟩)
end
abbrev qLam : Str := (envOfC "law" (C8.fnScope s_law) 0 0 .none).qual ++ ("<lambda>" : Str)
/-- the scope of the comprehension that the loop of law stores -/
def lcSc_law_3 : Scope := match C8.fnBody s_law with
  | [_, _, _, .For _ _ [_, .Assign _ (.ListComp _ _ sc _) _, _, _, _, _, _, _] _ _, _] => sc
  | _ => ⟨.function, [], false, false, []⟩
section
variable {P : Program} {w : World} {K : Frag} {mg : Str → Option Value} {base : Heap} {aB aR aE aHouse aN : Addr}
theorem d_law (T : Txt K mg aB aR aE aHouse) (ER : ErrT K mg aN) (c_law_taken : C8.Cal P w K mg base 1 "_law_taken" (sp_law_taken K) []) (c_law_pick : C8.Cal P w K mg base 2 "_law_pick" (sp_law_pick K) []) (c_law_alike : C8.Cal P w K mg base 2 "_law_alike" (sp_law_alike K) []) (c_law_row_of : C8.Cal P w K mg base 1 "_law_row_of" (sp_law_row_of K) []) (c_law_wordy : C8.Cal P w K mg base 4 "_law_wordy" (sp_law_wordy K) []) (c_law_classes : C8.Cal P w K mg base 5 "_law_classes" (sp_law_classes K) []) (c_law_up : C8.Cal P w K mg base 2 "_law_up" (sp_law_up K) []) (c_law_near : C8.Cal P w K mg base 2 "_law_near" (sp_law_near K) []) (c_method_line : C8.Cal P w K mg base 4 "method_line" (sp_method_line K aHouse) []) (c_upper_method : C8.Cal P w K mg base 4 "upper_method" (sp_upper_method K aHouse) [])
    (c_House : C8.Mak P w K mg base 6 "House" aHouse (sp_House_init K aHouse) []) {fR : Addr} {fdR : FuncData} (FR : FnOk P w K mg base (L2.CX P w) 4 fR fdR P_reached_from (sp_reached_from K aHouse aN)) (mR : mg "reached_from" = some (.ref fR)) (kR : PySem.W.keepIn K (.ref fR) = true) (bR : Binds K fdR P_reached_from [])
    {gE cL PT : Addr} {oc : Value} {od : Option Addr} {dV kV doc pm : Value} {an : Option Addr} {cdE ct : Value} {osl : Array (Option Value)} (mE : mg "_law_errorc" = some (.ref gE)) (kE : PySem.W.keepIn K (.ref gE) = true)
    (lkE : K.lookup gE = some ⟨oc, od, .func (PySem.W.fnOf "_law_errorc" "_law_errorc" (C8.fnArgs s_law_errorc) (C8.fnBody s_law_errorc) (C8.fnScope s_law_errorc) dV kV doc pm an cdE ct), osl⟩) (hcE : PySem.W.codeIn K cdE "_law_errorc" = true)
    (bE : Binds K (PySem.W.fnOf "_law_errorc" "_law_errorc" (C8.fnArgs s_law_errorc) (C8.fnBody s_law_errorc) (C8.fnScope s_law_errorc) dV kV doc pm an cdE ct) ["_law_work"] []) (TB : LamX.TabB base mg cL PT)
    {f : Addr} {A : Around} {outer : List Env} {s : Shared} {H : Hp} {E : XK} (hr : Room 7 (A.deeper (envOfC "law" (C8.fnScope s_law) s.heap.objs.size f (.ref cL)))) :
    PSs (cxOf C8.CX0 P w K mg base N_law "law" (C8.fnScope s_law) f (.ref cL) A outer s H E).nox (C8.fnBody s_law) (t_law K aHouse aN PT qLam) :=
  (pss_cons (ps_set (i := 1) sc_law.nd rfl (by first | exact Or.inl rfl | exact Or.inr rfl) (pe_lst (pa_cons (pv 0) (pa_cons pe_int (pa_cons pe_int (pa_cons pe_int pa_nil))))))
    (pss_cons (ps_set (i := 2) sc_law.nd rfl (by first | exact Or.inl rfl | exact Or.inr rfl) (pe_ifExp (pt_cmpR op_gt (C8.pe_c c_law_taken hr (by decide) rfl (pa_cons (pv 1) (pa_cons pe_int pa_nil))) pe_int (nomark _)) (C8.pe_c c_law_wordy hr (by decide) rfl (pa_cons (pv 1) (pa_cons pe_int pa_nil))) (C8.pe_c c_law_classes hr (by decide) rfl (pa_cons (pv 1) (pa_cons pe_int (pa_cons pe_int pa_nil))))))
    (pss_cons (ps_set (i := 3) sc_law.nd rfl (by first | exact Or.inl rfl | exact Or.inr rfl) (C8.pe_mk c_House hr (by decide) rfl (pa_cons (pv 2) pa_nil)))
    (pss_cons (ps_for PassesOwn.never rfl (pi_any (pe_op op_cat (pe_lst (pa_cons pe_str pa_nil)) (pe_lc (own := [("_law_told", 10)]) rfl sc_law.nd (pi_any (pv 2)) (blkOk_by (own := [("_law_told", 10)]) (N := N_law) (sc := (C8.fnScope s_law)) (by decide +kernel)) (fun _ _ _ _ _ => (pg_name (i := 10) sc_law.nd rfl (by first | exact Or.inl rfl | exact Or.inr rfl))) (fun _ _ _ _ _ => pts_nil) (fun _ _ _ _ _ => (pe_ix ix_seq (pv 10) pe_int (fun _ _ => rfl)))))) (pg_name (i := 4) sc_law.nd rfl (by first | exact Or.inl rfl | exact Or.inr rfl)) (pss_cons (ps_set (i := 5) sc_law.nd rfl (by first | exact Or.inl rfl | exact Or.inr rfl) (C8.pe_c c_law_pick hr (by decide) rfl (pa_cons (pv 1) (pa_cons (pe_lst (pa_cons pe_str (pa_cons pe_str (pa_cons pe_str (pa_cons pe_str (pa_cons pe_str (pa_cons pe_str pa_nil))))))) pa_nil))))
    (pss_cons (ps_setLc (i := 6) (own := [("_law_told", 10)]) rfl sc_law.nd rfl rfl (sw_true rfl rfl rfl (by decide +kernel)) (pi_any (C8.pe_c c_law_row_of hr (by decide) rfl (pa_cons (pv 2) (pa_cons (pv 4) pa_nil)))) (blkOk_by (own := [("_law_told", 10)]) (N := N_law) (sc := (C8.fnScope s_law)) (by decide +kernel)) (fun _ _ _ _ _ => (pg_name (i := 10) sc_law.nd rfl (by first | exact Or.inl rfl | exact Or.inr rfl))) (fun _ _ _ _ _ => (pts_one (pt_cmpR op_in_seq (pv 5) (pe_lc (own := [("_law_method", 12)]) rfl sc_law.nd (pi_any (pe_ix ix_seq (pv 10) pe_int (fun _ _ => rfl))) (blkOk_by (own := [("_law_method", 12)]) (N := N_law) (sc := (relS (lcSc_law_3) (C8.fnScope s_law))) (by decide +kernel)) (fun _ _ _ _ _ => (pg_name (i := 12) sc_law.nd rfl (by first | exact Or.inl rfl | exact Or.inr rfl))) (fun _ _ _ _ _ => pts_nil) (fun _ _ _ _ _ => (pe_ix ix_seq (pv 12) pe_int (fun _ _ => rfl)))) (by with_unfolding_all rfl)))) (fun _ _ _ _ _ => (pe_ix ix_seq (pv 10) pe_int (fun _ _ => rfl))))
    (pss_cons (ps_if (pt_not (pt_val (C8.pe_c c_law_alike hr (by decide) rfl (pa_cons (C8.pe_c c_method_line hr (by decide) rfl (pa_cons (pv 3) (pa_cons (pv 4) (pa_cons (pv 5) pa_nil)))) (pa_cons (pe_callTy call_tuple_of (by rfl) T.z_tuple (by decide +kernel) (pa_cons (pv 6) pa_nil)) pa_nil))))) (pss_one (ps_ret pe_bl)) pss_nil)
    (pss_cons (ps_set (i := 7) sc_law.nd rfl (by first | exact Or.inl rfl | exact Or.inr rfl) (pe_ifExp (pt_cmpR op_eq (pv 4) pe_str (nomark _)) pe_non (C8.pe_c c_law_near hr (by decide) rfl (pa_cons (pv 2) (pa_cons (pe_ix ix_seq (C8.pe_c c_law_up hr (by decide) rfl (pa_cons (pv 2) (pa_cons (pv 4) pa_nil))) pe_int (fun _ _ => rfl)) (pa_cons (pv 5) pa_nil))))))
    (pss_cons (ps_if (pt_not (pt_val (C8.pe_c c_law_alike hr (by decide) rfl (pa_cons (C8.pe_c c_upper_method hr (by decide) rfl (pa_cons (pv 3) (pa_cons (pv 4) (pa_cons (pv 5) pa_nil)))) (pa_cons (pv 7) pa_nil))))) (pss_one (ps_ret pe_bl)) pss_nil)
    (pss_cons (ps_set (i := 8) sc_law.nd rfl (by first | exact Or.inl rfl | exact Or.inr rfl) (pe_cmpR (op_eqD (hu64 hr)) (pe_slice sl_any (pv 6) po_none (po_some pe_int)) (pe_lst (pa_cons (pv 4) pa_nil)) (nomark _)))
    (pss_cons (ps_if (pt_val (pv 8)) (pss_cons (ps_setLc (i := 9) (own := [("_law_told", 10)]) rfl sc_law.nd rfl rfl (sw_true rfl rfl rfl (by decide +kernel)) (pi_any (pv 2)) (blkOk_by (own := [("_law_told", 10)]) (N := N_law) (sc := (C8.fnScope s_law)) (by decide +kernel)) (fun _ _ _ _ _ => (pg_name (i := 10) sc_law.nd rfl (by first | exact Or.inl rfl | exact Or.inr rfl))) (fun _ _ _ _ _ => (pts_one (pt_cmpR op_notN1 (C8.pe_c c_law_near hr (by decide) rfl (pa_cons (pv 2) (pa_cons (pe_ix ix_seq (pv 10) pe_int (fun _ _ => rfl)) (pa_cons (pv 5) pa_nil)))) pe_non (nomark _)))) (fun _ _ _ _ _ => (pe_ix ix_seq (pv 10) pe_int (fun _ _ => rfl))))
    (pss_cons (ps_setLc (i := 9) (own := [("_law_other", 11)]) rfl sc_law.nd rfl rfl (sw_true rfl rfl rfl (by decide +kernel)) (pi_any (pv 9)) (blkOk_by (own := [("_law_other", 11)]) (N := N_law) (sc := (C8.fnScope s_law)) (by decide +kernel)) (fun _ _ _ _ _ => (pg_name (i := 11) sc_law.nd rfl (by first | exact Or.inl rfl | exact Or.inr rfl))) (fun _ _ _ _ _ => (pts_one (pt_cmpR op_eq (pe_ix ix_seq (C8.pe_c c_law_near hr (by decide) rfl (pa_cons (pv 2) (pa_cons (pv 11) (pa_cons (pv 5) pa_nil)))) pe_int (fun _ _ => rfl)) (pv 4) (nomark _)))) (fun _ _ _ _ _ => (pv 11)))
    (pss_one (ps_if (pt_not (pt_val (C8.pe_c c_law_alike hr (by decide) rfl (pa_cons (pe_call FR (hr.mono (by decide)) rfl mR kR bR .nil (passes_call LamX.takes0 (fun _ _ _ _ h => h)) (pa_cons (pv 3) (pa_cons (pv 4) (pa_cons (pv 5) pa_nil)))) (pa_cons (pe_callTy call_tuple_of (by rfl) T.z_tuple (by decide +kernel) (pa_cons (pv 9) pa_nil)) pa_nil))))) (pss_one (ps_ret pe_bl)) pss_nil)))) (pss_one (ps_if (pt_cmpR op_ne (LamX.pe_lamcall (x := "_law_errorc") (a := "_law_work") (g := gE) (c := cL) (P := PT) (k := 4) (Ng := N_law_errorc) (T := [(PT, qLam)]) (TT := TTerr K aN) rfl mE kE lkE hcE bE sc_law_errorc rfl (Or.inl rfl) (errorc_gives T ER) TB rfl (List.mem_singleton.mpr rfl) (fun p hp _ => congrArg Prod.snd (List.mem_singleton.mp hp)) (hr.mono (by decide)) (LamX.lamS_by (sc := C8.fnScope s_law) (by decide +kernel)) rfl (fun _ _ _ _ _ => rfl) (fun A outer s H E f c' hr2 => pe_call FR hr2 rfl mR kR bR .nil (passes_call (takes_of rfl rfl rfl rfl) (fun _ _ _ _ h => h)) (pa_cons (pv 3) (pa_cons (pv 4) (pa_cons (pv 5) pa_nil))))) pe_str (nomark _)) (pss_one (ps_ret pe_bl)) pss_nil)))
    (pss_one (ps_if (PW.pt (pw_and (pt_val (pv 8)) (pw_and1 (pt_cmpR (op_neD (hu64 hr)) (pe_slice sl_any (pv 6) (po_some pe_int) po_none) (pe_callTy call_list_of (by rfl) T.z_list (by decide +kernel) (pa_cons (C8.pe_c c_method_line hr (by decide) rfl (pa_cons (pv 3) (pa_cons (pe_ix ix_seq (C8.pe_c c_law_up hr (by decide) rfl (pa_cons (pv 2) (pa_cons (pv 4) pa_nil))) pe_int (fun _ _ => rfl)) (pa_cons (pv 5) pa_nil)))) pa_nil)) (nomark _))))) (pss_one (ps_ret pe_bl)) pss_nil))))))))))
    (pss_one (ps_ret pe_bl))))))
end
theorem b_is_in : ∀ (kV doc pm : Value) (an : Option Addr) (cdv ct : Value) (us : List Value), us.length = P_is_in.length → bindArgs (PySem.W.fnOf "is_in" "is_in" (C8.fnArgs s_is_in) (C8.fnBody s_is_in) (C8.fnScope s_is_in) .none kV doc pm an cdv ct) ⟨us, []⟩ = pure (P_is_in.zip us) := fun _ _ _ _ _ _ us hl => match us, hl with | [_, _, _], _ => rfl
theorem b_is_word : ∀ (kV doc pm : Value) (an : Option Addr) (cdv ct : Value) (us : List Value), us.length = P_is_word.length → bindArgs (PySem.W.fnOf "is_word" "is_word" (C8.fnArgs s_is_word) (C8.fnBody s_is_word) (C8.fnScope s_is_word) .none kV doc pm an cdv ct) ⟨us, []⟩ = pure (P_is_word.zip us) := fun _ _ _ _ _ _ us hl => match us, hl with | [_], _ => rfl
theorem b_is_list : ∀ (kV doc pm : Value) (an : Option Addr) (cdv ct : Value) (us : List Value), us.length = P_is_list.length → bindArgs (PySem.W.fnOf "is_list" "is_list" (C8.fnArgs s_is_list) (C8.fnBody s_is_list) (C8.fnScope s_is_list) .none kV doc pm an cdv ct) ⟨us, []⟩ = pure (P_is_list.zip us) := fun _ _ _ _ _ _ us hl => match us, hl with | [_, _], _ => rfl
theorem b_names_of : ∀ (kV doc pm : Value) (an : Option Addr) (cdv ct : Value) (us : List Value), us.length = P_names_of.length → bindArgs (PySem.W.fnOf "names_of" "names_of" (C8.fnArgs s_names_of) (C8.fnBody s_names_of) (C8.fnScope s_names_of) .none kV doc pm an cdv ct) ⟨us, []⟩ = pure (P_names_of.zip us) := fun _ _ _ _ _ _ us hl => match us, hl with | [_], _ => rfl
theorem b_row_of : ∀ (kV doc pm : Value) (an : Option Addr) (cdv ct : Value) (us : List Value), us.length = P_row_of.length → bindArgs (PySem.W.fnOf "row_of" "row_of" (C8.fnArgs s_row_of) (C8.fnBody s_row_of) (C8.fnScope s_row_of) .none kV doc pm an cdv ct) ⟨us, []⟩ = pure (P_row_of.zip us) := fun _ _ _ _ _ _ us hl => match us, hl with | [_, _], _ => rfl
theorem b_is_class : ∀ (kV doc pm : Value) (an : Option Addr) (cdv ct : Value) (us : List Value), us.length = P_is_class.length → bindArgs (PySem.W.fnOf "is_class" "is_class" (C8.fnArgs s_is_class) (C8.fnBody s_is_class) (C8.fnScope s_is_class) .none kV doc pm an cdv ct) ⟨us, []⟩ = pure (P_is_class.zip us) := fun _ _ _ _ _ _ us hl => match us, hl with | [_, _], _ => rfl
theorem b_are_fields : ∀ (kV doc pm : Value) (an : Option Addr) (cdv ct : Value) (us : List Value), us.length = P_are_fields.length → bindArgs (PySem.W.fnOf "are_fields" "are_fields" (C8.fnArgs s_are_fields) (C8.fnBody s_are_fields) (C8.fnScope s_are_fields) .none kV doc pm an cdv ct) ⟨us, []⟩ = pure (P_are_fields.zip us) := fun _ _ _ _ _ _ us hl => match us, hl with | [_, _, _], _ => rfl
theorem b_is_kind_in : ∀ (kV doc pm : Value) (an : Option Addr) (cdv ct : Value) (us : List Value), us.length = P_is_kind_in.length → bindArgs (PySem.W.fnOf "is_kind_in" "is_kind_in" (C8.fnArgs s_is_kind_in) (C8.fnBody s_is_kind_in) (C8.fnScope s_is_kind_in) .none kV doc pm an cdv ct) ⟨us, []⟩ = pure (P_is_kind_in.zip us) := fun _ _ _ _ _ _ us hl => match us, hl with | [_, _], _ => rfl
theorem b_is_method : ∀ (kV doc pm : Value) (an : Option Addr) (cdv ct : Value) (us : List Value), us.length = P_is_method.length → bindArgs (PySem.W.fnOf "is_method" "is_method" (C8.fnArgs s_is_method) (C8.fnBody s_is_method) (C8.fnScope s_is_method) .none kV doc pm an cdv ct) ⟨us, []⟩ = pure (P_is_method.zip us) := fun _ _ _ _ _ _ us hl => match us, hl with | [_, _, _, _], _ => rfl
theorem b_has_seen : ∀ (kV doc pm : Value) (an : Option Addr) (cdv ct : Value) (us : List Value), us.length = P_has_seen.length → bindArgs (PySem.W.fnOf "has_seen" "has_seen" (C8.fnArgs s_has_seen) (C8.fnBody s_has_seen) (C8.fnScope s_has_seen) .none kV doc pm an cdv ct) ⟨us, []⟩ = pure (P_has_seen.zip us) := fun _ _ _ _ _ _ us hl => match us, hl with | [_, _, _, _], _ => rfl
theorem b_is_step : ∀ (kV doc pm : Value) (an : Option Addr) (cdv ct : Value) (us : List Value), us.length = P_is_step.length → bindArgs (PySem.W.fnOf "is_step" "is_step" (C8.fnArgs s_is_step) (C8.fnBody s_is_step) (C8.fnScope s_is_step) .none kV doc pm an cdv ct) ⟨us, []⟩ = pure (P_is_step.zip us) := fun _ _ _ _ _ _ us hl => match us, hl with | [_, _, _], _ => rfl
theorem b_is_handler : ∀ (kV doc pm : Value) (an : Option Addr) (cdv ct : Value) (us : List Value), us.length = P_is_handler.length → bindArgs (PySem.W.fnOf "is_handler" "is_handler" (C8.fnArgs s_is_handler) (C8.fnBody s_is_handler) (C8.fnScope s_is_handler) .none kV doc pm an cdv ct) ⟨us, []⟩ = pure (P_is_handler.zip us) := fun _ _ _ _ _ _ us hl => match us, hl with | [_, _, _], _ => rfl
theorem b_check_code : ∀ (kV doc pm : Value) (an : Option Addr) (cdv ct : Value) (us : List Value), us.length = P_check_code.length → bindArgs (PySem.W.fnOf "check_code" "check_code" (C8.fnArgs s_check_code) (C8.fnBody s_check_code) (C8.fnScope s_check_code) .none kV doc pm an cdv ct) ⟨us, []⟩ = pure (P_check_code.zip us) := fun _ _ _ _ _ _ us hl => match us, hl with | [_, _, _, _], _ => rfl
theorem b_check_classes : ∀ (kV doc pm : Value) (an : Option Addr) (cdv ct : Value) (us : List Value), us.length = P_check_classes.length → bindArgs (PySem.W.fnOf "check_classes" "check_classes" (C8.fnArgs s_check_classes) (C8.fnBody s_check_classes) (C8.fnScope s_check_classes) .none kV doc pm an cdv ct) ⟨us, []⟩ = pure (P_check_classes.zip us) := fun _ _ _ _ _ _ us hl => match us, hl with | [_], _ => rfl
theorem b_need_house : ∀ (kV doc pm : Value) (an : Option Addr) (cdv ct : Value) (us : List Value), us.length = P_need_house.length → bindArgs (PySem.W.fnOf "need_house" "need_house" (C8.fnArgs s_need_house) (C8.fnBody s_need_house) (C8.fnScope s_need_house) .none kV doc pm an cdv ct) ⟨us, []⟩ = pure (P_need_house.zip us) := fun _ _ _ _ _ _ us hl => match us, hl with | [_], _ => rfl
theorem b_need_name : ∀ (kV doc pm : Value) (an : Option Addr) (cdv ct : Value) (us : List Value), us.length = P_need_name.length → bindArgs (PySem.W.fnOf "need_name" "need_name" (C8.fnArgs s_need_name) (C8.fnBody s_need_name) (C8.fnScope s_need_name) .none kV doc pm an cdv ct) ⟨us, []⟩ = pure (P_need_name.zip us) := fun _ _ _ _ _ _ us hl => match us, hl with | [_, _], _ => rfl
theorem b_need_word : ∀ (kV doc pm : Value) (an : Option Addr) (cdv ct : Value) (us : List Value), us.length = P_need_word.length → bindArgs (PySem.W.fnOf "need_word" "need_word" (C8.fnArgs s_need_word) (C8.fnBody s_need_word) (C8.fnScope s_need_word) .none kV doc pm an cdv ct) ⟨us, []⟩ = pure (P_need_word.zip us) := fun _ _ _ _ _ _ us hl => match us, hl with | [_], _ => rfl
theorem b_need_asked : ∀ (kV doc pm : Value) (an : Option Addr) (cdv ct : Value) (us : List Value), us.length = P_need_asked.length → bindArgs (PySem.W.fnOf "need_asked" "need_asked" (C8.fnArgs s_need_asked) (C8.fnBody s_need_asked) (C8.fnScope s_need_asked) .none kV doc pm an cdv ct) ⟨us, []⟩ = pure (P_need_asked.zip us) := fun _ _ _ _ _ _ us hl => match us, hl with | [_, _, _], _ => rfl
theorem b_line_of : ∀ (kV doc pm : Value) (an : Option Addr) (cdv ct : Value) (us : List Value), us.length = P_line_of.length → bindArgs (PySem.W.fnOf "line_of" "line_of" (C8.fnArgs s_line_of) (C8.fnBody s_line_of) (C8.fnScope s_line_of) .none kV doc pm an cdv ct) ⟨us, []⟩ = pure (P_line_of.zip us) := fun _ _ _ _ _ _ us hl => match us, hl with | [_, _, _], _ => rfl
theorem b_method_line : ∀ (kV doc pm : Value) (an : Option Addr) (cdv ct : Value) (us : List Value), us.length = P_method_line.length → bindArgs (PySem.W.fnOf "method_line" "method_line" (C8.fnArgs s_method_line) (C8.fnBody s_method_line) (C8.fnScope s_method_line) .none kV doc pm an cdv ct) ⟨us, []⟩ = pure (P_method_line.zip us) := fun _ _ _ _ _ _ us hl => match us, hl with | [_, _, _], _ => rfl
theorem b_upper_method : ∀ (kV doc pm : Value) (an : Option Addr) (cdv ct : Value) (us : List Value), us.length = P_upper_method.length → bindArgs (PySem.W.fnOf "upper_method" "upper_method" (C8.fnArgs s_upper_method) (C8.fnBody s_upper_method) (C8.fnScope s_upper_method) .none kV doc pm an cdv ct) ⟨us, []⟩ = pure (P_upper_method.zip us) := fun _ _ _ _ _ _ us hl => match us, hl with | [_, _, _], _ => rfl
theorem b_reached_from : ∀ (kV doc pm : Value) (an : Option Addr) (cdv ct : Value) (us : List Value), us.length = P_reached_from.length → bindArgs (PySem.W.fnOf "reached_from" "reached_from" (C8.fnArgs s_reached_from) (C8.fnBody s_reached_from) (C8.fnScope s_reached_from) .none kV doc pm an cdv ct) ⟨us, []⟩ = pure (P_reached_from.zip us) := fun _ _ _ _ _ _ us hl => match us, hl with | [_, _, _], _ => rfl
theorem b_law_taken : ∀ (kV doc pm : Value) (an : Option Addr) (cdv ct : Value) (us : List Value), us.length = P_law_taken.length → bindArgs (PySem.W.fnOf "_law_taken" "_law_taken" (C8.fnArgs s_law_taken) (C8.fnBody s_law_taken) (C8.fnScope s_law_taken) .none kV doc pm an cdv ct) ⟨us, []⟩ = pure (P_law_taken.zip us) := fun _ _ _ _ _ _ us hl => match us, hl with | [_, _], _ => rfl
theorem b_law_pick : ∀ (kV doc pm : Value) (an : Option Addr) (cdv ct : Value) (us : List Value), us.length = P_law_pick.length → bindArgs (PySem.W.fnOf "_law_pick" "_law_pick" (C8.fnArgs s_law_pick) (C8.fnBody s_law_pick) (C8.fnScope s_law_pick) .none kV doc pm an cdv ct) ⟨us, []⟩ = pure (P_law_pick.zip us) := fun _ _ _ _ _ _ us hl => match us, hl with | [_, _], _ => rfl
theorem b_law_alike : ∀ (kV doc pm : Value) (an : Option Addr) (cdv ct : Value) (us : List Value), us.length = P_law_alike.length → bindArgs (PySem.W.fnOf "_law_alike" "_law_alike" (C8.fnArgs s_law_alike) (C8.fnBody s_law_alike) (C8.fnScope s_law_alike) .none kV doc pm an cdv ct) ⟨us, []⟩ = pure (P_law_alike.zip us) := fun _ _ _ _ _ _ us hl => match us, hl with | [_, _], _ => rfl
theorem b_law_row_of : ∀ (kV doc pm : Value) (an : Option Addr) (cdv ct : Value) (us : List Value), us.length = P_law_row_of.length → bindArgs (PySem.W.fnOf "_law_row_of" "_law_row_of" (C8.fnArgs s_law_row_of) (C8.fnBody s_law_row_of) (C8.fnScope s_law_row_of) .none kV doc pm an cdv ct) ⟨us, []⟩ = pure (P_law_row_of.zip us) := fun _ _ _ _ _ _ us hl => match us, hl with | [_, _], _ => rfl
theorem b_law_tree : ∀ (kV doc pm : Value) (an : Option Addr) (cdv ct : Value) (us : List Value), us.length = P_law_tree.length → bindArgs (PySem.W.fnOf "_law_tree" "_law_tree" (C8.fnArgs s_law_tree) (C8.fnBody s_law_tree) (C8.fnScope s_law_tree) .none kV doc pm an cdv ct) ⟨us, []⟩ = pure (P_law_tree.zip us) := fun _ _ _ _ _ _ us hl => match us, hl with | [_, _], _ => rfl
theorem b_law_signs : ∀ (kV doc pm : Value) (an : Option Addr) (cdv ct : Value) (us : List Value), us.length = P_law_signs.length → bindArgs (PySem.W.fnOf "_law_signs" "_law_signs" (C8.fnArgs s_law_signs) (C8.fnBody s_law_signs) (C8.fnScope s_law_signs) .none kV doc pm an cdv ct) ⟨us, []⟩ = pure (P_law_signs.zip us) := fun _ _ _ _ _ _ us hl => match us, hl with | [_, _], _ => rfl
theorem b_law_step : ∀ (kV doc pm : Value) (an : Option Addr) (cdv ct : Value) (us : List Value), us.length = P_law_step.length → bindArgs (PySem.W.fnOf "_law_step" "_law_step" (C8.fnArgs s_law_step) (C8.fnBody s_law_step) (C8.fnScope s_law_step) .none kV doc pm an cdv ct) ⟨us, []⟩ = pure (P_law_step.zip us) := fun _ _ _ _ _ _ us hl => match us, hl with | [_, _, _], _ => rfl
theorem b_law_code : ∀ (kV doc pm : Value) (an : Option Addr) (cdv ct : Value) (us : List Value), us.length = P_law_code.length → bindArgs (PySem.W.fnOf "_law_code" "_law_code" (C8.fnArgs s_law_code) (C8.fnBody s_law_code) (C8.fnScope s_law_code) .none kV doc pm an cdv ct) ⟨us, []⟩ = pure (P_law_code.zip us) := fun _ _ _ _ _ _ us hl => match us, hl with | [_, _, _], _ => rfl
theorem b_law_handlers : ∀ (kV doc pm : Value) (an : Option Addr) (cdv ct : Value) (us : List Value), us.length = P_law_handlers.length → bindArgs (PySem.W.fnOf "_law_handlers" "_law_handlers" (C8.fnArgs s_law_handlers) (C8.fnBody s_law_handlers) (C8.fnScope s_law_handlers) .none kV doc pm an cdv ct) ⟨us, []⟩ = pure (P_law_handlers.zip us) := fun _ _ _ _ _ _ us hl => match us, hl with | [_, _, _], _ => rfl
theorem b_law_bare : ∀ (kV doc pm : Value) (an : Option Addr) (cdv ct : Value) (us : List Value), us.length = P_law_bare.length → bindArgs (PySem.W.fnOf "_law_bare" "_law_bare" (C8.fnArgs s_law_bare) (C8.fnBody s_law_bare) (C8.fnScope s_law_bare) .none kV doc pm an cdv ct) ⟨us, []⟩ = pure (P_law_bare.zip us) := fun _ _ _ _ _ _ us hl => match us, hl with | [_, _], _ => rfl
theorem b_law_classes : ∀ (kV doc pm : Value) (an : Option Addr) (cdv ct : Value) (us : List Value), us.length = P_law_classes.length → bindArgs (PySem.W.fnOf "_law_classes" "_law_classes" (C8.fnArgs s_law_classes) (C8.fnBody s_law_classes) (C8.fnScope s_law_classes) .none kV doc pm an cdv ct) ⟨us, []⟩ = pure (P_law_classes.zip us) := fun _ _ _ _ _ _ us hl => match us, hl with | [_, _, _], _ => rfl
theorem b_law_wordy : ∀ (kV doc pm : Value) (an : Option Addr) (cdv ct : Value) (us : List Value), us.length = P_law_wordy.length → bindArgs (PySem.W.fnOf "_law_wordy" "_law_wordy" (C8.fnArgs s_law_wordy) (C8.fnBody s_law_wordy) (C8.fnScope s_law_wordy) .none kV doc pm an cdv ct) ⟨us, []⟩ = pure (P_law_wordy.zip us) := fun _ _ _ _ _ _ us hl => match us, hl with | [_, _], _ => rfl
theorem b_law_up : ∀ (kV doc pm : Value) (an : Option Addr) (cdv ct : Value) (us : List Value), us.length = P_law_up.length → bindArgs (PySem.W.fnOf "_law_up" "_law_up" (C8.fnArgs s_law_up) (C8.fnBody s_law_up) (C8.fnScope s_law_up) .none kV doc pm an cdv ct) ⟨us, []⟩ = pure (P_law_up.zip us) := fun _ _ _ _ _ _ us hl => match us, hl with | [_, _], _ => rfl
theorem b_law_near : ∀ (kV doc pm : Value) (an : Option Addr) (cdv ct : Value) (us : List Value), us.length = P_law_near.length → bindArgs (PySem.W.fnOf "_law_near" "_law_near" (C8.fnArgs s_law_near) (C8.fnBody s_law_near) (C8.fnScope s_law_near) .none kV doc pm an cdv ct) ⟨us, []⟩ = pure (P_law_near.zip us) := fun _ _ _ _ _ _ us hl => match us, hl with | [_, _, _], _ => rfl
theorem b_law_errorc : ∀ (kV doc pm : Value) (an : Option Addr) (cdv ct : Value) (us : List Value), us.length = P_law_errorc.length → bindArgs (PySem.W.fnOf "_law_errorc" "_law_errorc" (C8.fnArgs s_law_errorc) (C8.fnBody s_law_errorc) (C8.fnScope s_law_errorc) .none kV doc pm an cdv ct) ⟨us, []⟩ = pure (P_law_errorc.zip us) := fun _ _ _ _ _ _ us hl => match us, hl with | [_], _ => rfl
theorem defB_mk {K : Frag} {h : Heap} {mg : Str → Option Value} {x : Str} {st : Stmt} {ps : List Str} {f : Addr} {oc kV dc pm cd ct : Value} {od an : Option Addr} {sl : Array (Option Value)} (X : K.In h) (G : h.Ns mainGlobals mg)
    (a : PySem.W.nsIn K mainGlobals x = some (some (.ref f))) (l : K.lookup f = some ⟨oc, od, .func (PySem.W.fnOf x x (C8.fnArgs st) (C8.fnBody st) (C8.fnScope st) .none kV dc pm an cd ct), sl⟩) (c : PySem.W.codeIn K cd x = true) (k : PySem.W.keepIn K (.ref f) = true)
    (b : ∀ (kV doc pm : Value) (an : Option Addr) (cdv ct : Value) (us : List Value), us.length = ps.length → bindArgs (PySem.W.fnOf x x (C8.fnArgs st) (C8.fnBody st) (C8.fnScope st) .none kV doc pm an cdv ct) ⟨us, []⟩ = pure (ps.zip us)) : DefB K mg x st ps :=
  have F : C8.Fun K x x st f (PySem.W.fnOf x x (C8.fnArgs st) (C8.fnBody st) (C8.fnScope st) .none kV dc pm an cd ct) := ⟨_, _, _, _, _, _, _, _, _, _, rfl, l, c⟩
  ⟨f, _, ⟨F, PySem.W.mg_of X G a, k⟩, F.binds rfl b⟩
theorem td_tuple {K : Frag} {a : Addr} {e : Option Addr} {vs : Array Value} {n : Nat} {sl : Array (Option Value)} {xs : List Str} (l : K.lookup a = some ⟨.type "tuple", e, .seq vs n, sl⟩) (hs : vs.size ≤ 100000) (hv : Vals (xs.map V.str) vs.toList) : ∀ H, Td K H (.ref a) (.tuple (xs.map PyData.str)) := fun H =>
  .tup (.inr ⟨_, vs, n, l, rfl, rfl, sz100 hs, hv⟩) (Tds.of_strs xs)

section
variable {P : Program} {w : World} {K : Frag} {mg : Str → Option Value} {base : Heap} {aB aR aE aHouse aN : Addr}
theorem ok_reached (D : DefB K mg "reached_from" s_reached_from P_reached_from) (T : Txt K mg aB aR aE aHouse) (EN : ExN K mg "NotOwn" aN) (c_line_of : C8.Cal P w K mg base 2 "line_of" (sp_line_of K aHouse) []) (c_need_asked : C8.Cal P w K mg base 3 "need_asked" (sp_need_asked K aHouse) []) :
    ∃ f fd, FnOk P w K mg base (L2.CX P w) 4 f fd P_reached_from (sp_reached_from K aHouse aN) ∧ mg "reached_from" = some (.ref f) ∧ PySem.W.keepIn K (.ref f) = true ∧ Binds K fd P_reached_from [] := by
  obtain ⟨f, fd, F, b⟩ := D.ex
  obtain ⟨oc, od, dV, kV, doc, pm, an, cdv, ct, osl, rfl, lk, hcd⟩ := F.fn.ex
  exact ⟨f, _, fn_of lk hcd sc_reached_from (fun vs H Q E h => by obtain ⟨_, _, _, _, rfl, _⟩ := h; rfl) (fun A outer s H vs Q E hr h => ⟨_, d_reached_from T EN c_line_of c_need_asked hr, p_reached_from T vs H Q E h⟩), F.mgf, F.kp, b⟩
theorem mk_House {f : Addr} {fd : FuncData} (M : Mk K aHouse f) (F : C8.Fun K "__init__" "House.__init__" s_House_init f fd) (b : Binds K fd P_House_init []) (T : Txt K mg aB aR aE aHouse) (c_check_classes : C8.Cal P w K mg base 5 "check_classes" (sp_check_classes K) []) : C8.Mak P w K mg base 6 "House" aHouse (sp_House_init K aHouse) [] := by
  obtain ⟨u, hm, r⟩ := T.c_House
  have e : u = .ref aHouse := r
  subst e
  exact C8.mak0 M hm F b .nil sc_House_init (fun vs H Q E h => by obtain ⟨_, _, _, _, rfl, _⟩ := h; rfl) (fun cdv A outer s H vs Q E hr h => ⟨t_House_init K, d_House_init T c_check_classes hr, p_House_init T vs H Q E h⟩)
theorem chain
    (D_is_in : DefB K mg "is_in" s_is_in P_is_in)
    (D_is_word : DefB K mg "is_word" s_is_word P_is_word)
    (D_is_list : DefB K mg "is_list" s_is_list P_is_list)
    (D_names_of : DefB K mg "names_of" s_names_of P_names_of)
    (D_row_of : DefB K mg "row_of" s_row_of P_row_of)
    (D_is_class : DefB K mg "is_class" s_is_class P_is_class)
    (D_are_fields : DefB K mg "are_fields" s_are_fields P_are_fields)
    (D_is_kind_in : DefB K mg "is_kind_in" s_is_kind_in P_is_kind_in)
    (D_is_method : DefB K mg "is_method" s_is_method P_is_method)
    (D_has_seen : DefB K mg "has_seen" s_has_seen P_has_seen)
    (D_is_step : DefB K mg "is_step" s_is_step P_is_step)
    (D_is_handler : DefB K mg "is_handler" s_is_handler P_is_handler)
    (D_check_code : DefB K mg "check_code" s_check_code P_check_code)
    (D_check_classes : DefB K mg "check_classes" s_check_classes P_check_classes)
    (D_need_house : DefB K mg "need_house" s_need_house P_need_house)
    (D_need_name : DefB K mg "need_name" s_need_name P_need_name)
    (D_need_word : DefB K mg "need_word" s_need_word P_need_word)
    (D_need_asked : DefB K mg "need_asked" s_need_asked P_need_asked)
    (D_line_of : DefB K mg "line_of" s_line_of P_line_of)
    (D_method_line : DefB K mg "method_line" s_method_line P_method_line)
    (D_upper_method : DefB K mg "upper_method" s_upper_method P_upper_method)
    (D_reached_from : DefB K mg "reached_from" s_reached_from P_reached_from)
    (D_law_taken : DefB K mg "_law_taken" s_law_taken P_law_taken)
    (D_law_pick : DefB K mg "_law_pick" s_law_pick P_law_pick)
    (D_law_alike : DefB K mg "_law_alike" s_law_alike P_law_alike)
    (D_law_row_of : DefB K mg "_law_row_of" s_law_row_of P_law_row_of)
    (D_law_tree : DefB K mg "_law_tree" s_law_tree P_law_tree)
    (D_law_signs : DefB K mg "_law_signs" s_law_signs P_law_signs)
    (D_law_step : DefB K mg "_law_step" s_law_step P_law_step)
    (D_law_code : DefB K mg "_law_code" s_law_code P_law_code)
    (D_law_handlers : DefB K mg "_law_handlers" s_law_handlers P_law_handlers)
    (D_law_bare : DefB K mg "_law_bare" s_law_bare P_law_bare)
    (D_law_classes : DefB K mg "_law_classes" s_law_classes P_law_classes)
    (D_law_wordy : DefB K mg "_law_wordy" s_law_wordy P_law_wordy)
    (D_law_up : DefB K mg "_law_up" s_law_up P_law_up)
    (D_law_near : DefB K mg "_law_near" s_law_near P_law_near)
    (D_law_errorc : DefB K mg "_law_errorc" s_law_errorc P_law_errorc)
    (T : Txt K mg aB aR aE aHouse) (EN : ExN K mg "NotOwn" aN) (ER : ErrT K mg aN) {fI : Addr} {fdI : FuncData} (HM : Mk K aHouse fI) (HF : C8.Fun K "__init__" "House.__init__" s_House_init fI fdI) (HB : Binds K fdI P_House_init [])
    {fa cL PT : Addr} {oc dV kV doc pm ct : Value} {od an : Option Addr} {osl : Array (Option Value)} (lk : K.lookup fa = some ⟨oc, od, .func (PySem.W.fnOf "law" "law" (C8.fnArgs s_law) (C8.fnBody s_law) (C8.fnScope s_law) dV kV doc pm an (.ref cL) ct), osl⟩) (hcd : PySem.W.codeIn K (.ref cL) "law" = true) (TB : LamX.TabB base mg cL PT) :
    FnOk P w K mg base C8.CX0 8 fa (PySem.W.fnOf "law" "law" (C8.fnArgs s_law) (C8.fnBody s_law) (C8.fnScope s_law) dV kV doc pm an (.ref cL) ct) ["_law_script"] (sp_law K PT qLam) := by
  have c_is_in := ok_is_in (P := P) (w := w) (base := base) D_is_in T
  have c_is_word := ok_is_word (P := P) (w := w) (base := base) D_is_word T
  have c_is_list := ok_is_list (P := P) (w := w) (base := base) D_is_list T
  have c_names_of := ok_names_of (P := P) (w := w) (base := base) D_names_of T
  have c_row_of := ok_row_of (P := P) (w := w) (base := base) D_row_of T
  have c_is_class := ok_is_class (P := P) (w := w) (base := base) D_is_class T c_names_of c_is_word
  have c_are_fields := ok_are_fields (P := P) (w := w) (base := base) D_are_fields T c_is_word c_row_of c_is_list
  have c_is_kind_in := ok_is_kind_in (P := P) (w := w) (base := base) D_is_kind_in T c_is_word
  have c_is_method := ok_is_method (P := P) (w := w) (base := base) D_is_method T c_row_of c_is_kind_in c_is_list c_is_word
  have c_has_seen := ok_has_seen (P := P) (w := w) (base := base) D_has_seen T c_row_of
  have c_is_step := ok_is_step (P := P) (w := w) (base := base) D_is_step T c_has_seen c_is_word c_names_of c_is_in
  have c_is_handler := ok_is_handler (P := P) (w := w) (base := base) D_is_handler T c_is_in c_names_of c_is_word
  have c_check_code := ok_check_code (P := P) (w := w) (base := base) D_check_code T c_is_handler c_is_list c_is_step
  have c_check_classes := ok_check_classes (P := P) (w := w) (base := base) D_check_classes T c_check_code c_is_method c_is_list c_are_fields c_names_of c_is_class
  have c_need_house := ok_need_house (P := P) (w := w) (base := base) D_need_house T
  have c_need_name := ok_need_name (P := P) (w := w) (base := base) D_need_name T c_names_of
  have c_need_word := ok_need_word (P := P) (w := w) (base := base) D_need_word T c_is_word
  have c_need_asked := ok_need_asked (P := P) (w := w) (base := base) D_need_asked T c_need_word c_need_name c_need_house
  have c_line_of := ok_line_of (P := P) (w := w) (base := base) D_line_of T c_row_of
  have c_method_line := ok_method_line (P := P) (w := w) (base := base) D_method_line T c_line_of c_need_asked
  have c_upper_method := ok_upper_method (P := P) (w := w) (base := base) D_upper_method T c_row_of c_need_asked
  obtain ⟨fR, fdR, FR, mR, kR, bR⟩ := ok_reached (P := P) (w := w) (base := base) D_reached_from T EN c_line_of c_need_asked
  have c_House := mk_House (P := P) (w := w) (base := base) HM HF HB T c_check_classes
  have c_law_taken := ok_law_taken (P := P) (w := w) (base := base) D_law_taken T
  have c_law_pick := ok_law_pick (P := P) (w := w) (base := base) D_law_pick T c_law_taken
  have c_law_alike0 := ok_law_alike0 (P := P) (w := w) (base := base) D_law_alike T
  have c_law_alike := ok_law_alike (P := P) (w := w) (base := base) D_law_alike T c_law_alike0
  have c_law_row_of := ok_law_row_of (P := P) (w := w) (base := base) D_law_row_of T
  have c_law_tree := ok_law_tree (P := P) (w := w) (base := base) D_law_tree T c_law_pick c_law_taken
  have c_law_signs := ok_law_signs (P := P) (w := w) (base := base) D_law_signs T c_law_pick c_law_taken
  have c_law_step := ok_law_step (P := P) (w := w) (base := base) D_law_step T c_law_pick c_law_taken c_law_row_of
  have c_law_code := ok_law_code (P := P) (w := w) (base := base) D_law_code T c_law_taken c_law_pick c_law_step
  have c_law_handlers := ok_law_handlers (P := P) (w := w) (base := base) D_law_handlers T c_law_pick c_law_taken
  have c_law_bare := ok_law_bare (P := P) (w := w) (base := base) D_law_bare T c_law_taken c_law_pick c_law_signs c_law_tree
  have c_law_classes := ok_law_classes (P := P) (w := w) (base := base) D_law_classes T c_law_handlers c_law_code c_law_bare
  have c_law_wordy := ok_law_wordy (P := P) (w := w) (base := base) D_law_wordy T c_law_taken c_law_tree
  have c_law_up := ok_law_up (P := P) (w := w) (base := base) D_law_up T c_law_row_of
  have c_law_near := ok_law_near (P := P) (w := w) (base := base) D_law_near T c_law_row_of
  obtain ⟨gE, fdE, FE, bE⟩ := D_law_errorc.ex
  obtain ⟨ocE, odE, dVE, kVE, docE, pmE, anE, cdE, ctE, oslE, rfl, lkE, hcE⟩ := FE.fn.ex
  exact fn_of lk hcd sc_law (fun vs H Q E h => by obtain ⟨_, _, rfl, _⟩ := h; rfl) (fun A outer s H vs Q E hr h => ⟨_, (d_law T ER c_law_taken c_law_pick c_law_alike c_law_row_of c_law_wordy c_law_classes c_law_up c_law_near c_method_line c_upper_method c_House FR mR kR bR FE.mgf FE.kp lkE hcE bE TB hr).nox, p_law T vs H Q E h⟩)
end
theorem kit_same {K : Frag} {C : Addr} : PySem.W.kitOne K (.ref C) (.ref C) = some true := if_pos (beq_self_eq_true _)
theorem kit_ref {K : Frag} {A C : Addr} (n : A ≠ C) (h1 : PySem.W.isClsIn K C = true) (h2 : PySem.W.typeIn K (.ref C) = some (.type "type")) (h3 : PySem.W.subIn K (.ref A) (.ref C) = some false) : PySem.W.kitOne K (.ref A) (.ref C) = some false := by
  have e : ((Value.ref A == Value.ref C) = true) = False := eq_false (by rw [beq_iff_eq]; exact fun z => n (Value.ref.inj z))
  have h1' : (PySem.W.clsIn K C).isSome = true := h1
  unfold PySem.W.kitOne PySem.W.kitCls
  rw [if_neg (by rw [e]; exact id)]
  dsimp only
  rw [h1', h2, h3] <;> rfl
theorem b_House_init : ∀ (kV doc pm : Value) (an : Option Addr) (cdv ct : Value) (us : List Value), us.length = P_House_init.length → bindArgs (PySem.W.fnOf "__init__" "House.__init__" (C8.fnArgs s_House_init) (C8.fnBody s_House_init) (C8.fnScope s_House_init) .none kV doc pm an cdv ct) ⟨us, []⟩ = pure (P_House_init.zip us) := fun _ _ _ _ _ _ us hl => match us, hl with | [_, _], _ => rfl
theorem fin_mk {l : PySem.W.OpenLaw} {w : World} {K : Frag} {h : Heap} {mg : Str → Option Value} {fa aB aR aE aHouse aN fI CE fL cL PT b0 b1 b2 b3 b4 b5 b6 b7 b8 : Addr} {t0 t1 t2 t3 t4 t5 t6 t7 tfC tgC ttC : Tok} {eaB eaR eaE odI anI odL anL ddC : Option Addr} {vaB vaR vaE vsC : Array Value} {naB naR naE : Nat} {saB saR saE slI slL slC : Array (Option Value)} {ocI kVI dcI pmI cdI ctI ocL kVL dcL pmL ctL : Value} {fileC : Str} {flagsC textC : Int} {inFC : Bool}
    (X : K.In h) (G : h.Ns mainGlobals mg) (hfa : mg "law" = some (.ref fa)) (own : LamX.OwnTab K fa h)
    (D_is_in : DefB K mg "is_in" s_is_in P_is_in)
    (D_is_word : DefB K mg "is_word" s_is_word P_is_word)
    (D_is_list : DefB K mg "is_list" s_is_list P_is_list)
    (D_names_of : DefB K mg "names_of" s_names_of P_names_of)
    (D_row_of : DefB K mg "row_of" s_row_of P_row_of)
    (D_is_class : DefB K mg "is_class" s_is_class P_is_class)
    (D_are_fields : DefB K mg "are_fields" s_are_fields P_are_fields)
    (D_is_kind_in : DefB K mg "is_kind_in" s_is_kind_in P_is_kind_in)
    (D_is_method : DefB K mg "is_method" s_is_method P_is_method)
    (D_has_seen : DefB K mg "has_seen" s_has_seen P_has_seen)
    (D_is_step : DefB K mg "is_step" s_is_step P_is_step)
    (D_is_handler : DefB K mg "is_handler" s_is_handler P_is_handler)
    (D_check_code : DefB K mg "check_code" s_check_code P_check_code)
    (D_check_classes : DefB K mg "check_classes" s_check_classes P_check_classes)
    (D_need_house : DefB K mg "need_house" s_need_house P_need_house)
    (D_need_name : DefB K mg "need_name" s_need_name P_need_name)
    (D_need_word : DefB K mg "need_word" s_need_word P_need_word)
    (D_need_asked : DefB K mg "need_asked" s_need_asked P_need_asked)
    (D_line_of : DefB K mg "line_of" s_line_of P_line_of)
    (D_method_line : DefB K mg "method_line" s_method_line P_method_line)
    (D_upper_method : DefB K mg "upper_method" s_upper_method P_upper_method)
    (D_reached_from : DefB K mg "reached_from" s_reached_from P_reached_from)
    (D_law_taken : DefB K mg "_law_taken" s_law_taken P_law_taken)
    (D_law_pick : DefB K mg "_law_pick" s_law_pick P_law_pick)
    (D_law_alike : DefB K mg "_law_alike" s_law_alike P_law_alike)
    (D_law_row_of : DefB K mg "_law_row_of" s_law_row_of P_law_row_of)
    (D_law_tree : DefB K mg "_law_tree" s_law_tree P_law_tree)
    (D_law_signs : DefB K mg "_law_signs" s_law_signs P_law_signs)
    (D_law_step : DefB K mg "_law_step" s_law_step P_law_step)
    (D_law_code : DefB K mg "_law_code" s_law_code P_law_code)
    (D_law_handlers : DefB K mg "_law_handlers" s_law_handlers P_law_handlers)
    (D_law_bare : DefB K mg "_law_bare" s_law_bare P_law_bare)
    (D_law_classes : DefB K mg "_law_classes" s_law_classes P_law_classes)
    (D_law_wordy : DefB K mg "_law_wordy" s_law_wordy P_law_wordy)
    (D_law_up : DefB K mg "_law_up" s_law_up P_law_up)
    (D_law_near : DefB K mg "_law_near" s_law_near P_law_near)
    (D_law_errorc : DefB K mg "_law_errorc" s_law_errorc P_law_errorc)
    (z_isinstance : PySem.W.nsIn K mainGlobals "isinstance" = some none)
    (z_len : PySem.W.nsIn K mainGlobals "len" = some none)
    (z_all : PySem.W.nsIn K mainGlobals "all" = some none)
    (z_any : PySem.W.nsIn K mainGlobals "any" = some none)
    (z_enumerate : PySem.W.nsIn K mainGlobals "enumerate" = some none)
    (z_tuple : PySem.W.nsIn K mainGlobals "tuple" = some none)
    (z_list : PySem.W.nsIn K mainGlobals "list" = some none)
    (z_int : PySem.W.nsIn K mainGlobals "int" = some none)
    (z_range : PySem.W.nsIn K mainGlobals "range" = some none)
    (z_str : PySem.W.nsIn K mainGlobals "str" = some none)
    (z_bool : PySem.W.nsIn K mainGlobals "bool" = some none)
    (g_LETTERS : PySem.W.nsIn K mainGlobals "LETTERS" = some (some (.str "abcdefghijklmnopqrstuvwxyz" t0)))
    (g_MOST_CLASSES : PySem.W.nsIn K mainGlobals "MOST_CLASSES" = some (some (.int 8 t1)))
    (g_MOST_PARTS : PySem.W.nsIn K mainGlobals "MOST_PARTS" = some (some (.int 4 t2)))
    (g_MOST_STEPS : PySem.W.nsIn K mainGlobals "MOST_STEPS" = some (some (.int 20 t3)))
    (g_MOST_INS : PySem.W.nsIn K mainGlobals "MOST_INS" = some (some (.int 3 t4)))
    (g_LOCALS : PySem.W.nsIn K mainGlobals "LOCALS" = some (some (.int 4 t5)))
    (g_TOP : PySem.W.nsIn K mainGlobals "TOP" = some (some (.str "top" t6)))
    (g_NUM : PySem.W.nsIn K mainGlobals "NUM" = some (some (.str "num" t7)))
    (g_BARRED : PySem.W.nsIn K mainGlobals "BARRED" = some (some (.ref aB)))
    (l_BARRED : K.lookup aB = some ⟨.type "tuple", eaB, .seq vaB naB, saB⟩)
    (s_BARRED : vaB.size ≤ 100000)
    (v_BARRED : Vals (barredL.map V.str) vaB.toList)
    (g_BARE : PySem.W.nsIn K mainGlobals "BARE" = some (some (.ref aR)))
    (l_BARE : K.lookup aR = some ⟨.type "tuple", eaR, .seq vaR naR, saR⟩)
    (s_BARE : vaR.size ≤ 100000)
    (v_BARE : Vals (bareL.map V.str) vaR.toList)
    (g_ENDS : PySem.W.nsIn K mainGlobals "ENDS" = some (some (.ref aE)))
    (l_ENDS : K.lookup aE = some ⟨.type "tuple", eaE, .seq vaE naE, saE⟩)
    (s_ENDS : vaE.size ≤ 100000)
    (v_ENDS : Vals (endsL.map V.str) vaE.toList)
    (h_g : PySem.W.nsIn K mainGlobals "House" = some (some (.ref aHouse)))
    (h_pg : PySem.W.plainGet K aHouse Str.empty = true)
    (h_hd : PySem.W.hasDictIn K aHouse = true)
    (h_po : PySem.W.plainOver K aHouse = true)
    (h_sa : PySem.W.findIn K (.ref aHouse) "__setattr__" = some (some (.builtin "object.__setattr__")))
    (h_ha : PySem.W.findIn K (.ref aHouse) "__class__" = some (some (.builtin "object.__class__")))
    (h_hn : PySem.W.specialIn K (.builtin "object.__class__") "__get__" = some (some (.builtin "getset_descriptor.__get__")))
    (h_ht : PySem.W.takesIn K (.builtin "object.__class__") = some true)
    (h_hm : PySem.W.mroIn K aHouse (.type "object") = some true)
    (h_tn : PySem.W.findIn K (.ref aHouse) "told" = some none)
    (h_mk : PySem.W.makesIn K aHouse = true)
    (h_in : PySem.W.findIn K (.ref aHouse) "__init__" = some (some (.ref fI)))
    (h_if : PySem.W.isFn K (.ref fI) = true)
    (h_kp : PySem.W.keepIn K (.ref aHouse) = true)
    (h_lI : K.lookup fI = some ⟨ocI, odI, .func (PySem.W.fnOf "__init__" "House.__init__" (C8.fnArgs s_House_init) (C8.fnBody s_House_init) (C8.fnScope s_House_init) .none kVI dcI pmI anI cdI ctI), slI⟩)
    (h_cI : PySem.W.codeIn K cdI "House.__init__" = true)
    (n_g : PySem.W.nsIn K mainGlobals "NotOwn" = some (some (.ref aN)))
    (n_x : PySem.W.excIn K aN [.type "ValueError", .type "Exception", .type "BaseException", .type "object"] "ValueError.__new__" = true)
    (n_k : PySem.W.keepIn K (.ref aN) = true)
    (n_b : PySem.W.subIn K (.ref aN) (.type "BaseException") = some true)
    (n_t : PySem.W.typeIn K (.ref aN) = some (.type "type"))
    (n_hg : PySem.W.findIn K (.ref aN) "__getattribute__" = some (some (.builtin "BaseException.__getattribute__")))
    (n_hk : PySem.W.findIn K (.ref aN) "__getattr__" = some none)
    (n_hd : PySem.W.hasDictIn K aN = true)
    (n_ha : PySem.W.findIn K (.ref aN) "__class__" = some (some (.builtin "object.__class__")))
    (n_hm : PySem.W.mroIn K aN (.type "object") = some true)
    (ce_g : PySem.W.nsIn K mainGlobals "ClassError" = some (some (.ref CE)))
    (ce_b : PySem.W.subIn K (.ref CE) (.type "BaseException") = some true)
    (ce_d : PySem.W.hasDictIn K CE = true)
    (ce_t : PySem.W.typeIn K (.ref CE) = some (.type "type"))
    (ce_s : PySem.W.subIn K (.ref aN) (.ref CE) = some true)
    (e_g0 : PySem.W.nsIn K mainGlobals "NoHouse" = some (some (.ref b0)))
    (e_n0 : aN ≠ b0)
    (e_c0 : PySem.W.isClsIn K b0 = true)
    (e_t0 : PySem.W.typeIn K (.ref b0) = some (.type "type"))
    (e_s0 : PySem.W.subIn K (.ref aN) (.ref b0) = some false)
    (e_g1 : PySem.W.nsIn K mainGlobals "BadName" = some (some (.ref b1)))
    (e_n1 : aN ≠ b1)
    (e_c1 : PySem.W.isClsIn K b1 = true)
    (e_t1 : PySem.W.typeIn K (.ref b1) = some (.type "type"))
    (e_s1 : PySem.W.subIn K (.ref aN) (.ref b1) = some false)
    (e_g2 : PySem.W.nsIn K mainGlobals "BadWord" = some (some (.ref b2)))
    (e_n2 : aN ≠ b2)
    (e_c2 : PySem.W.isClsIn K b2 = true)
    (e_t2 : PySem.W.typeIn K (.ref b2) = some (.type "type"))
    (e_s2 : PySem.W.subIn K (.ref aN) (.ref b2) = some false)
    (e_g3 : PySem.W.nsIn K mainGlobals "BadSlot" = some (some (.ref b3)))
    (e_n3 : aN ≠ b3)
    (e_c3 : PySem.W.isClsIn K b3 = true)
    (e_t3 : PySem.W.typeIn K (.ref b3) = some (.type "type"))
    (e_s3 : PySem.W.subIn K (.ref aN) (.ref b3) = some false)
    (e_g4 : PySem.W.nsIn K mainGlobals "BadChoice" = some (some (.ref b4)))
    (e_n4 : aN ≠ b4)
    (e_c4 : PySem.W.isClsIn K b4 = true)
    (e_t4 : PySem.W.typeIn K (.ref b4) = some (.type "type"))
    (e_s4 : PySem.W.subIn K (.ref aN) (.ref b4) = some false)
    (e_g5 : PySem.W.nsIn K mainGlobals "BadKinds" = some (some (.ref b5)))
    (e_n5 : aN ≠ b5)
    (e_c5 : PySem.W.isClsIn K b5 = true)
    (e_t5 : PySem.W.typeIn K (.ref b5) = some (.type "type"))
    (e_s5 : PySem.W.subIn K (.ref aN) (.ref b5) = some false)
    (e_g6 : PySem.W.nsIn K mainGlobals "NotOwn" = some (some (.ref b6)))
    (e_n6 : b6 = aN)
    (e_g7 : PySem.W.nsIn K mainGlobals "BadWords" = some (some (.ref b7)))
    (e_n7 : aN ≠ b7)
    (e_c7 : PySem.W.isClsIn K b7 = true)
    (e_t7 : PySem.W.typeIn K (.ref b7) = some (.type "type"))
    (e_s7 : PySem.W.subIn K (.ref aN) (.ref b7) = some false)
    (e_g8 : PySem.W.nsIn K mainGlobals "BadNames" = some (some (.ref b8)))
    (e_n8 : aN ≠ b8)
    (e_c8 : PySem.W.isClsIn K b8 = true)
    (e_t8 : PySem.W.typeIn K (.ref b8) = some (.type "type"))
    (e_s8 : PySem.W.subIn K (.ref aN) (.ref b8) = some false)
    (l_g : PySem.W.nsIn K mainGlobals "law" = some (some (.ref fL)))
    (l_l : K.lookup fL = some ⟨ocL, odL, .func (PySem.W.fnOf "law" "law" (C8.fnArgs s_law) (C8.fnBody s_law) (C8.fnScope s_law) .none kVL dcL pmL anL (.ref cL) ctL), slL⟩)
    (l_c : PySem.W.codeIn K (.ref cL) "law" = true)
    (c_l : K.lookup cL = some ⟨.type "code", ddC, .fields vsC, slC⟩)
    (c_11 : vsC[11]? = some (.ref PT))
    (c_11d : vsC.getD 11 .none = .ref PT)
    (c_18 : vsC.getD 18 .none = .str fileC tfC)
    (c_7 : vsC.getD 7 .none = .int flagsC tgC)
    (c_9 : vsC.getD 9 .none = .bool inFC)
    (c_10 : vsC.getD 10 .none = .int textC ttC)
    (c_ne : cL ≠ PT)
    (c_n : K.lookup PT = none) : LamX.LawAtS l w K C8.CX0 8 63 "_law_script" mg fa h := by
  have e := hfa.symm.trans (PySem.W.mg_of X G l_g)
  cases e
  have T : Txt K mg aB aR aE aHouse :=
    { z_isinstance := PySem.W.mg_none_of X G z_isinstance, z_len := PySem.W.mg_none_of X G z_len, z_all := PySem.W.mg_none_of X G z_all, z_any := PySem.W.mg_none_of X G z_any, z_enumerate := PySem.W.mg_none_of X G z_enumerate, z_tuple := PySem.W.mg_none_of X G z_tuple, z_list := PySem.W.mg_none_of X G z_list, z_int := PySem.W.mg_none_of X G z_int, z_range := PySem.W.mg_none_of X G z_range, z_str := PySem.W.mg_none_of X G z_str, z_bool := PySem.W.mg_none_of X G z_bool, c_LETTERS := ⟨_, PySem.W.mg_of X G g_LETTERS, ⟨_, rfl⟩⟩, c_MOST_CLASSES := ⟨_, PySem.W.mg_of X G g_MOST_CLASSES, ⟨_, rfl⟩⟩, c_MOST_PARTS := ⟨_, PySem.W.mg_of X G g_MOST_PARTS, ⟨_, rfl⟩⟩, c_MOST_STEPS := ⟨_, PySem.W.mg_of X G g_MOST_STEPS, ⟨_, rfl⟩⟩, c_MOST_INS := ⟨_, PySem.W.mg_of X G g_MOST_INS, ⟨_, rfl⟩⟩, c_LOCALS := ⟨_, PySem.W.mg_of X G g_LOCALS, ⟨_, rfl⟩⟩, c_TOP := ⟨_, PySem.W.mg_of X G g_TOP, ⟨_, rfl⟩⟩, c_NUM := ⟨_, PySem.W.mg_of X G g_NUM, ⟨_, rfl⟩⟩, c_BARRED := ⟨_, PySem.W.mg_of X G g_BARRED, rfl⟩, d_BARRED := td_tuple l_BARRED s_BARRED v_BARRED, c_BARE := ⟨_, PySem.W.mg_of X G g_BARE, rfl⟩, d_BARE := td_tuple l_BARE s_BARE v_BARE, c_ENDS := ⟨_, PySem.W.mg_of X G g_ENDS, rfl⟩, d_ENDS := td_tuple l_ENDS s_ENDS v_ENDS,
      c_House := ⟨_, PySem.W.mg_of X G h_g, rfl⟩, insC := ⟨⟨h_pg, h_hd, h_po, h_sa⟩, h_ha, h_hn, h_ht, h_hm, kit_same⟩, told := h_tn }
  have EN : ExN K mg "NotOwn" aN := ⟨PySem.W.mg_of X G n_g, n_x, n_k, n_b, n_t⟩
  have ER : ErrT K mg aN := ⟨⟨n_hg, n_hk, n_b, n_hd, n_ha, h_hn, h_ht, n_hm⟩, ⟨CE, PySem.W.mg_of X G ce_g, PySem.W.exm_ref ce_b ce_d ce_t ce_s⟩, ⟨b0, PySem.W.mg_of X G e_g0, kit_ref e_n0 e_c0 e_t0 e_s0⟩, ⟨b1, PySem.W.mg_of X G e_g1, kit_ref e_n1 e_c1 e_t1 e_s1⟩, ⟨b2, PySem.W.mg_of X G e_g2, kit_ref e_n2 e_c2 e_t2 e_s2⟩, ⟨b3, PySem.W.mg_of X G e_g3, kit_ref e_n3 e_c3 e_t3 e_s3⟩, ⟨b4, PySem.W.mg_of X G e_g4, kit_ref e_n4 e_c4 e_t4 e_s4⟩, ⟨b5, PySem.W.mg_of X G e_g5, kit_ref e_n5 e_c5 e_t5 e_s5⟩, ⟨b6, PySem.W.mg_of X G e_g6, by rw [e_n6]; exact kit_same⟩, ⟨b7, PySem.W.mg_of X G e_g7, kit_ref e_n7 e_c7 e_t7 e_s7⟩, ⟨b8, PySem.W.mg_of X G e_g8, kit_ref e_n8 e_c8 e_t8 e_s8⟩⟩
  have FI : C8.Fun K "__init__" "House.__init__" s_House_init fI _ := ⟨_, _, _, _, _, _, _, _, _, _, rfl, h_lI, h_cI⟩
  refine ⟨PySem.W.fnOf "law" "law" (C8.fnArgs s_law) (C8.fnBody s_law) (C8.fnScope s_law) .none kVL dcL pmL anL (.ref cL) ctL, [(cL, PT)], sp_law K PT qLam, ?_, ?_, ?_, fun s v => .of_eq rfl, ?_, ?_⟩
  · intro p hp
    rw [List.mem_singleton.mp hp]
    exact own cL PT _ _ _ _ _ _ l_l rfl rfl c_l c_11
  · intro p hp
    rw [List.mem_singleton.mp hp]
    exact c_n
  · intro p hp
    rw [List.mem_singleton.mp hp]
    exact ⟨_, vsC, fileC, tfC, flagsC, tgC, inFC, textC, ttC, X _ _ c_l, rfl, rfl, c_11, c_11d, c_18, c_7, c_9, c_10, c_ne⟩
  · intro H a ns hl hb hT hS
    refine ⟨a, ns, rfl, hS, fun p hp => ?_, fun _ => rfl⟩
    rw [List.mem_singleton.mp hp]
    exact LamX.TabS.nil (hT (cL, PT) (List.mem_singleton.mpr rfl))
  · intro base KB GB TB
    exact chain D_is_in D_is_word D_is_list D_names_of D_row_of D_is_class D_are_fields D_is_kind_in D_is_method D_has_seen D_is_step D_is_handler D_check_code D_check_classes D_need_house D_need_name D_need_word D_need_asked D_line_of D_method_line D_upper_method D_reached_from D_law_taken D_law_pick D_law_alike D_law_row_of D_law_tree D_law_signs D_law_step D_law_code D_law_handlers D_law_bare D_law_classes D_law_wordy D_law_up D_law_near D_law_errorc T EN ER ⟨h_mk, h_in, h_if, h_kp⟩ FI (FI.binds rfl b_House_init) l_l l_c (TB (cL, PT) (List.mem_singleton.mpr rfl))
end K49
open PySem PySem.W PyProof.Rows
set_option maxHeartbeats 0
theorem PySem.Challenge.cw_classhouse_k49_whole_upper_methods_holds : PySem.Challenge.rw_classhouse_k49_whole_upper_methods.Holds :=
  K49hd (by
    refine LamX.walk_ofOwn (l := PySem.Challenge.rw_classhouse_k49_whole_upper_methods) (n := 63) (k := 8) (x := "_law_script") (CX := fun _ => C8.CX0) rfl (by decide) rfl ⟨rfl, by decide, by decide⟩ ?rec (fun w h Y => PySem.W.km_in_of Y) ?F (fun _ _ _ _ _ z => z)
    case rec => first | rfl | decide +kernel
    case F =>
      intro w mg fa h Y KX G hmg own
      refine' K49.fin_mk KX G hmg own ?D_is_in ?D_is_word ?D_is_list ?D_names_of ?D_row_of ?D_is_class ?D_are_fields ?D_is_kind_in ?D_is_method ?D_has_seen ?D_is_step ?D_is_handler ?D_check_code ?D_check_classes ?D_need_house ?D_need_name ?D_need_word ?D_need_asked ?D_line_of ?D_method_line ?D_upper_method ?D_reached_from ?D_law_taken ?D_law_pick ?D_law_alike ?D_law_row_of ?D_law_tree ?D_law_signs ?D_law_step ?D_law_code ?D_law_handlers ?D_law_bare ?D_law_classes ?D_law_wordy ?D_law_up ?D_law_near ?D_law_errorc ?z_isinstance ?z_len ?z_all ?z_any ?z_enumerate ?z_tuple ?z_list ?z_int ?z_range ?z_str ?z_bool ?g_LETTERS ?g_MOST_CLASSES ?g_MOST_PARTS ?g_MOST_STEPS ?g_MOST_INS ?g_LOCALS ?g_TOP ?g_NUM ?g_BARRED ?l_BARRED ?s_BARRED ?v_BARRED ?g_BARE ?l_BARE ?s_BARE ?v_BARE ?g_ENDS ?l_ENDS ?s_ENDS ?v_ENDS ?h_g ?h_pg ?h_hd ?h_po ?h_sa ?h_ha ?h_hn ?h_ht ?h_hm ?h_tn ?h_mk ?h_in ?h_if ?h_kp ?h_lI ?h_cI ?n_g ?n_x ?n_k ?n_b ?n_t ?n_hg ?n_hk ?n_hd ?n_ha ?n_hm ?ce_g ?ce_b ?ce_d ?ce_t ?ce_s ?e_g0 ?e_n0 ?e_c0 ?e_t0 ?e_s0 ?e_g1 ?e_n1 ?e_c1 ?e_t1 ?e_s1 ?e_g2 ?e_n2 ?e_c2 ?e_t2 ?e_s2 ?e_g3 ?e_n3 ?e_c3 ?e_t3 ?e_s3 ?e_g4 ?e_n4 ?e_c4 ?e_t4 ?e_s4 ?e_g5 ?e_n5 ?e_c5 ?e_t5 ?e_s5 ?e_g6 ?e_n6 ?e_g7 ?e_n7 ?e_c7 ?e_t7 ?e_s7 ?e_g8 ?e_n8 ?e_c8 ?e_t8 ?e_s8 ?l_g ?l_l ?l_c ?c_l ?c_11 ?c_11d ?c_18 ?c_7 ?c_9 ?c_10 ?c_ne ?c_n
      (case D_is_in => refine' K49.defB_mk KX G ?a ?l ?c ?k K49.b_is_in; (case a => k_is); (case l => k_is); (case c => k_is); (case k => k_is))
      (case D_is_word => refine' K49.defB_mk KX G ?a ?l ?c ?k K49.b_is_word; (case a => k_is); (case l => k_is); (case c => k_is); (case k => k_is))
      (case D_is_list => refine' K49.defB_mk KX G ?a ?l ?c ?k K49.b_is_list; (case a => k_is); (case l => k_is); (case c => k_is); (case k => k_is))
      (case D_names_of => refine' K49.defB_mk KX G ?a ?l ?c ?k K49.b_names_of; (case a => k_is); (case l => k_is); (case c => k_is); (case k => k_is))
      (case D_row_of => refine' K49.defB_mk KX G ?a ?l ?c ?k K49.b_row_of; (case a => k_is); (case l => k_is); (case c => k_is); (case k => k_is))
      (case D_is_class => refine' K49.defB_mk KX G ?a ?l ?c ?k K49.b_is_class; (case a => k_is); (case l => k_is); (case c => k_is); (case k => k_is))
      (case D_are_fields => refine' K49.defB_mk KX G ?a ?l ?c ?k K49.b_are_fields; (case a => k_is); (case l => k_is); (case c => k_is); (case k => k_is))
      (case D_is_kind_in => refine' K49.defB_mk KX G ?a ?l ?c ?k K49.b_is_kind_in; (case a => k_is); (case l => k_is); (case c => k_is); (case k => k_is))
      (case D_is_method => refine' K49.defB_mk KX G ?a ?l ?c ?k K49.b_is_method; (case a => k_is); (case l => k_is); (case c => k_is); (case k => k_is))
      (case D_has_seen => refine' K49.defB_mk KX G ?a ?l ?c ?k K49.b_has_seen; (case a => k_is); (case l => k_is); (case c => k_is); (case k => k_is))
      (case D_is_step => refine' K49.defB_mk KX G ?a ?l ?c ?k K49.b_is_step; (case a => k_is); (case l => k_is); (case c => k_is); (case k => k_is))
      (case D_is_handler => refine' K49.defB_mk KX G ?a ?l ?c ?k K49.b_is_handler; (case a => k_is); (case l => k_is); (case c => k_is); (case k => k_is))
      (case D_check_code => refine' K49.defB_mk KX G ?a ?l ?c ?k K49.b_check_code; (case a => k_is); (case l => k_is); (case c => k_is); (case k => k_is))
      (case D_check_classes => refine' K49.defB_mk KX G ?a ?l ?c ?k K49.b_check_classes; (case a => k_is); (case l => k_is); (case c => k_is); (case k => k_is))
      (case D_need_house => refine' K49.defB_mk KX G ?a ?l ?c ?k K49.b_need_house; (case a => k_is); (case l => k_is); (case c => k_is); (case k => k_is))
      (case D_need_name => refine' K49.defB_mk KX G ?a ?l ?c ?k K49.b_need_name; (case a => k_is); (case l => k_is); (case c => k_is); (case k => k_is))
      (case D_need_word => refine' K49.defB_mk KX G ?a ?l ?c ?k K49.b_need_word; (case a => k_is); (case l => k_is); (case c => k_is); (case k => k_is))
      (case D_need_asked => refine' K49.defB_mk KX G ?a ?l ?c ?k K49.b_need_asked; (case a => k_is); (case l => k_is); (case c => k_is); (case k => k_is))
      (case D_line_of => refine' K49.defB_mk KX G ?a ?l ?c ?k K49.b_line_of; (case a => k_is); (case l => k_is); (case c => k_is); (case k => k_is))
      (case D_method_line => refine' K49.defB_mk KX G ?a ?l ?c ?k K49.b_method_line; (case a => k_is); (case l => k_is); (case c => k_is); (case k => k_is))
      (case D_upper_method => refine' K49.defB_mk KX G ?a ?l ?c ?k K49.b_upper_method; (case a => k_is); (case l => k_is); (case c => k_is); (case k => k_is))
      (case D_reached_from => refine' K49.defB_mk KX G ?a ?l ?c ?k K49.b_reached_from; (case a => k_is); (case l => k_is); (case c => k_is); (case k => k_is))
      (case D_law_taken => refine' K49.defB_mk KX G ?a ?l ?c ?k K49.b_law_taken; (case a => k_is); (case l => k_is); (case c => k_is); (case k => k_is))
      (case D_law_pick => refine' K49.defB_mk KX G ?a ?l ?c ?k K49.b_law_pick; (case a => k_is); (case l => k_is); (case c => k_is); (case k => k_is))
      (case D_law_alike => refine' K49.defB_mk KX G ?a ?l ?c ?k K49.b_law_alike; (case a => k_is); (case l => k_is); (case c => k_is); (case k => k_is))
      (case D_law_row_of => refine' K49.defB_mk KX G ?a ?l ?c ?k K49.b_law_row_of; (case a => k_is); (case l => k_is); (case c => k_is); (case k => k_is))
      (case D_law_tree => refine' K49.defB_mk KX G ?a ?l ?c ?k K49.b_law_tree; (case a => k_is); (case l => k_is); (case c => k_is); (case k => k_is))
      (case D_law_signs => refine' K49.defB_mk KX G ?a ?l ?c ?k K49.b_law_signs; (case a => k_is); (case l => k_is); (case c => k_is); (case k => k_is))
      (case D_law_step => refine' K49.defB_mk KX G ?a ?l ?c ?k K49.b_law_step; (case a => k_is); (case l => k_is); (case c => k_is); (case k => k_is))
      (case D_law_code => refine' K49.defB_mk KX G ?a ?l ?c ?k K49.b_law_code; (case a => k_is); (case l => k_is); (case c => k_is); (case k => k_is))
      (case D_law_handlers => refine' K49.defB_mk KX G ?a ?l ?c ?k K49.b_law_handlers; (case a => k_is); (case l => k_is); (case c => k_is); (case k => k_is))
      (case D_law_bare => refine' K49.defB_mk KX G ?a ?l ?c ?k K49.b_law_bare; (case a => k_is); (case l => k_is); (case c => k_is); (case k => k_is))
      (case D_law_classes => refine' K49.defB_mk KX G ?a ?l ?c ?k K49.b_law_classes; (case a => k_is); (case l => k_is); (case c => k_is); (case k => k_is))
      (case D_law_wordy => refine' K49.defB_mk KX G ?a ?l ?c ?k K49.b_law_wordy; (case a => k_is); (case l => k_is); (case c => k_is); (case k => k_is))
      (case D_law_up => refine' K49.defB_mk KX G ?a ?l ?c ?k K49.b_law_up; (case a => k_is); (case l => k_is); (case c => k_is); (case k => k_is))
      (case D_law_near => refine' K49.defB_mk KX G ?a ?l ?c ?k K49.b_law_near; (case a => k_is); (case l => k_is); (case c => k_is); (case k => k_is))
      (case D_law_errorc => refine' K49.defB_mk KX G ?a ?l ?c ?k K49.b_law_errorc; (case a => k_is); (case l => k_is); (case c => k_is); (case k => k_is))
      (case z_isinstance => k_is)
      (case z_len => k_is)
      (case z_all => k_is)
      (case z_any => k_is)
      (case z_enumerate => k_is)
      (case z_tuple => k_is)
      (case z_list => k_is)
      (case z_int => k_is)
      (case z_range => k_is)
      (case z_str => k_is)
      (case z_bool => k_is)
      (case g_LETTERS => k_is)
      (case g_MOST_CLASSES => k_is)
      (case g_MOST_PARTS => k_is)
      (case g_MOST_STEPS => k_is)
      (case g_MOST_INS => k_is)
      (case g_LOCALS => k_is)
      (case g_TOP => k_is)
      (case g_NUM => k_is)
      (case g_BARRED => k_is)
      (case l_BARRED => k_is)
      (case s_BARRED => decide)
      (case v_BARRED => (repeat (first | exact .nil | refine .cons ⟨_, rfl⟩ ?_)))
      (case g_BARE => k_is)
      (case l_BARE => k_is)
      (case s_BARE => decide)
      (case v_BARE => (repeat (first | exact .nil | refine .cons ⟨_, rfl⟩ ?_)))
      (case g_ENDS => k_is)
      (case l_ENDS => k_is)
      (case s_ENDS => decide)
      (case v_ENDS => (repeat (first | exact .nil | refine .cons ⟨_, rfl⟩ ?_)))
      (case h_g => k_is)
      (case h_pg => k_is)
      (case h_hd => k_is)
      (case h_po => k_is)
      (case h_sa => k_is)
      (case h_ha => k_is)
      (case h_hn => k_is)
      (case h_ht => k_is)
      (case h_hm => k_is)
      (case h_tn => k_is)
      (case h_mk => k_is)
      (case h_in => k_is)
      (case h_if => k_is)
      (case h_kp => k_is)
      (case h_lI => k_is)
      (case h_cI => k_is)
      (case n_g => k_is)
      (case n_x => k_exc)
      (case n_k => k_is)
      (case n_b => k_is)
      (case n_t => k_is)
      (case n_hg => k_is)
      (case n_hk => k_is)
      (case n_hd => k_is)
      (case n_ha => k_is)
      (case n_hm => k_is)
      (case ce_g => k_is)
      (case ce_b => k_is)
      (case ce_d => k_is)
      (case ce_t => k_is)
      (case ce_s => k_is)
      (case e_g0 => k_is)
      (case e_n0 => decide)
      (case e_c0 => k_is)
      (case e_t0 => k_is)
      (case e_s0 => k_is)
      (case e_g1 => k_is)
      (case e_n1 => decide)
      (case e_c1 => k_is)
      (case e_t1 => k_is)
      (case e_s1 => k_is)
      (case e_g2 => k_is)
      (case e_n2 => decide)
      (case e_c2 => k_is)
      (case e_t2 => k_is)
      (case e_s2 => k_is)
      (case e_g3 => k_is)
      (case e_n3 => decide)
      (case e_c3 => k_is)
      (case e_t3 => k_is)
      (case e_s3 => k_is)
      (case e_g4 => k_is)
      (case e_n4 => decide)
      (case e_c4 => k_is)
      (case e_t4 => k_is)
      (case e_s4 => k_is)
      (case e_g5 => k_is)
      (case e_n5 => decide)
      (case e_c5 => k_is)
      (case e_t5 => k_is)
      (case e_s5 => k_is)
      (case e_g6 => k_is)
      (case e_n6 => first | rfl | with_unfolding_all rfl)
      (case e_g7 => k_is)
      (case e_n7 => decide)
      (case e_c7 => k_is)
      (case e_t7 => k_is)
      (case e_s7 => k_is)
      (case e_g8 => k_is)
      (case e_n8 => decide)
      (case e_c8 => k_is)
      (case e_t8 => k_is)
      (case e_s8 => k_is)
      (case l_g => k_is)
      (case l_l => k_is)
      (case l_c => k_is)
      (case c_l => k_is)
      (case c_11 => first | rfl | with_unfolding_all rfl)
      (case c_11d => first | rfl | with_unfolding_all rfl)
      (case c_18 => first | rfl | with_unfolding_all rfl)
      (case c_7 => first | rfl | with_unfolding_all rfl)
      (case c_9 => first | rfl | with_unfolding_all rfl)
      (case c_10 => first | rfl | with_unfolding_all rfl)
      (case c_ne => decide)
      (case c_n => first | kernel_rfl | rfl | with_unfolding_all rfl))
